import PyProof.Rows.All
import Wide.All
import OpenK.AllK
import Wide.FinOn
import KE.KStateDown
import HandS.Head0
import HandS.Head1
import HandS.Head2
import Open.Seg
import Open.Tree
import Wide.Once
import PySem.Challenge.RW_lapseeds_k01_errors
import KE.DataCmp
import Lean
import HandS.ForMost
import HandS.Exc
import HandS.Defaults
import HandS.Star
import HandS.ClsMeth
import HandS.IsInst
import HandS.TupAny
import HandS.Style
import HandS.OwnEq
import HandS.HeadEnd
import HandS.HeadHook1
import HandS.HeadHook2
import HandS.HeadNt
import KE.GoesEnum
import KE.KFmtOwn
import HandS.Walk
import HandS.Codes
import KE.KOpsOwn
import KE.KCallOwn
import PyProof.ListMulAny
import HandS.TupMul
import HandS.HeadHook3
import HandS.Lambda
import HandS.ExcValue
import HandS.WordsExc
import HandS.Wide
import HandS.Text
import HandS.Deep
import HandS.SortInts
import HandS.Comp
import HandS.Iter
import HandS.More
import HandS.RaiseMore
import HandS.Zip
import KE.GoesZip
import HandS.MakeKwOnly
import HandS.Strs
import HandS.FStr
import HandS.Replace
import HandS.Dict
import HandS.ExcInit
import KE.KExcIs
import HandS.ExcOwn
import HandS.EndTab
import KE.KNestM
import PyProof.FactsAll.int_2
import PyProof.FactsAll.int_3
import KE.KSuper
import PyProof.RulesMatch
import PyProof.Rows.StrRules
import HandS.TupLe
import HandS.Property
import HandS.SetFor
import PyProof.StrOps2
import PyProof.FactsAll.list
import PyProof.EqKinds
import PyProof.P3In
import PyProof.EqAt
import HandS.ExcInitHot
import HandS.Conv
import KE.KTupSum
import PyProof.StrLawsIn
import PyProof.P3Eq
import PyProof.Rows.StrLawsPart
set_option Elab.async false
set_option linter.all false
set_option maxRecDepth 100000
noncomputable section
namespace HX
open PySem PySem.W PySem.Calls PyProof.Rows HandSHeadRun

section
variable (st : SharedT → Thread → Option (SharedT × Thread)) (n0 : Nat) (ann : Option Value)
def segF : Nat → SharedT → Thread → Option (Flow × SharedT × Code × Pos)
  | 0, _, _ => none
  | m + 1, s, t => match endAt 1 t with
    | some f => some (f, s, t.code, t.pos)
    | none => match stepOk n0 ann t with
      | false => none
      | true => match st s t with
        | some (s', t') => frS s' fun s' => segF m s' t'
        | none => none
def preF : Nat → SharedT → Thread → Option (SharedT × Thread)
  | 0, s, t => some (s, t)
  | m + 1, s, t => match through t with
    | true => none
    | false => match stepOk n0 ann t with
      | false => none
      | true => match st s t with
        | some (s', t') => frS s' fun s' => preF m s' t'
        | none => none
end
theorem segF_ok {tb : String → Option Builtin} {p : Program} {w : World} {n0 : Nat} {ann : Option Value} : ∀ {m : Nat} {s s' : SharedT} {t : Thread} {f : Flow} {c : Code} {q : Pos}, segF (stepT (denote tb) p w) n0 ann m s t = some (f, s', c, q) → segRun tb p w n0 ann 1 m s.abs t = some (f, s'.abs, c, q)
  | 0, _, _, _, _, _, _, h => by cases h
  | m + 1, s, s', t, f, c, q, h => by
    unfold segF at h
    unfold segRun
    cases he : endAt 1 t with
    | some x => rw [he] at h; cases h; rfl
    | none =>
      rw [he] at h
      cases hk : stepOk n0 ann t with
      | false => rw [hk] at h; cases h
      | true =>
        rw [hk] at h
        cases hs : stepT (denote tb) p w s t with
        | none => rw [hs] at h; cases h
        | some r =>
          obtain ⟨s2, t2⟩ := r
          rw [hs] at h
          have h3 : (frS s2 fun s' => segF (stepT (denote tb) p w) n0 ann m s' t2) = some (f, s', c, q) := h
          rw [frS_eq] at h3
          rw [stepT_spec hs]
          exact segF_ok h3
theorem preF_ok {tb : String → Option Builtin} {p : Program} {w : World} {n0 : Nat} {ann : Option Value} : ∀ {m : Nat} {s s' : SharedT} {t t' : Thread}, preF (stepT (denote tb) p w) n0 ann m s t = some (s', t') → topGo tb p w n0 ann m s.abs t = some (s'.abs, t')
  | 0, _, _, _, _, h => by cases h; rfl
  | m + 1, s, s', t, t', h => by
    unfold preF at h
    unfold topGo
    cases ht : through t with
    | true => rw [ht] at h; cases h
    | false =>
      rw [ht] at h
      cases hk : stepOk n0 ann t with
      | false => rw [hk] at h; cases h
      | true =>
        rw [hk] at h
        cases hs : stepT (denote tb) p w s t with
        | none => rw [hs] at h; cases h
        | some r =>
          obtain ⟨s2, t2⟩ := r
          rw [hs] at h
          have h3 : (frS s2 fun s' => preF (stepT (denote tb) p w) n0 ann m s' t2) = some (s', t') := h
          rw [frS_eq] at h3
          show (match step (denote tb) p w s.abs t with
            | .go s' t' => topGo tb p w n0 ann m s' t'
            | .halt _ _ => none) = some (s'.abs, t')
          rw [stepT_spec hs]
          exact preF_ok h3
def execsQ : List Stmt → Env → Sem Flow := PySem.W.Fast.tw12563942051412417395
theorem execsQ_eq : @execs = execsQ := PySem.W.Fast.te12563942051412417395
def startQ : List Stmt → Env → Sem Unit := PySem.W.Fast.tw1066825118222455980
theorem startQ_eq : @blockStart = startQ := PySem.W.Fast.te1066825118222455980
abbrev B1 : List Frame := [topFrame ⟨0, 0, 0, 0⟩]
def pcs (l : List Stmt) (env : Env) (c : Code) (p : Pos) : Thread := ⟨(execsQ l env).wrap doneF deadEnd id id, c, p, B1⟩
def blk (b : List Stmt) (env : Env) (c : Code) (p : Pos) : Thread := ⟨(startQ b env).wrap (fun _ => doneF .next) deadEnd id id, c, p, B1⟩
def ANN : Option Value := some (.ref 6)
theorem ann0_eq (w : World) : bootAnn w = ANN := by
  show (boot_heap w.params).nsMap mainGlobals "__annotations__" = ANN
  kernel_rfl
theorem size0 (w : World) : (boot_heap w.params).objs.size = 11 := by kernel_rfl
def bootTree (P : Params) : PySem.W.BT := match putAll (boot_heap P).objs.toList .nil 0 with
  | some (t, _) => t
  | none => .nil
theorem bootTree_ok (P : Params) : putAll (boot_heap P).objs.toList .nil 0 = some (bootTree P, 11) := by kernel_rfl
def S0 (w : World) (os : OsState) : SharedT := ⟨bootTree w.params, 11, (boot_heap w.params).life, #[], boot_drawn, boot_toks, os⟩
theorem S0_abs (w : World) (os : OsState) : (S0 w os).abs = ⟨boot_heap w.params, #[], boot_drawn, boot_toks, os⟩ := by
  show (⟨absHeap (bootTree w.params) 11 (boot_heap w.params).life, #[], boot_drawn, boot_toks, os⟩ : Shared) = _
  rw [putAll_heap (bootTree_ok w.params)]

def Pc (p : Program) (w : World) (m : Nat) (l : List Stmt) (env : Env) (c : Code) (a : SharedT) (q : Pos) (b : SharedT) (q' : Pos) : Prop :=
  segF (stepQ (denQ tabQ) p w) 11 ANN m a (pcs l env c q) = some (.next, b, c, q')
section
variable {p : Program} {w : World}
theorem pc_run {m : Nat} {l : List Stmt} {env : Env} {c : Code} {a b : SharedT} {q q' : Pos} (h : Pc p w m l env c a q b q') :
    segRun treeTable p w 11 ANN 1 m a.abs (piecesOf l env c q B1) = some (.next, b.abs, c, q') := by
  unfold Pc pcs at h
  rw [← stepQ_eq, ← denQ_eq, ← tabQ_eq, ← execsQ_eq] at h
  exact segF_ok h
theorem pc_cons {m N : Nat} {l rest : List Stmt} {env : Env} {c : Code} {a b : SharedT} {r : Shared} {q q' : Pos} (h : Pc p w m l env c a q b q')
    (k : topRun treeTable p w 11 ANN N b.abs (restOf rest env c q' B1) = some r) : topRun treeTable p w 11 ANN (m + N) a.abs (restOf (l ++ rest) env c q B1) = some r :=
  piece_app (pc_run h) k
theorem pc_nil {env : Env} {c : Code} {s : Shared} {q : Pos} : topRun treeTable p w 11 ANN 3 s (restOf [] env c q B1) = some s := by
  obtain ⟨heap, gens, drawn, toks, os⟩ := s
  exact piece_nil rfl
theorem pc_first {m N : Nat} {b : List Stmt} {env : Env} {a : SharedT} {r : Shared} {q q' : Pos} {os : OsState}
    (h : preF (stepQ (denQ tabQ) p w) 11 ANN m (S0 w os) (topStub p) = some (a, ⟨denQ tabQ (.body b env), .body b env, q, B1⟩))
    (hb : segF (stepQ (denQ tabQ) p w) 11 ANN 50 a (blk b env (.body b env) q) = some (.next, a, .body b env, q'))
    (k : topRun treeTable p w 11 ANN N a.abs (restOf b env (.body b env) q' B1) = some r) :
    topRun treeTable p w (boot_heap w.params).objs.size (bootAnn w) (m + (50 + N)) ⟨boot_heap w.params, #[], boot_drawn, boot_toks, os⟩ (topStub p) = some r := by
  rw [size0, ann0_eq w, ← S0_abs]
  rw [← stepQ_eq, ← denQ_eq, ← tabQ_eq] at h hb
  unfold blk at hb
  rw [← startQ_eq] at hb
  exact go_top (preF_ok h) (piece_block (segF_ok hb) k)
end
theorem left_seg {p q : Program} {loose : List Str} {Xt : Shared → Bool} {α : Type} {Yf : Shared → α} {Ya : World → α} {N M : Nat} {F : World → OsState → SharedT}
    (e : opening p = plainProg p.main.scope.names) (hN : Nat.ble 600 N = true) (f : ∀ s, fenceModules? p s = some s) (le : Nat.ble M N = true)
    (run : ∀ (w : World) (os : OsState), topRun treeTable p w (boot_heap w.params).objs.size (bootAnn w) M ⟨boot_heap w.params, #[], boot_drawn, boot_toks, os⟩ (topStub p) = some (F w os).abs)
    (l1 : ∀ (w : World) (os : OsState), looksF p (boot_heap w.params) (F w os).abs = true)
    (l2 : ∀ (w : World) (os : OsState), openSeen q loose (importedModules p.main.body) Xt true (F w os).abs = openGood q loose)
    (l3 : ∀ (w : World) (os : OsState), Yf (F w os).abs = Ya w) :
    LeftO p q loose Xt Yf Ya N true := fun w => by
  obtain ⟨⟨h, gs, d, k, os⟩, a, a'⟩ := Option.map_eq_some_iff.mp (boot_open e hN f w)
  obtain ⟨rfl, rfl, rfl, rfl⟩ : h = boot_heap w.params ∧ gs = Array.mk [] ∧ d = boot_drawn ∧ k = boot_toks := by simpa using a'
  have r := topRun_mono (N - M) _ _ _ _ (run w os)
  rw [show M + (N - M) = N by have := Nat.le_of_ble_eq_true le; omega] at r
  have l1' : (staticsOk (importedModules p.main.body) (boot_heap w.params) (F w os).abs.heap && namesBound p (F w os).abs.heap && gensDone (F w os).abs && laidKept (boot_heap w.params) (F w os).abs.heap) = true := l1 w os
  have t : topFrom treeTable p w N ⟨boot_heap w.params, Array.mk [], boot_drawn, boot_toks, os⟩ = some (F w os).abs := by
    unfold topFrom
    dsimp only
    rw [boot_ns]
    show (topRun treeTable p w (boot_heap w.params).objs.size (bootAnn w) N ⟨boot_heap w.params, #[], boot_drawn, boot_toks, os⟩ (topStub p)).bind _ = _
    rw [r]
    show (match staticsOk (importedModules p.main.body) (boot_heap w.params) (F w os).abs.heap && namesBound p (F w os).abs.heap && gensDone (F w os).abs && laidKept (boot_heap w.params) (F w os).abs.heap with | true => some (F w os).abs | false => none) = _
    rw [l1']
  unfold openEnds
  rw [a]
  show (topFrom treeTable p w N _).map _ = _
  rw [t]
  exact congrArg some (Prod.ext (l2 w os) (l3 w os))
theorem head_seg {r : OpenRow} {q : Program} {H : Hook} {ob : SharedT → H.α} {M : Nat} {loose : List PySem.Str} {d : DefRec} {kwd : List (PySem.Str × PySem.Expr)} {F : World → OsState → SharedT} (ho : ∀ s : SharedT, ob s = H.obs s.abs)
    (e : opening r.prog = plainProg r.prog.main.scope.names) (f : ∀ s, fenceModules? r.prog s = some s)
    (run : ∀ (w : World) (os : OsState), topRun treeTable r.prog w (boot_heap w.params).objs.size (bootAnn w) M ⟨boot_heap w.params, #[], boot_drawn, boot_toks, os⟩ (topStub r.prog) = some (F w os).abs)
    (l1 : ∀ (w : World) (os : OsState), looksF r.prog (boot_heap w.params) (F w os).abs = true)
    (l2 : ∀ (w : World) (os : OsState), seenQ q loose (importedModules r.prog.main.body) (fun s => xlAt q [] s && recOk r.toRowW.records s) (F w os).abs = openGood q loose)
    (l3 : ∀ (w : World) (os : OsState), ob (F w os) = H.val w)
    (hdef : defOf q r.name = some (d, kwd)) (hp : r.prog.theDef r.name = some (d.params, d.body, d.scope)) (hk : kwWritten? d.params.kwonlyargs d.params.kw_defaults = some kwd)
    (hwr : (!r.writes || r.records.isEmpty) = true) (k1 : r.wellSaid = true) (ok : (chainsOk q && opensWell r.prog && (frees r.toRowW && r.within.isEmpty)) = true) (hb : r.prog.bare) (hw : r.toRowW.promised)
    (call : WalkO q loose (XL q []) H.says r.toRowW d kwd fun f vs => PySem.call f vs) : r.Holds := by
  have left : LeftO r.prog q loose (fun s => xlAt q [] s && recOk r.toRowW.records s) H.obs H.val (M + 600) true :=
    left_seg (M := M) e (Nat.ble_eq_true_of_le (by omega)) f (Nat.ble_eq_true_of_le (by omega)) run l1 (fun w os => by
      rw [seenQ_eq]
      exact l2 w os) fun w os => by
      rw [← ho]
      exact l3 w os
  exact holds_open (r := r) (q := q) (loose := loose) (XP := XL q []) (YP := H.says) (d := d) (kwd := kwd) left H.of H.keeps (fun s z => xl_of s (Bool.and_eq_true_iff.mp z).1) XL.keeps hdef hp hk (fun s z => recFacts_of (Bool.and_eq_true_iff.mp z).2) hwr k1 ok hb hw call

abbrev s (x : Str) (n : Nat) : Value := .str x n
abbrev r (n : Nat) : Value := .ref n
abbrev i (k : Int) : Value := .int k 0
abbrev ty (x : String) : Value := .type x
abbrev bi (x : String) : Value := .builtin x
abbrev tu (l : List Value) : Obj := ⟨.type "tuple", none, .seq l.toArray 0, #[]⟩
abbrev fi (l : List Value) : Obj := ⟨.none, none, .fields l.toArray, #[]⟩
abbrev fo (x : String) (l : List Value) : Obj := ⟨.type x, none, .fields l.toArray, #[]⟩
abbrev di (l : List DictEntry) (n : Nat) : Obj := ⟨.type "dict", none, .dict l.toArray n, #[]⟩
abbrev en (P : Params) (x : Str) (n : Nat) (v : Value) : DictEntry := ⟨PyData.keyHash P x, .str x n, v⟩
abbrev lf (o : Obj) : PySem.W.BT := .node o .nil .nil
abbrev nd (o : Obj) (l r : PySem.W.BT) : PySem.W.BT := .node o l r
def fA : Stmt → Arguments
  | .FunctionDef _ a _ _ _ _ _ _ _ _ => a
  | _ => ⟨[], [], none, [], [], none, []⟩
def fB : Stmt → List Stmt
  | .FunctionDef _ _ b _ _ _ _ _ _ _ => b
  | _ => []
def fS : Stmt → Scope
  | .FunctionDef _ _ _ _ _ _ sc _ _ _ => sc
  | _ => ⟨.function, [], false, false, []⟩
def fC : Stmt → List Stmt
  | .ClassDef (body := b) .. => b
  | _ => []
def stD : Stmt := .Pass ⟨0, 0, 0, 0⟩
def stA (l : List Stmt) (i : Nat) : Stmt := (l[i]?).getD stD
abbrev fu (c : Value) (nm qn : Str) (st : Stmt) (gl : Addr) (cl : List (Str × Addr)) (df kd dc md : Value) (an : Option Addr) (cd ct : Value) (b : Addr) : Obj :=
  ⟨c, none, .func ⟨nm, qn, fA st, .stmts (fB st), fS st, gl, cl, df, kd, dc, md, an, cd, ct, b⟩, #[]⟩
def grp (l : List Stmt) (a b : Nat) : List Stmt := (l.drop a).take b
end HX
set_option Elab.async false
set_option linter.all false
set_option maxRecDepth 100000
set_option maxHeartbeats 0
namespace K01
open PySem PySem.W PySem.Calls PyProof.Rows
theorem pre (h : PySem.Challenge.rw_lapseeds_k01_errors.row.wellSaid = true → PySem.Challenge.rw_lapseeds_k01_errors.row.Holds) : PySem.Challenge.rw_lapseeds_k01_errors.Holds := by
  w_on; o_law
  exact h ‹_›
theorem pre0 : opening (OpenLaw.row PySem.Challenge.rw_lapseeds_k01_errors).prog = plainProg (OpenLaw.row PySem.Challenge.rw_lapseeds_k01_errors).prog.main.scope.names := by kernel_rfl
theorem preB : (OpenLaw.row PySem.Challenge.rw_lapseeds_k01_errors).prog.bare := ⟨rfl, rfl, rfl, rfl, rfl, by decide +kernel⟩
end K01
set_option Elab.async false
set_option linter.all false
set_option maxRecDepth 100000
set_option maxHeartbeats 4000000
namespace K01H
open PySem PySem.W PySem.Calls PyProof.Rows HandSHeadRun HX
noncomputable section
def body : List Stmt := PySem.Challenge.pw_lapseeds_k01_errors.main.body
def d0 : Stmt := stA (fC (stA body 2)) 0
def d1 : Stmt := stA (fC (stA body 3)) 0
def d2 : Stmt := stA (fC (stA body 4)) 0
def d3 : Stmt := stA (fC (stA body 5)) 0
def d4 : Stmt := stA (fC (stA body 6)) 0
def d5 : Stmt := stA (fC (stA body 7)) 0
def d6 : Stmt := stA (fC (stA body 8)) 0
def d7 : Stmt := stA (fC (stA body 9)) 0
def d8 : Stmt := stA (fC (stA body 10)) 0
def d9 : Stmt := stA (fC (stA body 11)) 0
def d10 : Stmt := stA (fC (stA body 12)) 0
def d11 : Stmt := stA (fC (stA body 13)) 0
def d12 : Stmt := stA (fC (stA body 14)) 0
def d13 : Stmt := stA (fC (stA body 15)) 0
def d14 : Stmt := stA (fC (stA body 16)) 0
def d15 : Stmt := stA (fC (stA body 17)) 0
def d16 : Stmt := stA (fC (stA body 18)) 0
def d17 : Stmt := stA (fC (stA body 19)) 0
def d18 : Stmt := stA (fC (stA body 20)) 0
def d19 : Stmt := stA (fC (stA body 24)) 0
def d20 : Stmt := stA (fC (stA body 25)) 0
def d21 : Stmt := stA (fC (stA body 27)) 0
def d22 : Stmt := stA (fC (stA body 28)) 0
def d23 : Stmt := stA (fC (stA body 29)) 0
def d24 : Stmt := stA body 31
def d25 : Stmt := stA body 32
def d26 : Stmt := stA body 33
def d27 : Stmt := stA body 34
def d28 : Stmt := stA body 35
def d29 : Stmt := stA body 36
def d30 : Stmt := stA body 37
def d31 : Stmt := stA body 38
def d32 : Stmt := stA body 39
def d33 : Stmt := stA body 40
def d34 : Stmt := stA body 41
def d35 : Stmt := stA body 42
def o11 : Obj := tu []
def o12 : Obj := fi []
def o13 : Obj := fo "code" [(s "<module>" 182), (s "<module>" 183), (s "/claim/cut.py" 184), (i 1), (i 0), (i 0), (i 0), (i 0), (r 11), (Value.bool false), (i 181), (r 12), Value.none, Value.none, Value.none, Value.none, (i 185), (i 1), (s "/claim/cut.py" 186)]
def o14 : Obj := (Obj.mk (ty "frame") none Data.plain #[(some (r 13)), (some (r 3)), (some (r 3)), none, (some (s "__main__" 164)), none, (some (r 0))])
def T0 (P : Params) : BT := nd (boot_o_0 P) (nd (boot_o_1 P) (nd (boot_o_3 P) (lf (boot_o_7 P)) (lf o11)) (nd (boot_o_5 P) (lf (boot_o_9 P)) (lf o13))) (nd (boot_o_2 P) (nd (boot_o_4 P) (lf (boot_o_8 P)) (lf o12)) (nd (boot_o_6 P) (lf (boot_o_10 P)) (lf o14)))
def S0 (w : World) (os : OsState) : SharedT := ⟨T0 w.params, 15, (boot_heap w.params).life, #[], boot_drawn, 187, os⟩
def o3_1 (P : Params) : Obj := di [en P "__name__" 165 (s "lapseeds.errors" 187), en P "__doc__" 166 Value.none, en P "__package__" 167 Value.none, en P "__loader__" 168 (bi "__main__.__loader__#opaque"), en P "__spec__" 169 Value.none, en P "__annotations__" 170 (r 6), en P "__builtins__" 171 (r 4), en P "__file__" 173 (s "/claim/cut.py" 172), en P "__cached__" 174 Value.none, en P "LapError" 206 (r 24), en P "BadHeld" 231 (r 44), en P "BadRing" 256 (r 63), en P "BadPlayer" 281 (r 82), en P "BadPit" 306 (r 101), en P "BadEnd" 331 (r 120), en P "BadBook" 356 (r 139), en P "BadNumber" 381 (r 158), en P "BadTurn" 406 (r 177), en P "BadBoard" 431 (r 196), en P "BadRow" 456 (r 215), en P "BadSum" 481 (r 234)] 21
def o12_1 : Obj := fi [(i 2), (i 0), (r 20), (i 4), (i 0), (r 33), (i 8), (i 0), (r 52), (i 12), (i 0), (r 71), (i 16), (i 0), (r 90), (i 20), (i 0), (r 109), (i 24), (i 0), (r 128), (i 28), (i 0), (r 147), (i 32), (i 0), (r 166), (i 36), (i 0), (r 185), (i 40), (i 0), (r 204), (i 44), (i 0), (r 223)]
def o15 : Obj := tu [(ty "ValueError")]
def o16 : Obj := fo "builtin_function_or_method" [(bi "type.__prepare__"), (ty "type")]
def o17 (P : Params) : Obj := di [en P "__module__" 196 (s "lapseeds.errors" 187), en P "__qualname__" 198 (s "LapError" 197), en P "__firstlineno__" 200 (Value.int 2 199), en P "__static_attributes__" 201 (r 22)] 4
def o18 : Obj := tu []
def o19 : Obj := fi []
def o20 : Obj := fo "code" [(s "LapError" 191), (s "LapError" 192), (s "/claim/cut.py" 193), (i 2), (i 0), (i 0), (i 0), (i 0), (r 18), (Value.bool false), (i 181), (r 19), Value.none, Value.none, Value.none, Value.none, (i 194), (i 2), (s "/claim/cut.py" 195)]
def o21 : Obj := (Obj.mk (ty "frame") none Data.plain #[(some (r 20)), (some (r 3)), (some (r 17)), none, (some (s "lapseeds.errors" 187)), none, (some (r 0))])
def o22 : Obj := tu []
def o23 (P : Params) : Obj := di [en P "__module__" 196 (s "lapseeds.errors" 187), en P "__firstlineno__" 200 (Value.int 2 199), en P "__static_attributes__" 201 (r 22), en P "__weakref__" 203 (r 25), en P "__doc__" 204 Value.none] 3
def o24 : Obj := (Obj.mk (ty "type") none (Data.cls (ClassData.mk "LapError" [(ty "ValueError")] [(r 24), (ty "ValueError"), (ty "Exception"), (ty "BaseException"), (ty "object")] 23 "LapError" true [] [(r 44), (r 63), (r 82), (r 101), (r 120), (r 139), (r 158), (r 177), (r 196), (r 215), (r 234)] false none false)) #[(some (r 15)), none, (some (s "LapError" 189)), (some (s "LapError" 197)), (some (bi "ValueError.__new__")), (some (Value.bool true))])
def o25 : Obj := fo "getset_descriptor" [(s "__weakref__" 202), (r 24), (bi "ExceptionGroup.__weakref__"), Value.none]
def o26 : Obj := fo "super" [(r 24), (r 24), (r 24)]
def o27 : Obj := fo "builtin_function_or_method" [(bi "object.__init_subclass__"), (r 24)]
def o28 : Obj := tu [(r 24)]
def o29 : Obj := fo "builtin_function_or_method" [(bi "type.__prepare__"), (ty "type")]
def o30 (P : Params) : Obj := di [en P "__module__" 214 (s "lapseeds.errors" 187), en P "__qualname__" 216 (s "BadHeld" 215), en P "__firstlineno__" 218 (Value.int 4 217), en P "__init__" 226 (r 41), en P "__static_attributes__" 228 (r 42)] 5
def o31 : Obj := tu []
def o32 : Obj := fi [(i 6), (i 4), (r 40)]
def o33 : Obj := fo "code" [(s "BadHeld" 209), (s "BadHeld" 210), (s "/claim/cut.py" 211), (i 4), (i 0), (i 0), (i 0), (i 0), (r 31), (Value.bool false), (i 181), (r 32), Value.none, Value.none, Value.none, Value.none, (i 212), (i 4), (s "/claim/cut.py" 213)]
def o34 : Obj := (Obj.mk (ty "frame") none Data.plain #[(some (r 33)), (some (r 3)), (some (r 30)), none, (some (s "lapseeds.errors" 187)), none, (some (r 0))])
def o35 : Obj := tu []
def o36 : Obj := fi []
def o37 : Obj := tu [(s "self" 222), (s "value" 223)]
def o38 : Obj := tu []
def o39 : Obj := fu Value.none "__init__" "BadHeld.__init__" d0 0 [] Value.none Value.none Value.none Value.none none Value.none Value.none 0
def o40 : Obj := fo "code" [(s "__init__" 219), (s "BadHeld.__init__" 220), (s "/claim/cut.py" 221), (i 6), (i 2), (i 0), (i 0), (i 3), (r 35), (Value.bool true), (i 181), (r 36), Value.none, (r 37), (r 38), (r 39), (i 224), (i 6), (s "/claim/cut.py" 225)]
def o41 : Obj := fu (ty "function") "__init__" "BadHeld.__init__" d0 3 [] Value.none Value.none Value.none (s "lapseeds.errors" 187) none (r 40) Value.none 0
def o42 : Obj := tu [(s "value" 227)]
def o43 (P : Params) : Obj := di [en P "__module__" 214 (s "lapseeds.errors" 187), en P "__firstlineno__" 218 (Value.int 4 217), en P "__init__" 226 (r 41), en P "__static_attributes__" 228 (r 42), en P "__doc__" 229 Value.none] 2
def o44 : Obj := (Obj.mk (ty "type") none (Data.cls (ClassData.mk "BadHeld" [(r 24)] [(r 44), (r 24), (ty "ValueError"), (ty "Exception"), (ty "BaseException"), (ty "object")] 43 "BadHeld" true [] [] false none false)) #[(some (r 28)), none, (some (s "BadHeld" 207)), (some (s "BadHeld" 215)), (some (bi "ValueError.__new__")), (some (Value.bool true))])
def o45 : Obj := fo "super" [(r 44), (r 44), (r 44)]
def o46 : Obj := fo "builtin_function_or_method" [(bi "object.__init_subclass__"), (r 44)]
def o47 : Obj := tu [(r 24)]
def o48 : Obj := fo "builtin_function_or_method" [(bi "type.__prepare__"), (ty "type")]
def o49 (P : Params) : Obj := di [en P "__module__" 239 (s "lapseeds.errors" 187), en P "__qualname__" 241 (s "BadRing" 240), en P "__firstlineno__" 243 (Value.int 8 242), en P "__init__" 251 (r 60), en P "__static_attributes__" 253 (r 61)] 5
def o50 : Obj := tu []
def o51 : Obj := fi [(i 10), (i 4), (r 59)]
def o52 : Obj := fo "code" [(s "BadRing" 234), (s "BadRing" 235), (s "/claim/cut.py" 236), (i 8), (i 0), (i 0), (i 0), (i 0), (r 50), (Value.bool false), (i 181), (r 51), Value.none, Value.none, Value.none, Value.none, (i 237), (i 8), (s "/claim/cut.py" 238)]
def o53 : Obj := (Obj.mk (ty "frame") none Data.plain #[(some (r 52)), (some (r 3)), (some (r 49)), none, (some (s "lapseeds.errors" 187)), none, (some (r 0))])
def o54 : Obj := tu []
def o55 : Obj := fi []
def o56 : Obj := tu [(s "self" 247), (s "part" 248)]
def o57 : Obj := tu []
def o58 : Obj := fu Value.none "__init__" "BadRing.__init__" d1 0 [] Value.none Value.none Value.none Value.none none Value.none Value.none 0
def o59 : Obj := fo "code" [(s "__init__" 244), (s "BadRing.__init__" 245), (s "/claim/cut.py" 246), (i 10), (i 2), (i 0), (i 0), (i 3), (r 54), (Value.bool true), (i 181), (r 55), Value.none, (r 56), (r 57), (r 58), (i 249), (i 10), (s "/claim/cut.py" 250)]
def o60 : Obj := fu (ty "function") "__init__" "BadRing.__init__" d1 3 [] Value.none Value.none Value.none (s "lapseeds.errors" 187) none (r 59) Value.none 0
def o61 : Obj := tu [(s "part" 252)]
def o62 (P : Params) : Obj := di [en P "__module__" 239 (s "lapseeds.errors" 187), en P "__firstlineno__" 243 (Value.int 8 242), en P "__init__" 251 (r 60), en P "__static_attributes__" 253 (r 61), en P "__doc__" 254 Value.none] 2
def o63 : Obj := (Obj.mk (ty "type") none (Data.cls (ClassData.mk "BadRing" [(r 24)] [(r 63), (r 24), (ty "ValueError"), (ty "Exception"), (ty "BaseException"), (ty "object")] 62 "BadRing" true [] [] false none false)) #[(some (r 47)), none, (some (s "BadRing" 232)), (some (s "BadRing" 240)), (some (bi "ValueError.__new__")), (some (Value.bool true))])
def o64 : Obj := fo "super" [(r 63), (r 63), (r 63)]
def o65 : Obj := fo "builtin_function_or_method" [(bi "object.__init_subclass__"), (r 63)]
def o66 : Obj := tu [(r 24)]
def o67 : Obj := fo "builtin_function_or_method" [(bi "type.__prepare__"), (ty "type")]
def o68 (P : Params) : Obj := di [en P "__module__" 264 (s "lapseeds.errors" 187), en P "__qualname__" 266 (s "BadPlayer" 265), en P "__firstlineno__" 268 (Value.int 12 267), en P "__init__" 276 (r 79), en P "__static_attributes__" 278 (r 80)] 5
def o69 : Obj := tu []
def o70 : Obj := fi [(i 14), (i 4), (r 78)]
def o71 : Obj := fo "code" [(s "BadPlayer" 259), (s "BadPlayer" 260), (s "/claim/cut.py" 261), (i 12), (i 0), (i 0), (i 0), (i 0), (r 69), (Value.bool false), (i 181), (r 70), Value.none, Value.none, Value.none, Value.none, (i 262), (i 12), (s "/claim/cut.py" 263)]
def o72 : Obj := (Obj.mk (ty "frame") none Data.plain #[(some (r 71)), (some (r 3)), (some (r 68)), none, (some (s "lapseeds.errors" 187)), none, (some (r 0))])
def o73 : Obj := tu []
def o74 : Obj := fi []
def o75 : Obj := tu [(s "self" 272), (s "value" 273)]
def o76 : Obj := tu []
def o77 : Obj := fu Value.none "__init__" "BadPlayer.__init__" d2 0 [] Value.none Value.none Value.none Value.none none Value.none Value.none 0
def o78 : Obj := fo "code" [(s "__init__" 269), (s "BadPlayer.__init__" 270), (s "/claim/cut.py" 271), (i 14), (i 2), (i 0), (i 0), (i 3), (r 73), (Value.bool true), (i 181), (r 74), Value.none, (r 75), (r 76), (r 77), (i 274), (i 14), (s "/claim/cut.py" 275)]
def o79 : Obj := fu (ty "function") "__init__" "BadPlayer.__init__" d2 3 [] Value.none Value.none Value.none (s "lapseeds.errors" 187) none (r 78) Value.none 0
def o80 : Obj := tu [(s "value" 277)]
def o81 (P : Params) : Obj := di [en P "__module__" 264 (s "lapseeds.errors" 187), en P "__firstlineno__" 268 (Value.int 12 267), en P "__init__" 276 (r 79), en P "__static_attributes__" 278 (r 80), en P "__doc__" 279 Value.none] 2
def o82 : Obj := (Obj.mk (ty "type") none (Data.cls (ClassData.mk "BadPlayer" [(r 24)] [(r 82), (r 24), (ty "ValueError"), (ty "Exception"), (ty "BaseException"), (ty "object")] 81 "BadPlayer" true [] [] false none false)) #[(some (r 66)), none, (some (s "BadPlayer" 257)), (some (s "BadPlayer" 265)), (some (bi "ValueError.__new__")), (some (Value.bool true))])
def o83 : Obj := fo "super" [(r 82), (r 82), (r 82)]
def o84 : Obj := fo "builtin_function_or_method" [(bi "object.__init_subclass__"), (r 82)]
def o85 : Obj := tu [(r 24)]
def o86 : Obj := fo "builtin_function_or_method" [(bi "type.__prepare__"), (ty "type")]
def o87 (P : Params) : Obj := di [en P "__module__" 289 (s "lapseeds.errors" 187), en P "__qualname__" 291 (s "BadPit" 290), en P "__firstlineno__" 293 (Value.int 16 292), en P "__init__" 301 (r 98), en P "__static_attributes__" 303 (r 99)] 5
def o88 : Obj := tu []
def o89 : Obj := fi [(i 18), (i 4), (r 97)]
def o90 : Obj := fo "code" [(s "BadPit" 284), (s "BadPit" 285), (s "/claim/cut.py" 286), (i 16), (i 0), (i 0), (i 0), (i 0), (r 88), (Value.bool false), (i 181), (r 89), Value.none, Value.none, Value.none, Value.none, (i 287), (i 16), (s "/claim/cut.py" 288)]
def o91 : Obj := (Obj.mk (ty "frame") none Data.plain #[(some (r 90)), (some (r 3)), (some (r 87)), none, (some (s "lapseeds.errors" 187)), none, (some (r 0))])
def o92 : Obj := tu []
def o93 : Obj := fi []
def o94 : Obj := tu [(s "self" 297), (s "value" 298)]
def o95 : Obj := tu []
def o96 : Obj := fu Value.none "__init__" "BadPit.__init__" d3 0 [] Value.none Value.none Value.none Value.none none Value.none Value.none 0
def o97 : Obj := fo "code" [(s "__init__" 294), (s "BadPit.__init__" 295), (s "/claim/cut.py" 296), (i 18), (i 2), (i 0), (i 0), (i 3), (r 92), (Value.bool true), (i 181), (r 93), Value.none, (r 94), (r 95), (r 96), (i 299), (i 18), (s "/claim/cut.py" 300)]
def o98 : Obj := fu (ty "function") "__init__" "BadPit.__init__" d3 3 [] Value.none Value.none Value.none (s "lapseeds.errors" 187) none (r 97) Value.none 0
def o99 : Obj := tu [(s "value" 302)]
def o100 (P : Params) : Obj := di [en P "__module__" 289 (s "lapseeds.errors" 187), en P "__firstlineno__" 293 (Value.int 16 292), en P "__init__" 301 (r 98), en P "__static_attributes__" 303 (r 99), en P "__doc__" 304 Value.none] 2
def o101 : Obj := (Obj.mk (ty "type") none (Data.cls (ClassData.mk "BadPit" [(r 24)] [(r 101), (r 24), (ty "ValueError"), (ty "Exception"), (ty "BaseException"), (ty "object")] 100 "BadPit" true [] [] false none false)) #[(some (r 85)), none, (some (s "BadPit" 282)), (some (s "BadPit" 290)), (some (bi "ValueError.__new__")), (some (Value.bool true))])
def o102 : Obj := fo "super" [(r 101), (r 101), (r 101)]
def o103 : Obj := fo "builtin_function_or_method" [(bi "object.__init_subclass__"), (r 101)]
def o104 : Obj := tu [(r 24)]
def o105 : Obj := fo "builtin_function_or_method" [(bi "type.__prepare__"), (ty "type")]
def o106 (P : Params) : Obj := di [en P "__module__" 314 (s "lapseeds.errors" 187), en P "__qualname__" 316 (s "BadEnd" 315), en P "__firstlineno__" 318 (Value.int 20 317), en P "__init__" 326 (r 117), en P "__static_attributes__" 328 (r 118)] 5
def o107 : Obj := tu []
def o108 : Obj := fi [(i 22), (i 4), (r 116)]
def o109 : Obj := fo "code" [(s "BadEnd" 309), (s "BadEnd" 310), (s "/claim/cut.py" 311), (i 20), (i 0), (i 0), (i 0), (i 0), (r 107), (Value.bool false), (i 181), (r 108), Value.none, Value.none, Value.none, Value.none, (i 312), (i 20), (s "/claim/cut.py" 313)]
def o110 : Obj := (Obj.mk (ty "frame") none Data.plain #[(some (r 109)), (some (r 3)), (some (r 106)), none, (some (s "lapseeds.errors" 187)), none, (some (r 0))])
def o111 : Obj := tu []
def o112 : Obj := fi []
def o113 : Obj := tu [(s "self" 322), (s "part" 323)]
def o114 : Obj := tu []
def o115 : Obj := fu Value.none "__init__" "BadEnd.__init__" d4 0 [] Value.none Value.none Value.none Value.none none Value.none Value.none 0
def o116 : Obj := fo "code" [(s "__init__" 319), (s "BadEnd.__init__" 320), (s "/claim/cut.py" 321), (i 22), (i 2), (i 0), (i 0), (i 3), (r 111), (Value.bool true), (i 181), (r 112), Value.none, (r 113), (r 114), (r 115), (i 324), (i 22), (s "/claim/cut.py" 325)]
def o117 : Obj := fu (ty "function") "__init__" "BadEnd.__init__" d4 3 [] Value.none Value.none Value.none (s "lapseeds.errors" 187) none (r 116) Value.none 0
def o118 : Obj := tu [(s "part" 327)]
def o119 (P : Params) : Obj := di [en P "__module__" 314 (s "lapseeds.errors" 187), en P "__firstlineno__" 318 (Value.int 20 317), en P "__init__" 326 (r 117), en P "__static_attributes__" 328 (r 118), en P "__doc__" 329 Value.none] 2
def o120 : Obj := (Obj.mk (ty "type") none (Data.cls (ClassData.mk "BadEnd" [(r 24)] [(r 120), (r 24), (ty "ValueError"), (ty "Exception"), (ty "BaseException"), (ty "object")] 119 "BadEnd" true [] [] false none false)) #[(some (r 104)), none, (some (s "BadEnd" 307)), (some (s "BadEnd" 315)), (some (bi "ValueError.__new__")), (some (Value.bool true))])
def o121 : Obj := fo "super" [(r 120), (r 120), (r 120)]
def o122 : Obj := fo "builtin_function_or_method" [(bi "object.__init_subclass__"), (r 120)]
def o123 : Obj := tu [(r 24)]
def o124 : Obj := fo "builtin_function_or_method" [(bi "type.__prepare__"), (ty "type")]
def o125 (P : Params) : Obj := di [en P "__module__" 339 (s "lapseeds.errors" 187), en P "__qualname__" 341 (s "BadBook" 340), en P "__firstlineno__" 343 (Value.int 24 342), en P "__init__" 351 (r 136), en P "__static_attributes__" 353 (r 137)] 5
def o126 : Obj := tu []
def o127 : Obj := fi [(i 26), (i 4), (r 135)]
def o128 : Obj := fo "code" [(s "BadBook" 334), (s "BadBook" 335), (s "/claim/cut.py" 336), (i 24), (i 0), (i 0), (i 0), (i 0), (r 126), (Value.bool false), (i 181), (r 127), Value.none, Value.none, Value.none, Value.none, (i 337), (i 24), (s "/claim/cut.py" 338)]
def o129 : Obj := (Obj.mk (ty "frame") none Data.plain #[(some (r 128)), (some (r 3)), (some (r 125)), none, (some (s "lapseeds.errors" 187)), none, (some (r 0))])
def o130 : Obj := tu []
def o131 : Obj := fi []
def o132 : Obj := tu [(s "self" 347), (s "part" 348)]
def o133 : Obj := tu []
def o134 : Obj := fu Value.none "__init__" "BadBook.__init__" d5 0 [] Value.none Value.none Value.none Value.none none Value.none Value.none 0
def o135 : Obj := fo "code" [(s "__init__" 344), (s "BadBook.__init__" 345), (s "/claim/cut.py" 346), (i 26), (i 2), (i 0), (i 0), (i 3), (r 130), (Value.bool true), (i 181), (r 131), Value.none, (r 132), (r 133), (r 134), (i 349), (i 26), (s "/claim/cut.py" 350)]
def o136 : Obj := fu (ty "function") "__init__" "BadBook.__init__" d5 3 [] Value.none Value.none Value.none (s "lapseeds.errors" 187) none (r 135) Value.none 0
def o137 : Obj := tu [(s "part" 352)]
def o138 (P : Params) : Obj := di [en P "__module__" 339 (s "lapseeds.errors" 187), en P "__firstlineno__" 343 (Value.int 24 342), en P "__init__" 351 (r 136), en P "__static_attributes__" 353 (r 137), en P "__doc__" 354 Value.none] 2
def o139 : Obj := (Obj.mk (ty "type") none (Data.cls (ClassData.mk "BadBook" [(r 24)] [(r 139), (r 24), (ty "ValueError"), (ty "Exception"), (ty "BaseException"), (ty "object")] 138 "BadBook" true [] [] false none false)) #[(some (r 123)), none, (some (s "BadBook" 332)), (some (s "BadBook" 340)), (some (bi "ValueError.__new__")), (some (Value.bool true))])
def o140 : Obj := fo "super" [(r 139), (r 139), (r 139)]
def o141 : Obj := fo "builtin_function_or_method" [(bi "object.__init_subclass__"), (r 139)]
def o142 : Obj := tu [(r 24)]
def o143 : Obj := fo "builtin_function_or_method" [(bi "type.__prepare__"), (ty "type")]
def o144 (P : Params) : Obj := di [en P "__module__" 364 (s "lapseeds.errors" 187), en P "__qualname__" 366 (s "BadNumber" 365), en P "__firstlineno__" 368 (Value.int 28 367), en P "__init__" 376 (r 155), en P "__static_attributes__" 378 (r 156)] 5
def o145 : Obj := tu []
def o146 : Obj := fi [(i 30), (i 4), (r 154)]
def o147 : Obj := fo "code" [(s "BadNumber" 359), (s "BadNumber" 360), (s "/claim/cut.py" 361), (i 28), (i 0), (i 0), (i 0), (i 0), (r 145), (Value.bool false), (i 181), (r 146), Value.none, Value.none, Value.none, Value.none, (i 362), (i 28), (s "/claim/cut.py" 363)]
def o148 : Obj := (Obj.mk (ty "frame") none Data.plain #[(some (r 147)), (some (r 3)), (some (r 144)), none, (some (s "lapseeds.errors" 187)), none, (some (r 0))])
def o149 : Obj := tu []
def o150 : Obj := fi []
def o151 : Obj := tu [(s "self" 372), (s "value" 373)]
def o152 : Obj := tu []
def o153 : Obj := fu Value.none "__init__" "BadNumber.__init__" d6 0 [] Value.none Value.none Value.none Value.none none Value.none Value.none 0
def o154 : Obj := fo "code" [(s "__init__" 369), (s "BadNumber.__init__" 370), (s "/claim/cut.py" 371), (i 30), (i 2), (i 0), (i 0), (i 3), (r 149), (Value.bool true), (i 181), (r 150), Value.none, (r 151), (r 152), (r 153), (i 374), (i 30), (s "/claim/cut.py" 375)]
def o155 : Obj := fu (ty "function") "__init__" "BadNumber.__init__" d6 3 [] Value.none Value.none Value.none (s "lapseeds.errors" 187) none (r 154) Value.none 0
def o156 : Obj := tu [(s "value" 377)]
def o157 (P : Params) : Obj := di [en P "__module__" 364 (s "lapseeds.errors" 187), en P "__firstlineno__" 368 (Value.int 28 367), en P "__init__" 376 (r 155), en P "__static_attributes__" 378 (r 156), en P "__doc__" 379 Value.none] 2
def o158 : Obj := (Obj.mk (ty "type") none (Data.cls (ClassData.mk "BadNumber" [(r 24)] [(r 158), (r 24), (ty "ValueError"), (ty "Exception"), (ty "BaseException"), (ty "object")] 157 "BadNumber" true [] [] false none false)) #[(some (r 142)), none, (some (s "BadNumber" 357)), (some (s "BadNumber" 365)), (some (bi "ValueError.__new__")), (some (Value.bool true))])
def o159 : Obj := fo "super" [(r 158), (r 158), (r 158)]
def o160 : Obj := fo "builtin_function_or_method" [(bi "object.__init_subclass__"), (r 158)]
def o161 : Obj := tu [(r 24)]
def o162 : Obj := fo "builtin_function_or_method" [(bi "type.__prepare__"), (ty "type")]
def o163 (P : Params) : Obj := di [en P "__module__" 389 (s "lapseeds.errors" 187), en P "__qualname__" 391 (s "BadTurn" 390), en P "__firstlineno__" 393 (Value.int 32 392), en P "__init__" 401 (r 174), en P "__static_attributes__" 403 (r 175)] 5
def o164 : Obj := tu []
def o165 : Obj := fi [(i 34), (i 4), (r 173)]
def o166 : Obj := fo "code" [(s "BadTurn" 384), (s "BadTurn" 385), (s "/claim/cut.py" 386), (i 32), (i 0), (i 0), (i 0), (i 0), (r 164), (Value.bool false), (i 181), (r 165), Value.none, Value.none, Value.none, Value.none, (i 387), (i 32), (s "/claim/cut.py" 388)]
def o167 : Obj := (Obj.mk (ty "frame") none Data.plain #[(some (r 166)), (some (r 3)), (some (r 163)), none, (some (s "lapseeds.errors" 187)), none, (some (r 0))])
def o168 : Obj := tu []
def o169 : Obj := fi []
def o170 : Obj := tu [(s "self" 397), (s "value" 398)]
def o171 : Obj := tu []
def o172 : Obj := fu Value.none "__init__" "BadTurn.__init__" d7 0 [] Value.none Value.none Value.none Value.none none Value.none Value.none 0
def o173 : Obj := fo "code" [(s "__init__" 394), (s "BadTurn.__init__" 395), (s "/claim/cut.py" 396), (i 34), (i 2), (i 0), (i 0), (i 3), (r 168), (Value.bool true), (i 181), (r 169), Value.none, (r 170), (r 171), (r 172), (i 399), (i 34), (s "/claim/cut.py" 400)]
def o174 : Obj := fu (ty "function") "__init__" "BadTurn.__init__" d7 3 [] Value.none Value.none Value.none (s "lapseeds.errors" 187) none (r 173) Value.none 0
def o175 : Obj := tu [(s "value" 402)]
def o176 (P : Params) : Obj := di [en P "__module__" 389 (s "lapseeds.errors" 187), en P "__firstlineno__" 393 (Value.int 32 392), en P "__init__" 401 (r 174), en P "__static_attributes__" 403 (r 175), en P "__doc__" 404 Value.none] 2
def o177 : Obj := (Obj.mk (ty "type") none (Data.cls (ClassData.mk "BadTurn" [(r 24)] [(r 177), (r 24), (ty "ValueError"), (ty "Exception"), (ty "BaseException"), (ty "object")] 176 "BadTurn" true [] [] false none false)) #[(some (r 161)), none, (some (s "BadTurn" 382)), (some (s "BadTurn" 390)), (some (bi "ValueError.__new__")), (some (Value.bool true))])
def o178 : Obj := fo "super" [(r 177), (r 177), (r 177)]
def o179 : Obj := fo "builtin_function_or_method" [(bi "object.__init_subclass__"), (r 177)]
def o180 : Obj := tu [(r 24)]
def o181 : Obj := fo "builtin_function_or_method" [(bi "type.__prepare__"), (ty "type")]
def o182 (P : Params) : Obj := di [en P "__module__" 414 (s "lapseeds.errors" 187), en P "__qualname__" 416 (s "BadBoard" 415), en P "__firstlineno__" 418 (Value.int 36 417), en P "__init__" 426 (r 193), en P "__static_attributes__" 428 (r 194)] 5
def o183 : Obj := tu []
def o184 : Obj := fi [(i 38), (i 4), (r 192)]
def o185 : Obj := fo "code" [(s "BadBoard" 409), (s "BadBoard" 410), (s "/claim/cut.py" 411), (i 36), (i 0), (i 0), (i 0), (i 0), (r 183), (Value.bool false), (i 181), (r 184), Value.none, Value.none, Value.none, Value.none, (i 412), (i 36), (s "/claim/cut.py" 413)]
def o186 : Obj := (Obj.mk (ty "frame") none Data.plain #[(some (r 185)), (some (r 3)), (some (r 182)), none, (some (s "lapseeds.errors" 187)), none, (some (r 0))])
def o187 : Obj := tu []
def o188 : Obj := fi []
def o189 : Obj := tu [(s "self" 422), (s "part" 423)]
def o190 : Obj := tu []
def o191 : Obj := fu Value.none "__init__" "BadBoard.__init__" d8 0 [] Value.none Value.none Value.none Value.none none Value.none Value.none 0
def o192 : Obj := fo "code" [(s "__init__" 419), (s "BadBoard.__init__" 420), (s "/claim/cut.py" 421), (i 38), (i 2), (i 0), (i 0), (i 3), (r 187), (Value.bool true), (i 181), (r 188), Value.none, (r 189), (r 190), (r 191), (i 424), (i 38), (s "/claim/cut.py" 425)]
def o193 : Obj := fu (ty "function") "__init__" "BadBoard.__init__" d8 3 [] Value.none Value.none Value.none (s "lapseeds.errors" 187) none (r 192) Value.none 0
def o194 : Obj := tu [(s "part" 427)]
def o195 (P : Params) : Obj := di [en P "__module__" 414 (s "lapseeds.errors" 187), en P "__firstlineno__" 418 (Value.int 36 417), en P "__init__" 426 (r 193), en P "__static_attributes__" 428 (r 194), en P "__doc__" 429 Value.none] 2
def o196 : Obj := (Obj.mk (ty "type") none (Data.cls (ClassData.mk "BadBoard" [(r 24)] [(r 196), (r 24), (ty "ValueError"), (ty "Exception"), (ty "BaseException"), (ty "object")] 195 "BadBoard" true [] [] false none false)) #[(some (r 180)), none, (some (s "BadBoard" 407)), (some (s "BadBoard" 415)), (some (bi "ValueError.__new__")), (some (Value.bool true))])
def o197 : Obj := fo "super" [(r 196), (r 196), (r 196)]
def o198 : Obj := fo "builtin_function_or_method" [(bi "object.__init_subclass__"), (r 196)]
def o199 : Obj := tu [(r 24)]
def o200 : Obj := fo "builtin_function_or_method" [(bi "type.__prepare__"), (ty "type")]
def o201 (P : Params) : Obj := di [en P "__module__" 439 (s "lapseeds.errors" 187), en P "__qualname__" 441 (s "BadRow" 440), en P "__firstlineno__" 443 (Value.int 40 442), en P "__init__" 451 (r 212), en P "__static_attributes__" 453 (r 213)] 5
def o202 : Obj := tu []
def o203 : Obj := fi [(i 42), (i 4), (r 211)]
def o204 : Obj := fo "code" [(s "BadRow" 434), (s "BadRow" 435), (s "/claim/cut.py" 436), (i 40), (i 0), (i 0), (i 0), (i 0), (r 202), (Value.bool false), (i 181), (r 203), Value.none, Value.none, Value.none, Value.none, (i 437), (i 40), (s "/claim/cut.py" 438)]
def o205 : Obj := (Obj.mk (ty "frame") none Data.plain #[(some (r 204)), (some (r 3)), (some (r 201)), none, (some (s "lapseeds.errors" 187)), none, (some (r 0))])
def o206 : Obj := tu []
def o207 : Obj := fi []
def o208 : Obj := tu [(s "self" 447), (s "at" 448)]
def o209 : Obj := tu []
def o210 : Obj := fu Value.none "__init__" "BadRow.__init__" d9 0 [] Value.none Value.none Value.none Value.none none Value.none Value.none 0
def o211 : Obj := fo "code" [(s "__init__" 444), (s "BadRow.__init__" 445), (s "/claim/cut.py" 446), (i 42), (i 2), (i 0), (i 0), (i 3), (r 206), (Value.bool true), (i 181), (r 207), Value.none, (r 208), (r 209), (r 210), (i 449), (i 42), (s "/claim/cut.py" 450)]
def o212 : Obj := fu (ty "function") "__init__" "BadRow.__init__" d9 3 [] Value.none Value.none Value.none (s "lapseeds.errors" 187) none (r 211) Value.none 0
def o213 : Obj := tu [(s "at" 452)]
def o214 (P : Params) : Obj := di [en P "__module__" 439 (s "lapseeds.errors" 187), en P "__firstlineno__" 443 (Value.int 40 442), en P "__init__" 451 (r 212), en P "__static_attributes__" 453 (r 213), en P "__doc__" 454 Value.none] 2
def o215 : Obj := (Obj.mk (ty "type") none (Data.cls (ClassData.mk "BadRow" [(r 24)] [(r 215), (r 24), (ty "ValueError"), (ty "Exception"), (ty "BaseException"), (ty "object")] 214 "BadRow" true [] [] false none false)) #[(some (r 199)), none, (some (s "BadRow" 432)), (some (s "BadRow" 440)), (some (bi "ValueError.__new__")), (some (Value.bool true))])
def o216 : Obj := fo "super" [(r 215), (r 215), (r 215)]
def o217 : Obj := fo "builtin_function_or_method" [(bi "object.__init_subclass__"), (r 215)]
def o218 : Obj := tu [(r 24)]
def o219 : Obj := fo "builtin_function_or_method" [(bi "type.__prepare__"), (ty "type")]
def o220 (P : Params) : Obj := di [en P "__module__" 464 (s "lapseeds.errors" 187), en P "__qualname__" 466 (s "BadSum" 465), en P "__firstlineno__" 468 (Value.int 44 467), en P "__init__" 476 (r 231), en P "__static_attributes__" 478 (r 232)] 5
def o221 : Obj := tu []
def o222 : Obj := fi [(i 46), (i 4), (r 230)]
def o223 : Obj := fo "code" [(s "BadSum" 459), (s "BadSum" 460), (s "/claim/cut.py" 461), (i 44), (i 0), (i 0), (i 0), (i 0), (r 221), (Value.bool false), (i 181), (r 222), Value.none, Value.none, Value.none, Value.none, (i 462), (i 44), (s "/claim/cut.py" 463)]
def o224 : Obj := (Obj.mk (ty "frame") none Data.plain #[(some (r 223)), (some (r 3)), (some (r 220)), none, (some (s "lapseeds.errors" 187)), none, (some (r 0))])
def o225 : Obj := tu []
def o226 : Obj := fi []
def o227 : Obj := tu [(s "self" 472), (s "part" 473)]
def o228 : Obj := tu []
def o229 : Obj := fu Value.none "__init__" "BadSum.__init__" d10 0 [] Value.none Value.none Value.none Value.none none Value.none Value.none 0
def o230 : Obj := fo "code" [(s "__init__" 469), (s "BadSum.__init__" 470), (s "/claim/cut.py" 471), (i 46), (i 2), (i 0), (i 0), (i 3), (r 225), (Value.bool true), (i 181), (r 226), Value.none, (r 227), (r 228), (r 229), (i 474), (i 46), (s "/claim/cut.py" 475)]
def o231 : Obj := fu (ty "function") "__init__" "BadSum.__init__" d10 3 [] Value.none Value.none Value.none (s "lapseeds.errors" 187) none (r 230) Value.none 0
def o232 : Obj := tu [(s "part" 477)]
def o233 (P : Params) : Obj := di [en P "__module__" 464 (s "lapseeds.errors" 187), en P "__firstlineno__" 468 (Value.int 44 467), en P "__init__" 476 (r 231), en P "__static_attributes__" 478 (r 232), en P "__doc__" 479 Value.none] 2
def o234 : Obj := (Obj.mk (ty "type") none (Data.cls (ClassData.mk "BadSum" [(r 24)] [(r 234), (r 24), (ty "ValueError"), (ty "Exception"), (ty "BaseException"), (ty "object")] 233 "BadSum" true [] [] false none false)) #[(some (r 218)), none, (some (s "BadSum" 457)), (some (s "BadSum" 465)), (some (bi "ValueError.__new__")), (some (Value.bool true))])
def o235 : Obj := fo "super" [(r 234), (r 234), (r 234)]
def o236 : Obj := fo "builtin_function_or_method" [(bi "object.__init_subclass__"), (r 234)]
def T1 (P : Params) : BT := nd (boot_o_0 P) (nd (boot_o_1 P) (nd (o3_1 P) (nd (boot_o_7 P) (nd o15 (nd o31 (nd o63 (lf o127) (lf o191)) (nd o95 (lf o159) (lf o223))) (nd o47 (nd o79 (lf o143) (lf o207)) (nd o111 (lf o175) .nil))) (nd (o23 P) (nd o39 (nd o71 (lf o135) (lf o199)) (nd o103 (lf o167) (lf o231))) (nd o55 (nd (o87 P) (lf o151) (lf o215)) (nd (o119 P) (lf o183) .nil)))) (nd o11 (nd o19 (nd o35 (nd o67 (lf o131) (lf (o195 P))) (nd o99 (lf (o163 P)) (lf o227))) (nd o51 (nd o83 (lf o147) (lf o211)) (nd o115 (lf o179) .nil))) (nd o27 (nd (o43 P) (nd o75 (lf o139) (lf o203)) (nd o107 (lf o171) (lf o235))) (nd o59 (nd o91 (lf o155) (lf o219)) (nd o123 (lf o187) .nil))))) (nd (boot_o_5 P) (nd (boot_o_9 P) (nd (o17 P) (nd o33 (nd o65 (lf o129) (lf o193)) (nd o97 (lf o161) (lf o225))) (nd (o49 P) (nd (o81 P) (lf o145) (lf o209)) (nd o113 (lf o177) .nil))) (nd o25 (nd o41 (nd o73 (lf o137) (lf (o201 P))) (nd o105 (lf o169) (lf (o233 P)))) (nd o57 (nd o89 (lf o153) (lf o217)) (nd o121 (lf o185) .nil)))) (nd o13 (nd o21 (nd o37 (nd o69 (lf o133) (lf o197)) (nd o101 (lf o165) (lf o229))) (nd o53 (nd o85 (lf o149) (lf o213)) (nd o117 (lf o181) .nil))) (nd o29 (nd o45 (nd o77 (lf o141) (lf o205)) (nd o109 (lf o173) .nil)) (nd o61 (nd o93 (lf (o157 P)) (lf o221)) (nd (o125 P) (lf o189) .nil)))))) (nd (boot_o_2 P) (nd (boot_o_4 P) (nd (boot_o_8 P) (nd o16 (nd o32 (nd o64 (lf o128) (lf o192)) (nd o96 (lf o160) (lf o224))) (nd o48 (nd o80 (lf (o144 P)) (lf o208)) (nd o112 (lf (o176 P)) .nil))) (nd o24 (nd o40 (nd o72 (lf o136) (lf o200)) (nd o104 (lf o168) (lf o232))) (nd o56 (nd o88 (lf o152) (lf o216)) (nd o120 (lf o184) .nil)))) (nd o12_1 (nd o20 (nd o36 (nd (o68 P) (lf o132) (lf o196)) (nd (o100 P) (lf o164) (lf o228))) (nd o52 (nd o84 (lf o148) (lf o212)) (nd o116 (lf o180) .nil))) (nd o28 (nd o44 (nd o76 (lf o140) (lf o204)) (nd o108 (lf o172) (lf o236))) (nd o60 (nd o92 (lf o156) (lf (o220 P))) (nd o124 (lf o188) .nil))))) (nd (boot_o_6 P) (nd (boot_o_10 P) (nd o18 (nd o34 (nd o66 (lf o130) (lf o194)) (nd o98 (lf o162) (lf o226))) (nd o50 (nd o82 (lf o146) (lf o210)) (nd o114 (lf o178) .nil))) (nd o26 (nd o42 (nd o74 (lf (o138 P)) (lf o202)) (nd (o106 P) (lf o170) (lf o234))) (nd o58 (nd o90 (lf o154) (lf o218)) (nd o122 (lf o186) .nil)))) (nd o14 (nd o22 (nd o38 (nd o70 (lf o134) (lf o198)) (nd o102 (lf o166) (lf o230))) (nd o54 (nd o86 (lf o150) (lf (o214 P))) (nd o118 (lf (o182 P)) .nil))) (nd (o30 P) (nd o46 (nd o78 (lf o142) (lf o206)) (nd o110 (lf o174) .nil)) (nd (o62 P) (nd o94 (lf o158) (lf o222)) (nd o126 (lf o190) .nil))))))
def S1 (w : World) (os : OsState) : SharedT := ⟨T1 w.params, 237, (boot_heap w.params).life, #[], boot_drawn, 482, os⟩
def o3_2 (P : Params) : Obj := di [en P "__name__" 165 (s "lapseeds.errors" 187), en P "__doc__" 166 Value.none, en P "__package__" 167 Value.none, en P "__loader__" 168 (bi "__main__.__loader__#opaque"), en P "__spec__" 169 Value.none, en P "__annotations__" 170 (r 6), en P "__builtins__" 171 (r 4), en P "__file__" 173 (s "/claim/cut.py" 172), en P "__cached__" 174 Value.none, en P "LapError" 206 (r 24), en P "BadHeld" 231 (r 44), en P "BadRing" 256 (r 63), en P "BadPlayer" 281 (r 82), en P "BadPit" 306 (r 101), en P "BadEnd" 331 (r 120), en P "BadBook" 356 (r 139), en P "BadNumber" 381 (r 158), en P "BadTurn" 406 (r 177), en P "BadBoard" 431 (r 196), en P "BadRow" 456 (r 215), en P "BadSum" 481 (r 234), en P "BadShape" 506 (r 253), en P "BadRoad" 531 (r 272), en P "BadClaim" 556 (r 291), en P "BadText" 583 (r 310), en P "BadLine" 608 (r 329), en P "NoLap" 633 (r 348), en P "NoEnd" 658 (r 367), en P "NoName" 683 (r 386), en P "Unlike" 699 (r 398), en P "Nothing" 715 (r 410), en P "NotWhole" 731 (r 422), en P "TooMany" 758 (r 441)] 33
def o12_2 : Obj := fi [(i 2), (i 0), (r 20), (i 4), (i 0), (r 33), (i 8), (i 0), (r 52), (i 12), (i 0), (r 71), (i 16), (i 0), (r 90), (i 20), (i 0), (r 109), (i 24), (i 0), (r 128), (i 28), (i 0), (r 147), (i 32), (i 0), (r 166), (i 36), (i 0), (r 185), (i 40), (i 0), (r 204), (i 44), (i 0), (r 223), (i 48), (i 0), (r 242), (i 52), (i 0), (r 261), (i 56), (i 0), (r 280), (i 60), (i 0), (r 299), (i 65), (i 0), (r 318), (i 69), (i 0), (r 337), (i 73), (i 0), (r 356), (i 77), (i 0), (r 375), (i 81), (i 0), (r 394), (i 83), (i 0), (r 406), (i 85), (i 0), (r 418), (i 87), (i 0), (r 430)]
def o24_2 : Obj := (Obj.mk (ty "type") none (Data.cls (ClassData.mk "LapError" [(ty "ValueError")] [(r 24), (ty "ValueError"), (ty "Exception"), (ty "BaseException"), (ty "object")] 23 "LapError" true [] [(r 44), (r 63), (r 82), (r 101), (r 120), (r 139), (r 158), (r 177), (r 196), (r 215), (r 234), (r 253), (r 272), (r 291), (r 310), (r 329), (r 348), (r 367), (r 386), (r 398), (r 410), (r 422), (r 441)] false none false)) #[(some (r 15)), none, (some (s "LapError" 189)), (some (s "LapError" 197)), (some (bi "ValueError.__new__")), (some (Value.bool true))])
def o237 : Obj := tu [(r 24)]
def o238 : Obj := fo "builtin_function_or_method" [(bi "type.__prepare__"), (ty "type")]
def o239 (P : Params) : Obj := di [en P "__module__" 489 (s "lapseeds.errors" 187), en P "__qualname__" 491 (s "BadShape" 490), en P "__firstlineno__" 493 (Value.int 48 492), en P "__init__" 501 (r 250), en P "__static_attributes__" 503 (r 251)] 5
def o240 : Obj := tu []
def o241 : Obj := fi [(i 50), (i 4), (r 249)]
def o242 : Obj := fo "code" [(s "BadShape" 484), (s "BadShape" 485), (s "/claim/cut.py" 486), (i 48), (i 0), (i 0), (i 0), (i 0), (r 240), (Value.bool false), (i 181), (r 241), Value.none, Value.none, Value.none, Value.none, (i 487), (i 48), (s "/claim/cut.py" 488)]
def o243 : Obj := (Obj.mk (ty "frame") none Data.plain #[(some (r 242)), (some (r 3)), (some (r 239)), none, (some (s "lapseeds.errors" 187)), none, (some (r 0))])
def o244 : Obj := tu []
def o245 : Obj := fi []
def o246 : Obj := tu [(s "self" 497), (s "part" 498)]
def o247 : Obj := tu []
def o248 : Obj := fu Value.none "__init__" "BadShape.__init__" d11 0 [] Value.none Value.none Value.none Value.none none Value.none Value.none 0
def o249 : Obj := fo "code" [(s "__init__" 494), (s "BadShape.__init__" 495), (s "/claim/cut.py" 496), (i 50), (i 2), (i 0), (i 0), (i 3), (r 244), (Value.bool true), (i 181), (r 245), Value.none, (r 246), (r 247), (r 248), (i 499), (i 50), (s "/claim/cut.py" 500)]
def o250 : Obj := fu (ty "function") "__init__" "BadShape.__init__" d11 3 [] Value.none Value.none Value.none (s "lapseeds.errors" 187) none (r 249) Value.none 0
def o251 : Obj := tu [(s "part" 502)]
def o252 (P : Params) : Obj := di [en P "__module__" 489 (s "lapseeds.errors" 187), en P "__firstlineno__" 493 (Value.int 48 492), en P "__init__" 501 (r 250), en P "__static_attributes__" 503 (r 251), en P "__doc__" 504 Value.none] 2
def o253 : Obj := (Obj.mk (ty "type") none (Data.cls (ClassData.mk "BadShape" [(r 24)] [(r 253), (r 24), (ty "ValueError"), (ty "Exception"), (ty "BaseException"), (ty "object")] 252 "BadShape" true [] [] false none false)) #[(some (r 237)), none, (some (s "BadShape" 482)), (some (s "BadShape" 490)), (some (bi "ValueError.__new__")), (some (Value.bool true))])
def o254 : Obj := fo "super" [(r 253), (r 253), (r 253)]
def o255 : Obj := fo "builtin_function_or_method" [(bi "object.__init_subclass__"), (r 253)]
def o256 : Obj := tu [(r 24)]
def o257 : Obj := fo "builtin_function_or_method" [(bi "type.__prepare__"), (ty "type")]
def o258 (P : Params) : Obj := di [en P "__module__" 514 (s "lapseeds.errors" 187), en P "__qualname__" 516 (s "BadRoad" 515), en P "__firstlineno__" 518 (Value.int 52 517), en P "__init__" 526 (r 269), en P "__static_attributes__" 528 (r 270)] 5
def o259 : Obj := tu []
def o260 : Obj := fi [(i 54), (i 4), (r 268)]
def o261 : Obj := fo "code" [(s "BadRoad" 509), (s "BadRoad" 510), (s "/claim/cut.py" 511), (i 52), (i 0), (i 0), (i 0), (i 0), (r 259), (Value.bool false), (i 181), (r 260), Value.none, Value.none, Value.none, Value.none, (i 512), (i 52), (s "/claim/cut.py" 513)]
def o262 : Obj := (Obj.mk (ty "frame") none Data.plain #[(some (r 261)), (some (r 3)), (some (r 258)), none, (some (s "lapseeds.errors" 187)), none, (some (r 0))])
def o263 : Obj := tu []
def o264 : Obj := fi []
def o265 : Obj := tu [(s "self" 522), (s "part" 523)]
def o266 : Obj := tu []
def o267 : Obj := fu Value.none "__init__" "BadRoad.__init__" d12 0 [] Value.none Value.none Value.none Value.none none Value.none Value.none 0
def o268 : Obj := fo "code" [(s "__init__" 519), (s "BadRoad.__init__" 520), (s "/claim/cut.py" 521), (i 54), (i 2), (i 0), (i 0), (i 3), (r 263), (Value.bool true), (i 181), (r 264), Value.none, (r 265), (r 266), (r 267), (i 524), (i 54), (s "/claim/cut.py" 525)]
def o269 : Obj := fu (ty "function") "__init__" "BadRoad.__init__" d12 3 [] Value.none Value.none Value.none (s "lapseeds.errors" 187) none (r 268) Value.none 0
def o270 : Obj := tu [(s "part" 527)]
def o271 (P : Params) : Obj := di [en P "__module__" 514 (s "lapseeds.errors" 187), en P "__firstlineno__" 518 (Value.int 52 517), en P "__init__" 526 (r 269), en P "__static_attributes__" 528 (r 270), en P "__doc__" 529 Value.none] 2
def o272 : Obj := (Obj.mk (ty "type") none (Data.cls (ClassData.mk "BadRoad" [(r 24)] [(r 272), (r 24), (ty "ValueError"), (ty "Exception"), (ty "BaseException"), (ty "object")] 271 "BadRoad" true [] [] false none false)) #[(some (r 256)), none, (some (s "BadRoad" 507)), (some (s "BadRoad" 515)), (some (bi "ValueError.__new__")), (some (Value.bool true))])
def o273 : Obj := fo "super" [(r 272), (r 272), (r 272)]
def o274 : Obj := fo "builtin_function_or_method" [(bi "object.__init_subclass__"), (r 272)]
def o275 : Obj := tu [(r 24)]
def o276 : Obj := fo "builtin_function_or_method" [(bi "type.__prepare__"), (ty "type")]
def o277 (P : Params) : Obj := di [en P "__module__" 539 (s "lapseeds.errors" 187), en P "__qualname__" 541 (s "BadClaim" 540), en P "__firstlineno__" 543 (Value.int 56 542), en P "__init__" 551 (r 288), en P "__static_attributes__" 553 (r 289)] 5
def o278 : Obj := tu []
def o279 : Obj := fi [(i 58), (i 4), (r 287)]
def o280 : Obj := fo "code" [(s "BadClaim" 534), (s "BadClaim" 535), (s "/claim/cut.py" 536), (i 56), (i 0), (i 0), (i 0), (i 0), (r 278), (Value.bool false), (i 181), (r 279), Value.none, Value.none, Value.none, Value.none, (i 537), (i 56), (s "/claim/cut.py" 538)]
def o281 : Obj := (Obj.mk (ty "frame") none Data.plain #[(some (r 280)), (some (r 3)), (some (r 277)), none, (some (s "lapseeds.errors" 187)), none, (some (r 0))])
def o282 : Obj := tu []
def o283 : Obj := fi []
def o284 : Obj := tu [(s "self" 547), (s "part" 548)]
def o285 : Obj := tu []
def o286 : Obj := fu Value.none "__init__" "BadClaim.__init__" d13 0 [] Value.none Value.none Value.none Value.none none Value.none Value.none 0
def o287 : Obj := fo "code" [(s "__init__" 544), (s "BadClaim.__init__" 545), (s "/claim/cut.py" 546), (i 58), (i 2), (i 0), (i 0), (i 3), (r 282), (Value.bool true), (i 181), (r 283), Value.none, (r 284), (r 285), (r 286), (i 549), (i 58), (s "/claim/cut.py" 550)]
def o288 : Obj := fu (ty "function") "__init__" "BadClaim.__init__" d13 3 [] Value.none Value.none Value.none (s "lapseeds.errors" 187) none (r 287) Value.none 0
def o289 : Obj := tu [(s "part" 552)]
def o290 (P : Params) : Obj := di [en P "__module__" 539 (s "lapseeds.errors" 187), en P "__firstlineno__" 543 (Value.int 56 542), en P "__init__" 551 (r 288), en P "__static_attributes__" 553 (r 289), en P "__doc__" 554 Value.none] 2
def o291 : Obj := (Obj.mk (ty "type") none (Data.cls (ClassData.mk "BadClaim" [(r 24)] [(r 291), (r 24), (ty "ValueError"), (ty "Exception"), (ty "BaseException"), (ty "object")] 290 "BadClaim" true [] [] false none false)) #[(some (r 275)), none, (some (s "BadClaim" 532)), (some (s "BadClaim" 540)), (some (bi "ValueError.__new__")), (some (Value.bool true))])
def o292 : Obj := fo "super" [(r 291), (r 291), (r 291)]
def o293 : Obj := fo "builtin_function_or_method" [(bi "object.__init_subclass__"), (r 291)]
def o294 : Obj := tu [(r 24)]
def o295 : Obj := fo "builtin_function_or_method" [(bi "type.__prepare__"), (ty "type")]
def o296 (P : Params) : Obj := di [en P "__module__" 564 (s "lapseeds.errors" 187), en P "__qualname__" 566 (s "BadText" 565), en P "__firstlineno__" 568 (Value.int 60 567), en P "__init__" 577 (r 307), en P "__static_attributes__" 580 (r 308)] 5
def o297 : Obj := tu []
def o298 : Obj := fi [(i 62), (i 4), (r 306)]
def o299 : Obj := fo "code" [(s "BadText" 559), (s "BadText" 560), (s "/claim/cut.py" 561), (i 60), (i 0), (i 0), (i 0), (i 0), (r 297), (Value.bool false), (i 181), (r 298), Value.none, Value.none, Value.none, Value.none, (i 562), (i 60), (s "/claim/cut.py" 563)]
def o300 : Obj := (Obj.mk (ty "frame") none Data.plain #[(some (r 299)), (some (r 3)), (some (r 296)), none, (some (s "lapseeds.errors" 187)), none, (some (r 0))])
def o301 : Obj := tu []
def o302 : Obj := fi []
def o303 : Obj := tu [(s "self" 572), (s "line" 573), (s "word" 574)]
def o304 : Obj := tu []
def o305 : Obj := fu Value.none "__init__" "BadText.__init__" d14 0 [] Value.none Value.none Value.none Value.none none Value.none Value.none 0
def o306 : Obj := fo "code" [(s "__init__" 569), (s "BadText.__init__" 570), (s "/claim/cut.py" 571), (i 62), (i 3), (i 0), (i 0), (i 3), (r 301), (Value.bool true), (i 181), (r 302), Value.none, (r 303), (r 304), (r 305), (i 575), (i 62), (s "/claim/cut.py" 576)]
def o307 : Obj := fu (ty "function") "__init__" "BadText.__init__" d14 3 [] Value.none Value.none Value.none (s "lapseeds.errors" 187) none (r 306) Value.none 0
def o308 : Obj := tu [(s "line" 578), (s "word" 579)]
def o309 (P : Params) : Obj := di [en P "__module__" 564 (s "lapseeds.errors" 187), en P "__firstlineno__" 568 (Value.int 60 567), en P "__init__" 577 (r 307), en P "__static_attributes__" 580 (r 308), en P "__doc__" 581 Value.none] 2
def o310 : Obj := (Obj.mk (ty "type") none (Data.cls (ClassData.mk "BadText" [(r 24)] [(r 310), (r 24), (ty "ValueError"), (ty "Exception"), (ty "BaseException"), (ty "object")] 309 "BadText" true [] [] false none false)) #[(some (r 294)), none, (some (s "BadText" 557)), (some (s "BadText" 565)), (some (bi "ValueError.__new__")), (some (Value.bool true))])
def o311 : Obj := fo "super" [(r 310), (r 310), (r 310)]
def o312 : Obj := fo "builtin_function_or_method" [(bi "object.__init_subclass__"), (r 310)]
def o313 : Obj := tu [(r 24)]
def o314 : Obj := fo "builtin_function_or_method" [(bi "type.__prepare__"), (ty "type")]
def o315 (P : Params) : Obj := di [en P "__module__" 591 (s "lapseeds.errors" 187), en P "__qualname__" 593 (s "BadLine" 592), en P "__firstlineno__" 595 (Value.int 65 594), en P "__init__" 603 (r 326), en P "__static_attributes__" 605 (r 327)] 5
def o316 : Obj := tu []
def o317 : Obj := fi [(i 67), (i 4), (r 325)]
def o318 : Obj := fo "code" [(s "BadLine" 586), (s "BadLine" 587), (s "/claim/cut.py" 588), (i 65), (i 0), (i 0), (i 0), (i 0), (r 316), (Value.bool false), (i 181), (r 317), Value.none, Value.none, Value.none, Value.none, (i 589), (i 65), (s "/claim/cut.py" 590)]
def o319 : Obj := (Obj.mk (ty "frame") none Data.plain #[(some (r 318)), (some (r 3)), (some (r 315)), none, (some (s "lapseeds.errors" 187)), none, (some (r 0))])
def o320 : Obj := tu []
def o321 : Obj := fi []
def o322 : Obj := tu [(s "self" 599), (s "word" 600)]
def o323 : Obj := tu []
def o324 : Obj := fu Value.none "__init__" "BadLine.__init__" d15 0 [] Value.none Value.none Value.none Value.none none Value.none Value.none 0
def o325 : Obj := fo "code" [(s "__init__" 596), (s "BadLine.__init__" 597), (s "/claim/cut.py" 598), (i 67), (i 2), (i 0), (i 0), (i 3), (r 320), (Value.bool true), (i 181), (r 321), Value.none, (r 322), (r 323), (r 324), (i 601), (i 67), (s "/claim/cut.py" 602)]
def o326 : Obj := fu (ty "function") "__init__" "BadLine.__init__" d15 3 [] Value.none Value.none Value.none (s "lapseeds.errors" 187) none (r 325) Value.none 0
def o327 : Obj := tu [(s "word" 604)]
def o328 (P : Params) : Obj := di [en P "__module__" 591 (s "lapseeds.errors" 187), en P "__firstlineno__" 595 (Value.int 65 594), en P "__init__" 603 (r 326), en P "__static_attributes__" 605 (r 327), en P "__doc__" 606 Value.none] 2
def o329 : Obj := (Obj.mk (ty "type") none (Data.cls (ClassData.mk "BadLine" [(r 24)] [(r 329), (r 24), (ty "ValueError"), (ty "Exception"), (ty "BaseException"), (ty "object")] 328 "BadLine" true [] [] false none false)) #[(some (r 313)), none, (some (s "BadLine" 584)), (some (s "BadLine" 592)), (some (bi "ValueError.__new__")), (some (Value.bool true))])
def o330 : Obj := fo "super" [(r 329), (r 329), (r 329)]
def o331 : Obj := fo "builtin_function_or_method" [(bi "object.__init_subclass__"), (r 329)]
def o332 : Obj := tu [(r 24)]
def o333 : Obj := fo "builtin_function_or_method" [(bi "type.__prepare__"), (ty "type")]
def o334 (P : Params) : Obj := di [en P "__module__" 616 (s "lapseeds.errors" 187), en P "__qualname__" 618 (s "NoLap" 617), en P "__firstlineno__" 620 (Value.int 69 619), en P "__init__" 628 (r 345), en P "__static_attributes__" 630 (r 346)] 5
def o335 : Obj := tu []
def o336 : Obj := fi [(i 71), (i 4), (r 344)]
def o337 : Obj := fo "code" [(s "NoLap" 611), (s "NoLap" 612), (s "/claim/cut.py" 613), (i 69), (i 0), (i 0), (i 0), (i 0), (r 335), (Value.bool false), (i 181), (r 336), Value.none, Value.none, Value.none, Value.none, (i 614), (i 69), (s "/claim/cut.py" 615)]
def o338 : Obj := (Obj.mk (ty "frame") none Data.plain #[(some (r 337)), (some (r 3)), (some (r 334)), none, (some (s "lapseeds.errors" 187)), none, (some (r 0))])
def o339 : Obj := tu []
def o340 : Obj := fi []
def o341 : Obj := tu [(s "self" 624), (s "pit" 625)]
def o342 : Obj := tu []
def o343 : Obj := fu Value.none "__init__" "NoLap.__init__" d16 0 [] Value.none Value.none Value.none Value.none none Value.none Value.none 0
def o344 : Obj := fo "code" [(s "__init__" 621), (s "NoLap.__init__" 622), (s "/claim/cut.py" 623), (i 71), (i 2), (i 0), (i 0), (i 3), (r 339), (Value.bool true), (i 181), (r 340), Value.none, (r 341), (r 342), (r 343), (i 626), (i 71), (s "/claim/cut.py" 627)]
def o345 : Obj := fu (ty "function") "__init__" "NoLap.__init__" d16 3 [] Value.none Value.none Value.none (s "lapseeds.errors" 187) none (r 344) Value.none 0
def o346 : Obj := tu [(s "pit" 629)]
def o347 (P : Params) : Obj := di [en P "__module__" 616 (s "lapseeds.errors" 187), en P "__firstlineno__" 620 (Value.int 69 619), en P "__init__" 628 (r 345), en P "__static_attributes__" 630 (r 346), en P "__doc__" 631 Value.none] 2
def o348 : Obj := (Obj.mk (ty "type") none (Data.cls (ClassData.mk "NoLap" [(r 24)] [(r 348), (r 24), (ty "ValueError"), (ty "Exception"), (ty "BaseException"), (ty "object")] 347 "NoLap" true [] [] false none false)) #[(some (r 332)), none, (some (s "NoLap" 609)), (some (s "NoLap" 617)), (some (bi "ValueError.__new__")), (some (Value.bool true))])
def o349 : Obj := fo "super" [(r 348), (r 348), (r 348)]
def o350 : Obj := fo "builtin_function_or_method" [(bi "object.__init_subclass__"), (r 348)]
def o351 : Obj := tu [(r 24)]
def o352 : Obj := fo "builtin_function_or_method" [(bi "type.__prepare__"), (ty "type")]
def o353 (P : Params) : Obj := di [en P "__module__" 641 (s "lapseeds.errors" 187), en P "__qualname__" 643 (s "NoEnd" 642), en P "__firstlineno__" 645 (Value.int 73 644), en P "__init__" 653 (r 364), en P "__static_attributes__" 655 (r 365)] 5
def o354 : Obj := tu []
def o355 : Obj := fi [(i 75), (i 4), (r 363)]
def o356 : Obj := fo "code" [(s "NoEnd" 636), (s "NoEnd" 637), (s "/claim/cut.py" 638), (i 73), (i 0), (i 0), (i 0), (i 0), (r 354), (Value.bool false), (i 181), (r 355), Value.none, Value.none, Value.none, Value.none, (i 639), (i 73), (s "/claim/cut.py" 640)]
def o357 : Obj := (Obj.mk (ty "frame") none Data.plain #[(some (r 356)), (some (r 3)), (some (r 353)), none, (some (s "lapseeds.errors" 187)), none, (some (r 0))])
def o358 : Obj := tu []
def o359 : Obj := fi []
def o360 : Obj := tu [(s "self" 649), (s "at" 650)]
def o361 : Obj := tu []
def o362 : Obj := fu Value.none "__init__" "NoEnd.__init__" d17 0 [] Value.none Value.none Value.none Value.none none Value.none Value.none 0
def o363 : Obj := fo "code" [(s "__init__" 646), (s "NoEnd.__init__" 647), (s "/claim/cut.py" 648), (i 75), (i 2), (i 0), (i 0), (i 3), (r 358), (Value.bool true), (i 181), (r 359), Value.none, (r 360), (r 361), (r 362), (i 651), (i 75), (s "/claim/cut.py" 652)]
def o364 : Obj := fu (ty "function") "__init__" "NoEnd.__init__" d17 3 [] Value.none Value.none Value.none (s "lapseeds.errors" 187) none (r 363) Value.none 0
def o365 : Obj := tu [(s "at" 654)]
def o366 (P : Params) : Obj := di [en P "__module__" 641 (s "lapseeds.errors" 187), en P "__firstlineno__" 645 (Value.int 73 644), en P "__init__" 653 (r 364), en P "__static_attributes__" 655 (r 365), en P "__doc__" 656 Value.none] 2
def o367 : Obj := (Obj.mk (ty "type") none (Data.cls (ClassData.mk "NoEnd" [(r 24)] [(r 367), (r 24), (ty "ValueError"), (ty "Exception"), (ty "BaseException"), (ty "object")] 366 "NoEnd" true [] [] false none false)) #[(some (r 351)), none, (some (s "NoEnd" 634)), (some (s "NoEnd" 642)), (some (bi "ValueError.__new__")), (some (Value.bool true))])
def o368 : Obj := fo "super" [(r 367), (r 367), (r 367)]
def o369 : Obj := fo "builtin_function_or_method" [(bi "object.__init_subclass__"), (r 367)]
def o370 : Obj := tu [(r 24)]
def o371 : Obj := fo "builtin_function_or_method" [(bi "type.__prepare__"), (ty "type")]
def o372 (P : Params) : Obj := di [en P "__module__" 666 (s "lapseeds.errors" 187), en P "__qualname__" 668 (s "NoName" 667), en P "__firstlineno__" 670 (Value.int 77 669), en P "__init__" 678 (r 383), en P "__static_attributes__" 680 (r 384)] 5
def o373 : Obj := tu []
def o374 : Obj := fi [(i 79), (i 4), (r 382)]
def o375 : Obj := fo "code" [(s "NoName" 661), (s "NoName" 662), (s "/claim/cut.py" 663), (i 77), (i 0), (i 0), (i 0), (i 0), (r 373), (Value.bool false), (i 181), (r 374), Value.none, Value.none, Value.none, Value.none, (i 664), (i 77), (s "/claim/cut.py" 665)]
def o376 : Obj := (Obj.mk (ty "frame") none Data.plain #[(some (r 375)), (some (r 3)), (some (r 372)), none, (some (s "lapseeds.errors" 187)), none, (some (r 0))])
def o377 : Obj := tu []
def o378 : Obj := fi []
def o379 : Obj := tu [(s "self" 674), (s "name" 675)]
def o380 : Obj := tu []
def o381 : Obj := fu Value.none "__init__" "NoName.__init__" d18 0 [] Value.none Value.none Value.none Value.none none Value.none Value.none 0
def o382 : Obj := fo "code" [(s "__init__" 671), (s "NoName.__init__" 672), (s "/claim/cut.py" 673), (i 79), (i 2), (i 0), (i 0), (i 3), (r 377), (Value.bool true), (i 181), (r 378), Value.none, (r 379), (r 380), (r 381), (i 676), (i 79), (s "/claim/cut.py" 677)]
def o383 : Obj := fu (ty "function") "__init__" "NoName.__init__" d18 3 [] Value.none Value.none Value.none (s "lapseeds.errors" 187) none (r 382) Value.none 0
def o384 : Obj := tu [(s "name" 679)]
def o385 (P : Params) : Obj := di [en P "__module__" 666 (s "lapseeds.errors" 187), en P "__firstlineno__" 670 (Value.int 77 669), en P "__init__" 678 (r 383), en P "__static_attributes__" 680 (r 384), en P "__doc__" 681 Value.none] 2
def o386 : Obj := (Obj.mk (ty "type") none (Data.cls (ClassData.mk "NoName" [(r 24)] [(r 386), (r 24), (ty "ValueError"), (ty "Exception"), (ty "BaseException"), (ty "object")] 385 "NoName" true [] [] false none false)) #[(some (r 370)), none, (some (s "NoName" 659)), (some (s "NoName" 667)), (some (bi "ValueError.__new__")), (some (Value.bool true))])
def o387 : Obj := fo "super" [(r 386), (r 386), (r 386)]
def o388 : Obj := fo "builtin_function_or_method" [(bi "object.__init_subclass__"), (r 386)]
def o389 : Obj := tu [(r 24)]
def o390 : Obj := fo "builtin_function_or_method" [(bi "type.__prepare__"), (ty "type")]
def o391 (P : Params) : Obj := di [en P "__module__" 691 (s "lapseeds.errors" 187), en P "__qualname__" 693 (s "Unlike" 692), en P "__firstlineno__" 695 (Value.int 81 694), en P "__static_attributes__" 696 (r 396)] 4
def o392 : Obj := tu []
def o393 : Obj := fi []
def o394 : Obj := fo "code" [(s "Unlike" 686), (s "Unlike" 687), (s "/claim/cut.py" 688), (i 81), (i 0), (i 0), (i 0), (i 0), (r 392), (Value.bool false), (i 181), (r 393), Value.none, Value.none, Value.none, Value.none, (i 689), (i 81), (s "/claim/cut.py" 690)]
def o395 : Obj := (Obj.mk (ty "frame") none Data.plain #[(some (r 394)), (some (r 3)), (some (r 391)), none, (some (s "lapseeds.errors" 187)), none, (some (r 0))])
def o396 : Obj := tu []
def o397 (P : Params) : Obj := di [en P "__module__" 691 (s "lapseeds.errors" 187), en P "__firstlineno__" 695 (Value.int 81 694), en P "__static_attributes__" 696 (r 396), en P "__doc__" 697 Value.none] 2
def o398 : Obj := (Obj.mk (ty "type") none (Data.cls (ClassData.mk "Unlike" [(r 24)] [(r 398), (r 24), (ty "ValueError"), (ty "Exception"), (ty "BaseException"), (ty "object")] 397 "Unlike" true [] [] false none false)) #[(some (r 389)), none, (some (s "Unlike" 684)), (some (s "Unlike" 692)), (some (bi "ValueError.__new__")), (some (Value.bool true))])
def o399 : Obj := fo "super" [(r 398), (r 398), (r 398)]
def o400 : Obj := fo "builtin_function_or_method" [(bi "object.__init_subclass__"), (r 398)]
def o401 : Obj := tu [(r 24)]
def o402 : Obj := fo "builtin_function_or_method" [(bi "type.__prepare__"), (ty "type")]
def o403 (P : Params) : Obj := di [en P "__module__" 707 (s "lapseeds.errors" 187), en P "__qualname__" 709 (s "Nothing" 708), en P "__firstlineno__" 711 (Value.int 83 710), en P "__static_attributes__" 712 (r 408)] 4
def o404 : Obj := tu []
def o405 : Obj := fi []
def o406 : Obj := fo "code" [(s "Nothing" 702), (s "Nothing" 703), (s "/claim/cut.py" 704), (i 83), (i 0), (i 0), (i 0), (i 0), (r 404), (Value.bool false), (i 181), (r 405), Value.none, Value.none, Value.none, Value.none, (i 705), (i 83), (s "/claim/cut.py" 706)]
def o407 : Obj := (Obj.mk (ty "frame") none Data.plain #[(some (r 406)), (some (r 3)), (some (r 403)), none, (some (s "lapseeds.errors" 187)), none, (some (r 0))])
def o408 : Obj := tu []
def o409 (P : Params) : Obj := di [en P "__module__" 707 (s "lapseeds.errors" 187), en P "__firstlineno__" 711 (Value.int 83 710), en P "__static_attributes__" 712 (r 408), en P "__doc__" 713 Value.none] 2
def o410 : Obj := (Obj.mk (ty "type") none (Data.cls (ClassData.mk "Nothing" [(r 24)] [(r 410), (r 24), (ty "ValueError"), (ty "Exception"), (ty "BaseException"), (ty "object")] 409 "Nothing" true [] [] false none false)) #[(some (r 401)), none, (some (s "Nothing" 700)), (some (s "Nothing" 708)), (some (bi "ValueError.__new__")), (some (Value.bool true))])
def o411 : Obj := fo "super" [(r 410), (r 410), (r 410)]
def o412 : Obj := fo "builtin_function_or_method" [(bi "object.__init_subclass__"), (r 410)]
def o413 : Obj := tu [(r 24)]
def o414 : Obj := fo "builtin_function_or_method" [(bi "type.__prepare__"), (ty "type")]
def o415 (P : Params) : Obj := di [en P "__module__" 723 (s "lapseeds.errors" 187), en P "__qualname__" 725 (s "NotWhole" 724), en P "__firstlineno__" 727 (Value.int 85 726), en P "__static_attributes__" 728 (r 420)] 4
def o416 : Obj := tu []
def o417 : Obj := fi []
def o418 : Obj := fo "code" [(s "NotWhole" 718), (s "NotWhole" 719), (s "/claim/cut.py" 720), (i 85), (i 0), (i 0), (i 0), (i 0), (r 416), (Value.bool false), (i 181), (r 417), Value.none, Value.none, Value.none, Value.none, (i 721), (i 85), (s "/claim/cut.py" 722)]
def o419 : Obj := (Obj.mk (ty "frame") none Data.plain #[(some (r 418)), (some (r 3)), (some (r 415)), none, (some (s "lapseeds.errors" 187)), none, (some (r 0))])
def o420 : Obj := tu []
def o421 (P : Params) : Obj := di [en P "__module__" 723 (s "lapseeds.errors" 187), en P "__firstlineno__" 727 (Value.int 85 726), en P "__static_attributes__" 728 (r 420), en P "__doc__" 729 Value.none] 2
def o422 : Obj := (Obj.mk (ty "type") none (Data.cls (ClassData.mk "NotWhole" [(r 24)] [(r 422), (r 24), (ty "ValueError"), (ty "Exception"), (ty "BaseException"), (ty "object")] 421 "NotWhole" true [] [] false none false)) #[(some (r 413)), none, (some (s "NotWhole" 716)), (some (s "NotWhole" 724)), (some (bi "ValueError.__new__")), (some (Value.bool true))])
def o423 : Obj := fo "super" [(r 422), (r 422), (r 422)]
def o424 : Obj := fo "builtin_function_or_method" [(bi "object.__init_subclass__"), (r 422)]
def o425 : Obj := tu [(r 24)]
def o426 : Obj := fo "builtin_function_or_method" [(bi "type.__prepare__"), (ty "type")]
def o427 (P : Params) : Obj := di [en P "__module__" 739 (s "lapseeds.errors" 187), en P "__qualname__" 741 (s "TooMany" 740), en P "__firstlineno__" 743 (Value.int 87 742), en P "__init__" 752 (r 438), en P "__static_attributes__" 755 (r 439)] 5
def o428 : Obj := tu []
def o429 : Obj := fi [(i 89), (i 4), (r 437)]
def o430 : Obj := fo "code" [(s "TooMany" 734), (s "TooMany" 735), (s "/claim/cut.py" 736), (i 87), (i 0), (i 0), (i 0), (i 0), (r 428), (Value.bool false), (i 181), (r 429), Value.none, Value.none, Value.none, Value.none, (i 737), (i 87), (s "/claim/cut.py" 738)]
def o431 : Obj := (Obj.mk (ty "frame") none Data.plain #[(some (r 430)), (some (r 3)), (some (r 427)), none, (some (s "lapseeds.errors" 187)), none, (some (r 0))])
def o432 : Obj := tu []
def o433 : Obj := fi []
def o434 : Obj := tu [(s "self" 747), (s "what" 748), (s "most" 749)]
def o435 : Obj := tu []
def o436 : Obj := fu Value.none "__init__" "TooMany.__init__" d19 0 [] Value.none Value.none Value.none Value.none none Value.none Value.none 0
def o437 : Obj := fo "code" [(s "__init__" 744), (s "TooMany.__init__" 745), (s "/claim/cut.py" 746), (i 89), (i 3), (i 0), (i 0), (i 3), (r 432), (Value.bool true), (i 181), (r 433), Value.none, (r 434), (r 435), (r 436), (i 750), (i 89), (s "/claim/cut.py" 751)]
def o438 : Obj := fu (ty "function") "__init__" "TooMany.__init__" d19 3 [] Value.none Value.none Value.none (s "lapseeds.errors" 187) none (r 437) Value.none 0
def o439 : Obj := tu [(s "most" 753), (s "what" 754)]
def o440 (P : Params) : Obj := di [en P "__module__" 739 (s "lapseeds.errors" 187), en P "__firstlineno__" 743 (Value.int 87 742), en P "__init__" 752 (r 438), en P "__static_attributes__" 755 (r 439), en P "__doc__" 756 Value.none] 2
def o441 : Obj := (Obj.mk (ty "type") none (Data.cls (ClassData.mk "TooMany" [(r 24)] [(r 441), (r 24), (ty "ValueError"), (ty "Exception"), (ty "BaseException"), (ty "object")] 440 "TooMany" true [] [] false none false)) #[(some (r 425)), none, (some (s "TooMany" 732)), (some (s "TooMany" 740)), (some (bi "ValueError.__new__")), (some (Value.bool true))])
def o442 : Obj := fo "super" [(r 441), (r 441), (r 441)]
def o443 : Obj := fo "builtin_function_or_method" [(bi "object.__init_subclass__"), (r 441)]
def T2 (P : Params) : BT := nd (boot_o_0 P) (nd (boot_o_1 P) (nd (o3_2 P) (nd (boot_o_7 P) (nd o15 (nd o31 (nd o63 (nd o127 (lf o255) (lf o383)) (nd o191 (lf o319) .nil)) (nd o95 (nd o159 (lf o287) (lf (o415 P))) (nd o223 (lf o351) .nil))) (nd o47 (nd o79 (nd o143 (lf (o271 P)) (lf o399)) (nd o207 (lf o335) .nil)) (nd o111 (nd o175 (lf o303) (lf o431)) (nd (o239 P) (lf o367) .nil)))) (nd (o23 P) (nd o39 (nd o71 (nd o135 (lf o263) (lf (o391 P))) (nd o199 (lf o327) .nil)) (nd o103 (nd o167 (lf o295) (lf o423)) (nd o231 (lf o359) .nil))) (nd o55 (nd (o87 P) (nd o151 (lf o279) (lf o407)) (nd o215 (lf o343) .nil)) (nd (o119 P) (nd o183 (lf o311) (lf o439)) (nd o247 (lf o375) .nil))))) (nd o11 (nd o19 (nd o35 (nd o67 (nd o131 (lf o259) (lf o387)) (nd (o195 P) (lf o323) .nil)) (nd o99 (nd (o163 P) (lf o291) (lf o419)) (nd o227 (lf o355) .nil))) (nd o51 (nd o83 (nd o147 (lf o275) (lf (o403 P))) (nd o211 (lf o339) .nil)) (nd o115 (nd o179 (lf o307) (lf o435)) (nd o243 (lf o371) .nil)))) (nd o27 (nd (o43 P) (nd o75 (nd o139 (lf o267) (lf o395)) (nd o203 (lf o331) .nil)) (nd o107 (nd o171 (lf o299) (lf (o427 P))) (nd o235 (lf o363) .nil))) (nd o59 (nd o91 (nd o155 (lf o283) (lf o411)) (nd o219 (lf (o347 P)) .nil)) (nd o123 (nd o187 (lf (o315 P)) (lf o443)) (nd o251 (lf o379) .nil)))))) (nd (boot_o_5 P) (nd (boot_o_9 P) (nd (o17 P) (nd o33 (nd o65 (nd o129 (lf o257) (lf (o385 P))) (nd o193 (lf o321) .nil)) (nd o97 (nd o161 (lf o289) (lf o417)) (nd o225 (lf (o353 P)) .nil))) (nd (o49 P) (nd (o81 P) (nd o145 (lf o273) (lf o401)) (nd o209 (lf o337) .nil)) (nd o113 (nd o177 (lf o305) (lf o433)) (nd o241 (lf o369) .nil)))) (nd o25 (nd o41 (nd o73 (nd o137 (lf o265) (lf o393)) (nd (o201 P) (lf o329) .nil)) (nd o105 (nd o169 (lf o297) (lf o425)) (nd (o233 P) (lf o361) .nil))) (nd o57 (nd o89 (nd o153 (lf o281) (lf (o409 P))) (nd o217 (lf o345) .nil)) (nd o121 (nd o185 (lf o313) (lf o441)) (nd o249 (lf o377) .nil))))) (nd o13 (nd o21 (nd o37 (nd o69 (nd o133 (lf o261) (lf o389)) (nd o197 (lf o325) .nil)) (nd o101 (nd o165 (lf o293) (lf (o421 P))) (nd o229 (lf o357) .nil))) (nd o53 (nd o85 (nd o149 (lf (o277 P)) (lf o405)) (nd o213 (lf o341) .nil)) (nd o117 (nd o181 (lf (o309 P)) (lf o437)) (nd o245 (lf o373) .nil)))) (nd o29 (nd o45 (nd o77 (nd o141 (lf o269) (lf (o397 P))) (nd o205 (lf o333) .nil)) (nd o109 (nd o173 (lf o301) (lf o429)) (nd o237 (lf o365) .nil))) (nd o61 (nd o93 (nd (o157 P) (lf o285) (lf o413)) (nd o221 (lf o349) .nil)) (nd (o125 P) (nd o189 (lf o317) .nil) (nd o253 (lf o381) .nil))))))) (nd (boot_o_2 P) (nd (boot_o_4 P) (nd (boot_o_8 P) (nd o16 (nd o32 (nd o64 (nd o128 (lf o256) (lf o384)) (nd o192 (lf o320) .nil)) (nd o96 (nd o160 (lf o288) (lf o416)) (nd o224 (lf o352) .nil))) (nd o48 (nd o80 (nd (o144 P) (lf o272) (lf o400)) (nd o208 (lf o336) .nil)) (nd o112 (nd (o176 P) (lf o304) (lf o432)) (nd o240 (lf o368) .nil)))) (nd o24_2 (nd o40 (nd o72 (nd o136 (lf o264) (lf o392)) (nd o200 (lf (o328 P)) .nil)) (nd o104 (nd o168 (lf (o296 P)) (lf o424)) (nd o232 (lf o360) .nil))) (nd o56 (nd o88 (nd o152 (lf o280) (lf o408)) (nd o216 (lf o344) .nil)) (nd o120 (nd o184 (lf o312) (lf (o440 P))) (nd o248 (lf o376) .nil))))) (nd o12_2 (nd o20 (nd o36 (nd (o68 P) (nd o132 (lf o260) (lf o388)) (nd o196 (lf o324) .nil)) (nd (o100 P) (nd o164 (lf o292) (lf o420)) (nd o228 (lf o356) .nil))) (nd o52 (nd o84 (nd o148 (lf o276) (lf o404)) (nd o212 (lf o340) .nil)) (nd o116 (nd o180 (lf o308) (lf o436)) (nd o244 (lf (o372 P)) .nil)))) (nd o28 (nd o44 (nd o76 (nd o140 (lf o268) (lf o396)) (nd o204 (lf o332) .nil)) (nd o108 (nd o172 (lf o300) (lf o428)) (nd o236 (lf o364) .nil))) (nd o60 (nd o92 (nd o156 (lf o284) (lf o412)) (nd (o220 P) (lf o348) .nil)) (nd o124 (nd o188 (lf o316) .nil) (nd (o252 P) (lf o380) .nil)))))) (nd (boot_o_6 P) (nd (boot_o_10 P) (nd o18 (nd o34 (nd o66 (nd o130 (lf (o258 P)) (lf o386)) (nd o194 (lf o322) .nil)) (nd o98 (nd o162 (lf (o290 P)) (lf o418)) (nd o226 (lf o354) .nil))) (nd o50 (nd o82 (nd o146 (lf o274) (lf o402)) (nd o210 (lf o338) .nil)) (nd o114 (nd o178 (lf o306) (lf o434)) (nd o242 (lf o370) .nil)))) (nd o26 (nd o42 (nd o74 (nd (o138 P) (lf o266) (lf o394)) (nd o202 (lf o330) .nil)) (nd (o106 P) (nd o170 (lf o298) (lf o426)) (nd o234 (lf o362) .nil))) (nd o58 (nd o90 (nd o154 (lf o282) (lf o410)) (nd o218 (lf o346) .nil)) (nd o122 (nd o186 (lf o314) (lf o442)) (nd o250 (lf o378) .nil))))) (nd o14 (nd o22 (nd o38 (nd o70 (nd o134 (lf o262) (lf o390)) (nd o198 (lf o326) .nil)) (nd o102 (nd o166 (lf o294) (lf o422)) (nd o230 (lf o358) .nil))) (nd o54 (nd o86 (nd o150 (lf o278) (lf o406)) (nd (o214 P) (lf o342) .nil)) (nd o118 (nd (o182 P) (lf o310) (lf o438)) (nd o246 (lf o374) .nil)))) (nd (o30 P) (nd o46 (nd o78 (nd o142 (lf o270) (lf o398)) (nd o206 (lf (o334 P)) .nil)) (nd o110 (nd o174 (lf o302) (lf o430)) (nd o238 (lf (o366 P)) .nil))) (nd (o62 P) (nd o94 (nd o158 (lf o286) (lf o414)) (nd o222 (lf o350) .nil)) (nd o126 (nd o190 (lf o318) .nil) (nd o254 (lf o382) .nil)))))))
def S2 (w : World) (os : OsState) : SharedT := ⟨T2 w.params, 444, (boot_heap w.params).life, #[], boot_drawn, 759, os⟩
def o3_3 (P : Params) : Obj := di [en P "__name__" 165 (s "law_lapseeds_k01_errors" 877), en P "__doc__" 166 Value.none, en P "__package__" 167 Value.none, en P "__loader__" 168 (bi "__main__.__loader__#opaque"), en P "__spec__" 169 Value.none, en P "__annotations__" 170 (r 6), en P "__builtins__" 171 (r 4), en P "__file__" 173 (s "/claim/cut.py" 172), en P "__cached__" 174 Value.none, en P "LapError" 206 (r 24), en P "BadHeld" 231 (r 44), en P "BadRing" 256 (r 63), en P "BadPlayer" 281 (r 82), en P "BadPit" 306 (r 101), en P "BadEnd" 331 (r 120), en P "BadBook" 356 (r 139), en P "BadNumber" 381 (r 158), en P "BadTurn" 406 (r 177), en P "BadBoard" 431 (r 196), en P "BadRow" 456 (r 215), en P "BadSum" 481 (r 234), en P "BadShape" 506 (r 253), en P "BadRoad" 531 (r 272), en P "BadClaim" 556 (r 291), en P "BadText" 583 (r 310), en P "BadLine" 608 (r 329), en P "NoLap" 633 (r 348), en P "NoEnd" 658 (r 367), en P "NoName" 683 (r 386), en P "Unlike" 699 (r 398), en P "Nothing" 715 (r 410), en P "NotWhole" 731 (r 422), en P "TooMany" 758 (r 441), en P "CannotMove" 785 (r 460), en P "Cause" 801 (r 472), en P "NoPlayer" 826 (r 491), en P "OutOfTurn" 851 (r 510), en P "Empty" 876 (r 529), en P "_law_bag" 887 (r 538), en P "_law_draw" 898 (r 545), en P "_law_pick" 906 (r 552), en P "_law_value" 914 (r 559), en P "_law_ones" 922 (r 566), en P "_law_named" 930 (r 573), en P "_law_field" 938 (r 580), en P "_law_kinds" 944 (r 585), en P "_law_two_right" 957 (r 592), en P "_law_causes_right" 963 (r 597), en P "_law_caught" 971 (r 604), en P "law" 977 (r 609)] 50
def o12_3 : Obj := fi [(i 2), (i 0), (r 20), (i 4), (i 0), (r 33), (i 8), (i 0), (r 52), (i 12), (i 0), (r 71), (i 16), (i 0), (r 90), (i 20), (i 0), (r 109), (i 24), (i 0), (r 128), (i 28), (i 0), (r 147), (i 32), (i 0), (r 166), (i 36), (i 0), (r 185), (i 40), (i 0), (r 204), (i 44), (i 0), (r 223), (i 48), (i 0), (r 242), (i 52), (i 0), (r 261), (i 56), (i 0), (r 280), (i 60), (i 0), (r 299), (i 65), (i 0), (r 318), (i 69), (i 0), (r 337), (i 73), (i 0), (r 356), (i 77), (i 0), (r 375), (i 81), (i 0), (r 394), (i 83), (i 0), (r 406), (i 85), (i 0), (r 418), (i 87), (i 0), (r 430), (i 92), (i 0), (r 449), (i 97), (i 0), (r 468), (i 99), (i 0), (r 480), (i 103), (i 0), (r 499), (i 107), (i 0), (r 518), (i 112), (i 0), (r 537), (i 117), (i 0), (r 544), (i 131), (i 0), (r 551), (i 133), (i 0), (r 558), (i 136), (i 0), (r 565), (i 142), (i 0), (r 572), (i 147), (i 0), (r 579), (i 159), (i 0), (r 584), (i 170), (i 0), (r 591), (i 179), (i 0), (r 596), (i 187), (i 0), (r 603), (i 192), (i 0), (r 608)]
def o24_3 : Obj := (Obj.mk (ty "type") none (Data.cls (ClassData.mk "LapError" [(ty "ValueError")] [(r 24), (ty "ValueError"), (ty "Exception"), (ty "BaseException"), (ty "object")] 23 "LapError" true [] [(r 44), (r 63), (r 82), (r 101), (r 120), (r 139), (r 158), (r 177), (r 196), (r 215), (r 234), (r 253), (r 272), (r 291), (r 310), (r 329), (r 348), (r 367), (r 386), (r 398), (r 410), (r 422), (r 441), (r 460), (r 472)] false none false)) #[(some (r 15)), none, (some (s "LapError" 189)), (some (s "LapError" 197)), (some (bi "ValueError.__new__")), (some (Value.bool true))])
def o444 : Obj := tu [(r 24)]
def o445 : Obj := fo "builtin_function_or_method" [(bi "type.__prepare__"), (ty "type")]
def o446 (P : Params) : Obj := di [en P "__module__" 766 (s "lapseeds.errors" 187), en P "__qualname__" 768 (s "CannotMove" 767), en P "__firstlineno__" 770 (Value.int 92 769), en P "__init__" 779 (r 457), en P "__static_attributes__" 782 (r 458)] 5
def o447 : Obj := tu []
def o448 : Obj := fi [(i 94), (i 4), (r 456)]
def o449 : Obj := fo "code" [(s "CannotMove" 761), (s "CannotMove" 762), (s "/claim/cut.py" 763), (i 92), (i 0), (i 0), (i 0), (i 0), (r 447), (Value.bool false), (i 181), (r 448), Value.none, Value.none, Value.none, Value.none, (i 764), (i 92), (s "/claim/cut.py" 765)]
def o450 : Obj := (Obj.mk (ty "frame") none Data.plain #[(some (r 449)), (some (r 3)), (some (r 446)), none, (some (s "lapseeds.errors" 187)), none, (some (r 0))])
def o451 : Obj := tu []
def o452 : Obj := fi []
def o453 : Obj := tu [(s "self" 774), (s "at" 775), (s "cause" 776)]
def o454 : Obj := tu []
def o455 : Obj := fu Value.none "__init__" "CannotMove.__init__" d20 0 [] Value.none Value.none Value.none Value.none none Value.none Value.none 0
def o456 : Obj := fo "code" [(s "__init__" 771), (s "CannotMove.__init__" 772), (s "/claim/cut.py" 773), (i 94), (i 3), (i 0), (i 0), (i 3), (r 451), (Value.bool true), (i 181), (r 452), Value.none, (r 453), (r 454), (r 455), (i 777), (i 94), (s "/claim/cut.py" 778)]
def o457 : Obj := fu (ty "function") "__init__" "CannotMove.__init__" d20 3 [] Value.none Value.none Value.none (s "lapseeds.errors" 187) none (r 456) Value.none 0
def o458 : Obj := tu [(s "at" 780), (s "cause" 781)]
def o459 (P : Params) : Obj := di [en P "__module__" 766 (s "lapseeds.errors" 187), en P "__firstlineno__" 770 (Value.int 92 769), en P "__init__" 779 (r 457), en P "__static_attributes__" 782 (r 458), en P "__doc__" 783 Value.none] 2
def o460 : Obj := (Obj.mk (ty "type") none (Data.cls (ClassData.mk "CannotMove" [(r 24)] [(r 460), (r 24), (ty "ValueError"), (ty "Exception"), (ty "BaseException"), (ty "object")] 459 "CannotMove" true [] [] false none false)) #[(some (r 444)), none, (some (s "CannotMove" 759)), (some (s "CannotMove" 767)), (some (bi "ValueError.__new__")), (some (Value.bool true))])
def o461 : Obj := fo "super" [(r 460), (r 460), (r 460)]
def o462 : Obj := fo "builtin_function_or_method" [(bi "object.__init_subclass__"), (r 460)]
def o463 : Obj := tu [(r 24)]
def o464 : Obj := fo "builtin_function_or_method" [(bi "type.__prepare__"), (ty "type")]
def o465 (P : Params) : Obj := di [en P "__module__" 793 (s "lapseeds.errors" 187), en P "__qualname__" 795 (s "Cause" 794), en P "__firstlineno__" 797 (Value.int 97 796), en P "__static_attributes__" 798 (r 470)] 4
def o466 : Obj := tu []
def o467 : Obj := fi []
def o468 : Obj := fo "code" [(s "Cause" 788), (s "Cause" 789), (s "/claim/cut.py" 790), (i 97), (i 0), (i 0), (i 0), (i 0), (r 466), (Value.bool false), (i 181), (r 467), Value.none, Value.none, Value.none, Value.none, (i 791), (i 97), (s "/claim/cut.py" 792)]
def o469 : Obj := (Obj.mk (ty "frame") none Data.plain #[(some (r 468)), (some (r 3)), (some (r 465)), none, (some (s "lapseeds.errors" 187)), none, (some (r 0))])
def o470 : Obj := tu []
def o471 (P : Params) : Obj := di [en P "__module__" 793 (s "lapseeds.errors" 187), en P "__firstlineno__" 797 (Value.int 97 796), en P "__static_attributes__" 798 (r 470), en P "__doc__" 799 Value.none] 2
def o472 : Obj := (Obj.mk (ty "type") none (Data.cls (ClassData.mk "Cause" [(r 24)] [(r 472), (r 24), (ty "ValueError"), (ty "Exception"), (ty "BaseException"), (ty "object")] 471 "Cause" true [] [(r 491), (r 510), (r 529)] false none false)) #[(some (r 463)), none, (some (s "Cause" 786)), (some (s "Cause" 794)), (some (bi "ValueError.__new__")), (some (Value.bool true))])
def o473 : Obj := fo "super" [(r 472), (r 472), (r 472)]
def o474 : Obj := fo "builtin_function_or_method" [(bi "object.__init_subclass__"), (r 472)]
def o475 : Obj := tu [(r 472)]
def o476 : Obj := fo "builtin_function_or_method" [(bi "type.__prepare__"), (ty "type")]
def o477 (P : Params) : Obj := di [en P "__module__" 809 (s "lapseeds.errors" 187), en P "__qualname__" 811 (s "NoPlayer" 810), en P "__firstlineno__" 813 (Value.int 99 812), en P "__init__" 821 (r 488), en P "__static_attributes__" 823 (r 489)] 5
def o478 : Obj := tu []
def o479 : Obj := fi [(i 101), (i 4), (r 487)]
def o480 : Obj := fo "code" [(s "NoPlayer" 804), (s "NoPlayer" 805), (s "/claim/cut.py" 806), (i 99), (i 0), (i 0), (i 0), (i 0), (r 478), (Value.bool false), (i 181), (r 479), Value.none, Value.none, Value.none, Value.none, (i 807), (i 99), (s "/claim/cut.py" 808)]
def o481 : Obj := (Obj.mk (ty "frame") none Data.plain #[(some (r 480)), (some (r 3)), (some (r 477)), none, (some (s "lapseeds.errors" 187)), none, (some (r 0))])
def o482 : Obj := tu []
def o483 : Obj := fi []
def o484 : Obj := tu [(s "self" 817), (s "pit" 818)]
def o485 : Obj := tu []
def o486 : Obj := fu Value.none "__init__" "NoPlayer.__init__" d21 0 [] Value.none Value.none Value.none Value.none none Value.none Value.none 0
def o487 : Obj := fo "code" [(s "__init__" 814), (s "NoPlayer.__init__" 815), (s "/claim/cut.py" 816), (i 101), (i 2), (i 0), (i 0), (i 3), (r 482), (Value.bool true), (i 181), (r 483), Value.none, (r 484), (r 485), (r 486), (i 819), (i 101), (s "/claim/cut.py" 820)]
def o488 : Obj := fu (ty "function") "__init__" "NoPlayer.__init__" d21 3 [] Value.none Value.none Value.none (s "lapseeds.errors" 187) none (r 487) Value.none 0
def o489 : Obj := tu [(s "pit" 822)]
def o490 (P : Params) : Obj := di [en P "__module__" 809 (s "lapseeds.errors" 187), en P "__firstlineno__" 813 (Value.int 99 812), en P "__init__" 821 (r 488), en P "__static_attributes__" 823 (r 489), en P "__doc__" 824 Value.none] 2
def o491 : Obj := (Obj.mk (ty "type") none (Data.cls (ClassData.mk "NoPlayer" [(r 472)] [(r 491), (r 472), (r 24), (ty "ValueError"), (ty "Exception"), (ty "BaseException"), (ty "object")] 490 "NoPlayer" true [] [] false none false)) #[(some (r 475)), none, (some (s "NoPlayer" 802)), (some (s "NoPlayer" 810)), (some (bi "ValueError.__new__")), (some (Value.bool true))])
def o492 : Obj := fo "super" [(r 491), (r 491), (r 491)]
def o493 : Obj := fo "builtin_function_or_method" [(bi "object.__init_subclass__"), (r 491)]
def o494 : Obj := tu [(r 472)]
def o495 : Obj := fo "builtin_function_or_method" [(bi "type.__prepare__"), (ty "type")]
def o496 (P : Params) : Obj := di [en P "__module__" 834 (s "lapseeds.errors" 187), en P "__qualname__" 836 (s "OutOfTurn" 835), en P "__firstlineno__" 838 (Value.int 103 837), en P "__init__" 846 (r 507), en P "__static_attributes__" 848 (r 508)] 5
def o497 : Obj := tu []
def o498 : Obj := fi [(i 105), (i 4), (r 506)]
def o499 : Obj := fo "code" [(s "OutOfTurn" 829), (s "OutOfTurn" 830), (s "/claim/cut.py" 831), (i 103), (i 0), (i 0), (i 0), (i 0), (r 497), (Value.bool false), (i 181), (r 498), Value.none, Value.none, Value.none, Value.none, (i 832), (i 103), (s "/claim/cut.py" 833)]
def o500 : Obj := (Obj.mk (ty "frame") none Data.plain #[(some (r 499)), (some (r 3)), (some (r 496)), none, (some (s "lapseeds.errors" 187)), none, (some (r 0))])
def o501 : Obj := tu []
def o502 : Obj := fi []
def o503 : Obj := tu [(s "self" 842), (s "player" 843)]
def o504 : Obj := tu []
def o505 : Obj := fu Value.none "__init__" "OutOfTurn.__init__" d22 0 [] Value.none Value.none Value.none Value.none none Value.none Value.none 0
def o506 : Obj := fo "code" [(s "__init__" 839), (s "OutOfTurn.__init__" 840), (s "/claim/cut.py" 841), (i 105), (i 2), (i 0), (i 0), (i 3), (r 501), (Value.bool true), (i 181), (r 502), Value.none, (r 503), (r 504), (r 505), (i 844), (i 105), (s "/claim/cut.py" 845)]
def o507 : Obj := fu (ty "function") "__init__" "OutOfTurn.__init__" d22 3 [] Value.none Value.none Value.none (s "lapseeds.errors" 187) none (r 506) Value.none 0
def o508 : Obj := tu [(s "player" 847)]
def o509 (P : Params) : Obj := di [en P "__module__" 834 (s "lapseeds.errors" 187), en P "__firstlineno__" 838 (Value.int 103 837), en P "__init__" 846 (r 507), en P "__static_attributes__" 848 (r 508), en P "__doc__" 849 Value.none] 2
def o510 : Obj := (Obj.mk (ty "type") none (Data.cls (ClassData.mk "OutOfTurn" [(r 472)] [(r 510), (r 472), (r 24), (ty "ValueError"), (ty "Exception"), (ty "BaseException"), (ty "object")] 509 "OutOfTurn" true [] [] false none false)) #[(some (r 494)), none, (some (s "OutOfTurn" 827)), (some (s "OutOfTurn" 835)), (some (bi "ValueError.__new__")), (some (Value.bool true))])
def o511 : Obj := fo "super" [(r 510), (r 510), (r 510)]
def o512 : Obj := fo "builtin_function_or_method" [(bi "object.__init_subclass__"), (r 510)]
def o513 : Obj := tu [(r 472)]
def o514 : Obj := fo "builtin_function_or_method" [(bi "type.__prepare__"), (ty "type")]
def o515 (P : Params) : Obj := di [en P "__module__" 859 (s "lapseeds.errors" 187), en P "__qualname__" 861 (s "Empty" 860), en P "__firstlineno__" 863 (Value.int 107 862), en P "__init__" 871 (r 526), en P "__static_attributes__" 873 (r 527)] 5
def o516 : Obj := tu []
def o517 : Obj := fi [(i 109), (i 4), (r 525)]
def o518 : Obj := fo "code" [(s "Empty" 854), (s "Empty" 855), (s "/claim/cut.py" 856), (i 107), (i 0), (i 0), (i 0), (i 0), (r 516), (Value.bool false), (i 181), (r 517), Value.none, Value.none, Value.none, Value.none, (i 857), (i 107), (s "/claim/cut.py" 858)]
def o519 : Obj := (Obj.mk (ty "frame") none Data.plain #[(some (r 518)), (some (r 3)), (some (r 515)), none, (some (s "lapseeds.errors" 187)), none, (some (r 0))])
def o520 : Obj := tu []
def o521 : Obj := fi []
def o522 : Obj := tu [(s "self" 867), (s "pit" 868)]
def o523 : Obj := tu []
def o524 : Obj := fu Value.none "__init__" "Empty.__init__" d23 0 [] Value.none Value.none Value.none Value.none none Value.none Value.none 0
def o525 : Obj := fo "code" [(s "__init__" 864), (s "Empty.__init__" 865), (s "/claim/cut.py" 866), (i 109), (i 2), (i 0), (i 0), (i 3), (r 520), (Value.bool true), (i 181), (r 521), Value.none, (r 522), (r 523), (r 524), (i 869), (i 109), (s "/claim/cut.py" 870)]
def o526 : Obj := fu (ty "function") "__init__" "Empty.__init__" d23 3 [] Value.none Value.none Value.none (s "lapseeds.errors" 187) none (r 525) Value.none 0
def o527 : Obj := tu [(s "pit" 872)]
def o528 (P : Params) : Obj := di [en P "__module__" 859 (s "lapseeds.errors" 187), en P "__firstlineno__" 863 (Value.int 107 862), en P "__init__" 871 (r 526), en P "__static_attributes__" 873 (r 527), en P "__doc__" 874 Value.none] 2
def o529 : Obj := (Obj.mk (ty "type") none (Data.cls (ClassData.mk "Empty" [(r 472)] [(r 529), (r 472), (r 24), (ty "ValueError"), (ty "Exception"), (ty "BaseException"), (ty "object")] 528 "Empty" true [] [] false none false)) #[(some (r 513)), none, (some (s "Empty" 852)), (some (s "Empty" 860)), (some (bi "ValueError.__new__")), (some (Value.bool true))])
def o530 : Obj := fo "super" [(r 529), (r 529), (r 529)]
def o531 : Obj := fo "builtin_function_or_method" [(bi "object.__init_subclass__"), (r 529)]
def o532 : Obj := tu []
def o533 : Obj := fi []
def o534 : Obj := tu [(s "_law_script" 882), (s "_law_state" 883), (s "_law_cell" 884)]
def o535 : Obj := tu []
def o536 : Obj := fu Value.none "_law_bag" "_law_bag" d24 0 [] Value.none Value.none Value.none Value.none none Value.none Value.none 0
def o537 : Obj := fo "code" [(s "_law_bag" 879), (s "_law_bag" 880), (s "/claim/cut.py" 881), (i 112), (i 1), (i 0), (i 0), (i 3), (r 532), (Value.bool true), (i 181), (r 533), Value.none, (r 534), (r 535), (r 536), (i 885), (i 112), (s "/claim/cut.py" 886)]
def o538 : Obj := fu (ty "function") "_law_bag" "_law_bag" d24 3 [] Value.none Value.none Value.none (s "law_lapseeds_k01_errors" 877) none (r 537) Value.none 0
def o539 : Obj := tu []
def o540 : Obj := fi []
def o541 : Obj := tu [(s "_law_bag_here" 891), (s "_law_limit" 892), (s "_law_cell" 893), (s "_law_mixed" 894), (s "_law_found" 895)]
def o542 : Obj := tu []
def o543 : Obj := fu Value.none "_law_draw" "_law_draw" d25 0 [] Value.none Value.none Value.none Value.none none Value.none Value.none 0
def o544 : Obj := fo "code" [(s "_law_draw" 888), (s "_law_draw" 889), (s "/claim/cut.py" 890), (i 117), (i 2), (i 0), (i 0), (i 3), (r 539), (Value.bool true), (i 181), (r 540), Value.none, (r 541), (r 542), (r 543), (i 896), (i 117), (s "/claim/cut.py" 897)]
def o545 : Obj := fu (ty "function") "_law_draw" "_law_draw" d25 3 [] Value.none Value.none Value.none (s "law_lapseeds_k01_errors" 877) none (r 544) Value.none 0
def o546 : Obj := tu []
def o547 : Obj := fi []
def o548 : Obj := tu [(s "_law_bag_here" 902), (s "_law_some" 903)]
def o549 : Obj := tu []
def o550 : Obj := fu Value.none "_law_pick" "_law_pick" d26 0 [] Value.none Value.none Value.none Value.none none Value.none Value.none 0
def o551 : Obj := fo "code" [(s "_law_pick" 899), (s "_law_pick" 900), (s "/claim/cut.py" 901), (i 131), (i 2), (i 0), (i 0), (i 3), (r 546), (Value.bool true), (i 181), (r 547), Value.none, (r 548), (r 549), (r 550), (i 904), (i 131), (s "/claim/cut.py" 905)]
def o552 : Obj := fu (ty "function") "_law_pick" "_law_pick" d26 3 [] Value.none Value.none Value.none (s "law_lapseeds_k01_errors" 877) none (r 551) Value.none 0
def o553 : Obj := tu []
def o554 : Obj := fi []
def o555 : Obj := tu [(s "_law_bag_here" 910), (s "_law_some" 911)]
def o556 : Obj := tu []
def o557 : Obj := fu Value.none "_law_value" "_law_value" d27 0 [] Value.none Value.none Value.none Value.none none Value.none Value.none 0
def o558 : Obj := fo "code" [(s "_law_value" 907), (s "_law_value" 908), (s "/claim/cut.py" 909), (i 133), (i 1), (i 0), (i 0), (i 3), (r 553), (Value.bool true), (i 181), (r 554), Value.none, (r 555), (r 556), (r 557), (i 912), (i 133), (s "/claim/cut.py" 913)]
def o559 : Obj := fu (ty "function") "_law_value" "_law_value" d27 3 [] Value.none Value.none Value.none (s "law_lapseeds_k01_errors" 877) none (r 558) Value.none 0
def o560 : Obj := tu []
def o561 : Obj := fi []
def o562 : Obj := tu [(s "_law_one" 918), (s "_law_found" 919)]
def o563 : Obj := tu []
def o564 : Obj := fu Value.none "_law_ones" "_law_ones" d28 0 [] Value.none Value.none Value.none Value.none none Value.none Value.none 0
def o565 : Obj := fo "code" [(s "_law_ones" 915), (s "_law_ones" 916), (s "/claim/cut.py" 917), (i 136), (i 1), (i 0), (i 0), (i 3), (r 560), (Value.bool true), (i 181), (r 561), Value.none, (r 562), (r 563), (r 564), (i 920), (i 136), (s "/claim/cut.py" 921)]
def o566 : Obj := fu (ty "function") "_law_ones" "_law_ones" d28 3 [] Value.none Value.none Value.none (s "law_lapseeds_k01_errors" 877) none (r 565) Value.none 0
def o567 : Obj := tu []
def o568 : Obj := fi []
def o569 : Obj := tu [(s "_law_one" 926), (s "_law_found" 927)]
def o570 : Obj := tu []
def o571 : Obj := fu Value.none "_law_named" "_law_named" d29 0 [] Value.none Value.none Value.none Value.none none Value.none Value.none 0
def o572 : Obj := fo "code" [(s "_law_named" 923), (s "_law_named" 924), (s "/claim/cut.py" 925), (i 142), (i 1), (i 0), (i 0), (i 3), (r 567), (Value.bool true), (i 181), (r 568), Value.none, (r 569), (r 570), (r 571), (i 928), (i 142), (s "/claim/cut.py" 929)]
def o573 : Obj := fu (ty "function") "_law_named" "_law_named" d29 3 [] Value.none Value.none Value.none (s "law_lapseeds_k01_errors" 877) none (r 572) Value.none 0
def o574 : Obj := tu []
def o575 : Obj := fi []
def o576 : Obj := tu [(s "_law_error" 934), (s "_law_kind" 935)]
def o577 : Obj := tu []
def o578 : Obj := fu Value.none "_law_field" "_law_field" d30 0 [] Value.none Value.none Value.none Value.none none Value.none Value.none 0
def o579 : Obj := fo "code" [(s "_law_field" 931), (s "_law_field" 932), (s "/claim/cut.py" 933), (i 147), (i 2), (i 0), (i 0), (i 3), (r 574), (Value.bool true), (i 181), (r 575), Value.none, (r 576), (r 577), (r 578), (i 936), (i 147), (s "/claim/cut.py" 937)]
def o580 : Obj := fu (ty "function") "_law_field" "_law_field" d30 3 [] Value.none Value.none Value.none (s "law_lapseeds_k01_errors" 877) none (r 579) Value.none 0
def o581 : Obj := tu []
def o582 : Obj := fi []
def o583 : Obj := fu Value.none "_law_kinds" "_law_kinds" d31 0 [] Value.none Value.none Value.none Value.none none Value.none Value.none 0
def o584 : Obj := fo "code" [(s "_law_kinds" 939), (s "_law_kinds" 940), (s "/claim/cut.py" 941), (i 159), (i 1), (i 0), (i 0), (i 3), (r 581), (Value.bool true), (i 181), (r 582), Value.none, Value.none, Value.none, (r 583), (i 942), (i 159), (s "/claim/cut.py" 943)]
def o585 : Obj := fu (ty "function") "_law_kinds" "_law_kinds" d31 3 [] Value.none Value.none Value.none (s "law_lapseeds_k01_errors" 877) none (r 584) Value.none 0
def o586 : Obj := tu []
def o587 : Obj := fi []
def o588 : Obj := tu [(s "_law_one" 948), (s "_law_more" 949), (s "_law_first" 950), (s "_law_later" 951), (s "_law_text" 952), (s "_law_many" 953), (s "_law_stopped" 954)]
def o589 : Obj := tu []
def o590 : Obj := fu Value.none "_law_two_right" "_law_two_right" d32 0 [] Value.none Value.none Value.none Value.none none Value.none Value.none 0
def o591 : Obj := fo "code" [(s "_law_two_right" 945), (s "_law_two_right" 946), (s "/claim/cut.py" 947), (i 170), (i 2), (i 0), (i 0), (i 3), (r 586), (Value.bool true), (i 181), (r 587), Value.none, (r 588), (r 589), (r 590), (i 955), (i 170), (s "/claim/cut.py" 956)]
def o592 : Obj := fu (ty "function") "_law_two_right" "_law_two_right" d32 3 [] Value.none Value.none Value.none (s "law_lapseeds_k01_errors" 877) none (r 591) Value.none 0
def o593 : Obj := tu []
def o594 : Obj := fi []
def o595 : Obj := fu Value.none "_law_causes_right" "_law_causes_right" d33 0 [] Value.none Value.none Value.none Value.none none Value.none Value.none 0
def o596 : Obj := fo "code" [(s "_law_causes_right" 958), (s "_law_causes_right" 959), (s "/claim/cut.py" 960), (i 179), (i 1), (i 0), (i 0), (i 3), (r 593), (Value.bool true), (i 181), (r 594), Value.none, Value.none, Value.none, (r 595), (i 961), (i 179), (s "/claim/cut.py" 962)]
def o597 : Obj := fu (ty "function") "_law_causes_right" "_law_causes_right" d33 3 [] Value.none Value.none Value.none (s "law_lapseeds_k01_errors" 877) none (r 596) Value.none 0
def o598 : Obj := tu []
def o599 : Obj := fi []
def o600 : Obj := tu [(s "_law_one" 967), (s "_law_error" 968)]
def o601 : Obj := tu []
def o602 : Obj := fu Value.none "_law_caught" "_law_caught" d34 0 [] Value.none Value.none Value.none Value.none none Value.none Value.none 0
def o603 : Obj := fo "code" [(s "_law_caught" 964), (s "_law_caught" 965), (s "/claim/cut.py" 966), (i 187), (i 1), (i 0), (i 0), (i 3), (r 598), (Value.bool true), (i 181), (r 599), Value.none, (r 600), (r 601), (r 602), (i 969), (i 187), (s "/claim/cut.py" 970)]
def o604 : Obj := fu (ty "function") "_law_caught" "_law_caught" d34 3 [] Value.none Value.none Value.none (s "law_lapseeds_k01_errors" 877) none (r 603) Value.none 0
def o605 : Obj := tu []
def o606 : Obj := fi []
def o607 : Obj := fu Value.none "law" "law" d35 0 [] Value.none Value.none Value.none Value.none none Value.none Value.none 0
def o608 : Obj := fo "code" [(s "law" 972), (s "law" 973), (s "/claim/cut.py" 974), (i 192), (i 1), (i 0), (i 0), (i 3), (r 605), (Value.bool true), (i 181), (r 606), Value.none, Value.none, Value.none, (r 607), (i 975), (i 192), (s "/claim/cut.py" 976)]
def o609 : Obj := fu (ty "function") "law" "law" d35 3 [] Value.none Value.none Value.none (s "law_lapseeds_k01_errors" 877) none (r 608) Value.none 0
def T3 (P : Params) : BT := nd (boot_o_0 P) (nd (boot_o_1 P) (nd (o3_3 P) (nd (boot_o_7 P) (nd o15 (nd o31 (nd o63 (nd o127 (nd o255 (lf o511) .nil) (lf o383)) (nd o191 (nd o319 (lf o575) .nil) (lf o447))) (nd o95 (nd o159 (nd o287 (lf o543) .nil) (lf (o415 P))) (nd o223 (nd o351 (lf o607) .nil) (lf o479)))) (nd o47 (nd o79 (nd o143 (nd (o271 P) (lf o527) .nil) (lf o399)) (nd o207 (nd o335 (lf o591) .nil) (lf o463))) (nd o111 (nd o175 (nd o303 (lf o559) .nil) (lf o431)) (nd (o239 P) (lf o367) (lf o495))))) (nd (o23 P) (nd o39 (nd o71 (nd o135 (nd o263 (lf o519) .nil) (lf (o391 P))) (nd o199 (nd o327 (lf o583) .nil) (lf o455))) (nd o103 (nd o167 (nd o295 (lf o551) .nil) (lf o423)) (nd o231 (lf o359) (lf o487)))) (nd o55 (nd (o87 P) (nd o151 (nd o279 (lf o535) .nil) (lf o407)) (nd o215 (nd o343 (lf o599) .nil) (lf (o471 P)))) (nd (o119 P) (nd o183 (nd o311 (lf o567) .nil) (lf o439)) (nd o247 (lf o375) (lf o503)))))) (nd o11 (nd o19 (nd o35 (nd o67 (nd o131 (nd o259 (lf (o515 P)) .nil) (lf o387)) (nd (o195 P) (nd o323 (lf o579) .nil) (lf o451))) (nd o99 (nd (o163 P) (nd o291 (lf o547) .nil) (lf o419)) (nd o227 (lf o355) (lf o483)))) (nd o51 (nd o83 (nd o147 (nd o275 (lf o531) .nil) (lf (o403 P))) (nd o211 (nd o339 (lf o595) .nil) (lf o467))) (nd o115 (nd o179 (nd o307 (lf o563) .nil) (lf o435)) (nd o243 (lf o371) (lf o499))))) (nd o27 (nd (o43 P) (nd o75 (nd o139 (nd o267 (lf o523) .nil) (lf o395)) (nd o203 (nd o331 (lf o587) .nil) (lf (o459 P)))) (nd o107 (nd o171 (nd o299 (lf o555) .nil) (lf (o427 P))) (nd o235 (lf o363) (lf o491)))) (nd o59 (nd o91 (nd o155 (nd o283 (lf o539) .nil) (lf o411)) (nd o219 (nd (o347 P) (lf o603) .nil) (lf o475))) (nd o123 (nd o187 (nd (o315 P) (lf o571) .nil) (lf o443)) (nd o251 (lf o379) (lf o507))))))) (nd (boot_o_5 P) (nd (boot_o_9 P) (nd (o17 P) (nd o33 (nd o65 (nd o129 (nd o257 (lf o513) .nil) (lf (o385 P))) (nd o193 (nd o321 (lf o577) .nil) (lf o449))) (nd o97 (nd o161 (nd o289 (lf o545) .nil) (lf o417)) (nd o225 (nd (o353 P) (lf o609) .nil) (lf o481)))) (nd (o49 P) (nd (o81 P) (nd o145 (nd o273 (lf o529) .nil) (lf o401)) (nd o209 (nd o337 (lf o593) .nil) (lf (o465 P)))) (nd o113 (nd o177 (nd o305 (lf o561) .nil) (lf o433)) (nd o241 (lf o369) (lf o497))))) (nd o25 (nd o41 (nd o73 (nd o137 (nd o265 (lf o521) .nil) (lf o393)) (nd (o201 P) (nd o329 (lf o585) .nil) (lf o457))) (nd o105 (nd o169 (nd o297 (lf o553) .nil) (lf o425)) (nd (o233 P) (lf o361) (lf o489)))) (nd o57 (nd o89 (nd o153 (nd o281 (lf o537) .nil) (lf (o409 P))) (nd o217 (nd o345 (lf o601) .nil) (lf o473))) (nd o121 (nd o185 (nd o313 (lf o569) .nil) (lf o441)) (nd o249 (lf o377) (lf o505)))))) (nd o13 (nd o21 (nd o37 (nd o69 (nd o133 (nd o261 (lf o517) .nil) (lf o389)) (nd o197 (nd o325 (lf o581) .nil) (lf o453))) (nd o101 (nd o165 (nd o293 (lf o549) .nil) (lf (o421 P))) (nd o229 (lf o357) (lf o485)))) (nd o53 (nd o85 (nd o149 (nd (o277 P) (lf o533) .nil) (lf o405)) (nd o213 (nd o341 (lf o597) .nil) (lf o469))) (nd o117 (nd o181 (nd (o309 P) (lf o565) .nil) (lf o437)) (nd o245 (lf o373) (lf o501))))) (nd o29 (nd o45 (nd o77 (nd o141 (nd o269 (lf o525) .nil) (lf (o397 P))) (nd o205 (nd o333 (lf o589) .nil) (lf o461))) (nd o109 (nd o173 (nd o301 (lf o557) .nil) (lf o429)) (nd o237 (lf o365) (lf o493)))) (nd o61 (nd o93 (nd (o157 P) (nd o285 (lf o541) .nil) (lf o413)) (nd o221 (nd o349 (lf o605) .nil) (lf (o477 P)))) (nd (o125 P) (nd o189 (nd o317 (lf o573) .nil) (lf o445)) (nd o253 (lf o381) (lf (o509 P))))))))) (nd (boot_o_2 P) (nd (boot_o_4 P) (nd (boot_o_8 P) (nd o16 (nd o32 (nd o64 (nd o128 (nd o256 (lf o512) .nil) (lf o384)) (nd o192 (nd o320 (lf o576) .nil) (lf o448))) (nd o96 (nd o160 (nd o288 (lf o544) .nil) (lf o416)) (nd o224 (nd o352 (lf o608) .nil) (lf o480)))) (nd o48 (nd o80 (nd (o144 P) (nd o272 (lf (o528 P)) .nil) (lf o400)) (nd o208 (nd o336 (lf o592) .nil) (lf o464))) (nd o112 (nd (o176 P) (nd o304 (lf o560) .nil) (lf o432)) (nd o240 (lf o368) (lf (o496 P)))))) (nd o24_3 (nd o40 (nd o72 (nd o136 (nd o264 (lf o520) .nil) (lf o392)) (nd o200 (nd (o328 P) (lf o584) .nil) (lf o456))) (nd o104 (nd o168 (nd (o296 P) (lf o552) .nil) (lf o424)) (nd o232 (lf o360) (lf o488)))) (nd o56 (nd o88 (nd o152 (nd o280 (lf o536) .nil) (lf o408)) (nd o216 (nd o344 (lf o600) .nil) (lf o472))) (nd o120 (nd o184 (nd o312 (lf o568) .nil) (lf (o440 P))) (nd o248 (lf o376) (lf o504)))))) (nd o12_3 (nd o20 (nd o36 (nd (o68 P) (nd o132 (nd o260 (lf o516) .nil) (lf o388)) (nd o196 (nd o324 (lf o580) .nil) (lf o452))) (nd (o100 P) (nd o164 (nd o292 (lf o548) .nil) (lf o420)) (nd o228 (lf o356) (lf o484)))) (nd o52 (nd o84 (nd o148 (nd o276 (lf o532) .nil) (lf o404)) (nd o212 (nd o340 (lf o596) .nil) (lf o468))) (nd o116 (nd o180 (nd o308 (lf o564) .nil) (lf o436)) (nd o244 (lf (o372 P)) (lf o500))))) (nd o28 (nd o44 (nd o76 (nd o140 (nd o268 (lf o524) .nil) (lf o396)) (nd o204 (nd o332 (lf o588) .nil) (lf o460))) (nd o108 (nd o172 (nd o300 (lf o556) .nil) (lf o428)) (nd o236 (lf o364) (lf o492)))) (nd o60 (nd o92 (nd o156 (nd o284 (lf o540) .nil) (lf o412)) (nd (o220 P) (nd o348 (lf o604) .nil) (lf o476))) (nd o124 (nd o188 (nd o316 (lf o572) .nil) (lf o444)) (nd (o252 P) (lf o380) (lf o508))))))) (nd (boot_o_6 P) (nd (boot_o_10 P) (nd o18 (nd o34 (nd o66 (nd o130 (nd (o258 P) (lf o514) .nil) (lf o386)) (nd o194 (nd o322 (lf o578) .nil) (lf o450))) (nd o98 (nd o162 (nd (o290 P) (lf o546) .nil) (lf o418)) (nd o226 (lf o354) (lf o482)))) (nd o50 (nd o82 (nd o146 (nd o274 (lf o530) .nil) (lf o402)) (nd o210 (nd o338 (lf o594) .nil) (lf o466))) (nd o114 (nd o178 (nd o306 (lf o562) .nil) (lf o434)) (nd o242 (lf o370) (lf o498))))) (nd o26 (nd o42 (nd o74 (nd (o138 P) (nd o266 (lf o522) .nil) (lf o394)) (nd o202 (nd o330 (lf o586) .nil) (lf o458))) (nd (o106 P) (nd o170 (nd o298 (lf o554) .nil) (lf o426)) (nd o234 (lf o362) (lf (o490 P))))) (nd o58 (nd o90 (nd o154 (nd o282 (lf o538) .nil) (lf o410)) (nd o218 (nd o346 (lf o602) .nil) (lf o474))) (nd o122 (nd o186 (nd o314 (lf o570) .nil) (lf o442)) (nd o250 (lf o378) (lf o506)))))) (nd o14 (nd o22 (nd o38 (nd o70 (nd o134 (nd o262 (lf o518) .nil) (lf o390)) (nd o198 (nd o326 (lf o582) .nil) (lf o454))) (nd o102 (nd o166 (nd o294 (lf o550) .nil) (lf o422)) (nd o230 (lf o358) (lf o486)))) (nd o54 (nd o86 (nd o150 (nd o278 (lf o534) .nil) (lf o406)) (nd (o214 P) (nd o342 (lf o598) .nil) (lf o470))) (nd o118 (nd (o182 P) (nd o310 (lf o566) .nil) (lf o438)) (nd o246 (lf o374) (lf o502))))) (nd (o30 P) (nd o46 (nd o78 (nd o142 (nd o270 (lf o526) .nil) (lf o398)) (nd o206 (nd (o334 P) (lf o590) .nil) (lf o462))) (nd o110 (nd o174 (nd o302 (lf o558) .nil) (lf o430)) (nd o238 (lf (o366 P)) (lf o494)))) (nd (o62 P) (nd o94 (nd o158 (nd o286 (lf o542) .nil) (lf o414)) (nd o222 (nd o350 (lf o606) .nil) (lf o478))) (nd o126 (nd o190 (nd o318 (lf o574) .nil) (lf (o446 P))) (nd o254 (lf o382) (lf o510))))))))
def S3 (w : World) (os : OsState) : SharedT := ⟨T3 w.params, 610, (boot_heap w.params).life, #[], boot_drawn, 978, os⟩
def Env0 : Env := { scope := PySem.Challenge.pw_lapseeds_k01_errors.main.scope, locals := mainNs, globals := mainNs, cells := [], code := (r 13), frame := some 14 }
def C0 : Code := .body body Env0
end
end K01H
set_option Elab.async false
set_option linter.all false
set_option maxRecDepth 100000
set_option maxHeartbeats 4000000
namespace K01H
open PySem PySem.W PySem.Calls PyProof.Rows HandSHeadRun HX
theorem pre (w : World) (os : OsState) : preF (stepQ (denQ tabQ) PySem.Challenge.pw_lapseeds_k01_errors w) 11 ANN 12 (HX.S0 w os) (topStub PySem.Challenge.pw_lapseeds_k01_errors) = some (K01H.S0 w os, ⟨denQ tabQ C0, C0, ⟨0, 0, 0, 0⟩, B1⟩) := by kernel_rfl
theorem blk0 (w : World) (os : OsState) : segF (stepQ (denQ tabQ) PySem.Challenge.pw_lapseeds_k01_errors w) 11 ANN 50 (K01H.S0 w os) (blk body Env0 C0 ⟨0, 0, 0, 0⟩) = some (.next, K01H.S0 w os, C0, ⟨0, 0, 0, 0⟩) := by kernel_rfl
theorem pc1 (w : World) (os : OsState) : Pc PySem.Challenge.pw_lapseeds_k01_errors w 2891 (grp body 0 13) Env0 C0 (K01H.S0 w os) ⟨0, 0, 0, 0⟩ (S1 w os) ⟨44, 0, 47, 24⟩ := by
  unfold Pc
  kernel_rfl
theorem pc2 (w : World) (os : OsState) : Pc PySem.Challenge.pw_lapseeds_k01_errors w 2849 (grp body 13 12) Env0 C0 (S1 w os) ⟨44, 0, 47, 24⟩ (S2 w os) ⟨87, 0, 91, 24⟩ := by
  unfold Pc
  kernel_rfl
theorem pc3 (w : World) (os : OsState) : Pc PySem.Challenge.pw_lapseeds_k01_errors w 1604 (grp body 25 18) Env0 C0 (S2 w os) ⟨87, 0, 91, 24⟩ (S3 w os) ⟨192, 0, 208, 15⟩ := by
  unfold Pc
  kernel_rfl
theorem parts : body = grp body 0 13 ++ (grp body 13 12 ++ (grp body 25 18 ++ [])) := by kernel_rfl
theorem run (w : World) (os : OsState) : topRun treeTable PySem.Challenge.pw_lapseeds_k01_errors w (boot_heap w.params).objs.size (bootAnn w) (12 + (50 + (2891 + (2849 + (1604 + 3))))) ⟨boot_heap w.params, #[], boot_drawn, boot_toks, os⟩ (topStub PySem.Challenge.pw_lapseeds_k01_errors) = some (S3 w os).abs := by
  refine pc_first (pre w os) (blk0 w os) ?_
  have e : restOf body Env0 (.body body Env0) ⟨0, 0, 0, 0⟩ B1 = restOf (grp body 0 13 ++ (grp body 13 12 ++ (grp body 25 18 ++ []))) Env0 C0 ⟨0, 0, 0, 0⟩ B1 := congrArg (fun b => restOf b Env0 C0 ⟨0, 0, 0, 0⟩ B1) parts
  rw [e]
  exact (pc_cons (pc1 w os) (pc_cons (pc2 w os) (pc_cons (pc3 w os) (pc_nil))))
end K01H
set_option Elab.async false
set_option linter.all false
set_option maxRecDepth 100000
set_option maxHeartbeats 4000000
namespace ZH
open PySem PySem.W L2
def obsZ (chk : Frag → Bool) (fn : List He5.DefA) (K : Frag) : He.AlD := (chk K && fn.all fun d => d.ok K, fn.map fun d => He5.fnA K (d.at_ K))
def SaysZ (chk : Frag → Bool) (fn : List He5.DefA) (K : Frag) : Prop := obsZ chk fn K = He5.valA fn
section
variable {chk : Frag → Bool} {fn : List He5.DefA} {K : Frag}
theorem SaysZ.two (c : SaysZ chk fn K) : chk K = true ∧ (fn.all fun d => d.ok K) = true := He.ba (show (chk K && fn.all fun d => d.ok K) = true from congrArg (fun z : He.AlD => z.1) c)
theorem SaysZ.fact (c : SaysZ chk fn K) : chk K = true := c.two.1
theorem SaysZ.def_ (c : SaysZ chk fn K) (i : Nat) {d : He5.DefA} (h : fn[i]? = some d := by rfl) : ∃ fd, L2.FunD K d.name d.qual d.params d.body d.scope (d.dvs K) (d.kws K) (d.at_ K) fd := by
  have e := congrArg (fun z : He.AlD => z.2[i]?) c
  have e' : (fn.map fun d => He5.fnA K (d.at_ K))[i]? = (fn.map He5.DefA.val)[i]? := e
  rw [List.getElem?_map, List.getElem?_map, h] at e'
  exact He5.DefA.funD (Option.some.inj e') (List.all_eq_true.mp c.two.2 d (List.mem_of_getElem? h))
end
end ZH
namespace ZL
open PySem PySem.Spec PyProof.Rows L2
structure FnG (P : Program) (w : World) (K : PySem.W.Frag) (mg : Str → Option Value) (base : Heap) (CX : CXT) (k : Nat) (f : Addr) (fd : FuncData) (ps : List Str) (sp : Sp) : Prop where
  len : ∀ vs H Q E, sp vs H Q E → vs.length = ps.length
  run : ∀ (A : Around) (outer : List Env) (s : Shared) (H : Hp) (args : Args) (us : List Value) (vs : List V) (Q : VK) (E : XK), A.guards = some [] → Room k A → Env0 P w K mg base A outer s H → BindsTo s fd args (ps.zip us) → Vals vs us →
    sp vs H Q E → codeAny (model P w) A (.call (.ref f) args) (CR CX outer P w H s Q E) s
section
variable {P : Program} {w : World} {K : PySem.W.Frag} {mg : Str → Option Value} {base : Heap} {x qual : Str} {params : Arguments} {body : List Stmt} {scope : Scope} {dvs : List V} {kws : List (Str × V)} {f : Addr} {fd : FuncData} {CX : CXT} {N ps : List Str} {j k : Nat} {sp : Sp}
theorem FnG.of (F : FnOk P w K mg base CX k f fd ps sp) : FnG P w K mg base CX k f fd ps sp := ⟨F.len, fun A outer s H args us vs Q E _ hr e0 hb r h => F.run A outer s H args us vs Q E hr e0 hb r h⟩
theorem FnG.mono (F : FnG P w K mg base CX j f fd ps sp) (h : j ≤ k) : FnG P w K mg base CX k f fd ps sp := ⟨F.len, fun A outer s H args us vs Q E hg hr => F.run A outer s H args us vs Q E hg (hr.mono h)⟩
theorem okG (F : FunD K x qual params body scope dvs kws f fd) (S : FnScope N ps scope) (len : ∀ vs H Q E, sp vs H Q E → vs.length = ps.length)
    (hbody : ∀ (cdv : Value) (A : Around) (outer : List Env) (s : Shared) (H : Hp) (vs : List V) (Q : VK) (E : XK), A.guards = some [] → Room k (A.deeper (envOfC qual scope s.heap.objs.size f cdv)) → sp vs H Q E →
      ∃ t, PSs (cxOf CX P w K mg base N qual scope f cdv A outer s H E) body t ∧ t { nx := fun _ H' => Q .non H', rt := Q } (start N vs) H) : FnG P w K mg base CX (k + 1) f fd ps sp := by
  obtain ⟨oc, od, dV, kV, doc, pm, an, cdv, ct, osl, rfl, lk, hcd, -, -⟩ := F.ex
  refine ⟨len, fun A outer s H args us vs Q E hg hr e0 hb r h => ?_⟩
  refine StX.run_bnd lk hcd S hr e0 (G := fun xs H2 => xs = vs ∧ H2 = H) (fun A' Ex Q' q => hb _ _ _ _ (q s H vs us e0 Un.refl rfl (fun _ _ z => z) r (len _ _ _ _ h) ⟨rfl, rfl⟩)) fun s2 H2 xs e hr' => ?_
  rw [e.1, e.2]
  exact hbody cdv A outer s2 H vs Q E hg hr' h
end
section
variable {X : Cx} {CX : CXT} {k : Nat} {f C : Addr} {fd : FuncData} {ps : List Str} {sp : Sp} {dvs : List V} {ds : List Value} {E : XK} {x m : Str} {p pos apos : Pos} {e o : Expr} {es : List Expr} {ta : TE} {t : TA}
end
section
variable {X : Cx} {CX : CXT} {k : Nat} {f C g : Addr} {sp : Sp} {E : XK} {pins : List (Addr × Obj)} {σ : L2.St} {H : Hp} {s : Shared}
structure Own (K : PySem.W.Frag) (C : Addr) (m : Str) (f : Addr) : Prop where
  at_ : PySem.W.findIn K (.ref C) m = some (some (.ref f))
  fn : PySem.W.isFn K (.ref f) = true
theorem Own.of {K : PySem.W.Frag} {m : Str} (h : Meth K C m f) : Own K C m f := ⟨h.at_, h.fn⟩
end
section
open PySem.W (alike dataLt lt_data le_data)
variable {X : Cx}
def rReprD (K : PySem.W.Frag) : List V → Hp → VK → Prop := fun xs H Q => ∃ (a : Addr) (d : PyData), xs = [.ref a] ∧ Dp K H (.ref a) d ∧ d.showable = true ∧ d.hasDict = false ∧ d.depth ≤ 60 ∧ d.shown.length ≤ sizeLine ∧ Q (.str d.shown) H
theorem call_reprD (hg : X.A.guards = some []) (hu : X.A.units + 64 < cLine) : CallR X (.builtin "repr") (rReprD X.K) := by
  rintro pins s σ H xs us Q I r ⟨a, d, rfl, hd, hs, nd, dp, hz, q⟩
  match us, r with
  | [u], .cons r1 .nil =>
    cases r1
    obtain ⟨as, rd⟩ := Dp.reads I d (.ref a) (.ref a) hd rfl
    refine repr_of_reads' rd hs (fun z => ?_) hg (by omega) (fun _ _ z => z) (fun h' u tk hk => ⟨.str d.shown, H, I.kept hk, ⟨u, rfl⟩, q⟩) hz
    rw [nd] at z
    cases z
end
end ZL
set_option Elab.async false
set_option linter.all false
set_option maxRecDepth 100000
set_option maxHeartbeats 4000000
namespace ZL
open PySem PySem.Spec PyProof.Rows L2
structure OwnNe (K : PySem.W.Frag) (C : Addr) : Prop where
  ne : PySem.W.findIn K (.ref C) "__ne__" = some (some (.builtin "object.__ne__"))
  ob : PySem.W.mroIn K C (.type "object") = some true
section
variable {prog : Program} {w : World} {A : Around} {E : Value → Shared → Prop} {s : Shared} {K : PySem.W.Frag} {x C f : Addr} {ox : Obj} {od : Option Obj} {b : Value}
end
section
variable {X : Cx} {CX : CXT} {k : Nat} {f C g : Addr} {sp : Sp} {E : XK}
end
section
variable {X : Cx} {a b c d : Expr} {ta tb tc td : TE} {pos : Pos}
end
end ZL
set_option Elab.async false
set_option linter.all false
set_option maxRecDepth 100000
set_option maxHeartbeats 4000000
namespace ZL
open PySem PySem.Spec PyProof.Rows L2
section
variable {X : Cx} {CX : CXT} {k : Nat} {f C g : Addr} {sp : Sp} {E : XK} {a b : Expr} {ta tb : TE} {pos : Pos}
end
section
variable {prog : Program} {w : World} {A : Around} {E : Value → Shared → Prop} {s : Shared}
end
section
variable {X : Cx}
end
theorem meets_enumerate_new1 {v : Value} {o : Obj} {H : Heap → Prop} (B : Begins v o H) :
    Meets (Builtin.«enumerate.__new__» ⟨[.type "enumerate", v], []⟩) (fun _ R s => H s.heap ∧
      R (.ok (.ret (.ref (s.heap.push o).objs.size))) { s with heap := (s.heap.push o).push { cls := .type "enumerate", data := .fields #[.none, .bool false, .ref s.heap.objs.size, rawInt 0, .none, .none] } }) :=
  .of_wp fun prog w A R s h => by
    obtain ⟨hp, g, d, tk, os⟩ := s
    obtain ⟨h1, h⟩ := h
    have hsub := sub_enumerate
    have q1 : ∀ {A' : Around} {E : Value → Shared → Prop} {Q : Value → Shared → Prop}, Q (.ref hp.objs.size) ⟨hp.push o, g, d, tk, os⟩ → wpAny (model prog w) A' (pyIter v) Q E ⟨hp, g, d, tk, os⟩ :=
      fun q => B.iter prog w _ _ ⟨hp, g, d, tk, os⟩ _ h1 q
    wp_walk using q1
    refine wpAny_stack_any fun st => wpAny_pure ?_
    split
    · rename_i c _ _ _ _ _
      cases (c == Value.type "enumerate")
      · wp_walk using q1
        exact ⟨_, rfl, h⟩
      · wp_walk using q1
        exact ⟨_, rfl, h⟩
    · wp_walk using q1
      exact ⟨_, rfl, h⟩
theorem enum_begins1 {prog : Program} {w : World} {A : Around} {E : Value → Shared → Prop} {s : Shared} {v : Value} {o : Obj} {H : Heap → Prop} {Q : Value → Shared → Prop} (B : Begins v o H) (h1 : H s.heap)
    (h : ∀ h', IsEnum h' (s.heap.objs.size + 1) s.heap.objs.size 0 .none → h'.get? s.heap.objs.size = some o → (∀ b o, s.heap.get? b = some o → h'.get? b = some o) → Q (.ref (s.heap.objs.size + 1)) { s with heap := h' }) :
    wpAny (model prog w) A (call (.type "enumerate") [v]) Q E s := by
  have hz : (s.heap.push o).objs.size = s.heap.objs.size + 1 := Heap.size_push ..
  refine callType_new PySem.F.called_enumerate (by decide) (PySem.F.typeCall_enumerate_1 _) (PySem.F.newCall_enumerate_1 _) (fun obj => PySem.F.args_object_init_2 obj _) PySem.F.entry_enumerate_new (meets_enumerate_new1 B) ⟨h1, ?_⟩
  show _ ∧ _
  rw [hz]
  have he := Heap.get?_push_size (s.heap.push o) (o := { cls := .type "enumerate", data := .fields #[.none, .bool false, .ref s.heap.objs.size, rawInt 0, .none, .none] }) rfl
  rw [hz] at he
  exact ⟨⟨_, he, rfl⟩, h _ he (Heap.get?_push_of_some _ (Heap.get?_push_size _ B.free)) fun b o x => Heap.get?_push_of_some _ (Heap.get?_push_of_some _ x)⟩
def IteT (K : PySem.W.Frag) (a : Addr) : It :=
  ⟨fun i H => ∃ (xs : List V) (x : V), SqT K H a xs ∧ xs[i]? = some x, fun i H v H' => ∃ T x, v = .ref T ∧ H T = none ∧ H' = upd H T (.tup [.int (i : Nat), x]) ∧ ∀ xs, SqT K H a xs → xs[i]? = some x, fun i H => ∃ xs : List V, SqT K H a xs ∧ xs.length = i⟩
theorem turn_enumT {P : Program} {w : World} {K : PySem.W.Frag} {elts : List Expr} {kk : Nat} {tpos : Pos} (a e it : Addr) :
    Turn P w K (.Tuple elts kk tpos) (IteT K a) [e, it] e (fun i h => (∃ old, IsEnum h e it ((i : Nat) : Int) old) ∧ h.IsTupleIter it a i ∧ e ≠ it) where
  mem := by simp
  obj := fun i h st b hb => by
    obtain ⟨⟨old, he⟩, ⟨o, ho, hc, hd⟩, _⟩ := st
    rcases List.mem_cons.mp hb with z | z
    · rw [z]; exact ⟨_, he, fun v q => nomatch q⟩
    · rw [List.mem_singleton.mp z]; exact ⟨o, ho, fun v q => by rw [hd] at q; cases q⟩
  keep := fun i h h' st k => by
    obtain ⟨⟨old, he⟩, hi, hne⟩ := st
    exact ⟨⟨old, k e (by simp) _ he⟩, hi.at fun o q => k it (by simp) o q, hne⟩
  item := by
    intro X hP hw hK hc i pins s σ H E I hf st hg
    subst hP hw hK
    obtain ⟨⟨old, he⟩, hit, hne⟩ := st
    obtain ⟨xs, x, hq, hx⟩ := hg
    obtain ⟨its, rv, p, hz⟩ := I.tuple hq
    obtain ⟨u, hu, ru⟩ := rv.get hx
    have hel : e < s.heap.objs.size := Heap.lt_size he
    have hil : it < s.heap.objs.size := by obtain ⟨_, q, _⟩ := hit; exact Heap.lt_size q
    have hae : a ≠ e := fun z => by
      obtain ⟨o, ho, hcl, _⟩ := p
      rw [z, he] at ho
      cases ho
      injection hcl with q
      exact absurd q (by decide)
    have hai : a ≠ it := fun z => by
      obtain ⟨o, ho, hcl, _⟩ := p
      obtain ⟨o2, ho2, hc2, _⟩ := hit
      rw [z, ho2] at ho
      cases ho
      rw [hc2] at hcl
      injection hcl with q
      exact absurd q (by decide)
    refine wpAny_pyNext_enum_itemC (Draws.tuple (by exact I.ok.hd hc) it a hai its.toArray) he ⟨hit, p⟩ (by rw [List.size_toArray, ← rv.length]; exact (List.getElem?_eq_some_iff.mp hx).1) hne (by simp [hne, hae.symm]) fun y h' tk hP ho hst hT hsz hk => ?_
    have hy : y = u := by
      have q : its.toArray[i]? = some y := hP
      rw [List.getElem?_toArray, hu] at q
      exact (Option.some.inj q).symm
    subst hy
    refine ⟨_, rfl, wpAny_letOwnedTupleGo_enum (s := { s with heap := h', toks := tk + 1 }) ho fun h'' he' sb => ?_⟩
    have hT2 : h''.get? s.heap.objs.size = some { cls := .type "tuple", data := .seq #[.int i tk, y] } := (sb.2 _ (Nat.ne_of_gt hel)).trans hT
    have new : ObjOk X.prog X.w (upd H s.heap.objs.size (.tup [.int (i : Nat), x])) h'' s.heap.objs.size (.tup [.int (i : Nat), x]) :=
      ⟨by show 2 ≤ sizeLine; decide, [.int i tk, y], .cons ⟨_, rfl⟩ (.cons ru .nil), ⟨_, hT2, rfl, _, rfl⟩⟩
    have I1 : Inv X pins σ (upd H s.heap.objs.size (.tup [.int (i : Nat), x])) { s with heap := h'', toks := tk + 1 } :=
      I.turnedNew (ch := [e, it]) (fun b ob hb q => (sb.2 b (fun z => hb (by simp [z]))).trans (hk b ob (fun z => hb (by simp [z])) (fun z => hb (by simp [z])) q)) hf (Nat.le_refl _) new
    refine ⟨.ref s.heap.objs.size, _, I1, rfl, ⟨_, x, rfl, I.hok.fresh (Nat.le_refl _), rfl, fun ys hy => by rw [I.tuple_inj hy hq]; exact hx⟩, ⟨⟨y, ?_⟩, hst.1.at fun o q => (sb.2 it (Ne.symm hne)).trans q, hne⟩, fun b hb => ?_⟩
    · rw [show ((i + 1 : Nat) : Int) = (i : Int) + 1 by omega]
      exact he'
    · have hb' : b < s.heap.objs.size := by
        rcases List.mem_cons.mp hb with z | z
        · rw [z]; exact hel
        · rw [List.mem_singleton.mp z]; exact hil
      rw [upd_ne (Nat.ne_of_lt hb')]
      exact (hf b hb).1
  done := by
    intro X hP hw hK hc i pins s σ H E I hf st hg
    subst hP hw hK
    obtain ⟨⟨old, he⟩, hit, hne⟩ := st
    obtain ⟨xs, hq, hx⟩ := hg
    obtain ⟨its, rv, p, hz⟩ := I.tuple hq
    obtain ⟨f0, f1, f2, f3, f4, f5⟩ := hf it (by simp)
    have hl := rv.length
    have hai : a ≠ it := fun z => by
      obtain ⟨o, ho, hcl, _⟩ := p
      obtain ⟨o2, ho2, hc2, _⟩ := hit
      rw [z, ho2] at ho
      cases ho
      rw [hc2] at hcl
      injection hcl with q
      exact absurd q (by decide)
    have hi : its.toArray.size = i := by rw [List.size_toArray, ← hl]; exact hx
    exact wpAny_pyNext_enum_endD (Draws.tuple (by exact I.ok.hd hc) it a hai its.toArray) he ⟨by rw [hi]; exact hit, p⟩ fun h' eb => ⟨rfl, I.turned (t' := s.toks) (fun b o hb q => eb b o hb q) f0 f1 f3 f4 f5⟩
  self := fun A i s Q E st h => by
    obtain ⟨⟨_, he⟩, _⟩ := st
    exact wpAny_pyIter_enum he h
def iEnumT (K : PySem.W.Frag) (ta : TA) : TI := fun σ H R => ta σ H fun vs H1 => ∃ a xs, vs = [.ref a] ∧ SqT K H1 a xs ∧ R (IteT K a) H1
theorem pi_enumT {X : Cx} {e : Expr} {ta : TA} {p pos tpos : Pos} {elts : List Expr} {kk : Nat} (hg : Gl X "enumerate") (hm : X.mg "enumerate" = none) (ha : PA X [e] ta) (hs : starEach [e] X.env = [(false, eval e X.env)] := by rfl) :
    PI X (.Tuple elts kk tpos) (.Call (.Name "enumerate" p) [e] [] pos) (iEnumT X.K ta) := by
  refine ⟨fun pins s σ H R I h => ?_⟩
  refine Call_ (ld_blt I hg hm boot_enumerate (PyProof.Rows.callWith_type1 (thn (ha.run pos pins s σ H _ I h) fun us s1 z => ?_) hs rfl))
  obtain ⟨vs, H1, I1, r1, a, xs, rfl, hq, q⟩ := z
  match us, r1 with
  | [u], .cons r .nil =>
    cases r
    obtain ⟨its, rv, p', hz⟩ := I1.tuple hq
    refine enum_begins1 (begins_tuple a its.toArray) p' fun h' he hit hk => wpAny_pyIter_enum he ?_
    have I2 : Inv X pins σ H1 { s1 with heap := h' } := I1.kept (t' := s1.toks) hk
    refine ⟨s1.heap.objs.size + 1, [s1.heap.objs.size + 1, s1.heap.objs.size], _, _, H1, rfl, I2, turn_enumT a (s1.heap.objs.size + 1) s1.heap.objs.size, ⟨⟨.none, he⟩, ⟨_, hit, rfl, rfl⟩, Nat.succ_ne_self _⟩, fun b hb => ?_, q⟩
    have hle : s1.heap.objs.size ≤ b := by
      rcases List.mem_cons.mp hb with z | z
      · rw [z]; exact Nat.le_add_right _ _
      · rw [List.mem_singleton.mp z]; exact Nat.le_refl _
    exact I1.fpOk hle (I1.hok.fresh hle)
theorem walk_enumT {K : PySem.W.Frag} {a : Addr} {xs : List V} : Walk (IteT K a) xs.length (fun H => SqT K H a xs) (YPair (fun i => some (.int (i : Nat))) (fun i => xs[i]?)) where
  goes := fun i _ hi q => ⟨xs, xs[i], q, by simp [hi]⟩
  stops := fun _ q => ⟨xs, q, rfl⟩
  yields := fun i H v H' _ q y => by
    obtain ⟨T, x, h1, h2, h3, h4⟩ := y
    exact ⟨T, .int (i : Nat), x, h1, h2, h3, rfl, h4 xs q⟩
end ZL
set_option Elab.async false
set_option linter.all false
set_option maxRecDepth 100000
set_option maxHeartbeats 4000000
namespace ZL
open PySem PySem.Spec PyProof.Rows L2
def FnRG (P : Program) (w : World) (K : PySem.W.Frag) (mg : Str → Option Value) (base : Heap) (CX : CXT) (k : Nat) (f : Addr) (sp : Sp) : Prop :=
  ∀ (A : Around) (outer : List Env) (s : Shared) (H : Hp) (us : List Value) (vs : List V) (Q : VK) (E : XK), A.guards = some [] → Room k A → Env0 P w K mg base A outer s H → Vals vs us → sp vs H Q E →
    codeAny (model P w) A (.call (.ref f) ⟨us, []⟩) (CR CX outer P w H s Q E) s
section
variable {P : Program} {w : World} {K : PySem.W.Frag} {mg : Str → Option Value} {base : Heap} {x qual : Str} {st : Stmt} {kws : List (Str × V)} {f : Addr} {fd : FuncData} {N ps : List Str} {k : Nat} {sp : Sp} {CX : CXT}
theorem FnRG.of (F : FnR P w K mg base CX k f sp) : FnRG P w K mg base CX k f sp := fun A outer s H us vs Q E _ hr e0 r h => F A outer s H us vs Q E hr e0 r h
theorem okR (F : FunD K x qual (defArgs st) (defBody st) (defScope st) [] kws f fd) (S : FnScope N ps (defScope st)) (len : ∀ vs H Q E, sp vs H Q E → vs.length = ps.length)
    (hb : ∀ (kV doc pm : Value) (an : Option Addr) (cdv ct : Value) (us : List Value), us.length = ps.length → bindArgs (PySem.W.fnOf x qual (defArgs st) (defBody st) (defScope st) .none kV doc pm an cdv ct) ⟨us, []⟩ = pure (ps.zip us))
    (hbody : ∀ (cdv : Value) (A : Around) (outer : List Env) (s : Shared) (H : Hp) (vs : List V) (Q : VK) (E : XK), Room k (A.deeper (envOfC qual (defScope st) s.heap.objs.size f cdv)) → sp vs H Q E →
      ∃ t, PSs (cxOf CX0 P w K mg base N qual (defScope st) f cdv A outer s H E).nox (defBody st) t ∧ t { nx := fun _ H' => Q .non H', rt := Q } (start N vs) H) : FnR P w K mg base CX0 (k + 1) f sp := by
  have G : FnOk P w K mg base CX0 (k + 1) f fd ps sp := F.ok S len fun cdv A outer s H vs Q E hr h => by
    obtain ⟨t, ht, q⟩ := hbody cdv A outer s H vs Q E hr h
    exact ⟨t, ht.nox, q⟩
  exact (G.raw (F.bindsN hb) .nil).imp fun vs H Q E h => by rw [List.append_nil]; exact h
end
section
variable {X : Cx} {CX : CXT} {k : Nat} {f C : Addr} {sp : Sp} {E : XK} {x m : Str} {p pos apos : Pos} {e o : Expr} {es : List Expr} {ta : TE} {t : TA}
def tCallR (sp : Sp) (E : XK) (t : TA) : TE := fun σ H Q => t σ H fun vs H1 => sp vs H1 Q E
theorem pe_callRG (F : FnRG X.prog X.w X.K X.mg X.base CX k f sp) (hgd : X.A.guards = some []) (hr : Room k X.A) (hg : Gl X x) (hm : X.mg x = some (.ref f)) (hk : PySem.W.keepIn X.K (.ref f) = true) (hx : Passes CX X E)
    (ha : PA X (e :: es) t) (hdb : (x == ("__debug__" : Str)) = false := by decide) (he : starEach (e :: es) X.env = (false, eval e X.env) :: starEach es X.env := by rfl) (hpl : (backTo pos (starEach es X.env)).any (·.1) = false := by rfl) :
    PE X (.Call (.Name x p) (e :: es) [] pos) (tCallR sp E t) :=
  ⟨fun pins s σ H Q I h => wpAny_Call_Name_kw (ld_glob I hg hm (PySem.W.callWith_K (h₀ := X.base) I.ok.mod.kin hk (thn (ha.run pos pins s σ H _ I h) fun us s1 z => by
    obtain ⟨vs, H1, I1, r, q⟩ := z
    refine ⟨I1.kIn, wpAny_call (codeAny_mono (F X.A X.stack s1 H1 us vs Q E hgd hr I1.env0 r q) fun z s' hq => ?_)⟩
    match z, hq with
    | .error e, hq => exact hx pins σ H1 s1 e s' I1 hq
    | .ok (.ret u), hq => exact I1.after hq
    | .ok .next, hq => exact False.elim hq
    | .ok .brk, hq => exact False.elim hq
    | .ok .cont, hq => exact False.elim hq) he hpl) hdb)⟩
end
def LcN (D : Addr) (Pv : Nat → List V → Hp → Prop) (i : Nat) (y : V) (H4 : Hp) : Prop := ∃ acc, H4 D = some (.lst acc) ∧ acc.length < sizeLine ∧ ∃ ys, ys.length = i + 1 ∧ upd H4 D (.lst (acc ++ [y])) D = some (.lst ys) ∧ Pv (i + 1) ys (upd H4 D (.lst (acc ++ [y])))
theorem LcN.mk {D : Addr} {Pv : Nat → List V → Hp → Prop} {i : Nat} {ys : List V} {y : V} {H4 : Hp} (hl : ys.length = i) (hi : i < 1000) (hD : H4 D = some (.lst ys)) (h : Pv (i + 1) (ys ++ [y]) (upd H4 D (.lst (ys ++ [y])))) : LcN D Pv i y H4 :=
  ⟨ys, hD, small1000 (by omega), ys ++ [y], by rw [List.length_append, hl]; rfl, upd_same, h⟩
end ZL
set_option Elab.async false
set_option linter.all false
set_option maxRecDepth 100000
set_option maxHeartbeats 4000000
namespace ZL
open PySem PySem.Spec PyProof.Rows L2
section
variable {P : Program} {w : World} {K : PySem.W.Frag} {mg mb : Str → Option Value} {k : Nat} {fa a : Addr} {sp : Sp} {s₁ : Shared} {vs : List Value} {ns : List Int}
abbrev ended (s₁ : Shared) : Except Value Flow → Shared → Prop := fun r s' => r = .ok (.ret (.bool true)) ∧ OldK s₁.heap s'.heap ∧ s'.os = s₁.os ∧ AllBare s'.gens
end
end ZL
set_option Elab.async false
set_option linter.all false
set_option maxRecDepth 100000
set_option maxHeartbeats 4000000
namespace ZL
open PySem PySem.Spec PyProof.Rows L2
section
variable {X : Cx} {CX : CXT} {k : Nat} {f C : Addr} {sp : Sp} {E : XK}
end
end ZL
set_option Elab.async false
set_option linter.all false
set_option maxRecDepth 100000
set_option maxHeartbeats 4000000
namespace ZL
open PySem PySem.Spec PyProof.Rows L2
section
variable {X : Cx} {CX : CXT} {k : Nat} {f C g : Addr} {sp : Sp} {E : XK} {pins : List (Addr × Obj)} {σ : L2.St} {H : Hp} {s : Shared}
end
end ZL
set_option Elab.async false
set_option linter.all false
set_option maxRecDepth 100000
set_option maxHeartbeats 4000000
namespace ZL
open PySem PySem.Spec PyProof.Rows L2
section
open PySem.W
variable {prog : Program} {w : World} {A : Around} {E : Value → Shared → Prop} {s : Shared} {K : Frag} {x C f dx : Addr} {od : Option Obj} {nm id : String} {B : Builtin} {i : Int} {t : Tok} {Q : Value → Shared → Prop}
end
end ZL
set_option Elab.async false
set_option linter.all false
set_option maxRecDepth 100000
set_option maxHeartbeats 4000000
namespace ZL
open PySem PySem.Spec PyProof.Rows L2
section
open PySem.W
variable {prog : Program} {w : World} {A : Around} {E : Value → Shared → Prop} {s : Shared} {K : Frag} {x C f dx : Addr} {od : Option Obj} {nm id : String} {i : Int} {t : Tok} {Q : Value → Shared → Prop}
end
section
open PySem.W (clsIn findIn subIn)
variable {X : Cx} {CX : CXT} {k : Nat} {f C : Addr} {sp : Sp} {E : XK} {pins : List (Addr × Obj)} {σ : L2.St} {H : Hp} {s : Shared}
def Plain (K : PySem.W.Frag) (C : Addr) : Prop := ∃ cd, clsIn K C = some cd ∧ cd.mro = [.ref C, .type "object"]
end
end ZL
set_option Elab.async false
set_option linter.all false
set_option maxRecDepth 100000
set_option maxHeartbeats 4000000
namespace ZL
open PySem PySem.Spec PyProof.Rows L2
section
variable {M : Model} {A : Around} {E : Value → Shared → Prop} {s : Shared}
end
section
variable {X : Cx} {CX : CXT} {k : Nat} {f C : Addr} {sp : Sp} {E : XK}
end
end ZL
set_option Elab.async false
set_option linter.all false
set_option maxRecDepth 100000
set_option maxHeartbeats 4000000
namespace ZL
open PySem PySem.Spec PyProof.Rows L2
end ZL
set_option Elab.async false
set_option linter.all false
set_option maxRecDepth 100000
set_option maxHeartbeats 4000000
namespace ZH
open PySem PySem.W L2
abbrev Dks : Type := List (Str × List Str)
def obsY (chk : Frag → Bool) (fn : List He5.DefA) (ds : Dks) (K : Frag) : He.AlT := (obsZ chk fn K, ds.map fun d => He.dicW K (He.ga K d.1))
def SaysY (chk : Frag → Bool) (fn : List He5.DefA) (ds : Dks) (w : World) (K : Frag) : Prop := obsY chk fn ds K = (He5.valA fn, ds.map fun d => some (He.keysIn w.params d.2))
section
variable {chk : Frag → Bool} {fn : List He5.DefA} {ds : Dks} {w : World} {K : Frag}
theorem SaysY.z (c : SaysY chk fn ds w K) : SaysZ chk fn K := congrArg (fun z : He.AlT => z.1) c
theorem SaysY.dict (c : SaysY chk fn ds w K) {x : Str} {ks : List Str} (h : (x, ks) ∈ ds) : ∃ es n, L2.KDict K w (He.ga K x) es n := by
  obtain ⟨i, hi, e⟩ := List.mem_iff_getElem.mp h
  have e1 : ds.map (fun d => He.dicW K (He.ga K d.1)) = ds.map fun d => some (He.keysIn w.params d.2) := congrArg (fun z : He.AlT => z.2) c
  have e2 := congrArg (fun l : List (Option (List (Option (Str × Int)))) => l[i]?) e1
  simp only [List.getElem?_map, List.getElem?_eq_getElem hi, Option.map_some, e] at e2
  exact He.dicW_ok (Option.some.inj e2)
end
end ZH
set_option Elab.async false
set_option linter.all false
set_option maxRecDepth 100000
set_option maxHeartbeats 4000000
namespace ZH
open PySem PySem.W L2
end ZH
set_option Elab.async false
set_option linter.all false
set_option maxRecDepth 100000
set_option maxHeartbeats 4000000
namespace PV
open PySem PySem.Spec PyProof.Rows L2 ZL
inductive D where
  | non | bl (b : Bool) | int (i : Int) | str (x : Str)
  | tup (xs : List D) | lst (xs : List D) | obj (c : String) (fs : List (String × D))
  | loc (n : Nat) | cls (c : String) | fnc (f : String) | ty (n : String)
  | src (xs : List D) | dic0 | hob (o : HO) | exc (c : String) (fs : List (String × D))
inductive Cell where
  | lst (xs : List D) | ins (c : String) (fs : List (String × D)) | dead | dic (es : List (Str × D))
def ExV (cls : Value) (dd : Option Addr) (a : Addr) : HO := .ext fun h => ∃ (oe : Obj) (vs : Array Value), h.get? a = some oe ∧ Zc cls dd oe ∧ oe.data = .fields vs
def tbs (K : PySem.W.Frag) : List (Addr × Str) := K.filterMap fun e => match e.2.data with
  | .func fd => (match fd.code with
    | .ref c => (match K.lookup c with
      | some ⟨_, _, .fields vs, _⟩ => (match (vs[11]? : Option Value) with
        | some (.ref P) => (match K.lookup P with
          | none => some (P, fd.qualname ++ ".<locals>." ++ "<lambda>")
          | some _ => none)
        | _ => none)
      | _ => none)
    | _ => none)
  | _ => none
abbrev NoT (o : HO) : Prop := ∀ ps, o ≠ .tbl ps
abbrev Sto := List Cell
structure Gh where
  F : Hp
  f : Nat → Option Addr
def Gh.le (G G' : Gh) : Prop := (∀ a o, G.F a = some o → G'.F a = some o) ∧ ∀ n a, G.f n = some a → G'.f n = some a
theorem Gh.le.refl {G : Gh} : G.le G := ⟨fun _ _ h => h, fun _ _ h => h⟩
theorem Gh.le.trans {G G' G'' : Gh} (a : G.le G') (b : G'.le G'') : G.le G'' := ⟨fun x o h => b.1 x o (a.1 x o h), fun n x h => b.2 n x (a.2 n x h)⟩
mutual
inductive Rp (K : PySem.W.Frag) (G : Gh) : D → V → Prop where
  | non : Rp K G .non .non
  | bl (b : Bool) : Rp K G (.bl b) (.bl b)
  | int (i : Int) : Rp K G (.int i) (.int i)
  | str (x : Str) : Rp K G (.str x) (.str x)
  | tup {xs : List D} {a : Addr} {vs : List V} (h : SqT K G.F a vs) (r : Rps K G xs vs) : Rp K G (.tup xs) (.ref a)
  | lst {xs : List D} {a : Addr} {vs : List V} (h : G.F a = some (.lst vs)) (r : Rps K G xs vs) : Rp K G (.lst xs) (.ref a)
  | obj {c : String} {fs : List (String × D)} {a dx : Addr} {ws : List (Str × V)} (h : G.F a = some (.ins (He.ga K (Str.ofString c)) dx ws)) (r : Rpf K G fs ws) : Rp K G (.obj c fs) (.ref a)
  | loc {n : Nat} {a : Addr} (h : G.f n = some a) : Rp K G (.loc n) (.ref a)
  | cls (c : String) : Rp K G (.cls c) (.ref (He.ga K (Str.ofString c)))
  | fnc (f : String) : Rp K G (.fnc f) (.ref (He.ga K (Str.ofString f)))
  | ty (n : String) : Rp K G (.ty n) (.ty n)
  | src {xs : List D} {a : Addr} {vs : List V} (h : SqL K G.F a vs) (r : Rps K G xs vs) : Rp K G (.src xs) (.ref a)
  | dic0 {a : Addr} (h : G.F a = some (.dK [])) : Rp K G .dic0 (.ref a)
  | hob {o : HO} {a : Addr} (h : G.F a = some o) : Rp K G (.hob o) (.ref a)
  | exc0 {c : String} {a : Addr} (h : G.F a = some (ExV (.ref (He.ga K (Str.ofString c))) none a)) : Rp K G (.exc c []) (.ref a)
  | exc {c : String} {fs : List (String × D)} {a d : Addr} {ws : List (Str × V)} (h : G.F a = some (ExV (.ref (He.ga K (Str.ofString c))) (some d) a)) (hd : G.F d = some (.xd ws)) (r : Rpf K G fs ws) : Rp K G (.exc c fs) (.ref a)
inductive Rps (K : PySem.W.Frag) (G : Gh) : List D → List V → Prop where
  | nil : Rps K G [] []
  | cons {d : D} {v : V} {xs : List D} {vs : List V} (h : Rp K G d v) (t : Rps K G xs vs) : Rps K G (d :: xs) (v :: vs)
inductive Rpf (K : PySem.W.Frag) (G : Gh) : List (String × D) → List (Str × V) → Prop where
  | nil : Rpf K G [] []
  | cons {n : String} {d : D} {v : V} {fs : List (String × D)} {ws : List (Str × V)} (h : Rp K G d v) (t : Rpf K G fs ws) : Rpf K G ((n, d) :: fs) ((Str.ofString n, v) :: ws)
end
theorem SqT.mono {K : PySem.W.Frag} {F F' : Hp} {a : Addr} {vs : List V} (h : SqT K F a vs) (le : ∀ a o, F a = some o → F' a = some o) : SqT K F' a vs := by
  rcases h with (h | ⟨o, h⟩) | h
  · exact .inl (.inl (le _ _ h))
  · exact .inl (.inr ⟨o, le _ _ h⟩)
  · exact .inr h
theorem SqL.mono {K : PySem.W.Frag} {F F' : Hp} {a : Addr} {vs : List V} (h : SqL K F a vs) (le : ∀ a o, F a = some o → F' a = some o) : SqL K F' a vs := by
  rcases h with (h | ⟨o, h⟩) | h
  · exact .inl (.inl (le _ _ h))
  · exact .inl (.inr ⟨o, le _ _ h⟩)
  · exact .inr h
section
variable {K : PySem.W.Frag} {G G' : Gh}
theorem Rp.mono {d : D} {v : V} (h : Rp K G d v) (le : G.le G') : Rp K G' d v :=
  Rp.rec (motive_1 := fun d v _ => Rp K G' d v) (motive_2 := fun xs vs _ => Rps K G' xs vs) (motive_3 := fun fs ws _ => Rpf K G' fs ws)
    .non .bl .int .str (fun h _ r => .tup (SqT.mono h le.1) r) (fun h _ r => .lst (le.1 _ _ h) r) (fun h _ r => .obj (le.1 _ _ h) r) (fun h => .loc (le.2 _ _ h)) .cls .fnc .ty (fun h _ r => .src (SqL.mono h le.1) r) (fun h => .dic0 (le.1 _ _ h)) (fun h => .hob (le.1 _ _ h)) (fun h => .exc0 (le.1 _ _ h)) (fun h hd _ r => .exc (le.1 _ _ h) (le.1 _ _ hd) r) .nil (fun _ _ a b => .cons a b) .nil (fun _ _ a b => .cons a b) h
theorem Rps.mono {xs : List D} {vs : List V} (h : Rps K G xs vs) (le : G.le G') : Rps K G' xs vs := by
  induction xs generalizing vs with
  | nil => cases h; exact .nil
  | cons x xs ih => cases h with | cons a b => exact .cons (a.mono le) (ih b)
theorem Rpf.mono {fs : List (String × D)} {ws : List (Str × V)} (h : Rpf K G fs ws) (le : G.le G') : Rpf K G' fs ws := by
  induction fs generalizing ws with
  | nil => cases h; exact .nil
  | cons x xs ih => cases h with | cons a b => exact .cons (a.mono le) (ih b)
theorem Rps.length {xs : List D} {vs : List V} (h : Rps K G xs vs) : vs.length = xs.length := by
  induction xs generalizing vs with
  | nil => cases h; rfl
  | cons x xs ih => cases h with | cons a b => simp [ih b]
theorem Rps.get {xs : List D} {vs : List V} {i : Nat} {d : D} (h : Rps K G xs vs) (e : xs[i]? = some d) : ∃ v, vs[i]? = some v ∧ Rp K G d v := by
  induction xs generalizing vs i with
  | nil => simp at e
  | cons x xs ih =>
    cases h with
    | cons a b =>
      cases i with
      | zero => simp at e; subst e; exact ⟨_, rfl, a⟩
      | succ i => obtain ⟨v, h1, h2⟩ := ih b (by simpa using e); exact ⟨v, by simpa using h1, h2⟩
theorem Rps.get' {xs : List D} {vs : List V} {i : Nat} {v : V} (h : Rps K G xs vs) (e : vs[i]? = some v) : ∃ d, xs[i]? = some d ∧ Rp K G d v := by
  induction xs generalizing vs i with
  | nil => cases h; simp at e
  | cons x xs ih =>
    cases h with
    | cons a b =>
      cases i with
      | zero => simp at e; subst e; exact ⟨_, rfl, a⟩
      | succ i => obtain ⟨v, h1, h2⟩ := ih b (by simpa using e); exact ⟨v, by simpa using h1, h2⟩
theorem Rps.append {xs ys : List D} {vs ws : List V} (h : Rps K G xs vs) (h' : Rps K G ys ws) : Rps K G (xs ++ ys) (vs ++ ws) := by
  induction xs generalizing vs with
  | nil => cases h; exact h'
  | cons x xs ih => cases h with | cons a b => exact .cons a (ih b)
theorem Rps.take {xs : List D} {vs : List V} (n : Nat) (h : Rps K G xs vs) : Rps K G (xs.take n) (vs.take n) := by
  induction xs generalizing vs n with
  | nil => cases h; simp; exact .nil
  | cons x xs ih =>
    cases h with
    | cons a b =>
      cases n with
      | zero => exact .nil
      | succ n => exact .cons a (ih n b)
theorem Rps.drop {xs : List D} {vs : List V} (n : Nat) (h : Rps K G xs vs) : Rps K G (xs.drop n) (vs.drop n) := by
  induction xs generalizing vs n with
  | nil => cases h; simp; exact .nil
  | cons x xs ih =>
    cases h with
    | cons a b =>
      cases n with
      | zero => exact .cons a b
      | succ n => exact ih n b
theorem Rps.set {xs : List D} {vs : List V} {d : D} {v : V} (i : Nat) (h : Rps K G xs vs) (r : Rp K G d v) : Rps K G (xs.set i d) (vs.set i v) := by
  induction xs generalizing vs i with
  | nil => cases h; exact .nil
  | cons x xs ih =>
    cases h with
    | cons a b =>
      cases i with
      | zero => exact .cons r b
      | succ i => exact .cons a (ih i b)
theorem Rpf.get {fs : List (String × D)} {ws : List (Str × V)} {n : String} {d : D} (h : Rpf K G fs ws) (e : fs.lookup n = some d) (inj : ∀ p ∈ fs, Str.ofString p.1 = Str.ofString n → p.1 = n) : ∃ v, ws.lookup (Str.ofString n) = some v ∧ Rp K G d v := by
  induction fs generalizing ws with
  | nil => simp at e
  | cons x xs ih =>
    cases h with
    | @cons m d' v' _ ws' a b =>
      by_cases hm : n = m
      · subst hm
        simp at e
        subst e
        exact ⟨v', by simp, a⟩
      · have h1 : (n == m) = false := by simpa using hm
        rw [List.lookup_cons, h1] at e
        obtain ⟨v, p, q⟩ := ih b e fun p hp => inj p (List.mem_cons_of_mem _ hp)
        refine ⟨v, ?_, q⟩
        have h2 : (Str.ofString n == Str.ofString m) = false := by
          apply beq_eq_false_iff_ne.mpr
          intro z
          exact hm (inj (m, d') List.mem_cons_self z.symm).symm
        rw [List.lookup_cons, h2]
        exact p
end
inductive Rpk (K : PySem.W.Frag) (G : Gh) : List (Str × D) → List (Key × V) → Prop where
  | nil : Rpk K G [] []
  | cons {x : Str} {d : D} {v : V} {es : List (Str × D)} {kvs : List (Key × V)} (h : Rp K G d v) (t : Rpk K G es kvs) : Rpk K G ((x, d) :: es) ((.inr x, v) :: kvs)
theorem Rpk.mono {K : PySem.W.Frag} {G G' : Gh} {es : List (Str × D)} {kvs : List (Key × V)} (h : Rpk K G es kvs) (le : G.le G') : Rpk K G' es kvs := by
  induction h with
  | nil => exact .nil
  | cons a _ ih => exact .cons (a.mono le) ih
def Soft (H H' : Hp) : Prop := ∀ b o, H b = some o → ((∃ ps, o = .tbl ps) ∨ ∃ φ, o = .ext φ) → H' b = some o
theorem tabs_soft {T : List (Addr × Str)} {H H' : Hp} (t : LamX.Tabs T H) (e : Soft H H') : LamX.Tabs T H' := fun p hp => by
  obtain ⟨ps, h1, h2, h3⟩ := t p hp
  refine ⟨ps, e _ _ h1 (.inl ⟨ps, rfl⟩), h2, fun pos cv hc => ?_⟩
  obtain ⟨c, e1, e2⟩ := h3 pos cv hc
  exact ⟨c, e1, e _ _ e2 (.inr ⟨_, rfl⟩)⟩
theorem Soft.ext {H H' : Hp} (e : Ext H H') : Soft H H' := fun b o h _ => e b o h
theorem Soft.upd {H : Hp} {p : Addr} {o : HO} (h : ∀ u, H p = some u → (∀ ps, u ≠ .tbl ps) ∧ ∀ φ, u ≠ .ext φ) : Soft H (upd H p o) := fun b u e k => by
  rw [upd_ne fun z => ?_]
  · exact e
  · subst z
    rcases k with ⟨ps, k⟩ | ⟨φ, k⟩
    · exact (h u e).1 ps k
    · exact (h u e).2 φ k
theorem Soft.fresh {H : Hp} {p : Addr} {o : HO} (h : H p = none) : Soft H (L2.upd H p o) := Soft.upd fun u e => by rw [h] at e; cases e
def CellOk (K : PySem.W.Frag) (G : Gh) (H : Hp) (a : Addr) : Cell → Prop
  | .lst xs => ∃ vs, H a = some (.lst vs) ∧ Rps K G xs vs
  | .ins c fs => ∃ dx ws, H a = some (.ins (He.ga K (Str.ofString c)) dx ws) ∧ Rpf K G fs ws
  | .dead => True
  | .dic es => ∃ kvs, H a = some (.dK kvs) ∧ Rpk K G es kvs
structure Sm (K : PySem.W.Frag) (G : Gh) (S : Sto) (H : Hp) : Prop where
  fr : ∀ a o, G.F a = some o → H a = some o
  cel : ∀ (n : Nat) (c : Cell), S[n]? = some c → c ≠ .dead → ∃ a, G.f n = some a ∧ G.F a = none ∧ CellOk K G H a c
  dom : ∀ n a, G.f n = some a → n < S.length
  inj : ∀ n m a, G.f n = some a → G.f m = some a → n = m
  dn : ∀ n a, G.f n = some a → ∃ o, H a = some o ∧ NoT o
  nt : ∀ a o, G.F a = some o → NoT o
  tb : LamX.Tabs (tbs K) H
theorem CellOk.mono {K : PySem.W.Frag} {G G' : Gh} {H H' : Hp} {a : Addr} {c : Cell} (h : CellOk K G H a c) (le : G.le G') (e : ∀ o, H a = some o → H' a = some o) : CellOk K G' H' a c := by
  cases c with
  | lst xs => obtain ⟨vs, h1, h2⟩ := h; exact ⟨vs, e _ h1, h2.mono le⟩
  | ins c fs => obtain ⟨dx, ws, h1, h2⟩ := h; exact ⟨dx, ws, e _ h1, h2.mono le⟩
  | dead => trivial
  | dic es => obtain ⟨kvs, h1, h2⟩ := h; exact ⟨kvs, e _ h1, h2.mono le⟩
theorem CellOk.hard {K : PySem.W.Frag} {G : Gh} {H : Hp} {a : Addr} {c : Cell} (h : CellOk K G H a c) (nd : c ≠ .dead) : ∃ o, H a = some o ∧ (∀ ps, o ≠ .tbl ps) ∧ ∀ φ, o ≠ .ext φ := by
  cases c with
  | lst xs => obtain ⟨vs, h1, _⟩ := h; exact ⟨_, h1, (fun _ z => by cases z), (fun _ z => by cases z)⟩
  | ins c fs => obtain ⟨dx, ws, h1, _⟩ := h; exact ⟨_, h1, (fun _ z => by cases z), (fun _ z => by cases z)⟩
  | dead => exact absurd rfl nd
  | dic es => obtain ⟨kvs, h1, _⟩ := h; exact ⟨_, h1, (fun _ z => by cases z), (fun _ z => by cases z)⟩
theorem CellOk.has {K : PySem.W.Frag} {G : Gh} {H : Hp} {a : Addr} {c : Cell} (h : CellOk K G H a c) (nd : c ≠ .dead) : ∃ o, H a = some o := by
  cases c with
  | lst xs => obtain ⟨vs, h1, _⟩ := h; exact ⟨_, h1⟩
  | ins c fs => obtain ⟨dx, ws, h1, _⟩ := h; exact ⟨_, h1⟩
  | dead => exact absurd rfl nd
  | dic es => obtain ⟨kvs, h1, _⟩ := h; exact ⟨_, h1⟩
section
variable {K : PySem.W.Frag} {G G' : Gh} {S : Sto} {H H' : Hp}
theorem Sm.ext (m : Sm K G S H) (e : Ext H H') : Sm K G S H' where
  fr := fun a o h => e _ _ (m.fr a o h)
  cel := fun n c h nd => by
    obtain ⟨a, h1, h2, h3⟩ := m.cel n c h nd
    exact ⟨a, h1, h2, h3.mono .refl fun o => e _ _⟩
  dom := m.dom
  inj := m.inj
  dn := fun n a h => let ⟨o, z, y⟩ := m.dn n a h; ⟨o, e _ _ z, y⟩
  nt := m.nt
  tb := tabs_soft m.tb (.ext e)
def Gh.put (G : Gh) (p : Addr) (o : HO) : Gh := ⟨upd G.F p o, G.f⟩
theorem Gh.put_le {G : Gh} {p : Addr} {o : HO} (h : G.F p = none) : G.le (G.put p o) := ⟨fun a u e => by
  show upd G.F p o a = _
  rw [upd_ne (ne_of_none e h)]
  exact e, fun _ _ h => h⟩
theorem Sm.free (m : Sm K G S H) {p : Addr} (h : H p = none) : G.F p = none := by
  cases e : G.F p with
  | none => rfl
  | some o => rw [m.fr _ _ e] at h; cases h
theorem Gh.put_nt {G : Gh} {p : Addr} {o : HO} (m : ∀ a o, G.F a = some o → NoT o) (ht : NoT o) : ∀ a u, (G.put p o).F a = some u → NoT u := fun a u e => by
  have e' : upd G.F p o a = some u := e
  by_cases z : a = p
  · rw [z, upd_same] at e'
    cases e'
    exact ht
  · rw [upd_ne z] at e'
    exact m a u e'
theorem Sm.put (m : Sm K G S H) {p : Addr} {o : HO} (h : H p = none) (ht : NoT o := by intro _ z; cases z) : Sm K (G.put p o) S (upd H p o) where
  fr := fun a u e => by
    by_cases q : a = p
    · subst q
      rw [upd_same]
      have e' : upd G.F a o a = some u := e
      rw [upd_same] at e'
      exact e'
    · have e' : upd G.F p o a = some u := e
      rw [upd_ne q] at e'
      rw [upd_ne q]
      exact m.fr _ _ e'
  cel := fun n c e nd => by
    obtain ⟨a, h1, h2, h3⟩ := m.cel n c e nd
    obtain ⟨u, hu⟩ := h3.has nd
    have na := ne_of_none hu h
    refine ⟨a, h1, ?_, h3.mono (Gh.put_le (m.free h)) fun o' q => by rw [upd_ne na]; exact q⟩
    show upd G.F p o a = none
    rw [upd_ne na]
    exact h2
  dom := m.dom
  inj := m.inj
  dn := fun n a e => by
    obtain ⟨u, hu, nu⟩ := m.dn n a e
    exact ⟨u, by rw [upd_ne (ne_of_none hu h)]; exact hu, nu⟩
  nt := Gh.put_nt m.nt ht
  tb := tabs_soft m.tb (.fresh h)
def Gh.new (G : Gh) (n : Nat) (p : Addr) : Gh := ⟨G.F, fun m => if m = n then some p else G.f m⟩
theorem Gh.new_at {G : Gh} {n : Nat} {p : Addr} : (G.new n p).f n = some p := if_pos rfl
theorem Sm.new_le (m : Sm K G S H) {p : Addr} : G.le (G.new S.length p) := ⟨fun _ _ h => h, fun n a h => by
  have := m.dom n a h
  show (if n = S.length then some p else G.f n) = some a
  rw [if_neg (by omega)]
  exact h⟩
theorem Sm.addr (m : Sm K G S H) {n : Nat} {c : Cell} {a : Addr} (h : S[n]? = some c) (nd : c ≠ .dead) (e : G.f n = some a) : G.F a = none ∧ CellOk K G H a c := by
  obtain ⟨b, h1, h2, h3⟩ := m.cel n c h nd
  rw [h1] at e
  have e' := Option.some.inj e
  subst e'
  exact ⟨h2, h3⟩
theorem Sm.new (m : Sm K G S H) {p : Addr} {o : HO} {c : Cell} (h : H p = none) (hc : CellOk K (G.new S.length p) (upd H p o) p c) (ht : NoT o := by intro _ z; cases z) : Sm K (G.new S.length p) (S ++ [c]) (upd H p o) where
  fr := fun a u e => by
    have := m.fr a u e
    rw [upd_ne (ne_of_none this h)]
    exact this
  cel := fun n c' e nd => by
    by_cases q : n < S.length
    · rw [List.getElem?_append_left q] at e
      obtain ⟨a, h1, h2, h3⟩ := m.cel n c' e nd
      obtain ⟨u, hu⟩ := h3.has nd
      have na := ne_of_none hu h
      exact ⟨a, m.new_le.2 _ _ h1, h2, h3.mono m.new_le fun o' q => by rw [upd_ne na]; exact q⟩
    · have q2 : n = S.length := by
        have : n < (S ++ [c]).length := (List.getElem?_eq_some_iff.mp e).1
        simp at this
        omega
      subst q2
      simp at e
      subst e
      exact ⟨p, Gh.new_at, m.free h, hc⟩
  dom := fun n a e => by
    simp
    by_cases q : n = S.length
    · omega
    · have e' : (if n = S.length then some p else G.f n) = some a := e
      rw [if_neg q] at e'
      have := m.dom n a e'
      omega
  inj := fun n k a e1 e2 => by
    have e1' : (if n = S.length then some p else G.f n) = some a := e1
    have e2' : (if k = S.length then some p else G.f k) = some a := e2
    by_cases q1 : n = S.length
    · by_cases q2 : k = S.length
      · omega
      · rw [if_pos q1] at e1'
        rw [if_neg q2] at e2'
        cases e1'
        obtain ⟨o, ho, _⟩ := m.dn _ _ e2'
        rw [h] at ho
        cases ho
    · by_cases q2 : k = S.length
      · rw [if_neg q1] at e1'
        rw [if_pos q2] at e2'
        cases e2'
        obtain ⟨o, ho, _⟩ := m.dn _ _ e1'
        rw [h] at ho
        cases ho
      · rw [if_neg q1] at e1'
        rw [if_neg q2] at e2'
        exact m.inj _ _ _ e1' e2'
  dn := fun n a e => by
    have e' : (if n = S.length then some p else G.f n) = some a := e
    by_cases q : n = S.length
    · rw [if_pos q] at e'
      cases e'
      exact ⟨o, upd_same, ht⟩
    · rw [if_neg q] at e'
      obtain ⟨u, hu, nu⟩ := m.dn n a e'
      exact ⟨u, by rw [upd_ne (ne_of_none hu h)]; exact hu, nu⟩
  nt := m.nt
  tb := tabs_soft m.tb (.fresh h)
theorem Sm.write (m : Sm K G S H) {n : Nat} {a : Addr} {c c' : Cell} {o : HO} (h : S[n]? = some c) (nd : c ≠ .dead) (e : G.f n = some a) (hc : CellOk K G (upd H a o) a c') (ht : NoT o := by intro _ z; cases z) : Sm K G (S.set n c') (upd H a o) where
  fr := fun b u q => by
    have hF := (m.addr h nd e).1
    rw [upd_ne (ne_of_none q hF)]
    exact m.fr _ _ q
  cel := fun k d q nd' => by
    by_cases hk : n = k
    · subst hk
      have hl : n < S.length := (List.getElem?_eq_some_iff.mp h).1
      rw [List.getElem?_set_self hl] at q
      cases q
      exact ⟨a, e, (m.addr h nd e).1, hc⟩
    · rw [List.getElem?_set_ne hk] at q
      obtain ⟨b, h1, h2, h3⟩ := m.cel k d q nd'
      have nb : b ≠ a := fun z => by
        subst z
        exact hk (m.inj _ _ _ e h1)
      exact ⟨b, h1, h2, h3.mono .refl fun o' z => by rw [upd_ne nb]; exact z⟩
  dom := fun k b q => by
    rw [List.length_set]
    exact m.dom k b q
  inj := m.inj
  dn := fun k b q => by
    by_cases z : b = a
    · exact ⟨o, by rw [z]; exact upd_same, ht⟩
    · obtain ⟨u, hu, nu⟩ := m.dn k b q
      exact ⟨u, by rw [upd_ne z]; exact hu, nu⟩
  nt := m.nt
  tb := tabs_soft m.tb (.upd fun u hu => by
    obtain ⟨o1, e1, n1⟩ := (m.addr h nd e).2.hard nd
    rw [hu] at e1
    cases e1
    exact n1)
end
structure Stp (G : Gh) (H : Hp) (G' : Gh) (H' : Hp) : Prop where
  le : G.le G'
  dom : ∀ a o, H a = some o → NoT o → ∃ o', H' a = some o' ∧ NoT o'
  frm : ∀ a o, H a = some o → NoT o → (∀ n, G.f n ≠ some a) → H' a = some o
  new : ∀ n a, G'.f n = some a → G.f n = some a ∨ Fr0 H a
  fro : ∀ a o, G'.F a = some o → G.F a = some o ∨ Fr0 H a ∨ ∃ n, G.f n = some a
theorem fr0_not {H : Hp} {a : Addr} {o : HO} (z : Fr0 H a) (h : H a = some o) (nt : NoT o) : False := by
  obtain ⟨ps, e⟩ := z o h
  exact nt ps e
section
variable {K : PySem.W.Frag} {G G' G'' : Gh} {S : Sto} {H H' H'' : Hp}
theorem Stp.refl : Stp G H G H := ⟨.refl, fun _ o h n => ⟨o, h, n⟩, fun _ _ h _ _ => h, fun _ _ h => .inl h, fun _ _ h => .inl h⟩
theorem Stp.none_of (x : Stp G H G' H') {a : Addr} (q : Fr0 H' a) : Fr0 H a := fun o h => by
  by_cases nt : NoT o
  · obtain ⟨o', h', n'⟩ := x.dom a o h nt
    exact (fr0_not q h' n').elim
  · exact Classical.byContradiction fun z => nt fun ps e => z ⟨ps, e⟩
theorem Stp.trans (x : Stp G H G' H') (y : Stp G' H' G'' H'') : Stp G H G'' H'' where
  le := x.le.trans y.le
  dom := fun a o h n => let ⟨o', h', n'⟩ := x.dom a o h n; y.dom a o' h' n'
  frm := fun a o h nt hn => y.frm a o (x.frm a o h nt hn) nt fun n e => by
    rcases x.new n a e with q | q
    · exact hn n q
    · exact fr0_not q h nt
  new := fun n a e => by
    rcases y.new n a e with q | q
    · exact x.new n a q
    · exact .inr (x.none_of q)
  fro := fun a o e => by
    rcases y.fro a o e with q | q | ⟨n, q⟩
    · exact x.fro a o q
    · exact .inr (.inl (x.none_of q))
    · rcases x.new n a q with q | q
      · exact .inr (.inr ⟨n, q⟩)
      · exact .inr (.inl q)
theorem Stp.ext (e : Ext H H') : Stp G H G H' := ⟨.refl, fun _ o h n => ⟨o, e _ _ h, n⟩, fun _ _ h _ _ => e _ _ h, fun _ _ h => .inl h, fun _ _ h => .inl h⟩
theorem Stp.put {p : Addr} {o : HO} (sm : Sm K G S H) (hp : H p = none) : Stp G H (G.put p o) (upd H p o) :=
  ⟨Gh.put_le (sm.free hp), fun a u h n => ⟨u, by rw [upd_ne (ne_of_none h hp)]; exact h, n⟩, fun a u h _ _ => by rw [upd_ne (ne_of_none h hp)]; exact h, fun _ _ h => .inl h, fun a u h => by
    have h' : upd G.F p o a = some u := h
    by_cases z : a = p
    · exact .inr (.inl (by rw [z]; exact fr0_none hp))
    · rw [upd_ne z] at h'
      exact .inl h'⟩
theorem Stp.cell {p : Addr} {o : HO} (sm : Sm K G S H) (hp : H p = none) : Stp G H (G.new S.length p) (upd H p o) :=
  ⟨sm.new_le, fun a u h n => ⟨u, by rw [upd_ne (ne_of_none h hp)]; exact h, n⟩, fun a u h _ _ => by rw [upd_ne (ne_of_none h hp)]; exact h, fun n a h => by
    have h' : (if n = S.length then some p else G.f n) = some a := h
    by_cases q : n = S.length
    · rw [if_pos q] at h'
      cases h'
      exact .inr (fr0_none hp)
    · rw [if_neg q] at h'
      exact .inl h', fun _ _ h => .inl h⟩
theorem Stp.write {n : Nat} {a : Addr} {o : HO} (e : G.f n = some a) (ht : NoT o := by intro _ z; cases z) : Stp G H G (upd H a o) :=
  ⟨.refl, fun b u h nt => by
    by_cases z : b = a
    · exact ⟨o, by rw [z]; exact upd_same, ht⟩
    · exact ⟨u, by rw [upd_ne z]; exact h, nt⟩, fun b u h _ hn => by
    have z : b ≠ a := fun z => hn n (by rw [z]; exact e)
    rw [upd_ne z]
    exact h, fun _ _ h => .inl h, fun _ _ h => .inl h⟩
theorem Stp.at {p : Addr} {o : HO} (x : Stp G H G' H') (hp : H p = none) : Stp G H G' (upd H' p o) :=
  ⟨x.le, fun a u h n => by
    obtain ⟨u', h', n'⟩ := x.dom a u h n
    exact ⟨u', by rw [upd_ne (ne_of_none h hp)]; exact h', n'⟩, fun a u h nt hn => by
    rw [upd_ne (ne_of_none h hp)]
    exact x.frm a u h nt hn, x.new, x.fro⟩
theorem Stp.add {p : Addr} {o : HO} (x : Stp G H G' H') (hp : H p = none) (hF : G'.F p = none) : Stp G H (G'.put p o) H' :=
  ⟨x.le.trans (Gh.put_le hF), x.dom, x.frm, x.new, fun a u h => by
    have h' : upd G'.F p o a = some u := h
    by_cases z : a = p
    · exact .inr (.inl (by rw [z]; exact fr0_none hp))
    · rw [upd_ne z] at h'
      exact x.fro a u h'⟩
theorem Sm.other {p : Addr} {o : HO} (m : Sm K G S H) (hF : G.F p = none) (hc : ∀ n, G.f n ≠ some p) (hh : ∀ u, H p = some u → (∀ ps, u ≠ .tbl ps) ∧ ∀ φ, u ≠ .ext φ) : Sm K G S (upd H p o) where
  fr := fun a u e => by rw [upd_ne (ne_of_none e hF)]; exact m.fr a u e
  cel := fun n c e nd => by
    obtain ⟨a, h1, h2, h3⟩ := m.cel n c e nd
    exact ⟨a, h1, h2, h3.mono .refl fun o' q => by rw [upd_ne fun z => hc n (by rw [← z]; exact h1)]; exact q⟩
  dom := m.dom
  inj := m.inj
  dn := fun n a e => by
    obtain ⟨u, hu, nu⟩ := m.dn n a e
    exact ⟨u, by rw [upd_ne fun z => hc n (by rw [← z]; exact e)]; exact hu, nu⟩
  nt := m.nt
  tb := tabs_soft m.tb (.upd hh)
theorem Sm.tell {p : Addr} {o : HO} (m : Sm K G S H) (hp : H p = some o) (hc : ∀ n, G.f n ≠ some p) (ht : NoT o := by intro _ z; cases z) : Sm K (G.put p o) S H where
  fr := fun a u e => by
    have e' : upd G.F p o a = some u := e
    by_cases z : a = p
    · subst z
      rw [upd_same] at e'
      rw [← e']
      exact hp
    · rw [upd_ne z] at e'
      exact m.fr a u e'
  cel := fun n c e nd => by
    obtain ⟨a, h1, h2, h3⟩ := m.cel n c e nd
    have z : a ≠ p := fun z => hc n (by rw [← z]; exact h1)
    have hF : ∀ b u, G.F b = some u → (G.put p o).F b = some u := fun b u q => by
      show upd G.F p o b = some u
      by_cases y : b = p
      · subst y
        have := m.fr _ _ q
        rw [hp] at this
        cases this
        exact upd_same
      · rw [upd_ne y]
        exact q
    refine ⟨a, h1, ?_, h3.mono ⟨hF, fun _ _ h => h⟩ fun _ q => q⟩
    show upd G.F p o a = none
    rw [upd_ne z]
    exact h2
  dom := m.dom
  inj := m.inj
  dn := m.dn
  nt := Gh.put_nt m.nt ht
  tb := m.tb
theorem Sm.adopt {p : Addr} {o : HO} {c : Cell} (m : Sm K G S H) (hp : H p = some o) (hF : G.F p = none) (hc : ∀ n, G.f n ≠ some p) (h : CellOk K (G.new S.length p) H p c) (ht : NoT o := by intro _ z; cases z) : Sm K (G.new S.length p) (S ++ [c]) H where
  fr := m.fr
  cel := fun n c' e nd => by
    by_cases q : n < S.length
    · rw [List.getElem?_append_left q] at e
      obtain ⟨a, h1, h2, h3⟩ := m.cel n c' e nd
      exact ⟨a, m.new_le.2 _ _ h1, h2, h3.mono m.new_le fun _ z => z⟩
    · have q2 : n = S.length := by
        have : n < (S ++ [c]).length := (List.getElem?_eq_some_iff.mp e).1
        simp at this
        omega
      subst q2
      simp at e
      subst e
      exact ⟨p, Gh.new_at, hF, h⟩
  dom := fun n a e => by
    simp
    by_cases q : n = S.length
    · omega
    · have e' : (if n = S.length then some p else G.f n) = some a := e
      rw [if_neg q] at e'
      have := m.dom n a e'
      omega
  inj := fun n k a e1 e2 => by
    have e1' : (if n = S.length then some p else G.f n) = some a := e1
    have e2' : (if k = S.length then some p else G.f k) = some a := e2
    by_cases q1 : n = S.length
    · by_cases q2 : k = S.length
      · omega
      · rw [if_pos q1] at e1'
        rw [if_neg q2] at e2'
        cases e1'
        exact absurd e2' (hc k)
    · by_cases q2 : k = S.length
      · rw [if_neg q1] at e1'
        rw [if_pos q2] at e2'
        cases e2'
        exact absurd e1' (hc n)
      · rw [if_neg q1] at e1'
        rw [if_neg q2] at e2'
        exact m.inj _ _ _ e1' e2'
  dn := fun n a e => by
    have e' : (if n = S.length then some p else G.f n) = some a := e
    by_cases q : n = S.length
    · rw [if_pos q] at e'
      cases e'
      exact ⟨o, hp, ht⟩
    · rw [if_neg q] at e'
      exact m.dn n a e'
  nt := m.nt
  tb := m.tb
end
end PV
set_option Elab.async false
set_option linter.all false
set_option maxRecDepth 100000
set_option maxHeartbeats 4000000
namespace PV
open PySem PySem.Spec PyProof.Rows L2 ZL
inductive Out (α : Type) where
  | ok (a : α) (S : Sto) | ex (c : String) (fs : List (String × D)) (S : Sto) | no
def Out.bind {α β : Type} (o : Out α) (k : α → Sto → Out β) : Out β := match o with
  | .ok a S => k a S
  | .ex c fs S => .ex c fs S
  | .no => .no
abbrev Ev := List (Option D)
abbrev ME := Ev → Sto → Out D
abbrev MT := Ev → Sto → Out Bool
abbrev MA := Ev → Sto → Out (List D)
inductive Fl where
  | nx (ρ : Ev) | rt (d : D) | bk (ρ : Ev) | ct (ρ : Ev)
abbrev MS := Ev → Sto → Out Fl
abbrev Fn := List D → Sto → Out D
def ExR (K : PySem.W.Frag) (G : Gh) (c : String) (fs : List (String × D)) (cls : Value) (dd : Option Addr) : Prop :=
  cls = .ref (He.ga K (Str.ofString c)) ∧ ((fs = [] ∧ dd = none) ∨ ∃ d ws, dd = some d ∧ G.F d = some (.xd ws) ∧ Rpf K G fs ws)
def wEx (K : PySem.W.Frag) (G : Gh) (H : Hp) (c : String) (fs : List (String × D)) (S : Sto) : XK := fun cls dd H' => ∃ G', Stp G H G' H' ∧ Sm K G' S H' ∧ ExR K G' c fs cls dd
theorem wEx.anti {K : PySem.W.Frag} {G G1 : Gh} {H H1 : Hp} {c : String} {fs : List (String × D)} {S : Sto} {cls : Value} {dd : Option Addr} {H' : Hp} (le : Stp G H G1 H1) (h : wEx K G1 H1 c fs S cls dd H') : wEx K G H c fs S cls dd H' := by
  obtain ⟨G', l, r⟩ := h
  exact ⟨G', le.trans l, r⟩
def sat {α β : Type} (X : Cx) (R : Gh → α → β → Prop) (G : Gh) (H : Hp) (o : Out α) (Q : β → Hp → Prop) : Prop := match o with
  | .ok a S' => ∀ G' H' b, Stp G H G' H' → Sm X.K G' S' H' → R G' a b → Q b H'
  | .ex c fs S' => Takes X (fun cls dd _ H' => wEx X.K G H c fs S' cls dd H')
  | .no => False
section
variable {X : Cx} {α β γ δ : Type} {R : Gh → α → β → Prop} {R' : Gh → γ → δ → Prop} {G G1 : Gh} {H H1 : Hp} {o : Out α} {Q Q' : β → Hp → Prop}
theorem sat.mono (h : sat X R G H o Q) (le : Stp G H G1 H1) : sat X R G1 H1 o Q := by
  cases o with
  | ok a S => exact fun G' H' b l => h G' H' b (le.trans l)
  | ex c fs S => exact Takes.imp h fun _ _ _ _ z => z.anti le
  | no => exact h
theorem sat.imp (h : sat X R G H o Q) (i : ∀ b H, Q b H → Q' b H) : sat X R G H o Q' := by
  cases o with
  | ok a S => exact fun G' H' b l s r => i _ _ (h G' H' b l s r)
  | ex c fs S => exact h
  | no => exact h
def Aft (X : Cx) (R : Gh → α → β → Prop) (G : Gh) (H : Hp) (P : α → Sto → Gh → Hp → Prop) (b : β) (H1 : Hp) : Prop := ∃ a S1 G1, Stp G H G1 H1 ∧ Sm X.K G1 S1 H1 ∧ R G1 a b ∧ P a S1 G1 H1
theorem sat.bind {k : α → Sto → Out γ} {Q2 : δ → Hp → Prop} (h : sat X R' G H (o.bind k) Q2) : sat X R G H o (Aft X R G H fun a S1 G1 H1 => sat X R' G1 H1 (k a S1) Q2) := by
  cases o with
  | ok a S => exact fun G' H' b l s r => ⟨a, S, G', l, s, r, h.mono l⟩
  | ex c fs S => exact h
  | no => exact h
end
inductive Re (K : PySem.W.Frag) (G : Gh) : Ev → L2.St → Prop where
  | nil : Re K G [] []
  | skp {ρ : Ev} {σ : L2.St} {v : Option V} (t : Re K G ρ σ) : Re K G (none :: ρ) (v :: σ)
  | has {ρ : Ev} {σ : L2.St} {d : D} {v : V} (h : Rp K G d v) (t : Re K G ρ σ) : Re K G (some d :: ρ) (some v :: σ)
section
variable {K : PySem.W.Frag} {G G' : Gh} {ρ : Ev} {σ : L2.St}
theorem Re.mono (h : Re K G ρ σ) (le : G.le G') : Re K G' ρ σ := by
  induction h with
  | nil => exact .nil
  | skp _ ih => exact .skp ih
  | has r _ ih => exact .has (r.mono le) ih
theorem Re.get {i : Nat} {d : D} (h : Re K G ρ σ) (e : ρ[i]? = some (some d)) : ∃ v, σ[i]? = some (some v) ∧ Rp K G d v := by
  induction h generalizing i with
  | nil => simp at e
  | skp _ ih =>
    cases i with
    | zero => simp at e
    | succ i => obtain ⟨v, h1, h2⟩ := ih (i := i) (by simpa using e); exact ⟨v, by simpa using h1, h2⟩
  | has r _ ih =>
    cases i with
    | zero => simp at e; subst e; exact ⟨_, rfl, r⟩
    | succ i => obtain ⟨v, h1, h2⟩ := ih (i := i) (by simpa using e); exact ⟨v, by simpa using h1, h2⟩
theorem Re.set {d : D} {v : V} (h : Re K G ρ σ) (i : Nat) (r : Rp K G d v) : Re K G (ρ.set i (some d)) (σ.set i (some v)) := by
  induction h generalizing i with
  | nil => exact .nil
  | skp t ih =>
    cases i with
    | zero => exact .has r t
    | succ i => exact .skp (ih i)
  | has q t ih =>
    cases i with
    | zero => exact .has r t
    | succ i => exact .has q (ih i)
theorem Re.forget (h : Re K G ρ σ) (i : Nat) (v : Option V) : Re K G (ρ.set i none) (σ.set i v) := by
  induction h generalizing i with
  | nil => exact .nil
  | skp t ih =>
    cases i with
    | zero => exact .skp t
    | succ i => exact .skp (ih i)
  | has q t ih =>
    cases i with
    | zero => exact .skp t
    | succ i => exact .has q (ih i)
theorem Re.reps (n : Nat) : Re K G (List.replicate n none) (List.replicate n none) := by
  induction n with
  | zero => exact .nil
  | succ n ih => exact .skp ih
theorem Re.start {ds : List D} {vs : List V} (h : Rps K G ds vs) (n : Nat) : Re K G (ds.map some ++ List.replicate n none) (vs.map some ++ List.replicate n none) := by
  induction ds generalizing vs with
  | nil => cases h; exact Re.reps n
  | cons x xs ih => cases h with | cons a b => exact .has a (ih b)
end
def tE (X : Cx) (m : ME) : TE := fun σ H Q => ∃ ρ S G, Sm X.K G S H ∧ Re X.K G ρ σ ∧ sat X (Rp X.K) G H (m ρ S) Q
def tT (X : Cx) (m : MT) : TT := fun σ H Q => ∃ ρ S G, Sm X.K G S H ∧ Re X.K G ρ σ ∧ sat X (fun _ a b => a = b) G H (m ρ S) Q
def tA (X : Cx) (m : MA) : TA := fun σ H Q => ∃ ρ S G, Sm X.K G S H ∧ Re X.K G ρ σ ∧ sat X (Rps X.K) G H (m ρ S) Q
def satS (X : Cx) (G : Gh) (H : Hp) (o : Out Fl) (D : Ends) : Prop := match o with
  | .ok (.nx ρ') S' => ∀ G' H' σ', Stp G H G' H' → Sm X.K G' S' H' → Re X.K G' ρ' σ' → D.nx σ' H'
  | .ok (.rt d) S' => ∀ G' H' v, Stp G H G' H' → Sm X.K G' S' H' → Rp X.K G' d v → D.rt v H'
  | .ok (.bk ρ') S' => ∀ G' H' σ', Stp G H G' H' → Sm X.K G' S' H' → Re X.K G' ρ' σ' → D.bk σ' H'
  | .ok (.ct ρ') S' => ∀ G' H' σ', Stp G H G' H' → Sm X.K G' S' H' → Re X.K G' ρ' σ' → D.ct σ' H'
  | .ex c fs S' => Takes X (fun cls dd _ H' => wEx X.K G H c fs S' cls dd H')
  | .no => False
def tS (X : Cx) (m : MS) : TS := fun D σ H => ∃ ρ S G, Sm X.K G S H ∧ Re X.K G ρ σ ∧ satS X G H (m ρ S) D
abbrev QE (X : Cx) (e : Expr) (m : ME) : Prop := PE X e (tE X m)
abbrev QT (X : Cx) (e : Expr) (m : MT) : Prop := PT X e (tT X m)
abbrev QA (X : Cx) (es : List Expr) (m : MA) : Prop := PA X es (tA X m)
abbrev QS (X : Cx) (st : Stmt) (m : MS) : Prop := PS X st (tS X m)
abbrev QSs (X : Cx) (st : List Stmt) (m : MS) : Prop := PSs X st (tS X m)
theorem satS.mono {X : Cx} {G G1 : Gh} {H H1 : Hp} {o : Out Fl} {D : Ends} (h : satS X G H o D) (le : Stp G H G1 H1) : satS X G1 H1 o D := by
  match o, h with
  | .ok (.nx _) _, h => exact fun G' H' b l => h G' H' b (le.trans l)
  | .ok (.rt _) _, h => exact fun G' H' b l => h G' H' b (le.trans l)
  | .ok (.bk _) _, h => exact fun G' H' b l => h G' H' b (le.trans l)
  | .ok (.ct _) _, h => exact fun G' H' b l => h G' H' b (le.trans l)
  | .ex _ _ _, h => exact Takes.imp h fun _ _ _ _ z => z.anti le
  | .no, h => exact h
theorem satS.bind {α β : Type} {X : Cx} {R : Gh → α → β → Prop} {G : Gh} {H : Hp} {o : Out α} {k : α → Sto → Out Fl} {D : Ends} (h : satS X G H (o.bind k) D) : sat X R G H o (Aft X R G H fun a S1 G1 H1 => satS X G1 H1 (k a S1) D) := by
  cases o with
  | ok a S => exact fun G' H' b l s r => ⟨a, S, G', l, s, r, h.mono l⟩
  | ex c fs S => exact h
  | no => exact h
section
variable {X : Cx} {e : Expr} {st : Stmt} {sts : List Stmt}
theorem qe_of {t : TE} {m : ME} (h : PE X e t) (i : ∀ ρ S G σ H Q, Sm X.K G S H → Re X.K G ρ σ → sat X (Rp X.K) G H (m ρ S) Q → t σ H Q) : QE X e m :=
  ⟨fun pins s σ H Q I ⟨ρ, S, G, sm, re, q⟩ => h.run pins s σ H Q I (i ρ S G σ H Q sm re q)⟩
theorem qt_of {t : TT} {m : MT} (h : PT X e t) (i : ∀ ρ S G σ H Q, Sm X.K G S H → Re X.K G ρ σ → sat X (fun _ a b => a = b) G H (m ρ S) Q → t σ H Q) : QT X e m :=
  ⟨fun pins s σ H Q I ⟨ρ, S, G, sm, re, q⟩ => h.run pins s σ H Q I (i ρ S G σ H Q sm re q)⟩
theorem qs_of {t : TS} {m : MS} (h : PS X st t) (i : ∀ ρ S G σ H D, Sm X.K G S H → Re X.K G ρ σ → satS X G H (m ρ S) D → t D σ H) : QS X st m :=
  ⟨fun pins s σ H Q I ⟨ρ, S, G, sm, re, q⟩ => h.run pins s σ H Q I (i ρ S G σ H Q sm re q)⟩
theorem qss_of {t : TS} {m : MS} (h : PSs X sts t) (i : ∀ ρ S G σ H D, Sm X.K G S H → Re X.K G ρ σ → satS X G H (m ρ S) D → t D σ H) : QSs X sts m :=
  ⟨fun pins s σ H Q I ⟨ρ, S, G, sm, re, q⟩ => h.run pins s σ H Q I (i ρ S G σ H Q sm re q)⟩
end
def v (i : Nat) : ME := fun ρ S => match ρ[i]? with
  | some (some d) => .ok d S
  | _ => .no
def k (d : D) : ME := fun _ S => .ok d S
section
variable {X : Cx} {pos : Pos}
theorem qv (i : Nat) {x : Str} (hN : X.N[i]? = some x := by rfl) (hv : Vis X.env.scope x := by first | exact .inl rfl | exact .inr (.inl rfl) | exact .inr (.inr rfl)) (hd : (x == ("__debug__" : Str)) = false := by decide) (hcd : (x == ("__classdict__" : Str)) = false := by decide) : QE X (.Name x pos) (v i) :=
  qe_of (pe_var hN hv hd hcd) fun ρ S G σ H Q sm re h => by
    have h' : sat X (Rp X.K) G H (match ρ[i]? with | some (some d) => .ok d S | _ => .no) Q := h
    match e : ρ[i]?, h' with
    | some (some d), h' =>
      obtain ⟨v, h1, h2⟩ := re.get e
      exact ⟨v, h1, h' G H v .refl sm h2⟩
    | some none, h' => exact h'.elim
    | none, h' => exact h'.elim
theorem qk_of {e : Expr} {d : D} {x : V} (h : PE X e (tC x)) (r : ∀ G, Rp X.K G d x) : QE X e (k d) :=
  qe_of h fun ρ S G σ H Q sm re h => h G H x .refl sm (r G)
theorem qk_int {i : Int} {j : Nat} : QE X (.Constant (.int i) j pos) (k (.int i)) := qk_of pe_int fun _ => .int i
theorem qk_bl {b : Bool} {j : Nat} : QE X (.Constant (.bool b) j pos) (k (.bl b)) := qk_of pe_bl fun _ => .bl b
theorem qk_non {j : Nat} : QE X (.Constant .none j pos) (k .non) := qk_of pe_non fun _ => .non
theorem qk_str {x : Str} {j : Nat} : QE X (.Constant (.str x) j pos) (k (.str x)) := qk_of pe_str fun _ => .str x
theorem qg_cls {c : String} (hm : X.mg (Str.ofString c) = some (.ref (He.ga X.K (Str.ofString c)))) (hg : Gl X (Str.ofString c) := by rfl) (hd : (Str.ofString c == ("__debug__" : Str)) = false := by decide) : QE X (.Name (Str.ofString c) pos) (k (.cls c)) :=
  qk_of (pe_glob (v := .ref _) hg hm rfl hd) fun _ => .cls c
theorem qg_ty {x : Str} {n : String} (hm : X.mg x = none) (hv : bootBuiltins x = some (.type n)) (hg : Gl X x := by rfl) (hn : x ≠ "__name__" := by decide) (hd : (x == ("__debug__" : Str)) = false := by decide) : QE X (.Name x pos) (k (.ty n)) :=
  qk_of (pe_bltn (v := .ty n) hg hm hv rfl hn hd) fun _ => .ty n
end
def aNil : MA := fun _ S => .ok [] S
def aCons (m : ME) (ms : MA) : MA := fun ρ S => (m ρ S).bind fun d S1 => (ms ρ S1).bind fun ds S2 => .ok (d :: ds) S2
section
variable {X : Cx} {e : Expr} {es : List Expr} {m : ME} {ms : MA} {pos : Pos}
theorem qa_nil : QA X [] aNil := ⟨fun pos pins s σ H Q I h => pa_nil.run pos pins s σ H Q I (by
  obtain ⟨ρ, S, G, sm, re, q⟩ := h
  exact q G H [] .refl sm .nil)⟩
theorem qa_cons (h : QE X e m) (hs : QA X es ms) (hst : starEach (e :: es) X.env = (false, eval e X.env) :: starEach es X.env := by rfl) : QA X (e :: es) (aCons m ms) :=
  ⟨fun pos pins s σ H Q I z => (pa_cons h hs hst).run pos pins s σ H Q I (by
    obtain ⟨ρ, S, G, sm, re, q⟩ := z
    refine ⟨ρ, S, G, sm, re, (sat.bind q).imp fun x H1 w => ?_⟩
    obtain ⟨d, S1, G1, le1, sm1, r1, q1⟩ := w
    refine ⟨ρ, S1, G1, sm1, re.mono le1.le, (sat.bind q1).imp fun xs H2 w => ?_⟩
    obtain ⟨ds, S2, G2, le2, sm2, r2, q2⟩ := w
    exact q2 G2 H2 _ .refl sm2 (.cons (r1.mono le2.le) r2))⟩
end
def sNil : MS := fun ρ S => .ok (.nx ρ) S
def sSeq (a b : MS) : MS := fun ρ S => (a ρ S).bind fun f S1 => match f with
  | .nx ρ' => b ρ' S1
  | f => .ok f S1
def sRet (m : ME) : MS := fun ρ S => (m ρ S).bind fun d S1 => .ok (.rt d) S1
def sRetN : MS := fun _ S => .ok (.rt .non) S
def sExp (m : ME) : MS := fun ρ S => (m ρ S).bind fun _ S1 => .ok (.nx ρ) S1
def sSet (i : Nat) (m : ME) : MS := fun ρ S => (m ρ S).bind fun d S1 => .ok (.nx (ρ.set i (some d))) S1
def sIf (t : MT) (a b : MS) : MS := fun ρ S => (t ρ S).bind fun c S1 => if c = true then a ρ S1 else b ρ S1
def sBrk : MS := fun ρ S => .ok (.bk ρ) S
def sCnt : MS := fun ρ S => .ok (.ct ρ) S
section
variable {X : Cx} {e : Expr} {st : Stmt} {sts sts' : List Stmt} {m : ME} {t : MT} {a b : MS} {pos : Pos}
theorem qs_nil : QSs X [] sNil := qss_of pss_nil fun ρ S G σ H D sm re h => h G H σ .refl sm re
theorem qs_cons (h : QS X st a) (h' : QSs X sts b) : QSs X (st :: sts) (sSeq a b) := qss_of (pss_cons h h') fun ρ S G σ H D sm re h => by
  refine ⟨ρ, S, G, sm, re, ?_⟩
  have h1 : satS X G H ((a ρ S).bind fun f S1 => match f with | .nx ρ' => b ρ' S1 | f => .ok f S1) D := h
  match a ρ S, h1 with
  | .ok (.nx ρ') S', h1 => exact fun G' H' σ' le sm' re' => ⟨ρ', S', G', sm', re', h1.mono le⟩
  | .ok (.rt _) _, h1 => exact h1
  | .ok (.bk _) _, h1 => exact h1
  | .ok (.ct _) _, h1 => exact h1
  | .ex _ _ _, h1 => exact h1
  | .no, h1 => exact h1
theorem qs_ret (h : QE X e m) : QS X (.Return (some e) pos) (sRet m) := qs_of (ps_ret h) fun ρ S G σ H D sm re z => by
  refine ⟨ρ, S, G, sm, re, (satS.bind z).imp fun x H1 w => ?_⟩
  obtain ⟨d, S1, G1, le1, sm1, r1, q1⟩ := w
  exact q1 G1 H1 x .refl sm1 r1
theorem qs_set (i : Nat) {x : Str} {pos' : Pos} (h : QE X e m) (hN : X.N.Nodup) (hi : X.N[i]? = some x := by rfl) (hx : Loc X.env.scope x := by first | exact .inl rfl | exact .inr rfl) (hs : swapsWith e (some (.Name x pos')) pos.line X.env = pure false := by rfl) (hf : X.fn x = true ∨ X.env.scope.names.lookup x = some .local := by first | exact .inl rfl | exact .inr rfl) :
    QS X (.Assign [.Name x pos'] e pos) (sSet i m) := qs_of (ps_set (i := i) hN hi hx h hs hf) fun ρ S G σ H D sm re z => by
  refine ⟨ρ, S, G, sm, re, (satS.bind z).imp fun x H1 w => ?_⟩
  obtain ⟨d, S1, G1, le1, sm1, r1, q1⟩ := w
  exact q1 G1 H1 _ .refl sm1 ((re.mono le1.le).set i r1)
theorem qs_if {c : Expr} (hc : QT X c t) (ha : QSs X sts a) (hb : QSs X sts' b) : QS X (.If c sts sts' pos) (sIf t a b) := qs_of (ps_if hc ha hb) fun ρ S G σ H D sm re z => by
  refine ⟨ρ, S, G, sm, re, (satS.bind z).imp fun x H1 w => ?_⟩
  obtain ⟨d, S1, G1, le1, sm1, r1, q1⟩ := w
  subst r1
  cases d with
  | true => exact ⟨ρ, S1, G1, sm1, re.mono le1.le, q1⟩
  | false => exact ⟨ρ, S1, G1, sm1, re.mono le1.le, q1⟩
end
mutual
def D.und (n : Nat) : D → Bool
  | .tup xs => belows n xs
  | .lst xs => belows n xs
  | .src xs => belows n xs
  | .dic0 => true
  | .hob _ => true
  | .exc _ fs => belowf n fs
  | .obj _ fs => belowf n fs
  | .loc m => decide (m < n)
  | .non => true
  | .bl _ => true
  | .int _ => true
  | .str _ => true
  | .cls _ => true
  | .fnc _ => true
  | .ty _ => true
def belows (n : Nat) : List D → Bool
  | [] => true
  | x :: xs => x.und n && belows n xs
def belowf (n : Nat) : List (String × D) → Bool
  | [] => true
  | (_, x) :: xs => x.und n && belowf n xs
end
def belowk (n : Nat) : List (Str × D) → Bool
  | [] => true
  | (_, x) :: xs => x.und n && belowk n xs
def Cell.und (n : Nat) : Cell → Bool
  | .dic es => belowk n es
  | .lst xs => belows n xs
  | .ins _ fs => belowf n fs
  | .dead => true
def Gh.cut (G : Gh) (n : Nat) : Gh := ⟨G.F, fun k => if k < n then G.f k else none⟩
theorem Gh.cut_some {G : Gh} {n k : Nat} {a : Addr} (h : (G.cut n).f k = some a) : k < n ∧ G.f k = some a := by
  have h' : (if k < n then G.f k else none) = some a := h
  by_cases q : k < n
  · rw [if_pos q] at h'
    exact ⟨q, h'⟩
  · rw [if_neg q] at h'
    cases h'
theorem Gh.cut_of {G : Gh} {n k : Nat} {a : Addr} (q : k < n) (h : G.f k = some a) : (G.cut n).f k = some a := by
  show (if k < n then G.f k else none) = some a
  rw [if_pos q]
  exact h
section
variable {K : PySem.W.Frag} {G G' : Gh} {n : Nat}
theorem Rp.cut {d : D} {v : V} (h : Rp K G d v) : d.und n = true → Rp K (G.cut n) d v :=
  Rp.rec (K := K) (G := G) (motive_1 := fun d v _ => d.und n = true → Rp K (G.cut n) d v) (motive_2 := fun xs vs _ => belows n xs = true → Rps K (G.cut n) xs vs) (motive_3 := fun fs ws _ => belowf n fs = true → Rpf K (G.cut n) fs ws)
    (fun _ => .non) (fun b _ => .bl b) (fun i _ => .int i) (fun x _ => .str x) (fun h _ r z => .tup h (r (by simpa [D.und] using z))) (fun h _ r z => .lst h (r (by simpa [D.und] using z))) (fun h _ r z => .obj h (r (by simpa [D.und] using z)))
    (fun h z => .loc (Gh.cut_of (by simpa [D.und] using z) h)) (fun c _ => .cls c) (fun c _ => .fnc c) (fun c _ => .ty c) (fun h _ r z => .src h (r (by simpa [D.und] using z))) (fun h _ => .dic0 h) (fun h _ => .hob h) (fun h _ => .exc0 h) (fun h hd _ r z => .exc h hd (r (by simpa [D.und] using z)))
    (fun _ => .nil) (fun _ _ a b z => by rw [belows, Bool.and_eq_true] at z; exact .cons (a z.1) (b z.2)) (fun _ => .nil) (fun _ _ a b z => by rw [belowf, Bool.and_eq_true] at z; exact .cons (a z.1) (b z.2)) h
theorem Rps.cut {xs : List D} {vs : List V} (h : Rps K G xs vs) (z : belows n xs = true) : Rps K (G.cut n) xs vs := by
  induction xs generalizing vs with
  | nil => cases h; exact .nil
  | cons x xs ih =>
    cases h with
    | cons a b => rw [belows, Bool.and_eq_true] at z; exact .cons (a.cut z.1) (ih b z.2)
theorem Rpf.cut {xs : List (String × D)} {vs : List (Str × V)} (h : Rpf K G xs vs) (z : belowf n xs = true) : Rpf K (G.cut n) xs vs := by
  induction xs generalizing vs with
  | nil => cases h; exact .nil
  | cons x xs ih =>
    cases h with
    | cons a b => rw [belowf, Bool.and_eq_true] at z; exact .cons (a.cut z.1) (ih b z.2)
theorem Rp.bel (dom : ∀ k a, G.f k = some a → k < n) {d : D} {v : V} (h : Rp K G d v) : d.und n = true :=
  Rp.rec (K := K) (G := G) (motive_1 := fun d v _ => d.und n = true) (motive_2 := fun xs vs _ => belows n xs = true) (motive_3 := fun fs ws _ => belowf n fs = true)
    rfl (fun _ => rfl) (fun _ => rfl) (fun _ => rfl) (fun h _ r => by rw [D.und]; exact r) (fun h _ r => by rw [D.und]; exact r) (fun h _ r => by rw [D.und]; exact r)
    (fun h => by rw [D.und]; exact decide_eq_true (dom _ _ h)) (fun _ => rfl) (fun _ => rfl) (fun _ => rfl) (fun h _ r => by rw [D.und]; exact r) (fun _ => rfl) (fun _ => rfl) (fun _ => rfl) (fun h hd _ r => by rw [D.und]; exact r)
    rfl (fun _ _ a b => by rw [belows, a, b]; rfl) rfl (fun _ _ a b => by rw [belowf, a, b]; rfl) h
theorem Rps.bel (dom : ∀ k a, G.f k = some a → k < n) {xs : List D} {vs : List V} (h : Rps K G xs vs) : belows n xs = true := by
  induction xs generalizing vs with
  | nil => rfl
  | cons x xs ih => cases h with | cons a b => rw [belows, a.bel dom, ih b]; rfl
theorem Rpf.bel (dom : ∀ k a, G.f k = some a → k < n) {xs : List (String × D)} {vs : List (Str × V)} (h : Rpf K G xs vs) : belowf n xs = true := by
  induction xs generalizing vs with
  | nil => rfl
  | cons x xs ih => cases h with | cons a b => rw [belowf, a.bel dom, ih b]; rfl
theorem Rpk.cut {es : List (Str × D)} {kvs : List (Key × V)} (h : Rpk K G es kvs) (z : belowk n es = true) : Rpk K (G.cut n) es kvs := by
  induction h with
  | nil => exact .nil
  | cons a _ ih => rw [belowk, Bool.and_eq_true] at z; exact .cons (a.cut z.1) (ih z.2)
theorem Rpk.bel (dom : ∀ k a, G.f k = some a → k < n) {es : List (Str × D)} {kvs : List (Key × V)} (h : Rpk K G es kvs) : belowk n es = true := by
  induction h with
  | nil => rfl
  | cons a _ ih => rw [belowk, a.bel dom, ih]; rfl
theorem CellOk.bel {H : Hp} {a : Addr} {c : Cell} (dom : ∀ k a, G.f k = some a → k < n) (h : CellOk K G H a c) : c.und n = true := by
  cases c with
  | lst xs => obtain ⟨vs, _, r⟩ := h; exact r.bel dom
  | ins c fs => obtain ⟨dx, ws, _, r⟩ := h; exact r.bel dom
  | dead => rfl
  | dic es => obtain ⟨kvs, _, r⟩ := h; exact r.bel dom
theorem CellOk.cut {H : Hp} {a : Addr} {c : Cell} (h : CellOk K G H a c) (z : c.und n = true) : CellOk K (G.cut n) H a c := by
  cases c with
  | lst xs => obtain ⟨vs, e, r⟩ := h; exact ⟨vs, e, r.cut z⟩
  | ins c fs => obtain ⟨dx, ws, e, r⟩ := h; exact ⟨dx, ws, e, r.cut z⟩
  | dead => trivial
  | dic es => obtain ⟨kvs, e, r⟩ := h; exact ⟨kvs, e, r.cut z⟩
end
def Kept (S S' : Sto) : Prop := ∀ i c, i < S.length → S'[i]? = some c → S[i]? = some c ∨ c.und S.length = true
open Classical in
noncomputable def gcO (S : Sto) (o : Out D) : Out D := match o with
  | .ok d S' => if d.und S.length = true ∧ Kept S S' then .ok d (S'.take S.length) else .ok d S'
  | .ex c fs S' => if belowf S.length fs = true ∧ Kept S S' then .ex c fs (S'.take S.length) else .ex c fs S'
  | .no => .no
theorem gc_len {S S' : Sto} {d : D} (h : S'.length = S.length) : gcO S (.ok d S') = .ok d S' := by
  classical
  show (if d.und S.length = true ∧ Kept S S' then Out.ok d ((S').take S.length) else .ok d (S')) = _
  split
  · rw [← h, List.take_length]
  · rfl
theorem gc_lenx {S S' : Sto} {c : String} {fs : List (String × D)} (h : S'.length = S.length) : gcO S (.ex c fs S') = .ex c fs S' := by
  classical
  show (if belowf S.length fs = true ∧ Kept S S' then Out.ex c fs ((S').take S.length) else .ex c fs (S')) = _
  split
  · rw [← h, List.take_length]
  · rfl
theorem gc_samex {S : Sto} {c : String} {fs : List (String × D)} : gcO S (.ex c fs S) = .ex c fs S := gc_lenx rfl
theorem Kept.app {S T : Sto} : Kept S (S ++ T) := fun i c h e => .inl (by rw [List.getElem?_append_left h] at e; exact e)
theorem Sm.cut {K : PySem.W.Frag} {G G' : Gh} {S S' : Sto} {H H' : Hp} (m : Sm K G S H) (m' : Sm K G' S' H') (hk : Kept S S') : Sm K (G'.cut S.length) (S'.take S.length) H' where
  fr := m'.fr
  cel := fun i c e nd => by
    have hi : i < S.length := by
      have := (List.getElem?_eq_some_iff.mp e).1
      rw [List.length_take] at this
      omega
    rw [List.getElem?_take_of_lt hi] at e
    obtain ⟨a, h1, h2, h3⟩ := m'.cel i c e nd
    refine ⟨a, Gh.cut_of hi h1, h2, h3.cut ?_⟩
    rcases hk i c hi e with q | q
    · obtain ⟨b, g1, g2, g3⟩ := m.cel i c q nd
      exact g3.bel m.dom
    · exact q
  dom := fun k a h => by
    obtain ⟨h1, h2⟩ := Gh.cut_some h
    have := m'.dom k a h2
    rw [List.length_take]
    omega
  inj := fun i j a h h' => m'.inj i j a (Gh.cut_some h).2 (Gh.cut_some h').2
  dn := fun i a h => m'.dn i a (Gh.cut_some h).2
  nt := m'.nt
  tb := m'.tb
theorem Sm.cut_le {K : PySem.W.Frag} {G G' : Gh} {S : Sto} {H H' : Hp} (m : Sm K G S H) (st : Stp G H G' H') : Stp G H (G'.cut S.length) H' := ⟨⟨st.le.1, fun k a h => Gh.cut_of (m.dom k a h) (st.le.2 k a h)⟩, st.dom, st.frm, fun n a h => st.new n a (Gh.cut_some h).2, st.fro⟩
def fin (o : Out Fl) : Out D := o.bind fun f S => match f with
  | .nx _ => .ok .non S
  | .rt d => .ok d S
  | _ => .no
noncomputable def dfn (np n : Nat) (b : MS) : Fn := fun ds S => if ds.length = np then gcO S (fin (b (ds.map some ++ List.replicate (n - np) none) S)) else .no
def spO (K : PySem.W.Frag) (G : Gh) (H : Hp) (o : Out D) (Q : VK) (E : XK) : Prop := match o with
  | .ok d S' => ∀ G' H' v, Stp G H G' H' → Sm K G' S' H' → Rp K G' d v → Q v H'
  | .ex c fs S' => ∀ cls dd H', wEx K G H c fs S' cls dd H' → E cls dd H'
  | .no => False
def spF (K : PySem.W.Frag) (F : Fn) : Sp := fun vs H Q E => ∃ ds S G, Sm K G S H ∧ Rps K G ds vs ∧ spO K G H (F ds S) Q E
abbrev FnFG (P : Program) (w : World) (K : PySem.W.Frag) (mg : Str → Option Value) (base : Heap) (k : Nat) (f : Addr) (F : Fn) : Prop := FnRG P w K mg base (L2.CX P w) k f (spF K F)
theorem ExR.cut {K : PySem.W.Frag} {G : Gh} {n : Nat} {c : String} {fs : List (String × D)} {cls : Value} {dd : Option Addr} (h : ExR K G c fs cls dd) (z : belowf n fs = true) : ExR K (G.cut n) c fs cls dd := by
  obtain ⟨h1, h2 | ⟨d, ws, h3, h4, h5⟩⟩ := h
  · exact ⟨h1, .inl h2⟩
  · exact ⟨h1, .inr ⟨d, ws, h3, h4, h5.cut z⟩⟩
theorem spO_gc {K : PySem.W.Frag} {G : Gh} {S : Sto} {H : Hp} {o : Out D} {Q : VK} {E : XK} (sm : Sm K G S H) (h : spO K G H (gcO S o) Q E) : spO K G H o Q E := by
  classical
  match o, h with
  | .ok d S', h =>
    intro G' H' v le sm' r
    by_cases c : d.und S.length = true ∧ Kept S S'
    · have e : gcO S (.ok d S') = .ok d (S'.take S.length) := if_pos c
      rw [e] at h
      exact h _ H' v (sm.cut_le le) (sm.cut sm' c.2) (r.cut c.1)
    · have e : gcO S (.ok d S') = .ok d S' := if_neg c
      rw [e] at h
      exact h G' H' v le sm' r
  | .ex x fs S', h =>
    intro cls dd H' w
    obtain ⟨G', le, sm', r⟩ := w
    by_cases c : belowf S.length fs = true ∧ Kept S S'
    · have e : gcO S (.ex x fs S') = .ex x fs (S'.take S.length) := if_pos c
      rw [e] at h
      exact h cls dd H' ⟨_, sm.cut_le le, sm.cut sm' c.2, r.cut c.1⟩
    · have e : gcO S (.ex x fs S') = .ex x fs S' := if_neg c
      rw [e] at h
      exact h cls dd H' ⟨G', le, sm', r⟩
  | .no, h => exact h
theorem sat_body {X : Cx} {G : Gh} {H : Hp} {K : PySem.W.Frag} {o : Out Fl} {Q : VK} {E : XK} (hK : X.K = K) (tk : Takes X (fun cls d _ H => E cls d H)) (h : spO K G H (fin o) Q E) :
    satS X G H o { nx := fun _ H' => Q .non H', rt := Q } := by
  subst hK
  match o, h with
  | .ok (.nx _) _, h => exact fun G' H' _ l s _ => h G' H' _ l s .non
  | .ok (.rt _) _, h => exact h
  | .ok (.bk _) _, h => exact h.elim
  | .ok (.ct _) _, h => exact h.elim
  | .ex _ _ _, h => exact tk.imp fun cls dd _ H' z => h cls dd H' z
  | .no, h => exact h.elim
section
variable {P : Program} {w : World} {K : PySem.W.Frag} {mg : Str → Option Value} {base : Heap} {x qual : Str} {st : Stmt} {kws : List (Str × V)} {f : Addr} {fd : FuncData} {N ps : List Str} {j : Nat} {b : MS}
theorem spF_len {np n : Nat} (hn : ps.length = np) : ∀ vs H Q E, spF K (dfn np n b) vs H Q E → vs.length = ps.length := fun vs H Q E ⟨ds, S, G, _, r, h⟩ => by
  by_cases q : ds.length = np
  · rw [r.length, q, hn]
  · unfold dfn at h
    rw [if_neg q] at h
    exact h.elim
theorem body_start {np n : Nat} {vs : List V} {H : Hp} {Q : VK} {E : XK} {X : Cx} (hK : X.K = K) (tk : Takes X (fun cls d _ H => E cls d H)) (hn : ps.length = np) (hN : N.length = n)
    (h : spF K (dfn np n b) vs H Q E) : tS X b { nx := fun _ H' => Q .non H', rt := Q } (start N vs) H := by
  have hl := spF_len (K := K) hn vs H Q E h
  obtain ⟨ds, S, G, sm, r, h⟩ := h
  have q : ds.length = np := by rw [← r.length, hl, hn]
  unfold dfn at h
  rw [if_pos q] at h
  refine ⟨_, S, G, by rw [hK]; exact sm, ?_, sat_body hK tk (spO_gc sm h)⟩
  unfold L2.start
  have e : N.length - vs.length = n - np := by rw [hN, hl, hn]
  rw [e, hK]
  exact Re.start r _
theorem okFG {np n : Nat} (F : FunD K x qual (defArgs st) (defBody st) (defScope st) [] kws f fd) (S : FnScope N ps (defScope st)) (hn : ps.length = np) (hN : N.length = n)
    (hb : ∀ (kV doc pm : Value) (an : Option Addr) (cdv ct : Value) (us : List Value), us.length = ps.length → bindArgs (PySem.W.fnOf x qual (defArgs st) (defBody st) (defScope st) .none kV doc pm an cdv ct) ⟨us, []⟩ = pure (ps.zip us))
    (hbody : ∀ (cdv : Value) (A : Around) (outer : List Env) (s : Shared) (H : Hp) (E : XK), A.guards = some [] → Room j (A.deeper (envOfC qual (defScope st) s.heap.objs.size f cdv)) →
      QSs (cxOf (L2.CX P w) P w K mg base N qual (defScope st) f cdv A outer s H E) (defBody st) b) : FnFG P w K mg base (j + 1) f (dfn np n b) := by
  have Fk : FnG P w K mg base (L2.CX P w) (j + 1) f fd ps (spF K (dfn np n b)) := okG F S (spF_len hn) fun cdv A outer s H vs Q E hg hr h =>
    ⟨_, hbody cdv A outer s H E hg hr, body_start rfl (takes_of rfl rfl rfl rfl) hn hN h⟩
  intro A outer s H us vs Q E hg hr e0 r h
  have hl : us.length = ps.length := r.length ▸ Fk.len _ _ _ _ h
  have bb := F.bindsN hb s us (e0.mod.kin.keeps fun b o e => (e0.bs b o e).1) (by simpa using hl)
  exact Fk.run A outer s H ⟨us, []⟩ us vs Q E hg hr e0 (by simpa using bb) r h
end
end PV
set_option Elab.async false
set_option linter.all false
set_option maxRecDepth 100000
set_option maxHeartbeats 4000000
namespace PV
open PySem PySem.Spec PyProof.Rows L2 ZL
abbrev G1 := D → Sto → Out D
abbrev G2 := D → D → Sto → Out D
def OpF (X : Cx) (f : Value → Value → Sem Value) (g : G2) : Prop := OpR X f (fun v w H Q => ∃ x y S G, Sm X.K G S H ∧ Rp X.K G x v ∧ Rp X.K G y w ∧ sat X (Rp X.K) G H (g x y S) Q)
def UnF (X : Cx) (f : Value → Sem Value) (g : G1) : Prop := UnR X f (fun v H Q => ∃ x S G, Sm X.K G S H ∧ Rp X.K G x v ∧ sat X (Rp X.K) G H (g x S) Q)
def CallF (X : Cx) (f : Value) (g : Fn) : Prop := CallR X f (fun vs H Q => ∃ ds S G, Sm X.K G S H ∧ Rps X.K G ds vs ∧ sat X (Rp X.K) G H (g ds S) Q)
def bin (g : G2) (a b : ME) : ME := fun ρ S => (a ρ S).bind fun x S1 => (b ρ S1).bind fun y S2 => g x y S2
def una (g : G1) (a : ME) : ME := fun ρ S => (a ρ S).bind fun x S1 => g x S1
def cal (g : Fn) (a : MA) : ME := fun ρ S => (a ρ S).bind fun ds S1 => g ds S1
def chn (g g' : G2) (a b c : ME) : ME := fun ρ S => (a ρ S).bind fun x S1 => (b ρ S1).bind fun y S2 => (g x y S2).bind fun z S3 => match z with
  | .bl true => (c ρ S3).bind fun u S4 => g' y u S4
  | .bl false => .ok (.bl false) S3
  | _ => .no
def isB (o : Out D) : Out Bool := o.bind fun d S => match d with
  | .bl b => .ok b S
  | _ => .no
section
variable {X : Cx} {a b c : Expr} {ma mb mc : ME} {g g' : G2} {pos : Pos}
theorem op2 {f : Value → Value → Sem Value} (ho : OpF X f g) {ta tb : TE} {ρ : Ev} {S : Sto} {G : Gh} {σ : L2.St} {H : Hp} {Q : VK} (sm : Sm X.K G S H) (re : Re X.K G ρ σ) (h : sat X (Rp X.K) G H (bin g ma mb ρ S) Q) :
    tOp (fun v w H Q => ∃ x y S G, Sm X.K G S H ∧ Rp X.K G x v ∧ Rp X.K G y w ∧ sat X (Rp X.K) G H (g x y S) Q) (tE X ma) (tE X mb) σ H Q := by
  refine ⟨ρ, S, G, sm, re, (sat.bind h).imp fun v H1 w => ?_⟩
  obtain ⟨x, S1, G1, le1, sm1, r1, q1⟩ := w
  refine ⟨ρ, S1, G1, sm1, re.mono le1.le, (sat.bind q1).imp fun v' H2 w => ?_⟩
  obtain ⟨y, S2, G2, le2, sm2, r2, q2⟩ := w
  exact ⟨x, y, S2, G2, sm2, r1.mono le2.le, r2, q2⟩
theorem qe_bin {op : Operator} (ho : OpF X (binaryOp op) g) (ha : QE X a ma) (hb : QE X b mb) : QE X (.BinOp a op b pos) (bin g ma mb) :=
  qe_of (pe_op ho ha hb) fun ρ S G σ H Q sm re h => op2 (ta := tE X ma) (tb := tE X mb) ho sm re h
theorem qe_cmp {op : CmpOp} (ho : OpF X (compareOp op) g) (ha : QE X a ma) (hb : QE X b mb) (hm : behindInMarks op b = false := by first | exact nomark _ | with_unfolding_all rfl) : QE X (.Compare a [op] [b] pos) (bin g ma mb) :=
  qe_of (pe_cmpR ho ha hb hm) fun ρ S G σ H Q sm re h => op2 (ta := tE X ma) (tb := tE X mb) ho sm re h
theorem sat_isB {G : Gh} {o : Out D} {Q : Bool → Hp → Prop} (h : sat X (fun _ a b => a = b) G H (isB o) Q) : sat X (Rp X.K) G H o (fun v H => ∃ c, v = .bl c ∧ Q c H) := by
  match o, h with
  | .ok (.bl c) S, h => exact fun G' H' v le sm r => by cases r; exact ⟨c, rfl, h G' H' c le sm rfl⟩
  | .ok .non _, h => exact h.elim
  | .ok (.int _) _, h => exact h.elim
  | .ok (.str _) _, h => exact h.elim
  | .ok (.tup _) _, h => exact h.elim
  | .ok (.lst _) _, h => exact h.elim
  | .ok (.obj _ _) _, h => exact h.elim
  | .ok (.loc _) _, h => exact h.elim
  | .ok (.cls _) _, h => exact h.elim
  | .ok (.fnc _) _, h => exact h.elim
  | .ok (.ty _) _, h => exact h.elim
  | .ok (.src _) _, h => exact h.elim
  | .ok .dic0 _, h => exact h.elim
  | .ok (.hob _) _, h => exact h.elim
  | .ok (.exc _ _) _, h => exact h.elim
  | .ex _ _ _, h => exact h
  | .no, h => exact h.elim
def tst (m : ME) : MT := fun ρ S => isB (m ρ S)
theorem tst_bin {f : Value → Value → Sem Value} (ho : OpF X f g) {ρ : Ev} {S : Sto} {G : Gh} {σ : L2.St} {H : Hp} {Q : Bool → Hp → Prop} (sm : Sm X.K G S H) (re : Re X.K G ρ σ) (h : sat X (fun _ a b => a = b) G H (tst (bin g ma mb) ρ S) Q) :
    tTest (tOp (fun v w H Q => ∃ x y S G, Sm X.K G S H ∧ Rp X.K G x v ∧ Rp X.K G y w ∧ sat X (Rp X.K) G H (g x y S) Q) (tE X ma) (tE X mb)) σ H Q :=
  op2 (ta := tE X ma) (tb := tE X mb) ho sm re (sat_isB h)
theorem qt_cmp {op : CmpOp} (ho : OpF X (compareOp op) g) (ha : QE X a ma) (hb : QE X b mb) (hm : behindInMarks op b = false := by first | exact nomark _ | with_unfolding_all rfl) : QT X (.Compare a [op] [b] pos) (tst (bin g ma mb)) :=
  qt_of (pt_cmpR ho ha hb hm) fun ρ S G σ H Q sm re h => tst_bin ho sm re h
theorem qe_un {op : UnaryOp} {g : G1} (ho : UnF X (unaryOp op) g) (ha : QE X a ma) : QE X (.UnaryOp op a pos) (una g ma) :=
  qe_of (pe_un ho ha) fun ρ S G σ H Q sm re h => by
    refine ⟨ρ, S, G, sm, re, (sat.bind h).imp fun v H1 w => ?_⟩
    obtain ⟨x, S1, G1, le1, sm1, r1, q1⟩ := w
    exact ⟨x, S1, G1, sm1, r1, q1⟩
end
def truD (d : D) : Option Bool := match d with
  | .non => some false
  | .bl b => some b
  | .int i => some (i != 0)
  | .str x => if x.length ≤ sizeLine then some ((x.length : Int) != 0) else none
  | .tup xs => some (!xs.isEmpty)
  | .lst xs => some (!xs.isEmpty)
  | _ => none
def tru (m : ME) : MT := fun ρ S => (m ρ S).bind fun d S1 => match truD d with
  | some b => .ok b S1
  | none => .no
def tNo (t : MT) : MT := fun ρ S => (t ρ S).bind fun c S1 => .ok (!c) S1
def tAn (t u : MT) : MT := fun ρ S => (t ρ S).bind fun c S1 => if c = true then u ρ S1 else .ok false S1
def tOr (t u : MT) : MT := fun ρ S => (t ρ S).bind fun c S1 => if c = true then .ok true S1 else u ρ S1
def ifE (t : MT) (a b : ME) : ME := fun ρ S => (t ρ S).bind fun c S1 => if c = true then a ρ S1 else b ρ S1
def anE (a b : ME) : ME := fun ρ S => (a ρ S).bind fun d S1 => match d with
  | .bl true => b ρ S1
  | .bl false => .ok (.bl false) S1
  | _ => .no
def orE (a b : ME) : ME := fun ρ S => (a ρ S).bind fun d S1 => match d with
  | .bl true => .ok (.bl true) S1
  | .bl false => b ρ S1
  | _ => .no
def noE (a : ME) : ME := fun ρ S => (a ρ S).bind fun d S1 => match d with
  | .bl b => .ok (.bl (!b)) S1
  | _ => .no
theorem Rps.isEmpty {K : PySem.W.Frag} {G : Gh} {xs : List D} {vs : List V} (h : Rps K G xs vs) : vs.isEmpty = xs.isEmpty := by cases h <;> rfl
section
variable {X : Cx} {a b c : Expr} {rest : List Expr} {ma mb : ME} {t u : MT} {pos : Pos}
theorem truV {G : Gh} {S : Sto} {H : Hp} {d : D} {v : V} {k : Bool} (sm : Sm X.K G S H) (r : Rp X.K G d v) (e : truD d = some k) : TruV X.K v H k := by
  cases r with
  | non => exact (Option.some.inj e).symm
  | bl b => exact (Option.some.inj e).symm
  | int i => exact (Option.some.inj e).symm
  | str x =>
    have e' : (if x.length ≤ sizeLine then some ((x.length : Int) != 0) else none) = some k := e
    by_cases q : x.length ≤ sizeLine
    · rw [if_pos q] at e'
      exact ⟨q, (Option.some.inj e').symm⟩
    · rw [if_neg q] at e'
      cases e'
  | tup h r => exact .inr (.inl ⟨_, SqT.mono h sm.fr, by rw [r.isEmpty]; exact (Option.some.inj e).symm⟩)
  | lst h r => exact .inl ⟨_, SqL.of (sm.fr _ _ h), by rw [r.isEmpty]; exact (Option.some.inj e).symm⟩
  | _ => cases e
theorem qt_tru (ha : QE X a ma) (he : ∀ whole, isTrue a X.env whole = (do let v ← whole; standAt a.pos; holding [v] (truthy v)) := by intro _; rfl) : QT X a (tru ma) :=
  qt_of (pt_truth ha he) fun ρ S G σ H Q sm re h => by
    refine ⟨ρ, S, G, sm, re, (sat.bind h).imp fun v H1 w => ?_⟩
    obtain ⟨d, S1, G1, le1, sm1, r1, q1⟩ := w
    match e : truD d, q1 with
    | some k, q1 => exact ⟨k, truV sm1 r1 e, q1 G1 H1 k .refl sm1 rfl⟩
    | none, q1 => exact q1.elim
theorem qt_not (h : QT X a t) : QT X (.UnaryOp .Not a pos) (tNo t) := qt_of (pt_not h) fun ρ S G σ H Q sm re h => by
  refine ⟨ρ, S, G, sm, re, (sat.bind h).imp fun v H1 w => ?_⟩
  obtain ⟨d, S1, G1, le1, sm1, r1, q1⟩ := w
  subst r1
  exact q1 G1 H1 _ .refl sm1 rfl
abbrev QW (X : Cx) (e : Expr) (m : MT) : Prop := PW X e (tT X m)
theorem qw_of {t : TT} {m : MT} {e : Expr} (h : PW X e t) (i : ∀ ρ S G σ H Q, Sm X.K G S H → Re X.K G ρ σ → sat X (fun _ a b => a = b) G H (m ρ S) Q → t σ H Q) : QW X e m :=
  ⟨fun wh pins s σ H Q I ⟨ρ, S, G, sm, re, q⟩ => h.run wh pins s σ H Q I (i ρ S G σ H Q sm re q)⟩
theorem qw_and1 (h : QT X a t) : QW X (.BoolOp .And [a] pos) t := pw_and1 h
theorem qw_or1 (h : QT X a t) : QW X (.BoolOp .Or [a] pos) t := pw_or1 h
theorem qw_and (h : QT X a t) (h' : QW X (.BoolOp .And (b :: rest) pos) u) : QW X (.BoolOp .And (a :: b :: rest) pos) (tAn t u) := qw_of (pw_and h h') fun ρ S G σ H Q sm re h => by
  refine ⟨ρ, S, G, sm, re, (sat.bind h).imp fun v H1 w => ?_⟩
  obtain ⟨d, S1, G1, le1, sm1, r1, q1⟩ := w
  subst r1
  cases d with
  | true => exact ⟨ρ, S1, G1, sm1, re.mono le1.le, q1⟩
  | false => exact q1 G1 H1 _ .refl sm1 rfl
theorem qw_or (h : QT X a t) (h' : QW X (.BoolOp .Or (b :: rest) pos) u) : QW X (.BoolOp .Or (a :: b :: rest) pos) (tOr t u) := qw_of (pw_or h h') fun ρ S G σ H Q sm re h => by
  refine ⟨ρ, S, G, sm, re, (sat.bind h).imp fun v H1 w => ?_⟩
  obtain ⟨d, S1, G1, le1, sm1, r1, q1⟩ := w
  subst r1
  cases d with
  | false => exact ⟨ρ, S1, G1, sm1, re.mono le1.le, q1⟩
  | true => exact q1 G1 H1 _ .refl sm1 rfl
theorem qt_w {e : Expr} (h : QW X e t) : QT X e t := h.pt
theorem qe_one {op : BoolOp} (h : QE X a ma) : QE X (.BoolOp op [a] pos) ma := pe_one h
theorem qe_and (ha : QE X a ma) (hb : QE X (.BoolOp .And (b :: rest) pos) mb) : QE X (.BoolOp .And (a :: b :: rest) pos) (anE ma mb) := qe_of (pe_and ha hb) fun ρ S G σ H Q sm re h => by
  refine ⟨ρ, S, G, sm, re, (sat.bind h).imp fun v H1 w => ?_⟩
  obtain ⟨d, S1, G1, le1, sm1, r1, q1⟩ := w
  cases r1 with
  | bl k =>
    refine ⟨k, rfl, ?_⟩
    cases k with
    | true => exact ⟨ρ, S1, G1, sm1, re.mono le1.le, q1⟩
    | false => exact q1 G1 H1 _ .refl sm1 (.bl _)
  | _ => exact q1.elim
end
end PV
set_option Elab.async false
set_option linter.all false
set_option maxRecDepth 100000
set_option maxHeartbeats 4000000
namespace PV
open PySem PySem.Spec PyProof.Rows L2 ZL
mutual
def toP : D → Option PyData
  | .non => some .none
  | .bl b => some (.bool b)
  | .int i => some (.int i)
  | .str x => some (.str x)
  | .tup xs => (toPs xs).map .tuple
  | .lst xs => (toPs xs).map .list
  | .src xs => (toPs xs).map .list
  | .dic0 => none
  | .hob _ => none
  | .exc _ _ => none
  | .obj _ _ => none
  | .loc _ => none
  | .cls _ => none
  | .fnc _ => none
  | .ty _ => none
def toPs : List D → Option (List PyData)
  | [] => some []
  | x :: xs => match toP x, toPs xs with
    | some p, some ps => some (p :: ps)
    | _, _ => none
end
section
variable {K : PySem.W.Frag} {G : Gh} {H : Hp}
mutual
theorem Rp.dp (e : ∀ a o, G.F a = some o → H a = some o) : ∀ (d : D) (v : V) (p : PyData), Rp K G d v → toP d = some p → Dp K H v p
  | .non, _, _, r, h => by cases r; cases h; exact .non
  | .bl _, _, _, r, h => by cases r; cases h; exact .bl _
  | .int _, _, _, r, h => by cases r; cases h; exact .int _
  | .str _, _, _, r, h => by cases r; cases h; exact .str _
  | .tup xs, _, _, r, h => by
    cases r with
    | tup q r =>
      unfold toP at h
      match hp : toPs xs, h with
      | some ps, h => cases h; exact .tup (SqT.mono q e) (Rps.dp e xs _ ps r hp)
      | none, h => cases h
  | .lst xs, _, _, r, h => by
    cases r with
    | lst q r =>
      unfold toP at h
      match hp : toPs xs, h with
      | some ps, h => cases h; exact .lst (SqL.of (e _ _ q)) (Rps.dp e xs _ ps r hp)
      | none, h => cases h
  | .src xs, _, _, r, h => by
    cases r with
    | src q r =>
      unfold toP at h
      match hp : toPs xs, h with
      | some ps, h => cases h; exact .lst (SqL.mono q e) (Rps.dp e xs _ ps r hp)
      | none, h => cases h
  | .obj _ _, _, _, _, h => by simp [toP] at h
  | .dic0, _, _, _, h => by simp [toP] at h
  | .hob _, _, _, _, h => by simp [toP] at h
  | .exc _ _, _, _, _, h => by simp [toP] at h
  | .loc _, _, _, _, h => by simp [toP] at h
  | .cls _, _, _, _, h => by simp [toP] at h
  | .fnc _, _, _, _, h => by simp [toP] at h
  | .ty _, _, _, _, h => by simp [toP] at h
theorem Rps.dp (e : ∀ a o, G.F a = some o → H a = some o) : ∀ (xs : List D) (vs : List V) (ps : List PyData), Rps K G xs vs → toPs xs = some ps → DpAll K H vs ps
  | [], _, _, r, h => by cases r; cases h; exact .nil
  | x :: xs, _, _, r, h => by
    cases r with
    | cons r1 r2 =>
      unfold toPs at h
      match h1 : toP x, h2 : toPs xs, h with
      | some p, some ps, h => cases h; exact .cons (Rp.dp e x _ p r1 h1) (Rps.dp e xs _ ps r2 h2)
      | none, some _, h => cases h
      | none, none, h => cases h
      | some _, none, h => cases h
end
end
def eqP (x y : D) : Option Bool := match toP x, toP y with
  | some p, some q => if SeqAt.shaped p = true ∧ SeqAt.shaped q = true then some (PyData.eqv p q) else none
  | _, _ => none
def eqD (x y : D) : Option Bool := match x, y with
  | .str a, .str b => some (decide (a = b))
  | x, y => eqP x y
def eqG (neg : Bool) : G2 := fun x y S => match eqD x y with
  | some b => .ok (.bl (neg ^^ b)) S
  | none => .no
theorem eqP_some {x y : D} {b : Bool} (h : eqP x y = some b) : ∃ p q, toP x = some p ∧ toP y = some q ∧ SeqAt.shaped p = true ∧ SeqAt.shaped q = true ∧ b = PyData.eqv p q := by
  unfold eqP at h
  match h1 : toP x, h2 : toP y, h with
  | some p, some q, h =>
    simp only at h
    by_cases c : SeqAt.shaped p = true ∧ SeqAt.shaped q = true
    · rw [if_pos c] at h
      exact ⟨p, q, rfl, rfl, c.1, c.2, (Option.some.inj h).symm⟩
    · rw [if_neg c] at h
      cases h
  | none, _, h => cases h
  | some _, none, h => cases h
section
variable {X : Cx}
theorem dec_strV {a b : Str} : decide (V.str a = V.str b) = decide (a = b) := by
  rw [Bool.eq_iff_iff]
  simp
theorem of_eq (hu : X.A.units + 64 < cLine) : OpF X (compareOp .Eq) (eqG false) := fun pins s σ H v w u u' Q I rv rw' ⟨x, y, S, G, sm, rx, ry, h⟩ => by
  unfold eqG at h
  match e : eqD x y, h with
  | some b, h =>
    unfold eqD at e
    split at e
    · cases rx
      cases ry
      cases e
      exact op_eq pins s σ H _ _ u u' Q I rv rw' ⟨rfl, h G H _ .refl sm (by rw [dec_strV, Bool.false_xor]; exact .bl _)⟩
    · obtain ⟨p, q, h1, h2, h3, h4, rfl⟩ := eqP_some e
      exact op_eqD hu pins s σ H v w u u' Q I rv rw' ⟨p, q, Rp.dp sm.fr x v p rx h1, Rp.dp sm.fr y w q ry h2, h3, h4, h G H _ .refl sm (by rw [Bool.false_xor]; exact .bl _)⟩
  | none, h => exact h.elim
theorem of_ne (hu : X.A.units + 64 < cLine) : OpF X (compareOp .NotEq) (eqG true) := fun pins s σ H v w u u' Q I rv rw' ⟨x, y, S, G, sm, rx, ry, h⟩ => by
  unfold eqG at h
  match e : eqD x y, h with
  | some b, h =>
    unfold eqD at e
    split at e
    · cases rx
      cases ry
      cases e
      exact op_ne pins s σ H _ _ u u' Q I rv rw' ⟨rfl, h G H _ .refl sm (by rw [dec_strV, Bool.true_xor]; exact .bl _)⟩
    · obtain ⟨p, q, h1, h2, h3, h4, rfl⟩ := eqP_some e
      exact op_neD hu pins s σ H v w u u' Q I rv rw' ⟨p, q, Rp.dp sm.fr x v p rx h1, Rp.dp sm.fr y w q ry h2, h3, h4, h G H _ .refl sm (by rw [Bool.true_xor]; exact .bl _)⟩
  | none, h => exact h.elim
end
def strLt (a b : Str) : Bool := decide (a.cps.toList < b.cps.toList)
def ltG : G2 := fun x y S => match x, y with
  | .int i, .int j => .ok (.bl (decide (i < j))) S
  | .str a, .str b => .ok (.bl (strLt a b)) S
  | _, _ => .no
def leG : G2 := fun x y S => match x, y with
  | .int i, .int j => .ok (.bl (decide (i ≤ j))) S
  | .str a, .str b => .ok (.bl (!strLt b a)) S
  | _, _ => .no
def gtG : G2 := fun x y S => match x, y with
  | .int i, .int j => .ok (.bl (decide (j < i))) S
  | .str a, .str b => .ok (.bl (strLt b a)) S
  | _, _ => .no
def geG : G2 := fun x y S => match x, y with
  | .int i, .int j => .ok (.bl (decide (j ≤ i))) S
  | .str a, .str b => .ok (.bl (!strLt a b)) S
  | _, _ => .no
section
variable {X : Cx}
theorem of_lt : OpF X (compareOp .Lt) ltG := fun pins s σ H v w u u' Q I rv rw' ⟨x, y, S, G, sm, rx, ry, h⟩ => by
  unfold ltG at h
  split at h
  · cases rx; cases ry; exact op_lt pins s σ H _ _ u u' Q I rv rw' ⟨_, _, rfl, rfl, h G H _ .refl sm (.bl _)⟩
  · cases rx; cases ry; exact op_lt_str pins s σ H _ _ u u' Q I rv rw' ⟨_, _, rfl, rfl, h G H _ .refl sm (.bl _)⟩
  · exact h.elim
theorem of_ge : OpF X (compareOp .GtE) geG := fun pins s σ H v w u u' Q I rv rw' ⟨x, y, S, G, sm, rx, ry, h⟩ => by
  unfold geG at h
  split at h
  · cases rx; cases ry; exact op_ge pins s σ H _ _ u u' Q I rv rw' ⟨_, _, rfl, rfl, h G H _ .refl sm (.bl _)⟩
  · cases rx; cases ry; exact op_ge_str pins s σ H _ _ u u' Q I rv rw' ⟨_, _, rfl, rfl, h G H _ .refl sm (.bl _)⟩
  · exact h.elim
end
def isNon : D → Bool
  | .non => true
  | _ => false
def isG (neg : Bool) : G2 := fun x y S => match y with
  | .non => .ok (.bl (neg ^^ isNon x)) S
  | _ => .no
section
variable {X : Cx}
end
section
variable {K : PySem.W.Frag} {G : Gh} {H : Hp}
end
section
variable {X : Cx}
end
def fits (a b : Nat) : Bool := decide (a + b ≤ sizeLine)
def addG : G2 := fun x y S => match x, y with
  | .int i, .int j => .ok (.int (i + j)) S
  | .str a, .str b => if fits a.length b.length = true then .ok (.str (a ++ b)) S else .no
  | .lst a, .lst b => if fits a.length b.length = true then .ok (.lst (a ++ b)) S else .no
  | .tup a, .tup b => if fits a.length b.length = true then .ok (.tup (a ++ b)) S else .no
  | _, _ => .no
def subG : G2 := fun x y S => match x, y with
  | .int i, .int j => .ok (.int (i - j)) S
  | _, _ => .no
def mulOk (i j : Int) : Bool := decide (-(2 ^ 64) < i ∧ i < 2 ^ 64) || decide (-(2 ^ 64) < j ∧ j < 2 ^ 64) || decide (i.natAbs.log2 + j.natAbs.log2 < 1000000)
def repOk (n : Nat) (k : Int) : Bool := decide (-(2 ^ 63) ≤ k) && decide (k < 2 ^ 63) && decide (n * k.toNat ≤ sizeLine)
def mulG : G2 := fun x y S => match x, y with
  | .int i, .int j => if mulOk i j = true then .ok (.int (i * j)) S else .no
  | .lst a, .int k => if repOk a.length k = true then .ok (.lst (List.replicate k.toNat a).flatten) S else .no
  | _, _ => .no
def divOk (j : Int) : Bool := decide (0 < j) && decide (j.natAbs.log2 < 9000)
def fdivG : G2 := fun x y S => match x, y with
  | .int i, .int j => if divOk j = true then .ok (.int (i / j)) S else .no
  | _, _ => .no
def modG : G2 := fun x y S => match x, y with
  | .int i, .int j => if 0 < j then .ok (.int (i % j)) S else .no
  | _, _ => .no
def powOk (i j : Int) : Bool := decide (0 ≤ j) && decide (j ≤ 1000000) && decide (i.natAbs < 2 ^ 64)
def powG : G2 := fun x y S => match x, y with
  | .int i, .int j => if powOk i j = true then .ok (.int (i ^ j.toNat)) S else .no
  | _, _ => .no
theorem Rps.flat {K : PySem.W.Frag} {G : Gh} {xs : List D} {vs : List V} (r : Rps K G xs vs) : ∀ n : Nat, Rps K G (List.replicate n xs).flatten (List.replicate n vs).flatten
  | 0 => .nil
  | n + 1 => r.append (Rps.flat r n)
section
variable {X : Cx}
theorem new_lst {G : Gh} {S : Sto} {H : Hp} {p : Addr} {xs : List D} {vs : List V} {Q : VK} (sm : Sm X.K G S H) (hp : H p = none) (r : Rps X.K G xs vs) (h : sat X (Rp X.K) G H (.ok (.lst xs) S) Q) : Q (.ref p) (upd H p (.lst vs)) :=
  h _ _ _ (Stp.put sm hp) (sm.put hp) (.lst upd_same (r.mono (Gh.put_le (sm.free hp))))
theorem new_tup {G : Gh} {S : Sto} {H : Hp} {p : Addr} {xs : List D} {vs : List V} {Q : VK} (sm : Sm X.K G S H) (hp : H p = none) (r : Rps X.K G xs vs) (h : sat X (Rp X.K) G H (.ok (.tup xs) S) Q) : Q (.ref p) (upd H p (.tup vs)) :=
  h _ _ _ (Stp.put sm hp) (sm.put hp) (.tup (SqT.of upd_same) (r.mono (Gh.put_le (sm.free hp))))
theorem of_add : OpF X (binaryOp .Add) addG := fun pins s σ H v w u u' Q I rv rw' ⟨x, y, S, G, sm, rx, ry, h⟩ => by
  unfold addG at h
  split at h
  · cases rx; cases ry; exact op_add pins s σ H _ _ u u' Q I rv rw' ⟨_, _, rfl, rfl, h G H _ .refl sm (.int _)⟩
  · split at h
    · rename_i c
      cases rx; cases ry; exact op_add_str pins s σ H _ _ u u' Q I rv rw' ⟨_, _, rfl, rfl, of_decide_eq_true c, h G H _ .refl sm (.str _)⟩
    · exact h.elim
  · split at h
    · rename_i c
      cases rx with
      | lst h1 r1 =>
        cases ry with
        | lst h2 r2 =>
          refine op_cat pins s σ H _ _ u u' Q I rv rw' ⟨_, _, _, _, rfl, rfl, sm.fr _ _ h1, sm.fr _ _ h2, ?_, fun p hp => ?_⟩
          · rw [r1.length, r2.length]
            exact of_decide_eq_true c
          · exact new_lst sm hp (r1.append r2) h
    · exact h.elim
  · split at h
    · rename_i c
      cases rx with
      | tup h1 r1 =>
        cases ry with
        | tup h2 r2 =>
          refine op_catA pins s σ H _ _ u u' Q I rv rw' ⟨_, _, _, _, rfl, rfl, SqT.mono h1 sm.fr, SqT.mono h2 sm.fr, ?_, fun e => ?_, fun _ e => ?_, fun _ _ p hp => ?_⟩
          · rw [r1.length, r2.length]
            exact of_decide_eq_true c
          · subst e
            cases r1
            exact h G H _ .refl sm (.tup h2 r2)
          · subst e
            cases r2
            rw [List.append_nil] at h
            exact h G H _ .refl sm (.tup h1 r1)
          · exact new_tup sm hp (r1.append r2) h
    · exact h.elim
  · exact h.elim
theorem of_mul : OpF X (binaryOp .Mult) mulG := fun pins s σ H v w u u' Q I rv rw' ⟨x, y, S, G, sm, rx, ry, h⟩ => by
  unfold mulG at h
  split at h
  · split at h
    · rename_i c
      cases rx; cases ry
      unfold mulOk at c
      rw [Bool.or_eq_true, Bool.or_eq_true] at c
      rcases c with (c | c) | c
      · exact op_mul pins s σ H _ _ u u' Q I rv rw' ⟨_, _, rfl, rfl, .inl (of_decide_eq_true c), h G H _ .refl sm (.int _)⟩
      · exact op_mul pins s σ H _ _ u u' Q I rv rw' ⟨_, _, rfl, rfl, .inr (of_decide_eq_true c), h G H _ .refl sm (.int _)⟩
      · exact op_mulW pins s σ H _ _ u u' Q I rv rw' ⟨_, _, rfl, rfl, (of_decide_eq_true c : _ < 1000000), h G H _ .refl sm (.int _)⟩
    · exact h.elim
  · split at h
    · rename_i c
      unfold repOk at c
      rw [Bool.and_eq_true, Bool.and_eq_true] at c
      cases rx with
      | lst h1 r1 =>
        cases ry
        refine op_rep pins s σ H _ _ u u' Q I rv rw' ⟨_, _, _, rfl, rfl, sm.fr _ _ h1, of_decide_eq_true c.1.1, of_decide_eq_true c.1.2, ?_, fun p hp => ?_⟩
        · rw [r1.length]
          exact of_decide_eq_true c.2
        · exact new_lst sm hp (r1.flat _) h
    · exact h.elim
  · exact h.elim
theorem of_fdiv : OpF X (binaryOp .FloorDiv) fdivG := fun pins s σ H v w u u' Q I rv rw' ⟨x, y, S, G, sm, rx, ry, h⟩ => by
  unfold fdivG at h
  split at h
  · split at h
    · rename_i c
      unfold divOk at c
      rw [Bool.and_eq_true] at c
      cases rx; cases ry; exact op_fdivW pins s σ H _ _ u u' Q I rv rw' ⟨_, _, rfl, rfl, ⟨of_decide_eq_true c.1, of_decide_eq_true c.2⟩, h G H _ .refl sm (.int _)⟩
    · exact h.elim
  · exact h.elim
theorem of_mod : OpF X (binaryOp .Mod) modG := fun pins s σ H v w u u' Q I rv rw' ⟨x, y, S, G, sm, rx, ry, h⟩ => by
  unfold modG at h
  split at h
  · split at h
    · rename_i c
      cases rx; cases ry; exact op_mod pins s σ H _ _ u u' Q I rv rw' ⟨_, _, rfl, rfl, c, h G H _ .refl sm (.int _)⟩
    · exact h.elim
  · exact h.elim
theorem of_pow : OpF X (binaryOp .Pow) powG := fun pins s σ H v w u u' Q I rv rw' ⟨x, y, S, G, sm, rx, ry, h⟩ => by
  unfold powG at h
  split at h
  · split at h
    · rename_i c
      unfold powOk at c
      rw [Bool.and_eq_true, Bool.and_eq_true] at c
      cases rx; cases ry; exact op_pow pins s σ H _ _ u u' Q I rv rw' ⟨_, _, rfl, rfl, ⟨of_decide_eq_true c.1.1, of_decide_eq_true c.1.2, of_decide_eq_true c.2⟩, h G H _ .refl sm (.int _)⟩
    · exact h.elim
  · exact h.elim
def negG : G1 := fun x S => match x with
  | .int i => .ok (.int (-i)) S
  | _ => .no
theorem of_neg : UnF X (unaryOp .USub) negG := fun pins s σ H v u Q I rv ⟨x, S, G, sm, rx, h⟩ => by
  unfold negG at h
  split at h
  · cases rx; exact un_neg pins s σ H _ u Q I rv ⟨_, rfl, h G H _ .refl sm (.int _)⟩
  · exact h.elim
end
end PV
set_option Elab.async false
set_option linter.all false
set_option maxRecDepth 100000
set_option maxHeartbeats 4000000
namespace PV
open PySem PySem.Spec PyProof.Rows L2 ZL
theorem ofS_inj {a b : String} (h : Str.ofString a = Str.ofString b) : a = b := by
  rw [Str.ofString_eq_toList, Str.ofString_eq_toList] at h
  have h1 : (a.toList.map Char.toNat).toArray = (b.toList.map Char.toNat).toArray := congrArg Str.cps h
  have h2 : a.toList.map Char.toNat = b.toList.map Char.toNat := by simpa using congrArg Array.toList h1
  have inj : ∀ (x y : List Char), x.map Char.toNat = y.map Char.toNat → x = y := by
    intro x
    induction x with
    | nil => intro y e; cases y with | nil => rfl | cons _ _ => simp at e
    | cons c x ih =>
      intro y e
      cases y with
      | nil => simp at e
      | cons d y =>
        simp only [List.map_cons, List.cons.injEq] at e
        rw [Char.toNat_inj.mp e.1, ih y e.2]
  exact String.toList_inj.mp (inj _ _ h2)
section
variable {K : PySem.W.Frag} {G : Gh}
theorem Rpf.at {fs : List (String × D)} {ws : List (Str × V)} {n : String} {d : D} (h : Rpf K G fs ws) (e : fs.lookup n = some d) : ∃ v, ws.lookup (Str.ofString n) = some v ∧ Rp K G d v := h.get e fun _ _ z => ofS_inj z
theorem Rpf.gone {fs : List (String × D)} {ws : List (Str × V)} {n : String} (h : Rpf K G fs ws) (e : fs.lookup n = none) : ws.lookup (Str.ofString n) = none := by
  induction fs generalizing ws with
  | nil => cases h; rfl
  | cons x xs ih =>
    cases h with
    | @cons m d' v' _ ws' a b =>
      by_cases hm : n = m
      · subst hm
        simp at e
      · have h1 : (n == m) = false := by simpa using hm
        rw [List.lookup_cons, h1] at e
        have h2 : (Str.ofString n == Str.ofString m) = false := beq_eq_false_iff_ne.mpr fun z => hm (ofS_inj z)
        rw [List.lookup_cons, h2]
        exact ih b e
theorem Rpf.length {fs : List (String × D)} {ws : List (Str × V)} (h : Rpf K G fs ws) : ws.length = fs.length := by
  induction fs generalizing ws with
  | nil => cases h; rfl
  | cons x xs ih => cases h with | cons a b => simp [ih b]
def putD (f : String) (d : D) : List (String × D) → List (String × D)
  | [] => [(f, d)]
  | (g, x) :: r => if g = f then (g, d) :: r else (g, x) :: putD f d r
theorem Rpf.put {fs : List (String × D)} {ws : List (Str × V)} {n : String} {d : D} {v : V} (h : Rpf K G fs ws) (r : Rp K G d v) : Rpf K G (putD n d fs) (putF (Str.ofString n) v ws) := by
  induction fs generalizing ws with
  | nil => cases h; exact .cons r .nil
  | cons x xs ih =>
    cases h with
    | @cons m d' v' _ ws' a b =>
      by_cases hm : m = n
      · subst hm
        show Rpf K G (if m = m then (m, d) :: xs else _) (if Str.ofString m = Str.ofString m then (Str.ofString m, v) :: ws' else _)
        rw [if_pos rfl, if_pos rfl]
        exact .cons r b
      · show Rpf K G (if m = n then _ else (m, d') :: putD n d xs) (if Str.ofString m = Str.ofString n then _ else (Str.ofString m, v') :: putF (Str.ofString n) v ws')
        rw [if_neg hm, if_neg fun z => hm (ofS_inj z)]
        exact .cons a (ih b)
end
def Est (X : Cx) : XK := fun cls dd H' => ∃ G H c fs S', Takes X (fun cls dd _ H' => wEx X.K G H c fs S' cls dd H') ∧ wEx X.K G H c fs S' cls dd H'
theorem passE {X : Cx} : Passes (L2.CX X.prog X.w) X (Est X) := fun pins σ H s e s' I c => by
  obtain ⟨a, B, H', cls, d, rfl, fl, hok, ub, na, os, ag, G, H0, n, fs, S', tk, w⟩ := c
  exact passes_call tk (fun _ _ _ _ h => h) pins σ H s _ s' I ⟨a, B, H', cls, d, rfl, fl, hok, ub, na, os, ag, w⟩
theorem sat_sp {X : Cx} {G : Gh} {H : Hp} {o : Out D} {Q : VK} (h : sat X (Rp X.K) G H o Q) : spO X.K G H o Q (Est X) := by
  match o, h with
  | .ok _ _, h => exact h
  | .ex c fs S', h => exact fun cls dd H' w => ⟨G, H, c, fs, S', h, w⟩
  | .no, h => exact h
section
variable {X : Cx} {j : Nat} {f : Addr} {F : Fn} {x : Str} {e : Expr} {es : List Expr} {ms : MA} {p pos : Pos}
theorem cal_rd {ρ : Ev} {S : Sto} {G : Gh} {σ : L2.St} {H : Hp} {Q : VK} (sm : Sm X.K G S H) (re : Re X.K G ρ σ) (h : sat X (Rp X.K) G H (cal F ms ρ S) Q) : tA X ms σ H (fun vs H1 => spF X.K F vs H1 Q (Est X)) := by
  refine ⟨ρ, S, G, sm, re, (sat.bind h).imp fun vs H1 w => ?_⟩
  obtain ⟨ds, S1, G1, le1, sm1, r1, q1⟩ := w
  exact ⟨ds, S1, G1, sm1, r1, sat_sp q1⟩
theorem qe_callG (Ff : FnFG X.prog X.w X.K X.mg X.base j f F) (hgd : X.A.guards = some []) (hr : Room j X.A) (hm : X.mg x = some (.ref f)) (hk : PySem.W.keepIn X.K (.ref f) = true) (ha : QA X (e :: es) ms) (hg : Gl X x := by rfl) (hdb : (x == ("__debug__" : Str)) = false := by decide)
    (he : starEach (e :: es) X.env = (false, eval e X.env) :: starEach es X.env := by rfl) (hpl : (backTo pos (starEach es X.env)).any (·.1) = false := by rfl) : QE X (.Call (.Name x p) (e :: es) [] pos) (cal F ms) :=
  qe_of (pe_callRG Ff hgd hr hg hm hk passE ha hdb he hpl) fun ρ S G σ H Q sm re h => cal_rd sm re h
theorem calB_rd {g : Fn} {ρ : Ev} {S : Sto} {G : Gh} {σ : L2.St} {H : Hp} {Q : VK} (sm : Sm X.K G S H) (re : Re X.K G ρ σ) (h : sat X (Rp X.K) G H (cal g ms ρ S) Q) :
    tCB (fun vs H Q => ∃ ds S G, Sm X.K G S H ∧ Rps X.K G ds vs ∧ sat X (Rp X.K) G H (g ds S) Q) (tA X ms) σ H Q := by
  refine ⟨ρ, S, G, sm, re, (sat.bind h).imp fun vs H1 w => ?_⟩
  obtain ⟨ds, S1, G1, le1, sm1, r1, q1⟩ := w
  exact ⟨ds, S1, G1, sm1, r1, q1⟩
theorem qe_blt {g : Fn} {id : String} (hc : CallF X (.builtin id) g) (hm : X.mg x = none) (ha : QA X (e :: es) ms) (hv : bootBuiltins x = some (.builtin id) := by decide +kernel) (hg : Gl X x := by rfl) (hn : x ≠ "__name__" := by decide) (hdb : (x == ("__debug__" : Str)) = false := by decide)
    (he : starEach (e :: es) X.env = (false, eval e X.env) :: starEach es X.env := by rfl) (hpl : (backTo pos (starEach es X.env)).any (·.1) = false := by rfl) : QE X (.Call (.Name x p) (e :: es) [] pos) (cal g ms) :=
  qe_of (pe_callB hc hg hm hv ha hn hdb he hpl) fun ρ S G σ H Q sm re h => calB_rd sm re h
theorem qe_typ {g : Fn} {T : String} (hc : CallF X (.type T) g) (hm : X.mg x = none) (ha : QA X (e :: es) ms) (hv : bootBuiltins x = some (.type T) := by decide +kernel) (hg : Gl X x := by rfl) (hn : x ≠ "__name__" := by decide) (hdb : (x == ("__debug__" : Str)) = false := by decide)
    (he : starEach (e :: es) X.env = (false, eval e X.env) :: starEach es X.env := by rfl) (hpl : (backTo pos (starEach es X.env)).any (·.1) = false := by rfl) : QE X (.Call (.Name x p) (e :: es) [] pos) (cal g ms) :=
  qe_of (pe_callTy hc hg hm hv ha hn hdb he hpl) fun ρ S G σ H Q sm re h => calB_rd sm re h
end
def lenB : Fn := fun ds S => match ds with
  | [.lst xs] => .ok (.int xs.length) S
  | [.tup xs] => .ok (.int xs.length) S
  | [.src xs] => .ok (.int xs.length) S
  | [.str x] => if x.length ≤ sizeLine then .ok (.int x.length) S else .no
  | [.loc n] => match S[n]? with
    | some (.lst xs) => .ok (.int xs.length) S
    | _ => .no
  | _ => .no
def absB : Fn := fun ds S => match ds with
  | [.int i] => .ok (.int (if i < 0 then -i else i)) S
  | _ => .no
def intB : Fn := fun ds S => match ds with
  | [.int i] => .ok (.int i) S
  | [.bl b] => .ok (.int (if b = true then 1 else 0)) S
  | [.str a] => match PySem.intText? a with
    | some n => if a.length ≤ 640 then .ok (.int n) S else .no
    | none => .no
  | _ => .no
def strOf (i : Int) : Str := Str.ofString (toString i)
def listB : Fn := fun ds S => match ds with
  | [.lst xs] => .ok (.lst xs) S
  | [.tup xs] => .ok (.lst xs) S
  | [.src xs] => .ok (.lst xs) S
  | _ => .no
def tupB : Fn := fun ds S => match ds with
  | [.lst xs] => .ok (.tup xs) S
  | [.tup xs] => .ok (.tup xs) S
  | [.loc n] => match S[n]? with
    | some (.lst xs) => .ok (.tup xs) S
    | _ => .no
  | _ => .no
section
variable {X : Cx}
theorem vals1 {K : PySem.W.Frag} {G : Gh} {d : D} {vs : List V} (r : Rps K G [d] vs) : ∃ v, vs = [v] ∧ Rp K G d v := by
  cases r with
  | cons a b => cases b; exact ⟨_, rfl, a⟩
theorem vals2' {K : PySem.W.Frag} {G : Gh} {d e : D} {vs : List V} (r : Rps K G [d, e] vs) : ∃ v w, vs = [v, w] ∧ Rp K G d v ∧ Rp K G e w := by
  cases r with
  | cons a b => obtain ⟨w, rfl, q⟩ := vals1 b; exact ⟨_, _, rfl, a, q⟩
theorem Sm.list {K : PySem.W.Frag} {G : Gh} {S : Sto} {H : Hp} (sm : Sm K G S H) {n : Nat} {xs : List D} {v : V} (e : S[n]? = some (.lst xs)) (r : Rp K G (.loc n) v) : ∃ a vs, v = .ref a ∧ G.f n = some a ∧ H a = some (.lst vs) ∧ Rps K G xs vs := by
  cases r with
  | loc h =>
    obtain ⟨_, vs, h1, h2⟩ := sm.addr e (by simp) h
    exact ⟨_, vs, rfl, h, h1, h2⟩
theorem cf_len : CallF X (.builtin "len") lenB := fun pins s σ H vs us Q I rv ⟨ds, S, G, sm, r, h⟩ => by
  unfold lenB at h
  split at h
  · obtain ⟨v, rfl, q⟩ := vals1 r
    cases q with
    | lst a b => exact call_len_seq pins s σ H _ us Q I rv ⟨_, _, rfl, .inl (SqL.of (sm.fr _ _ a)), h G H _ .refl sm (by rw [b.length]; exact .int _)⟩
  · obtain ⟨v, rfl, q⟩ := vals1 r
    cases q with
    | tup a b => exact call_len_seq pins s σ H _ us Q I rv ⟨_, _, rfl, .inr (SqT.mono a sm.fr), h G H _ .refl sm (by rw [b.length]; exact .int _)⟩
  · obtain ⟨v, rfl, q⟩ := vals1 r
    cases q with
    | src a b => exact call_len_seq pins s σ H _ us Q I rv ⟨_, _, rfl, .inl (SqL.mono a sm.fr), h G H _ .refl sm (by rw [b.length]; exact .int _)⟩
  · split at h
    · rename_i c
      obtain ⟨v, rfl, q⟩ := vals1 r
      cases q
      exact call_len_str pins s σ H _ us Q I rv ⟨_, rfl, c, h G H _ .refl sm (.int _)⟩
    · exact h.elim
  · split at h
    · rename_i c
      obtain ⟨v, rfl, q⟩ := vals1 r
      obtain ⟨a, ws, rfl, _, h1, h2⟩ := sm.list c q
      exact call_len_seq pins s σ H _ us Q I rv ⟨_, _, rfl, .inl (SqL.of h1), h G H _ .refl sm (by rw [h2.length]; exact .int _)⟩
    · exact h.elim
  · exact h.elim
theorem cf_abs : CallF X (.builtin "abs") absB := fun pins s σ H vs us Q I rv ⟨ds, S, G, sm, r, h⟩ => by
  unfold absB at h
  split at h
  · obtain ⟨v, rfl, q⟩ := vals1 r
    cases q
    exact call_abs pins s σ H _ us Q I rv ⟨_, rfl, h G H _ .refl sm (.int _)⟩
  · exact h.elim
theorem cf_int : CallF X (.type "int") intB := fun pins s σ H vs us Q I rv ⟨ds, S, G, sm, r, h⟩ => by
  unfold intB at h
  split at h
  · obtain ⟨v, rfl, q⟩ := vals1 r
    cases q
    exact call_int1 pins s σ H _ us Q I rv (.inl ⟨_, rfl, h G H _ .refl sm (.int _)⟩)
  · obtain ⟨v, rfl, q⟩ := vals1 r
    cases q
    exact call_int1 pins s σ H _ us Q I rv (.inr ⟨_, rfl, h G H _ .refl sm (.int _)⟩)
  · split at h
    · rename_i c
      split at h
      · rename_i c2
        obtain ⟨v, rfl, q⟩ := vals1 r
        cases q
        exact call_int_str pins s σ H _ us Q I rv ⟨_, _, rfl, c, c2, h G H _ .refl sm (.int _)⟩
      · exact h.elim
    · exact h.elim
  · exact h.elim
theorem cf_list : CallF X (.type "list") listB := fun pins s σ H vs us Q I rv ⟨ds, S, G, sm, r, h⟩ => by
  unfold listB at h
  split at h
  · obtain ⟨v, rfl, q⟩ := vals1 r
    cases q with
    | lst a b => exact call_list_of pins s σ H _ us Q I rv ⟨_, _, rfl, .inl (SqL.of (sm.fr _ _ a)), fun l hl => new_lst sm hl b h⟩
  · obtain ⟨v, rfl, q⟩ := vals1 r
    cases q with
    | tup a b => exact call_list_of pins s σ H _ us Q I rv ⟨_, _, rfl, .inr (SqT.mono a sm.fr), fun l hl => new_lst sm hl b h⟩
  · obtain ⟨v, rfl, q⟩ := vals1 r
    cases q with
    | src a b => exact call_list_of pins s σ H _ us Q I rv ⟨_, _, rfl, .inl (SqL.mono a sm.fr), fun l hl => new_lst sm hl b h⟩
  · exact h.elim
end
def tupE (ms : MA) : ME := fun ρ S => (ms ρ S).bind fun ds S1 => if ds.length ≤ 1000 then .ok (.tup ds) S1 else .no
def lstE (ms : MA) : ME := fun ρ S => (ms ρ S).bind fun ds S1 => if ds.length ≤ 1000 then .ok (.lst ds) S1 else .no
def lstM (ms : MA) : ME := fun ρ S => (ms ρ S).bind fun ds S1 => if ds.length ≤ 1000 then .ok (.loc S1.length) (S1 ++ [.lst ds]) else .no
theorem le_line {n : Nat} (h : n ≤ 1000) : n ≤ sizeLine := Nat.le_trans h (by decide)
section
variable {X : Cx} {es : List Expr} {ms : MA} {pos : Pos}
theorem qe_tup {x1} (h : QA X es ms) : QE X (.Tuple es x1 pos) (tupE ms) := qe_of (pe_tup h) fun ρ S G σ H Q sm re z => by
  refine ⟨ρ, S, G, sm, re, (sat.bind z).imp fun vs H1 w => ?_⟩
  obtain ⟨ds, S1, G1, le1, sm1, r1, q1⟩ := w
  split at q1
  · rename_i c
    exact ⟨by rw [r1.length]; exact le_line c, fun p hp => new_tup sm1 hp r1 q1⟩
  · exact q1.elim
theorem qe_lst (h : QA X es ms) : QE X (.List es pos) (lstE ms) := qe_of (pe_lst h) fun ρ S G σ H Q sm re z => by
  refine ⟨ρ, S, G, sm, re, (sat.bind z).imp fun vs H1 w => ?_⟩
  obtain ⟨ds, S1, G1, le1, sm1, r1, q1⟩ := w
  split at q1
  · rename_i c
    exact ⟨by rw [r1.length]; exact le_line c, fun p hp => new_lst sm1 hp r1 q1⟩
  · exact q1.elim
end
end PV
set_option Elab.async false
set_option linter.all false
set_option maxRecDepth 100000
set_option maxHeartbeats 4000000
namespace PV
open PySem PySem.Spec PyProof.Rows L2 ZL
def asStrs : List D → Option (List Str)
  | [] => some []
  | .str i :: xs => (asStrs xs).map (i :: ·)
  | _ :: _ => none
section
variable {K : PySem.W.Frag} {G : Gh}
end
section
variable {X : Cx}
end
def ixG : G2 := fun x y S => match y with
  | .int i => match x with
    | .lst xs => match atI xs i with
      | some d => .ok d S
      | none => .no
    | .tup xs => match atI xs i with
      | some d => .ok d S
      | none => .no
    | .src xs => match atI xs i with
      | some d => .ok d S
      | none => .no
    | .loc n => match S[n]? with
      | some (.lst xs) => match atI xs i with
        | some d => .ok d S
        | none => .no
      | _ => .no
    | .str z => if z.length ≤ sizeLine then match atI z.cps.toList i with
        | some c => .ok (.str ⟨#[c]⟩) S
        | none => .no
      else .no
    | _ => .no
  | _ => .no
theorem Rps.atI {K : PySem.W.Frag} {G : Gh} {xs : List D} {vs : List V} {i : Int} {d : D} (r : Rps K G xs vs) (h : atI xs i = some d) : ∃ v, L2.atI vs i = some v ∧ Rp K G d v := by
  unfold L2.atI at h ⊢
  rw [r.length]
  match e : ixN xs.length i, h with
  | some j, h => exact r.get h
  | none, h => cases h
section
variable {X : Cx} {a b : Expr} {ma mb : ME} {pos : Pos}
theorem ixR : IxR X (fun v w H Q => ∃ x y S G, Sm X.K G S H ∧ Rp X.K G x v ∧ Rp X.K G y w ∧ sat X (Rp X.K) G H (ixG x y S) Q) := fun ea eb pins s σ H v w u u' Q I rv rw' ⟨x, y, S, G, sm, rx, ry, h⟩ hs => by
  unfold ixG at h
  split at h
  · cases ry
    split at h
    · split at h
      · rename_i c
        cases rx with
        | lst p r =>
          obtain ⟨z, z1, z2⟩ := r.atI c
          exact ix_list ea eb pins s σ H _ _ u u' Q I rv rw' ⟨_, _, _, z, rfl, rfl, SqL.of (sm.fr _ _ p), z1, h G H _ .refl sm z2⟩ hs
      · exact h.elim
    · split at h
      · rename_i c
        cases rx with
        | tup p r =>
          obtain ⟨z, z1, z2⟩ := r.atI c
          exact ix_tup ea eb pins s σ H _ _ u u' Q I rv rw' ⟨_, _, _, z, rfl, rfl, SqT.mono p sm.fr, z1, h G H _ .refl sm z2⟩ hs
      · exact h.elim
    · split at h
      · rename_i c
        cases rx with
        | src p r =>
          obtain ⟨z, z1, z2⟩ := r.atI c
          exact ix_list ea eb pins s σ H _ _ u u' Q I rv rw' ⟨_, _, _, z, rfl, rfl, SqL.mono p sm.fr, z1, h G H _ .refl sm z2⟩ hs
      · exact h.elim
    · split at h
      · rename_i c0
        split at h
        · rename_i c
          obtain ⟨p, vs, rfl, _, h1, r⟩ := sm.list c0 rx
          obtain ⟨z, z1, z2⟩ := r.atI c
          exact ix_list ea eb pins s σ H _ _ u u' Q I rv rw' ⟨_, _, _, z, rfl, rfl, SqL.of h1, z1, h G H _ .refl sm z2⟩ hs
        · exact h.elim
      · exact h.elim
    · split at h
      · rename_i c0
        split at h
        · rename_i c
          cases rx
          exact ix_str ea eb pins s σ H _ _ u u' Q I rv rw' ⟨_, _, _, rfl, rfl, c0, c, h G H _ .refl sm (.str _)⟩ hs
        · exact h.elim
      · exact h.elim
    · exact h.elim
  · exact h.elim
theorem qe_ix (ha : QE X a ma) (hb : QE X b mb) (hs : PlainIx b := by exact fun _ _ => rfl) : QE X (.Subscript a b pos) (bin ixG ma mb) :=
  qe_of (pe_ix ixR ha hb hs) fun ρ S G σ H Q sm re h => by
    refine ⟨ρ, S, G, sm, re, (sat.bind h).imp fun v H1 w => ?_⟩
    obtain ⟨x, S1, G1, le1, sm1, r1, q1⟩ := w
    refine ⟨ρ, S1, G1, sm1, re.mono le1.le, (sat.bind q1).imp fun v' H2 w => ?_⟩
    obtain ⟨y, S2, G2, le2, sm2, r2, q2⟩ := w
    exact ⟨x, y, S2, G2, sm2, r1.mono le2.le, r2, q2⟩
end
abbrev MO := Ev → Sto → Out (Option Int)
def tO (X : Cx) (m : MO) : L2.St → Hp → (Option Int → Hp → Prop) → Prop := fun σ H Q => ∃ ρ S G, Sm X.K G S H ∧ Re X.K G ρ σ ∧ sat X (fun _ a b => a = b) G H (m ρ S) Q
abbrev QO (X : Cx) (e : Option Expr) (m : MO) : Prop := PO X e (tO X m)
def oNo : MO := fun _ S => .ok none S
def oSo (m : ME) : MO := fun ρ S => (m ρ S).bind fun d S1 => match d with
  | .int i => .ok (some i) S1
  | _ => .no
def cutD {α : Type} (xs : List α) (lo hi : Option Int) : List α := (xs.drop (HT.sIx xs.length 0 lo)).take (HT.sIx xs.length xs.length hi - HT.sIx xs.length 0 lo)
theorem cutD_whole {α : Type} {xs : List α} {lo hi : Option Int} (h : HT.sIx xs.length 0 lo = 0 ∧ HT.sIx xs.length xs.length hi = xs.length) : cutD xs lo hi = xs := by
  unfold cutD
  rw [h.1, h.2]
  simp
def slG (x : D) (lo hi : Option Int) (S : Sto) : Out D := match x with
  | .lst xs => .ok (.lst (cutD xs lo hi)) S
  | .src xs => .ok (.lst (cutD xs lo hi)) S
  | .tup xs => .ok (.tup (cutD xs lo hi)) S
  | .str z => if z.length ≤ sizeLine then .ok (.str (cutS z lo hi)) S else .no
  | .loc n => match S[n]? with
    | some (.lst xs) => .ok (.lst (cutD xs lo hi)) S
    | _ => .no
  | _ => .no
def sli (m : ME) (l h : MO) : ME := fun ρ S => (m ρ S).bind fun x S1 => (l ρ S1).bind fun lo S2 => (h ρ S2).bind fun hi S3 => slG x lo hi S3
theorem Rps.cutV {K : PySem.W.Frag} {G : Gh} {xs : List D} {vs : List V} (r : Rps K G xs vs) (lo hi : Option Int) : Rps K G (cutD xs lo hi) (L2.cutV vs lo hi) := by
  unfold cutD L2.cutV
  rw [r.length]
  exact (r.drop _).take _
section
variable {X : Cx} {e : Expr} {lo hi : Option Expr} {m : ME} {ml mh : MO} {p2 pos : Pos}
theorem qo_none : QO X none oNo := ⟨fun pins s σ H Q I ⟨ρ, S, G, sm, re, q⟩ => po_none.run pins s σ H Q I (q G H none .refl sm rfl)⟩
theorem qo_some (h : QE X e m) : QO X (some e) (oSo m) := ⟨fun pins s σ H Q I ⟨ρ, S, G, sm, re, q⟩ => (po_some h).run pins s σ H Q I (by
  refine ⟨ρ, S, G, sm, re, (sat.bind q).imp fun v H1 w => ?_⟩
  obtain ⟨d, S1, G1, le1, sm1, r1, q1⟩ := w
  cases r1 with
  | int i => exact ⟨i, rfl, q1 G1 H1 _ .refl sm1 rfl⟩
  | _ => exact q1.elim)⟩
theorem slR : SlR X (fun v lo hi H Q => ∃ x S G, Sm X.K G S H ∧ Rp X.K G x v ∧ sat X (Rp X.K) G H (slG x lo hi S) Q) := fun pins s σ H v u vl vu lo hi sl Q I rv hs pl pu ⟨x, S, G, sm, rx, h⟩ => by
  unfold slG at h
  split at h
  · cases rx with
    | lst p r => exact sl_list pins s σ H _ u vl vu lo hi sl Q I rv hs pl pu ⟨_, _, rfl, SqL.of (sm.fr _ _ p), fun l hl => new_lst sm hl (r.cutV lo hi) h⟩
  · cases rx with
    | src p r => exact sl_list pins s σ H _ u vl vu lo hi sl Q I rv hs pl pu ⟨_, _, rfl, SqL.mono p sm.fr, fun l hl => new_lst sm hl (r.cutV lo hi) h⟩
  · cases rx with
    | tup p r =>
      refine sl_tupA pins s σ H _ u vl vu lo hi sl Q I rv hs pl pu ⟨_, _, rfl, SqT.mono p sm.fr, fun e => ?_, fun _ l hl => new_tup sm hl (r.cutV lo hi) h⟩
      rw [r.length] at e
      rw [cutD_whole e] at h
      exact h G H _ .refl sm (.tup p r)
  · split at h
    · rename_i c
      cases rx
      exact sl_str pins s σ H _ u vl vu lo hi sl Q I rv hs pl pu ⟨_, rfl, c, h G H _ .refl sm (.str _)⟩
    · exact h.elim
  · split at h
    · rename_i c
      obtain ⟨p, vs, rfl, _, h1, r⟩ := sm.list c rx
      exact sl_list pins s σ H _ u vl vu lo hi sl Q I rv hs pl pu ⟨_, _, rfl, SqL.of h1, fun l hl => new_lst sm hl (r.cutV lo hi) h⟩
    · exact h.elim
  · exact h.elim
theorem qe_sli (h : QE X e m) (hl : QO X lo ml) (hh : QO X hi mh) : QE X (.Subscript e (.Slice lo hi none p2) pos) (sli m ml mh) :=
  qe_of (pe_slice slR h hl hh) fun ρ S G σ H Q sm re h => by
    refine ⟨ρ, S, G, sm, re, (sat.bind h).imp fun v H1 w => ?_⟩
    obtain ⟨x, S1, G1, le1, sm1, r1, q1⟩ := w
    refine ⟨ρ, S1, G1, sm1, re.mono le1.le, (sat.bind q1).imp fun l H2 w => ?_⟩
    obtain ⟨l', S2, G2, le2, sm2, r2, q2⟩ := w
    subst r2
    refine ⟨ρ, S2, G2, sm2, (re.mono le1.le).mono le2.le, (sat.bind q2).imp fun u H3 w => ?_⟩
    obtain ⟨u', S3, G3, le3, sm3, r3, q3⟩ := w
    subst r3
    exact ⟨x, S3, G3, sm3, (r1.mono le2.le).mono le3.le, q3⟩
end
def insOf (S : Sto) (d : D) : Option (String × List (String × D)) := match d with
  | .obj c fs => some (c, fs)
  | .loc n => match S[n]? with
    | some (.ins c fs) => some (c, fs)
    | _ => none
  | _ => none
theorem Sm.ins {K : PySem.W.Frag} {G : Gh} {S : Sto} {H : Hp} (sm : Sm K G S H) {d : D} {v : V} {c : String} {fs : List (String × D)} (e : insOf S d = some (c, fs)) (r : Rp K G d v) : ∃ a dx ws, v = .ref a ∧ H a = some (.ins (He.ga K (Str.ofString c)) dx ws) ∧ Rpf K G fs ws := by
  unfold insOf at e
  split at e
  · cases e
    cases r with
    | obj h r => exact ⟨_, _, _, rfl, sm.fr _ _ h, r⟩
  · split at e
    · rename_i q
      cases e
      cases r with
      | loc h =>
        obtain ⟨_, dx, ws, h1, h2⟩ := sm.addr q (by simp) h
        exact ⟨_, dx, ws, rfl, h1, h2⟩
    · cases e
  · cases e
def fldG (cs : List String) (f : String) : G1 := fun d S => match insOf S d with
  | some (c, fs) => if cs.contains c = true then match fs.lookup f with
      | some x => .ok x S
      | none => .no
    else .no
  | none => .no
structure CF (K : PySem.W.Frag) (c : String) : Prop where
  cl : Cls K (He.ga K (Str.ofString c))
  ca : PySem.W.findIn K (.ref (He.ga K (Str.ofString c))) "__class__" = some (some (.builtin "object.__class__"))
  cg : PySem.W.specialIn K (.builtin "object.__class__") "__get__" = some (some (.builtin "getset_descriptor.__get__"))
  ct : PySem.W.takesIn K (.builtin "object.__class__") = some true
  mo : PySem.W.mroIn K (He.ga K (Str.ofString c)) (.type "object") = some true
section
variable {X : Cx} {e : Expr} {m : ME} {pos : Pos}
end
inductive Ty where
  | b (n : String) | c (n : String)
def tyD (S : Sto) (d : D) : Option Ty := match d with
  | .non => some (.b "NoneType")
  | .bl _ => some (.b "bool")
  | .int _ => some (.b "int")
  | .str _ => some (.b "str")
  | .tup _ => some (.b "tuple")
  | .lst _ => some (.b "list")
  | .dic0 => some (.b "dict")
  | .hob o => match o with
    | .dK _ => some (.b "dict")
    | _ => none
  | .obj c _ => some (.c c)
  | .loc n => match S[n]? with
    | some (.lst _) => some (.b "list")
    | some (.ins c _) => some (.c c)
    | _ => none
  | _ => none
def tyV' (K : PySem.W.Frag) : Ty → Value
  | .b n => .type n
  | .c n => .ref (He.ga K (Str.ofString n))
theorem tyX {K : PySem.W.Frag} {G : Gh} {S : Sto} {H : Hp} (sm : Sm K G S H) {d : D} {v : V} {t : Ty} (e : tyD S d = some t) (r : Rp K G d v) (hc : ∀ n, t = .c n → CF K n) : TyX K H v (tyV' K t) := by
  cases r with
  | non => cases e; exact .base .non
  | bl b => cases e; exact .base (.bl b)
  | int i => cases e; exact .base (.int i)
  | str x => cases e; exact .base (.str x)
  | tup h r =>
    cases e
    rcases SqT.mono h sm.fr with (q | ⟨o, q⟩) | ⟨o, its, n, q, c, _⟩
    · exact .base (.tup q)
    · exact .fTuple q
    · exact .kTuple q c
  | lst h r => cases e; exact .base (.lst (sm.fr _ _ h))
  | dic0 h => cases e; exact .base (.dK (sm.fr _ _ h))
  | @hob o a h =>
    cases o with
    | dK kvs => cases e; exact .base (.dK (sm.fr _ _ h))
    | _ => cases e
  | obj h r =>
    cases e
    have k := hc _ rfl
    exact .base (.ins (sm.fr _ _ h) k.cl k.ca k.cg k.ct k.mo)
  | @loc n a h =>
    unfold tyD at e
    simp only at e
    split at e
    · rename_i xs q
      cases e
      obtain ⟨_, vs, h1, _⟩ := sm.addr q (by simp) h
      exact .base (.lst h1)
    · rename_i c fs q
      cases e
      have k := hc _ rfl
      obtain ⟨_, dx, ws, h1, _⟩ := sm.addr q (by simp) h
      exact .base (.ins h1 k.cl k.ca k.cg k.ct k.mo)
    · cases e
  | _ => cases e
def six : List String := ["NoneType", "bool", "int", "str", "tuple", "list", "dict"]
def subT (n T : String) : Bool := decide (n = T) || (decide (n = "bool") && decide (T = "int"))
theorem tyD_six {S : Sto} {d : D} {n : String} (h : tyD S d = some (.b n)) : n ∈ six := by
  unfold tyD at h
  split at h <;> first | (cases h; decide) | (cases h; done) | skip
  all_goals (split at h <;> first | (cases h; decide) | cases h)
def isiC (τ : List (String × Bool)) (t : Ty) : Option Bool := match t with
  | .b _ => some false
  | .c n => τ.lookup n
def isiF (ans : Ty → Option Bool) (cls : D → Bool) : Fn := fun ds S => match ds with
  | [x, c] => if cls c = true then match tyD S x with
      | some t => match ans t with
        | some b => .ok (.bl b) S
        | none => .no
      | none => .no
    else .no
  | _ => .no
def isTy (T : String) : D → Bool
  | .ty n => decide (n = T)
  | _ => false
def isCl (C : String) : D → Bool
  | .cls n => decide (n = C)
  | _ => false
section
variable {X : Cx}
theorem cf_isi {ans : Ty → Option Bool} {cls : D → Bool} {w : Value} (hcl : ∀ c, cls c = true → ∀ G v, Rp X.K G c v → ClsV v w) (hans : ∀ t b, (∀ n, t = .b n → n ∈ six) → ans t = some b → PySem.W.kitOne X.K (tyV' X.K t) w = some b ∧ ∀ n, t = .c n → CF X.K n) :
    CallF X (.builtin "isinstance") (isiF ans cls) := fun pins s σ H vs us Q I rv ⟨ds, S, G, sm, r, h⟩ => by
  unfold isiF at h
  split at h
  · split at h
    · rename_i x c hcc
      split at h
      · rename_i t ht
        split at h
        · rename_i b hb
          obtain ⟨v, u, rfl, q, q'⟩ := vals2' r
          obtain ⟨k1, k2⟩ := hans t b (fun n e => by subst e; exact tyD_six ht) hb
          exact call_isi pins s σ H _ us Q I rv ⟨v, u, _, w, b, rfl, hcl c hcc G u q', tyX sm ht q k2, k1, h G H _ .refl sm (.bl b)⟩
        · exact h.elim
      · exact h.elim
    · exact h.elim
  · exact h.elim
theorem cf_isiC {C : String} {τ : List (String × Bool)} (h6 : ∀ n ∈ six, PySem.W.kitOne X.K (.type n) (.ref (He.ga X.K (Str.ofString C))) = some false) (hc : ∀ c b, τ.lookup c = some b → CF X.K c ∧ PySem.W.kitOne X.K (.ref (He.ga X.K (Str.ofString c))) (.ref (He.ga X.K (Str.ofString C))) = some b) :
    CallF X (.builtin "isinstance") (isiF (isiC τ) (isCl C)) :=
  cf_isi (w := .ref (He.ga X.K (Str.ofString C))) (fun c h G v r => by
    cases r <;> simp [isCl] at h
    subst h
    exact .own _) fun t b hs e => by
    match t, e with
    | .b n, e =>
      cases e
      exact ⟨h6 n (hs n rfl), fun m z => by cases z⟩
    | .c n, e =>
      have k := hc n b e
      exact ⟨k.2, fun m z => by cases z; exact k.1⟩
end
end PV
set_option Elab.async false
set_option linter.all false
set_option maxRecDepth 100000
set_option maxHeartbeats 4000000
namespace PV
open PySem PySem.Spec PyProof.Rows L2 ZL
inductive Tg where
  | nm (i : Nat) | tp (is : List Nat) | tn (i : Nat) (is : List Nat) | tl (is : List Nat)
def Tg.slots : Tg → List Nat
  | .nm i => [i]
  | .tp is => is
  | .tn i is => i :: is
  | .tl is => is
def setAll : List Nat → List D → Ev → Option Ev
  | [], [], ρ => some ρ
  | i :: is, d :: ds, ρ => setAll is ds (ρ.set i (some d))
  | _, _, _ => none
def setT (T : Tg) (d : D) (ρ : Ev) : Option Ev := match T with
  | .nm i => some (ρ.set i (some d))
  | .tp is => match d with
    | .tup ds => setAll is ds ρ
    | _ => none
  | .tn i is => match d with
    | .tup [a, .tup ds] => setAll is ds (ρ.set i (some a))
    | _ => none
  | .tl is => match d with
    | .lst ds => setAll is ds ρ
    | _ => none
def tG (X : Cx) (T : Tg) : TG := fun v σ H Q => ∃ d ρ ρ' G, (∀ a o, G.F a = some o → H a = some o) ∧ Re X.K G ρ σ ∧ Rp X.K G d v ∧ setT T d ρ = some ρ' ∧ ∀ σ', Re X.K G ρ' σ' → (∀ vs, (∀ i ∈ T.slots, i ∈ vs) → wipe σ' vs = wipe σ vs) → Q σ' H
abbrev QG (X : Cx) (tg : Expr) (T : Tg) : Prop := PG X tg (tG X T)
theorem wipe_set {σ : L2.St} {i : Nat} {v : Option V} : ∀ {vs : List Nat}, i ∈ vs → wipe (σ.set i v) vs = wipe σ vs
  | [], h => by simp at h
  | j :: vs, h => by
    unfold wipe
    by_cases e : i ∈ vs
    · rw [wipe_set e]
    · rcases List.mem_cons.mp h with q | q
      · subst q
        have go : ∀ us : List Nat, i ∉ us → (wipe (σ.set i v) us) = (wipe σ us).set i v := by
          intro us
          induction us with
          | nil => intro _; rfl
          | cons k us ih =>
            intro hn
            unfold wipe
            rw [ih fun z => hn (List.mem_cons_of_mem _ z), List.set_comm]
            intro z
            exact hn (by rw [z]; exact List.mem_cons_self)
        rw [go vs e, List.set_set]
      · exact absurd q e
def tGs (X : Cx) (is : List Nat) : TGs := fun vs σ H Q => ∃ ds ρ ρ' G, (∀ a o, G.F a = some o → H a = some o) ∧ Re X.K G ρ σ ∧ Rps X.K G ds vs ∧ setAll is ds ρ = some ρ' ∧ ∀ σ', Re X.K G ρ' σ' → (∀ us, (∀ i ∈ is, i ∈ us) → wipe σ' us = wipe σ us) → Q σ' H
section
variable {X : Cx} {pos : Pos}
theorem qg_name (i : Nat) {x : Str} (hN : X.N.Nodup) (hi : X.N[i]? = some x := by rfl) (hx : Loc X.env.scope x := by first | exact .inl rfl | exact .inr rfl) (hf : X.fn x = true ∨ X.env.scope.names.lookup x = some .local := by first | exact .inl rfl | exact .inr rfl) : QG X (.Name x pos) (.nm i) := by
  refine ⟨fun pins s σ H v u Q I r h => (pg_name hN hi hx hf).run pins s σ H v u Q I r ?_⟩
  obtain ⟨d, ρ, ρ', G, fr, re, rd, e, q⟩ := h
  cases e
  exact q _ (re.set i rd) fun vs hv => wipe_set (hv i List.mem_cons_self)
theorem qgs_nil : PGs X [] (tGs X []) := by
  refine ⟨fun pins s σ H vs us Q I r h => pgs_nil.run pins s σ H vs us Q I r ?_⟩
  obtain ⟨ds, ρ, ρ', G, fr, re, rd, e, q⟩ := h
  match ds, e with
  | [], e => cases e; cases rd; exact ⟨rfl, q σ re fun _ _ => rfl⟩
  | _ :: _, e => cases e
theorem qgs_cons (i : Nat) {x : Str} {es : List Expr} {is : List Nat} (hr : PGs X es (tGs X is)) (hN : X.N.Nodup) (hi : X.N[i]? = some x := by rfl) (hx : Loc X.env.scope x := by first | exact .inl rfl | exact .inr rfl) (hf : X.fn x = true ∨ X.env.scope.names.lookup x = some .local := by first | exact .inl rfl | exact .inr rfl)
    (hs : (assignEach (.Name x pos :: es) X.env).map (·.2) = assign (.Name x pos) X.env :: (assignEach es X.env).map (·.2) := by rfl) : PGs X (.Name x pos :: es) (tGs X (i :: is)) := by
  refine ⟨fun pins s σ H vs us Q I r h => (pgs_cons (pg_name (pos := pos) hN hi hx hf) hr hs).run pins s σ H vs us Q I r ?_⟩
  obtain ⟨ds, ρ, ρ', G, fr, re, rd, e, q⟩ := h
  match ds, rd, e with
  | [], _, e => cases e
  | d :: ds, .cons a b, e =>
    refine ⟨_, _, rfl, ds, _, ρ', G, fr, re.set i a, b, e, fun σ' r' w' => q σ' r' fun us hu => ?_⟩
    rw [w' us fun k hk => hu k (List.mem_cons_of_mem _ hk)]
    exact wipe_set (hu i List.mem_cons_self)
theorem qg_tup {es : List Expr} {kk n : Nat} {is : List Nat} (hc : X.calm = true) (h : PGs X es (tGs X is)) (hl : is.length = n) (hn : (assignEach es X.env).length = n := by rfl) (hst : (assignEach es X.env).findIdx? (·.1) = none := by rfl) : QG X (.Tuple es kk pos) (.tp is) := by
  refine ⟨fun pins s σ H v u Q I r z => (pg_tup hc h hn hst).run pins s σ H v u Q I r ?_⟩
  obtain ⟨d, ρ, ρ', G, fr, re, rd, e, q⟩ := z
  match d, rd, e with
  | .tup ds, .tup h1 r1, e =>
    have e' : setAll is ds ρ = some ρ' := e
    have len : ∀ (is : List Nat) (ds : List D) (ρ ρ' : Ev), setAll is ds ρ = some ρ' → ds.length = is.length := by
      intro is
      induction is with
      | nil => intro ds ρ ρ' h; cases ds with | nil => rfl | cons _ _ => cases h
      | cons i is ih => intro ds ρ ρ' h; cases ds with | nil => cases h | cons d ds => simp [ih ds _ _ h]
    exact ⟨_, _, rfl, SqT.mono h1 fr, by rw [r1.length, len _ _ _ _ e', hl], ds, ρ, ρ', G, fr, re, r1, e', q⟩
  | .non, _, e => cases e
  | .bl _, _, e => cases e
  | .int _, _, e => cases e
  | .str _, _, e => cases e
  | .lst _, _, e => cases e
  | .obj _ _, _, e => cases e
  | .loc _, _, e => cases e
  | .cls _, _, e => cases e
  | .fnc _, _, e => cases e
  | .ty _, _, e => cases e
  | .src _, _, e => cases e
  | .dic0, _, e => cases e
  | .hob _, _, e => cases e
  | .exc _ _, _, e => cases e
theorem qg_lst {es : List Expr} {kk n : Nat} {is : List Nat} (hc : X.calm = true) (h : PGs X es (tGs X is)) (hl : is.length = n) (hn : (assignEach es X.env).length = n := by rfl) (hst : (assignEach es X.env).findIdx? (·.1) = none := by rfl) : QG X (.Tuple es kk pos) (.tl is) := by
  refine ⟨fun pins s σ H v u Q I r z => (pg_lst hc h hn hst).run pins s σ H v u Q I r ?_⟩
  obtain ⟨d, ρ, ρ', G, fr, re, rd, e, q⟩ := z
  unfold setT at e
  simp only at e
  split at e
  · rename_i d ds
    cases rd with
    | lst h1 r1 =>
      have len : ∀ (is : List Nat) (ds : List D) (ρ ρ' : Ev), setAll is ds ρ = some ρ' → ds.length = is.length := by
        intro is
        induction is with
        | nil => intro ds ρ ρ' h; cases ds with | nil => rfl | cons _ _ => cases h
        | cons i is ih => intro ds ρ ρ' h; cases ds with | nil => cases h | cons d ds => simp [ih ds _ _ h]
      exact ⟨_, _, rfl, SqL.of (fr _ _ h1), by rw [r1.length, len _ _ _ _ e, hl], ds, ρ, ρ', G, fr, re, r1, e, q⟩
  · cases e
end
def Gd (o : Option Nat) (xs : List D) (S : Sto) : Prop := match o with
  | none => True
  | some n => S[n]? = some (.lst xs)
structure WalkD (K : PySem.W.Frag) (G : Gh) (xs : List D) (o : Option Nat) (J : It) : Prop where
  goes : ∀ i G' S H, G.le G' → Sm K G' S H → Gd o xs S → i < xs.length → J.go i H
  stops : ∀ G' S H, G.le G' → Sm K G' S H → Gd o xs S → J.stop xs.length H
  yields : ∀ i G' S H x H' d, G.le G' → Sm K G' S H → Gd o xs S → xs[i]? = some d → J.yld i H x H' → ∃ G'', Stp G' H G'' H' ∧ Sm K G'' S H' ∧ Rp K G'' d x
abbrev MI := Ev → Sto → Out (List D × Option Nat)
def tI (X : Cx) (m : MI) : TI := fun σ H R => ∃ ρ S G, Sm X.K G S H ∧ Re X.K G ρ σ ∧ sat X (fun G' a (J : It) => WalkD X.K G' a.1 a.2 J) G H (m ρ S) (fun J H' => R J H')
abbrev QI (X : Cx) (tg iter : Expr) (m : MI) : Prop := PI X tg iter (tI X m)
theorem PI.or {X : Cx} {tg iter : Expr} {w w' : TI} (h : PI X tg iter w) (h' : PI X tg iter w') : PI X tg iter (fun σ H R => w σ H R ∨ w' σ H R) := ⟨fun pins s σ H R I z => z.elim (h.run pins s σ H R I) (h'.run pins s σ H R I)⟩
def itemsD (S : Sto) (d : D) : Option (List D × Option Nat) := match d with
  | .lst xs => some (xs, none)
  | .tup xs => some (xs, none)
  | .src xs => some (xs, none)
  | .loc n => match S[n]? with
    | some (.lst xs) => some (xs, some n)
    | _ => none
  | _ => none
def signs (z : Str) : List D := z.cps.toList.map fun c => .str ⟨#[c]⟩
def itemsI (S : Sto) (d : D) : Option (List D × Option Nat) := match d with
  | .str z => some (signs z, none)
  | d => itemsD S d
def iSeq (m : ME) : MI := fun ρ S => (m ρ S).bind fun d S1 => match itemsI S1 d with
  | some p => .ok p S1
  | none => .no
def ups (lo : Int) (n : Nat) : List D := (List.range n).map fun i => .int (lo + (i : Nat))
def near62 (i : Int) : Bool := decide (-(2 ^ 62) ≤ i ∧ i < 2 ^ 62)
def iR1 (m : MA) : MI := fun ρ S => (m ρ S).bind fun ds S1 => match ds with
  | [.int j] => if near62 j = true then .ok (ups 0 j.toNat, none) S1 else .no
  | _ => .no
def iR2 (m : MA) : MI := fun ρ S => (m ρ S).bind fun ds S1 => match ds with
  | [.int i, .int j] => if near62 i = true ∧ near62 j = true then .ok (ups i (j - i).toNat, none) S1 else .no
  | _ => .no
def numbered (k : Int) : List D → List D
  | [] => []
  | x :: xs => .tup [.int k, x] :: numbered (k + 1) xs
def enD (ds : List D) (S1 : Sto) : Out (List D × Option Nat) := match ds with
  | [d] => match itemsD S1 d with
    | some (xs, none) => .ok (numbered 0 xs, none) S1
    | _ => .no
  | _ => .no
def iEn (m : MA) : MI := fun ρ S => (m ρ S).bind enD
theorem numbered_length : ∀ (k : Int) (xs : List D), (numbered k xs).length = xs.length
  | _, [] => rfl
  | k, x :: xs => by simp [numbered, numbered_length (k + 1) xs]
theorem numbered_get : ∀ {k : Int} {xs : List D} {i : Nat} {d : D}, (numbered k xs)[i]? = some d → ∃ x, xs[i]? = some x ∧ d = .tup [.int (k + (i : Nat)), x]
  | _, [], _, _, h => by simp [numbered] at h
  | k, x :: xs, 0, d, h => by simp [numbered] at h; exact ⟨x, rfl, by simp [h]⟩
  | k, x :: xs, i + 1, d, h => by
    simp only [numbered, List.getElem?_cons_succ] at h
    obtain ⟨y, h1, h2⟩ := numbered_get h
    refine ⟨y, by simpa using h1, ?_⟩
    rw [h2]
    congr 3
    push_cast
    omega
theorem ups_length (lo : Int) (n : Nat) : (ups lo n).length = n := by simp [ups]
theorem ups_get {lo : Int} {n i : Nat} {d : D} (h : (ups lo n)[i]? = some d) : d = .int (lo + (i : Nat)) := by
  unfold ups at h
  rw [List.getElem?_map] at h
  cases e : (List.range n)[i]? with
  | none => rw [e] at h; cases h
  | some j =>
    rw [e] at h
    have := List.getElem?_eq_some_iff.mp e
    obtain ⟨h1, h2⟩ := this
    simp at h2
    subst h2
    exact (Option.some.inj h).symm
section
variable {K : PySem.W.Frag} {G : Gh}
theorem walkL {xs : List D} {vs : List V} {a : Addr} (h : SqL K G.F a vs) (r : Rps K G xs vs) : WalkD K G xs none (Itl K a) where
  goes := fun i G' S H le sm _ hi => walk_list.goes i H (by rw [r.length]; exact hi) (SqL.mono (SqL.mono h le.1) sm.fr)
  stops := fun G' S H le sm _ => by rw [← r.length]; exact walk_list.stops H (SqL.mono (SqL.mono h le.1) sm.fr)
  yields := fun i G' S H x H' d le sm _ hd y => by
    have hi : i < vs.length := by rw [r.length]; exact (List.getElem?_eq_some_iff.mp hd).1
    obtain ⟨rfl, hx⟩ := walk_list.yields i H x H' hi (SqL.mono (SqL.mono h le.1) sm.fr) y
    obtain ⟨d', h1, h2⟩ := r.get' hx
    rw [hd] at h1
    cases h1
    exact ⟨G', .refl, sm, h2.mono le⟩
theorem walkT {xs : List D} {vs : List V} {a : Addr} (h : SqT K G.F a vs) (r : Rps K G xs vs) : WalkD K G xs none (Itt K a) where
  goes := fun i G' S H le sm _ hi => walk_tup.goes i H (by rw [r.length]; exact hi) (SqT.mono (SqT.mono h le.1) sm.fr)
  stops := fun G' S H le sm _ => by rw [← r.length]; exact walk_tup.stops H (SqT.mono (SqT.mono h le.1) sm.fr)
  yields := fun i G' S H x H' d le sm _ hd y => by
    have hi : i < vs.length := by rw [r.length]; exact (List.getElem?_eq_some_iff.mp hd).1
    obtain ⟨rfl, hx⟩ := walk_tup.yields i H x H' hi (SqT.mono (SqT.mono h le.1) sm.fr) y
    obtain ⟨d', h1, h2⟩ := r.get' hx
    rw [hd] at h1
    cases h1
    exact ⟨G', .refl, sm, h2.mono le⟩
theorem walkC {xs : List D} {n : Nat} {a : Addr} (h : G.f n = some a) : WalkD K G xs (some n) (Itl K a) where
  goes := fun i G' S H le sm g hi => by
    obtain ⟨_, vs, h1, r⟩ := sm.addr g (by simp) (le.2 _ _ h)
    exact walk_list.goes i H (by rw [r.length]; exact hi) (SqL.of h1)
  stops := fun G' S H le sm g => by
    obtain ⟨_, vs, h1, r⟩ := sm.addr g (by simp) (le.2 _ _ h)
    rw [← r.length]
    exact walk_list.stops H (SqL.of h1)
  yields := fun i G' S H x H' d le sm g hd y => by
    obtain ⟨_, vs, h1, r⟩ := sm.addr g (by simp) (le.2 _ _ h)
    have hi : i < vs.length := by rw [r.length]; exact (List.getElem?_eq_some_iff.mp hd).1
    obtain ⟨rfl, hx⟩ := walk_list.yields i H x H' hi (SqL.of h1) y
    obtain ⟨d', h1, h2⟩ := r.get' hx
    rw [hd] at h1
    cases h1
    exact ⟨G', .refl, sm, h2⟩
theorem walkR {lo : Int} {n : Nat} : WalkD K G (ups lo n) none (Itr lo n) where
  goes := fun i G' S H le sm _ hi => walk_range.goes i H (by rw [ups_length] at hi; exact hi) trivial
  stops := fun G' S H le sm _ => by rw [ups_length]; exact walk_range.stops H trivial
  yields := fun i G' S H x H' d le sm _ hd y => by
    have hi : i < n := by have := (List.getElem?_eq_some_iff.mp hd).1; rw [ups_length] at this; exact this
    obtain ⟨rfl, rfl⟩ := walk_range.yields i H x H' hi trivial y
    rw [ups_get hd]
    exact ⟨G', .refl, sm, .int _⟩
theorem walkS {z : Str} : WalkD K G (signs z) none (Its z) where
  goes := fun i G' S H le sm _ hi => walk_str.goes i H (by simpa [signs] using hi) trivial
  stops := fun G' S H le sm _ => by
    have e : (signs z).length = z.cps.size := by simp [signs]
    rw [e]
    exact walk_str.stops H trivial
  yields := fun i G' S H x H' d le sm _ hd y => by
    have hi : i < z.cps.size := by have := (List.getElem?_eq_some_iff.mp hd).1; simpa [signs] using this
    obtain ⟨rfl, c, hc, rfl⟩ := walk_str.yields i H x H' hi trivial y
    have e : d = .str ⟨#[c]⟩ := by
      unfold signs at hd
      rw [List.getElem?_map, Array.getElem?_toList, hc] at hd
      exact (Option.some.inj hd).symm
    subst e
    exact ⟨G', .refl, sm, .str _⟩
theorem pair_yield {xs : List D} {o : Option Nat} {G' : Gh} {S : Sto} {H H' : Hp} {T : Addr} {v w : V} {d e : D} (sm : Sm K G' S H) (hT : H T = none) (h : H' = upd H T (.tup [v, w])) (rd : Rp K G' d v) (re : Rp K G' e w) : ∃ G'', Stp G' H G'' H' ∧ Sm K G'' S H' ∧ Rp K G'' (.tup [d, e]) (.ref T) := by
  subst h
  have st := Stp.put (o := .tup [v, w]) sm hT
  exact ⟨_, st, sm.put hT, .tup (SqT.of upd_same) (.cons (rd.mono st.le) (.cons (re.mono st.le) .nil))⟩
theorem walkE {xs : List D} {vs : List V} {a : Addr} (h : SqL K G.F a vs) (r : Rps K G xs vs) : WalkD K G (numbered 0 xs) none (Ite K a) where
  goes := fun i G' S H le sm _ hi => walk_enum.goes i H (by rw [r.length]; rw [numbered_length] at hi; exact hi) (SqL.mono (SqL.mono h le.1) sm.fr)
  stops := fun G' S H le sm _ => by rw [numbered_length, ← r.length]; exact walk_enum.stops H (SqL.mono (SqL.mono h le.1) sm.fr)
  yields := fun i G' S H x H' d le sm _ hd y => by
    have hi : i < vs.length := by rw [r.length]; have := (List.getElem?_eq_some_iff.mp hd).1; rw [numbered_length] at this; exact this
    obtain ⟨T, v, w, rfl, hT, hH, h4, h5⟩ := walk_enum.yields i H x H' hi (SqL.mono (SqL.mono h le.1) sm.fr) y
    obtain ⟨z, h6, rfl⟩ := numbered_get hd
    obtain ⟨d', h7, h8⟩ := r.get' h5
    rw [h6] at h7
    cases h7
    cases h4
    refine pair_yield (xs := []) (o := none) sm hT hH ?_ (h8.mono le)
    rw [Int.zero_add]
    exact .int _
theorem walkET {xs : List D} {vs : List V} {a : Addr} (h : SqT K G.F a vs) (r : Rps K G xs vs) : WalkD K G (numbered 0 xs) none (IteT K a) where
  goes := fun i G' S H le sm _ hi => walk_enumT.goes i H (by rw [r.length]; rw [numbered_length] at hi; exact hi) (SqT.mono (SqT.mono h le.1) sm.fr)
  stops := fun G' S H le sm _ => by rw [numbered_length, ← r.length]; exact walk_enumT.stops H (SqT.mono (SqT.mono h le.1) sm.fr)
  yields := fun i G' S H x H' d le sm _ hd y => by
    have hi : i < vs.length := by rw [r.length]; have := (List.getElem?_eq_some_iff.mp hd).1; rw [numbered_length] at this; exact this
    obtain ⟨T, v, w, rfl, hT, hH, h4, h5⟩ := walk_enumT.yields i H x H' hi (SqT.mono (SqT.mono h le.1) sm.fr) y
    obtain ⟨z, h6, rfl⟩ := numbered_get hd
    obtain ⟨d', h7, h8⟩ := r.get' h5
    rw [h6] at h7
    cases h7
    cases h4
    refine pair_yield (xs := []) (o := none) sm hT hH ?_ (h8.mono le)
    rw [Int.zero_add]
    exact .int _
end
section
variable {X : Cx} {tg e : Expr} {m : ME} {ms : MA} {p pos : Pos}
theorem qi_seq (h : QE X e m) : QI X tg e (iSeq m) := ⟨fun pins s σ H R I ⟨ρ, S, G, sm, re, q⟩ => (PI.or (pi_list h) (PI.or (pi_tup h) (pi_str h))).run pins s σ H R I (by
  match em : m ρ S, q with
  | .ex c fs S', q =>
    refine .inl ⟨ρ, S, G, sm, re, ?_⟩
    rw [em]
    have q' : sat X _ G H ((m ρ S).bind _) _ := q
    rw [em] at q'
    exact q'
  | .no, q =>
    have q' : sat X _ G H ((m ρ S).bind _) _ := q
    rw [em] at q'
    exact q'.elim
  | .ok d S1, q =>
    have q' : sat X _ G H ((m ρ S).bind _) _ := q
    rw [em] at q'
    have q'' : sat X (fun G' (a : List D × Option Nat) (J : It) => WalkD X.K G' a.1 a.2 J) G H (match itemsI S1 d with | some p => .ok p S1 | none => .no) (fun J H' => R J H') := q'
    clear q q'
    match d, q'' with
    | .lst xs, q => refine .inl ⟨ρ, S, G, sm, re, ?_⟩; rw [em]; intro G' H' v le sm' r; cases r with | lst a b => exact ⟨_, rfl, ⟨_, SqL.of (sm'.fr _ _ a)⟩, q G' H' _ le sm' (walkL (SqL.of a) b)⟩
    | .src xs, q => refine .inl ⟨ρ, S, G, sm, re, ?_⟩; rw [em]; intro G' H' v le sm' r; cases r with | src a b => exact ⟨_, rfl, ⟨_, SqL.mono a sm'.fr⟩, q G' H' _ le sm' (walkL a b)⟩
    | .str z, q => refine .inr (.inr ⟨ρ, S, G, sm, re, ?_⟩); rw [em]; intro G' H' v le sm' r; cases r; exact ⟨z, rfl, q G' H' _ le sm' walkS⟩
    | .tup xs, q => refine .inr (.inl ⟨ρ, S, G, sm, re, ?_⟩); rw [em]; intro G' H' v le sm' r; cases r with | tup a b => exact ⟨_, rfl, ⟨_, SqT.mono a sm'.fr⟩, q G' H' _ le sm' (walkT a b)⟩
    | .loc n, q =>
      refine .inl ⟨ρ, S, G, sm, re, ?_⟩
      rw [em]
      intro G' H' v le sm' r
      simp only [itemsI, itemsD] at q
      cases r with
      | loc hf =>
        match hn : S1[n]?, q with
        | some (.lst xs), q =>
          obtain ⟨_, vs, h1, h2⟩ := sm'.addr hn (by simp) hf
          exact ⟨_, rfl, ⟨_, SqL.of h1⟩, q G' H' _ le sm' (walkC hf)⟩
        | some (.ins _ _), q => exact q.elim
        | some .dead, q => exact q.elim
        | none, q => exact q.elim
    | .non, q => exact q.elim
    | .bl _, q => exact q.elim
    | .int _, q => exact q.elim
    | .obj _ _, q => exact q.elim
    | .cls _, q => exact q.elim
    | .fnc _, q => exact q.elim
    | .ty _, q => exact q.elim
    | .dic0, q => exact q.elim
    | .exc _ _, q => exact q.elim
    | .hob _, q => exact q.elim)⟩
theorem qi_range1 (hm : X.mg "range" = none) (ha : QA X [e] ms) (hg : Gl X "range" := by rfl) (hs : starEach [e] X.env = [(false, eval e X.env)] := by rfl) : QI X tg (.Call (.Name "range" p) [e] [] pos) (iR1 ms) := ⟨fun pins s σ H R I ⟨ρ, S, G, sm, re, q⟩ => (pi_range1 hg hm ha hs).run pins s σ H R I (by
  refine ⟨ρ, S, G, sm, re, (sat.bind q).imp fun v H1 w => ?_⟩
  obtain ⟨ds, S1, G1, le1, sm1, r1, q1⟩ := w
  split at q1
  · split at q1
    · rename_i c
      obtain ⟨v, rfl, r⟩ := vals1 r1
      cases r
      have c' := of_decide_eq_true c
      exact ⟨_, rfl, c'.1, c'.2, q1 G1 H1 _ .refl sm1 walkR⟩
    · exact q1.elim
  · exact q1.elim)⟩
theorem qi_enum {elts : List Expr} {kk : Nat} {tpos : Pos} (hm : X.mg "enumerate" = none) (ha : QA X [e] ms) (hg : Gl X "enumerate" := by rfl) (hs : starEach [e] X.env = [(false, eval e X.env)] := by rfl) : QI X (.Tuple elts kk tpos) (.Call (.Name "enumerate" p) [e] [] pos) (iEn ms) := ⟨fun pins s σ H R I ⟨ρ, S, G, sm, re, q⟩ => (PI.or (pi_enum hg hm ha hs) (pi_enumT hg hm ha hs)).run pins s σ H R I (by
  match em : ms ρ S, q with
  | .ex c fs S', q =>
    refine .inl ⟨ρ, S, G, sm, re, ?_⟩
    rw [em]
    have q' : sat X _ G H ((ms ρ S).bind _) _ := q
    rw [em] at q'
    exact q'
  | .no, q =>
    have q' : sat X _ G H ((ms ρ S).bind _) _ := q
    rw [em] at q'
    exact q'.elim
  | .ok ds S1, q =>
    have q' : sat X _ G H ((ms ρ S).bind _) _ := q
    rw [em] at q'
    have q'' : sat X (fun G' (a : List D × Option Nat) (J : It) => WalkD X.K G' a.1 a.2 J) G H (enD ds S1) (fun J H' => R J H') := q'
    clear q q'
    match ds, q'' with
    | [.lst xs], q => refine .inl ⟨ρ, S, G, sm, re, ?_⟩; rw [em]; intro G' H' v le sm' rr; obtain ⟨v, rfl, r⟩ := vals1 rr; cases r with | lst a b => exact ⟨_, _, rfl, SqL.of (sm'.fr _ _ a), q G' H' _ le sm' (walkE (SqL.of a) b)⟩
    | [.src xs], q => refine .inl ⟨ρ, S, G, sm, re, ?_⟩; rw [em]; intro G' H' v le sm' rr; obtain ⟨v, rfl, r⟩ := vals1 rr; cases r with | src a b => exact ⟨_, _, rfl, SqL.mono a sm'.fr, q G' H' _ le sm' (walkE a b)⟩
    | [.tup xs], q => refine .inr ⟨ρ, S, G, sm, re, ?_⟩; rw [em]; intro G' H' v le sm' rr; obtain ⟨v, rfl, r⟩ := vals1 rr; cases r with | tup a b => exact ⟨_, _, rfl, SqT.mono a sm'.fr, q G' H' _ le sm' (walkET a b)⟩
    | [.loc n], q =>
      simp only [enD, itemsD] at q
      match hn : S1[n]?, q with
      | some (.lst xs), q => exact q.elim
      | some (.ins _ _), q => exact q.elim
      | some .dead, q => exact q.elim
      | none, q => exact q.elim
    | [.non], q => exact q.elim
    | [.bl _], q => exact q.elim
    | [.int _], q => exact q.elim
    | [.str _], q => exact q.elim
    | [.obj _ _], q => exact q.elim
    | [.cls _], q => exact q.elim
    | [.fnc _], q => exact q.elim
    | [.ty _], q => exact q.elim
    | [.dic0], q => exact q.elim
    | [.hob _], q => exact q.elim
    | [.exc _ _], q => exact q.elim
    | [], q => exact q.elim
    | _ :: _ :: _, q => exact q.elim)⟩
end
end PV
set_option Elab.async false
set_option linter.all false
set_option maxRecDepth 100000
set_option maxHeartbeats 4000000
namespace PV
open PySem PySem.Spec PyProof.Rows L2 ZL
open Classical in
noncomputable def forL (T : Tg) (b : MS) (o : Option Nat) (all : List D) : List D → Ev → Sto → Out Fl
  | [], ρ, S => if Gd o all S then .ok (.nx ρ) S else .no
  | x :: xs, ρ, S => if Gd o all S then match setT T x ρ with
      | some ρ1 => (b ρ1 S).bind fun f S1 => match f with
        | .nx ρ' => forL T b o all xs ρ' S1
        | .ct ρ' => forL T b o all xs ρ' S1
        | .bk ρ' => .ok (.nx ρ') S1
        | .rt d => .ok (.rt d) S1
      | none => .no
    else .no
noncomputable def sFor (T : Tg) (i : MI) (b : MS) : MS := fun ρ S => (i ρ S).bind fun p S1 => forL T b p.2 p.1 p.1 ρ S1
theorem drop_cons {α : Type} {xs : List α} {i : Nat} {x : α} (h : xs[i]? = some x) : xs.drop i = x :: xs.drop (i + 1) := by
  obtain ⟨h1, h2⟩ := List.getElem?_eq_some_iff.mp h
  rw [List.drop_eq_getElem_cons h1, h2]
theorem qs_for {X : Cx} {tg iter : Expr} {body : List Stmt} {T : Tg} {mi : MI} {mb : MS} {pos : Pos} (hp : PassesOwn (model X.prog X.w) X.A X.env X.xe) (hc : X.calm = true) (hi : QI X tg iter mi) (hg : QG X tg T) (hb : QSs X body mb)
    (hs : ∀ x, foldedSetIterable iter X.env x = pure x := by intro _; rfl) : QS X (.For tg iter body [] pos) (sFor T mi mb) := qs_of (ps_for hp hc hi hg hb hs) fun ρ0 S0 G0 σ0 H0 D sm0 re0 h => by
  classical
  refine ⟨ρ0, S0, G0, sm0, re0, (satS.bind (R := fun G' a (J : It) => WalkD X.K G' a.1 a.2 J) h).imp fun J H1 w => ?_⟩
  obtain ⟨⟨xs, o⟩, S1, G1, le1, sm1, wd, q1⟩ := w
  refine ⟨fun i m σ H => m = xs.length - i ∧ i ≤ xs.length ∧ ∃ ρ S G', G1.le G' ∧ Sm X.K G' S H ∧ Re X.K G' ρ σ ∧ satS X G' H (forL T mb o xs (xs.drop i) ρ S) D,
    ⟨xs.length, rfl, Nat.zero_le _, ρ0, S1, G1, .refl, sm1, re0.mono le1.le, q1⟩, ?_⟩
  rintro i m σ H ⟨rfl, hi', ρ, S, G', le, sm, re, q⟩
  by_cases hlt : i < xs.length
  · obtain ⟨x, hx⟩ : ∃ x, xs[i]? = some x := ⟨_, List.getElem?_eq_getElem hlt⟩
    rw [drop_cons hx] at q
    unfold forL at q
    split at q
    · rename_i gd
      refine .inr ⟨wd.goes i G' S H le sm gd hlt, fun σ' H' => ∃ ρ' S' G'', G1.le G'' ∧ Sm X.K G'' S' H' ∧ Re X.K G'' ρ' σ' ∧ satS X G'' H' (forL T mb o xs (xs.drop (i + 1)) ρ' S') D, fun σ' H' z => ⟨xs.length - (i + 1), by omega, rfl, hlt, z⟩, fun v H' y => ?_⟩
      obtain ⟨G'', st, sm', rv⟩ := wd.yields i G' S H v H' x le sm gd hx y
      split at q
      · rename_i ρ1 hset
        refine ⟨x, ρ, ρ1, G'', sm'.fr, re.mono st.le, rv, hset, fun σ2 re2 _ => ⟨ρ1, S, G'', sm', re2, ?_⟩⟩
        have q2 := q.mono st
        clear q
        match mb ρ1 S, q2 with
        | .ok (.nx ρ') S', q2 => exact fun G3 H3 σ3 st3 sm3 re3 => ⟨ρ', S', G3, le.trans (st.le.trans st3.le), sm3, re3, q2.mono st3⟩
        | .ok (.ct ρ') S', q2 => exact fun G3 H3 σ3 st3 sm3 re3 => ⟨ρ', S', G3, le.trans (st.le.trans st3.le), sm3, re3, q2.mono st3⟩
        | .ok (.bk ρ') S', q2 => exact q2
        | .ok (.rt d) S', q2 => exact q2
        | .ex _ _ _, q2 => exact q2
        | .no, q2 => exact q2
      · exact q.elim
    · exact q.elim
  · have e : i = xs.length := by omega
    subst e
    rw [List.drop_length] at q
    unfold forL at q
    split at q
    · rename_i gd
      exact .inl ⟨wd.stops G' S H le sm gd, q G' H σ .refl sm re⟩
    · exact q.elim
def wipeD (ρ : Ev) : List Nat → Ev
  | [] => ρ
  | v :: vs => (wipeD ρ vs).set v none
theorem Re.wipe {K : PySem.W.Frag} {G : Gh} {ρ : Ev} {σ : L2.St} (h : Re K G ρ σ) : ∀ vs : List Nat, Re K G (wipeD ρ vs) (L2.wipe σ vs)
  | [] => h
  | v :: vs => (Re.wipe h vs).forget v none
def tYs : MT := fun _ S => .ok true S
open Classical in
noncomputable def lcL (T : Tg) (t : MT) (e : ME) (o : Option Nat) (all : List D) (ρ : Ev) : List D → Sto → Out (List D)
  | [], S => if Gd o all S then .ok [] S else .no
  | x :: xs, S => if Gd o all S then match setT T x ρ with
      | some ρ1 => match t ρ1 S with
        | .ok true S1 => match e ρ1 S1 with
          | .ok d S2 => match lcL T t e o all ρ xs S2 with
            | .ok ds S3 => .ok (d :: ds) S3
            | _ => .no
          | _ => .no
        | .ok false S1 => lcL T t e o all ρ xs S1
        | _ => .no
      | none => .no
    else .no
noncomputable def lcO (T : Tg) (i : MI) (t : MT) (e : ME) : MA := fun ρ S => (i ρ S).bind fun p S1 => if p.1.length ≤ 1000 then lcL T t e p.2 p.1 (wipeD ρ T.slots) p.1 S1 else .no
noncomputable def lcE (T : Tg) (i : MI) (t : MT) (e : ME) : ME := fun ρ S => (lcO T i t e ρ S).bind fun ds S1 => .ok (.lst ds) S1
def satN {α β : Type} (K : PySem.W.Frag) (R : Gh → α → β → Prop) (G : Gh) (H : Hp) (o : Out α) (Q : β → Hp → Prop) : Prop := match o with
  | .ok a S' => ∀ G' H' b, Stp G H G' H' → Sm K G' S' H' → R G' a b → Q b H'
  | _ => False
theorem satN.sat {α β : Type} {X : Cx} {R : Gh → α → β → Prop} {G : Gh} {H : Hp} {o : Out α} {Q : β → Hp → Prop} (h : satN X.K R G H o Q) : sat X R G H o Q := by
  match o, h with
  | .ok _ _, h => exact h
def tEn (K : PySem.W.Frag) (m : ME) : TE := fun σ H Q => ∃ ρ S G, Sm K G S H ∧ Re K G ρ σ ∧ satN K (Rp K) G H (m ρ S) Q
def tTn (K : PySem.W.Frag) (m : MT) : TT := fun σ H Q => ∃ ρ S G, Sm K G S H ∧ Re K G ρ σ ∧ satN K (fun _ a b => a = b) G H (m ρ S) Q
theorem QE.n {X : Cx} {e : Expr} {m : ME} (h : QE X e m) : PE X e (tEn X.K m) := ⟨fun pins s σ H Q I ⟨ρ, S, G, sm, re, q⟩ => h.run pins s σ H Q I ⟨ρ, S, G, sm, re, q.sat⟩⟩
theorem QT.n {X : Cx} {e : Expr} {m : MT} (h : QT X e m) : PT X e (tTn X.K m) := ⟨fun pins s σ H Q I ⟨ρ, S, G, sm, re, q⟩ => h.run pins s σ H Q I ⟨ρ, S, G, sm, re, q.sat⟩⟩
theorem pts_yes {X : Cx} : PTs X [] (tTn X.K tYs) := ⟨fun pins s σ H Q I ⟨ρ, S, G, sm, re, q⟩ => pts_nil.run pins s σ H Q I (q G H true .refl sm rfl)⟩
theorem lc_rd {X : Cx} {T : Tg} {mi : MI} {mt : MT} {me : ME} {K : PySem.W.Frag} (hK : X.K = K) {ρ0 : Ev} {S0 : Sto} {G0 : Gh} {σ0 : L2.St} {H0 : Hp} {Q : VK} {fz : Bool} (sm0 : Sm X.K G0 S0 H0) (re0 : Re X.K G0 ρ0 σ0)
    (h : sat X (Rp X.K) G0 H0 ((lcO T mi mt me ρ0 S0).bind fun ds S1 => if fz = true then .ok (.lst ds) S1 else .ok (.loc S1.length) (S1 ++ [.lst ds])) Q) :
    tLc (tI X mi) (fun v σ H Q => ∃ d ρ ρ' G, (∀ a o, G.F a = some o → H a = some o) ∧ Re K G ρ σ ∧ Rp K G d v ∧ setT T d ρ = some ρ' ∧ ∀ σ', Re K G ρ' σ' → (∀ vs, (∀ i ∈ T.slots, i ∈ vs) → wipe σ' vs = wipe σ vs) → Q σ' H) (tTn K mt) (tEn K me) T.slots σ0 H0 Q := by
  classical
  subst hK
  have h' : sat X (Rp X.K) G0 H0 ((mi ρ0 S0).bind fun p S1 => (if p.1.length ≤ 1000 then lcL T mt me p.2 p.1 (wipeD ρ0 T.slots) p.1 S1 else .no).bind fun ds S1 => if fz = true then .ok (.lst ds) S1 else .ok (.loc S1.length) (S1 ++ [.lst ds])) Q := by
    have e : ∀ (o : Out (List D × Option Nat)) (f : List D × Option Nat → Sto → Out (List D)) (g : List D → Sto → Out D), (o.bind f).bind g = o.bind fun p S => (f p S).bind g := fun o f g => by cases o <;> rfl
    have h2 := h
    unfold lcO at h2
    rw [e] at h2
    exact h2
  refine ⟨ρ0, S0, G0, sm0, re0, (sat.bind (R := fun G' a (J : It) => WalkD X.K G' a.1 a.2 J) h').imp fun J H1 w => ?_⟩
  obtain ⟨⟨xs, o⟩, S1, G1, st1, sm1, wd, q1⟩ := w
  intro p hp
  have q1' : sat X (Rp X.K) G1 H1 ((if xs.length ≤ 1000 then lcL T mt me o xs (wipeD ρ0 T.slots) xs S1 else .no).bind fun ds S1 => if fz = true then .ok (.lst ds) S1 else .ok (.loc S1.length) (S1 ++ [.lst ds])) Q := q1
  by_cases hlen : xs.length ≤ 1000
  · rw [if_pos hlen] at q1'
    have re1 := (re0.mono st1.le).wipe T.slots
    refine ⟨fun i m H => m = xs.length - i ∧ i ≤ xs.length ∧ ∃ S G' acc vs, Stp G1 H1 G' H ∧ Sm X.K G' S H ∧ H p = some (.lst vs) ∧ G'.F p = none ∧ (∀ n, G'.f n ≠ some p) ∧ Rps X.K G' acc vs ∧ acc.length ≤ i ∧
      sat X (Rp X.K) G1 H1 ((match lcL T mt me o xs (wipeD ρ0 T.slots) (xs.drop i) S with | .ok ds S3 => .ok (acc ++ ds) S3 | _ => .no : Out (List D)).bind fun ds S1 => if fz = true then .ok (.lst ds) S1 else .ok (.loc S1.length) (S1 ++ [.lst ds])) Q,
      ⟨xs.length, rfl, Nat.zero_le _, S1, G1, [], [], Stp.refl.at hp, sm1.other (sm1.free hp) (fun n e => by obtain ⟨u, hu, _⟩ := sm1.dn n p e; rw [hp] at hu; cases hu) (fun u hu => by rw [hp] at hu; cases hu), upd_same, sm1.free hp, (fun n e => by obtain ⟨u, hu, _⟩ := sm1.dn n p e; rw [hp] at hu; cases hu), .nil, Nat.le_refl _, ?_⟩, ?_⟩
    · rw [List.drop_zero]
      match hl : lcL T mt me o xs (wipeD ρ0 T.slots) xs S1, q1' with
      | .ok ds S3, q => exact q
      | .ex _ _ _, q =>
        exfalso
        have never : ∀ (ys : List D) (S : Sto) c fs S', lcL T mt me o xs (wipeD ρ0 T.slots) ys S ≠ .ex c fs S' := by
          intro ys
          induction ys with
          | nil => intro S c fs S'; unfold lcL; split <;> simp
          | cons y ys ih =>
            intro S c fs S'
            unfold lcL
            split
            · split
              · split
                · split
                  · split <;> simp
                  · simp
                · exact ih _ _ _ _
                · simp
              · simp
            · simp
        exact never _ _ _ _ _ hl
      | .no, q => exact q.elim
    rintro i m H ⟨rfl, hi, S, G', acc, vs, st, sm, hH, hF, hn, ra, hacc, q⟩
    by_cases hlt : i < xs.length
    · obtain ⟨x, hx⟩ : ∃ x, xs[i]? = some x := ⟨_, List.getElem?_eq_getElem hlt⟩
      rw [drop_cons hx] at q
      unfold lcL at q
      split at q
      rotate_left
      · exact q.elim
      rename_i ds' S3' hl
      split at hl
      · rename_i gd
        refine .inr ⟨wd.goes i G' S H st.le sm gd hlt, fun H' => ∃ S G' acc vs, Stp G1 H1 G' H' ∧ Sm X.K G' S H' ∧ H' p = some (.lst vs) ∧ G'.F p = none ∧ (∀ n, G'.f n ≠ some p) ∧ Rps X.K G' acc vs ∧ acc.length ≤ i + 1 ∧
          sat X (Rp X.K) G1 H1 ((match lcL T mt me o xs (wipeD ρ0 T.slots) (xs.drop (i + 1)) S with | .ok ds S3 => .ok (acc ++ ds) S3 | _ => .no : Out (List D)).bind fun ds S1 => if fz = true then .ok (.lst ds) S1 else .ok (.loc S1.length) (S1 ++ [.lst ds])) Q, fun H' z => ⟨xs.length - (i + 1), by omega, rfl, hlt, z⟩, fun v H' y => ?_⟩
        obtain ⟨G2, st2, sm2, rv⟩ := wd.yields i G' S H v H' x st.le sm gd hx y
        split at hl
        · rename_i ρ1 hset
          refine ⟨x, wipeD ρ0 T.slots, ρ1, G2, sm2.fr, (re1.mono st.le).mono st2.le, rv, hset, fun σ2 re2 hw => ⟨?_, ?_⟩⟩
          · rw [hw T.slots fun _ z => z]
            have idem : ∀ (us vs : List Nat), (∀ i ∈ us, i ∈ vs) → wipe (wipe σ0 us) vs = wipe σ0 vs := by
              intro us
              induction us with
              | nil => intro vs _; rfl
              | cons u us ih =>
                intro vs hv
                show wipe ((wipe σ0 us).set u none) vs = _
                rw [wipe_set (hv u List.mem_cons_self)]
                exact ih vs fun k hk => hv k (List.mem_cons_of_mem _ hk)
            exact idem _ _ fun _ z => z
          · refine ⟨ρ1, S, G2, sm2, re2, ?_⟩
            have hp2 : H' p = some (.lst vs) := st2.frm p _ hH (fun _ z => by cases z) hn
            have keep : ∀ {G3 : Gh} {H3 : Hp}, Stp G2 H' G3 H3 → H3 p = some (.lst vs) ∧ G3.F p = none ∧ ∀ n, G3.f n ≠ some p := fun {G3 H3} s3 => by
              have s := st2.trans s3
              refine ⟨s.frm p _ hH (fun _ z => by cases z) hn, ?_, fun n e => ?_⟩
              · cases e : G3.F p with
                | none => rfl
                | some u =>
                  rcases s.fro p u e with z | z | ⟨n, z⟩
                  · rw [hF] at z; cases z
                  · exact (fr0_not z hH (fun _ z => by cases z)).elim
                  · exact absurd z (hn n)
              · rcases s.new n p e with z | z
                · exact hn n z
                · exact fr0_not z hH (fun _ z => by cases z)
            split at hl
            · rename_i S4 ht
              rw [ht]
              intro G3 H3 b s3 sm3 eb
              subst eb
              refine ⟨ρ1, S4, G3, sm3, re2.mono s3.le, ?_⟩
              split at hl
              · rename_i d S5 he
                rw [he]
                intro G4 H4 w s4 sm4 rw4
                obtain ⟨k1, k2, k3⟩ := keep (s3.trans s4)
                refine ⟨vs, k1, ?_, S5, G4, acc ++ [d], vs ++ [w], ((st.trans st2).trans (s3.trans s4)).at hp, sm4.other k2 k3 (fun u hu => by rw [k1] at hu; cases hu; exact ⟨(fun _ z => by cases z), (fun _ z => by cases z)⟩), upd_same, k2, k3, ?_, ?_, ?_⟩
                · rw [ra.length, sizeLine_eq]; omega
                · exact (((ra.mono st2.le).mono s3.le).mono s4.le).append (.cons rw4 .nil)
                · simp; omega
                · split at hl
                  · rename_i ds2 S6 hl2
                    cases hl
                    have e2 : acc ++ [d] ++ ds2 = acc ++ d :: ds2 := by simp
                    simp only [e2]
                    exact q
                  · cases hl
              · cases hl
            · rename_i S4 ht
              rw [ht]
              intro G3 H3 b s3 sm3 eb
              subst eb
              obtain ⟨k1, k2, k3⟩ := keep s3
              refine ⟨S4, G3, acc, vs, (st.trans st2).trans s3, sm3, k1, k2, k3, (ra.mono st2.le).mono s3.le, by omega, ?_⟩
              rw [hl]
              exact q
            · cases hl
        · cases hl
      · cases hl
    · have e : i = xs.length := by omega
      subst e
      rw [List.drop_length] at q
      unfold lcL at q
      by_cases gd : Gd o xs S
      · rw [if_pos gd] at q
        refine .inl ⟨wd.stops G' S H st.le sm gd, ?_⟩
        have q2 : sat X (Rp X.K) G1 H1 (if fz = true then .ok (.lst (acc ++ [])) S else .ok (.loc S.length) (S ++ [.lst (acc ++ [])])) Q := q
        rw [List.append_nil] at q2
        cases fz with
        | true =>
          have q3 : sat X (Rp X.K) G1 H1 (.ok (.lst acc) S) Q := q2
          exact q3 (G'.put p (.lst vs)) H _ (st.add hp hF) (sm.tell hH hn) (.lst upd_same (ra.mono (Gh.put_le hF)))
        | false =>
          have q3 : sat X (Rp X.K) G1 H1 (.ok (.loc S.length) (S ++ [.lst acc])) Q := q2
          have hnl : G'.le (G'.new S.length p) := sm.new_le
          refine q3 (G'.new S.length p) H _ ⟨st.le.trans hnl, st.dom, st.frm, fun n a h => ?_, st.fro⟩ ?_ (.loc Gh.new_at)
          · have h' : (if n = S.length then some p else G'.f n) = some a := h
            by_cases z : n = S.length
            · rw [if_pos z] at h'
              cases h'
              exact .inr (fr0_none hp)
            · rw [if_neg z] at h'
              exact st.new n a h'
          · exact sm.adopt hH hF hn ⟨vs, hH, ra.mono hnl⟩
      · rw [if_neg gd] at q
        exact q.elim
  · rw [if_neg hlen] at q1'
    exact q1'.elim
end PV
set_option Elab.async false
set_option linter.all false
set_option maxRecDepth 100000
set_option maxHeartbeats 4000000
namespace PV
open PySem PySem.Spec PyProof.Rows L2 ZL
section
variable {X : Cx} {elt tg iter : Expr} {ifs : List Expr} {scope : Scope} {own : List (Str × Nat)} {pos : Pos} {mi : MI} {T : Tg} {mt : MT} {me : ME}
theorem qe_lc (T : Tg) (hown : own.map (·.2) = T.slots) (hc : X.calm = true) (hN : X.N.Nodup) (hi : QI X tg iter mi) (ok : BlkOk X.N X.env.scope scope own)
    (hg : ∀ (s : Shared) (H : Hp) (C : Addr) (cl : List (Str × Addr)) (fp : List Addr), QG (X.blk s H scope (compEnvC scope cl C X.env) fp) tg T)
    (ht : ∀ (s : Shared) (H : Hp) (C : Addr) (cl : List (Str × Addr)) (fp : List Addr), PTs (X.blk s H scope (compEnvC scope cl C X.env) fp) ifs (tTn X.K mt))
    (he : ∀ (s : Shared) (H : Hp) (C : Addr) (cl : List (Str × Addr)) (fp : List Addr), QE (X.blk s H scope (compEnvC scope cl C X.env) fp) elt me) (hs : ∀ x, foldedSetIterable iter X.env x = pure x := by intro _; rfl) :
    QE X (.ListComp elt [⟨tg, iter, ifs, 0⟩] scope pos) (lcE T mi mt me) :=
  qe_of (pe_lc hc hN hi ok hg ht (fun s H C cl fp => (he s H C cl fp).n) hs) fun ρ S G σ H Q sm re h => by
    rw [hown]
    exact lc_rd (fz := true) rfl sm re h
theorem qs_setLc (i : Nat) {y : Str} {py spos : Pos} (T : Tg) (hown : own.map (·.2) = T.slots) (hc : X.calm = true) (hN : X.N.Nodup) (hi : QI X tg iter mi) (ok : BlkOk X.N X.env.scope scope own)
    (hg : ∀ (s : Shared) (H : Hp) (C : Addr) (cl : List (Str × Addr)) (fp : List Addr), QG (X.blk s H scope (compEnvC scope cl C X.env) fp) tg T)
    (ht : ∀ (s : Shared) (H : Hp) (C : Addr) (cl : List (Str × Addr)) (fp : List Addr), PTs (X.blk s H scope (compEnvC scope cl C X.env) fp) ifs (tTn X.K mt))
    (he : ∀ (s : Shared) (H : Hp) (C : Addr) (cl : List (Str × Addr)) (fp : List Addr), QE (X.blk s H scope (compEnvC scope cl C X.env) fp) elt me)
    (hy : X.N[i]? = some y := by rfl) (hyl : X.env.scope.names.lookup y = some .local := by rfl)
    (hsw : swapsWith (.ListComp elt [⟨tg, iter, ifs, 0⟩] scope pos) (some (.Name y py)) spos.line X.env = pure true := by rfl) (hs : ∀ x, foldedSetIterable iter X.env x = pure x := by intro _; rfl) :
    QS X (.Assign [.Name y py] (.ListComp elt [⟨tg, iter, ifs, 0⟩] scope pos) spos) (sSet i (lcE T mi mt me)) :=
  qs_of (ps_setLc (te := tEn X.K me) hc hN hy hyl hsw hi ok hg ht (fun s H C cl fp => (he s H C cl fp).n) hs) fun ρ S G σ H D sm re h => by
    rw [hown]
    refine lc_rd (fz := true) rfl sm re ?_
    have z := satS.bind (R := Rp X.K) h
    exact z.imp fun x H1 w => by
      obtain ⟨d, S1, G1, le1, sm1, r1, q1⟩ := w
      exact q1 G1 H1 _ .refl sm1 ((re.mono le1.le).set i r1)
theorem qts_one {c : Expr} {t : MT} (h : QT X c t) : PTs X [c] (tTn X.K t) := pts_one h.n
end
def sAsg (T : Tg) (m : ME) : MS := fun ρ S => (m ρ S).bind fun d S1 => match setT T d ρ with
  | some ρ' => .ok (.nx ρ') S1
  | none => .no
def sPar (i j : Nat) (ms : MA) : MS := fun ρ S => (ms ρ S).bind fun ds S1 => match ds with
  | [d, e] => .ok (.nx ((ρ.set i (some d)).set j (some e))) S1
  | _ => .no
section
variable {X : Cx} {e tg : Expr} {m : ME} {pos : Pos}
theorem qs_par (i j : Nat) {x y : Str} {a b : Expr} {ms : MA} {px py pt : Pos} {kt k2 pt2} (hc : X.calm = true) (ha : QA X [a, b] ms) (hN : X.N.Nodup) (hi : X.N[i]? = some x := by rfl) (hj : X.N[j]? = some y := by rfl) (hij : i ≠ j := by decide)
    (hx : X.env.scope.names.lookup x = some .local := by rfl) (hy : X.env.scope.names.lookup y = some .local := by rfl)
    (hw : swappedStores [.Tuple [.Name x px, .Name y py] kt pt] (.Tuple [a, b] k2 pt2) X.env = pure (some [x, y]) := by rfl)
    (hs : swapsWithSole [.Tuple [.Name x px, .Name y py] kt pt] (.Tuple [a, b] k2 pt2) pos.line X.env = pure false := by rfl) :
    QS X (.Assign [.Tuple [.Name x px, .Name y py] kt pt] (.Tuple [a, b] k2 pt2) pos) (sPar i j ms) := qs_of (ps_par hc hN hi hj hij hx hy ha hw hs) fun ρ S G σ H D sm re z => by
  refine ⟨ρ, S, G, sm, re, (satS.bind z).imp fun vs H1 w => ?_⟩
  obtain ⟨ds, S1, G1, le1, sm1, r1, q1⟩ := w
  match ds, r1, q1 with
  | [d, e], r1, q1 =>
    obtain ⟨v, w, rfl, rv, rw'⟩ := vals2' r1
    exact ⟨v, w, rfl, q1 G1 H1 _ .refl sm1 (((re.mono le1.le).set i rv).set j rw')⟩
  | [], _, q1 => exact q1.elim
  | [_], _, q1 => exact q1.elim
  | _ :: _ :: _ :: _, _, q1 => exact q1.elim
end
section
variable {X : Cx} {o e : Expr} {es : List Expr} {mo : ME} {ms : MA} {apos cpos : Pos}
def isLoc (S : Sto) : D → Bool
  | .loc n => match S[n]? with
    | some (.lst _) => true
    | _ => false
  | _ => false
def mthL (g : D → List D → Sto → Out D) (o : ME) (ms : MA) : ME := fun ρ S => (o ρ S).bind fun x S1 => if isLoc S1 x = true then (ms ρ S1).bind fun ds S2 => g x ds S2 else .no
end
def isStr : D → Bool
  | .str _ => true
  | _ => false
def mthS (g : D → D → Sto → Out D) (o m : ME) : ME := fun ρ S => (o ρ S).bind fun x S1 => if isStr x = true then (m ρ S1).bind fun y S2 => g x y S2 else .no
theorem Rps.ints {K : PySem.W.Frag} {G : Gh} : ∀ ys : List Int, Rps K G (ys.map .int) (ys.map V.int)
  | [] => .nil
  | y :: ys => .cons (.int y) (Rps.ints ys)
section
variable {X : Cx} {o e : Expr} {mo m : ME} {apos pos : Pos}
end
def sAug (i : Nat) (g : G2) (m : ME) : MS := fun ρ S => match ρ[i]? with
  | some (some x) => (m ρ S).bind fun y S1 => (g x y S1).bind fun z S2 => .ok (.nx (ρ.set i (some z))) S2
  | _ => .no
section
variable {X : Cx} {e : Expr} {m : ME} {pos : Pos}
def addI : G2 := fun x y S => match x, y with
  | .int i, .int j => .ok (.int (i + j)) S
  | _, _ => .no
end
end PV
set_option Elab.async false
set_option linter.all false
set_option maxRecDepth 100000
set_option maxHeartbeats 4000000
namespace PV
open PySem PySem.Spec PyProof.Rows L2 ZL
abbrev gaS (K : PySem.W.Frag) (c : String) : Addr := He.ga K (Str.ofString c)
theorem spO.mono {K : PySem.W.Frag} {G G1 : Gh} {H H1 : Hp} {o : Out D} {Q : VK} {E : XK} (h : spO K G H o Q E) (st : Stp G H G1 H1) : spO K G1 H1 o Q E := by
  match o, h with
  | .ok _ _, h => exact fun G' H' v s => h G' H' v (st.trans s)
  | .ex _ _ _, h => exact fun cls dd H' w => h cls dd H' (w.anti st)
  | .no, h => exact h
theorem spO.imp {K : PySem.W.Frag} {G : Gh} {H : Hp} {o : Out D} {Q Q' : VK} {E : XK} (h : spO K G H o Q E) (i : ∀ v H', Q v H' → Q' v H') : spO K G H o Q' E := by
  match o, h with
  | .ok _ _, h => exact fun G' H' v s m r => i _ _ (h G' H' v s m r)
  | .ex _ _ _, h => exact h
  | .no, h => exact h
section
variable {P : Program} {w : World} {K : PySem.W.Frag} {mg : Str → Option Value} {base : Heap} {x qual : Str} {st : Stmt} {kws : List (Str × V)} {f : Addr} {fd : FuncData} {N ps : List Str} {j : Nat} {b : MS}
end
section
variable {X : Cx} {c : String} {F : Fn}
end
section
variable {X : Cx} {c : String} {F : Fn} {j : Nat} {f : Addr} {e e2 : Expr} {es : List Expr} {ms : MA} {m : ME} {p pos sp_ : Pos}
def itemsF (g : Fn) (m : ME) : ME := fun ρ S => (m ρ S).bind fun d S1 => match d with
  | .lst xs => g xs S1
  | .tup xs => g xs S1
  | .loc n => match S1[n]? with
    | some (.lst xs) => g xs S1
    | _ => .no
  | _ => .no
end
def cmE (c : String) (F : Fn) (o : ME) (ms : MA) : ME := fun ρ S => (o ρ S).bind fun x S1 => if isCl c x = true then (ms ρ S1).bind fun ds S2 => F (x :: ds) S2 else .no
section
variable {X : Cx} {c : String} {F : Fn} {j : Nat} {o e : Expr} {es : List Expr} {mo : ME} {ms : MA} {apos pos : Pos} {m : Str} {p g : Addr} {mc : Value} {pl : Sem Bool}
def mtO (τ : List (String × Fn)) (n : String) (o : ME) (ms : MA) : ME := fun ρ S => (o ρ S).bind fun x S1 => match insOf S1 x with
  | some (c, fs) => match τ.lookup c with
    | some F => match fs.lookup n with
      | none => (ms ρ S1).bind fun ds S2 => F (x :: ds) S2
      | some _ => .no
    | none => .no
  | none => .no
end
end PV
set_option Elab.async false
set_option linter.all false
set_option maxRecDepth 100000
set_option maxHeartbeats 4000000
namespace PV
open PySem PySem.Spec PyProof.Rows L2 ZL
def aStar (m : ME) (ms : MA) : MA := fun ρ S => (m ρ S).bind fun d S1 => match d with
  | .lst xs => (ms ρ S1).bind fun ds S2 => .ok (xs ++ ds) S2
  | .tup xs => (ms ρ S1).bind fun ds S2 => .ok (xs ++ ds) S2
  | .loc n => match S1[n]? with
    | some (.lst xs) => (ms ρ S1).bind fun ds S2 => .ok (xs ++ ds) S2
    | _ => .no
  | _ => .no
section
variable {X : Cx} {e : Expr} {es : List Expr} {m : ME} {ms : MA} {p pos : Pos}
def dicE : ME := fun _ S => .ok .dic0 S
theorem qe_dic0 : QE X (.Dict [] [] pos) dicE := qe_of pe_dnewK fun ρ S G σ H Q sm re z => fun d hd => z _ _ _ (Stp.put sm hd) (sm.put hd) (.dic0 upd_same)
end
def onlyB (o : Out D) : Out D := o.bind fun d S => match d with
  | .bl b => .ok (.bl b) S
  | _ => .no
def notB (o : Out D) : Out D := o.bind fun d S => match d with
  | .bl b => .ok (.bl (!b)) S
  | _ => .no
def reprOk (p : PyData) : Bool := p.showable && !p.hasDict && decide (p.depth ≤ 60) && decide (p.shown.length ≤ sizeLine)
def reprB : Fn := fun ds S => match ds with
  | [.lst xs] => match toP (.lst xs) with
    | some p => if reprOk p = true then .ok (.str p.shown) S else .no
    | none => .no
  | [.tup xs] => match toP (.tup xs) with
    | some p => if reprOk p = true then .ok (.str p.shown) S else .no
    | none => .no
  | [.loc n] => match S[n]? with
    | some (.lst xs) => match toP (.lst xs) with
      | some p => if reprOk p = true then .ok (.str p.shown) S else .no
      | none => .no
    | _ => .no
  | _ => .no
theorem cf_repr {X : Cx} (hg : X.A.guards = some []) (hu : X.A.units + 64 < cLine) : CallF X (.builtin "repr") reprB := fun pins s σ H vs us Q I rv ⟨ds, S, G, sm, r, h⟩ => by
  have go : ∀ {a : Addr} {p : PyData}, Dp X.K H (.ref a) p → sat X (Rp X.K) G H (if reprOk p = true then .ok (.str p.shown) S else .no) Q → vs = [.ref a] → wpAny (model X.prog X.w) X.A (call (.builtin "repr") us) (EP X pins σ Q) X.xe s := fun {a p} dp h ev => by
    subst ev
    by_cases c : reprOk p = true
    · rw [if_pos c] at h
      unfold reprOk at c
      simp only [Bool.and_eq_true, decide_eq_true_eq, Bool.not_eq_true'] at c
      exact call_reprD hg hu pins s σ H _ us Q I rv ⟨a, p, rfl, dp, c.1.1.1, c.1.1.2, c.1.2, c.2, h G H _ .refl sm (.str _)⟩
    · rw [if_neg c] at h
      exact h.elim
  unfold reprB at h
  split at h
  · split at h
    · rename_i p hp
      obtain ⟨v, rfl, q⟩ := vals1 r
      have dp := Rp.dp sm.fr _ _ _ q hp
      cases q with
      | lst a b => exact go dp h rfl
    · exact h.elim
  · split at h
    · rename_i p hp
      obtain ⟨v, rfl, q⟩ := vals1 r
      have dp := Rp.dp sm.fr _ _ _ q hp
      cases q with
      | tup a b => exact go dp h rfl
    · exact h.elim
  · split at h
    · rename_i xs hl
      split at h
      · rename_i p hp
        obtain ⟨v, rfl, q⟩ := vals1 r
        obtain ⟨a, ws, rfl, hf, ha, rr⟩ := sm.list hl q
        unfold toP at hp
        match hq : toPs xs, hp with
        | some ps, hp => cases hp; exact go (.lst (SqL.of ha) (Rps.dp sm.fr xs _ ps rr hq)) h rfl
        | none, hp => cases hp
      · exact h.elim
    · exact h.elim
  · exact h.elim
def isiA (Ts : List String) (cs : List String) (m : ME) : ME := fun ρ S => (m ρ S).bind fun x S1 => match tyD S1 x with
  | some (.b n) => .ok (.bl (Ts.any fun T => subT n T)) S1
  | some (.c n) => if cs.contains n = true then .ok (.bl false) S1 else .no
  | none => .no
section
variable {X : Cx} {e : Expr} {m : ME} {p p1 p2 p3 pos : Pos} {x1}
end
end PV
set_option Elab.async false
set_option linter.all false
set_option maxRecDepth 100000
set_option maxHeartbeats 4000000
namespace PV
open PySem PySem.Spec PyProof.Rows L2 ZL
section
variable {X : Cx} {a b c d : Expr} {ma mb mc md : ME} {g g' g'' : G2} {pos : Pos}
end
section
variable {X : Cx} {pins : List (Addr × Obj)} {σ : L2.St} {H : Hp} {s : Shared}
end
def reprI (g : Fn) : Fn := fun ds S => match ds with
  | [.int i] => if i.natAbs.log2 < 1920 then .ok (.str (strOf i)) S else .no
  | ds => g ds S
theorem cf_reprI {X : Cx} {g : Fn} (hg : CallF X (.builtin "repr") g) : CallF X (.builtin "repr") (reprI g) := fun pins s σ H vs us Q I rv ⟨ds, S, G, sm, r, h⟩ => by
  unfold reprI at h
  split at h
  · split at h
    · rename_i c
      obtain ⟨v, rfl, q⟩ := vals1 r
      cases q
      exact SkE.call_repr_int pins s σ H _ us Q I rv ⟨_, rfl, c, h G H _ .refl sm (.str _)⟩
    · exact h.elim
  · exact hg pins s σ H vs us Q I rv ⟨_, S, G, sm, r, h⟩
theorem cval_of {K : PySem.W.Frag} {C : Addr} {f : Str} {i : Int} (h : (match PySem.W.findCls K (.ref C) (.type "type") f with | some (.val (.int j _)) => decide (j = i) | _ => false) = true) : ∃ u, ClX.CVal K C (.type "type") f (.int i) u := by
  split at h
  · rename_i j t e
    have := of_decide_eq_true h
    subst this
    exact ⟨_, e, ⟨_, rfl⟩⟩
  · cases h
theorem memLk {β : Type} {c : String} {b : β} : ∀ {l : List (String × β)}, l.lookup c = some b → (c, b) ∈ l
  | [], h => by cases h
  | (k, v) :: l, h => by
    by_cases e : c = k
    · subst e
      simp at h
      subst h
      exact List.mem_cons_self
    · have e' : (c == k) = false := by simpa using e
      rw [List.lookup_cons, e'] at h
      exact List.mem_cons_of_mem _ (memLk h)
end PV
set_option Elab.async false
set_option linter.all false
set_option maxRecDepth 100000
set_option maxHeartbeats 4000000
namespace PV
open PySem PySem.Spec PyProof.Rows L2 ZL
def whL (t : MT) (b : MS) : Nat → Ev → Sto → Out Fl
  | 0, _, _ => .no
  | n + 1, ρ, S => (t ρ S).bind fun c S1 => if c = true then (b ρ S1).bind fun f S2 => match f with
      | .nx ρ' => whL t b n ρ' S2
      | .ct ρ' => whL t b n ρ' S2
      | .bk ρ' => .ok (.nx ρ') S2
      | .rt d => .ok (.rt d) S2
    else .ok (.nx ρ) S1
theorem whL_up {t : MT} {b : MS} : ∀ {n m : Nat} {ρ : Ev} {S : Sto}, n ≤ m → whL t b n ρ S ≠ .no → whL t b m ρ S = whL t b n ρ S
  | 0, _, _, _, _, h => absurd rfl h
  | n + 1, 0, _, _, h, _ => absurd h (by omega)
  | n + 1, m + 1, ρ, S, hm, h => by
    unfold whL at h ⊢
    match et : t ρ S, h with
    | .ok false S1, _ => rfl
    | .ex _ _ _, _ => rfl
    | .no, _ => rfl
    | .ok true S1, h =>
      have h : (b ρ S1).bind (fun f S2 => match f with
        | .nx ρ' => whL t b n ρ' S2
        | .ct ρ' => whL t b n ρ' S2
        | .bk ρ' => .ok (.nx ρ') S2
        | .rt d => .ok (.rt d) S2) ≠ .no := h
      show (b ρ S1).bind (fun f S2 => match f with
        | .nx ρ' => whL t b m ρ' S2
        | .ct ρ' => whL t b m ρ' S2
        | .bk ρ' => .ok (.nx ρ') S2
        | .rt d => .ok (.rt d) S2) = (b ρ S1).bind (fun f S2 => match f with
        | .nx ρ' => whL t b n ρ' S2
        | .ct ρ' => whL t b n ρ' S2
        | .bk ρ' => .ok (.nx ρ') S2
        | .rt d => .ok (.rt d) S2)
      match eb : b ρ S1, h with
      | .ok (.nx ρ') S2, h => exact whL_up (by omega) h
      | .ok (.ct ρ') S2, h => exact whL_up (by omega) h
      | .ok (.bk ρ') S2, _ => rfl
      | .ok (.rt d) S2, _ => rfl
      | .ex _ _ _, _ => rfl
      | .no, _ => rfl
open Classical in
noncomputable def sWhl (t : MT) (b : MS) : MS := fun ρ S => if h : ∃ n, whL t b n ρ S ≠ .no then whL t b h.choose ρ S else .no
theorem whl_ok {t : MT} {b : MS} {n : Nat} {ρ : Ev} {S : Sto} {o : Out Fl} (h : whL t b n ρ S = o) (ho : o ≠ .no) : sWhl t b ρ S = o := by
  have hx : ∃ n, whL t b n ρ S ≠ .no := ⟨n, by rw [h]; exact ho⟩
  unfold sWhl
  rw [dif_pos hx]
  have h1 := hx.choose_spec
  rcases Nat.le_total n hx.choose with c | c
  · rw [whL_up c (by rw [h]; exact ho), h]
  · rw [← whL_up c h1, h]
theorem qs_whl {X : Cx} {c : Expr} {body : List Stmt} {mt : MT} {mb : MS} {pos : Pos} (hp : PassesOwn (model X.prog X.w) X.A X.env X.xe) (hc : QT X c mt) (hb : QSs X body mb) : QS X (.While c body [] pos) (sWhl mt mb) := qs_of (ps_while hp hc hb) fun ρ0 S0 G0 σ0 H0 D sm0 re0 h => by
  classical
  unfold sWhl at h
  split at h
  · rename_i hx
    refine ⟨fun m σ H => ∃ ρ S G, Sm X.K G S H ∧ Re X.K G ρ σ ∧ satS X G H (whL mt mb m ρ S) D, ⟨hx.choose, ρ0, S0, G0, sm0, re0, h⟩, ?_⟩
    rintro m σ H ⟨ρ, S, G, sm, re, q⟩
    match m, q with
    | 0, q => exact q.elim
    | m + 1, q =>
      unfold whL at q
      refine ⟨ρ, S, G, sm, re, (satS.bind (R := fun _ a b => a = b) q).imp fun b H1 w => ?_⟩
      obtain ⟨b', S1, G1, le1, sm1, rfl, q1⟩ := w
      cases b' with
      | false => exact q1 G1 H1 σ .refl sm1 (re.mono le1.le)
      | true =>
        refine ⟨fun σ' H' => ∃ ρ S G, Sm X.K G S H' ∧ Re X.K G ρ σ' ∧ satS X G H' (whL mt mb m ρ S) D, fun σ' H' z => ⟨m, by omega, z⟩, ρ, S1, G1, sm1, re.mono le1.le, ?_⟩
        have q2 : satS X G1 H1 ((mb ρ S1).bind fun f S2 => match f with
          | .nx ρ' => whL mt mb m ρ' S2
          | .ct ρ' => whL mt mb m ρ' S2
          | .bk ρ' => .ok (.nx ρ') S2
          | .rt d => .ok (.rt d) S2) D := q1
        match mb ρ S1, q2 with
        | .ok (.nx ρ') S', q2 => exact fun G3 H3 σ3 st3 sm3 re3 => ⟨ρ', S', G3, sm3, re3, q2.mono st3⟩
        | .ok (.ct ρ') S', q2 => exact fun G3 H3 σ3 st3 sm3 re3 => ⟨ρ', S', G3, sm3, re3, q2.mono st3⟩
        | .ok (.bk ρ') S', q2 => exact q2
        | .ok (.rt d) S', q2 => exact q2
        | .ex _ _ _, q2 => exact q2
        | .no, q2 => exact q2
  · exact h.elim
end PV
set_option Elab.async false
set_option linter.all false
set_option maxRecDepth 100000
set_option maxHeartbeats 1000000
namespace ZL
open PySem PySem.Spec PyProof.Rows L2 RZ
def AtSq : Bool → Heap → Addr → Array Value → Prop
  | true, g, a, m => g.IsTuple a m
  | false, g, a, m => g.IsList a m
def AtIt : Bool → Heap → Addr → Addr → Nat → Prop
  | true, g, c, a, k => g.IsTupleIter c a k
  | false, g, c, a, k => g.IsListIter c a k
theorem AtIt.has {t : Bool} {g : Heap} {c a : Addr} {k : Nat} (h : AtIt t g c a k) : ∃ o, g.get? c = some o ∧ ∀ v, o.data ≠ .cell v := by
  cases t with
  | true =>
    obtain ⟨o, e, _, d⟩ := h
    exact ⟨o, e, fun v z => by rw [d] at z; cases z⟩
  | false =>
    obtain ⟨o, e, _, d⟩ := h
    exact ⟨o, e, fun v z => by rw [d] at z; cases z⟩
theorem AtIt.move {t : Bool} {g g' : Heap} {c a : Addr} {k : Nat} (h : AtIt t g c a k) (e : ∀ o, g.get? c = some o → g'.get? c = some o) : AtIt t g' c a k := by
  cases t with
  | true => exact Heap.IsTupleIter.at h e
  | false => exact Heap.IsListIter.at h e
theorem AtSq.move {t : Bool} {g g' : Heap} {a : Addr} {m : Array Value} (h : AtSq t g a m) (e : ∀ o, g.get? a = some o → g'.get? a = some o) : AtSq t g' a m := by
  cases t with
  | true =>
    obtain ⟨o, h1, h2⟩ := id h
    exact ⟨o, e o h1, h2⟩
  | false => exact Heap.IsList.at h e
theorem AtSq.has {t : Bool} {g : Heap} {a : Addr} {m : Array Value} (h : AtSq t g a m) : ∃ o, g.get? a = some o := by
  cases t with
  | true => exact let ⟨o, e, _⟩ := id h; ⟨o, e⟩
  | false => exact let ⟨o, e, _⟩ := id h; ⟨o, e⟩
theorem draws_sq {P : Program} {w : World} {A : Around} (hh : A.handled = none) (t : Bool) (c a : Addr) (ne : a ≠ c) (m : Array Value) :
    Draws P w A c [c, a] m.size (fun i v => m[i]? = some v) (fun i g => AtIt t g c a i ∧ AtSq t g a m) := by
  cases t with
  | false => exact Draws.list hh c a ne m
  | true =>
    exact {
      live := fun _ _ st => let ⟨o, e, _⟩ := st.1.has; ⟨o, e⟩
      frame := fun _ _ _ st k => ⟨st.1.move fun o e => k c (by simp) o e, st.2.move fun o e => k a (by simp) o e⟩
      item := fun i s Q E hi st hQ => by
        refine nextOf_tuple_item (show s.heap.IsTupleIter c a i from st.1) (show s.heap.IsTuple a m from st.2) (x := m[i]) (by simp [hi]) fun g it sb => ?_
        exact hQ _ g s.toks (by simp [hi]) ⟨it, st.2.move fun o e => sb.extBut _ _ ne e⟩ sb
      done := fun s Q E st hE => nextOf_tuple_end hh (show s.heap.IsTupleIter c a _ from st.1) (show s.heap.IsTuple a m from st.2) (by simp) hE }
def SqA (K : PySem.W.Frag) : Bool → Hp → Addr → List V → Prop
  | true, H, a, xs => SqT K H a xs
  | false, H, a, xs => SqL K H a xs
theorem SqA.at {X : Cx} {pins : List (Addr × Obj)} {σ : L2.St} {H : Hp} {s : Shared} {t : Bool} {a : Addr} {xs : List V} (I : Inv X pins σ H s) (h : SqA X.K t H a xs) : ∃ its : List Value, Vals xs its ∧ AtSq t s.heap a its.toArray := by
  cases t with
  | true =>
    obtain ⟨its, rv, p, _⟩ := I.tuple (show SqT X.K H a xs from h)
    exact ⟨its, rv, p⟩
  | false =>
    obtain ⟨its, rv, p, _⟩ := I.list (show SqL X.K H a xs from h)
    exact ⟨its, rv, p.isList⟩
theorem SqA.one {X : Cx} {pins : List (Addr × Obj)} {σ : L2.St} {H : Hp} {s : Shared} {t : Bool} {a : Addr} {xs ys : List V} (I : Inv X pins σ H s) (h : SqA X.K t H a xs) (h' : SqA X.K t H a ys) : xs = ys := by
  cases t with
  | true => exact I.tuple_inj h h'
  | false => exact I.list_inj h h'
def ItzM (K : PySem.W.Frag) (t u : Bool) (a b : Addr) : It :=
  ⟨fun i H => ∃ (xs ys : List V) (x y : V), SqA K t H a xs ∧ SqA K u H b ys ∧ xs[i]? = some x ∧ ys[i]? = some y,
    fun i H v H' => ∃ T x y, v = .ref T ∧ H T = none ∧ H' = upd H T (.tup [x, y]) ∧ (∀ xs, SqA K t H a xs → xs[i]? = some x) ∧ ∀ ys, SqA K u H b ys → ys[i]? = some y,
    fun i H => ∃ xs ys : List V, SqA K t H a xs ∧ SqA K u H b ys ∧ i ≤ xs.length ∧ i ≤ ys.length ∧ (xs.length = i ∨ ys.length = i)⟩
theorem turn_zipM {P : Program} {w : World} {K : PySem.W.Frag} {elts : List Expr} {kk : Nat} {tpos : Pos} {t u : Bool} {a b z TI TO i1 i2 : Addr} (D : ZipApart z TI TO i1 i2 a b) :
    Turn P w K (.Tuple elts kk tpos) (ItzM K t u a b) [z, TI, TO, i1, i2] z (fun i g => IsZip g z TI TO .none ∧ IsPair g TI (.ref i1) (.ref i2) ∧ (∃ x y, IsPair g TO x y) ∧ AtIt t g i1 a i ∧ AtIt u g i2 b i) where
  mem := by simp
  obj := fun i g st c hc => by
    obtain ⟨hz, hTI, ⟨x, y, hTO⟩, m1, m2⟩ := st
    simp only [List.mem_cons, List.not_mem_nil, or_false] at hc
    rcases hc with q | q | q | q | q
    · subst q; exact ⟨_, hz, fun v q => nomatch q⟩
    · subst q; exact ⟨_, hTI, fun v q => nomatch q⟩
    · subst q; exact ⟨_, hTO, fun v q => nomatch q⟩
    · subst q; exact m1.has
    · subst q; exact m2.has
  keep := fun i g g' st k => by
    obtain ⟨hz, hTI, ⟨x, y, hTO⟩, m1, m2⟩ := st
    exact ⟨k z (by simp) _ hz, k TI (by simp) _ hTI, ⟨x, y, k TO (by simp) _ hTO⟩, m1.move fun o q => k i1 (by simp) o q, m2.move fun o q => k i2 (by simp) o q⟩
  item := by
    intro X hP hw hK hc i pins s σ H E I hf st hg
    subst hP hw hK
    obtain ⟨hz, hTI, ⟨x0, y0, hTO⟩, m1, m2⟩ := st
    obtain ⟨xs, ys, x, y, hqx, hqy, hx, hy⟩ := hg
    obtain ⟨its, rv, p⟩ := SqA.at I hqx
    obtain ⟨its2, rv2, p2⟩ := SqA.at I hqy
    obtain ⟨v, hv, ru⟩ := rv.get hx
    obtain ⟨v2, hv2, ru2⟩ := rv2.get hy
    have hzl : z < s.heap.objs.size := Heap.lt_size hz
    have hd : X.A.in1.handled = none := I.ok.hd hc
    refine wpAny_pyNext_zipD2_item (S := ⟨D.TIz, D.TOz, D.TITO, D.TIi1, by simp, by simp [D.i1z.symm, D.l1z.symm], by simp [D.TOi1, D.l1TO.symm], D.TIi2, by simp, by simp [D.i2z.symm, D.l2z.symm], by simp [D.TOi2, D.l2TO.symm], by simp [D.i12, D.l2i1.symm], by simp [D.i12.symm, D.l1i2.symm]⟩)
      (D1 := draws_sq hd t i1 a D.l1i1 its.toArray) (D2 := draws_sq hd u i2 b D.l2i2 its2.toArray) (i := i) hz hTI hTO ⟨m1, p⟩ ⟨m2, p2⟩ (by simpa using (List.getElem?_eq_some_iff.mp hv).1) (by simpa using (List.getElem?_eq_some_iff.mp hv2).1)
      fun w1 w2 h' tk e1 e2 z' TO' n1 n2 hT hsz hk => ?_
    have ew : w1 = v := by simpa [hv] using e1.symm
    have ew2 : w2 = v2 := by simpa [hv2] using e2.symm
    subst ew ew2
    refine ⟨_, rfl, wpAny_letOwnedTupleGo_zip (s := { s with heap := h', toks := tk }) z' fun h'' z'' sb => ?_⟩
    have hT2 : h''.get? s.heap.objs.size = some { cls := .type "tuple", data := .seq #[w1, w2] } := (sb.2 _ (Nat.ne_of_gt hzl)).trans hT
    have new : ObjOk X.prog X.w (upd H s.heap.objs.size (.tup [x, y])) h'' s.heap.objs.size (.tup [x, y]) :=
      ⟨by show 2 ≤ sizeLine; decide, [w1, w2], .cons ru (.cons ru2 .nil), ⟨_, hT2, rfl, _, rfl⟩⟩
    have I1 : Inv X pins σ (upd H s.heap.objs.size (.tup [x, y])) { s with heap := h'', toks := tk } :=
      I.turnedNew (t' := tk) (ch := [z, TI, TO, i1, i2]) (fun c o hb q => by
        have nz : c ≠ z ∧ c ≠ TI ∧ c ≠ TO ∧ c ≠ i1 ∧ c ≠ i2 := by simpa [List.mem_cons] using hb
        exact (sb.2 c nz.1).trans (hk c o nz.1 nz.2.2.1 nz.2.2.2.1 nz.2.2.2.2 q)) hf (Nat.le_refl _) new
    refine ⟨.ref s.heap.objs.size, _, I1, rfl, ⟨_, x, y, rfl, I.hok.fresh (Nat.le_refl _), rfl, fun l hl => by rw [SqA.one I hl hqx]; exact hx, fun l hl => by rw [SqA.one I hl hqy]; exact hy⟩, ⟨z'', ?_, ⟨w1, w2, ?_⟩, ?_, ?_⟩, fun c hcm => ?_⟩
    · exact (sb.2 _ D.TIz).trans (hk _ _ D.TIz D.TITO D.TIi1 D.TIi2 hTI)
    · exact (sb.2 _ D.TOz).trans TO'
    · exact n1.1.move fun o q => (sb.2 _ D.i1z).trans q
    · exact n2.1.move fun o q => (sb.2 _ D.i2z).trans q
    · have hlt : c < s.heap.objs.size := by
        simp only [List.mem_cons, List.not_mem_nil, or_false] at hcm
        rcases hcm with q | q | q | q | q
        · rw [q]; exact hzl
        · rw [q]; exact Heap.lt_size hTI
        · rw [q]; exact Heap.lt_size hTO
        · rw [q]; exact let ⟨_, e, _⟩ := m1.has; Heap.lt_size e
        · rw [q]; exact let ⟨_, e, _⟩ := m2.has; Heap.lt_size e
      rw [upd_ne (Nat.ne_of_lt hlt)]
      exact (hf c hcm).1
  done := by
    intro X hP hw hK hc i pins s σ H E I hf st hg
    subst hP hw hK
    obtain ⟨hz, hTI, ⟨x0, y0, hTO⟩, m1, m2⟩ := st
    obtain ⟨xs, ys, hqx, hqy, le1, le2, hend⟩ := hg
    obtain ⟨its, rv, p⟩ := SqA.at I hqx
    obtain ⟨its2, rv2, p2⟩ := SqA.at I hqy
    have l1 := rv.length
    have l2 := rv2.length
    have hd : X.A.in1.handled = none := I.ok.hd hc
    refine wpAny_pyNext_zipD2_end (S := ⟨D.TIz, D.TOz, D.TITO, D.TIi1, by simp, by simp [D.i1z.symm, D.l1z.symm], by simp [D.TOi1, D.l1TO.symm], D.TIi2, by simp, by simp [D.i2z.symm, D.l2z.symm], by simp [D.TOi2, D.l2TO.symm], by simp [D.i12, D.l2i1.symm], by simp [D.i12.symm, D.l1i2.symm]⟩)
      (D1 := draws_sq hd t i1 a D.l1i1 its.toArray) (D2 := draws_sq hd u i2 b D.l2i2 its2.toArray) (i := i) hz hTI hTO ⟨m1, p⟩ ⟨m2, p2⟩ (by simp; omega) (by simp; omega) (by simp; omega)
      fun h' tk hk => ⟨rfl, I.turnedL (t' := tk) (ch := [z, TI, TO, i1, i2]) (fun c o hb q => by
        have nz : c ≠ z ∧ c ≠ TI ∧ c ≠ TO ∧ c ≠ i1 ∧ c ≠ i2 := by simpa [List.mem_cons] using hb
        exact hk c o nz.1 nz.2.2.1 nz.2.2.2.1 nz.2.2.2.2 q) hf⟩
  self := fun A i s Q E st h => wpAny_pyIter_zip st.1 h
abbrev hpA (g : Heap) (c1 : String) (l1 : Addr) : Heap := g.push { cls := .type c1, data := .fields #[.ref l1, .int 0 0] }
abbrev hpB (g : Heap) (c1 c2 : String) (l1 l2 : Addr) : Heap := (hpA g c1 l1).push { cls := .type c2, data := .fields #[.ref l2, .int 0 0] }
abbrev hpC (g : Heap) (c1 c2 : String) (l1 l2 : Addr) : Heap := (hpB g c1 c2 l1 l2).push { cls := .type "tuple", data := .seq #[.ref g.objs.size, .ref (hpA g c1 l1).objs.size] }
abbrev hpD (g : Heap) (c1 c2 : String) (l1 l2 : Addr) : Heap := (hpC g c1 c2 l1 l2).push { cls := .type "tuple", data := .seq #[.none, .none] }
abbrev hpE (g : Heap) (c1 c2 : String) (l1 l2 : Addr) : Heap := (hpD g c1 c2 l1 l2).push { cls := .type "zip", data := .fields #[.none, .bool false, .bool false, .ref (hpB g c1 c2 l1 l2).objs.size, .ref (hpC g c1 c2 l1 l2).objs.size] }

theorem meets_tl (l1 l2 : Addr) (m n : Array Value) :
    Meets (Builtin.«zip.__new__» ⟨[.type "zip", .ref l1, .ref l2], []⟩) (fun _ R s => s.heap.IsTuple l1 m ∧ s.heap.IsList l2 n ∧
      R (.ok (.ret (.ref (hpD s.heap "tuple_iterator" "list_iterator" l1 l2).objs.size))) { s with heap := hpE s.heap "tuple_iterator" "list_iterator" l1 l2 }) :=
  .of_wp fun prog w A R s h => by
    obtain ⟨hp, g, d, tk, os⟩ := s
    obtain ⟨hl1, hl2, h⟩ := h
    have hsub := sub_zip
    have hL1 : Heap.IsTuple (Shared.heap ⟨hp, g, d, tk, os⟩) l1 m := hl1
    have hL2 : Heap.IsList (Shared.heap ⟨hpA hp "tuple_iterator" l1, g, d, tk, os⟩) l2 n := Heap.IsList.push hl2 _
    wp_walk using wpAny_pyIter_tuple hL1, wpAny_pyIter_list hL2
    exact ⟨_, rfl, h⟩

theorem meets_lt (l1 l2 : Addr) (m n : Array Value) :
    Meets (Builtin.«zip.__new__» ⟨[.type "zip", .ref l1, .ref l2], []⟩) (fun _ R s => s.heap.IsList l1 m ∧ s.heap.IsTuple l2 n ∧
      R (.ok (.ret (.ref (hpD s.heap "list_iterator" "tuple_iterator" l1 l2).objs.size))) { s with heap := hpE s.heap "list_iterator" "tuple_iterator" l1 l2 }) :=
  .of_wp fun prog w A R s h => by
    obtain ⟨hp, g, d, tk, os⟩ := s
    obtain ⟨hl1, hl2, h⟩ := h
    have hsub := sub_zip
    have hL1 : Heap.IsList (Shared.heap ⟨hp, g, d, tk, os⟩) l1 m := hl1
    have hL2 : Heap.IsTuple (Shared.heap ⟨hpA hp "list_iterator" l1, g, d, tk, os⟩) l2 n := Heap.IsTuple.push hl2 _
    wp_walk using wpAny_pyIter_list hL1, wpAny_pyIter_tuple hL2
    exact ⟨_, rfl, h⟩

theorem call_zipM {prog : Program} {w : World} {A : Around} {E : Value → Shared → Prop} {s : Shared} {t : Bool} {l1 l2 : Addr} {m n : Array Value} {Q : Value → Shared → Prop} (hl1 : AtSq t s.heap l1 m) (hl2 : AtSq (!t) s.heap l2 n)
    (h : ∀ g, IsZip g (s.heap.objs.size + 4) (s.heap.objs.size + 2) (s.heap.objs.size + 3) .none → IsPair g (s.heap.objs.size + 2) (.ref s.heap.objs.size) (.ref (s.heap.objs.size + 1)) →
      IsPair g (s.heap.objs.size + 3) .none .none → AtIt t g s.heap.objs.size l1 0 → AtIt (!t) g (s.heap.objs.size + 1) l2 0 →
      (∀ c o, s.heap.get? c = some o → g.get? c = some o) → Q (.ref (s.heap.objs.size + 4)) { s with heap := g }) :
    wpAny (model prog w) A (call (.type "zip") [.ref l1, .ref l2]) Q E s := by
  have all : ∀ c1 c2 : String, (∀ i1 k, AtIt t (hpE s.heap c1 c2 l1 l2) i1 l1 k = (∃ o, (hpE s.heap c1 c2 l1 l2).get? i1 = some o ∧ o.cls = .type c1 ∧ o.data = .fields #[.ref l1, .int k 0])) →
      (∀ i2 k, AtIt (!t) (hpE s.heap c1 c2 l1 l2) i2 l2 k = (∃ o, (hpE s.heap c1 c2 l1 l2).get? i2 = some o ∧ o.cls = .type c2 ∧ o.data = .fields #[.ref l2, .int k 0])) →
      (∃ o, (hpE s.heap c1 c2 l1 l2).get? (s.heap.objs.size + 4) = some o ∧ o.cls = .type "zip") ∧ Q (.ref (hpD s.heap c1 c2 l1 l2).objs.size) { s with heap := hpE s.heap c1 c2 l1 l2 } := fun c1 c2 a1 a2 => by
    have z1 : (hpA s.heap c1 l1).objs.size = s.heap.objs.size + 1 := Heap.size_push ..
    have z2 : (hpB s.heap c1 c2 l1 l2).objs.size = s.heap.objs.size + 2 := by rw [Heap.size_push, z1]
    have z3 : (hpC s.heap c1 c2 l1 l2).objs.size = s.heap.objs.size + 3 := by rw [Heap.size_push, z2]
    have z4 : (hpD s.heap c1 c2 l1 l2).objs.size = s.heap.objs.size + 4 := by rw [Heap.size_push, z3]
    have w5 : (hpE s.heap c1 c2 l1 l2).get? (hpD s.heap c1 c2 l1 l2).objs.size = some _ := Heap.get?_push_size _ rfl
    have w4 : (hpE s.heap c1 c2 l1 l2).get? (hpC s.heap c1 c2 l1 l2).objs.size = some _ := Heap.get?_push_of_some _ (Heap.get?_push_size _ rfl)
    have w3 : (hpE s.heap c1 c2 l1 l2).get? (hpB s.heap c1 c2 l1 l2).objs.size = some _ := Heap.get?_push_of_some _ (Heap.get?_push_of_some _ (Heap.get?_push_size _ rfl))
    have w2 : (hpE s.heap c1 c2 l1 l2).get? (hpA s.heap c1 l1).objs.size = some _ := Heap.get?_push_of_some _ (Heap.get?_push_of_some _ (Heap.get?_push_of_some _ (Heap.get?_push_size _ rfl)))
    have w1 : (hpE s.heap c1 c2 l1 l2).get? s.heap.objs.size = some _ := Heap.get?_push_of_some _ (Heap.get?_push_of_some _ (Heap.get?_push_of_some _ (Heap.get?_push_of_some _ (Heap.get?_push_size _ rfl))))
    rw [z2, z3, z4] at w5
    rw [z1, z2] at w3
    rw [z3] at w4
    rw [z1] at w2
    rw [z4]
    exact ⟨⟨_, w5, rfl⟩, h _ w5 w3 w4 (by rw [a1]; exact ⟨_, w1, rfl, rfl⟩) (by rw [a2]; exact ⟨_, w2, rfl, rfl⟩) fun c o x =>
      Heap.get?_push_of_some _ (Heap.get?_push_of_some _ (Heap.get?_push_of_some _ (Heap.get?_push_of_some _ (Heap.get?_push_of_some _ x))))⟩
  cases t with
  | true =>
    refine callType_new F.called_zip (by decide) (F.typeCall_zip_2 _ _) (F.newCall_zip_2 _ _) (fun obj => F.args_object_init_3 obj _ _) F.entry_zip_new (meets_tl l1 l2 m n) ⟨hl1, hl2, ?_⟩
    have := all "tuple_iterator" "list_iterator" (fun _ _ => rfl) fun _ _ => rfl
    refine ⟨?_, this.2⟩
    have e : (hpD s.heap "tuple_iterator" "list_iterator" l1 l2).objs.size = s.heap.objs.size + 4 := by simp [Heap.size_push]
    rw [← e] at this
    exact this.1
  | false =>
    refine callType_new F.called_zip (by decide) (F.typeCall_zip_2 _ _) (F.newCall_zip_2 _ _) (fun obj => F.args_object_init_3 obj _ _) F.entry_zip_new (meets_lt l1 l2 m n) ⟨hl1, hl2, ?_⟩
    have := all "list_iterator" "tuple_iterator" (fun _ _ => rfl) fun _ _ => rfl
    refine ⟨?_, this.2⟩
    have e : (hpD s.heap "list_iterator" "tuple_iterator" l1 l2).objs.size = s.heap.objs.size + 4 := by simp [Heap.size_push]
    rw [← e] at this
    exact this.1
def iZipM (K : PySem.W.Frag) (ta : TA) : TI := fun σ H R => ta σ H fun vs H1 => ∃ a b xs ys, vs = [.ref a, .ref b] ∧
  ((SqL K H1 a xs ∧ SqL K H1 b ys ∧ R (Itz K a b) H1) ∨ (SqT K H1 a xs ∧ SqT K H1 b ys ∧ R (ItzT K a b) H1) ∨ ∃ t, SqA K t H1 a xs ∧ SqA K (!t) H1 b ys ∧ R (ItzM K t (!t) a b) H1)
theorem pi_zipM {X : Cx} {e e2 : Expr} {ta : TA} {p pos tpos : Pos} {elts : List Expr} {kk : Nat} (hg : Gl X "zip") (hm : X.mg "zip" = none) (ha : PA X [e, e2] ta)
    (hs : starEach [e, e2] X.env = (false, eval e X.env) :: starEach [e2] X.env := by rfl) (hpl : (backTo pos (starEach [e2] X.env)).any (·.1) = false := by rfl) :
    PI X (.Tuple elts kk tpos) (.Call (.Name "zip" p) [e, e2] [] pos) (iZipM X.K ta) := by
  refine ⟨fun pins s σ H R I h => ?_⟩
  refine Call_ (ld_blt I hg hm PyProof.Rows.boot_zip (PyProof.Rows.callWith_type1 (thn (ha.run pos pins s σ H _ I h) fun us s1 ⟨vs, H1, I1, r1, q1⟩ => ?_) hs hpl))
  obtain ⟨a, b, xs, ys, ex, q1⟩ := q1
  subst ex
  cases r1 with
  | cons r rr =>
    cases rr with
    | cons r' rr =>
      cases rr
      cases r
      cases r'
      have fresh5 : ∀ c, c ∈ [s1.heap.objs.size + 4, s1.heap.objs.size + 2, s1.heap.objs.size + 3, s1.heap.objs.size, s1.heap.objs.size + 1] → FpOk X pins H1 c := fun c hcm => by
        have hle : s1.heap.objs.size ≤ c := by
          simp only [List.mem_cons, List.not_mem_nil, or_false] at hcm
          omega
        exact I1.fpOk hle (I1.hok.fresh hle)
      rcases q1 with ⟨hqx, hqy, q⟩ | ⟨hqx, hqy, q⟩ | ⟨t, hqx, hqy, q⟩
      · obtain ⟨its, rv, p1, _⟩ := I1.list hqx
        obtain ⟨its2, rv2, p2, _⟩ := I1.list hqy
        refine call_zip_2 p1.isList p2.isList fun g hz hTI hTO m1 m2 hsz hk => wpAny_pyIter_zip hz ?_
        exact ⟨s1.heap.objs.size + 4, [s1.heap.objs.size + 4, s1.heap.objs.size + 2, s1.heap.objs.size + 3, s1.heap.objs.size, s1.heap.objs.size + 1], _, _, H1, rfl, I1.kept (t' := s1.toks) hk, turn_zip (PySem.W.ktu_apart s1.heap.objs.size a b p1.lt p2.lt), ⟨hz, hTI, ⟨_, _, hTO⟩, m1, m2⟩, fresh5, q⟩
      · obtain ⟨its, rv, p1, _⟩ := I1.tuple hqx
        obtain ⟨its2, rv2, p2, _⟩ := I1.tuple hqy
        obtain ⟨o1, ho1, _⟩ := id p1
        obtain ⟨o2, ho2, _⟩ := id p2
        refine call_zipT (show s1.heap.IsTuple a its.toArray from p1) (show s1.heap.IsTuple b its2.toArray from p2) fun g hz hTI hTO m1 m2 hsz hk => wpAny_pyIter_zip hz ?_
        exact ⟨s1.heap.objs.size + 4, [s1.heap.objs.size + 4, s1.heap.objs.size + 2, s1.heap.objs.size + 3, s1.heap.objs.size, s1.heap.objs.size + 1], _, _, H1, rfl, I1.kept (t' := s1.toks) hk, turn_zipT (PySem.W.ktu_apart s1.heap.objs.size a b (Heap.lt_size ho1) (Heap.lt_size ho2)), ⟨hz, hTI, ⟨_, _, hTO⟩, m1, m2⟩, fresh5, q⟩
      · obtain ⟨its, rv, p1⟩ := SqA.at I1 hqx
        obtain ⟨its2, rv2, p2⟩ := SqA.at I1 hqy
        obtain ⟨o1, ho1⟩ := p1.has
        obtain ⟨o2, ho2⟩ := p2.has
        refine call_zipM p1 p2 fun g hz hTI hTO m1 m2 hk => wpAny_pyIter_zip hz ?_
        exact ⟨s1.heap.objs.size + 4, [s1.heap.objs.size + 4, s1.heap.objs.size + 2, s1.heap.objs.size + 3, s1.heap.objs.size, s1.heap.objs.size + 1], _, _, H1, rfl, I1.kept (t' := s1.toks) hk, turn_zipM (PySem.W.ktu_apart s1.heap.objs.size a b (Heap.lt_size ho1) (Heap.lt_size ho2)), ⟨hz, hTI, ⟨_, _, hTO⟩, m1, m2⟩, fresh5, q⟩
end ZL
set_option Elab.async false
set_option linter.all false
set_option maxRecDepth 100000
set_option maxHeartbeats 4000000
namespace PV
open PySem PySem.Spec PyProof.Rows L2 ZL RZ
def zipD (xs ys : List D) : List D := (xs.zip ys).map fun p => .tup [p.1, p.2]
theorem zipD_length (xs ys : List D) : (zipD xs ys).length = min xs.length ys.length := by simp [zipD]
theorem zipD_get {xs ys : List D} {i : Nat} {d : D} (h : (zipD xs ys)[i]? = some d) : ∃ x y, xs[i]? = some x ∧ ys[i]? = some y ∧ d = .tup [x, y] := by
  unfold zipD at h
  rw [List.getElem?_map] at h
  obtain ⟨⟨x, y⟩, hp, rfl⟩ := Option.map_eq_some_iff.mp h
  have := List.getElem?_zip_eq_some.mp hp
  exact ⟨x, y, this.1, this.2, rfl⟩
theorem SqA.up {K : PySem.W.Frag} {G G' : Gh} {S : Sto} {H : Hp} {t : Bool} {a : Addr} {vs : List V} (h : SqA K t G.F a vs) (le : G.le G') (sm : Sm K G' S H) : SqA K t H a vs := by
  cases t with
  | true => exact SqT.mono (SqT.mono h le.1) sm.fr
  | false => exact SqL.mono (SqL.mono h le.1) sm.fr
section
variable {K : PySem.W.Frag} {G : Gh}
theorem walkZ {xs ys : List D} {vs ws : List V} {a b : Addr} (h : SqL K G.F a vs) (h' : SqL K G.F b ws) (r : Rps K G xs vs) (r' : Rps K G ys ws) : WalkD K G (zipD xs ys) none (Itz K a b) where
  goes := fun i G' S H le sm _ hi => (walk_zip rfl).goes i H (by rw [r.length, r'.length]; rw [zipD_length] at hi; exact hi) ⟨SqL.mono (SqL.mono h le.1) sm.fr, SqL.mono (SqL.mono h' le.1) sm.fr⟩
  stops := fun G' S H le sm _ => by
    rw [zipD_length, ← r.length, ← r'.length]
    exact (walk_zip rfl).stops H ⟨SqL.mono (SqL.mono h le.1) sm.fr, SqL.mono (SqL.mono h' le.1) sm.fr⟩
  yields := fun i G' S H x H' d le sm _ hd y => by
    have hi : i < min vs.length ws.length := by rw [r.length, r'.length]; have := (List.getElem?_eq_some_iff.mp hd).1; rw [zipD_length] at this; exact this
    obtain ⟨T, v, w, rfl, hT, hH, h4, h5⟩ := (walk_zip rfl).yields i H x H' hi ⟨SqL.mono (SqL.mono h le.1) sm.fr, SqL.mono (SqL.mono h' le.1) sm.fr⟩ y
    obtain ⟨x, y, h6, h7, rfl⟩ := zipD_get hd
    obtain ⟨d1, h8, h9⟩ := r.get' h4
    rw [h6] at h8
    cases h8
    obtain ⟨d2, h10, h11⟩ := r'.get' h5
    rw [h7] at h10
    cases h10
    exact pair_yield (xs := []) (o := none) sm hT hH (h9.mono le) (h11.mono le)
theorem walkZT {xs ys : List D} {vs ws : List V} {a b : Addr} (h : SqT K G.F a vs) (h' : SqT K G.F b ws) (r : Rps K G xs vs) (r' : Rps K G ys ws) : WalkD K G (zipD xs ys) none (ItzT K a b) where
  goes := fun i G' S H le sm _ hi => by
    rw [zipD_length, ← r.length, ← r'.length] at hi
    have h1 : i < vs.length := by omega
    have h2 : i < ws.length := by omega
    exact ⟨vs, ws, vs[i], ws[i], SqT.mono (SqT.mono h le.1) sm.fr, SqT.mono (SqT.mono h' le.1) sm.fr, by simp [h1], by simp [h2]⟩
  stops := fun G' S H le sm _ => by
    rw [zipD_length, ← r.length, ← r'.length]
    exact ⟨vs, ws, SqT.mono (SqT.mono h le.1) sm.fr, SqT.mono (SqT.mono h' le.1) sm.fr, by omega⟩
  yields := fun i G' S H x H' d le sm _ hd y => by
    obtain ⟨T, v, w, rfl, hT, hH, h4, h5⟩ := y
    have h4 := h4 vs (SqT.mono (SqT.mono h le.1) sm.fr)
    have h5 := h5 ws (SqT.mono (SqT.mono h' le.1) sm.fr)
    obtain ⟨x, y, h6, h7, rfl⟩ := zipD_get hd
    obtain ⟨d1, h8, h9⟩ := r.get' h4
    rw [h6] at h8
    cases h8
    obtain ⟨d2, h10, h11⟩ := r'.get' h5
    rw [h7] at h10
    cases h10
    exact pair_yield (xs := []) (o := none) sm hT hH (h9.mono le) (h11.mono le)
theorem walkZM {xs ys : List D} {vs ws : List V} {t u : Bool} {a b : Addr} (h : SqA K t G.F a vs) (h' : SqA K u G.F b ws) (r : Rps K G xs vs) (r' : Rps K G ys ws) : WalkD K G (zipD xs ys) none (ItzM K t u a b) where
  goes := fun i G' S H le sm _ hi => by
    rw [zipD_length, ← r.length, ← r'.length] at hi
    have h1 : i < vs.length := by omega
    have h2 : i < ws.length := by omega
    exact ⟨vs, ws, vs[i], ws[i], SqA.up h le sm, SqA.up h' le sm, by simp [h1], by simp [h2]⟩
  stops := fun G' S H le sm _ => by
    rw [zipD_length, ← r.length, ← r'.length]
    exact ⟨vs, ws, SqA.up h le sm, SqA.up h' le sm, by omega, by omega, by omega⟩
  yields := fun i G' S H x H' d le sm _ hd y => by
    obtain ⟨T, v, w, rfl, hT, hH, h4, h5⟩ := y
    have h4 := h4 vs (SqA.up h le sm)
    have h5 := h5 ws (SqA.up h' le sm)
    obtain ⟨x, y, h6, h7, rfl⟩ := zipD_get hd
    obtain ⟨d1, h8, h9⟩ := r.get' h4
    rw [h6] at h8
    cases h8
    obtain ⟨d2, h10, h11⟩ := r'.get' h5
    rw [h7] at h10
    cases h10
    exact pair_yield (xs := []) (o := none) sm hT hH (h9.mono le) (h11.mono le)
end
def zpD (ds : List D) (S1 : Sto) : Out (List D × Option Nat) := match ds with
  | [.lst xs, .lst ys] => .ok (zipD xs ys, none) S1
  | [.tup xs, .tup ys] => .ok (zipD xs ys, none) S1
  | [.tup xs, .lst ys] => .ok (zipD xs ys, none) S1
  | [.lst xs, .tup ys] => .ok (zipD xs ys, none) S1
  | _ => .no
def iZp (m : MA) : MI := fun ρ S => (m ρ S).bind zpD
theorem qi_zip {X : Cx} {e e2 : Expr} {ms : MA} {p pos tpos : Pos} {elts : List Expr} {kk : Nat} (hm : X.mg "zip" = none) (ha : QA X [e, e2] ms) (hg : Gl X "zip" := by rfl)
    (hs : starEach [e, e2] X.env = (false, eval e X.env) :: starEach [e2] X.env := by rfl) (hpl : (backTo pos (starEach [e2] X.env)).any (·.1) = false := by rfl) :
    QI X (.Tuple elts kk tpos) (.Call (.Name "zip" p) [e, e2] [] pos) (iZp ms) := ⟨fun pins s σ H R I ⟨ρ, S, G, sm, re, q⟩ => (pi_zipM hg hm ha hs hpl).run pins s σ H R I (by
  have q : sat X (fun G' (a : List D × Option Nat) (J : It) => WalkD X.K G' a.1 a.2 J) G H ((ms ρ S).bind zpD) (fun J H' => R J H') := q
  refine ⟨ρ, S, G, sm, re, (sat.bind (R := Rps X.K) q).imp fun vs H1 w => ?_⟩
  obtain ⟨ds, S1, G1, le1, sm1, r1, q1⟩ := w
  unfold zpD at q1
  split at q1
  · obtain ⟨v, w, rfl, h1, h2⟩ := vals2' r1
    cases h1 with
    | lst a b =>
      cases h2 with
      | lst a' b' => exact ⟨_, _, _, _, rfl, .inl ⟨SqL.of (sm1.fr _ _ a), SqL.of (sm1.fr _ _ a'), q1 G1 H1 _ .refl sm1 (walkZ (SqL.of a) (SqL.of a') b b')⟩⟩
  · obtain ⟨v, w, rfl, h1, h2⟩ := vals2' r1
    cases h1 with
    | tup a b =>
      cases h2 with
      | tup a' b' => exact ⟨_, _, _, _, rfl, .inr (.inl ⟨SqT.mono a sm1.fr, SqT.mono a' sm1.fr, q1 G1 H1 _ .refl sm1 (walkZT a a' b b')⟩)⟩
  · obtain ⟨v, w, rfl, h1, h2⟩ := vals2' r1
    cases h1 with
    | tup a b =>
      cases h2 with
      | lst a' b' => exact ⟨_, _, _, _, rfl, .inr (.inr ⟨true, SqT.mono a sm1.fr, SqL.of (sm1.fr _ _ a'), q1 G1 H1 _ .refl sm1 (walkZM (t := true) (u := false) a (SqL.of a') b b')⟩)⟩
  · obtain ⟨v, w, rfl, h1, h2⟩ := vals2' r1
    cases h1 with
    | lst a b =>
      cases h2 with
      | tup a' b' => exact ⟨_, _, _, _, rfl, .inr (.inr ⟨false, SqL.of (sm1.fr _ _ a), SqT.mono a' sm1.fr, q1 G1 H1 _ .refl sm1 (walkZM (t := false) (u := true) (SqL.of a) a' b b')⟩)⟩
  · exact q1.elim)⟩
end PV
set_option Elab.async false
set_option linter.all false
set_option maxRecDepth 100000
set_option maxHeartbeats 4000000
namespace PV
open PySem PySem.Spec PyProof.Rows L2 ZL
section
variable {P : Program} {w : World} {K : PySem.W.Frag} {mg : Str → Option Value} {base : Heap} {x qual : Str} {st : Stmt} {kws : List (Str × V)} {f : Addr} {fd : FuncData} {N ps : List Str} {j : Nat} {b : MS} {dvs : List V} {dds : List D}
end
end PV
set_option Elab.async false
set_option linter.all false
set_option maxRecDepth 100000
set_option maxHeartbeats 4000000
namespace PV
open PySem PySem.Spec PyProof.Rows L2 ZL
structure SMet (K : PySem.W.Frag) (C : Addr) (mc : Value) (m : Str) (p g : Addr) : Prop where
  at_ : PySem.W.findCls K (.ref C) mc m = some (.get (.builtin "staticmethod.__get__") (.ref p) .none (.ref C))
  rc : ∃ rest, PySem.W.recIn K p "staticmethod" = some (.ref g :: rest)
  kp : PySem.W.keepIn K (.ref g) = true
section
variable {X : Cx} {CX : CXT} {k : Nat} {C p g : Addr} {mc : Value} {sp : Sp} {E : XK} {o e : Expr} {es : List Expr} {f m : Str} {pos apos : Pos} {ta : TE} {t : TA} {pl : Sem Bool}
end
def smE (c : String) (F : Fn) (o : ME) (ms : MA) : ME := fun ρ S => (o ρ S).bind fun x S1 => if isCl c x = true then (ms ρ S1).bind fun ds S2 => F ds S2 else .no
section
variable {X : Cx} {c : String} {F : Fn} {j : Nat} {o e : Expr} {es : List Expr} {mo : ME} {ms : MA} {apos pos : Pos} {m : Str} {p g : Addr} {mc : Value} {pl : Sem Bool}
end
end PV
set_option Elab.async false
set_option linter.all false
set_option maxRecDepth 100000
set_option maxHeartbeats 4000000
namespace PV
open PySem PySem.Spec PyProof.Rows L2 ZL
def pickL {α : Type} (idx : List Nat) (l : List α) : List α := idx.filterMap fun i => l[i]?
theorem vals_at : ∀ {vs : List V} {us : List Value}, Vals vs us → ∀ i : Nat, (vs[i]? = none ∧ us[i]? = none) ∨ ∃ v u, vs[i]? = some v ∧ us[i]? = some u ∧ RelV v u
  | _, _, .nil, _ => .inl ⟨rfl, rfl⟩
  | _, _, .cons a b, 0 => .inr ⟨_, _, rfl, rfl, a⟩
  | _, _, .cons a b, i + 1 => by simpa using vals_at b i
theorem pick_vals {vs : List V} {us : List Value} (h : Vals vs us) : ∀ idx : List Nat, Vals (pickL idx vs) (pickL idx us)
  | [] => .nil
  | i :: idx => by
    have ih := pick_vals h idx
    unfold pickL at ih ⊢
    rw [List.filterMap_cons, List.filterMap_cons]
    rcases vals_at h i with ⟨h1, h2⟩ | ⟨v, u, h1, h2, h3⟩
    · rw [h1, h2]
      exact ih
    · rw [h1, h2]
      exact .cons h3 ih
def kwF (idx : List Nat) (dds : List D) (F : Fn) : Fn := fun ds S => F (pickL idx (ds ++ dds)) S
def FnKO (P : Program) (w : World) (K : PySem.W.Frag) (mg : Str → Option Value) (base : Heap) (k : Nat) (f : Addr) (n : Nat) (ks : List Str) (F : Fn) : Prop :=
  ∃ (fd : FuncData) (ps : List Str) (g : List Value → List Value → List Value) (gV : List V → List V → List V) (sp : Sp), FnOk P w K mg base (L2.CX P w) k f fd ps sp ∧ KBn K fd ps n ks g gV ∧
    ∀ vs zs H Q E, spF K F (vs ++ zs) H Q E → sp (gV vs zs) H Q E
section
variable {P : Program} {w : World} {K : PySem.W.Frag} {mg : Str → Option Value} {base : Heap} {x qual : Str} {st : Stmt} {kws : List (Str × V)} {f : Addr} {fd : FuncData} {N ps : List Str} {j : Nat} {b : MS} {dvs : List V} {dds : List D}
end
abbrev QK (X : Cx) (kws : List Keyword) (m : MA) : Prop := PK X kws (tA X m)
section
variable {X : Cx} {e : Expr} {m : ME} {ms : MA} {kws : List Keyword} {nm : Option Str} {kpos : Pos}
theorem qk_nil : QK X [] aNil := ⟨fun pos pins s σ H Q I h => pk_nil.run pos pins s σ H Q I (by
  obtain ⟨ρ, S, G, sm, re, q⟩ := h
  exact q G H [] .refl sm .nil)⟩
theorem qk_cons (h : QE X e m) (hs : QK X kws ms) : QK X (⟨nm, e, kpos⟩ :: kws) (aCons m ms) :=
  ⟨fun pos pins s σ H Q I z => (pk_cons h hs).run pos pins s σ H Q I (by
    obtain ⟨ρ, S, G, sm, re, q⟩ := z
    refine ⟨ρ, S, G, sm, re, (sat.bind q).imp fun x H1 w => ?_⟩
    obtain ⟨d, S1, G1, le1, sm1, r1, q1⟩ := w
    refine ⟨ρ, S1, G1, sm1, re.mono le1.le, (sat.bind q1).imp fun xs H2 w => ?_⟩
    obtain ⟨ds, S2, G2, le2, sm2, r2, q2⟩ := w
    exact q2 G2 H2 _ .refl sm2 (.cons (r1.mono le2.le) r2))⟩
end
def ofLen (n : Nat) (F : Fn) : Fn := fun ds S => if ds.length = n then F ds S else .no
section
variable {X : Cx} {c : String} {F : Fn} {j : Nat} {f : Addr} {ms : MA} {p pos : Pos} {kws : List Keyword} {ks : List Str}
end
end PV
set_option Elab.async false
set_option linter.all false
set_option maxRecDepth 100000
set_option maxHeartbeats 4000000
namespace PV
open PySem PySem.Spec PyProof.Rows L2 ZL
section
variable {X : Cx} {c : String} {F : Fn} {j : Nat} {o : Expr} {mo : ME} {ms : MA} {apos pos : Pos} {m : Str} {p g : Addr} {mc : Value} {pl : Sem Bool} {kws : List Keyword} {ks : List Str}
def mtK (c : String) (n : String) (k : Nat) (F : Fn) (o : ME) (ms : MA) : ME := fun ρ S => (o ρ S).bind fun x S1 => match insOf S1 x with
  | some (c', fs) => if c' = c then match fs.lookup n with
      | none => (ms ρ S1).bind fun ds S2 => if ds.length = k then F (x :: ds) S2 else .no
      | some _ => .no
    else .no
  | none => .no
end
end PV
set_option Elab.async false
set_option linter.all false
set_option maxRecDepth 100000
set_option maxHeartbeats 4000000
namespace PV
open PySem PySem.Spec PyProof.Rows L2 ZL
theorem smet_of {K : PySem.W.Frag} {C : Addr} {m : Str} (h : He5.wrapB K C "staticmethod" "staticmethod.__get__" m = true) (hf : PySem.W.keepIn K (.ref (He5.wf K C "staticmethod" m)) = true) : SMet K C (.type "type") m (He.ma K C m) (He5.wf K C "staticmethod" m) := by
  obtain ⟨h1, h2⟩ := He5.wrapB_ok h
  exact ⟨h1, h2, hf⟩
end PV
set_option Elab.async false
set_option linter.all false
set_option maxRecDepth 100000
set_option maxHeartbeats 4000000
namespace ZS
open PySem PySem.Spec PyProof.Rows
section
variable {prog : Program} {w : World} {A : Around} {R : Result → Shared → Prop} {I : Addr} {fp wr : List Addr} {G : Array GenState → Array GenState → Prop} {n : Nat} {P : Nat → Value → Prop} {St : Nat → Shared → Prop}
end
section
variable {prog : Program} {w : World} {A : Around} {E : Value → Shared → Prop} {s : Shared}
end
end ZS
namespace L2
open PySem PySem.Spec PyProof.Rows
end L2
set_option Elab.async false
set_option linter.all false
set_option maxRecDepth 100000
set_option maxHeartbeats 4000000
namespace ZL
open PySem PySem.Spec PyProof.Rows L2
end ZL
set_option Elab.async false
set_option linter.all false
set_option maxRecDepth 100000
set_option maxHeartbeats 4000000
namespace PV
open PySem PySem.Spec PyProof.Rows L2 ZL
def ensD (ds : List D) (S1 : Sto) : Out (List D × Option Nat) := match ds with
  | [.str z] => .ok (numbered 0 (signs z), none) S1
  | _ => .no
def iEs (m : MA) : MI := fun ρ S => (m ρ S).bind ensD
def lnsE (m : ME) : ME := fun ρ S => (m ρ S).bind fun d S1 => match d with
  | .lst xs => match asStrs xs with
    | some ys => if ys.Nodup ∧ ys.length < 4000 then .ok (.int ys.length) S1 else .no
    | none => .no
  | _ => .no
inductive Cst where
  | int (i : Int) | str (z : Str) | bl (b : Bool) | non
def Cst.v : Cst → V
  | .int i => .int i
  | .str z => .str z
  | .bl b => .bl b
  | .non => .non
def Cst.d : Cst → D
  | .int i => .int i
  | .str z => .str z
  | .bl b => .bl b
  | .non => .non
def kvV (kvs : List (Str × Cst)) : List (Key × V) := kvs.map fun q => (.inr q.1, q.2.v)
def dcE (kvs : List (Str × Cst)) : ME := fun _ S => .ok (.hob (.dK (mergeK [] (kvV kvs)))) S
inductive PC1 (X : Cx) : Expr → Cst → Prop where
  | int {i : Int} {j : Nat} {p : Pos} : PC1 X (.Constant (.int i) j p) (.int i)
  | str {z : Str} {j : Nat} {p : Pos} : PC1 X (.Constant (.str z) j p) (.str z)
  | bl {b : Bool} {j : Nat} {p : Pos} : PC1 X (.Constant (.bool b) j p) (.bl b)
  | non {j : Nat} {p : Pos} : PC1 X (.Constant .none j p) .non
theorem PC1.pe {X : Cx} {e : Expr} {c : Cst} (h : PC1 X e c) : PE X e (tC c.v) := by
  cases h with
  | int => exact pe_int
  | str => exact pe_str
  | bl => exact pe_bl
  | non => exact pe_non
structure QP (X : Cx) (pos : Pos) (keys : List (Option Expr)) (values : List Expr) (kvs : List (Str × Cst)) : Prop where
  run : ∃ trs, PPs X pos keys values trs ∧ ∀ σ H (Q : List (V × V) → Hp → Prop), Q ((kvV kvs).map fun kv => (kV kv.1, kv.2)) H → tPairs trs σ H Q
theorem qp_nil {X : Cx} {pos : Pos} : QP X pos [] [] [] := ⟨[], pps_nil, fun _ _ _ h => h⟩
theorem qp_cons {X : Cx} {pos kp : Pos} {z : Str} {j : Nat} {e : Expr} {c : Cst} {ks : List (Option Expr)} {vs : List Expr} {kvs : List (Str × Cst)} (h : PC1 X e c) (r : QP X pos ks vs kvs) : QP X pos (some (.Constant (.str z) j kp) :: ks) (e :: vs) ((z, c) :: kvs) := by
  obtain ⟨trs, h1, h2⟩ := r
  exact ⟨_, pps_cons pe_str h.pe h1, fun σ H Q q => h2 σ H _ q⟩
theorem qe_dc {X : Cx} {pos : Pos} {keys : List (Option Expr)} {values : List Expr} {kvs : List (Str × Cst)} (h : QP X pos keys values kvs) (hall : keys.all (·.isSome) = true := by rfl) (hl : keys.length = values.length := by rfl) (h0 : keys ≠ [] := by simp) (h15 : keys.length ≤ 15 := by decide) (hk : kvs.length ≤ 15 := by decide) :
    QE X (.Dict keys values pos) (dcE kvs) := by
  obtain ⟨trs, h1, h2⟩ := h
  refine qe_of (pe_disp h1 hall hl h0 h15) fun ρ S G σ H Q sm re z p hp => h2 _ _ _ ⟨upd_same, kvV kvs, rfl, by simpa [kvV] using hk, ?_⟩
  have e : upd (upd H p (.dK [])) p (.dK (mergeK [] (kvV kvs))) = upd H p (.dK (mergeK [] (kvV kvs))) := by
    funext a
    by_cases q : a = p
    · subst q; rw [upd_same, upd_same]
    · rw [upd_ne q, upd_ne q, upd_ne q]
  rw [e]
  exact z _ _ _ (Stp.put sm hp) (sm.put hp) (.hob upd_same)
end PV
set_option Elab.async false
set_option linter.all false
set_option maxRecDepth 100000
set_option maxHeartbeats 4000000
namespace PV
open PySem PySem.Spec PyProof.Rows L2 ZL
def reprN (g : Fn) : Fn := fun ds S => match ds with
  | [.non] => .ok (.str "None") S
  | [.bl b] => .ok (.str (if b = true then "True" else "False")) S
  | [.str z] => if (reprText z).length ≤ sizeLine then .ok (.str (reprText z)) S else .no
  | ds => g ds S
theorem cf_reprN {X : Cx} {g : Fn} (h : CallF X (.builtin "repr") g) : CallF X (.builtin "repr") (reprN g) := fun pins s σ H vs us Q I rv ⟨ds, S, G, sm, r, z⟩ => by
  unfold reprN at z
  split at z
  · obtain ⟨v, rfl, q⟩ := vals1 r
    cases q
    obtain ⟨u, rfl, e⟩ := L2.vals1 rv
    cases e
    exact PySem.P.repr_of_none ⟨.str "None", H, I.tok _, ⟨_, rfl⟩, z G H _ .refl sm (.str _)⟩
  · rename_i b
    obtain ⟨v, rfl, q⟩ := vals1 r
    cases q
    obtain ⟨u, rfl, e⟩ := L2.vals1 rv
    cases e
    exact PySem.P.repr_of_bool ⟨.str (if b = true then "True" else "False"), H, I.tok _, ⟨_, by cases b <;> rfl⟩, z G H _ .refl sm (.str _)⟩
  · split at z
    · rename_i t hc
      obtain ⟨v, rfl, q⟩ := vals1 r
      cases q
      obtain ⟨u, rfl, e⟩ := L2.vals1 rv
      obtain ⟨k, rfl⟩ := e
      exact PySem.P.repr_of_str (hsz := hc) ⟨.str _, H, I.tok _, ⟨_, rfl⟩, z G H _ .refl sm (.str _)⟩
    · exact z.elim
  · exact h pins s σ H vs us Q I rv ⟨_, S, G, sm, r, z⟩
theorem u1 {j : Nat} {A : Around} (r : Room j A) : A.units + 1 < cLine := by have := r.un; omega
theorem dval_of {K : PySem.W.Frag} {a : Addr} {k v : Str} (h : (match PySem.W.nsIn K a k with | some (some (.str y _)) => decide (y = v) | _ => false) = true) : ∃ t, PySem.W.nsIn K a k = some (some (.str v t)) := by
  split at h
  · rename_i y t e
    have := of_decide_eq_true h
    subst this
    exact ⟨t, e⟩
  · cases h
end PV
set_option Elab.async false
set_option linter.all false
set_option maxRecDepth 100000
set_option maxHeartbeats 4000000
namespace L2
open PySem PySem.Spec PyProof.Rows
end L2
namespace PV
open PySem PySem.Spec PyProof.Rows L2 ZL
def frzE (m : ME) : ME := fun ρ S => (m ρ S).bind fun d S1 => match d with
  | .loc n => match S1[n]? with
    | some (.lst xs) => .ok (.lst xs) (S1.set n .dead)
    | _ => .no
  | _ => .no
end PV
set_option Elab.async false
set_option linter.all false
set_option maxRecDepth 100000
set_option maxHeartbeats 4000000
namespace L2
open PySem PySem.Spec PyProof.Rows
section
variable {X : Cx} {tg : Expr}
end
end L2
namespace PV
open PySem PySem.Spec PyProof.Rows L2
section
variable {X : Cx} {tg e : Expr} {ms : MA} {p pos : Pos}
end
end PV
set_option Elab.async false
set_option linter.all false
set_option maxRecDepth 100000
set_option maxHeartbeats 4000000
namespace PV
open PySem PySem.Spec PyProof.Rows L2 ZL
section
variable {X : Cx} {pins : List (Addr × Obj)} {σ : L2.St} {H : Hp} {s : Shared}
theorem exV_ok {P : Program} {w : World} {H : Hp} {h : Heap} {a : Addr} {cls : Value} {dd : Option Addr} {oe : Obj} {vs : Array Value} (e : h.get? a = some oe) (z : Zc cls dd oe) (d : oe.data = .fields vs) : ObjOk P w H h a (ExV cls dd a) :=
  ⟨⟨oe, vs, e, z, d⟩, ⟨oe, e⟩, fun _ _ q k => by
    obtain ⟨o, v, q1, q2⟩ := q
    exact ⟨o, v, k _ q1, q2⟩⟩
theorem inv_told {a : Addr} {oe : Obj} {o : HO} (I : Inv X ((a, oe) :: pins) σ H s) (n0 : X.s_0.heap.get? a = none) (np : ∀ p ∈ X.pn ++ pins, p.1 ≠ a) (new : ObjOk X.prog X.w (upd H a o) s.heap a o) : Inv X pins σ (upd H a o) s := by
  obtain ⟨e1, e2, e3, e4, e5⟩ := I.pin (a, oe) (List.mem_append_right _ List.mem_cons_self)
  have ne : ∀ b, H b ≠ none → b ≠ a := fun b hb z => hb (by rw [z]; exact e2)
  have at_ : ∀ b, b ≠ a → upd H a o b = H b := fun b hb => upd_ne hb
  refine ⟨I.ok, I.os, I.bare, ⟨I.base.keep, I.base.slot, fun b u q1 q2 q3 => ?_, I.base.there, fun b xs q => ?_, fun b u v q => ?_, fun b ps q => ?_⟩, I.loc, I.cell, ?_, fun x c q => ?_, fun p hp => ?_, ?_, I.len⟩
  · rw [at_ b fun z => by rw [z, n0] at q1; cases q1]
    exact I.base.free b u q1 q2 q3
  · have y := I.base.tups b xs q
    rw [at_ b (ne b (by rw [y]; simp))]
    exact y
  · have y := I.base.frzs b u v q
    rw [at_ b (ne b (by rw [y]; simp))]
    exact y
  · obtain ⟨m, y⟩ := I.base.tbls b ps q
    exact ⟨m, by rw [at_ b (ne b (by rw [y]; simp))]; exact y⟩
  · rw [at_ _ (Ne.symm e3)]
    exact I.free
  · rw [at_ c fun z => ?_]
    · exact I.freeC x c q
    · obtain ⟨v, oc, h1, h2⟩ := I.cell x c q
      rw [z, e1] at h1
      cases h1
      exact e5 v h2
  · obtain ⟨f1, f2, f3⟩ := I.pin p ((List.mem_append.mp hp).elim (fun z => List.mem_append_left _ z) fun z => List.mem_append_right _ (List.mem_cons_of_mem _ z))
    exact ⟨f1, by rw [at_ _ (np p hp)]; exact f2, f3⟩
  · exact HOk.laidN I.hok (fun _ _ z => z) e2 new
end
section
variable {X : Cx} {x n y : Str} {c : Value} {i j : Nat} {body : List Stmt} {np p1 p2 p3 pos pos' : Pos} {tb : WX → TS}
end
end PV
set_option Elab.async false
set_option linter.all false
set_option maxRecDepth 100000
set_option maxHeartbeats 4000000
namespace PV
open PySem PySem.Spec PyProof.Rows L2 ZL
def oexB (K : PySem.W.Frag) (C : Addr) : Bool := match K.lookup C with
  | some ⟨.type "type", _, .cls cd, sl⟩ => (match cd.mro, sl.toList with
    | .ref C' :: bm, [_, _, _, _, some (.builtin n), _] => decide (C' = C) && (decide (n = "ValueError.__new__") && (!cd.hasDel && (cd.hasDict && PySem.HandSPX.refsVE bm)))
    | _, _ => false)
  | _ => false
def xcB (K : PySem.W.Frag) (C : Addr) : Bool :=
  decide (PySem.W.findIn K (.ref C) "__getattribute__" = some (some (.builtin "BaseException.__getattribute__"))) && (decide (PySem.W.findIn K (.ref C) "__getattr__" = some none) &&
  (decide (PySem.W.subIn K (.ref C) (.type "BaseException") = some true) && (PySem.W.hasDictIn K C && (decide (PySem.W.findIn K (.ref C) "__class__" = some (some (.builtin "object.__class__"))) &&
  (PySem.W.mroIn K C (.type "object") == some true && (decide (PySem.W.typeIn K (.ref C) = some (.type "type")) && (PySem.W.keepIn K (.ref C) && (decide (PySem.W.findIn K (.ref C) "__setattr__" = some (some (.builtin "object.__setattr__")))))))))))
structure XC (K : PySem.W.Frag) (C : Addr) : Prop where
  ga : PySem.W.findIn K (.ref C) "__getattribute__" = some (some (.builtin "BaseException.__getattribute__"))
  gg : PySem.W.findIn K (.ref C) "__getattr__" = some none
  ex : PySem.W.subIn K (.ref C) (.type "BaseException") = some true
  hd : PySem.W.hasDictIn K C = true
  ca : PySem.W.findIn K (.ref C) "__class__" = some (some (.builtin "object.__class__"))
  mo : PySem.W.mroIn K C (.type "object") = some true
  ty : PySem.W.typeIn K (.ref C) = some (.type "type")
  kp : PySem.W.keepIn K (.ref C) = true
  sa : PySem.W.findIn K (.ref C) "__setattr__" = some (some (.builtin "object.__setattr__"))
theorem xc_of {K : PySem.W.Frag} {C : Addr} (h : xcB K C = true) : XC K C := by
  obtain ⟨h1, h⟩ := Bool.and_eq_true_iff.mp h
  obtain ⟨h2, h⟩ := Bool.and_eq_true_iff.mp h
  obtain ⟨h3, h⟩ := Bool.and_eq_true_iff.mp h
  obtain ⟨h4, h⟩ := Bool.and_eq_true_iff.mp h
  obtain ⟨h5, h⟩ := Bool.and_eq_true_iff.mp h
  obtain ⟨h6, h⟩ := Bool.and_eq_true_iff.mp h
  obtain ⟨h7, h⟩ := Bool.and_eq_true_iff.mp h
  obtain ⟨h8, h9⟩ := Bool.and_eq_true_iff.mp h
  exact ⟨of_decide_eq_true h1, of_decide_eq_true h2, of_decide_eq_true h3, h4, of_decide_eq_true h5, by simpa using h6, of_decide_eq_true h7, h8, of_decide_eq_true h9⟩
theorem oex_of {K : PySem.W.Frag} {C : Addr} (x : XC K C) (q : oexB K C = true) : OexC K C := by
  refine ⟨?_, x.sa, x.ex, x.ty, x.kp⟩
  unfold oexB at q
  split at q
  · rename_i dd cd sl ho
    split at q
    · rename_i C' bm k0 k1 k2 k3 n k5 hm hs
      simp only [Bool.and_eq_true, decide_eq_true_eq, Bool.not_eq_true'] at q
      obtain ⟨q1, q2, q3, q4, q5⟩ := q
      obtain ⟨nm, bs, mro, ns, qn, hd, sn, sub, ab, col, del⟩ := cd
      simp only at hm q3 q4
      subst q1 q2 q3 q4 hm
      obtain ⟨l⟩ := sl
      simp only at hs
      subst hs
      exact ⟨nm, qn, ns, bs, bm, sn, sub, ab, col, dd, k0, k1, k2, k3, k5, ho, q5⟩
    · cases q
  · cases q
theorem exV_at {P : Program} {w : World} {H : Hp} {h : Heap} {a : Addr} {cls : Value} {dd : Option Addr} (hok : HOk P w H h) (e : H a = some (ExV cls dd a)) : ∃ (oe : Obj) (vs : Array Value), h.get? a = some oe ∧ Zc cls dd oe ∧ oe.data = .fields vs := by
  have x : ObjOk P w H h a (.ext fun h => ∃ (oe : Obj) (vs : Array Value), h.get? a = some oe ∧ Zc cls dd oe ∧ oe.data = .fields vs) := hok a _ e
  exact x.1
theorem exc_inst {X : Cx} {pins : List (Addr × Obj)} {σ : L2.St} {H : Hp} {s : Shared} {G : Gh} {S : Sto} (I : Inv X pins σ H s) (sm : Sm X.K G S H) {c : String} {fs : List (String × D)} {v : V} (r : Rp X.K G (.exc c fs) v) :
    ∃ (a : Addr) (ox : Obj) (od : Option Obj), v = .ref a ∧ PySem.W.InstAt s.heap a ox (He.ga X.K (Str.ofString c)) od ∧
      ((fs = [] ∧ od = none) ∨ ∃ ws mA d o, od = some o ∧ s.heap.Ns1 d mA ∧ s.heap.get? d = some o ∧ (∀ f, RelO (ws.lookup f) (mA f)) ∧ Rpf X.K G fs ws) := by
  cases r with
  | @exc0 _ a h =>
    obtain ⟨oe, vs, e1, e2, e3⟩ := exV_at I.hok (sm.fr _ _ h)
    exact ⟨a, oe, none, rfl, ⟨e1, e2.1, by unfold PySem.W.notCls; rw [e3] <;> rfl, by rw [e2.2]; trivial⟩, .inl ⟨rfl, rfl⟩⟩
  | @exc _ _ a d ws h hd r =>
    obtain ⟨oe, vs, e1, e2, e3⟩ := exV_at I.hok (sm.fr _ _ h)
    have hx : ObjOk X.prog X.w H s.heap d (.xd ws) := I.hok d _ (sm.fr _ _ hd)
    obtain ⟨mA, hns, hr⟩ := hx
    obtain ⟨o, es, ep, q1, q2⟩ := id hns
    exact ⟨a, oe, some o, rfl, ⟨e1, e2.1, by unfold PySem.W.notCls; rw [e3] <;> rfl, by rw [e2.2]; exact q1⟩, .inr ⟨ws, mA, d, o, rfl, hns, q1, hr, r⟩⟩
def isiX (τ : List (String × Bool)) (cls : D → Bool) (g : Fn) : Fn := fun ds S => match ds with
  | [.exc c _, w] => if cls w = true then match τ.lookup c with
      | some b => .ok (.bl b) S
      | none => .no
    else .no
  | ds => g ds S
theorem cf_isiX {X : Cx} {τ : List (String × Bool)} {cls : D → Bool} {w : Value} {g : Fn} (hg : CallF X (.builtin "isinstance") g) (hcl : ∀ c, cls c = true → ∀ G v, Rp X.K G c v → ClsV v w)
    (hcg : PySem.W.specialIn X.K (.builtin "object.__class__") "__get__" = some (some (.builtin "getset_descriptor.__get__"))) (hct : PySem.W.takesIn X.K (.builtin "object.__class__") = some true)
    (hτ : ∀ c b, τ.lookup c = some b → XC X.K (He.ga X.K (Str.ofString c)) ∧ PySem.W.kitOne X.K (.ref (He.ga X.K (Str.ofString c))) w = some b) : CallF X (.builtin "isinstance") (isiX τ cls g) := fun pins s σ H vs us Q I rv ⟨ds, S, G, sm, r, h⟩ => by
  unfold isiX at h
  split at h
  · rename_i c fs wd
    split at h
    · rename_i hw
      split at h
      · rename_i b hb
        obtain ⟨v, u, rfl, q, q'⟩ := vals2' r
        obtain ⟨k, kt⟩ := hτ c b hb
        obtain ⟨a, ox, od, rfl, J, _⟩ := exc_inst I sm q
        have cw := hcl wd hw G u q'
        cases rv with
        | cons ra rw1 =>
          cases rw1 with
          | cons rb rn =>
            cases rn
            have ea := ra
            cases ea
            have eb := cw.eq rb
            subst eb
            obtain ⟨cd, hcd, _⟩ := PySem.W.any_some k.hd
            exact PySem.W.kia_one (PySem.W.kitx_exc (by rw [hcd]; rfl) k.ga k.gg k.ex k.ca hcg hct k.mo) I.kIn J kt (fun z => nomatch z) fun tk => ⟨.bl b, H, I.kept (t' := tk) fun _ _ z => z, rfl, h G H _ .refl sm (.bl b)⟩
      · exact h.elim
    · exact h.elim
  · exact hg pins s σ H vs us Q I rv ⟨_, S, G, sm, r, h⟩
def fldX (cs : List String) (f : String) (g : G1) : G1 := fun d S => match d with
  | .exc c fs => if cs.contains c = true then match fs.lookup f with
      | some x => .ok x S
      | none => .no
    else .no
  | d => g d S
theorem qe_fldX {X : Cx} {cs : List String} {f : String} {e : Expr} {m : ME} {pos : Pos} (hc : ∀ c ∈ cs, XC X.K (He.ga X.K (Str.ofString c)) ∧ PySem.W.findIn X.K (.ref (He.ga X.K (Str.ofString c))) (Str.ofString f) = some none) (h : QE X e m) (hb : attributeBase e (Str.ofString f) X.env (eval e X.env) = eval e X.env := by rfl) :
    QE X (.Attribute e (Str.ofString f) pos) (una (fldX cs f fun _ _ => .no) m) := ⟨fun pins s σ H Q I ⟨ρ, S, G, sm, re, z⟩ => by
  refine attr_of hb (thn (h.run pins s σ H _ I ⟨ρ, S, G, sm, re, sat.bind z⟩) fun u s1 hh => ?_)
  obtain ⟨x, H1, I1, rx, d, S1, G1, le1, sm1, r1, q1⟩ := hh
  unfold fldX at q1
  split at q1
  · rename_i c fs
    split at q1
    · rename_i hm
      split at q1
      · rename_i y hl
        obtain ⟨k, kn⟩ := hc c (List.contains_iff_mem.mp hm)
        obtain ⟨a, ox, od, rfl, J, hor⟩ := exc_inst I1 sm1 r1
        obtain rfl : u = Value.ref a := rx
        rcases hor with ⟨rfl, _⟩ | ⟨ws, mA, dd, o, rfl, hns, ho, hr, rf⟩
        · cases hl
        · obtain ⟨z, hz, rz⟩ := rf.at hl
          obtain ⟨od, ho2, hl2⟩ := lookIn_ns hns
          rw [ho] at ho2
          cases ho2
          obtain ⟨u2, hu, ru⟩ := RelO.some_of (v := z) (o := mA (Str.ofString f)) (by rw [← hz]; exact hr _)
          exact HandSPX.exc_get I1.kIn J k.ga k.gg k.ex (PySem.W.findObj_own k.hd kn rfl (by rw [hl2, hu])) (handed_of ru) ⟨z, H1, I1.tok _, ru, q1 G1 H1 z .refl sm1 rz⟩
      · exact q1.elim
    · exact q1.elim
  · exact q1.elim⟩
def sRai (c : String) (fl : List String) (ms : MA) : MS := fun ρ S => (ms ρ S).bind fun ds S1 => if ds.length = fl.length then .ex c (fl.zip ds).reverse S1 else .no
section
variable {X : Cx} {c : String} {p pos pos' : Pos} {ms : MA}
def spX1 (C : Addr) (f : Str) : Sp := fun vs H Q _ => ∃ (a : Addr) (y : V), vs = [.ref a, y] ∧ H a = some (exo a C none) ∧ ∀ d, H d = none → d ≠ a → Q .non (upd (upd H d (exd d [(f, y)])) a (exo a C (some d)))
def spX2 (C : Addr) (f g : Str) : Sp := fun vs H Q _ => ∃ (a : Addr) (y z : V), vs = [.ref a, y, z] ∧ H a = some (exo a C none) ∧ ∀ d, H d = none → d ≠ a → Q .non (upd (upd (upd H d (exd d [(f, y)])) a (exo a C (some d))) d (exd d [(g, z), (f, y)]))
end
section
variable {P : Program} {w : World} {K : PySem.W.Frag} {mg : Str → Option Value} {base : Heap} {x qual : Str} {st : Stmt} {kws : List (Str × V)} {fa C : Addr} {fd : FuncData} {u v1 v2 f g : Str} {p1 p2 p3 p4 p5 p6 p7 p8 : Pos}
theorem ok_x1 (F : FunD K x qual (defArgs st) (defBody st) (defScope st) [] kws fa fd) (Sc : FnScope [u, v1] [u, v1] (defScope st)) (hb : defBody st = [.Assign [.Attribute (.Name u p1) f p2] (.Name v1 p3) p4]) (T : OexC K C) (hn : PySem.W.findIn K (.ref C) f = some none)
    (vu : Vis (defScope st) u := by first | exact .inl rfl | exact .inr (.inl rfl)) (vv : Vis (defScope st) v1 := by first | exact .inl rfl | exact .inr (.inl rfl)) (d1 : (u == ("__debug__" : Str)) = false := by decide) (d2 : (u == ("__classdict__" : Str)) = false := by decide) (d3 : (v1 == ("__debug__" : Str)) = false := by decide) (d4 : (v1 == ("__classdict__" : Str)) = false := by decide)
    (hs : ∀ env, swapsWith (.Name v1 p3) (some (.Attribute (.Name u p1) f p2)) p4.line env = pure false := by intro _; rfl) : FnOk P w K mg base (L2.CX P w) 1 fa fd [u, v1] (spX1 C f) := by
  refine F.ok Sc (fun vs H Q E z => by obtain ⟨a, y, rfl, _⟩ := z; rfl) fun cdv A outer s H vs Q E hr z => ?_
  rw [hb]
  refine ⟨_, pss_one (ps_ost (f := f) (pe_var (i := 0) rfl vu d1 d2) (pe_var (i := 1) rfl vv d3 d4) (hs _)), ?_⟩
  obtain ⟨a, y, rfl, h1, h2⟩ := z
  exact ⟨y, rfl, .ref a, rfl, a, C, rfl, T, hn, .inl ⟨h1, h2⟩⟩
theorem ok_x2 (F : FunD K x qual (defArgs st) (defBody st) (defScope st) [] kws fa fd) (Sc : FnScope [u, v1, v2] [u, v1, v2] (defScope st)) (hb : defBody st = [.Assign [.Attribute (.Name u p1) f p2] (.Name v1 p3) p4, .Assign [.Attribute (.Name u p5) g p6] (.Name v2 p7) p8]) (T : OexC K C) (hn : PySem.W.findIn K (.ref C) f = some none) (hn2 : PySem.W.findIn K (.ref C) g = some none)
    (vu : Vis (defScope st) u := by first | exact .inl rfl | exact .inr (.inl rfl)) (vv : Vis (defScope st) v1 := by first | exact .inl rfl | exact .inr (.inl rfl)) (vw : Vis (defScope st) v2 := by first | exact .inl rfl | exact .inr (.inl rfl)) (d1 : (u == ("__debug__" : Str)) = false := by decide) (d2 : (u == ("__classdict__" : Str)) = false := by decide) (d3 : (v1 == ("__debug__" : Str)) = false := by decide) (d4 : (v1 == ("__classdict__" : Str)) = false := by decide) (d5 : (v2 == ("__debug__" : Str)) = false := by decide) (d6 : (v2 == ("__classdict__" : Str)) = false := by decide)
    (hs : ∀ env, swapsWith (.Name v1 p3) (some (.Attribute (.Name u p1) f p2)) p4.line env = pure false := by intro _; rfl) (hs2 : ∀ env, swapsWith (.Name v2 p7) (some (.Attribute (.Name u p5) g p6)) p8.line env = pure false := by intro _; rfl) : FnOk P w K mg base (L2.CX P w) 1 fa fd [u, v1, v2] (spX2 C f g) := by
  refine F.ok Sc (fun vs H Q E z => by obtain ⟨a, y, z, rfl, _⟩ := z; rfl) fun cdv A outer s H vs Q E hr z => ?_
  rw [hb]
  refine ⟨_, pss_cons (ps_ost (f := f) (pe_var (i := 0) rfl vu d1 d2) (pe_var (i := 1) rfl vv d3 d4) (hs _)) (pss_one (ps_ost (f := g) (pe_var (i := 0) rfl vu d1 d2) (pe_var (i := 2) rfl vw d5 d6) (hs2 _))), ?_⟩
  obtain ⟨a, y, z, rfl, h1, h2⟩ := z
  refine ⟨y, rfl, .ref a, rfl, a, C, rfl, T, hn, .inl ⟨h1, fun d hd hda => ?_⟩⟩
  refine ⟨z, rfl, .ref a, rfl, a, C, rfl, T, hn2, .inr ⟨d, [(f, y)], upd_same, by rw [upd_ne hda]; exact upd_same, by simp, h2 d hd hda⟩⟩
end
end PV
set_option Elab.async false
set_option linter.all false
set_option maxRecDepth 100000
set_option maxHeartbeats 4000000
namespace PV
open PySem PySem.Spec PyProof.Rows L2 ZL
section
variable {X : Cx} {c : String} {e : Expr} {es : List Expr} {p pos pos' : Pos} {ms : MA} {fI : Addr} {fd : FuncData} {ps : List Str}
theorem raised_xd {G1 : Gh} {S1 : Sto} {H1 : Hp} {C a d : Addr} {ws : List (Str × V)} {o1 o2 : HO} {G : Gh} (ha : H1 a = none) (hd : upd H1 a o1 d = none) (hda : d ≠ a) (H2 : Hp) (e2 : ∀ b, b ≠ a → b ≠ d → H2 b = H1 b) : upd (L2.del H2 a) d (.xd ws) = upd H1 d (.xd ws) := by
  funext b
  by_cases q : b = d
  · rw [q, upd_same, upd_same]
  · rw [upd_ne q, upd_ne q]
    by_cases q2 : b = a
    · rw [q2, del_same, ha]
    · rw [del_ne q2, e2 b q2 q]
theorem wEx_xd {G1 : Gh} {S1 : Sto} {H1 : Hp} {d : Addr} {ws : List (Str × V)} {fs : List (String × D)} (sm : Sm X.K G1 S1 H1) (hd : H1 d = none) (r : Rpf X.K G1 fs ws) : wEx X.K G1 H1 c fs S1 (.ref (gaS X.K c)) (some d) (upd H1 d (.xd ws)) :=
  ⟨G1.put d (.xd ws), Stp.put sm hd, sm.put hd, rfl, .inr ⟨d, ws, rfl, upd_same, r.mono (Gh.put_le (sm.free hd))⟩⟩
theorem pmk_own0 {C : Addr} {bmB : List Value} {B newId initId : String} {x : Str} (F : ExcBaseFacts B newId initId bmB) (q : PySem.W.excIn X.K C bmB newId = true) (gC : X.mg x = some (.ref C)) (kC : PySem.W.keepIn X.K (.ref C) = true) (r : Raises X (.ref C)) (hg : Gl X x) (hdb : (x == ("__debug__" : Str)) = false) :
    PMk X (.Call (.Name x p) [] [] pos) (fun _ H Q => Q (.ref C) none H) := by
  intro pins s σ H Q I h
  refine wpAny_Call_Name_kw (ld_glob I hg gC ?_ hdb)
  refine PySem.W.callWith_K0 (K := X.K) I.kIn kC ?_
  show wpAny _ _ (call (.ref C) []) _ _ _
  obtain ⟨bm, N, nm, qn, bs, hdct, sn, sub, ab, col, dd, k0, k1, k2, k3, k5, mN, hC, hN, hni, T⟩ := exc_obj I.kIn q
  refine wpAny_call_exc_subT F T hC hN hni (fun h' e hm => mk_of I hm r h (I.hok.gone hm.new)) (Nat.zero_le _)
end
end PV
set_option Elab.async false
set_option linter.all false
set_option maxRecDepth 100000
set_option maxHeartbeats 4000000
namespace PV
open PySem PySem.Spec PyProof.Rows L2 ZL
abbrev Hrd := Out D → Sto → Out D
section
variable {X : Cx} {Ng : List Str} {x a n y lx q : Str} {sg : Scope} {g CL : Addr} {cdg : Value} {bg rest : List Stmt} {mr : MS} {errs : List String} {i j k : Nat} {p1 p2 p3 p4 p5 p6 p7 p8 p9 p10 p11 p12 p13 p14 p15 p16 p17 : Pos} {jn jn' : Nat} {kt kt'}
variable {Q : VK}
end
section
variable {X : Cx} {Ng : List Str} {x a : Str} {st : Stmt} {g : Addr} {fd : FuncData} {kws : List (Str × V)} {c P : Addr} {k : Nat} {params : Arguments} {body : Expr} {scope : Scope} {m : ME} {h : Hrd} {p lpos pos : Pos}
end
end PV
set_option Elab.async false
set_option linter.all false
set_option maxRecDepth 100000
set_option maxHeartbeats 4000000
namespace PV
open PySem PySem.Spec PyProof.Rows L2 ZL
theorem toPs_ints : ∀ ns : List Int, toPs (ns.map .int) = some (ns.map .int)
  | [] => by rw [List.map_nil, List.map_nil, toPs]
  | n :: ns => by rw [List.map_cons, toPs, toPs_ints ns, toP]; rfl
theorem eqvAll_ints : ∀ ns ms : List Int, PyData.eqvAll (ns.map .int) (ms.map .int) = decide (ns = ms)
  | [], [] => by rw [List.map_nil, PyData.eqvAll]; rfl
  | [], _ :: _ => by rw [List.map_nil, List.map_cons, PyData.eqvAll]; rfl
  | _ :: _, [] => by rw [List.map_nil, List.map_cons, PyData.eqvAll]; rfl
  | n :: ns, m :: ms => by
    rw [List.map_cons, List.map_cons, PyData.eqvAll, eqvAll_ints ns ms, PyData.eqv]
    by_cases h : n = m
    · subst h
      by_cases h' : ns = ms
      · subst h'; simp
      · simp [h']
    · simp [h]
end PV
set_option Elab.async false
set_option linter.all false
set_option maxRecDepth 100000
set_option maxHeartbeats 4000000
namespace PV
open PySem PySem.Spec PyProof.Rows L2 ZL
theorem lay_ints : ∀ ns : List Int, PyData.canLayAll0 (ns.map PyData.int) = true
  | [] => by simp [PyData.canLayAll0]
  | n :: ns => by simp [PyData.canLayAll0, PyData.canLay0, lay_ints ns]
theorem depth_ints : ∀ ns : List Int, PyData.depthAll (ns.map PyData.int) = 0
  | [] => by simp [PyData.depthAll]
  | n :: ns => by simp [PyData.depthAll, PyData.depth, depth_ints ns]
theorem shaped_lints (ns : List Int) : SeqAt.shaped (.list (ns.map PyData.int)) = true := by simp [SeqAt.shaped, PyData.canLay0, lay_ints, PyData.depth, depth_ints]
theorem shaped_int (n : Int) : SeqAt.shaped (.int n) = true := by simp [SeqAt.shaped, PyData.canLay0, PyData.depth]
theorem eqD_lints (ns ms : List Int) : eqD (.lst (ns.map .int)) (.lst (ms.map .int)) = some (decide (ns = ms)) := by
  simp [eqD, eqP, toP, toPs_ints, shaped_lints, PyData.eqv, eqvAll_ints]
theorem eqD_int (n m : Int) : eqD (.int n) (.int m) = some (decide (n = m)) := by
  simp [eqD, eqP, toP, shaped_int, PyData.eqv]
  by_cases h : n = m
  · subst h; simp
  · simp [h]
def penC (cs : List Int) (a r : Int) : Cell := .lst [.lst (cs.map .int), .int a, .int r]
def Pen (S : Sto) (p : Nat) (B : Int) : Prop := ∃ cs a r, S[p]? = some (penC cs a r) ∧ cs.length ≤ 63 ∧ 0 ≤ a ∧ a ≤ B
theorem Pen.mono {S : Sto} {p : Nat} {B B' : Int} (h : Pen S p B) (hb : B ≤ B') : Pen S p B' := by
  obtain ⟨cs, a, r, h1, h2, h3, h4⟩ := h
  exact ⟨cs, a, r, h1, h2, h3, by omega⟩
theorem Pen.lt {S : Sto} {p : Nat} {B : Int} (h : Pen S p B) : p < S.length := by
  obtain ⟨cs, a, r, h1, _⟩ := h
  exact (List.getElem?_eq_some_iff.mp h1).1
theorem Pen.app {S T : Sto} {p : Nat} {B : Int} (h : Pen S p B) : Pen (S ++ T) p B := by
  have hl := h.lt
  obtain ⟨cs, a, r, h1, h2⟩ := h
  exact ⟨cs, a, r, by rw [List.getElem?_append_left hl]; exact h1, h2⟩
def SamePen (p : Nat) (S S' : Sto) : Prop := ∃ cs a r, S' = S.set p (penC cs a r)
theorem SamePen.refl {p : Nat} {S : Sto} {B : Int} (h : Pen S p B) : SamePen p S S := by
  have hl := h.lt
  obtain ⟨cs, a, r, h1, _⟩ := h
  refine ⟨cs, a, r, ?_⟩
  obtain ⟨_, h2⟩ := List.getElem?_eq_some_iff.mp h1
  rw [← h2]
  simp
theorem SamePen.trans {p : Nat} {S S' S'' : Sto} (h : SamePen p S S') (h' : SamePen p S' S'') : SamePen p S S'' := by
  obtain ⟨cs, a, r, rfl⟩ := h
  obtain ⟨cs', a', r', rfl⟩ := h'
  exact ⟨cs', a', r', by rw [List.set_set]⟩
theorem SamePen.len {p : Nat} {S S' : Sto} (h : SamePen p S S') : S'.length = S.length := by
  obtain ⟨cs, a, r, rfl⟩ := h
  rw [List.length_set]
theorem SamePen.get {p m : Nat} {S S' : Sto} (h : SamePen p S S') (hm : m ≠ p) : S'[m]? = S[m]? := by
  obtain ⟨cs, a, r, rfl⟩ := h
  rw [List.getElem?_set_ne (Ne.symm hm)]
theorem divOk_small {j : Int} (h : 0 < j) (h' : j < 2 ^ 120) : divOk j = true := by
  unfold divOk
  have : j.natAbs.log2 < 120 := PySem.Flt.log2_lt_of (by decide) (by omega)
  simp [h]
  omega
theorem mulOk_l {i j : Int} (h : -(2 ^ 64) < i) (h' : i < 2 ^ 64) : mulOk i j = true := by
  unfold mulOk
  rw [decide_eq_true ⟨h, h'⟩]
  rfl
theorem powOk_of {i j : Int} (h : 0 ≤ j) (h' : j ≤ 1000000) (hi : i.natAbs < 2 ^ 64) : powOk i j = true := by
  unfold powOk
  rw [decide_eq_true h, decide_eq_true h', decide_eq_true hi]
  rfl
end PV
set_option Elab.async false
set_option linter.all false
set_option maxRecDepth 100000
set_option maxHeartbeats 4000000
namespace PV
open PySem PySem.Spec PyProof.Rows
theorem cal_ok {F : Fn} {a : MA} {ρ : Ev} {S S1 : Sto} {ds : List D} {o : Out D} (h1 : a ρ S = .ok ds S1) (h3 : F ds S1 = o) : cal F a ρ S = o := by
  unfold cal
  rw [h1]
  exact h3
theorem cons_ok {e : ME} {a : MA} {ρ : Ev} {S S1 S2 : Sto} {x : D} {ds : List D} (h1 : e ρ S = .ok x S1) (h2 : a ρ S1 = .ok ds S2) : aCons e a ρ S = .ok (x :: ds) S2 := by
  unfold aCons
  rw [h1]
  show (a ρ S1).bind _ = _
  rw [h2]
  rfl
theorem len_listText (ts : List Str) : (listText ts).length ≤ 2 + piled ts := by
  unfold listText
  rw [strLen_append]
  have e : (("]" : String) : Str).length = 1 := rfl
  rw [e]
  cases ts with
  | nil => decide
  | cons t r =>
    have h : (textFrom 1 (("[" : String) ++ (("" : String) : Str) ++ t) r).length = _ := textFrom_length_pos r 1 _ (by decide)
    have h1 : textFrom 0 (("[" : String) : Str) (t :: r) = textFrom 1 ((("[" : String) : Str) ++ (("" : String) : Str) ++ t) r := rfl
    rw [h1, h, piled_cons, strLen_append, strLen_append]
    have e1 : (("[" : String) : Str).length = 1 := rfl
    have e2 : (("" : String) : Str).length = 0 := rfl
    omega
theorem eqD_str (a b : Str) : eqD (.str a) (.str b) = some (decide (a = b)) := rfl
end PV
set_option Elab.async false
set_option linter.all false
set_option maxRecDepth 100000
set_option maxHeartbeats 4000000
namespace PV
open PySem PySem.Spec PyProof.Rows
theorem sli_ok {m : ME} {l h : MO} {ρ : Ev} {S S1 S2 S3 : Sto} {x : D} {lo hi : Option Int} {r : Out D} (h1 : m ρ S = .ok x S1) (h2 : l ρ S1 = .ok lo S2) (h3 : h ρ S2 = .ok hi S3) (h4 : slG x lo hi S3 = r) : sli m l h ρ S = r := by
  unfold sli
  rw [h1]
  show (l ρ S1).bind _ = _
  rw [h2]
  show (h ρ S2).bind _ = _
  rw [h3]
  exact h4
theorem ups_at {lo : Int} {n j : Nat} {x : D} (h : (ups lo n)[j]? = some x) : x = .int (lo + (j : Nat)) ∧ j < n := by
  unfold ups at h
  rw [List.getElem?_map] at h
  obtain ⟨i, hi, rfl⟩ := Option.map_eq_some_iff.mp h
  obtain ⟨h1, h2⟩ := List.getElem?_eq_some_iff.mp hi
  simp at h1 h2
  subst h2
  exact ⟨rfl, h1⟩
theorem near62_of {j : Int} (h : 0 ≤ j) (h2 : j ≤ 1000000) : near62 j = true := by
  unfold near62
  exact decide_eq_true (by omega)
end PV
set_option Elab.async false
set_option linter.all false
set_option maxRecDepth 100000
set_option maxHeartbeats 4000000
namespace PV
open PySem PySem.Spec PyProof.Rows
theorem Pen.set {S : Sto} {p m : Nat} {B : Int} {c : Cell} (h : Pen S p B) (hm : m ≠ p) : Pen (S.set m c) p B := by
  obtain ⟨cs, a, r, h1, h2⟩ := h
  exact ⟨cs, a, r, by rw [List.getElem?_set_ne hm]; exact h1, h2⟩
theorem cut63 {α : Type} (cs : List α) (h : cs.length ≤ 63) : cutD cs none (some 63) = cs := by
  refine cutD_whole ⟨rfl, ?_⟩
  unfold HT.sIx
  simp only [show ¬ ((63 : Int) < 0) by decide, if_false]
  exact Nat.min_eq_right h
end PV
set_option Elab.async false
set_option linter.all false
set_option maxRecDepth 100000
set_option maxHeartbeats 4000000
namespace ZL
open PySem PySem.Spec PyProof.Rows L2
section
variable {P : Program} {w : World} {K : PySem.W.Frag} {mg mb : Str → Option Value} {k : Nat} {fa a : Addr} {sp : Sp} {s₁ : Shared} {vs : List Value} {ns : List Int} {cs : List (Addr × Addr)} {H : Hp}
abbrev tabsOf (cs : List (Addr × Addr)) : List Addr := cs.map (·.2)
def OnlyT (cs : List (Addr × Addr)) (H : Hp) : Prop := ∀ b, H b = none ∨ (b ∈ tabsOf cs ∧ H b = some (.tbl #[])) ∨ ∃ o xs, H b = some (.frz o (.lst xs))
theorem ended_ofT (C : ∀ p ∈ cs, PySem.W.CodeHd s₁.heap p.1 p.2) (hO : OnlyT cs H) (hok : HOk P w H s₁.heap) {r : Except Value Flow} {s' : Shared} (h : CR CX0 [] P w H s₁ (fun v _ => v = .bl true) (fun _ _ _ => False) r s') : ended s₁ r s' := by
  match r, h with
  | .error _, h => exact False.elim h
  | .ok .next, h => exact False.elim h
  | .ok .brk, h => exact False.elim h
  | .ok .cont, h => exact False.elim h
  | .ok (.ret u), h =>
    obtain ⟨v, H', os, bare, un, hok', r', q⟩ := h
    have q' : v = .bl true := q
    subst q'
    have r2 : u = Value.bool true := r'
    have two : ∀ b o, s₁.heap.get? b = some o → s'.heap.get? b = some o ∨ (b ∈ tabsOf cs ∧ o = { cls := .none, data := .fields #[] } ∧ ∃ more : Array Value, s'.heap.get? b = some { cls := .none, data := .fields more }) := fun b o e => by
      rcases hO b with z | ⟨zm, z⟩ | ⟨ob, xs, z⟩
      · exact .inl (un.keep b o e z (fun y => nomatch y) (fun y => nomatch y))
      · have e1 : s₁.heap.get? b = some { cls := .none, data := .fields #[] } := hok b _ z
        rw [e] at e1
        obtain ⟨more, zz⟩ := un.tbls b #[] z
        exact .inr ⟨zm, Option.some.inj e1, _, hok' b _ zz⟩
      · have e1 := (hok b _ z).1
        rw [e] at e1
        exact .inl (by rw [Option.some.inj e1]; exact (hok' b _ (un.frzs b ob _ z)).1)
    refine ⟨by rw [r2], ⟨fun b o e => ?_, fun b o e => ?_⟩, os, bare⟩
    · rcases two b o e with z | ⟨zm, ze, more, z⟩
      · exact .inl z
      · subst ze
        obtain ⟨p, hp, rfl⟩ := List.mem_map.mp zm
        exact .inr (.inl ⟨((C p hp).tab e).isCodeTable, rfl, #[], more, rfl, by rw [Array.empty_append]; exact z⟩)
    · rcases two b o e with z | ⟨_, _, more, z⟩
      · exact ⟨o, z⟩
      · exact ⟨_, z⟩
theorem lawT_core (KX : K.In s₁.heap) (hns : s₁.heap.Ns mainGlobals mg) (hb : s₁.heap.Ns builtinsNs mb) (hbb : ∀ x : Str, x ≠ "__name__" → mb x = bootBuiltins x) (hlim : s₁.heap.NoLimit) (hg : s₁.gens = #[])
    (hbm : ∃ (bm : Addr) (ob : Obj), mg "__builtins__" = some (.ref bm) ∧ bm ≠ builtinsNs ∧ s₁.heap.get? bm = some ob ∧ ob.cls = .type "module" ∧ ob.dict = some builtinsNs ∧ ob.data = .plain) (C : ∀ p ∈ cs, PySem.W.CodeHd s₁.heap p.1 p.2) (hT : ∀ p ∈ cs, s₁.heap.get? p.2 = some { cls := .none, data := .fields #[] })
    (hr : Room k callerA) (F : ∀ base : Heap, K.In base → base.Ns mainGlobals mg → (∀ p ∈ cs, LamX.TabB base mg p.1 p.2) → FnRG P w K mg base CX0 k fa sp) (hO : OnlyT cs H) (hok : HOk P w H s₁.heap)
    (hK : ∀ b o, K.lookup b = some o → H b = none) (hD : ∀ b o es ep, s₁.heap.get? b = some o → o.data = .dict es ep → H b = none) (hC : ∀ b o, s₁.heap.get? b = some o → (o.cls = .type "code" ∨ o.cls = .type "module") → H b = none)
    (h : sp [.ref a] H (fun v _ => v = .bl true) fun _ _ _ => False) : codeAny (model P w) callerA (.call (.ref fa) ⟨[.ref a], []⟩) (ended s₁) s₁ := by
  have nsK : ∀ {b : Addr} {m : Str → Option Value}, s₁.heap.Ns b m → (hidT s₁.heap H).Ns b m := fun {b m} z => by
    obtain ⟨o, es, ep, e, d, r⟩ := z
    exact ⟨o, es, ep, hidT_get e (hD b o es ep e d), d, r⟩
  have hKb : K.In (hidT s₁.heap H) := fun b o e => hidT_get (KX b o e) (hK b o e)
  obtain ⟨mc, l1, l2⟩ := hlim
  have TB : ∀ p ∈ cs, LamX.TabB (hidT s₁.heap H) mg p.1 p.2 := fun p hp => by
    obtain ⟨bm, ob, b1, b2, b3, b4, b5, b6⟩ := id hbm
    obtain ⟨og, esg, epg, eg, dg, _⟩ := id hns
    have tp := hT p hp
    obtain ⟨oc, us, file, tf, flags, tg, inF, text, tt, c1, c2, c3⟩ := C p hp
    refine ⟨⟨oc, us, file, tf, flags, tg, inF, text, tt, hidT_get c1 (hC _ _ c1 (.inl c2)), c2, c3⟩, ⟨bm, ob, b1, b2, fun z => ?_, fun z => ?_, hidT_get b3 (hC _ _ b3 (.inr b4)), b4, b5, b6⟩, fun z => ?_⟩
    · rw [z, eg] at b3
      rw [Option.some.inj b3, b6] at dg
      cases dg
    · rw [z, tp] at b3
      rw [← Option.some.inj b3] at b6
      cases b6
    · rw [z, tp] at eg
      rw [← Option.some.inj eg] at dg
      cases dg
  have e0 : Env0 P w K mg (hidT s₁.heap H) callerA [] s₁ H := ⟨rfl, ⟨hKb, nsK hns, ⟨mb, nsK hb, hbb⟩, ⟨mc, nsK l1, l2⟩⟩, fun b o e => of_hidT e, Nat.le_of_eq (hidT_size _ _), trivial, fun b z => (nomatch (show b ∈ ([] : List Addr) from z)), hok, .of_eq hg⟩
  exact codeAny_mono (F _ hKb (nsK hns) TB callerA [] s₁ H [.ref a] [.ref a] _ _ rfl hr e0 (.cons rfl .nil) h) fun r s' z => ended_ofT C hO hok z
theorem law_callT (KX : K.In s₁.heap) (hns : s₁.heap.Ns mainGlobals mg) (hb : s₁.heap.Ns builtinsNs mb) (hbb : ∀ x : Str, x ≠ "__name__" → mb x = bootBuiltins x) (hlim : s₁.heap.NoLimit) (hg : s₁.gens = #[])
    (hbm : ∃ (bm : Addr) (ob : Obj), mg "__builtins__" = some (.ref bm) ∧ bm ≠ builtinsNs ∧ s₁.heap.get? bm = some ob ∧ ob.cls = .type "module" ∧ ob.dict = some builtinsNs ∧ ob.data = .plain) (C : ∀ p ∈ cs, PySem.W.CodeHd s₁.heap p.1 p.2) (hT : ∀ p ∈ cs, s₁.heap.get? p.2 = some { cls := .none, data := .fields #[] }) (nT : ∀ p ∈ cs, K.lookup p.2 = none)
    (ha : s₁.heap.get? a = some { cls := .type "list", data := .seq vs.toArray }) (hi : IntsAre vs ns) (hl : ns.length ≤ sizeLine) (hr : Room k callerA)
    (F : ∀ base : Heap, K.In base → base.Ns mainGlobals mg → (∀ p ∈ cs, LamX.TabB base mg p.1 p.2) → FnRG P w K mg base CX0 k fa sp)
    (hsp : ∀ H : Hp, (∀ p ∈ cs, H p.2 = some (.tbl #[])) → SqL K H a (ns.map V.int) → sp [.ref a] H (fun v _ => v = .bl true) fun _ _ _ => False) :
    codeAny (model P w) callerA (.call (.ref fa) ⟨[.ref a], []⟩) (ended s₁) s₁ := by
  have rv := vals_ints hi
  have isT : ∀ b ∈ tabsOf cs, s₁.heap.get? b = some { cls := .none, data := .fields #[] } ∧ K.lookup b = none := fun b hb => by
    obtain ⟨p, hp, rfl⟩ := List.mem_map.mp hb
    exact ⟨hT p hp, nT p hp⟩
  have aT : a ∉ tabsOf cs := fun z => by
    have q := (isT a z).1
    rw [ha] at q
    have := congrArg Obj.cls (Option.some.inj q)
    cases this
  let o : Obj := { cls := .type "list", data := .seq vs.toArray }
  have go : ∀ H : Hp, (∀ b ∈ tabsOf cs, H b = some (.tbl #[])) → (∀ b, b ∉ tabsOf cs → b ≠ a → H b = none) → (H a = none ∨ (H a = some (.frz o (.lst (ns.map V.int))) ∧ K.lookup a = none)) → SqL K H a (ns.map V.int) → codeAny (model P w) callerA (.call (.ref fa) ⟨[.ref a], []⟩) (ended s₁) s₁ := fun H h1 h2 h3 h4 => by
    have off : ∀ b, (∀ u, s₁.heap.get? b = some u → u.cls ≠ .none ∧ (b = a → False)) → (∃ u, s₁.heap.get? b = some u) → H b = none := fun b hb hu => by
      obtain ⟨u, hu⟩ := hu
      refine h2 b (fun z => ?_) fun z => (hb u hu).2 z
      have q := (isT b z).1
      rw [hu] at q
      exact (hb u hu).1 (by rw [Option.some.inj q])
    refine lawT_core (H := H) (cs := cs) KX hns hb hbb hlim hg hbm C hT hr F (fun b => ?_) (fun b u z => ?_) (fun b u z => ?_) (fun b u es ep e d => ?_) (fun b u e d => ?_) (hsp H (fun p hp => h1 _ (List.mem_map.mpr ⟨p, hp, rfl⟩)) h4)
    · by_cases q : b ∈ tabsOf cs
      · exact .inr (.inl ⟨q, h1 b q⟩)
      · by_cases q2 : b = a
        · subst q2
          rcases h3 with z | ⟨z, _⟩
          · exact .inl z
          · exact .inr (.inr ⟨_, _, z⟩)
        · exact .inl (h2 b q q2)
    · by_cases q : b ∈ tabsOf cs
      · rw [h1 b q] at z
        have z' := Option.some.inj z
        subst z'
        exact (isT b q).1
      · by_cases q2 : b = a
        · subst q2
          rcases h3 with y | ⟨y, _⟩
          · rw [y] at z
            cases z
          · rw [y] at z
            have z' := Option.some.inj z
            subst z'
            exact ⟨ha, by rw [List.length_map]; exact hl, vs, _, rv, ha⟩
        · rw [h2 b q q2] at z
          cases z
    · by_cases q : b ∈ tabsOf cs
      · rw [(isT b q).2] at z
        cases z
      · by_cases q2 : b = a
        · subst q2
          rcases h3 with y | ⟨_, y⟩
          · exact y
          · rw [y] at z
            cases z
        · exact h2 b q q2
    · by_cases q : b ∈ tabsOf cs
      · rw [(isT b q).1] at e
        rw [← Option.some.inj e] at d
        cases d
      · refine h2 b q fun z => ?_
        rw [z, ha] at e
        rw [← Option.some.inj e] at d
        cases d
    · by_cases q : b ∈ tabsOf cs
      · rw [(isT b q).1] at e
        rw [← Option.some.inj e] at d
        rcases d with d | d <;> cases d
      · refine h2 b q fun z => ?_
        rw [z, ha] at e
        rw [← Option.some.inj e] at d
        rcases d with d | d <;> simp [o] at d
  cases hk : K.lookup a with
  | some u =>
    have e := KX a u hk
    rw [ha] at e
    have e' := (Option.some.inj e).symm
    subst e'
    refine go (fun b => if b ∈ tabsOf cs then some (.tbl #[]) else none) (fun b q => if_pos q) (fun b q _ => if_neg q) (.inl (if_neg aT)) (.inr ⟨_, vs.toArray, _, hk, rfl, rfl, rfl, ?_, ?_⟩)
    · rw [List.size_toArray, hi.length]
      exact hl
    · simpa using rv
  | none =>
    refine go (fun b => if b = a then some (.frz o (.lst (ns.map V.int))) else if b ∈ tabsOf cs then some (.tbl #[]) else none) (fun b q => ?_) (fun b q1 q2 => ?_) (.inr ⟨if_pos rfl, hk⟩) (.inl (.inr ⟨o, if_pos rfl⟩))
    · exact (if_neg fun z => aT (by rw [← z]; exact q)).trans (if_pos q)
    · exact (if_neg q2).trans (if_neg q1)
theorem walk_ofT {l : PySem.W.OpenLaw} {n k : Nat} {q : Program} {loose : List Str} {XP : (Str → Option Value) → Heap → Prop} {YP : World → Heap → Prop} {d : DefRec}
    (hn : l.most = some n) (hn2 : n ≤ sizeLine) (hdf : d.params.defaults = []) (hr : Room k callerA)
    (F : ∀ (w : World) (mg : Str → Option Value) (fa : Addr) (h : Heap), YP w h → h.Ns mainGlobals mg → mg d.name = some (.ref fa) →
      ∃ (K : PySem.W.Frag) (cs : List (Addr × Addr)) (sp : Sp), K.In h ∧ (∀ p ∈ cs, PySem.W.CodeHd h p.1 p.2 ∧ h.get? p.2 = some { cls := .none, data := .fields #[] } ∧ K.lookup p.2 = none) ∧
        (∀ (H : Hp) (a : Addr) (ns : List Int), ns.length ≤ n → (∀ p ∈ cs, H p.2 = some (.tbl #[])) → SqL K H a (ns.map V.int) → sp [.ref a] H (fun v _ => v = .bl true) fun _ _ _ => False) ∧
        ∀ base : Heap, K.In base → base.Ns mainGlobals mg → (∀ p ∈ cs, LamX.TabB base mg p.1 p.2) → FnRG l.prog w K mg base CX0 k fa sp) :
    PySem.W.WalkO q loose XP YP l.row.toRowW d [] (fun f vs => PySem.call f vs) := by
  refine Att.attach_call hn hdf fun w s₀ s₁ mg mb fa o pm cd doc a vs ns G Y ho hd hcd hmg hobj hi hlen hg => ?_
  obtain ⟨K, cs, sp, KX, hcs, hsp, hF⟩ := F w mg fa _ Y G.T.g hmg
  exact law_callT KX G.T.g G.T.b G.T.builtins G.T.nolimit hg G.T.bmain (fun p hp => (hcs p hp).1) (fun p hp => (hcs p hp).2.1) (fun p hp => (hcs p hp).2.2) hobj hi (Nat.le_trans hlen hn2) hr hF fun H hH hS => hsp H a ns hlen hH hS
end
end ZL
set_option Elab.async false
set_option linter.all false
set_option maxRecDepth 100000
set_option maxHeartbeats 4000000
namespace PV
open PySem PySem.Spec PyProof.Rows L2 ZL
def spEnd (K : PySem.W.Frag) (F : Fn) : Sp := fun vs H Q _ => spF K F vs H Q fun _ _ _ => False
theorem end_of {P : Program} {w : World} {K : PySem.W.Frag} {mg : Str → Option Value} {base : Heap} {k : Nat} {f : Addr} {F : Fn} (h : FnFG P w K mg base k f F) : FnRG P w K mg base CX0 k f (spEnd K F) := fun A outer s H us vs Q E hgd hr e0 r z =>
  codeAny_mono (h A outer s H us vs Q (fun _ _ _ => False) hgd hr e0 r z) fun r s' c => by
    match r, c with
    | .ok (.ret u), c => exact c
    | .error e, c =>
      obtain ⟨_, _, _, _, _, _, _, _, _, _, _, _, hE⟩ := c
      exact hE.elim
theorem end_atT {K : PySem.W.Frag} {F : Fn} {H : Hp} {a : Addr} {ns : List Int} {S' : Sto} (hS : SqL K H a (ns.map V.int)) (hT : ∀ p ∈ tbs K, H p.1 = some (.tbl #[])) (h : F [.src (ns.map .int)] [] = .ok (.bl true) S') : spEnd K F [.ref a] H (fun v _ => v = .bl true) fun _ _ _ => False := by
  have hS2 : ∃ F0 : Hp, SqL K F0 a (ns.map V.int) ∧ (∀ b o, F0 b = some o → H b = some o) ∧ ∀ b o, F0 b = some o → NoT o := by
    rcases hS with (q | ⟨o, q⟩) | q
    · exact ⟨upd (fun _ => none) a (.lst _), .inl (.inl upd_same), (fun b o e => by
        by_cases z : b = a
        · rw [z, upd_same] at e; rw [z, q, ← e]
        · rw [upd_ne z] at e; cases e), (fun b o e => by
        by_cases z : b = a
        · rw [z, upd_same] at e; cases e; intro _ y; cases y
        · rw [upd_ne z] at e; cases e)⟩
    · exact ⟨upd (fun _ => none) a (.frz o (.lst _)), .inl (.inr ⟨o, upd_same⟩), (fun b o e => by
        by_cases z : b = a
        · rw [z, upd_same] at e; rw [z, q, ← e]
        · rw [upd_ne z] at e; cases e), (fun b o e => by
        by_cases z : b = a
        · rw [z, upd_same] at e; cases e; intro _ y; cases y
        · rw [upd_ne z] at e; cases e)⟩
    · exact ⟨fun _ => none, .inr q, (fun b o e => by cases e), (fun b o e => by cases e)⟩
  obtain ⟨F0, q1, q2, q3⟩ := hS2
  refine ⟨[.src (ns.map .int)], [], ⟨F0, fun _ => none⟩, ⟨q2, (fun n c h => by simp at h), fun n a h => (by cases h), fun n m a h => (by cases h), fun n a h => (by cases h), q3, fun p hp => LamX.TabS.nil (hT p hp)⟩, .cons (.src q1 (Rps.ints ns)) .nil, ?_⟩
  rw [h]
  intro G' H' v _ _ r
  cases r
  rfl
end PV
set_option Elab.async false
set_option linter.all false
set_option maxRecDepth 100000
set_option maxHeartbeats 4000000
namespace ZH
open PySem PySem.W L2
def codeAt (K : Frag) (f : Addr) : Option (Addr × Addr) := match K.lookup f with
  | some ⟨_, _, .func fd, _⟩ => (match fd.code with
    | .ref c => (match K.lookup c with
      | some ⟨_, _, .fields vs, _⟩ => (match (vs[11]? : Option Value) with
        | some (.ref P) => some (c, P)
        | _ => none)
      | _ => none)
    | _ => none)
  | _ => none
def tabA (K : Frag) (lams : List Str) : List Addr := lams.filterMap fun x => (codeAt K (He.ga K x)).map fun p => p.2
def dropT (lams : List Str) (K : Frag) : Frag := K.filter fun p => !((tabA K lams).contains p.1)
abbrev lamQ (x : Str) : Str := x ++ ".<locals>." ++ "<lambda>"
def tab1 (Ka K : Frag) (x : Str) : Bool := match codeAt K (He.ga K x) with
  | some (c, P) => codeHdIn K c P && ((K.lookup P).isNone && ((match Ka.lookup P with
    | some ⟨.none, none, .fields ⟨[]⟩, ⟨[]⟩⟩ => true
    | _ => false) && ((PV.tbs K).any (fun p => decide (p = (P, lamQ x))) && (PV.tbs K).all fun p => !decide (p.1 = P) || decide (p.2 = lamQ x))))
  | none => false
def tabsB (lams : List Str) (Ka K : Frag) : Bool := lams.all (tab1 Ka K) && (PV.tbs K).all fun p => lams.any fun x => decide ((codeAt K (He.ga K x)).map (fun p => p.2) = some p.1)
def obsL (lams : List Str) (chk : Frag → Bool) (fn : List He5.DefA) (Ka : Frag) : He.AlD × Bool := (obsZ chk fn (dropT lams Ka), tabsB lams Ka (dropT lams Ka))
def SaysL (lams : List Str) (chk : Frag → Bool) (fn : List He5.DefA) (Ka : Frag) : Prop := obsL lams chk fn Ka = (He5.valA fn, true)
def obsLG (n : Nat) (lams : List Str) (chk : Frag → Bool) (fn : List He5.DefA) (g : Addr → Option Obj) : He.AlD × Bool := obsL lams chk fn (He.frG g (He5.asA g n))
def hookL (n : Nat) (lams : List Str) (chk : Frag → Bool) (fn : List He5.DefA) : PySem.W.Hook where
  α := He.AlD × Bool
  obs := fun s => obsLG n lams chk fn s.heap.get?
  val := fun _ => ((He5.valA fn, true) : He.AlD × Bool)
  says := fun _ h => ∃ K : Frag, K.In h ∧ SaysL lams chk fn K
  of := fun _ _ e => ⟨_, He.frG_in, e⟩
  keeps := fun _ _ _ z k => z.elim fun K q => ⟨K, Frag.In.keeps q.1 k, q.2⟩
section
variable {lams : List Str} {chk : Frag → Bool} {fn : List He5.DefA} {Ka K : Frag} {h : Heap}
theorem SaysL.z (c : SaysL lams chk fn Ka) : SaysZ chk fn (dropT lams Ka) := congrArg (fun z : He.AlD × Bool => z.1) c
theorem SaysL.t (c : SaysL lams chk fn Ka) : tabsB lams Ka (dropT lams Ka) = true := congrArg (fun z : He.AlD × Bool => z.2) c
theorem lookup_filter {f : Addr → Bool} : ∀ {l : Frag} {a : Addr} {o : Obj}, (l.filter fun p => f p.1).lookup a = some o → l.lookup a = some o
  | [], _, _, e => e
  | (b, u) :: l, a, o, e => by
    by_cases hf : f b = true
    · rw [List.filter_cons_of_pos (by exact hf)] at e
      rw [List.lookup_cons] at e ⊢
      cases q : a == b with
      | true => rw [q] at e; exact e
      | false => rw [q] at e; exact lookup_filter e
    · rw [List.filter_cons_of_neg (by exact hf)] at e
      have r := lookup_filter e
      rw [List.lookup_cons]
      split
      · rename_i q
        have ab : a = b := eq_of_beq q
        exfalso
        have : ∀ {l : Frag} {o : Obj}, (l.filter fun p => f p.1).lookup a = some o → f a = true := by
          intro l
          induction l with
          | nil => intro o e; cases e
          | cons p l ih =>
            intro o e
            by_cases hp : f p.1 = true
            · rw [List.filter_cons_of_pos (by exact hp), List.lookup_cons] at e
              split at e
              · rename_i q2; rw [eq_of_beq q2]; exact hp
              · exact ih e
            · rw [List.filter_cons_of_neg (by exact hp)] at e
              exact ih e
        exact hf (ab ▸ this e)
      · exact r
theorem dropT_in (X : Ka.In h) : (dropT lams Ka).In h := fun a o e => X a o (lookup_filter (f := fun a => !((tabA Ka lams).contains a)) e)
structure LamAt (K : Frag) (h : Heap) (x : Str) (c P : Addr) : Prop where
  code : codeAt K (He.ga K x) = some (c, P)
  hd : CodeHd h c P
  off : K.lookup P = none
  tab : h.get? P = some { cls := .none, data := .fields #[] }
  mem : (P, lamQ x) ∈ PV.tbs K
  one : ∀ p ∈ PV.tbs K, p.1 = P → p.2 = lamQ x
theorem tabs_at (XK : K.In h) (Xa : Ka.In h) (t : tabsB lams Ka K = true) {x : Str} (hx : x ∈ lams) : ∃ c P, LamAt K h x c P := by
  have z := List.all_eq_true.mp (Bool.and_eq_true_iff.mp t).1 x hx
  unfold tab1 at z
  split at z
  · rename_i c P hc
    obtain ⟨z1, z⟩ := Bool.and_eq_true_iff.mp z
    obtain ⟨z2, z⟩ := Bool.and_eq_true_iff.mp z
    obtain ⟨z3, z⟩ := Bool.and_eq_true_iff.mp z
    obtain ⟨z4, z5⟩ := Bool.and_eq_true_iff.mp z
    refine ⟨c, P, hc, codeHd_of_K XK z1, by simpa using z2, ?_, ?_, fun p hp e => ?_⟩
    · split at z3
      · rename_i q
        exact Xa _ _ q
      · cases z3
    · obtain ⟨p, hp, e⟩ := List.any_eq_true.mp z4
      rw [of_decide_eq_true e] at hp
      exact hp
    · have y := List.all_eq_true.mp z5 p hp
      rw [decide_eq_true e] at y
      exact of_decide_eq_true (by simpa using y)
  · cases z
theorem tabs_all (t : tabsB lams Ka K = true) {p : Addr × Str} (hp : p ∈ PV.tbs K) : ∃ x ∈ lams, ∃ c, codeAt K (He.ga K x) = some (c, p.1) := by
  obtain ⟨x, hx, e⟩ := List.any_eq_true.mp (List.all_eq_true.mp (Bool.and_eq_true_iff.mp t).2 p hp)
  obtain ⟨⟨c, P⟩, e1, e2⟩ := Option.map_eq_some_iff.mp (of_decide_eq_true e)
  have e3 : P = p.1 := e2
  subst e3
  exact ⟨x, hx, c, e1⟩
end
end ZH
namespace PV
open PySem PySem.Spec PyProof.Rows L2 ZL
section
variable {P : Program} {w : World} {K : PySem.W.Frag} {mg : Str → Option Value} {base : Heap} {x qual : Str} {st : Stmt} {kws : List (Str × V)} {f : Addr} {fd : FuncData} {N ps : List Str} {j : Nat} {b : MS}
end
section
variable {X : Cx} {Ng lams : List Str} {x a y : Str} {st : Stmt} {g fy : Addr} {fd : FuncData} {kws : List (Str × V)} {k : Nat} {params : Arguments} {body : Expr} {scope : Scope} {m : ME} {h : Hrd} {p lpos pos : Pos}
end
end PV
set_option Elab.async false
set_option linter.all false
set_option maxRecDepth 100000
set_option maxHeartbeats 4000000
namespace ZH
open PySem PySem.W L2
def hookF (as : List Addr) (K : Params → Frag) (ea : ∀ P, as = (K P).map (·.1)) (Says : World → Frag → Prop) (hs : ∀ w : World, Says w (K w.params)) : PySem.W.Hook where
  α := List (Option Obj)
  obs := fun s => as.map s.heap.get?
  val := fun w => (K w.params).map fun p => some p.2
  says := fun w h => ∃ K : Frag, K.In h ∧ Says w K
  of := fun w s e => ⟨K w.params, Frag.in_of (ea _) e, hs w⟩
  keeps := fun _ _ _ z k => z.elim fun K q => ⟨K, Frag.In.keeps q.1 k, q.2⟩
def obF (as : List Addr) (s : PySem.W.SharedT) : List (Option Obj) := as.map (HandSHeadRun.getT s)
theorem obF_eq {as : List Addr} {K : Params → Frag} {ea : ∀ P, as = (K P).map (·.1)} {Says : World → Frag → Prop} {hs : ∀ w : World, Says w (K w.params)} (s : PySem.W.SharedT) : obF as s = (hookF as K ea Says hs).obs s.abs := by
  unfold obF
  rw [show HandSHeadRun.getT s = s.abs.heap.get? from funext (HandSHeadRun.getT_eq s)]
  rfl
end ZH
set_option Elab.async false
set_option linter.all false
set_option maxRecDepth 100000
set_option maxHeartbeats 4000000
namespace ZL
open PySem PySem.Spec PyProof.Rows L2
section
open PySem.W
variable {prog : Program} {w : World} {A : Around} {E : Value → Shared → Prop} {s : Shared} {K : Frag} {x C f dx : Addr} {od : Option Obj} {id : String} {B : Builtin} {i : Int} {t : Tok} {Q : Value → Shared → Prop} {op : CmpOp}
end
end ZL
namespace PV
open PySem PySem.Spec PyProof.Rows L2 ZL
section
variable {X : Cx} {j : Nat} {c : String} {F : Fn} {g : G2} {f : Addr}
end
theorem isFn_ty {K : PySem.W.Frag} {v : Value} (h : PySem.W.isFn K v = true) : PySem.W.typeIn K v = some (.type "function") := by
  unfold PySem.W.isFn at h
  simpa using h
def sPar3 (i j l : Nat) (ms : MA) : MS := fun ρ S => (ms ρ S).bind fun ds S1 => match ds with
  | [a, b, c] => .ok (.nx (((ρ.set i (some a)).set j (some b)).set l (some c))) S1
  | _ => .no
end PV
set_option Elab.async false
set_option linter.all false
set_option maxRecDepth 100000
set_option maxHeartbeats 4000000
namespace PV
open PySem PySem.Spec PyProof.Rows L2 ZL RZ
end PV
set_option Elab.async false
set_option linter.all false
set_option maxRecDepth 100000
set_option maxHeartbeats 4000000
namespace PV
open PySem PySem.Spec PyProof.Rows L2 ZL
def csOf (K : PySem.W.Frag) (lams : List Str) : List (Addr × Addr) := lams.filterMap fun x => ZH.codeAt K (He.ga K x)
section
variable {Ka K : PySem.W.Frag} {lams : List Str} {h : Heap}
theorem csOf_mem {p : Addr × Addr} (hp : p ∈ csOf K lams) : ∃ x ∈ lams, ZH.codeAt K (He.ga K x) = some p := List.mem_filterMap.mp hp
theorem csOf_all (X : K.In h) (Xa : Ka.In h) (t : ZH.tabsB lams Ka K = true) : ∀ p ∈ csOf K lams, PySem.W.CodeHd h p.1 p.2 ∧ h.get? p.2 = some { cls := .none, data := .fields #[] } ∧ K.lookup p.2 = none := fun p hp => by
  obtain ⟨x, hx, e⟩ := csOf_mem hp
  obtain ⟨c, q, L⟩ := ZH.tabs_at X Xa t hx
  have ep : p = (c, q) := Option.some.inj (e.symm.trans L.code)
  subst ep
  exact ⟨L.hd, L.tab, L.off⟩
theorem csOf_told (t : ZH.tabsB lams Ka K = true) {H : Hp} (hH : ∀ p ∈ csOf K lams, H p.2 = some (.tbl #[])) : ∀ p ∈ tbs K, H p.1 = some (.tbl #[]) := fun p hp => by
  obtain ⟨x, hx, c, e⟩ := ZH.tabs_all t hp
  exact hH (c, p.1) (List.mem_filterMap.mpr ⟨x, hx, e⟩)
end
end PV
set_option Elab.async false
set_option linter.all false
set_option maxRecDepth 100000
set_option maxHeartbeats 4000000
namespace PV
open PySem PySem.Spec PyProof.Rows L2 ZL RZ
def esG (es : List (Str × D)) (z : Str) : Option D := (es.find? fun p => decide (p.1 = z)).map (·.2)
def esP (es : List (Str × D)) (z : Str) (d : D) : List (Str × D) := if (es.any fun p => decide (p.1 = z)) = true then es.map (fun p => if p.1 = z then (p.1, d) else p) else es ++ [(z, d)]
section
variable {K : PySem.W.Frag} {G : Gh} {es : List (Str × D)} {kvs : List (Key × V)}
theorem Rpk.get (r : Rpk K G es kvs) {z : Str} {d : D} (h : esG es z = some d) : ∃ v, valV kvs (.inr z) = some v ∧ Rp K G d v := by
  induction r with
  | nil => cases h
  | @cons x d' v es kvs hv t ih =>
    unfold esG at h
    rw [List.find?_cons] at h
    by_cases q : x = z
    · rw [decide_eq_true q] at h
      cases h
      exact ⟨v, valV_pos (by rw [q]), hv⟩
    · rw [decide_eq_false q] at h
      obtain ⟨v', h1, h2⟩ := ih h
      refine ⟨v', ?_, h2⟩
      have ne : ¬ ((Sum.inr x : Key) = .inr z) := fun e => q (Sum.inr.inj e)
      unfold valV at h1 ⊢
      rw [List.find?_cons, decide_eq_false ne]
      exact h1
theorem Rpk.any (r : Rpk K G es kvs) (z : Str) : (kvs.any fun kv => decide (kv.1 = (.inr z : Key))) = es.any fun p => decide (p.1 = z) := by
  induction r with
  | nil => rfl
  | @cons x d v es kvs hv t ih =>
    rw [List.any_cons, List.any_cons, ih]
    congr 1
    have : ((Sum.inr x : Key) = .inr z) ↔ x = z := ⟨fun e => Sum.inr.inj e, fun e => by rw [e]⟩
    exact decide_eq_decide.mpr this
theorem Rpk.app (r : Rpk K G es kvs) {z : Str} {d : D} {v : V} (h : Rp K G d v) : Rpk K G (es ++ [(z, d)]) (kvs ++ [(.inr z, v)]) := by
  induction r with
  | nil => exact .cons h .nil
  | cons hv t ih => exact .cons hv ih
theorem Rpk.over (r : Rpk K G es kvs) {z : Str} {d : D} {v : V} (h : Rp K G d v) : Rpk K G (es.map fun p => if p.1 = z then (p.1, d) else p) (kvs.map fun kv => if kv.1 = (.inr z : Key) then (kv.1, v) else kv) := by
  induction r with
  | nil => exact .nil
  | @cons x d' v' es kvs hv t ih =>
    rw [List.map_cons, List.map_cons]
    by_cases q : x = z
    · subst q
      rw [if_pos rfl, if_pos rfl]
      exact .cons h ih
    · rw [if_neg q, if_neg fun e => q (Sum.inr.inj e)]
      exact .cons hv ih
theorem Rpk.put (r : Rpk K G es kvs) {z : Str} {d : D} {v : V} (h : Rp K G d v) : Rpk K G (esP es z d) (putK kvs (.inr z) v) := by
  unfold esP putK
  rw [r.any]
  split
  · exact r.over h
  · exact r.app h
theorem Rpk.keys (r : Rpk K G es kvs) : kvs.map (·.1) = es.map fun p => (.inr p.1 : Key) := by
  induction r with
  | nil => rfl
  | cons hv t ih => rw [List.map_cons, List.map_cons, ih]
theorem Rpk.len (r : Rpk K G es kvs) : kvs.length = es.length := by
  induction r with
  | nil => rfl
  | cons hv t ih => rw [List.length_cons, List.length_cons, ih]
theorem merge_nodup : ∀ (more acc : List (Key × V)), (acc.map (·.1) ++ more.map (·.1)).Nodup → mergeK acc more = acc ++ more
  | [], acc, _ => by simp [mergeK]
  | (k, v) :: more, acc, h => by
    have e : putK acc k v = acc ++ [(k, v)] := by
      unfold putK
      rw [if_neg]
      intro z
      obtain ⟨p, hp, e⟩ := List.any_eq_true.mp z
      rw [List.map_cons, List.nodup_append] at h
      exact h.2.2 p.1 (List.mem_map_of_mem hp) k List.mem_cons_self (of_decide_eq_true e)
    show mergeK (putK acc k v) more = _
    rw [e, merge_nodup more (acc ++ [(k, v)]) (by simpa using h)]
    simp
end
def dicL : List (Str × ME) → Ev → Sto → Out (List (Str × D))
  | [], _, S => .ok [] S
  | (z, m) :: r, ρ, S => (m ρ S).bind fun d S1 => (dicL r ρ S1).bind fun es S2 => .ok ((z, d) :: es) S2
def dicQ (n : Nat) (es : List (Str × D)) (S2 : Sto) : Out D := match S2[n]? with
  | some (.dic []) => if es.length ≤ 15 ∧ (es.map (·.1)).Nodup then .ok (.loc n) (S2.set n (.dic es)) else .no
  | _ => .no
def dicM (kms : List (Str × ME)) : ME := fun ρ S => (dicL kms ρ (S ++ [.dic []])).bind (dicQ S.length)
structure QPM (X : Cx) (pos : Pos) (keys : List (Option Expr)) (values : List Expr) (kms : List (Str × ME)) : Prop where
  run : ∃ trs, PPs X pos keys values trs ∧ ∀ ρ S G σ H (Q : List (V × V) → Hp → Prop), Sm X.K G S H → Re X.K G ρ σ → sat X (Rpk X.K) G H (dicL kms ρ S) (fun kvs H' => Q (kvs.map fun kv => (kV kv.1, kv.2)) H') → tPairs trs σ H Q
section
variable {X : Cx}
theorem qpm_nil {pos : Pos} : QPM X pos [] [] [] := ⟨[], pps_nil, fun ρ S G σ H Q sm re h => h G H [] .refl sm .nil⟩
theorem qpm_cons {pos kp : Pos} {z : Str} {j : Nat} {e : Expr} {m : ME} {ks : List (Option Expr)} {vs : List Expr} {kms : List (Str × ME)} (h : QE X e m) (r : QPM X pos ks vs kms) : QPM X pos (some (.Constant (.str z) j kp) :: ks) (e :: vs) ((z, m) :: kms) := by
  obtain ⟨trs, h1, h2⟩ := r
  refine ⟨_, pps_cons pe_str h h1, fun ρ S G σ H Q sm re q => ?_⟩
  refine ⟨ρ, S, G, sm, re, (sat.bind q).imp fun v H1 w => ?_⟩
  obtain ⟨d, S1, G1, le1, sm1, r1, q1⟩ := w
  refine h2 ρ S1 G1 σ H1 _ sm1 (re.mono le1.le) ((sat.bind q1).imp fun kvs H2 w => ?_)
  obtain ⟨es, S2, G2, le2, sm2, r2, q2⟩ := w
  exact q2 G2 H2 ((.inr z, v) :: kvs) .refl sm2 (.cons (r1.mono le2.le) r2)
theorem qe_dicM {pos : Pos} {keys : List (Option Expr)} {values : List Expr} {kms : List (Str × ME)} (h : QPM X pos keys values kms) (hall : keys.all (·.isSome) = true := by rfl) (hl : keys.length = values.length := by rfl) (h0 : keys ≠ [] := by simp) (h15 : keys.length ≤ 15 := by decide) :
    QE X (.Dict keys values pos) (dicM kms) := by
  obtain ⟨trs, h1, h2⟩ := h
  refine qe_of (pe_disp h1 hall hl h0 h15) fun ρ S G σ H Q sm re z p hp => ?_
  have sm1 : Sm X.K (G.new S.length p) (S ++ [.dic []]) (upd H p (.dK [])) := sm.new hp ⟨[], upd_same, .nil⟩
  have st1 : Stp G H (G.new S.length p) (upd H p (.dK [])) := Stp.cell sm hp
  refine h2 ρ _ _ σ _ _ sm1 (re.mono st1.le) ((sat.bind (z.mono st1)).imp fun kvs H2 w => ?_)
  obtain ⟨es, S2, G2, le2, sm2, r2, q2⟩ := w
  unfold dicQ at q2
  split at q2
  · rename_i hn
    split at q2
    · rename_i nd
      have hf : G2.f S.length = some p := le2.le.2 _ _ Gh.new_at
      obtain ⟨_, kv0, h3, h4⟩ := sm2.addr hn (by simp) hf
      cases h4
      refine ⟨h3, kvs, rfl, ?_, ?_⟩
      · rw [r2.len]
        exact nd.1
      · have em : mergeK [] kvs = kvs := merge_nodup kvs [] (by
          rw [List.map_nil, List.nil_append, r2.keys]
          have := nd.2
          rw [show (es.map fun p => (Sum.inr p.1 : Key)) = (es.map (·.1)).map Sum.inr by simp]
          exact List.Pairwise.map _ (fun a b ne e => ne (Sum.inr.inj e)) this)
        rw [em]
        exact q2 G2 _ _ (Stp.write hf) (sm2.write hn (by simp) hf ⟨kvs, upd_same, r2⟩) (.loc hf)
    · exact q2.elim
  · exact q2.elim
def ddG : G2 := fun x y S => match x with
  | .loc n => match y with
    | .str z => match S[n]? with
      | some (.dic es) => match esG es z with
        | some d => .ok d S
        | none => .no
      | _ => .no
    | _ => .no
  | _ => .no
theorem Sm.dic {K : PySem.W.Frag} {G : Gh} {S : Sto} {H : Hp} (sm : Sm K G S H) {n : Nat} {es : List (Str × D)} (h : S[n]? = some (.dic es)) {v : V} (r : Rp K G (.loc n) v) : ∃ a kvs, v = .ref a ∧ G.f n = some a ∧ H a = some (.dK kvs) ∧ Rpk K G es kvs := by
  cases r with
  | @loc n a hf =>
    obtain ⟨_, kvs, h1, h2⟩ := sm.addr h (by simp) hf
    exact ⟨a, kvs, rfl, hf, h1, h2⟩
theorem qe_dd {o i : Expr} {mo mi : ME} {pos : Pos} (hu : X.A.units + 1 < cLine) (ho : QE X o mo) (hi : QE X i mi) (hs : NoSl i := by exact fun _ _ => rfl) : QE X (.Subscript o i pos) (bin ddG mo mi) :=
  qe_of (pe_dget hu ho hi hs) fun ρ S G σ H Q sm re h => by
    refine ⟨ρ, S, G, sm, re, (sat.bind h).imp fun v H1 w => ?_⟩
    obtain ⟨x, S1, G1, le1, sm1, r1, q1⟩ := w
    refine ⟨ρ, S1, G1, sm1, re.mono le1.le, (sat.bind q1).imp fun v' H2 w => ?_⟩
    obtain ⟨y, S2, G2, le2, sm2, r2, q2⟩ := w
    unfold ddG at q2
    split at q2
    · split at q2
      · split at q2
        · rename_i hn
          split at q2
          · rename_i d hd
            obtain ⟨a, kvs, rfl, hf, ha, rk⟩ := sm2.dic hn (r1.mono le2.le)
            obtain ⟨v2, hv, r3⟩ := rk.get hd
            cases r2
            exact ⟨a, v2, rfl, by rw [← hv]; exact DGet.k (k := .inr _) ha, q2 G2 H2 v2 .refl sm2 r3⟩
          · exact q2.elim
        · exact q2.elim
      · exact q2.elim
    · exact q2.elim
def sDk (o i m : ME) : MS := fun ρ S => (m ρ S).bind fun y S1 => (o ρ S1).bind fun x S2 => (i ρ S2).bind fun k S3 => match x with
  | .loc n => match k with
    | .str z => match S3[n]? with
      | some (.dic es) => if es.length < 1000 then .ok (.nx ρ) (S3.set n (.dic (esP es z y))) else .no
      | _ => .no
    | _ => .no
  | _ => .no
theorem qs_dk {o i e : Expr} {mo mi m : ME} {p pos : Pos} (hu : X.A.units + 1 < cLine) (ho : QE X o mo) (hi : QE X i mi) (h : QE X e m) (hs : swapsWith e (some (.Subscript o i p)) pos.line X.env = pure false := by rfl) :
    QS X (.Assign [.Subscript o i p] e pos) (sDk mo mi m) := qs_of (ps_dput hu ho hi h hs) fun ρ S G σ H D sm re z => by
  refine ⟨ρ, S, G, sm, re, (satS.bind z).imp fun v H1 w => ?_⟩
  obtain ⟨y, S1, G1, le1, sm1, r1, q1⟩ := w
  refine ⟨ρ, S1, G1, sm1, re.mono le1.le, (satS.bind q1).imp fun v2 H2 w => ?_⟩
  obtain ⟨x, S2, G2, le2, sm2, r2, q2⟩ := w
  refine ⟨ρ, S2, G2, sm2, (re.mono le1.le).mono le2.le, (satS.bind q2).imp fun v3 H3 w => ?_⟩
  obtain ⟨k, S3, G3, le3, sm3, r3, q3⟩ := w
  split at q3
  · split at q3
    · split at q3
      · rename_i hn
        split at q3
        · rename_i hl
          obtain ⟨a, kvs, rfl, hf, ha, rk⟩ := sm3.dic hn (r2.mono le3.le)
          cases r3
          exact ⟨a, _, rfl, DPut.k (k := (.inr _ : Key)) ha (by rw [rk.len]; exact Nat.lt_of_lt_of_le hl (by decide)), q3 G3 _ σ (Stp.write hf) (sm3.write hn (by simp) hf ⟨_, upd_same, rk.put ((r1.mono le2.le).mono le3.le)⟩) (((re.mono le1.le).mono le2.le).mono le3.le)⟩
        · exact q3.elim
      · exact q3.elim
    · exact q3.elim
  · exact q3.elim
end
end PV
set_option Elab.async false
set_option linter.all false
set_option maxRecDepth 100000
set_option maxHeartbeats 4000000
namespace ZL
open PySem PySem.Spec PyProof.Rows L2
section
open PySem.W
variable {prog : Program} {w : World} {A : Around} {E : Value → Shared → Prop} {s : Shared} {K : Frag} {x C f : Addr} {od : Option Obj} {ox : Obj} {nm : String} {Q : Value → Shared → Prop} {u : Value} {T : String} {fo ro : Option Value}
end
end ZL
namespace PV
open PySem PySem.Spec PyProof.Rows L2 ZL
end PV
set_option Elab.async false
set_option linter.all false
set_option maxRecDepth 100000
set_option maxHeartbeats 4000000
namespace ZL
open PySem PySem.Spec PyProof.Rows L2
section
open PySem.W
variable {prog : Program} {w : World} {A : Around} {E : Value → Shared → Prop} {s : Shared} {K : Frag} {x C f dx : Addr} {od : Option Obj} {nm id : String} {B : Builtin} {y : Bool} {Q : Value → Shared → Prop}
end
end ZL
namespace PV
open PySem PySem.Spec PyProof.Rows L2 ZL
section
variable {X : Cx} {j : Nat} {c : String} {f f' : Addr} {F : Fn} {g : G2}
end
end PV
set_option Elab.async false
set_option linter.all false
set_option maxRecDepth 100000
set_option maxHeartbeats 4000000
namespace PV
open PySem PySem.Spec PyProof.Rows L2 ZL
mutual
def toQ : D → Option PyData
  | .non => some .none
  | .bl b => some (.bool b)
  | .int i => some (.int i)
  | .str x => some (.str x)
  | .tup xs => (toQs xs).map .tuple
  | .dic0 => some (.dict [])
  | .lst _ => none
  | .src _ => none
  | .hob _ => none
  | .exc _ _ => none
  | .obj _ _ => none
  | .loc _ => none
  | .cls _ => none
  | .fnc _ => none
  | .ty _ => none
def toQs : List D → Option (List PyData)
  | [] => some []
  | x :: xs => match toQ x with
    | some p => (toQs xs).map (p :: ·)
    | none => none
end
section
variable {X : Cx} {pins : List (Addr × Obj)} {σ : L2.St} {H : Hp} {s : Shared} {G : Gh}
mutual
theorem reads_q (I : Inv X pins σ H s) (fr : ∀ a o, G.F a = some o → H a = some o) : ∀ (d : D) (v : V) (u : Value) (p : PyData), Rp X.K G d v → RelV v u → toQ d = some p → ∃ as, Reads s.heap u p as ∧ sysModules ∉ as
  | .non, _, _, _, r0, r, h => by
    cases r0
    cases h
    cases r
    exact ⟨[], .none, by simp⟩
  | .bl b, _, _, _, r0, r, h => by
    cases r0
    cases h
    cases r
    exact ⟨[], .bool b, by simp⟩
  | .int i, _, _, _, r0, r, h => by
    cases r0
    cases h
    obtain ⟨t, rfl⟩ := r
    exact ⟨[], .int i t, by simp⟩
  | .str x, _, _, _, r0, r, h => by
    cases r0
    cases h
    obtain ⟨t, rfl⟩ := r
    exact ⟨[], .str x t, by simp⟩
  | .tup xs, _, _, _, r0, r, h => by
    cases r0 with
    | tup hq ha =>
      rw [toQ] at h
      obtain ⟨ps, hp, rfl⟩ := Option.map_eq_some_iff.mp h
      cases r
      obtain ⟨its, rv, ⟨o, ho, hc, n, hd⟩, _⟩ := I.tuple (SqT.mono hq fr)
      obtain ⟨as, q1, q2⟩ := reads_qs I fr xs _ its ps ha rv hp
      exact ⟨as, .tuple ho hc hd q1, q2⟩
  | .dic0, _, _, _, r0, r, h => by
    cases r0 with
    | dic0 hq =>
      cases h
      cases r
      obtain ⟨_, ns, vs, rel, o, es, ep, h1, h2, h3, h4, h5, h6⟩ := dk_of I.hok (fr _ _ hq)
      cases rel
      have e0 : es.toList = [] := by
        cases hl : es.toList with
        | nil => rfl
        | cons a b => rw [hl] at h5; cases h5
      refine ⟨_, .dict h1 h2.1 h3 (by rw [e0]; exact .nil) (by rw [e0]; exact .nil), ?_⟩
      simpa using fun e => (beq_eq_false_iff_ne.mp ns) e.symm
  | .lst _, _, _, _, _, _, h => by cases h
  | .src _, _, _, _, _, _, h => by cases h
  | .hob _, _, _, _, _, _, h => by cases h
  | .exc _ _, _, _, _, _, _, h => by cases h
  | .obj _ _, _, _, _, _, _, h => by cases h
  | .loc _, _, _, _, _, _, h => by cases h
  | .cls _, _, _, _, _, _, h => by cases h
  | .fnc _, _, _, _, _, _, h => by cases h
  | .ty _, _, _, _, _, _, h => by cases h
theorem reads_qs (I : Inv X pins σ H s) (fr : ∀ a o, G.F a = some o → H a = some o) : ∀ (ds : List D) (vs : List V) (us : List Value) (ps : List PyData), Rps X.K G ds vs → Vals vs us → toQs ds = some ps → ∃ as, ReadsAll s.heap us ps as ∧ sysModules ∉ as
  | [], _, _, _, r0, r, h => by
    cases r0
    cases h
    cases r
    exact ⟨[], .nil, by simp⟩
  | d :: ds, _, _, _, r0, r, h => by
    cases r0 with
    | cons h1 h2 =>
      rw [toQs] at h
      split at h
      · rename_i p hp
        obtain ⟨ps, hps, rfl⟩ := Option.map_eq_some_iff.mp h
        cases r with
        | cons r1 r2 =>
          obtain ⟨as, q1, n1⟩ := reads_q I fr d _ _ p h1 r1 hp
          obtain ⟨bs, q2, n2⟩ := reads_qs I fr ds _ _ ps h2 r2 hps
          exact ⟨as ++ bs, .cons q1 q2, by simp [n1, n2]⟩
      · cases h
end
end
def reprT (p : PyData) : Bool := p.showable && decide (p.depth ≤ 60) && decide (p.shown.length ≤ sizeLine)
end PV
set_option Elab.async false
set_option linter.all false
set_option maxRecDepth 100000
set_option maxHeartbeats 4000000
namespace PV
open PySem PySem.Spec PyProof.Rows L2 ZL
section
variable {X : Cx} {g : G2}
end
end PV
set_option Elab.async false
set_option linter.all false
set_option maxRecDepth 100000
set_option maxHeartbeats 4000000
namespace GQN
open PySem PySem.SeqAt PyProof.Rows
open AutoSeq1 (wpAny_loadPart')
open MeetsSeq MeetsSeq2 MeetsSeq3 SeqRoads2
open GQ
section
variable {prog : Program} {w : World} {A : Around} {R : Result → Shared → Prop}
end
section
variable {prog : Program} {w : World} {A : Around} {E : Value → Shared → Prop} {s : Shared}
end
end GQN
namespace PV
open PySem PySem.Spec PyProof.Rows L2 ZL
end PV
set_option Elab.async false
set_option linter.all false
set_option maxRecDepth 100000
set_option maxHeartbeats 4000000
namespace PV
open PySem PySem.Spec PyProof.Rows L2 ZL
end PV
set_option Elab.async false
set_option linter.all false
set_option maxRecDepth 100000
set_option maxHeartbeats 4000000
namespace ZL
open PySem PySem.Spec PyProof.Rows L2
section
open PySem.W
variable {prog : Program} {w : World} {A : Around} {E : Value → Shared → Prop} {s : Shared} {K : Frag} {x C C2 f : Addr} {od : Option Obj} {ox : Obj} {nm : String} {Q : Value → Shared → Prop} {u : Value}
end
end ZL
namespace PV
open PySem PySem.Spec PyProof.Rows L2 ZL
end PV
set_option Elab.async false
set_option linter.all false
set_option maxRecDepth 100000
set_option maxHeartbeats 4000000
namespace PV
open PySem PySem.Spec PyProof.Rows L2
section
variable {X : Cx} {c : String} {F : Fn} {j n : Nat} {f : Addr} {ms ms2 : MA} {p pos : Pos} {e : Expr} {es : List Expr} {kws : List Keyword} {ks : List Str}
end
end PV
set_option Elab.async false
set_option linter.all false
set_option maxRecDepth 100000
set_option maxHeartbeats 4000000
namespace PV
open PySem PySem.Spec PyProof.Rows L2
end PV
set_option Elab.async false
set_option linter.all false
set_option maxRecDepth 100000
set_option maxHeartbeats 4000000
namespace PV
open PySem PySem.Spec PyProof.Rows L2 ZL
structure SupD (P : Program) (K : PySem.W.Frag) (x qual : Str) (params : Arguments) (body : List Stmt) (scope : Scope) (dvs : List V) (f D : Addr) (cdv : Value) (cc : Addr) (fd : FuncData) : Prop where
  lk : ∃ (oc : Value) (od : Option Addr) (osl : Array (Option Value)), K.lookup f = some ⟨oc, od, .func fd, osl⟩
  fd : ∃ (dV kV doc pm : Value) (an : Option Addr) (ct : Value), fd = PySem.W.ksFn x qual params body scope dV kV doc pm an cdv ct cc ∧ DflV K dV dvs
  code : PySem.W.codeIn K cdv qual = true
  cell : ∃ (cl : Value) (cld : Option Addr) (csl : Array (Option Value)), K.lookup cc = some ⟨cl, cld, .cell (some (.ref D)), csl⟩
  cls : ∃ cd, PySem.W.clsIn K D = some cd
  file : ∃ (cda : Addr) (ccl : Value) (cdd : Option Addr) (vs : Array Value) (ccs : Array (Option Value)) (file : Str) (tf : Tok), cdv = .ref cda ∧ K.lookup cda = some ⟨ccl, cdd, .fields vs, ccs⟩ ∧ vs[2]? = some (.str file tf) ∧ ((P.main.file : Str) == file) = true
  top : (P.main.scope.names.lookup ("super" : Str)).isSome = false
  opq : PySem.W.nsIn K cStatics "thirdparty.any" = some none
section
variable {X : Cx} {pins : List (Addr × Obj)} {σ : L2.St} {H : Hp} {s : Shared}
end
section
variable {P : Program} {w : World} {K : PySem.W.Frag} {mg : Str → Option Value} {base : Heap} {N ps : List Str} {x qual m : Str} {params : Arguments} {scope : Scope} {f cc D f2 C : Addr} {cdv : Value} {fd : FuncData} {A : Around} {outer : List Env} {s : Shared} {H : Hp} {E : XK}
  {rest : List Stmt} {body : List Stmt} {e : Expr} {es : List Expr} {p0 p1 apos pos epos : Pos} {k j : Nat} {sp : Sp} {dvs : List V}
end
section
variable {P : Program} {w : World} {K : PySem.W.Frag} {mg : Str → Option Value} {base : Heap} {N ps : List Str} {x qual : Str} {params : Arguments} {body rest : List Stmt} {scope : Scope} {f cc D : Addr} {cdv : Value} {fd : FuncData} {e : Expr} {es : List Expr} {p0 p1 apos pos epos : Pos} {j : Nat} {dvs : List V} {b : MS} {ms : MA}
end
end PV
set_option Elab.async false
set_option linter.all false
set_option maxRecDepth 100000
set_option maxHeartbeats 4000000
namespace PV
open PySem PySem.Spec PyProof.Rows L2 ZL
section
variable {P : Program} {w : World} {K : PySem.W.Frag} {mg : Str → Option Value} {base : Heap} {N ps : List Str} {x qual : Str} {params : Arguments} {body : List Stmt} {scope : Scope} {f cc Dc : Addr} {cdv : Value} {fd : FuncData} {k n : Nat} {dvs : List V} {dds : List D} {F : Fn}
theorem FnKO.mono {j : Nat} {f : Addr} {F : Fn} {ks : List Str} (h : FnKO P w K mg base j f n ks F) (hj : j ≤ k) : FnKO P w K mg base k f n ks F := by
  obtain ⟨fd, ps, g, gV, sp, Fk, hb, hsp⟩ := h
  exact ⟨fd, ps, g, gV, sp, Fk.mono hj, hb, hsp⟩
end
structure SupA where
  at_ : PySem.W.Frag → Addr
  D : PySem.W.Frag → Addr
  name : Str
  qual : Str
  params : Arguments
  body : List Stmt
  scope : Scope
  file : Str
  dfl : List He.Dv := []
def SupA.dvs (K : PySem.W.Frag) (d : SupA) : List V := d.dfl.map (He.Dv.v K)
def ccOf (K : PySem.W.Frag) (a : Addr) : Addr := match K.lookup a with
  | some ⟨_, _, .func fd, _⟩ => (match fd.closure with | (_, c) :: _ => c | _ => 0)
  | _ => 0
def supV (K : PySem.W.Frag) (d : SupA) : He5.FnW := some (d.name, d.qual, d.params, .stmts d.body, d.scope, mainGlobals, [(("__class__" : Str), ccOf K (d.at_ K))], builtinsNs)
def fileB (K : PySem.W.Frag) (cdv : Value) (file : Str) : Bool := match cdv with
  | .ref c => (match K.lookup c with
    | some ⟨_, _, .fields vs, _⟩ => (match (vs[2]? : Option Value) with
      | some (.str f _) => decide (f = file)
      | _ => false)
    | _ => false)
  | _ => false
theorem fileB_ok {K : PySem.W.Frag} {cdv : Value} {file : Str} (h : fileB K cdv file = true) :
    ∃ (cda : Addr) (ccl : Value) (cdd : Option Addr) (vs : Array Value) (ccs : Array (Option Value)) (tf : Tok), cdv = .ref cda ∧ K.lookup cda = some ⟨ccl, cdd, .fields vs, ccs⟩ ∧ (vs[2]? : Option Value) = some (.str file tf) := by
  unfold fileB at h
  cases cdv with
  | ref c =>
    have h : (match K.lookup c with
      | some ⟨_, _, .fields vs, _⟩ => (match (vs[2]? : Option Value) with
        | some (.str f _) => decide (f = file)
        | _ => false)
      | _ => false) = true := h
    cases q : K.lookup c with
    | none => rw [q] at h; cases h
    | some o =>
      obtain ⟨oc, od, dt, osl⟩ := o
      rw [q] at h
      cases dt with
      | fields vs =>
        have h : (match (vs[2]? : Option Value) with
          | some (.str f _) => decide (f = file)
          | _ => false) = true := h
        cases e : (vs[2]? : Option Value) with
        | none => rw [e] at h; cases h
        | some u =>
          rw [e] at h
          cases u with
          | str f t =>
            have z : f = file := of_decide_eq_true h
            subst z
            exact ⟨c, oc, od, vs, osl, t, rfl, q, e⟩
          | _ => cases h
      | _ => cases h
  | _ => cases h
def cellB (K : PySem.W.Frag) (cc D : Addr) : Bool := match K.lookup cc with
  | some ⟨_, _, .cell (some (.ref d)), _⟩ => decide (d = D)
  | _ => false
theorem cellB_ok {K : PySem.W.Frag} {cc D : Addr} (h : cellB K cc D = true) : ∃ (cl : Value) (cld : Option Addr) (csl : Array (Option Value)), K.lookup cc = some ⟨cl, cld, .cell (some (.ref D)), csl⟩ := by
  unfold cellB at h
  cases q : K.lookup cc with
  | none => rw [q] at h; cases h
  | some o =>
    obtain ⟨oc, od, dt, osl⟩ := o
    rw [q] at h
    cases dt with
    | cell v =>
      cases v with
      | none => cases h
      | some u =>
        cases u with
        | ref d =>
          have z : d = D := of_decide_eq_true h
          subst z
          exact ⟨oc, od, osl, rfl⟩
        | _ => cases h
    | _ => cases h
def SupA.ok (K : PySem.W.Frag) (d : SupA) : Bool := (match K.lookup (d.at_ K) with
  | some ⟨_, _, .func fd, _⟩ => PySem.W.codeIn K fd.code d.qual && (He.dflB K fd.defaults (d.dvs K) && fileB K fd.code d.file)
  | _ => false) && (cellB K (ccOf K (d.at_ K)) (d.D K) && ((PySem.W.clsIn K (d.D K)).isSome && He.eqO (PySem.W.nsIn K cStatics "thirdparty.any") (some none)))
def SupSays (sups : List SupA) (K : PySem.W.Frag) : Prop := (sups.all fun d => d.ok K) = true ∧ (sups.map fun d => He5.fnA K (d.at_ K)) = sups.map (supV K)
structure PrOk (P : Program) (file : Str) : Prop where
  file : (P.main.file : Str) = file
  top : (P.main.scope.names.lookup ("super" : Str)).isSome = false
theorem SupA.supD {P : Program} {K : PySem.W.Frag} {d : SupA} (e : He5.fnA K (d.at_ K) = supV K d) (c : d.ok K = true) (po : PrOk P d.file) :
    ∃ cdv fd, SupD P K d.name d.qual d.params d.body d.scope (d.dvs K) (d.at_ K) (d.D K) cdv (ccOf K (d.at_ K)) fd := by
  obtain ⟨c1, c2⟩ := He.ba c
  obtain ⟨c3, c4⟩ := He.ba c2
  obtain ⟨c5, c6⟩ := He.ba c4
  have hcell := cellB_ok c3
  have hop := He.eqO_ok c6
  have hcls : ∃ cd, PySem.W.clsIn K (d.D K) = some cd := Option.isSome_iff_exists.mp c5
  unfold supV at e
  unfold He5.fnA at e
  generalize hcc : ccOf K (d.at_ K) = cc at *
  cases q : K.lookup (d.at_ K) with
  | none => rw [q] at c1; cases c1
  | some o =>
    obtain ⟨oc, od, dt, osl⟩ := o
    rw [q] at c1 e
    cases dt with
    | func fd =>
      obtain ⟨n1, n2, n3, n4, n5, n6, n7, n8, n9, n10, n11, n12, n13, n14, n15⟩ := fd
      have e2 : (some (n1, n2, n3, n4, n5, n6, n7, n15) : He5.FnW) = some (d.name, d.qual, d.params, .stmts d.body, d.scope, mainGlobals, [(("__class__" : Str), cc)], builtinsNs) := e
      simp only [Option.some.injEq, Prod.mk.injEq] at e2
      obtain ⟨h1, h2, h3, h4, h5, h6, h7, h8⟩ := e2
      have c7 : (PySem.W.codeIn K n13 d.qual && (He.dflB K n8 (d.dvs K) && fileB K n13 d.file)) = true := c1
      obtain ⟨k1, k2⟩ := He.ba c7
      obtain ⟨k3, k4⟩ := He.ba k2
      obtain ⟨cda, ccl, cdd, vs, ccs, tf, f1, f2, f3⟩ := fileB_ok k4
      refine ⟨n13, _, ⟨oc, od, osl, q⟩, ⟨n8, n9, n10, n11, n12, n14, ?_, He.dflB_ok k3⟩, k1, hcell, hcls, ⟨cda, ccl, cdd, vs, ccs, d.file, tf, f1, f2, f3, ?_⟩, po.top, hop⟩
      · rw [h1, h2, h3, h4, h5, h6, h7, h8]
      · rw [po.file]; exact beq_self_eq_true _
    | _ => cases c1
theorem SupSays.def_ {P : Program} {sups : List SupA} {K : PySem.W.Frag} (c : SupSays sups K) (i : Nat) {d : SupA} (po : PrOk P d.file) (h : sups[i]? = some d := by rfl) :
    ∃ cdv fd, SupD P K d.name d.qual d.params d.body d.scope (d.dvs K) (d.at_ K) (d.D K) cdv (ccOf K (d.at_ K)) fd := by
  have e2 : (sups.map fun d => He5.fnA K (d.at_ K))[i]? = (sups.map (supV K))[i]? := by rw [c.2]
  rw [List.getElem?_map, List.getElem?_map, h] at e2
  exact SupA.supD (Option.some.inj e2) (List.all_eq_true.mp c.1 d (List.mem_of_getElem? h)) po
inductive Cv where
  | non | bl (b : Bool) | int (i : Int) | str (x : Str)
deriving DecidableEq
def Cv.dv : Cv → He.Dv
  | .non => .non
  | .bl b => .bl b
  | .int i => .int i
  | .str x => .str x
def Cv.d : Cv → D
  | .non => .non
  | .bl b => .bl b
  | .int i => .int i
  | .str x => .str x
end PV
set_option Elab.async false
set_option linter.all false
set_option maxRecDepth 100000
set_option maxHeartbeats 4000000
namespace PV
open PySem PySem.Spec PyProof.Rows L2 ZL
def icG (τ : List (String × D)) (f : String) : G1 := fun d S => match insOf S d with
  | some (c, fs) => match τ.lookup c with
    | some x => match fs.lookup f with
      | none => .ok x S
      | some _ => .no
    | none => .no
  | none => .no
section
variable {X : Cx} {e : Expr} {m : ME} {pos : Pos}
end
abbrev MC : Type := Str → MS
def mcN : MC := fun _ => sNil
def mcC (c : Str) (b : MS) (r : MC) : MC := fun z ρ S => if z = c then b ρ S else r z ρ S
def mcW (b : MS) : MC := fun _ => b
def sMtc (m : ME) (r : MC) : MS := fun ρ S => (m ρ S).bind fun d S1 => match d with
  | .str z => r z ρ S1
  | _ => .no
section
variable {X : Cx} {e : Expr} {m : ME} {pos p1 p2 : Pos} {body : List Stmt} {b : MS} {rest : List MatchCase} {r : MC} {c : Str} {j : Nat}
end
def mtKN (τ : List (String × Fn)) (n : String) (k : Nat) (o : ME) (ms : MA) : ME := fun ρ S => (o ρ S).bind fun x S1 => match insOf S1 x with
  | some (c, fs) => match τ.lookup c with
    | some F => match fs.lookup n with
      | none => (ms ρ S1).bind fun ds S2 => if ds.length = k then F (x :: ds) S2 else .no
      | some _ => .no
    | none => .no
  | none => .no
def mtPK (τ : List (String × Fn)) (n : String) (a k : Nat) (o : ME) (ms ks : MA) : ME := fun ρ S => (o ρ S).bind fun x S1 => match insOf S1 x with
  | some (c, fs) => match τ.lookup c with
    | some F => match fs.lookup n with
      | none => (ms ρ S1).bind fun xs S2 => (ks ρ S2).bind fun ys S3 => if xs.length = a ∧ ys.length = k then F (x :: (xs ++ ys)) S3 else .no
      | some _ => .no
    | none => .no
  | none => .no
section
variable {X : Cx} {e o : Expr} {es : List Expr} {mo : ME} {ms ms2 : MA} {pos apos : Pos} {kws : List Keyword} {ks : List Str} {j : Nat} {pl : Sem Bool}
end
end PV
set_option Elab.async false
set_option linter.all false
set_option maxRecDepth 100000
set_option maxHeartbeats 4000000
namespace PV
open PySem PySem.Spec PyProof.Rows L2 ZL RZ
theorem Rpk.gone {K : PySem.W.Frag} {G : Gh} {es : List (Str × D)} {kvs : List (Key × V)} (r : Rpk K G es kvs) {z : Str} (h : esG es z = none) : valV kvs (.inr z) = none := by
  induction r with
  | nil => rfl
  | @cons x d' v es kvs hv t ih =>
    unfold esG at h
    rw [List.find?_cons] at h
    by_cases q : x = z
    · rw [decide_eq_true q] at h
      cases h
    · rw [decide_eq_false q] at h
      have h1 := ih h
      have ne : ¬ ((Sum.inr x : Key) = .inr z) := fun e => q (Sum.inr.inj e)
      unfold valV at h1 ⊢
      rw [List.find?_cons, decide_eq_false ne]
      exact h1
section
variable {X : Cx}
end
end PV
set_option Elab.async false
set_option linter.all false
set_option maxRecDepth 100000
set_option maxHeartbeats 4000000
namespace PV
open PySem PySem.Spec PyProof.Rows L2 ZL
section
variable {X : Cx} {g : G2}
end
end PV
set_option Elab.async false
set_option linter.all false
set_option maxRecDepth 100000
set_option maxHeartbeats 4000000
namespace ZH
open PySem PySem.W L2
def obsM (lams : List Str) (chk : Frag → Bool) (fn : List He5.DefA) (ds : Dks) (Ka : Frag) : He.AlT × Bool := (obsY chk fn ds (dropT lams Ka), tabsB lams Ka (dropT lams Ka))
def SaysM (lams : List Str) (chk : Frag → Bool) (fn : List He5.DefA) (ds : Dks) (w : World) (Ka : Frag) : Prop := obsM lams chk fn ds Ka = ((He5.valA fn, ds.map fun d => some (He.keysIn w.params d.2)), true)
section
variable {lams : List Str} {chk : Frag → Bool} {fn : List He5.DefA} {ds : Dks} {w : World} {Ka : Frag}
theorem SaysM.y (c : SaysM lams chk fn ds w Ka) : SaysY chk fn ds w (dropT lams Ka) := congrArg (fun z : He.AlT × Bool => z.1) c
theorem SaysM.t (c : SaysM lams chk fn ds w Ka) : tabsB lams Ka (dropT lams Ka) = true := congrArg (fun z : He.AlT × Bool => z.2) c
end
end ZH
set_option Elab.async false
set_option linter.all false
set_option maxRecDepth 100000
set_option maxHeartbeats 4000000
namespace PV
open PySem PySem.Spec PyProof.Rows L2 ZL
section
variable {X : Cx} {o e : Expr} {mo m : ME} {apos pos : Pos}
end
end PV
namespace PV
open PySem PySem.Spec PyProof.Rows L2 ZL
end PV
set_option Elab.async false
set_option linter.all false
set_option maxRecDepth 100000
set_option maxHeartbeats 4000000
namespace PV
open PySem PySem.Spec PyProof.Rows L2 ZL
section
variable {P : Program} {w : World} {K : PySem.W.Frag} {mg : Str → Option Value} {base : Heap} {x qual : Str} {st : Stmt} {f : Addr} {fd : FuncData} {N : List Str} {n j : Nat} {b : MS} {p1 pv kn : Str} {v0 : V} {dv : D}
section
variable (F : FunD K x qual (defArgs st) (defBody st) (defScope st) [] [(kn, v0)] f fd) (S : FnScope N ([p1, kn] ++ [pv]) (defScope st)) (hN : N.length = n)
    (hbody : ∀ (cdv : Value) (A : Around) (outer : List Env) (s : Shared) (H : Hp) (E : XK), Room j (A.deeper (envOfC qual (defScope st) s.heap.objs.size f cdv)) →
      QSs (cxOf (L2.CX P w) P w K mg base N qual (defScope st) f cdv A outer s H E) (defBody st) b)
include F S hN hbody
end
end
section
variable {M : Model} {A : Around} {E : Value → Shared → Prop} {s : Shared}
end
section
variable {X : Cx} {c : String} {F : Fn} {j : Nat} {f : Addr} {kn x : Str} {sp : Sp}
end
end PV
set_option Elab.async false
set_option linter.all false
set_option maxRecDepth 100000
set_option maxHeartbeats 4000000
namespace PV
open PySem PySem.Spec PyProof.Rows L2 ZL
def KwCh {α : Type} (D : Addr) : List (Str × Value) → Sem α → Sem α → Prop
  | [], t, r => t = r
  | q :: l, t, r => ∃ (β γ : Type) (k1 : Option Value → Sem β) (k2 : β → Sem γ) (k3 : γ → Sem α) (a : β), t = ((nsGet D q.1 >>= k1) >>= k2) >>= k3 ∧ k1 (some q.2) = pure a ∧ KwCh D l (k2 a >>= k3) r
theorem KwCh.run {α : Type} {K : PySem.W.Frag} {M : Model} {A : Around} {E : Value → Shared → Prop} {Q : α → Shared → Prop} {s : Shared} {D : Addr} (X : K.In s.heap) : ∀ {l : List (Str × Value)} {t r : Sem α}, (∀ q ∈ l, PySem.W.nsIn K D q.1 = some (some q.2)) → KwCh D l t r → wpAny M A r Q E s → wpAny M A t Q E s
  | [], t, r, _, e, z => by
    have e : t = r := e
    rw [e]
    exact z
  | q :: l, t, r, hl, e, z => by
    obtain ⟨β, γ, k1, k2, k3, a, e1, e2, e3⟩ := e
    have L : PySem.W.Looks M s.heap (nsGet D q.1 >>= k1) a := (PySem.W.looks_nsIn X (hl q (List.mem_cons_self ..))).andThen (PySem.W.Looks.of_pure e2)
    rw [e1, bind_assoc]
    refine wpAny_bind (L.here ?_)
    exact KwCh.run X (fun p hp => hl p (List.mem_cons_of_mem _ hp)) e3 z
def FnKG (P : Program) (w : World) (K : PySem.W.Frag) (mg : Str → Option Value) (base : Heap) (k : Nat) (f : Addr) (np : Nat) (ks : List Str) (F : Fn) : Prop :=
  ∀ (A : Around) (outer : List Env) (s : Shared) (H : Hp) (us us2 ws : List Value) (vs : List V) (Q : VK) (E : XK), us.length = np → ws.length = ks.length → Room k A → Env0 P w K mg base A outer s H → Vals vs ((us ++ us2) ++ ws) → spF K F vs H Q E →
    codeAny (model P w) A (.call (.ref f) ⟨us ++ us2, ks.zip ws⟩) (CR (L2.CX P w) outer P w H s Q E) s
theorem FnKG.mono {P : Program} {w : World} {K : PySem.W.Frag} {mg : Str → Option Value} {base : Heap} {j k : Nat} {f : Addr} {np : Nat} {ks : List Str} {F : Fn} (h : FnKG P w K mg base j f np ks F) (hj : j ≤ k) : FnKG P w K mg base k f np ks F :=
  fun A outer s H us us2 ws vs Q E l1 l2 hr => h A outer s H us us2 ws vs Q E l1 l2 (hr.mono hj)
section
variable {P : Program} {w : World} {K : PySem.W.Frag} {mg : Str → Option Value} {base : Heap} {x qual : Str} {st : Stmt} {f : Addr} {fd : FuncData} {N ps : List Str} {n m np j : Nat} {b : MS} {pv : Str} {kws : List (Str × V)} {dds : List D} {ks : List Str} {idx : List Nat}
end
section
variable {X : Cx} {c : String} {F : Fn} {j : Nat} {f : Addr}
end
end PV
set_option Elab.async false
set_option linter.all false
set_option maxRecDepth 100000
set_option maxHeartbeats 4000000
namespace PV
open PySem PySem.Spec PyProof.Rows L2 ZL
section
variable {P : Program} {w : World} {K : PySem.W.Frag} {mg : Str → Option Value} {base : Heap} {N ps : List Str} {x qual : Str} {params : Arguments} {body pre rest : List Stmt} {scope : Scope} {f cc D : Addr} {cdv : Value} {fd : FuncData} {e : Expr} {es : List Expr} {p0 p1 apos pos epos : Pos} {j : Nat} {dvs : List V} {b bp : MS} {ms : MA}
end
end PV
set_option Elab.async false
set_option linter.all false
set_option maxRecDepth 100000
set_option maxHeartbeats 4000000
namespace PV
open PySem PySem.Spec PyProof.Rows L2 ZL
section
variable {X : Cx} {k : Nat} {C p g a dx : Addr} {fs : List (Str × V)} {f : Str} {sp : Sp}
end
end PV
set_option Elab.async false
set_option linter.all false
set_option maxRecDepth 100000
set_option maxHeartbeats 4000000
namespace PV
open PySem PySem.Spec PyProof.Rows L2 ZL
end PV
set_option Elab.async false
set_option linter.all false
set_option maxRecDepth 100000
set_option maxHeartbeats 4000000
namespace GQN
open PySem PySem.SeqAt PyProof.Rows
open AutoSeq1 (wpAny_loadPart')
open MeetsSeq MeetsSeq2 MeetsSeq3 SeqRoads2
open GQ
section
variable {prog : Program} {w : World} {A : Around} {R : Result → Shared → Prop}
end
section
variable {prog : Program} {w : World} {A : Around} {E : Value → Shared → Prop} {s : Shared}
end
section
variable {prog : Program} {w : World} {A : Around} {R : Result → Shared → Prop}
end
end GQN
namespace ZL
open PySem PySem.Spec PyProof.Rows L2
open PySem.W
section
variable {prog : Program} {w : World} {A : Around} {E : Value → Shared → Prop} {s : Shared} {K : Frag} {x y C C2 L f : Addr} {h₀ : Heap} {m : Str → Option Value} {ox oy : Obj} {od od2 : Option Obj}
end
end ZL

namespace PV
open PySem PySem.Spec PyProof.Rows L2 ZL
def kd : D → Nat
  | .non => 0
  | .bl _ => 1
  | .int _ => 2
  | .str _ => 3
  | .ty _ => 5
  | _ => 4
def aparts (f : D → D → Bool) : List D → List D → Bool
  | [], [] => false
  | x :: xs, y :: ys => f x y || aparts f xs ys
  | _, _ => true
def apartf (f : D → D → Bool) : List (String × D) → List (String × D) → Bool
  | [], [] => false
  | (_, x) :: xs, (_, y) :: ys => f x y || apartf f xs ys
  | _, _ => true
def apart (dj : List (String × String)) : Nat → D → D → Bool
  | 0, _, _ => false
  | n + 1, x, y => match x, y with
    | .int i, .int j => decide (i ≠ j)
    | .str a, .str b => decide (a ≠ b)
    | .bl a, .bl b => decide (a ≠ b)
    | .tup xs, .tup ys => aparts (apart dj n) xs ys
    | .lst xs, .lst ys => aparts (apart dj n) xs ys
    | .obj c fs, .obj d gs => dj.contains (c, d) || apartf (apart dj n) fs gs
    | .loc i, .loc j => decide (i ≠ j)
    | x, y => decide (kd x ≠ kd y)
section
variable {X : Cx} {pins : List (Addr × Obj)} {σ : L2.St} {H : Hp} {s : Shared} {G : Gh} {S : Sto} {dj : List (String × String)}
end
structure EqT where
  τ : List (String × Fn)
  prs : List (String × String)
  sb : List (String × String)
  dj : List (String × String)
section
variable {X : Cx} {j : Nat} {T : EqT}
def BackE (X : Cx) (pins : List (Addr × Obj)) (σ : L2.St) (G : Gh) (S : Sto) (H : Hp) (s' : Shared) : Prop := ∃ G1 H1, Inv X pins σ H1 s' ∧ Stp G H G1 H1 ∧ Sm X.K G1 S H1
theorem BackE.trans {pins : List (Addr × Obj)} {σ : L2.St} {G G1 : Gh} {S : Sto} {H H1 : Hp} {s' : Shared} (st : Stp G H G1 H1) (h : BackE X pins σ G1 S H1 s') : BackE X pins σ G S H s' := by
  obtain ⟨G2, H2, I2, st2, sm2⟩ := h
  exact ⟨G2, H2, I2, st.trans st2, sm2⟩
end
end PV
set_option Elab.async false
set_option linter.all false
set_option maxRecDepth 100000
set_option maxHeartbeats 4000000
namespace PV
open PySem PySem.Spec PyProof.Rows L2 ZL
section
variable {X : Cx} {c : String} {F : Fn} {j : Nat} {f : Addr}
end
end PV
set_option Elab.async false
set_option linter.all false
set_option maxRecDepth 100000
set_option maxHeartbeats 4000000
namespace PV
open PySem PySem.Spec PyProof.Rows L2 ZL
end PV
set_option Elab.async false
set_option linter.all false
set_option maxRecDepth 100000
set_option maxHeartbeats 4000000
namespace ZL
open PySem PySem.Spec PyProof.Rows L2
section
open PySem.W
variable {prog : Program} {w : World} {A : Around} {E : Value → Shared → Prop} {s : Shared} {K : Frag} {x C C2 f : Addr} {od : Option Obj} {ox : Obj} {nm : String} {Q : Value → Shared → Prop} {u : Value}
end
end ZL
namespace PV
open PySem PySem.Spec PyProof.Rows L2 ZL
end PV
set_option Elab.async false
set_option linter.all false
set_option maxRecDepth 100000
set_option maxHeartbeats 4000000
namespace PV
open PySem PySem.Spec PyProof.Rows L2 ZL
def mkX (c : String) (fl : List String) (ms : MA) : ME := fun ρ S => (ms ρ S).bind fun ds S1 => if ds.length = fl.length then .ok (.exc c (fl.zip ds).reverse) S1 else .no
theorem made_inv {X : Cx} {pins : List (Addr × Obj)} {σ : L2.St} {H : Hp} {sI s : Shared} {a : Addr} {o : HO} (J : Inv X pins σ H sI) (k : ∀ b o, sI.heap.get? b = some o → s.heap.get? b = some o) (hn : sI.heap.get? a = none) (na : H a = none) (os : s.os = sI.os) (ag : AllBare s.gens) (new : ObjOk X.prog X.w (upd H a o) s.heap a o) : Inv X pins σ (upd H a o) s := by
  have I1 := J.laidN (h' := s.heap) (t' := s.toks) k hn na new
  exact ⟨I1.ok, os.trans I1.os, ag, I1.base, I1.loc, I1.cell, I1.free, I1.freeC, I1.pin, I1.hok, I1.len⟩
theorem exv_ok {P : Program} {w : World} {H : Hp} {h : Heap} {a : Addr} {cls : Value} {d : Option Addr} {oe : Obj} {vs : Array Value} (e : h.get? a = some oe) (z : Zc cls d oe) (dd : oe.data = .fields vs) : ObjOk P w H h a (ExV cls d a) :=
  ⟨⟨oe, vs, e, z, dd⟩, ⟨oe, e⟩, fun _ _ ⟨o, v, q, r⟩ k => ⟨o, v, k o q, r⟩⟩
section
variable {X : Cx} {c : String} {p pos pos' : Pos} {ms : MA}
theorem qe_mkx_of {fl : List String} {e : Expr} {t : L2.St → Hp → XK → Prop} (he : PMk X e t)
    (ht : ∀ ρ S G σ H (W : XK), Sm X.K G S H → Re X.K G ρ σ → sat X (Rps X.K) G H (ms ρ S) (fun vs H1 => ∃ ds S1 G1, Stp G H G1 H1 ∧ Sm X.K G1 S1 H1 ∧ Rps X.K G1 ds vs ∧ ds.length = fl.length ∧ ∀ cls dd H', wEx X.K G1 H1 c (fl.zip ds).reverse S1 cls dd H' → W cls dd H') → t σ H W) :
    QE X e (mkX c fl ms) := ⟨fun pins s σ H Q I ⟨ρ, S, G, sm, re, z⟩ => by
  refine wpAny_mono (he pins s σ H (fun cls d H' => ∀ a, H' a = none → Q (.ref a) (upd H' a (ExV cls d a))) I (ht ρ S G σ H _ sm re ?_)) (fun u s1 hu => ?_) fun _ _ x => x
  · have z2 : sat X (Rp X.K) G H ((ms ρ S).bind fun ds S1 => if ds.length = fl.length then Out.ok (D.exc c (fl.zip ds).reverse) S1 else .no) Q := z
    cases hm : ms ρ S with
    | no => rw [hm] at z2; exact z2.elim
    | ex c' fs' S' => rw [hm] at z2; exact z2
    | ok ds S1 =>
      rw [hm] at z2
      have z3 : sat X (Rp X.K) G H (if ds.length = fl.length then Out.ok (D.exc c (fl.zip ds).reverse) S1 else .no) Q := z2
      by_cases hl : ds.length = fl.length
      · rw [if_pos hl] at z3
        intro G1 H1 vs le sm1 r
        refine ⟨ds, S1, G1, le, sm1, r, hl, fun cls dd H2 w a na => ?_⟩
        obtain ⟨G2, st, sm2, rfl, hor⟩ := w
        have st3 := Stp.put (o := ExV (.ref (gaS X.K c)) dd a) sm2 na
        refine z3 _ _ _ (le.trans (st.trans st3)) (sm2.put na) ?_
        rcases hor with ⟨e0, rfl⟩ | ⟨d, ws, rfl, hd, rf⟩
        · rw [e0]
          exact .exc0 upd_same
        · have hda : d ≠ a := fun e => by
            have z := sm2.fr _ _ hd
            rw [e, na] at z
            cases z
          exact .exc (d := d) (ws := ws) upd_same (by show upd _ _ _ _ = _; rw [upd_ne hda]; exact hd) (rf.mono (Gh.put_le (sm2.free na)))
      · rw [if_neg hl] at z3
        exact z3.elim
  · obtain ⟨a, oe, vs, sI, H', cls, d, rfl, J, k, hne, ha, hz, hd, h1, na, os, ag, r, q⟩ := hu
    exact ⟨.ref a, _, made_inv J k hne na os ag (exv_ok ha hz hd), rfl, q a na⟩⟩
theorem qe_mkx1 {f : String} (T : OexC X.K (gaS X.K c)) (iC : PySem.W.findIn X.K (.ref (gaS X.K c)) "__init__" = some (some (.ref fI))) (tI : PySem.W.typeIn X.K (.ref fI) = some (.type "function"))
    (F1 : FnOk X.prog X.w X.K X.mg X.base (L2.CX X.prog X.w) 1 fI fd ps (spX1 (gaS X.K c) (Str.ofString f))) (hr : Room 2 X.A) (hb : Binds X.K fd ps []) (hm : X.mg (Str.ofString c) = some (.ref (gaS X.K c))) (ha : QA X (e :: es) ms)
    (hg : Gl X (Str.ofString c) := by rfl) (hdb : (Str.ofString c == ("__debug__" : Str)) = false := by decide) (he : starEach (e :: es) X.env = (false, eval e X.env) :: starEach es X.env := by rfl) (hpl : (backTo pos (starEach es X.env)).any (·.1) = false := by rfl) :
    QE X (.Call (.Name (Str.ofString c) p) (e :: es) [] pos) (mkX c [f] ms) :=
  qe_mkx_of (pmk_oex T iC tI F1 hr hb .nil (passes_call (LamX.takes0 (X := X)) fun _ _ _ _ z => z) hg hm ha hdb he hpl) fun ρ S G σ H W sm re h => by
    refine ⟨ρ, S, G, sm, re, h.imp fun vs H1 w => ?_⟩
    obtain ⟨ds, S1, G1, le, sm1, r, hl, hw⟩ := w
    match ds, hl, r, hw with
    | [d0], _, .cons (v := v0) r0 .nil, hw =>
      refine ⟨by simp, fun a na => ⟨a, v0, rfl, upd_same, fun d hd hda => ⟨rfl, d, [(Str.ofString f, v0)], upd_same, by rw [upd_ne hda]; exact upd_same, by rw [upd_ne hda] at hd; exact hd, ?_⟩⟩⟩
      rw [raised_xd (G1 := G1) (S1 := S1) (C := 0) (G := G) (o2 := .own 0) na hd hda _ fun b q1 q2 => by rw [upd_ne q1, upd_ne q2, upd_ne q1]]
      rw [upd_ne hda] at hd
      exact hw _ _ _ (wEx_xd sm1 hd (.cons r0 .nil))
theorem qe_mkx2 {f g : String} (T : OexC X.K (gaS X.K c)) (iC : PySem.W.findIn X.K (.ref (gaS X.K c)) "__init__" = some (some (.ref fI))) (tI : PySem.W.typeIn X.K (.ref fI) = some (.type "function"))
    (F1 : FnOk X.prog X.w X.K X.mg X.base (L2.CX X.prog X.w) 1 fI fd ps (spX2 (gaS X.K c) (Str.ofString f) (Str.ofString g))) (hr : Room 2 X.A) (hb : Binds X.K fd ps []) (hm : X.mg (Str.ofString c) = some (.ref (gaS X.K c))) (ha : QA X (e :: es) ms)
    (hg : Gl X (Str.ofString c) := by rfl) (hdb : (Str.ofString c == ("__debug__" : Str)) = false := by decide) (he : starEach (e :: es) X.env = (false, eval e X.env) :: starEach es X.env := by rfl) (hpl : (backTo pos (starEach es X.env)).any (·.1) = false := by rfl) :
    QE X (.Call (.Name (Str.ofString c) p) (e :: es) [] pos) (mkX c [f, g] ms) :=
  qe_mkx_of (pmk_oex T iC tI F1 hr hb .nil (passes_call (LamX.takes0 (X := X)) fun _ _ _ _ z => z) hg hm ha hdb he hpl) fun ρ S G σ H W sm re h => by
    refine ⟨ρ, S, G, sm, re, h.imp fun vs H1 w => ?_⟩
    obtain ⟨ds, S1, G1, le, sm1, r, hl, hw⟩ := w
    match ds, hl, r, hw with
    | [d0, d1], _, .cons (v := v0) r0 (.cons (v := v1) r1 .nil), hw =>
      refine ⟨by simp, fun a na => ⟨a, v0, v1, rfl, upd_same, fun d hd hda => ⟨rfl, d, [(Str.ofString g, v1), (Str.ofString f, v0)], by rw [upd_ne (Ne.symm hda)]; exact upd_same, upd_same, by rw [upd_ne hda] at hd; exact hd, ?_⟩⟩⟩
      rw [raised_xd (G1 := G1) (S1 := S1) (C := 0) (G := G) (o2 := .own 0) na hd hda _ fun b q1 q2 => by rw [upd_ne q2, upd_ne q1, upd_ne q2, upd_ne q1]]
      rw [upd_ne hda] at hd
      exact hw _ _ _ (wEx_xd sm1 hd (.cons r1 (.cons r0 .nil)))
theorem qe_mkx0 (q : PySem.W.excIn X.K (gaS X.K c) PySem.HandSPX.veTail "ValueError.__new__" = true) (k : XC X.K (gaS X.K c)) (hm : X.mg (Str.ofString c) = some (.ref (gaS X.K c)))
    (hg : Gl X (Str.ofString c) := by rfl) (hdb : (Str.ofString c == ("__debug__" : Str)) = false := by decide) : QE X (.Call (.Name (Str.ofString c) p) [] [] pos) (mkX c [] aNil) :=
  qe_mkx_of (pmk_own0 F.excBase_ValueError q hm k.kp (raises_own k.ex k.ty) hg hdb) fun ρ S G σ H W sm re h => by
    have h2 : sat X (Rps X.K) G H (.ok [] S) _ := h
    obtain ⟨ds, S1, G1, le, sm1, r, hl, hw⟩ := h2 G H [] .refl sm .nil
    cases r
    exact hw _ _ _ ⟨G1, .refl, sm1, rfl, .inl ⟨rfl, rfl⟩⟩
end
end PV
set_option Elab.async false
set_option linter.all false
set_option maxRecDepth 100000
set_option maxHeartbeats 4000000
namespace PV
open PySem PySem.Spec PyProof.Rows L2 ZL
end PV
set_option Elab.async false
set_option linter.all false
set_option maxRecDepth 100000
set_option maxHeartbeats 4000000
namespace PV
open PySem PySem.Spec PyProof.Rows L2 ZL
section
variable {X : Cx} {j : Nat} {c : String} {f f' : Addr} {F : Fn} {g : G2}
end
end PV
set_option Elab.async false
set_option linter.all false
set_option maxRecDepth 100000
set_option maxHeartbeats 4000000
namespace PV
open PySem PySem.Spec PyProof.Rows L2 ZL RZ
end PV
set_option Elab.async false
set_option linter.all false
set_option maxRecDepth 100000
set_option maxHeartbeats 4000000
namespace PV
open PySem PySem.Spec PyProof.Rows L2 ZL
section
variable {X : Cx} {o e : Expr} {es : List Expr} {mo : ME} {ms : MA} {apos cpos : Pos}
end
end PV
set_option Elab.async false
set_option linter.all false
set_option maxRecDepth 100000
set_option maxHeartbeats 4000000
namespace PV
open PySem PySem.Spec PyProof.Rows L2 ZL
end PV
set_option Elab.async false
set_option linter.all false
set_option maxRecDepth 100000
set_option maxHeartbeats 4000000
namespace PV
open PySem PySem.Spec PyProof.Rows L2 ZL
end PV
set_option Elab.async false
set_option linter.all false
set_option maxRecDepth 100000
set_option maxHeartbeats 4000000
namespace PV
open PySem PySem.Spec PyProof.Rows L2 ZL
section
variable {X : Cx} {c : String} {F : Fn} {j : Nat} {o : Expr} {mo : ME} {ms : MA} {apos pos : Pos} {m : Str} {p g : Addr} {mc : Value} {pl : Sem Bool} {kws : List Keyword} {ks : List Str}
end
end PV
set_option Elab.async false
set_option linter.all false
set_option maxRecDepth 100000
set_option maxHeartbeats 4000000
namespace PV
open PySem PySem.Spec PyProof.Rows L2 ZL
end PV
set_option Elab.async false
set_option linter.all false
set_option maxRecDepth 100000
set_option maxHeartbeats 4000000
namespace PV
open PySem PySem.Spec PyProof.Rows L2 ZL
def toM (d : D) : Option PyData := match toQ d with
  | some p => some p
  | none => match toP d with
    | some p => if p.hasDict = false then some p else none
    | none => none
section
variable {X : Cx} {pins : List (Addr × Obj)} {σ : L2.St} {H : Hp} {s : Shared} {G : Gh}
end
end PV
set_option Elab.async false
set_option linter.all false
set_option maxRecDepth 100000
set_option maxHeartbeats 4000000
namespace PV
open PySem PySem.Spec PyProof.Rows L2 ZL
end PV
set_option Elab.async false
set_option linter.all false
set_option maxRecDepth 100000
set_option maxHeartbeats 4000000
namespace PV
open PySem PySem.Spec PyProof.Rows L2 ZL
section
variable {X : Cx} {o e : Expr} {es : List Expr} {mo m : ME} {ms : MA} {apos cpos pos : Pos}
end
end PV
set_option Elab.async false
set_option linter.all false
set_option maxRecDepth 100000
set_option maxHeartbeats 4000000
namespace PV
open PySem PySem.Spec PyProof.Rows L2 ZL
end PV
set_option Elab.async false
set_option linter.all false
set_option maxRecDepth 100000
set_option maxHeartbeats 4000000
namespace PV
open PySem PySem.Spec PyProof.Rows L2 ZL
section
variable {X : Cx} {CX : CXT} {k : Nat} {f C : Addr} {sp : Sp} {E : XK}
end
section
variable {X : Cx} {pos : Pos}
end
end PV
set_option Elab.async false
set_option linter.all false
set_option maxRecDepth 100000
set_option maxHeartbeats 4000000
namespace PV
open PySem PySem.Spec PyProof.Rows L2 ZL
end PV
set_option Elab.async false
set_option linter.all false
set_option maxRecDepth 100000
set_option maxHeartbeats 4000000
namespace PV
open PySem PySem.Spec PyProof.Rows L2 ZL
section
variable {X : Cx}
end
end PV
set_option Elab.async false
set_option linter.all false
set_option maxRecDepth 100000
set_option maxHeartbeats 4000000
namespace PV
open PySem PySem.Spec PyProof.Rows L2 ZL HotX
end PV
set_option Elab.async false
set_option linter.all false
set_option maxRecDepth 100000
set_option maxHeartbeats 4000000
namespace PV
open PySem PySem.Spec PyProof.Rows L2 ZL
section
variable {X : Cx} {c : String} {p np pos pos' : Pos} {ms : MA}
end
end PV
set_option Elab.async false
set_option linter.all false
set_option maxRecDepth 100000
set_option maxHeartbeats 4000000
namespace PV
open PySem PySem.Spec PyProof.Rows L2 ZL
end PV
set_option Elab.async false
set_option linter.all false
set_option maxRecDepth 100000
set_option maxHeartbeats 4000000
namespace PV
open PySem PySem.Spec PyProof.Rows L2 ZL RZ
end PV
set_option Elab.async false
set_option linter.all false
set_option maxRecDepth 100000
set_option maxHeartbeats 4000000
namespace PV
open PySem PySem.Spec PyProof.Rows L2 ZL RZ
end PV
set_option Elab.async false
set_option linter.all false
set_option maxRecDepth 100000
set_option maxHeartbeats 4000000
namespace ZL
open PySem PySem.Spec PyProof.Rows L2
section
open PySem.W
variable {prog : Program} {w : World} {A : Around} {E : Value → Shared → Prop} {s : Shared} {K : Frag} {x C C2 f f2 : Addr} {od : Option Obj} {ox : Obj} {Q : Value → Shared → Prop} {u : Value}
end
end ZL
namespace PV
open PySem PySem.Spec PyProof.Rows L2 ZL
end PV
set_option Elab.async false
set_option linter.all false
set_option maxRecDepth 100000
set_option maxHeartbeats 4000000
namespace PySem.HandSPX
open PySem PySem.Spec PyProof.Rows PySem.W
section
variable {M : Model} {A : Around} {E : Value → Shared → Prop} {h : Heap} {g : Array GenState} {d : Drawn} {t : Nat} {os : OsState}
variable {nm q : Str} {C N : Addr} {bs bm bmB : List Value} {hdct : Bool} {sn : List Str} {sub : List Value} {ab : Bool} {col : Option Bool} {dd : Option Addr} {k0 k1 k2 k3 k5 : Option Value} {B newId initId : String}
theorem check_newK (F : ExcBaseFacts B newId initId bmB) (hT : ∀ X : String, bm.contains (.type X) = bmB.contains (.type X)) {kw : List (Str × Value)} {Q : Unit → Shared → Prop}
    (hC : h.get? C = some (excClassObj nm q C N bs bm hdct sn sub ab col dd k0 k1 k2 k3 k5 newId)) (hq : Q () ⟨h, g, d, t, os⟩) : wpAny M A (checkBuiltinCall newId ⟨[.ref C], kw⟩) Q E ⟨h, g, d, t, os⟩ := by
  have hcont : (Value.ref C :: bm).contains (.type B) = true := by rw [List.contains_cons, hT, F.hasB, Bool.or_true]
  have hstar := F.noStar
  simp only [checkBuiltinCall, F.newKind, F.newSplit, F.newRow]
  repeat (first | refine wpAny_loadPart_at hC ?_ | (refine wpAny_isSubtype_exc hC ?_; rw [hcont]) | refine wpAny_staticBase_exc hC ?_ | refine wpAny_madeBy_exc hC ?_ | simp only [bne_self_eq_false, Bool.false_eq_true, if_false] | wp_step)
  exact hq
end
section
variable {prog : Program} {w : World} {A : Around} {E : Value → Shared → Prop} {R : Result → Shared → Prop} {h : Heap} {g : Array GenState} {d : Drawn} {t : Nat} {os : OsState}
variable {nm q : Str} {C N : Addr} {bs bm bmB : List Value} {hdct : Bool} {sn : List Str} {sub : List Value} {ab : Bool} {col : Option Bool} {dd : Option Addr} {k0 k1 k2 k3 k5 : Option Value} {B newId initId : String}
theorem new_ownK (F : ExcBaseFacts B newId initId bmB) (hT : ∀ X : String, bm.contains (.type X) = bmB.contains (.type X)) {kw : List (Str × Value)}
    (hC : h.get? C = some (excClassObj nm q C N bs bm hdct sn sub ab col dd k0 k1 k2 k3 k5 newId))
    (hq : R (.ok (.ret (.ref (h.objs.size + 1)))) ⟨(h.push { cls := .type "tuple", data := .seq #[] }).push
      { cls := .ref C, data := .fields #[.ref h.objs.size, .none, .none, .none, .bool false, .none] }, g, d, t, os⟩) :
    codeAny (model prog w) A (.builtin newId ⟨[.ref C], kw⟩) R ⟨h, g, d, t, os⟩ := by
  have hrest : ([] : List Value).length ≤ sizeLine := Nat.zero_le _
  have hends := F.ends
  have hcB : (Value.ref C :: bm).contains (.type B) = true := by rw [List.contains_cons, hT, F.hasB, Bool.or_true]
  have hcA : (Value.ref C :: bm).contains (.type "AttributeError") = false := by rw [List.contains_cons, hT, F.noAttr]; rfl
  have hcN : (Value.ref C :: bm).contains (.type "NameError") = false := by rw [List.contains_cons, hT, F.noName]; rfl
  refine codeAny_builtinAt F.entry ?_
  unfold Builtin.«BaseException.__new__»
  refine wpAt_bind ?_
  show wpAt _ _ _ (stack >>= _) _ _ _
  refine wpAt_bind (wpAt_stack fun p below => wpAt_of_wpAny ?_)
  wp_walk
  refine wpAt_of_wpAny ?_
  rw [F.owner]
  repeat (first | with_reducible refine wpAny_madeHere_exc F.canon hC ?_ | with_reducible refine wpAny_loadPart_at hC ?_ | (with_reducible refine wpAny_isSubtype_exc hC ?_; first | rw [hcB] | rw [hcA] | rw [hcN]) | wp_step)
  show R _ _
  rw [Heap.size_push]
  exact hq
theorem type_call_ownK (F : ExcBaseFacts B newId initId bmB) (hT : ∀ X : String, bm.contains (.type X) = bmB.contains (.type X)) {kw : List (Str × Value)} {fI : Addr} {Q : Fin → Shared → Prop}
    (hC : h.get? C = some (excClassObj nm q C N bs bm hdct sn sub ab col dd k0 k1 k2 k3 k5 newId))
    (hi : W.Looks (model prog w) h (typeLookup (.ref C) "__init__") (some (.ref fI))) (hb : ∀ self, W.Looks (model prog w) h (bindSpecial (.ref fI) self) (.ref fI, [self]))
    (hq : codeAny (model prog w) A (.call (.ref fI) ⟨[.ref (h.objs.size + 1)], kw⟩)
      (fun r s' => match r with | .ok (.ret v) => v = .none ∧ Q (.done (.ret (.ref (h.objs.size + 1)))) s' | .ok _ => False | .error e => E e s')
      ⟨(h.push (W.kdv_tup [])).push (excO C h.objs.size), g, d, t, os⟩) :
    wpAny (model prog w) A (Builtin.«type.__call__» ⟨[.ref C], kw⟩) Q E ⟨h, g, d, t, os⟩ := by
  repeat (first | with_reducible refine wpAny_loadPart_at hC ?_ | with_reducible refine wpAny_madeBy_exc hC ?_ | wp_step)
  refine codeAny_call_builtin_code (Code.quiet_builtin _ F.quiet) (check_newK F hT hC ?_)
  refine new_ownK F hT hC ?_
  show wpAny _ _ _ _ _ _
  have k : ∀ b o, h.get? b = some o → ((h.push (W.kdv_tup [])).push (excO C h.objs.size)).get? b = some o := fun b o e => Heap.get?_push_of_some _ (Heap.get?_push_of_some _ e)
  have hC₁ := k _ _ hC
  have hget : ((h.push (W.kdv_tup [])).push (excO C h.objs.size)).get? (h.objs.size + 1) = some (excO C h.objs.size) := by heap_get
  have hcC : (Value.ref C :: bm).contains (.ref C) = true := by simp
  have i1 := hi.keeps k
  have b1 := (hb (.ref (h.objs.size + 1))).keeps k
  unfold isInstance
  repeat (first | with_reducible refine wpAny_loadPart_at hget ?_ | (with_reducible refine wpAny_isSubtype_exc hC₁ ?_; rw [hcC]) | wp_step)
  show wpAny _ _ (typeLookup (.ref C) _) _ _ _
  refine i1.at ?_
  refine wpAny_holding (wpAny_bind (b1.at ?_))
  refine wpAny_bind (wpAny_call (codeAny_mono hq fun r s' z => ?_))
  rcases r with e | (v | _ | _ | _) <;> first | exact z | exact z.elim | skip
  obtain ⟨rfl, z⟩ := z
  first
    | exact wpAny_pure (wpAny_pure z)
    | (wp_walk; exact z)
theorem call_ownK (F : ExcBaseFacts B newId initId bmB) (hT : ∀ X : String, bm.contains (.type X) = bmB.contains (.type X)) {kw : List (Str × Value)} {fI : Addr}
    (hC : h.get? C = some (excClassObj nm q C N bs bm hdct sn sub ab col dd k0 k1 k2 k3 k5 newId))
    (hi : W.Looks (model prog w) h (typeLookup (.ref C) "__init__") (some (.ref fI))) (hb : ∀ self, W.Looks (model prog w) h (bindSpecial (.ref fI) self) (.ref fI, [self]))
    (hq : codeAny (model prog w) (A.under (.builtin "type.__call__" ⟨[.ref C], kw⟩)) (.call (.ref fI) ⟨[.ref (h.objs.size + 1)], kw⟩) (W.InitBack (h.objs.size + 1) R)
      ⟨(h.push (W.kdv_tup [])).push (excO C h.objs.size), g, d, t, os⟩) :
    codeAny (model prog w) A (.call (.ref C) ⟨[], kw⟩) R ⟨h, g, d, t, os⟩ := by
  have f1 := tc_lookup
  have f2 := tc_bind (.ref C)
  have hTy : (⟨h, g, d, t, os⟩ : Shared).TypeIs (.ref C) "type" := ⟨_, hC, rfl⟩
  refine codeAny_of_tree ?_
  show wpAny _ _ (callAny (.ref C) _) _ _ _
  repeat (any_goals (first | assumption | with_reducible refine wpAny_loadPart_at hC ?_ | wp_step))
  refine ⟨rfl, ?_⟩
  refine codeAny_call_builtin_at (Code.quiet_builtin _ (by decide +kernel)) entry_typeCall (wpAny_check_type_call_sub hC (type_call_ownK F hT hC hi hb ?_))
  refine codeAny_mono hq fun r s' z => ?_
  rcases r with e | (v | _ | _ | _) <;> exact z
end
end PySem.HandSPX
namespace PV
open PySem PySem.Spec PyProof.Rows L2 ZL PySem.OEX
theorem pmk_oexK {X : Cx} {p pos : Pos} {CX : CXT} {x : Str} {C fI : Addr} {k : Nat} {fd : FuncData} {ps : List Str} {sp : Sp} {kws : List Keyword} {ks : List Str} {g : List Value → List Value → List Value} {gV : List V → List V → List V} {ms : MA} (T : OexC X.K C) (iC : PySem.W.findIn X.K (.ref C) "__init__" = some (some (.ref fI))) (tI : PySem.W.typeIn X.K (.ref fI) = some (.type "function"))
    (F1 : FnOk X.prog X.w X.K X.mg X.base CX k fI fd ps sp) (hr : Room (k + 1) X.A) (hb : KBn X.K fd ps 1 ks g gV) (hx : Passes CX X (fun _ _ _ => False)) (hg : Gl X x) (hm : X.mg x = some (.ref C)) (ha : QK X kws ms)
    (hdb : (x == ("__debug__" : Str)) = false := by decide) (hall : (backToKw pos (keywordEach kws X.env)).all (·.1.isSome) = true := by rfl) (hks : (backToKw pos (keywordEach kws X.env)).filterMap (·.1) = ks := by rfl)
    (hpl : ((backTo pos (starEach [] X.env)).any (·.1) || (backToKw pos (keywordEach kws X.env)).any (·.1.isNone)) = false := by rfl) :
    PMk X (.Call (.Name x p) [] kws pos) (fun σ H Q => tA X ms σ H fun zs H1 => zs.length = ks.length ∧ ∀ a, H1 a = none → sp (gV [.ref a] zs) (upd H1 a (exo a C none))
  (fun v H2 => v = .non ∧ ∃ (d : Addr) (fs : List (Str × V)), H2 a = some (exo a C (some d)) ∧ H2 d = some (exd d fs) ∧ H1 d = none ∧ Q (.ref C) (some d) (upd (del H2 a) d (.xd fs))) (fun _ _ _ => False)) := by
  intro pins s σ H Q I h
  obtain ⟨nm, q, N, bs, bm, sn, sub, ab, col, dd, k0, k1, k2, k3, k5, hC, hbm⟩ := T.cls
  refine wpAny_Call_Name_kw (ld_glob I hg hm ?_ hdb)
  refine PySem.W.callWith_KW0 (h₀ := X.base) I.ok.mod.kin T.kC hall ?_ hpl
  refine thn (ha.run pos pins s σ H _ I h) fun ws s1 ⟨zs, H1, I1, rz, l2, q1⟩ => ⟨I1.kIn, ?_⟩
  rw [hks]
  obtain ⟨hp, g', dr, tk, os⟩ := s1
  have hsz : hp.objs.size ≤ hp.objs.size + 1 := Nat.le_succ _
  have hn : H1 (hp.objs.size + 1) = none := I1.hok.fresh hsz
  have hq := q1 (hp.objs.size + 1) hn
  have kk : ∀ b o, hp.get? b = some o → ((hp.push (PySem.W.kdv_tup [])).push (PySem.HandSPX.excO C hp.objs.size)).get? b = some o := fun b o e => Heap.get?_push_of_some _ (Heap.get?_push_of_some _ e)
  have hget : ((hp.push (PySem.W.kdv_tup [])).push (PySem.HandSPX.excO C hp.objs.size)).get? (hp.objs.size + 1) = some (PySem.HandSPX.excO C hp.objs.size) := by heap_get
  have I2 : Inv X pins σ (upd H1 (hp.objs.size + 1) (exo (hp.objs.size + 1) C none)) ⟨(hp.push (PySem.W.kdv_tup [])).push (PySem.HandSPX.excO C hp.objs.size), g', dr, tk, os⟩ :=
    I1.laid (t' := tk) (a := hp.objs.size + 1) (o := exo (hp.objs.size + 1) C none) (h' := (hp.push (PySem.W.kdv_tup [])).push (PySem.HandSPX.excO C hp.objs.size)) kk hsz (exo_ok hget)
  have r1 : Vals [V.ref (hp.objs.size + 1)] [Value.ref (hp.objs.size + 1)] := .cons rfl .nil
  have r2 := hb.rel r1 rz
  refine wpAny_call (PySem.HandSPX.call_ownK F.excBase_ValueError (fun Y => PySem.HandSPX.refsVE_contains Y bm hbm) (I1.kIn _ _ hC) (PySem.W.looks_findIn I1.kIn iC) (fun self => PySem.W.bind_fn I1.kIn self tI)
    (codeAny_mono (F1.run _ X.stack _ _ ⟨[Value.ref (hp.objs.size + 1)], ks.zip ws⟩ (g [Value.ref (hp.objs.size + 1)] ws) _ _ (fun _ _ _ => False) (hr.make C [] (ks.zip ws)) (I2.env0.make C [] (ks.zip ws)) (hb.to _ [Value.ref (hp.objs.size + 1)] ws I2.kIn rfl (rz.length.symm.trans l2)) r2 hq) fun r s' hq' => ?_))
  cases r with
  | error er => exact hx pins σ _ _ er s' I2 hq'
  | ok fl =>
    cases fl with
    | ret u =>
      obtain ⟨v, H2, os2, bare2, un2, hok2, rv, ev, d, fs, ea, ed, hd1, q2⟩ := hq'
      subst ev
      obtain ⟨h2, g2, d2, t2, os'⟩ := s'
      exact ⟨rv, mk_end (raises_own T.exC T.tyC) I1 hsz kk un2 hok2 os2 bare2 ea ed hd1 q2⟩
    | next => exact False.elim hq'
    | brk => exact False.elim hq'
    | cont => exact False.elim hq'
def revA (ms : MA) : MA := fun ρ S => (ms ρ S).bind fun ds S1 => .ok ds.reverse S1
theorem rps_rev {K : PySem.W.Frag} {G : Gh} : ∀ {ds : List D} {vs : List V}, Rps K G ds vs → Rps K G ds.reverse vs.reverse
  | _, _, .nil => .nil
  | _, _, .cons a b => by
    rw [List.reverse_cons, List.reverse_cons]
    exact (rps_rev b).append (.cons a .nil)
theorem kbn_of {K : PySem.W.Frag} {x qual : Str} {st : Stmt} {kws : List (Str × V)} {f : Addr} {fd : FuncData} {ps : List Str} {m : Nat} (ks : List Str) (idx : List Nat) (F : FunD K x qual (defArgs st) (defBody st) (defScope st) [] kws f fd)
    (hb : ∀ (kV doc pm : Value) (an : Option Addr) (cdv ct : Value) (us ws : List Value), us.length = m → ws.length = ks.length → bindArgs (PySem.W.fnOf x qual (defArgs st) (defBody st) (defScope st) .none kV doc pm an cdv ct) ⟨us, ks.zip ws⟩ = pure (ps.zip (pickL idx (us ++ ws)))) :
    KBn K fd ps m ks (fun us ws => pickL idx (us ++ ws)) (fun vs zs => pickL idx (vs ++ zs)) := by
  refine ⟨?_, fun r r' => pick_vals (r.append r') idx⟩
  obtain ⟨oc, od, dV, kV, doc, pm, an, cdv, ct, osl, rfl, lk, hcd, hD, hK⟩ := F.ex
  intro s us ws _ l1 l2
  rcases hD with ⟨_, rfl⟩ | ⟨e, _⟩
  · exact .of_eq (hb kV doc pm an cdv ct us ws l1 l2)
  · exact absurd rfl e
section
variable {X : Cx} {c : String} {p pos : Pos} {ms : MA} {kws : List Keyword} {fI : Addr} {fd : FuncData} {ps : List Str}
theorem qe_mkxK1 {f : String} (T : OexC X.K (gaS X.K c)) (iC : PySem.W.findIn X.K (.ref (gaS X.K c)) "__init__" = some (some (.ref fI))) (tI : PySem.W.typeIn X.K (.ref fI) = some (.type "function"))
    (F1 : FnOk X.prog X.w X.K X.mg X.base (L2.CX X.prog X.w) 1 fI fd ps (spX1 (gaS X.K c) (Str.ofString f))) (hr : Room 2 X.A) (hb : KBn X.K fd ps 1 [Str.ofString f] (fun us ws => pickL [0, 1] (us ++ ws)) (fun vs zs => pickL [0, 1] (vs ++ zs))) (hm : X.mg (Str.ofString c) = some (.ref (gaS X.K c))) (ha : QK X kws ms)
    (hg : Gl X (Str.ofString c) := by rfl) (hdb : (Str.ofString c == ("__debug__" : Str)) = false := by decide)
    (hall : (backToKw pos (keywordEach kws X.env)).all (·.1.isSome) = true := by rfl) (hks : (backToKw pos (keywordEach kws X.env)).filterMap (·.1) = [Str.ofString f] := by rfl)
    (hpl : ((backTo pos (starEach [] X.env)).any (·.1) || (backToKw pos (keywordEach kws X.env)).any (·.1.isNone)) = false := by rfl) :
    QE X (.Call (.Name (Str.ofString c) p) [] kws pos) (mkX c [f] ms) :=
  qe_mkx_of (pmk_oexK T iC tI F1 hr hb (passes_call (LamX.takes0 (X := X)) fun _ _ _ _ z => z) hg hm ha hdb hall hks hpl) fun ρ S G σ H W sm re h => by
    refine ⟨ρ, S, G, sm, re, h.imp fun vs H1 w => ?_⟩
    obtain ⟨ds, S1, G1, le, sm1, r, hl, hw⟩ := w
    match ds, hl, r, hw with
    | [d0], _, .cons (v := v0) r0 .nil, hw =>
      refine ⟨by simp, fun a na => ⟨a, v0, rfl, upd_same, fun d hd hda => ⟨rfl, d, [(Str.ofString f, v0)], upd_same, by rw [upd_ne hda]; exact upd_same, by rw [upd_ne hda] at hd; exact hd, ?_⟩⟩⟩
      rw [raised_xd (G1 := G1) (S1 := S1) (C := 0) (G := G) (o2 := .own 0) na hd hda _ fun b q1 q2 => by rw [upd_ne q1, upd_ne q2, upd_ne q1]]
      rw [upd_ne hda] at hd
      exact hw _ _ _ (wEx_xd sm1 hd (.cons r0 .nil))
theorem qe_mkxK2 {f g : String} (T : OexC X.K (gaS X.K c)) (iC : PySem.W.findIn X.K (.ref (gaS X.K c)) "__init__" = some (some (.ref fI))) (tI : PySem.W.typeIn X.K (.ref fI) = some (.type "function"))
    (F1 : FnOk X.prog X.w X.K X.mg X.base (L2.CX X.prog X.w) 1 fI fd ps (spX2 (gaS X.K c) (Str.ofString f) (Str.ofString g))) (hr : Room 2 X.A) (hb : KBn X.K fd ps 1 [Str.ofString g, Str.ofString f] (fun us ws => pickL [0, 2, 1] (us ++ ws)) (fun vs zs => pickL [0, 2, 1] (vs ++ zs))) (hm : X.mg (Str.ofString c) = some (.ref (gaS X.K c))) (ha : QK X kws ms)
    (hg : Gl X (Str.ofString c) := by rfl) (hdb : (Str.ofString c == ("__debug__" : Str)) = false := by decide)
    (hall : (backToKw pos (keywordEach kws X.env)).all (·.1.isSome) = true := by rfl) (hks : (backToKw pos (keywordEach kws X.env)).filterMap (·.1) = [Str.ofString g, Str.ofString f] := by rfl)
    (hpl : ((backTo pos (starEach [] X.env)).any (·.1) || (backToKw pos (keywordEach kws X.env)).any (·.1.isNone)) = false := by rfl) :
    QE X (.Call (.Name (Str.ofString c) p) [] kws pos) (mkX c [f, g] (revA ms)) :=
  qe_mkx_of (pmk_oexK T iC tI F1 hr hb (passes_call (LamX.takes0 (X := X)) fun _ _ _ _ z => z) hg hm ha hdb hall hks hpl) fun ρ S G σ H W sm re h => by
    have h : sat X (Rps X.K) G H ((ms ρ S).bind fun ds S1 => .ok ds.reverse S1) _ := h
    refine ⟨ρ, S, G, sm, re, (sat.bind (R := Rps X.K) h).imp fun vs H1 w => ?_⟩
    obtain ⟨ds, S1, G1, le, sm1, r, q⟩ := w
    obtain ⟨ds', S1', G1', le', sm1', r', hl', hw⟩ := q G1 H1 vs.reverse .refl sm1 (rps_rev r)
    have l2 : vs.length = 2 := by
      have e1 := r'.length
      rw [List.length_reverse] at e1
      have h3 : [f, g].length = 2 := rfl
      omega
    match vs, l2, r', hw with
    | [v1, v0], _, r', hw =>
      cases r' with
      | cons r0 r' =>
        cases r' with
        | cons r1 r' =>
          cases r'
          refine ⟨by simp, fun a na => ⟨a, v0, v1, rfl, upd_same, fun d hd hda => ⟨rfl, d, [(Str.ofString g, v1), (Str.ofString f, v0)], by rw [upd_ne (Ne.symm hda)]; exact upd_same, upd_same, by rw [upd_ne hda] at hd; exact hd, ?_⟩⟩⟩
          rw [raised_xd (G1 := G1) (S1 := S1) (C := 0) (G := G) (o2 := .own 0) na hd hda _ fun b q1 q2 => by rw [upd_ne q2, upd_ne q1, upd_ne q2, upd_ne q1]]
          rw [upd_ne hda] at hd
          exact hw _ _ _ (wEx_xd sm1' hd (.cons r1 (.cons r0 .nil)))
end
end PV
set_option Elab.async false
set_option linter.all false
set_option maxRecDepth 100000
set_option maxHeartbeats 4000000
namespace PV
open PySem PySem.Spec PyProof.Rows L2 ZL
section
variable {X : Cx} {x n : Str} {c : Value} {i : Nat} {body : List Stmt} {np p3 pos pos' : Pos} {tb : WX → TS} {e : Expr} {te : Addr → List (Addr × Obj) → TE}
theorem ps_try_ret (hs : X.stack = X.env :: X.outer) (hf : X.env.frame = some X.env.locals) (hN : X.N.Nodup) (hi : X.N[i]? = some n) (hln : X.env.kindOf n = some .local) (hc : Names X x c)
    (hexn : ∀ b, b ∉ X.ex)
    (hb : ∀ (W : WX) (pn : List (Addr × Obj)) (xe : Value → Shared → Prop), Takes (X.tr pn xe) W → PassesOwn (model X.prog X.w) X.A X.env xe → PSs (X.tr pn xe) body (tb W))
    (he : ∀ a pn, PE (X.suite a pn) e (te a pn)) :
    PS X (.Try body [.ExceptHandler (some (.Name x np)) (some n) [.Return (some e) p3] pos'] [] [] pos) (fun D σ H => tb (fun cls dd σ H => PySem.W.exmOne X.K cls c = some true ∧ (σ.length = X.N.length → ∀ a pn, H a = none → te a pn (σ.set i (some (.ref a))) (upd H a (ExV cls dd a)) fun v H2 => D.rt v H2)) D σ H) := by
  refine ⟨fun pins s σ H D I h => ?_⟩
  have ok := I.ok
  have hA : X.A.frames = some (X.env :: X.outer) := ok.frames.trans (congrArg some hs)
  refine wpAny_Try_except ?_
  refine wpAny_mono ((hb (fun cls dd σ H => PySem.W.exmOne X.K cls c = some true ∧ (σ.length = X.N.length → ∀ a pn, H a = none → te a pn (σ.set i (some (.ref a))) (upd H a (ExV cls dd a)) fun v H2 => D.rt v H2)) (X.pn ++ pins) (fun e₁ s₁ => wpAny (model X.prog X.w) X.A (noteFrame e₁ X.env) (fun _ s₂ =>
    wpAny (model X.prog X.w) X.A (setFlight e₁ none) (fun _ s₃ => wpAny (model X.prog X.w) X.A (handleBy e₁ X.env [.ExceptHandler (some (.Name x np)) (some n) [.Return (some e) p3] pos']) (SP X pins D) X.xe s₃) X.xe s₂) X.xe s₁) (fun u s' got => ?_) PassesOwn.looking).run [] s σ H D (I.toTry _) h)
    (fun f s1 g => ?_) fun e s1 g => g
  · obtain ⟨a, B, sI, pins', σ', H', cls, dd, eu, J', nb, up, sky, na, os, ag, hx, hw⟩ := got
    subst eu
    have J : Inv X pins σ' H' sI := J'.ofTry ok
    rw [show (X.tr (X.pn ++ pins) _).stack = X.env :: X.outer from hs] at sky
    show wpAny (model X.prog X.w) X.A (noteFrame (.ref a) X.env) _ _ _
    refine Sky.land Zc.steady hA hf sky fun h3 fl3 up3 => ?_
    have J3 : Inv X pins σ' H' { s' with heap := h3 } := J.landed nb fl3.1 (up.trans up3) os ag
    obtain ⟨oe3, vs3, g3, z3, d3⟩ := fl3.there
    have nfr : a ∉ frs (X.env :: X.outer) := fun hm => by
      obtain ⟨_, o', e', hnf⟩ := fl3.2.2.1.mem hm
      rw [g3] at e'
      exact hnf vs3 ((Option.some.inj e') ▸ d3)
    have nL : a ≠ X.env.locals := fun z => nfr (List.mem_filterMap.mpr ⟨X.env, List.mem_cons_self, hf.trans (congrArg some z.symm)⟩)
    have nF : a ∉ X.fs := fun hm => by
      obtain ⟨e, he, q⟩ := List.mem_filterMap.mp hm
      exact nfr (List.mem_filterMap.mpr ⟨e, List.mem_cons_of_mem _ he, q⟩)
    have nI : sI.heap.get? a = none := by
      cases q : sI.heap.get? a with
      | none => rfl
      | some o =>
        have := nb a o q (by rw [show (X.tr (X.pn ++ pins) _).stack = X.env :: X.outer from hs]; exact nfr)
        rw [fl3.2.1] at this
        cases this
    have n0 : X.s_0.heap.get? a = none := by
      cases q : X.s_0.heap.get? a with
      | none => rfl
      | some o =>
        by_cases hx : a ∈ X.ex
        · exfalso
          exact hexn a hx
        · obtain ⟨o', q'⟩ := J.base.there a o q hx
          rw [nI] at q'
          cases q'
    have npn : ∀ p ∈ X.pn ++ pins, p.1 ≠ a := fun p hp z => by
      have := (J.pin p hp).1
      rw [z, nI] at this
      cases this
    have S3 := J3.suite g3 d3 na nL nF
    refine wpAny_handleBy_cons (codeAny_handlers_test ?_) (by intro q; cases q)
    have LM := PySem.W.exm_one (M := model X.prog X.w) (K := X.K) (e := a) J3.kIn (fun A Q E s k q => wpAny_typeOf_ref (k _ _ g3) (by rw [z3.1]; exact q)) hx
    have test : ∀ {Q : Value → Shared → Prop} {E : Value → Shared → Prop}, Q c { s' with heap := h3 } → wpAny (model X.prog X.w) (X.A.mark (some (.ref a))) (eval (.Name x np) X.env) Q E { s' with heap := h3 } := fun {Q E} q => by
      obtain ⟨k1, k2, k3 | ⟨k3, k4, k5⟩⟩ := hc
      · exact ld_glob (X := X.suite a ((a, oe3) :: (X.pn ++ pins))) S3 k1 k3 q k2
      · exact ld_blt (X := X.suite a ((a, oe3) :: (X.pn ++ pins))) S3 k1 k3 k4 q k5 k2
    refine test (LM.here (codeAny_handlers_suite_as (HandSPX.lands_againZ fl3 fun h4 fl4 up4 => ?_)))
    have J4 : Inv X pins σ' H' { s' with heap := h4 } := J.landed nb fl4.1 ((up.trans up3).trans up4) os ag
    obtain ⟨oe4, vs4, g4, z4, d4⟩ := fl4.there
    refine store_ok (X := X.suite a ((a, oe4) :: (X.pn ++ pins))) (v := .ref a) (J4.suite g4 d4 na nL nF) hN hi (.inl hln) rfl (fun s5 S5 => ?_) (.inr hln)
    have P5 := S5.pin (a, oe4) (List.mem_append_left _ List.mem_cons_self)
    have J5 : Inv X ((a, oe4) :: pins) _ H' s5 := (S5.unsuite ok).pins_of fun p hp => by
      rcases List.mem_cons.mp hp with e | e
      · rw [e]; exact P5
      · exact (S5.unsuite ok).pin p (List.mem_append_right _ e)
    have J6 := inv_told J5 n0 npn (exV_ok (J5.pin (a, oe4) (List.mem_append_right _ List.mem_cons_self)).1 z4 d4)
    have S6 : Inv (X.suite a (X.pn ++ pins)) [] (σ'.set i (some (.ref a))) (upd H' a (ExV cls dd a)) s5 :=
      ⟨J6.ok.suite _ _, J6.os, J6.bare, J6.base, J6.loc, J6.cell, J6.free, J6.freeC, fun p hp => J6.pin p (by rw [List.append_nil] at hp; exact hp), J6.hok, J6.len⟩
    have un : ∀ {σ6 : L2.St} {H6 : Hp} {s6 : Shared}, Inv (X.suite a (X.pn ++ pins)) [] σ6 H6 s6 → Inv X pins σ6 H6 s6 := fun I6 =>
      ⟨ok, I6.os, I6.bare, I6.base, I6.loc, I6.cell, I6.free, I6.freeC, fun p hp => I6.pin p (List.mem_append_left _ hp), I6.hok, I6.len⟩
    refine wpAny_mono ((pss_one (ps_ret (pos := p3) (he a (X.pn ++ pins)))).run [] s5 _ _ { nx := fun _ _ => False, rt := D.rt } S6 (hw J.len a (X.pn ++ pins) na)) (fun f s6 g => ?_) fun _ _ z => z.elim
    cases f with
    | ret u =>
      obtain ⟨v, σ6, H6, I6, r6, q6⟩ := g
      exact gone_ok (un I6) hN hi hln fun s7 J7 => ⟨_, _, _, J7, r6, q6⟩
    | next => obtain ⟨_, _, _, z⟩ := g; exact z.elim
    | brk => obtain ⟨_, _, _, z⟩ := g; exact z.elim
    | cont => obtain ⟨_, _, _, z⟩ := g; exact z.elim
  · cases f with
    | next => obtain ⟨σ', H', J', q⟩ := g; exact wpAny_execs_nil ⟨σ', H', J'.ofTry ok, q⟩
    | brk => obtain ⟨σ', H', J', q⟩ := g; exact ⟨σ', H', J'.ofTry ok, q⟩
    | cont => obtain ⟨σ', H', J', q⟩ := g; exact ⟨σ', H', J'.ofTry ok, q⟩
    | ret u => obtain ⟨v, σ', H', J', r, q⟩ := g; exact ⟨v, σ', H', J'.ofTry ok, r, q⟩
end
def okR : Out D → Out Fl
  | .ok d S => .ok (.rt d) S
  | _ => .no
def sTryR (C : String) (fl : List String) (i : Nat) (ms : MA) (me : ME) : MS := fun ρ S => match ms ρ S with
  | .ok ds S1 => if ds.length = fl.length then okR (me (ρ.set i (some (.exc C (fl.zip ds).reverse))) S1) else .no
  | _ => .no
section
variable {X : Cx} {x n : Str} {c : Value} {i : Nat} {np p3 pr pos pos' : Pos} {e0 e : Expr} {C : String} {fl : List String} {ms : MA} {me : ME} {t : List (Addr × Obj) → (Value → Shared → Prop) → L2.St → Hp → XK → Prop}
theorem qs_tryR (hcalm : X.calm = true) (hs : X.stack = X.env :: X.outer) (hf : X.env.frame = some X.env.locals) (hN : X.N.Nodup) (hi : X.N[i]? = some n) (hln : X.env.kindOf n = some .local) (hc : Names X x c) (hexn : ∀ b, b ∉ X.ex)
    (hm : PySem.W.exmOne X.K (.ref (gaS X.K C)) c = some true) (h0 : ∀ pn xe, PMk (X.tr pn xe) e0 (t pn xe))
    (ht : ∀ pn xe ρ S G σ H (W : XK), Sm X.K G S H → Re X.K G ρ σ → sat (X.tr pn xe) (Rps X.K) G H (ms ρ S) (fun vs H1 => ∃ ds S1 G1, Stp G H G1 H1 ∧ Sm X.K G1 S1 H1 ∧ Rps X.K G1 ds vs ∧ ds.length = fl.length ∧ ∀ cls dd H', wEx X.K G1 H1 C (fl.zip ds).reverse S1 cls dd H' → W cls dd H') → t pn xe σ H W)
    (he : ∀ a pn, QE (X.suite a pn) e me) :
    QS X (.Try [.Raise (some e0) none pr] [.ExceptHandler (some (.Name x np)) (some n) [.Return (some e) p3] pos'] [] [] pos) (sTryR C fl i ms me) := ⟨fun pins s σ H D I ⟨ρ, S, G, sm, re, z⟩ => by
  unfold sTryR at z
  cases hms : ms ρ S with
  | no => rw [hms] at z; exact z.elim
  | ex c' fs' S' => rw [hms] at z; exact z.elim
  | ok ds S1 =>
    rw [hms] at z
    by_cases hl : ds.length = fl.length
    · have z2 : satS X G H (okR (me (ρ.set i (some (.exc C (fl.zip ds).reverse))) S1)) D := by
        have z3 : satS X G H (if ds.length = fl.length then okR (me (ρ.set i (some (.exc C (fl.zip ds).reverse))) S1) else .no) D := z
        rw [if_pos hl] at z3
        exact z3
      refine (ps_try_ret (tb := fun W _ σ H => ∀ pn xe, t pn xe σ H fun cls d H' => W cls d σ H') (te := fun a pn => tE (X.suite a pn) me) (pos := pos) (p3 := p3) (np := np) (pos' := pos') hs hf hN hi hln hc hexn (fun W pn xe tk po => ?_) he).run pins s σ H D I ?_
      · have Y : PS (X.tr pn xe) (.Raise (some e0) none pr) (fun _ σ H => t pn xe σ H fun cls d H' => W cls d σ H') := ps_raise (X := X.tr pn xe) (pos := pr) hcalm tk (h0 pn xe)
        have Y2 := pss_one Y
        exact ⟨fun pins s σ H D I h => Y2.run pins s σ H D I (h pn xe)⟩
      · intro pn xe
        refine ht pn xe ρ S G σ H _ sm re ?_
        rw [hms]
        intro G1 H1 vs le sm1 r
        refine ⟨ds, S1, G1, le, sm1, r, hl, fun cls dd H2 w => ?_⟩
        obtain ⟨G2, st, sm2, rfl, hor⟩ := w
        refine ⟨hm, fun hlen a pn2 na => ?_⟩
        have st3 := Stp.put (o := ExV (.ref (gaS X.K C)) dd a) sm2 na
        have rx : Rp X.K (G2.put a (ExV (.ref (gaS X.K C)) dd a)) (.exc C (fl.zip ds).reverse) (.ref a) := by
          rcases hor with ⟨e0, rfl⟩ | ⟨d, ws, rfl, hd, rf⟩
          · rw [e0]
            exact .exc0 upd_same
          · have hda : d ≠ a := fun e => by
              have z := sm2.fr _ _ hd
              rw [e, na] at z
              cases z
            exact .exc (d := d) (ws := ws) upd_same (by show upd _ _ _ _ = _; rw [upd_ne hda]; exact hd) (rf.mono (Gh.put_le (sm2.free na)))
        refine ⟨_, S1, _, sm2.put na, ((re.mono le.le).mono (st.trans st3).le).set i rx, ?_⟩
        have z3 := z2.mono (le.trans (st.trans st3))
        cases hme : me (ρ.set i (some (.exc C (fl.zip ds).reverse))) S1 with
        | no => rw [hme] at z3; exact z3.elim
        | ok d S2 =>
          rw [hme] at z3
          exact fun G' H' v l s r => z3 G' H' v l s r
        | ex c' fs' S' => rw [hme] at z3; exact z3.elim
    · have z3 : satS X G H (if ds.length = fl.length then okR (me (ρ.set i (some (.exc C (fl.zip ds).reverse))) S1) else .no) D := z
      rw [if_neg hl] at z3
      exact z3.elim⟩
theorem qs_tryR2 {f g : String} {fI : Addr} {fd : FuncData} {ps : List Str} {p pos2 : Pos} {es : List Expr} (hcalm : X.calm = true) (hs : X.stack = X.env :: X.outer) (hf : X.env.frame = some X.env.locals) (hN : X.N.Nodup) (hi : X.N[i]? = some n) (hln : X.env.kindOf n = some .local) (hc : Names X x c) (hexn : ∀ b, b ∉ X.ex)
    (hm : PySem.W.exmOne X.K (.ref (gaS X.K C)) c = some true) (T : OexC X.K (gaS X.K C)) (iC : PySem.W.findIn X.K (.ref (gaS X.K C)) "__init__" = some (some (.ref fI))) (tI : PySem.W.typeIn X.K (.ref fI) = some (.type "function"))
    (F1 : FnOk X.prog X.w X.K X.mg X.base (L2.CX X.prog X.w) 1 fI fd ps (spX2 (gaS X.K C) (Str.ofString f) (Str.ofString g))) (hr : Room 2 X.A) (hb : Binds X.K fd ps []) (hmg : X.mg (Str.ofString C) = some (.ref (gaS X.K C)))
    (ha : ∀ pn xe, QA (X.tr pn xe) (e0 :: es) ms) (he : ∀ a pn, QE (X.suite a pn) e me)
    (hg : Gl X (Str.ofString C) := by rfl) (hdb : (Str.ofString C == ("__debug__" : Str)) = false := by decide) (hse : starEach (e0 :: es) X.env = (false, eval e0 X.env) :: starEach es X.env := by rfl) (hpl : (backTo pos2 (starEach es X.env)).any (·.1) = false := by rfl) :
    QS X (.Try [.Raise (some (.Call (.Name (Str.ofString C) p) (e0 :: es) [] pos2)) none pr] [.ExceptHandler (some (.Name x np)) (some n) [.Return (some e) p3] pos'] [] [] pos) (sTryR C [f, g] i ms me) :=
  qs_tryR (fl := [f, g]) (t := fun pn xe => L2.tMkO (gaS X.K C) (spX2 (gaS X.K C) (Str.ofString f) (Str.ofString g)) [] (tA (X.tr pn xe) ms)) hcalm hs hf hN hi hln hc hexn hm
    (fun pn xe => pmk_oex (X := X.tr pn xe) T iC tI F1 hr hb .nil (passes_call (X := X.tr pn xe) (LamX.takes0 (X := X.tr pn xe)) fun _ _ _ _ z => z) hg hmg (ha pn xe) hdb hse hpl)
    (fun pn xe ρ S G σ H W sm re h => by
      refine ⟨ρ, S, G, sm, re, h.imp fun vs H1 w => ?_⟩
      obtain ⟨ds, S1, G1, le, sm1, r, hl, hw⟩ := w
      match ds, hl, r, hw with
      | [d0, d1], _, .cons (v := v0) r0 (.cons (v := v1) r1 .nil), hw =>
        refine ⟨by simp, fun a na => ⟨a, v0, v1, rfl, upd_same, fun d hd hda => ⟨rfl, d, [(Str.ofString g, v1), (Str.ofString f, v0)], by rw [upd_ne (Ne.symm hda)]; exact upd_same, upd_same, by rw [upd_ne hda] at hd; exact hd, ?_⟩⟩⟩
        rw [raised_xd (G1 := G1) (S1 := S1) (C := 0) (G := G) (o2 := .own 0) na hd hda _ fun b q1 q2 => by rw [upd_ne q2, upd_ne q1, upd_ne q2, upd_ne q1]]
        rw [upd_ne hda] at hd
        exact hw _ _ _ (wEx_xd (X := X) sm1 hd (.cons r1 (.cons r0 .nil)))) he
end
end PV
set_option Elab.async false
set_option linter.all false
set_option maxRecDepth 100000
set_option maxHeartbeats 4000000
namespace PV
open PySem PySem.Spec PyProof.Rows L2 ZL
def vP : V → Option PyData
  | .int i => some (.int i)
  | .str z => some (.str z)
  | .bl b => some (.bool b)
  | .non => some .none
  | _ => none
def kP : Key → PyData
  | .inl i => .int i
  | .inr z => .str z
def kvP : List (Key × V) → Option (List (PyData × PyData))
  | [] => some []
  | (k, v) :: r => match vP v, kvP r with
    | some p, some ps => some ((kP k, p) :: ps)
    | _, _ => none
theorem vP_reads {h : Heap} {v : V} {u : Value} {p : PyData} (r : RelV v u) (e : vP v = some p) : Reads h u p [] := by
  cases v <;> simp [vP] at e <;> subst e
  all_goals first
    | (cases r; exact .none)
    | (cases r; exact .bool _)
    | (obtain ⟨t, rfl⟩ := r; exact .int _ t)
    | (obtain ⟨t, rfl⟩ := r; exact .str _ t)
theorem kP_reads {h : Heap} {k : Key} {u : Value} (r : keyIs k u = true) : Reads h u (kP k) [] := by
  rcases keyIs_shape r with ⟨i, t, rfl, rfl⟩ | ⟨x, t, rfl, rfl⟩
  · exact .int i t
  · exact .str x t
def toA : D → Option PyData
  | .hob (.dK kvs) => (kvP kvs).map .dict
  | d => toM d
def toAs : List D → Option (List PyData)
  | [] => some []
  | x :: xs => match toA x with
    | some p => (toAs xs).map (p :: ·)
    | none => none
section
variable {X : Cx} {pins : List (Addr × Obj)} {σ : L2.St} {H : Hp} {s : Shared} {G : Gh}
theorem reads_kv {h : Heap} {prog : Program} {w : World} : ∀ {kvs : List (Key × V)} {vs : List (Key × Value)} {es : List DictEntry} {ps : List (PyData × PyData)}, KV kvs vs → Pairs (mixKind prog w) es vs → kvP kvs = some ps →
    ReadsAll h (es.map (·.key)) (ps.map (·.1)) [] ∧ ReadsAll h (es.map (·.val)) (ps.map (·.2)) []
  | _, _, _, _, .nil, .nil, e => by
    cases e
    exact ⟨.nil, .nil⟩
  | (k, v) :: r, _, _, _, .cons f fr, .cons p1 p2 pr, e => by
    unfold kvP at e
    split at e
    · rename_i p ps hp hps
      cases e
      obtain ⟨a, b⟩ := reads_kv fr pr hps
      obtain ⟨f1, f2⟩ := f
      refine ⟨.cons (as := []) (bs := []) ?_ a, .cons (as := []) (bs := []) ?_ b⟩
      · refine kP_reads (k := k) ?_
        rw [show k = _ from f1]
        exact p1
      · show Reads h (DictEntry.val _) p []
        rw [p2]
        exact vP_reads f2 hp
    · cases e
theorem reads_a (I : Inv X pins σ H s) (fr : ∀ a o, G.F a = some o → H a = some o) {d : D} {v : V} {u : Value} {p : PyData} (r0 : Rp X.K G d v) (r : RelV v u) (hp : toA d = some p) : ∃ as, Reads s.heap u p as ∧ (p.hasDict = true → sysModules ∉ as) := by
  unfold toA at hp
  split at hp
  · rename_i kvs
    obtain ⟨ps, hps, rfl⟩ := Option.map_eq_some_iff.mp hp
    cases r0 with
    | hob hq =>
      cases r
      obtain ⟨_, ns, vs, rel, o, es, ep, h1, h2, h3, h4, h5, h6⟩ := dk_of I.hok (fr _ _ hq)
      obtain ⟨ra, rb⟩ := reads_kv (h := s.heap) rel h5 hps
      exact ⟨_, .dict h1 h2.1 h3 ra rb, fun _ => by simpa using fun e => (beq_eq_false_iff_ne.mp ns) e.symm⟩
  · unfold toM at hp
    split at hp
    · rename_i p' hq
      cases hp
      obtain ⟨as, q1, n1⟩ := reads_q I fr d _ _ p r0 r hq
      exact ⟨as, q1, fun _ => n1⟩
    · split at hp
      · rename_i p' hq
        split at hp
        · rename_i hd
          cases hp
          obtain ⟨as, q1⟩ := Dp.reads I p _ _ (Rp.dp fr d _ p r0 hq) r
          exact ⟨as, q1, fun z => by rw [hd] at z; cases z⟩
        · cases hp
      · cases hp
theorem reads_as (I : Inv X pins σ H s) (fr : ∀ a o, G.F a = some o → H a = some o) : ∀ (ds : List D) (vs : List V) (us : List Value) (ps : List PyData), Rps X.K G ds vs → Vals vs us → toAs ds = some ps → PyData.showableAll ps = true → (∀ t ∈ PyData.shownAll ps, t.length ≤ sizeLine) →
    ∃ as bs, ReadsAll s.heap us ps as ∧ ReadAtMost s.heap (PyData.depthAll ps) bs ∧ ReprAllK X.prog X.w bs s.heap (PyData.depthAll ps) us (PyData.shownAll ps)
  | [], _, _, _, r0, r, h, _, _ => by
    cases r0
    cases h
    cases r
    exact ⟨[], [], .nil, (fun _ h => nomatch h), by simp only [PyData.shownAll]; exact .nil⟩
  | d :: ds, _, _, _, r0, r, h, hs, hz => by
    cases r0 with
    | cons h1 h2 =>
      rw [toAs] at h
      split at h
      · rename_i p hp
        obtain ⟨ps, hps, rfl⟩ := Option.map_eq_some_iff.mp h
        cases r with
        | cons r1 r2 =>
          have hs' : p.showable = true ∧ PyData.showableAll ps = true := by simpa [PyData.showableAll] using hs
          obtain ⟨as, q1, n1⟩ := reads_a I fr h1 r1 hp
          obtain ⟨b1, hb1, k1⟩ := ReprK.of_reads (prog := X.prog) (w := X.w) q1 hs'.1 n1 (hz _ (by simp only [PyData.shownAll]; exact List.mem_cons_self ..))
          obtain ⟨bs, b2, q2, hb2, k2⟩ := reads_as I fr ds _ _ ps h2 r2 hps hs'.2 (fun t ht => hz t (by simp only [PyData.shownAll]; exact List.mem_cons_of_mem _ ht))
          refine ⟨as ++ bs, b1 ++ b2, .cons q1 q2, ?_, ?_⟩
          · intro b hm
            simp only [PyData.depthAll]
            rcases List.mem_append.mp hm with hm | hm
            · obtain ⟨d', as', r', hd'⟩ := hb1 b hm
              exact ⟨d', as', r', Nat.le_trans hd' (Nat.le_max_left _ _)⟩
            · obtain ⟨d', as', r', hd'⟩ := hb2 b hm
              exact ⟨d', as', r', Nat.le_trans hd' (Nat.le_max_right _ _)⟩
          · simp only [PyData.depthAll, PyData.shownAll]
            exact .cons ((k1.more fun b hb => List.mem_append_left _ hb).level_le (Nat.le_max_left _ _)) (k2.more_le (fun b hb => List.mem_append_right _ hb) (Nat.le_max_right _ _))
      · cases h
end
def reprA (g : Fn) : Fn := fun ds S => match ds with
  | [.lst (x :: xs)] => match toAs (x :: xs) with
    | some ps => if reprT (.list ps) = true then .ok (.str (PyData.list ps).shown) S else .no
    | none => g [.lst (x :: xs)] S
  | [.hob (.dK kvs)] => match kvP kvs with
    | some ps => if reprT (.dict ps) = true then .ok (.str (PyData.dict ps).shown) S else .no
    | none => g [.hob (.dK kvs)] S
  | [.dic0] => .ok (.str (PyData.dict []).shown) S
  | ds => g ds S
theorem cf_reprA {X : Cx} {g : Fn} (hg : X.A.guards = some []) (hu : X.A.units + 64 < cLine) (hgg : CallF X (.builtin "repr") g) : CallF X (.builtin "repr") (reprA g) := fun pins s σ H vs us Q I rv ⟨ds, S, G, sm, r, h⟩ => by
  unfold reprA at h
  split at h
  · split at h
    · rename_i x xs ps hp
      split at h
      · rename_i c
        simp only [reprT, Bool.and_eq_true, decide_eq_true_eq] at c
        obtain ⟨v, rfl, q⟩ := vals1 r
        cases q with
        | lst hq ha =>
          obtain ⟨u, rfl, e⟩ := L2.vals1 rv
          cases e
          obtain ⟨its, rw', ⟨o, n, ho, hc, _, hd⟩, _⟩ := I.list (SqL.of (sm.fr _ _ hq))
          obtain ⟨⟨cs, hz⟩, hdp⟩ := c
          have hz2 : (listText (PyData.shownAll ps)).length ≤ sizeLine := by simpa only [PyData.shown] using hdp
          obtain ⟨as, bs, q1, hb, hk⟩ := reads_as I sm.fr _ _ its ps ha rw' hp (by simpa [PyData.showable] using cs) (fun t ht => Nat.le_trans (listText_mem_le ht) hz2)
          have rl := Reads.list ho hc hd q1
          have hna := not_mem_of_deeper rl (by simp only [PyData.depth]; omega) hb
          simp only [PyData.depth] at hz
          cases its with
          | nil =>
            exfalso
            cases ha
            cases rw'
          | cons y ys =>
            have hh := hk.length_eq
            refine call_repr_slot (by omega) ⟨o, ho, hc⟩ PySem.F.slot_list_repr.toG ?_
            exact call_list_reprK ho hc (by rw [hd]) hna (by simpa using hh) (fun i y e => hk.item i y (by simpa using e)) hg (fun b _ => Clear.nil b) (by show X.A.units + 1 + _ < cLine; omega) (fun _ _ z => z) (fun h' u tk hk => ⟨_, _, rfl, ⟨.str _, H, I.kept hk, ⟨u, rfl⟩, h G H _ .refl sm (.str _)⟩⟩) hz2
      · exact h.elim
    · exact hgg pins s σ H vs us Q I rv ⟨_, S, G, sm, r, h⟩
  · rename_i kvs
    split at h
    · rename_i ps hp
      split at h
      · rename_i c
        simp only [reprT, Bool.and_eq_true, decide_eq_true_eq] at c
        obtain ⟨v, rfl, q⟩ := vals1 r
        obtain ⟨u, rfl, e⟩ := L2.vals1 rv
        obtain ⟨as, q1, q2⟩ := reads_a I sm.fr q e (show toA (.hob (.dK kvs)) = some (.dict ps) from by show (kvP kvs).map PyData.dict = _; rw [hp]; rfl)
        cases q with
        | hob hq =>
          cases e
          exact repr_of_reads' q1 c.1.1 q2 hg (by omega) (fun _ _ z => z) (fun h' u tk hk => ⟨.str _, H, I.kept hk, ⟨u, rfl⟩, h G H _ .refl sm (.str _)⟩) c.2
      · exact h.elim
    · exact hgg pins s σ H vs us Q I rv ⟨_, S, G, sm, r, h⟩
  · obtain ⟨v, rfl, q⟩ := vals1 r
    obtain ⟨u, rfl, e⟩ := L2.vals1 rv
    obtain ⟨as, q1, q2⟩ := reads_q I sm.fr _ _ _ (.dict []) q e rfl
    cases q with
    | dic0 hq =>
      cases e
      exact repr_of_reads' q1 (by simp [PyData.showable, PyData.showableKv]) (fun _ => q2) hg (by simp only [PyData.depth, PyData.depthKv]; omega) (fun _ _ z => z) (fun h' u tk hk => ⟨.str _, H, I.kept hk, ⟨u, rfl⟩, h G H _ .refl sm (.str _)⟩) (by rw [show (PyData.dict []).shown.length = 2 by decide +kernel, sizeLine_eq]; decide)
  · exact hgg pins s σ H vs us Q I rv ⟨_, S, G, sm, r, h⟩
end PV
set_option Elab.async false
set_option linter.all false
set_option maxRecDepth 100000
set_option maxHeartbeats 0
namespace K01
open PySem PySem.W L2
def top (i : Nat) : Stmt := PySem.Challenge.pw_lapseeds_k01_errors.main.body.getD i (.Pass ⟨0, 0, 0, 0⟩)
abbrev s_law_bag : Stmt := top 31
abbrev s_law_draw : Stmt := top 32
abbrev s_law_pick : Stmt := top 33
abbrev s_law_value : Stmt := top 34
abbrev s_law_ones : Stmt := top 35
abbrev s_law_named : Stmt := top 36
abbrev s_law_field : Stmt := top 37
abbrev s_law_kinds : Stmt := top 38
abbrev s_law_two_right : Stmt := top 39
abbrev s_law_causes_right : Stmt := top 40
abbrev s_law_caught : Stmt := top 41
abbrev s_law : Stmt := top 42
abbrev s_BadBoardD_initD : Stmt := inClass (top 10) 0
abbrev s_BadBookD_initD : Stmt := inClass (top 7) 0
abbrev s_BadClaimD_initD : Stmt := inClass (top 15) 0
abbrev s_BadEndD_initD : Stmt := inClass (top 6) 0
abbrev s_BadHeldD_initD : Stmt := inClass (top 2) 0
abbrev s_BadLineD_initD : Stmt := inClass (top 17) 0
abbrev s_BadNumberD_initD : Stmt := inClass (top 8) 0
abbrev s_BadPitD_initD : Stmt := inClass (top 5) 0
abbrev s_BadPlayerD_initD : Stmt := inClass (top 4) 0
abbrev s_BadRingD_initD : Stmt := inClass (top 3) 0
abbrev s_BadRoadD_initD : Stmt := inClass (top 14) 0
abbrev s_BadRowD_initD : Stmt := inClass (top 11) 0
abbrev s_BadShapeD_initD : Stmt := inClass (top 13) 0
abbrev s_BadSumD_initD : Stmt := inClass (top 12) 0
abbrev s_BadTextD_initD : Stmt := inClass (top 16) 0
abbrev s_BadTurnD_initD : Stmt := inClass (top 9) 0
abbrev s_CannotMoveD_initD : Stmt := inClass (top 25) 0
abbrev s_EmptyD_initD : Stmt := inClass (top 29) 0
abbrev s_NoEndD_initD : Stmt := inClass (top 19) 0
abbrev s_NoLapD_initD : Stmt := inClass (top 18) 0
abbrev s_NoNameD_initD : Stmt := inClass (top 20) 0
abbrev s_NoPlayerD_initD : Stmt := inClass (top 27) 0
abbrev s_OutOfTurnD_initD : Stmt := inClass (top 28) 0
abbrev s_TooManyD_initD : Stmt := inClass (top 24) 0
def gD (x : Str) (st : Stmt) : He5.DefA := ⟨fun K => He.ga K x, x, x, defArgs st, defBody st, defScope st, [], []⟩
def mD (c m q : Str) (st : Stmt) : He5.DefA := ⟨fun K => He.ma K (He.ga K c) m, m, q, defArgs st, defBody st, defScope st, [], []⟩
abbrev mO (K : Frag) (c m : Str) : Addr := He.ma K (He.ga K c) m
abbrev uO (K : Frag) (c m : Str) : Addr := He5.wf K (He.ga K c) "staticmethod" m
abbrev wO (K : Frag) (c m : Str) : Addr := He5.wf K (He.ga K c) "classmethod" m
def fn : List He5.DefA := [gD "_law_bag" s_law_bag, gD "_law_draw" s_law_draw, gD "_law_pick" s_law_pick, gD "_law_value" s_law_value, gD "_law_ones" s_law_ones, gD "_law_named" s_law_named, gD "_law_field" s_law_field, gD "_law_kinds" s_law_kinds, gD "_law_two_right" s_law_two_right, gD "_law_causes_right" s_law_causes_right, gD "_law_caught" s_law_caught, gD "law" s_law, mD "BadBoard" "__init__" "BadBoard.__init__" s_BadBoardD_initD, mD "BadBook" "__init__" "BadBook.__init__" s_BadBookD_initD, mD "BadClaim" "__init__" "BadClaim.__init__" s_BadClaimD_initD, mD "BadEnd" "__init__" "BadEnd.__init__" s_BadEndD_initD, mD "BadHeld" "__init__" "BadHeld.__init__" s_BadHeldD_initD, mD "BadLine" "__init__" "BadLine.__init__" s_BadLineD_initD, mD "BadNumber" "__init__" "BadNumber.__init__" s_BadNumberD_initD, mD "BadPit" "__init__" "BadPit.__init__" s_BadPitD_initD, mD "BadPlayer" "__init__" "BadPlayer.__init__" s_BadPlayerD_initD, mD "BadRing" "__init__" "BadRing.__init__" s_BadRingD_initD, mD "BadRoad" "__init__" "BadRoad.__init__" s_BadRoadD_initD, mD "BadRow" "__init__" "BadRow.__init__" s_BadRowD_initD, mD "BadShape" "__init__" "BadShape.__init__" s_BadShapeD_initD, mD "BadSum" "__init__" "BadSum.__init__" s_BadSumD_initD, mD "BadText" "__init__" "BadText.__init__" s_BadTextD_initD, mD "BadTurn" "__init__" "BadTurn.__init__" s_BadTurnD_initD, mD "CannotMove" "__init__" "CannotMove.__init__" s_CannotMoveD_initD, mD "Empty" "__init__" "Empty.__init__" s_EmptyD_initD, mD "NoEnd" "__init__" "NoEnd.__init__" s_NoEndD_initD, mD "NoLap" "__init__" "NoLap.__init__" s_NoLapD_initD, mD "NoName" "__init__" "NoName.__init__" s_NoNameD_initD, mD "NoPlayer" "__init__" "NoPlayer.__init__" s_NoPlayerD_initD, mD "OutOfTurn" "__init__" "OutOfTurn.__init__" s_OutOfTurnD_initD, mD "TooMany" "__init__" "TooMany.__init__" s_TooManyD_initD]
def glos : List Str := (["BadBoard", "BadBook", "BadClaim", "BadEnd", "BadHeld", "BadLine", "BadNumber", "BadPit", "BadPlayer", "BadRing", "BadRoad", "BadRow", "BadShape", "BadSum", "BadText", "BadTurn", "CannotMove", "Cause", "Empty", "LapError", "NoEnd", "NoLap", "NoName", "NoPlayer", "NotWhole", "Nothing", "OutOfTurn", "TooMany", "Unlike", "_law_bag"] : List Str) ++ (["_law_caught", "_law_causes_right", "_law_draw", "_law_field", "_law_kinds", "_law_named", "_law_ones", "_law_pick", "_law_two_right", "_law_value", "law"] : List Str)
def frees : List Str := ["ValueError", "abs", "enumerate", "int", "isinstance", "len", "list", "range", "repr", "zip"]
def meths : List (Str × Str) := [("BadBoard", "__init__"), ("BadBook", "__init__"), ("BadClaim", "__init__"), ("BadEnd", "__init__"), ("BadHeld", "__init__"), ("BadLine", "__init__"), ("BadNumber", "__init__"), ("BadPit", "__init__"), ("BadPlayer", "__init__"), ("BadRing", "__init__"), ("BadRoad", "__init__"), ("BadRow", "__init__"), ("BadShape", "__init__"), ("BadSum", "__init__"), ("BadText", "__init__"), ("BadTurn", "__init__"), ("CannotMove", "__init__"), ("Empty", "__init__"), ("NoEnd", "__init__"), ("NoLap", "__init__"), ("NoName", "__init__"), ("NoPlayer", "__init__"), ("OutOfTurn", "__init__"), ("TooMany", "__init__")]
def intcs : List (Str × Int) := []
def strcs : List (Str × Str) := []
def clss : List Str := []
def mkrs : List Str := []
def noats : List (Str × Str) := []
def cms : List (Str × Str) := []
def sms : List (Str × Str) := []
def crds : List Str := []
def nes : List Str := []
def gis : List (Str × Str) := []
def selfs : List Str := []
def nofs : List (Str × Str) := [("BadBoard", "part"), ("BadBook", "part"), ("BadClaim", "part"), ("BadEnd", "part"), ("BadHeld", "value"), ("BadLine", "word"), ("BadNumber", "value"), ("BadPit", "value"), ("BadPlayer", "value"), ("BadRing", "part"), ("BadRoad", "part"), ("BadRow", "at"), ("BadShape", "part"), ("BadSum", "part"), ("BadText", "line"), ("BadText", "word"), ("BadTurn", "value"), ("CannotMove", "at"), ("CannotMove", "cause"), ("Empty", "pit"), ("NoEnd", "at"), ("NoLap", "pit"), ("NoName", "name"), ("NoPlayer", "pit"), ("OutOfTurn", "player"), ("TooMany", "most"), ("TooMany", "what")]
def tys : List (String × Str × String) := []
def subs : List (String × Str) := []
def pls : List Str := []
def subc : List (Str × String) := []
def onos : List Str := []
def subx : List (Str × Str) := []
def dvs : List (Str × Str × Str) := []
def kits : List (String × Str) := ([("NoneType", "BadBoard"), ("NoneType", "BadBook"), ("NoneType", "BadClaim"), ("NoneType", "BadEnd"), ("NoneType", "BadHeld"), ("NoneType", "BadLine"), ("NoneType", "BadNumber"), ("NoneType", "BadPit"), ("NoneType", "BadPlayer"), ("NoneType", "BadRing"), ("NoneType", "BadRoad"), ("NoneType", "BadRow"), ("NoneType", "BadShape"), ("NoneType", "BadSum"), ("NoneType", "BadText"), ("NoneType", "BadTurn"), ("NoneType", "CannotMove"), ("NoneType", "Cause"), ("NoneType", "Empty"), ("NoneType", "LapError"), ("NoneType", "NoEnd"), ("NoneType", "NoLap"), ("NoneType", "NoName"), ("NoneType", "NoPlayer"), ("NoneType", "NotWhole"), ("NoneType", "Nothing"), ("NoneType", "OutOfTurn"), ("NoneType", "TooMany"), ("NoneType", "Unlike"), ("bool", "BadBoard")] : List (String × Str)) ++ ([("bool", "BadBook"), ("bool", "BadClaim"), ("bool", "BadEnd"), ("bool", "BadHeld"), ("bool", "BadLine"), ("bool", "BadNumber"), ("bool", "BadPit"), ("bool", "BadPlayer"), ("bool", "BadRing"), ("bool", "BadRoad"), ("bool", "BadRow"), ("bool", "BadShape"), ("bool", "BadSum"), ("bool", "BadText"), ("bool", "BadTurn"), ("bool", "CannotMove"), ("bool", "Cause"), ("bool", "Empty"), ("bool", "LapError"), ("bool", "NoEnd"), ("bool", "NoLap"), ("bool", "NoName"), ("bool", "NoPlayer"), ("bool", "NotWhole"), ("bool", "Nothing"), ("bool", "OutOfTurn"), ("bool", "TooMany"), ("bool", "Unlike"), ("dict", "BadBoard"), ("dict", "BadBook")] : List (String × Str)) ++ ([("dict", "BadClaim"), ("dict", "BadEnd"), ("dict", "BadHeld"), ("dict", "BadLine"), ("dict", "BadNumber"), ("dict", "BadPit"), ("dict", "BadPlayer"), ("dict", "BadRing"), ("dict", "BadRoad"), ("dict", "BadRow"), ("dict", "BadShape"), ("dict", "BadSum"), ("dict", "BadText"), ("dict", "BadTurn"), ("dict", "CannotMove"), ("dict", "Cause"), ("dict", "Empty"), ("dict", "LapError"), ("dict", "NoEnd"), ("dict", "NoLap"), ("dict", "NoName"), ("dict", "NoPlayer"), ("dict", "NotWhole"), ("dict", "Nothing"), ("dict", "OutOfTurn"), ("dict", "TooMany"), ("dict", "Unlike"), ("int", "BadBoard"), ("int", "BadBook"), ("int", "BadClaim")] : List (String × Str)) ++ ([("int", "BadEnd"), ("int", "BadHeld"), ("int", "BadLine"), ("int", "BadNumber"), ("int", "BadPit"), ("int", "BadPlayer"), ("int", "BadRing"), ("int", "BadRoad"), ("int", "BadRow"), ("int", "BadShape"), ("int", "BadSum"), ("int", "BadText"), ("int", "BadTurn"), ("int", "CannotMove"), ("int", "Cause"), ("int", "Empty"), ("int", "LapError"), ("int", "NoEnd"), ("int", "NoLap"), ("int", "NoName"), ("int", "NoPlayer"), ("int", "NotWhole"), ("int", "Nothing"), ("int", "OutOfTurn"), ("int", "TooMany"), ("int", "Unlike"), ("list", "BadBoard"), ("list", "BadBook"), ("list", "BadClaim"), ("list", "BadEnd")] : List (String × Str)) ++ ([("list", "BadHeld"), ("list", "BadLine"), ("list", "BadNumber"), ("list", "BadPit"), ("list", "BadPlayer"), ("list", "BadRing"), ("list", "BadRoad"), ("list", "BadRow"), ("list", "BadShape"), ("list", "BadSum"), ("list", "BadText"), ("list", "BadTurn"), ("list", "CannotMove"), ("list", "Cause"), ("list", "Empty"), ("list", "LapError"), ("list", "NoEnd"), ("list", "NoLap"), ("list", "NoName"), ("list", "NoPlayer"), ("list", "NotWhole"), ("list", "Nothing"), ("list", "OutOfTurn"), ("list", "TooMany"), ("list", "Unlike"), ("str", "BadBoard"), ("str", "BadBook"), ("str", "BadClaim"), ("str", "BadEnd"), ("str", "BadHeld")] : List (String × Str)) ++ ([("str", "BadLine"), ("str", "BadNumber"), ("str", "BadPit"), ("str", "BadPlayer"), ("str", "BadRing"), ("str", "BadRoad"), ("str", "BadRow"), ("str", "BadShape"), ("str", "BadSum"), ("str", "BadText"), ("str", "BadTurn"), ("str", "CannotMove"), ("str", "Cause"), ("str", "Empty"), ("str", "LapError"), ("str", "NoEnd"), ("str", "NoLap"), ("str", "NoName"), ("str", "NoPlayer"), ("str", "NotWhole"), ("str", "Nothing"), ("str", "OutOfTurn"), ("str", "TooMany"), ("str", "Unlike"), ("tuple", "BadBoard"), ("tuple", "BadBook"), ("tuple", "BadClaim"), ("tuple", "BadEnd"), ("tuple", "BadHeld"), ("tuple", "BadLine")] : List (String × Str)) ++ ([("tuple", "BadNumber"), ("tuple", "BadPit"), ("tuple", "BadPlayer"), ("tuple", "BadRing"), ("tuple", "BadRoad"), ("tuple", "BadRow"), ("tuple", "BadShape"), ("tuple", "BadSum"), ("tuple", "BadText"), ("tuple", "BadTurn"), ("tuple", "CannotMove"), ("tuple", "Cause"), ("tuple", "Empty"), ("tuple", "LapError"), ("tuple", "NoEnd"), ("tuple", "NoLap"), ("tuple", "NoName"), ("tuple", "NoPlayer"), ("tuple", "NotWhole"), ("tuple", "Nothing"), ("tuple", "OutOfTurn"), ("tuple", "TooMany"), ("tuple", "Unlike")] : List (String × Str))
def kitcs : List (Str × String) := []
def kitos : List (Str × Str × Bool) := ([("BadBoard", "BadBoard", true), ("BadBoard", "BadBook", false), ("BadBoard", "BadClaim", false), ("BadBoard", "BadEnd", false), ("BadBoard", "BadHeld", false), ("BadBoard", "BadLine", false), ("BadBoard", "BadNumber", false), ("BadBoard", "BadPit", false), ("BadBoard", "BadPlayer", false), ("BadBoard", "BadRing", false), ("BadBoard", "BadRoad", false), ("BadBoard", "BadRow", false), ("BadBoard", "BadShape", false), ("BadBoard", "BadSum", false), ("BadBoard", "BadText", false), ("BadBoard", "BadTurn", false), ("BadBoard", "CannotMove", false), ("BadBoard", "Cause", false), ("BadBoard", "Empty", false), ("BadBoard", "LapError", true), ("BadBoard", "NoEnd", false), ("BadBoard", "NoLap", false), ("BadBoard", "NoName", false), ("BadBoard", "NoPlayer", false), ("BadBoard", "NotWhole", false), ("BadBoard", "Nothing", false), ("BadBoard", "OutOfTurn", false), ("BadBoard", "TooMany", false), ("BadBoard", "Unlike", false), ("BadBook", "BadBoard", false)] : List (Str × Str × Bool)) ++ ([("BadBook", "BadBook", true), ("BadBook", "BadClaim", false), ("BadBook", "BadEnd", false), ("BadBook", "BadHeld", false), ("BadBook", "BadLine", false), ("BadBook", "BadNumber", false), ("BadBook", "BadPit", false), ("BadBook", "BadPlayer", false), ("BadBook", "BadRing", false), ("BadBook", "BadRoad", false), ("BadBook", "BadRow", false), ("BadBook", "BadShape", false), ("BadBook", "BadSum", false), ("BadBook", "BadText", false), ("BadBook", "BadTurn", false), ("BadBook", "CannotMove", false), ("BadBook", "Cause", false), ("BadBook", "Empty", false), ("BadBook", "LapError", true), ("BadBook", "NoEnd", false), ("BadBook", "NoLap", false), ("BadBook", "NoName", false), ("BadBook", "NoPlayer", false), ("BadBook", "NotWhole", false), ("BadBook", "Nothing", false), ("BadBook", "OutOfTurn", false), ("BadBook", "TooMany", false), ("BadBook", "Unlike", false), ("BadClaim", "BadBoard", false), ("BadClaim", "BadBook", false)] : List (Str × Str × Bool)) ++ ([("BadClaim", "BadClaim", true), ("BadClaim", "BadEnd", false), ("BadClaim", "BadHeld", false), ("BadClaim", "BadLine", false), ("BadClaim", "BadNumber", false), ("BadClaim", "BadPit", false), ("BadClaim", "BadPlayer", false), ("BadClaim", "BadRing", false), ("BadClaim", "BadRoad", false), ("BadClaim", "BadRow", false), ("BadClaim", "BadShape", false), ("BadClaim", "BadSum", false), ("BadClaim", "BadText", false), ("BadClaim", "BadTurn", false), ("BadClaim", "CannotMove", false), ("BadClaim", "Cause", false), ("BadClaim", "Empty", false), ("BadClaim", "LapError", true), ("BadClaim", "NoEnd", false), ("BadClaim", "NoLap", false), ("BadClaim", "NoName", false), ("BadClaim", "NoPlayer", false), ("BadClaim", "NotWhole", false), ("BadClaim", "Nothing", false), ("BadClaim", "OutOfTurn", false), ("BadClaim", "TooMany", false), ("BadClaim", "Unlike", false), ("BadEnd", "BadBoard", false), ("BadEnd", "BadBook", false), ("BadEnd", "BadClaim", false)] : List (Str × Str × Bool)) ++ ([("BadEnd", "BadEnd", true), ("BadEnd", "BadHeld", false), ("BadEnd", "BadLine", false), ("BadEnd", "BadNumber", false), ("BadEnd", "BadPit", false), ("BadEnd", "BadPlayer", false), ("BadEnd", "BadRing", false), ("BadEnd", "BadRoad", false), ("BadEnd", "BadRow", false), ("BadEnd", "BadShape", false), ("BadEnd", "BadSum", false), ("BadEnd", "BadText", false), ("BadEnd", "BadTurn", false), ("BadEnd", "CannotMove", false), ("BadEnd", "Cause", false), ("BadEnd", "Empty", false), ("BadEnd", "LapError", true), ("BadEnd", "NoEnd", false), ("BadEnd", "NoLap", false), ("BadEnd", "NoName", false), ("BadEnd", "NoPlayer", false), ("BadEnd", "NotWhole", false), ("BadEnd", "Nothing", false), ("BadEnd", "OutOfTurn", false), ("BadEnd", "TooMany", false), ("BadEnd", "Unlike", false), ("BadHeld", "BadBoard", false), ("BadHeld", "BadBook", false), ("BadHeld", "BadClaim", false), ("BadHeld", "BadEnd", false)] : List (Str × Str × Bool)) ++ ([("BadHeld", "BadHeld", true), ("BadHeld", "BadLine", false), ("BadHeld", "BadNumber", false), ("BadHeld", "BadPit", false), ("BadHeld", "BadPlayer", false), ("BadHeld", "BadRing", false), ("BadHeld", "BadRoad", false), ("BadHeld", "BadRow", false), ("BadHeld", "BadShape", false), ("BadHeld", "BadSum", false), ("BadHeld", "BadText", false), ("BadHeld", "BadTurn", false), ("BadHeld", "CannotMove", false), ("BadHeld", "Cause", false), ("BadHeld", "Empty", false), ("BadHeld", "LapError", true), ("BadHeld", "NoEnd", false), ("BadHeld", "NoLap", false), ("BadHeld", "NoName", false), ("BadHeld", "NoPlayer", false), ("BadHeld", "NotWhole", false), ("BadHeld", "Nothing", false), ("BadHeld", "OutOfTurn", false), ("BadHeld", "TooMany", false), ("BadHeld", "Unlike", false), ("BadLine", "BadBoard", false), ("BadLine", "BadBook", false), ("BadLine", "BadClaim", false), ("BadLine", "BadEnd", false), ("BadLine", "BadHeld", false)] : List (Str × Str × Bool)) ++ ([("BadLine", "BadLine", true), ("BadLine", "BadNumber", false), ("BadLine", "BadPit", false), ("BadLine", "BadPlayer", false), ("BadLine", "BadRing", false), ("BadLine", "BadRoad", false), ("BadLine", "BadRow", false), ("BadLine", "BadShape", false), ("BadLine", "BadSum", false), ("BadLine", "BadText", false), ("BadLine", "BadTurn", false), ("BadLine", "CannotMove", false), ("BadLine", "Cause", false), ("BadLine", "Empty", false), ("BadLine", "LapError", true), ("BadLine", "NoEnd", false), ("BadLine", "NoLap", false), ("BadLine", "NoName", false), ("BadLine", "NoPlayer", false), ("BadLine", "NotWhole", false), ("BadLine", "Nothing", false), ("BadLine", "OutOfTurn", false), ("BadLine", "TooMany", false), ("BadLine", "Unlike", false), ("BadNumber", "BadBoard", false), ("BadNumber", "BadBook", false), ("BadNumber", "BadClaim", false), ("BadNumber", "BadEnd", false), ("BadNumber", "BadHeld", false), ("BadNumber", "BadLine", false)] : List (Str × Str × Bool)) ++ ([("BadNumber", "BadNumber", true), ("BadNumber", "BadPit", false), ("BadNumber", "BadPlayer", false), ("BadNumber", "BadRing", false), ("BadNumber", "BadRoad", false), ("BadNumber", "BadRow", false), ("BadNumber", "BadShape", false), ("BadNumber", "BadSum", false), ("BadNumber", "BadText", false), ("BadNumber", "BadTurn", false), ("BadNumber", "CannotMove", false), ("BadNumber", "Cause", false), ("BadNumber", "Empty", false), ("BadNumber", "LapError", true), ("BadNumber", "NoEnd", false), ("BadNumber", "NoLap", false), ("BadNumber", "NoName", false), ("BadNumber", "NoPlayer", false), ("BadNumber", "NotWhole", false), ("BadNumber", "Nothing", false), ("BadNumber", "OutOfTurn", false), ("BadNumber", "TooMany", false), ("BadNumber", "Unlike", false), ("BadPit", "BadBoard", false), ("BadPit", "BadBook", false), ("BadPit", "BadClaim", false), ("BadPit", "BadEnd", false), ("BadPit", "BadHeld", false), ("BadPit", "BadLine", false), ("BadPit", "BadNumber", false)] : List (Str × Str × Bool)) ++ ([("BadPit", "BadPit", true), ("BadPit", "BadPlayer", false), ("BadPit", "BadRing", false), ("BadPit", "BadRoad", false), ("BadPit", "BadRow", false), ("BadPit", "BadShape", false), ("BadPit", "BadSum", false), ("BadPit", "BadText", false), ("BadPit", "BadTurn", false), ("BadPit", "CannotMove", false), ("BadPit", "Cause", false), ("BadPit", "Empty", false), ("BadPit", "LapError", true), ("BadPit", "NoEnd", false), ("BadPit", "NoLap", false), ("BadPit", "NoName", false), ("BadPit", "NoPlayer", false), ("BadPit", "NotWhole", false), ("BadPit", "Nothing", false), ("BadPit", "OutOfTurn", false), ("BadPit", "TooMany", false), ("BadPit", "Unlike", false), ("BadPlayer", "BadBoard", false), ("BadPlayer", "BadBook", false), ("BadPlayer", "BadClaim", false), ("BadPlayer", "BadEnd", false), ("BadPlayer", "BadHeld", false), ("BadPlayer", "BadLine", false), ("BadPlayer", "BadNumber", false), ("BadPlayer", "BadPit", false)] : List (Str × Str × Bool)) ++ ([("BadPlayer", "BadPlayer", true), ("BadPlayer", "BadRing", false), ("BadPlayer", "BadRoad", false), ("BadPlayer", "BadRow", false), ("BadPlayer", "BadShape", false), ("BadPlayer", "BadSum", false), ("BadPlayer", "BadText", false), ("BadPlayer", "BadTurn", false), ("BadPlayer", "CannotMove", false), ("BadPlayer", "Cause", false), ("BadPlayer", "Empty", false), ("BadPlayer", "LapError", true), ("BadPlayer", "NoEnd", false), ("BadPlayer", "NoLap", false), ("BadPlayer", "NoName", false), ("BadPlayer", "NoPlayer", false), ("BadPlayer", "NotWhole", false), ("BadPlayer", "Nothing", false), ("BadPlayer", "OutOfTurn", false), ("BadPlayer", "TooMany", false), ("BadPlayer", "Unlike", false), ("BadRing", "BadBoard", false), ("BadRing", "BadBook", false), ("BadRing", "BadClaim", false), ("BadRing", "BadEnd", false), ("BadRing", "BadHeld", false), ("BadRing", "BadLine", false), ("BadRing", "BadNumber", false), ("BadRing", "BadPit", false), ("BadRing", "BadPlayer", false)] : List (Str × Str × Bool)) ++ ([("BadRing", "BadRing", true), ("BadRing", "BadRoad", false), ("BadRing", "BadRow", false), ("BadRing", "BadShape", false), ("BadRing", "BadSum", false), ("BadRing", "BadText", false), ("BadRing", "BadTurn", false), ("BadRing", "CannotMove", false), ("BadRing", "Cause", false), ("BadRing", "Empty", false), ("BadRing", "LapError", true), ("BadRing", "NoEnd", false), ("BadRing", "NoLap", false), ("BadRing", "NoName", false), ("BadRing", "NoPlayer", false), ("BadRing", "NotWhole", false), ("BadRing", "Nothing", false), ("BadRing", "OutOfTurn", false), ("BadRing", "TooMany", false), ("BadRing", "Unlike", false), ("BadRoad", "BadBoard", false), ("BadRoad", "BadBook", false), ("BadRoad", "BadClaim", false), ("BadRoad", "BadEnd", false), ("BadRoad", "BadHeld", false), ("BadRoad", "BadLine", false), ("BadRoad", "BadNumber", false), ("BadRoad", "BadPit", false), ("BadRoad", "BadPlayer", false), ("BadRoad", "BadRing", false)] : List (Str × Str × Bool)) ++ ([("BadRoad", "BadRoad", true), ("BadRoad", "BadRow", false), ("BadRoad", "BadShape", false), ("BadRoad", "BadSum", false), ("BadRoad", "BadText", false), ("BadRoad", "BadTurn", false), ("BadRoad", "CannotMove", false), ("BadRoad", "Cause", false), ("BadRoad", "Empty", false), ("BadRoad", "LapError", true), ("BadRoad", "NoEnd", false), ("BadRoad", "NoLap", false), ("BadRoad", "NoName", false), ("BadRoad", "NoPlayer", false), ("BadRoad", "NotWhole", false), ("BadRoad", "Nothing", false), ("BadRoad", "OutOfTurn", false), ("BadRoad", "TooMany", false), ("BadRoad", "Unlike", false), ("BadRow", "BadBoard", false), ("BadRow", "BadBook", false), ("BadRow", "BadClaim", false), ("BadRow", "BadEnd", false), ("BadRow", "BadHeld", false), ("BadRow", "BadLine", false), ("BadRow", "BadNumber", false), ("BadRow", "BadPit", false), ("BadRow", "BadPlayer", false), ("BadRow", "BadRing", false), ("BadRow", "BadRoad", false)] : List (Str × Str × Bool)) ++ ([("BadRow", "BadRow", true), ("BadRow", "BadShape", false), ("BadRow", "BadSum", false), ("BadRow", "BadText", false), ("BadRow", "BadTurn", false), ("BadRow", "CannotMove", false), ("BadRow", "Cause", false), ("BadRow", "Empty", false), ("BadRow", "LapError", true), ("BadRow", "NoEnd", false), ("BadRow", "NoLap", false), ("BadRow", "NoName", false), ("BadRow", "NoPlayer", false), ("BadRow", "NotWhole", false), ("BadRow", "Nothing", false), ("BadRow", "OutOfTurn", false), ("BadRow", "TooMany", false), ("BadRow", "Unlike", false), ("BadShape", "BadBoard", false), ("BadShape", "BadBook", false), ("BadShape", "BadClaim", false), ("BadShape", "BadEnd", false), ("BadShape", "BadHeld", false), ("BadShape", "BadLine", false), ("BadShape", "BadNumber", false), ("BadShape", "BadPit", false), ("BadShape", "BadPlayer", false), ("BadShape", "BadRing", false), ("BadShape", "BadRoad", false), ("BadShape", "BadRow", false)] : List (Str × Str × Bool)) ++ ([("BadShape", "BadShape", true), ("BadShape", "BadSum", false), ("BadShape", "BadText", false), ("BadShape", "BadTurn", false), ("BadShape", "CannotMove", false), ("BadShape", "Cause", false), ("BadShape", "Empty", false), ("BadShape", "LapError", true), ("BadShape", "NoEnd", false), ("BadShape", "NoLap", false), ("BadShape", "NoName", false), ("BadShape", "NoPlayer", false), ("BadShape", "NotWhole", false), ("BadShape", "Nothing", false), ("BadShape", "OutOfTurn", false), ("BadShape", "TooMany", false), ("BadShape", "Unlike", false), ("BadSum", "BadBoard", false), ("BadSum", "BadBook", false), ("BadSum", "BadClaim", false), ("BadSum", "BadEnd", false), ("BadSum", "BadHeld", false), ("BadSum", "BadLine", false), ("BadSum", "BadNumber", false), ("BadSum", "BadPit", false), ("BadSum", "BadPlayer", false), ("BadSum", "BadRing", false), ("BadSum", "BadRoad", false), ("BadSum", "BadRow", false), ("BadSum", "BadShape", false)] : List (Str × Str × Bool)) ++ ([("BadSum", "BadSum", true), ("BadSum", "BadText", false), ("BadSum", "BadTurn", false), ("BadSum", "CannotMove", false), ("BadSum", "Cause", false), ("BadSum", "Empty", false), ("BadSum", "LapError", true), ("BadSum", "NoEnd", false), ("BadSum", "NoLap", false), ("BadSum", "NoName", false), ("BadSum", "NoPlayer", false), ("BadSum", "NotWhole", false), ("BadSum", "Nothing", false), ("BadSum", "OutOfTurn", false), ("BadSum", "TooMany", false), ("BadSum", "Unlike", false), ("BadText", "BadBoard", false), ("BadText", "BadBook", false), ("BadText", "BadClaim", false), ("BadText", "BadEnd", false), ("BadText", "BadHeld", false), ("BadText", "BadLine", false), ("BadText", "BadNumber", false), ("BadText", "BadPit", false), ("BadText", "BadPlayer", false), ("BadText", "BadRing", false), ("BadText", "BadRoad", false), ("BadText", "BadRow", false), ("BadText", "BadShape", false), ("BadText", "BadSum", false)] : List (Str × Str × Bool)) ++ ([("BadText", "BadText", true), ("BadText", "BadTurn", false), ("BadText", "CannotMove", false), ("BadText", "Cause", false), ("BadText", "Empty", false), ("BadText", "LapError", true), ("BadText", "NoEnd", false), ("BadText", "NoLap", false), ("BadText", "NoName", false), ("BadText", "NoPlayer", false), ("BadText", "NotWhole", false), ("BadText", "Nothing", false), ("BadText", "OutOfTurn", false), ("BadText", "TooMany", false), ("BadText", "Unlike", false), ("BadTurn", "BadBoard", false), ("BadTurn", "BadBook", false), ("BadTurn", "BadClaim", false), ("BadTurn", "BadEnd", false), ("BadTurn", "BadHeld", false), ("BadTurn", "BadLine", false), ("BadTurn", "BadNumber", false), ("BadTurn", "BadPit", false), ("BadTurn", "BadPlayer", false), ("BadTurn", "BadRing", false), ("BadTurn", "BadRoad", false), ("BadTurn", "BadRow", false), ("BadTurn", "BadShape", false), ("BadTurn", "BadSum", false), ("BadTurn", "BadText", false)] : List (Str × Str × Bool)) ++ ([("BadTurn", "BadTurn", true), ("BadTurn", "CannotMove", false), ("BadTurn", "Cause", false), ("BadTurn", "Empty", false), ("BadTurn", "LapError", true), ("BadTurn", "NoEnd", false), ("BadTurn", "NoLap", false), ("BadTurn", "NoName", false), ("BadTurn", "NoPlayer", false), ("BadTurn", "NotWhole", false), ("BadTurn", "Nothing", false), ("BadTurn", "OutOfTurn", false), ("BadTurn", "TooMany", false), ("BadTurn", "Unlike", false), ("CannotMove", "BadBoard", false), ("CannotMove", "BadBook", false), ("CannotMove", "BadClaim", false), ("CannotMove", "BadEnd", false), ("CannotMove", "BadHeld", false), ("CannotMove", "BadLine", false), ("CannotMove", "BadNumber", false), ("CannotMove", "BadPit", false), ("CannotMove", "BadPlayer", false), ("CannotMove", "BadRing", false), ("CannotMove", "BadRoad", false), ("CannotMove", "BadRow", false), ("CannotMove", "BadShape", false), ("CannotMove", "BadSum", false), ("CannotMove", "BadText", false), ("CannotMove", "BadTurn", false)] : List (Str × Str × Bool)) ++ ([("CannotMove", "CannotMove", true), ("CannotMove", "Cause", false), ("CannotMove", "Empty", false), ("CannotMove", "LapError", true), ("CannotMove", "NoEnd", false), ("CannotMove", "NoLap", false), ("CannotMove", "NoName", false), ("CannotMove", "NoPlayer", false), ("CannotMove", "NotWhole", false), ("CannotMove", "Nothing", false), ("CannotMove", "OutOfTurn", false), ("CannotMove", "TooMany", false), ("CannotMove", "Unlike", false), ("Cause", "BadBoard", false), ("Cause", "BadBook", false), ("Cause", "BadClaim", false), ("Cause", "BadEnd", false), ("Cause", "BadHeld", false), ("Cause", "BadLine", false), ("Cause", "BadNumber", false), ("Cause", "BadPit", false), ("Cause", "BadPlayer", false), ("Cause", "BadRing", false), ("Cause", "BadRoad", false), ("Cause", "BadRow", false), ("Cause", "BadShape", false), ("Cause", "BadSum", false), ("Cause", "BadText", false), ("Cause", "BadTurn", false), ("Cause", "CannotMove", false)] : List (Str × Str × Bool)) ++ ([("Cause", "Cause", true), ("Cause", "Empty", false), ("Cause", "LapError", true), ("Cause", "NoEnd", false), ("Cause", "NoLap", false), ("Cause", "NoName", false), ("Cause", "NoPlayer", false), ("Cause", "NotWhole", false), ("Cause", "Nothing", false), ("Cause", "OutOfTurn", false), ("Cause", "TooMany", false), ("Cause", "Unlike", false), ("Empty", "BadBoard", false), ("Empty", "BadBook", false), ("Empty", "BadClaim", false), ("Empty", "BadEnd", false), ("Empty", "BadHeld", false), ("Empty", "BadLine", false), ("Empty", "BadNumber", false), ("Empty", "BadPit", false), ("Empty", "BadPlayer", false), ("Empty", "BadRing", false), ("Empty", "BadRoad", false), ("Empty", "BadRow", false), ("Empty", "BadShape", false), ("Empty", "BadSum", false), ("Empty", "BadText", false), ("Empty", "BadTurn", false), ("Empty", "CannotMove", false), ("Empty", "Cause", true)] : List (Str × Str × Bool)) ++ ([("Empty", "Empty", true), ("Empty", "LapError", true), ("Empty", "NoEnd", false), ("Empty", "NoLap", false), ("Empty", "NoName", false), ("Empty", "NoPlayer", false), ("Empty", "NotWhole", false), ("Empty", "Nothing", false), ("Empty", "OutOfTurn", false), ("Empty", "TooMany", false), ("Empty", "Unlike", false), ("NoEnd", "BadBoard", false), ("NoEnd", "BadBook", false), ("NoEnd", "BadClaim", false), ("NoEnd", "BadEnd", false), ("NoEnd", "BadHeld", false), ("NoEnd", "BadLine", false), ("NoEnd", "BadNumber", false), ("NoEnd", "BadPit", false), ("NoEnd", "BadPlayer", false), ("NoEnd", "BadRing", false), ("NoEnd", "BadRoad", false), ("NoEnd", "BadRow", false), ("NoEnd", "BadShape", false), ("NoEnd", "BadSum", false), ("NoEnd", "BadText", false), ("NoEnd", "BadTurn", false), ("NoEnd", "CannotMove", false), ("NoEnd", "Cause", false), ("NoEnd", "Empty", false)] : List (Str × Str × Bool)) ++ ([("NoEnd", "LapError", true), ("NoEnd", "NoEnd", true), ("NoEnd", "NoLap", false), ("NoEnd", "NoName", false), ("NoEnd", "NoPlayer", false), ("NoEnd", "NotWhole", false), ("NoEnd", "Nothing", false), ("NoEnd", "OutOfTurn", false), ("NoEnd", "TooMany", false), ("NoEnd", "Unlike", false), ("NoLap", "BadBoard", false), ("NoLap", "BadBook", false), ("NoLap", "BadClaim", false), ("NoLap", "BadEnd", false), ("NoLap", "BadHeld", false), ("NoLap", "BadLine", false), ("NoLap", "BadNumber", false), ("NoLap", "BadPit", false), ("NoLap", "BadPlayer", false), ("NoLap", "BadRing", false), ("NoLap", "BadRoad", false), ("NoLap", "BadRow", false), ("NoLap", "BadShape", false), ("NoLap", "BadSum", false), ("NoLap", "BadText", false), ("NoLap", "BadTurn", false), ("NoLap", "CannotMove", false), ("NoLap", "Cause", false), ("NoLap", "Empty", false), ("NoLap", "LapError", true)] : List (Str × Str × Bool)) ++ ([("NoLap", "NoEnd", false), ("NoLap", "NoLap", true), ("NoLap", "NoName", false), ("NoLap", "NoPlayer", false), ("NoLap", "NotWhole", false), ("NoLap", "Nothing", false), ("NoLap", "OutOfTurn", false), ("NoLap", "TooMany", false), ("NoLap", "Unlike", false), ("NoName", "BadBoard", false), ("NoName", "BadBook", false), ("NoName", "BadClaim", false), ("NoName", "BadEnd", false), ("NoName", "BadHeld", false), ("NoName", "BadLine", false), ("NoName", "BadNumber", false), ("NoName", "BadPit", false), ("NoName", "BadPlayer", false), ("NoName", "BadRing", false), ("NoName", "BadRoad", false), ("NoName", "BadRow", false), ("NoName", "BadShape", false), ("NoName", "BadSum", false), ("NoName", "BadText", false), ("NoName", "BadTurn", false), ("NoName", "CannotMove", false), ("NoName", "Cause", false), ("NoName", "Empty", false), ("NoName", "LapError", true), ("NoName", "NoEnd", false)] : List (Str × Str × Bool)) ++ ([("NoName", "NoLap", false), ("NoName", "NoName", true), ("NoName", "NoPlayer", false), ("NoName", "NotWhole", false), ("NoName", "Nothing", false), ("NoName", "OutOfTurn", false), ("NoName", "TooMany", false), ("NoName", "Unlike", false), ("NoPlayer", "BadBoard", false), ("NoPlayer", "BadBook", false), ("NoPlayer", "BadClaim", false), ("NoPlayer", "BadEnd", false), ("NoPlayer", "BadHeld", false), ("NoPlayer", "BadLine", false), ("NoPlayer", "BadNumber", false), ("NoPlayer", "BadPit", false), ("NoPlayer", "BadPlayer", false), ("NoPlayer", "BadRing", false), ("NoPlayer", "BadRoad", false), ("NoPlayer", "BadRow", false), ("NoPlayer", "BadShape", false), ("NoPlayer", "BadSum", false), ("NoPlayer", "BadText", false), ("NoPlayer", "BadTurn", false), ("NoPlayer", "CannotMove", false), ("NoPlayer", "Cause", true), ("NoPlayer", "Empty", false), ("NoPlayer", "LapError", true), ("NoPlayer", "NoEnd", false), ("NoPlayer", "NoLap", false)] : List (Str × Str × Bool)) ++ ([("NoPlayer", "NoName", false), ("NoPlayer", "NoPlayer", true), ("NoPlayer", "NotWhole", false), ("NoPlayer", "Nothing", false), ("NoPlayer", "OutOfTurn", false), ("NoPlayer", "TooMany", false), ("NoPlayer", "Unlike", false), ("NotWhole", "BadBoard", false), ("NotWhole", "BadBook", false), ("NotWhole", "BadClaim", false), ("NotWhole", "BadEnd", false), ("NotWhole", "BadHeld", false), ("NotWhole", "BadLine", false), ("NotWhole", "BadNumber", false), ("NotWhole", "BadPit", false), ("NotWhole", "BadPlayer", false), ("NotWhole", "BadRing", false), ("NotWhole", "BadRoad", false), ("NotWhole", "BadRow", false), ("NotWhole", "BadShape", false), ("NotWhole", "BadSum", false), ("NotWhole", "BadText", false), ("NotWhole", "BadTurn", false), ("NotWhole", "CannotMove", false), ("NotWhole", "Cause", false), ("NotWhole", "Empty", false), ("NotWhole", "LapError", true), ("NotWhole", "NoEnd", false), ("NotWhole", "NoLap", false), ("NotWhole", "NoName", false)] : List (Str × Str × Bool)) ++ ([("NotWhole", "NoPlayer", false), ("NotWhole", "NotWhole", true), ("NotWhole", "Nothing", false), ("NotWhole", "OutOfTurn", false), ("NotWhole", "TooMany", false), ("NotWhole", "Unlike", false), ("Nothing", "BadBoard", false), ("Nothing", "BadBook", false), ("Nothing", "BadClaim", false), ("Nothing", "BadEnd", false), ("Nothing", "BadHeld", false), ("Nothing", "BadLine", false), ("Nothing", "BadNumber", false), ("Nothing", "BadPit", false), ("Nothing", "BadPlayer", false), ("Nothing", "BadRing", false), ("Nothing", "BadRoad", false), ("Nothing", "BadRow", false), ("Nothing", "BadShape", false), ("Nothing", "BadSum", false), ("Nothing", "BadText", false), ("Nothing", "BadTurn", false), ("Nothing", "CannotMove", false), ("Nothing", "Cause", false), ("Nothing", "Empty", false), ("Nothing", "LapError", true), ("Nothing", "NoEnd", false), ("Nothing", "NoLap", false), ("Nothing", "NoName", false), ("Nothing", "NoPlayer", false)] : List (Str × Str × Bool)) ++ ([("Nothing", "NotWhole", false), ("Nothing", "Nothing", true), ("Nothing", "OutOfTurn", false), ("Nothing", "TooMany", false), ("Nothing", "Unlike", false), ("OutOfTurn", "BadBoard", false), ("OutOfTurn", "BadBook", false), ("OutOfTurn", "BadClaim", false), ("OutOfTurn", "BadEnd", false), ("OutOfTurn", "BadHeld", false), ("OutOfTurn", "BadLine", false), ("OutOfTurn", "BadNumber", false), ("OutOfTurn", "BadPit", false), ("OutOfTurn", "BadPlayer", false), ("OutOfTurn", "BadRing", false), ("OutOfTurn", "BadRoad", false), ("OutOfTurn", "BadRow", false), ("OutOfTurn", "BadShape", false), ("OutOfTurn", "BadSum", false), ("OutOfTurn", "BadText", false), ("OutOfTurn", "BadTurn", false), ("OutOfTurn", "CannotMove", false), ("OutOfTurn", "Cause", true), ("OutOfTurn", "Empty", false), ("OutOfTurn", "LapError", true), ("OutOfTurn", "NoEnd", false), ("OutOfTurn", "NoLap", false), ("OutOfTurn", "NoName", false), ("OutOfTurn", "NoPlayer", false), ("OutOfTurn", "NotWhole", false)] : List (Str × Str × Bool)) ++ ([("OutOfTurn", "Nothing", false), ("OutOfTurn", "OutOfTurn", true), ("OutOfTurn", "TooMany", false), ("OutOfTurn", "Unlike", false), ("TooMany", "BadBoard", false), ("TooMany", "BadBook", false), ("TooMany", "BadClaim", false), ("TooMany", "BadEnd", false), ("TooMany", "BadHeld", false), ("TooMany", "BadLine", false), ("TooMany", "BadNumber", false), ("TooMany", "BadPit", false), ("TooMany", "BadPlayer", false), ("TooMany", "BadRing", false), ("TooMany", "BadRoad", false), ("TooMany", "BadRow", false), ("TooMany", "BadShape", false), ("TooMany", "BadSum", false), ("TooMany", "BadText", false), ("TooMany", "BadTurn", false), ("TooMany", "CannotMove", false), ("TooMany", "Cause", false), ("TooMany", "Empty", false), ("TooMany", "LapError", true), ("TooMany", "NoEnd", false), ("TooMany", "NoLap", false), ("TooMany", "NoName", false), ("TooMany", "NoPlayer", false), ("TooMany", "NotWhole", false), ("TooMany", "Nothing", false)] : List (Str × Str × Bool)) ++ ([("TooMany", "OutOfTurn", false), ("TooMany", "TooMany", true), ("TooMany", "Unlike", false), ("Unlike", "BadBoard", false), ("Unlike", "BadBook", false), ("Unlike", "BadClaim", false), ("Unlike", "BadEnd", false), ("Unlike", "BadHeld", false), ("Unlike", "BadLine", false), ("Unlike", "BadNumber", false), ("Unlike", "BadPit", false), ("Unlike", "BadPlayer", false), ("Unlike", "BadRing", false), ("Unlike", "BadRoad", false), ("Unlike", "BadRow", false), ("Unlike", "BadShape", false), ("Unlike", "BadSum", false), ("Unlike", "BadText", false), ("Unlike", "BadTurn", false), ("Unlike", "CannotMove", false), ("Unlike", "Cause", false), ("Unlike", "Empty", false), ("Unlike", "LapError", true), ("Unlike", "NoEnd", false), ("Unlike", "NoLap", false), ("Unlike", "NoName", false), ("Unlike", "NoPlayer", false), ("Unlike", "NotWhole", false), ("Unlike", "Nothing", false), ("Unlike", "OutOfTurn", false)] : List (Str × Str × Bool)) ++ ([("Unlike", "TooMany", false), ("Unlike", "Unlike", true)] : List (Str × Str × Bool))
def ccs : List (Str × Str × Int) := []
def xcs : List Str := ["BadBoard", "BadBook", "BadClaim", "BadEnd", "BadHeld", "BadLine", "BadNumber", "BadPit", "BadPlayer", "BadRing", "BadRoad", "BadRow", "BadShape", "BadSum", "BadText", "BadTurn", "CannotMove", "Cause", "Empty", "NoEnd", "NoLap", "NoName", "NoPlayer", "NotWhole", "Nothing", "OutOfTurn", "TooMany", "Unlike"]
def xis : List Str := ["BadBoard", "BadBook", "BadClaim", "BadEnd", "BadHeld", "BadLine", "BadNumber", "BadPit", "BadPlayer", "BadRing", "BadRoad", "BadRow", "BadShape", "BadSum", "BadText", "BadTurn", "CannotMove", "Empty", "NoEnd", "NoLap", "NoName", "NoPlayer", "OutOfTurn", "TooMany"]
def xns : List Str := ["Cause", "NotWhole", "Nothing", "Unlike"]
def xms : List (Str × Str) := [("CannotMove", "LapError")]
def kvs : List Str := ["BadBoard", "BadBook", "BadClaim", "BadEnd", "BadHeld", "BadLine", "BadNumber", "BadPit", "BadPlayer", "BadRing", "BadRoad", "BadRow", "BadShape", "BadSum", "BadText", "BadTurn", "CannotMove", "Cause", "Empty", "NoEnd", "NoLap", "NoName", "NoPlayer", "NotWhole", "Nothing", "OutOfTurn", "TooMany", "Unlike"]
def lams : List Str := []
def chk (K : Frag) : Bool := ((xcs.all fun c => PV.xcB K (He.ga K c)) && ((xis.all fun c => PV.oexB K (He.ga K c)) && ((xns.all fun c => excIn K (He.ga K c) PySem.HandSPX.veTail "ValueError.__new__") && ((xms.all fun p => decide (exmOne K (.ref (He.ga K p.1)) (.ref (He.ga K p.2)) = some true)) && ((kvs.all fun c => decide (kitOne K (.ref (He.ga K c)) (.type "ValueError") = some true)) && ((dvs.all fun p => (match nsIn K (He.ga K p.1) p.2.1 with | some (some (.str y _)) => decide (y = p.2.2) | _ => false)) && ((glos.all fun x => (He.Fa.glo x).ok K) && ((frees.all fun x => (He.Fa.free x).ok K) && ((meths.all fun p => (He.Fa.meth p.1 p.2).ok K) && ((intcs.all fun p => (He.Fa.int p.1 p.2).ok K) && ((strcs.all fun p => (He.Fa.str p.1 p.2).ok K) && ((clss.all fun c => (He.Fa.cls c).ok K) && ((mkrs.all fun c => (He.Fa.mkr c).ok K) && ((noats.all fun p => (He.Fa.noat p.1 p.2).ok K) && ((cms.all fun p => He5.wrapB K (He.ga K p.1) "classmethod" "classmethod.__get__" p.2 && fnIn K (wO K p.1 p.2)) && ((sms.all fun p => He5.wrapB K (He.ga K p.1) "staticmethod" "staticmethod.__get__" p.2 && keepIn K (.ref (uO K p.1 p.2))) && ((crds.all fun c => readsIn K (He.ga K c) (.type "type") && He.eqO (specialIn K (.ref (He.ga K c)) "__getattribute__") (some (some (.builtin "type.__getattribute__")))) && ((nes.all fun c => He.eqO (findIn K (.ref (He.ga K c)) "__ne__") (some (some (.builtin "object.__ne__"))) && decide (mroIn K (He.ga K c) (.type "object") = some true)) && ((gis.all fun p => fnIn K (mO K p.1 p.2)) && ((selfs.all fun c => selfFirst K (He.ga K c)) && ((nofs.all fun p => He.eqO (findIn K (.ref (He.ga K p.1)) p.2) (some none)) && ((tys.all fun p => He.eqO (findIn K (.type p.1) p.2.1) (some (some (.builtin p.2.2)))) && ((subs.all fun p => decide (subIn K (.type p.1) (.ref (He.ga K p.2)) = some false)) && ((pls.all fun c => decide ((clsIn K (He.ga K c)).map (fun cd => cd.mro) = some [.ref (He.ga K c), .type "object"])) && ((subc.all fun p => decide (subIn K (.ref (He.ga K p.1)) (.type p.2) = some false)) && ((onos.all fun m => He.eqO (findIn K (.type "object") m) (some none)) && ((subx.all fun p => decide (subIn K (.ref (He.ga K p.1)) (.ref (He.ga K p.2)) = some false)) && ((kits.all fun p => decide (kitOne K (.type p.1) (.ref (He.ga K p.2)) = some false)) && ((kitcs.all fun p => decide (kitOne K (.ref (He.ga K p.1)) (.type p.2) = some false)) && ((kitos.all fun p => decide (kitOne K (.ref (He.ga K p.1)) (.ref (He.ga K p.2.1)) = some p.2.2)) && ((ccs.all fun p => match findCls K (.ref (He.ga K p.1)) (.type "type") p.2.1 with | some (.val (.int i _)) => decide (i = p.2.2) | _ => false) && ((clss.all fun c => He.eqO (findIn K (.ref (He.ga K c)) "__class__") (some (some (.builtin "object.__class__")))) && ((clss.all fun c => decide (mroIn K (He.ga K c) (.type "object") = some true)) && ((He.eqO (specialIn K (.builtin "object.__class__") "__get__") (some (some (.builtin "getset_descriptor.__get__")))) && (decide (takesIn K (.builtin "object.__class__") = some true))))))))))))))))))))))))))))))))))))
structure TX (K : Frag) (mg : Str → Option Value) : Prop where
  says : ZH.SaysZ chk fn K
  xc : ∀ c ∈ xcs, PV.XC K (He.ga K c)
  xi : ∀ c ∈ xis, PV.oexB K (He.ga K c) = true
  xn : ∀ c ∈ xns, excIn K (He.ga K c) PySem.HandSPX.veTail "ValueError.__new__" = true
  xm : ∀ c d, (c, d) ∈ xms → exmOne K (.ref (He.ga K c)) (.ref (He.ga K d)) = some true
  kv : ∀ c ∈ kvs, kitOne K (.ref (He.ga K c)) (.type "ValueError") = some true
  dv : ∀ x k v, (x, k, v) ∈ dvs → ∃ t, nsIn K (He.ga K x) k = some (some (.str v t))
  glo : ∀ x ∈ glos, mg x = some (.ref (He.ga K x))
  free : ∀ x ∈ frees, mg x = none
  meth : ∀ c m, (c, m) ∈ meths → Meth K (He.ga K c) m (mO K c m)
  intc : ∀ x i, (x, i) ∈ intcs → ∃ t, mg x = some (.int i t)
  strc : ∀ x z, (x, z) ∈ strcs → ∃ t, mg x = some (.str z t)
  cl : ∀ c ∈ clss, Cls K (He.ga K c)
  mkr : ∀ c ∈ mkrs, Mk K (He.ga K c) (mO K c "__init__")
  na : ∀ c f, (c, f) ∈ noats → NoAttr K (He.ga K c) f
  cm : ∀ c m, (c, m) ∈ cms → ClX.CMet K (He.ga K c) (.type "type") m (mO K c m) (wO K c m)
  sm : ∀ c m, (c, m) ∈ sms → PV.SMet K (He.ga K c) (.type "type") m (mO K c m) (uO K c m)
  rd : ∀ c ∈ crds, ClX.CRead K (He.ga K c) (.type "type")
  ne : ∀ c ∈ nes, ZL.OwnNe K (He.ga K c)
  gi : ∀ c m, (c, m) ∈ gis → fnIn K (mO K c m) = true
  sf : ∀ c ∈ selfs, selfFirst K (He.ga K c) = true
  nf : ∀ c m, (c, m) ∈ nofs → findIn K (.ref (He.ga K c)) m = some none
  ty : ∀ T m i, (T, m, i) ∈ tys → findIn K (.type T) m = some (some (.builtin i))
  sb : ∀ T c, (T, c) ∈ subs → subIn K (.type T) (.ref (He.ga K c)) = some false
  pl : ∀ c ∈ pls, ZL.Plain K (He.ga K c)
  sc : ∀ c T, (c, T) ∈ subc → subIn K (.ref (He.ga K c)) (.type T) = some false
  on : ∀ m ∈ onos, findIn K (.type "object") m = some none
  sx : ∀ c d, (c, d) ∈ subx → subIn K (.ref (He.ga K c)) (.ref (He.ga K d)) = some false
  kt : ∀ T c, (T, c) ∈ kits → kitOne K (.type T) (.ref (He.ga K c)) = some false
  kc : ∀ c T, (c, T) ∈ kitcs → kitOne K (.ref (He.ga K c)) (.type T) = some false
  ko : ∀ c d b, (c, d, b) ∈ kitos → kitOne K (.ref (He.ga K c)) (.ref (He.ga K d)) = some b
  cc : ∀ c f i, (c, f, i) ∈ ccs → ∃ u, ClX.CVal K (He.ga K c) (.type "type") f (.int i) u
  ca : ∀ c ∈ clss, findIn K (.ref (He.ga K c)) "__class__" = some (some (.builtin "object.__class__"))
  ob : ∀ c ∈ clss, mroIn K (He.ga K c) (.type "object") = some true
  cg : specialIn K (.builtin "object.__class__") "__get__" = some (some (.builtin "getset_descriptor.__get__"))
  ct : takesIn K (.builtin "object.__class__") = some true
theorem tx {K : Frag} {mg : Str → Option Value} {h : Heap} (X : K.In h) (G : h.Ns mainGlobals mg) (c : ZH.SaysZ chk fn K) : TX K mg := by
  have z := c.fact
  obtain ⟨z0, z⟩ := He.ba z
  obtain ⟨z1, z⟩ := He.ba z
  obtain ⟨z2, z⟩ := He.ba z
  obtain ⟨z3, z⟩ := He.ba z
  obtain ⟨z4, z⟩ := He.ba z
  obtain ⟨z5, z⟩ := He.ba z
  obtain ⟨z6, z⟩ := He.ba z
  obtain ⟨z7, z⟩ := He.ba z
  obtain ⟨z8, z⟩ := He.ba z
  obtain ⟨z9, z⟩ := He.ba z
  obtain ⟨z10, z⟩ := He.ba z
  obtain ⟨z11, z⟩ := He.ba z
  obtain ⟨z12, z⟩ := He.ba z
  obtain ⟨z13, z⟩ := He.ba z
  obtain ⟨z14, z⟩ := He.ba z
  obtain ⟨z15, z⟩ := He.ba z
  obtain ⟨z16, z⟩ := He.ba z
  obtain ⟨z17, z⟩ := He.ba z
  obtain ⟨z18, z⟩ := He.ba z
  obtain ⟨z19, z⟩ := He.ba z
  obtain ⟨z20, z⟩ := He.ba z
  obtain ⟨z21, z⟩ := He.ba z
  obtain ⟨z22, z⟩ := He.ba z
  obtain ⟨z23, z⟩ := He.ba z
  obtain ⟨z24, z⟩ := He.ba z
  obtain ⟨z25, z⟩ := He.ba z
  obtain ⟨z26, z⟩ := He.ba z
  obtain ⟨z27, z⟩ := He.ba z
  obtain ⟨z28, z⟩ := He.ba z
  obtain ⟨z29, z⟩ := He.ba z
  obtain ⟨z30, z⟩ := He.ba z
  obtain ⟨z31, z⟩ := He.ba z
  obtain ⟨z32, z⟩ := He.ba z
  obtain ⟨z33, z34⟩ := He.ba z
  exact { says := c, xc := (fun c hc => PV.xc_of (List.all_eq_true.mp z0 c hc)), xi := (fun c hc => List.all_eq_true.mp z1 c hc), xn := (fun c hc => List.all_eq_true.mp z2 c hc), xm := (fun c d hp => of_decide_eq_true (List.all_eq_true.mp z3 (c, d) hp)), kv := (fun c hc => of_decide_eq_true (List.all_eq_true.mp z4 c hc)), dv := (fun x k v hp => PV.dval_of (List.all_eq_true.mp z5 (x, k, v) hp)), glo := (fun x hx => He.glo_ok X G (List.all_eq_true.mp z6 x hx)), free := (fun x hx => He.free_ok X G (List.all_eq_true.mp z7 x hx)), meth := (fun c m hp => He.meth_ok (List.all_eq_true.mp z8 (c, m) hp)), intc := (fun x i hp => He.int_ok X G (List.all_eq_true.mp z9 (x, i) hp)), strc := (fun x i hp => He.str_ok X G (List.all_eq_true.mp z10 (x, i) hp)), cl := (fun c hc => He.cls_ok (List.all_eq_true.mp z11 c hc)), mkr := (fun c hc => He.mkr_ok (List.all_eq_true.mp z12 c hc)), na := (fun c f hp => He.noat_ok (List.all_eq_true.mp z13 (c, f) hp)), cm := (fun c m hp => He5.cmet_of (He.ba (List.all_eq_true.mp z14 (c, m) hp)).1 (He.ba (List.all_eq_true.mp z14 (c, m) hp)).2), sm := (fun c m hp => PV.smet_of (He.ba (List.all_eq_true.mp z15 (c, m) hp)).1 (He.ba (List.all_eq_true.mp z15 (c, m) hp)).2), rd := (fun c hc => ⟨(He.ba (List.all_eq_true.mp z16 c hc)).1, He.eqO_ok (He.ba (List.all_eq_true.mp z16 c hc)).2⟩), ne := (fun c hc => ⟨He.eqO_ok (He.ba (List.all_eq_true.mp z17 c hc)).1, of_decide_eq_true (He.ba (List.all_eq_true.mp z17 c hc)).2⟩), gi := (fun c m hp => List.all_eq_true.mp z18 (c, m) hp), sf := (fun c hc => List.all_eq_true.mp z19 c hc), nf := (fun c m hp => He.eqO_ok (List.all_eq_true.mp z20 (c, m) hp)), ty := (fun T m i hp => He.eqO_ok (List.all_eq_true.mp z21 (T, m, i) hp)), sb := (fun T c hp => of_decide_eq_true (List.all_eq_true.mp z22 (T, c) hp)), pl := (fun c hc => Option.map_eq_some_iff.mp (of_decide_eq_true (List.all_eq_true.mp z23 c hc))), sc := (fun c T hp => of_decide_eq_true (List.all_eq_true.mp z24 (c, T) hp)), on := (fun m hm => He.eqO_ok (List.all_eq_true.mp z25 m hm)), sx := (fun c d hp => of_decide_eq_true (List.all_eq_true.mp z26 (c, d) hp)), kt := (fun T c hp => of_decide_eq_true (List.all_eq_true.mp z27 (T, c) hp)), kc := (fun c T hp => of_decide_eq_true (List.all_eq_true.mp z28 (c, T) hp)), ko := (fun c d b hp => of_decide_eq_true (List.all_eq_true.mp z29 (c, d, b) hp)), cc := (fun c f i hp => PV.cval_of (List.all_eq_true.mp z30 (c, f, i) hp)), ca := (fun c hc => He.eqO_ok (List.all_eq_true.mp z31 c hc)), ob := (fun c hc => of_decide_eq_true (List.all_eq_true.mp z32 c hc)), cg := (He.eqO_ok z33), ct := (of_decide_eq_true z34) }
abbrev R : PySem.W.OpenRow := PySem.W.OpenLaw.row PySem.Challenge.rw_lapseeds_k01_errors
abbrev hk : PySem.W.Hook := ZH.hookL 7 lams chk fn
def ob (s : PySem.W.SharedT) : He.AlD × Bool := ZH.obsLG 7 lams chk fn (HandSHeadRun.getT s)
def loose : List Str := (["LapError", "BadHeld", "BadRing", "BadPlayer", "BadPit", "BadEnd", "BadBook", "BadNumber", "BadTurn", "BadBoard", "BadRow", "BadSum", "BadShape", "BadRoad", "BadClaim", "BadText", "BadLine", "NoLap", "NoEnd", "NoName", "Unlike", "Nothing", "NotWhole", "TooMany", "CannotMove", "Cause", "NoPlayer", "OutOfTurn", "Empty", "_law_bag"] : List Str) ++ (["_law_draw", "_law_pick", "_law_value", "_law_ones", "_law_named", "_law_field", "_law_kinds", "_law_two_right", "_law_causes_right", "_law_caught"] : List Str)
end K01
namespace K01
open PySem PySem.Spec PyProof.Rows L2 ZL PV
theorem kp_law_bag {K : PySem.W.Frag} {mg : Str → Option Value} (T : TX K mg) : PySem.W.keepIn K (.ref (He.ga K "_law_bag")) = true := (T.says.def_ 0).choose_spec.kp
theorem kp_law_draw {K : PySem.W.Frag} {mg : Str → Option Value} (T : TX K mg) : PySem.W.keepIn K (.ref (He.ga K "_law_draw")) = true := (T.says.def_ 1).choose_spec.kp
theorem kp_law_pick {K : PySem.W.Frag} {mg : Str → Option Value} (T : TX K mg) : PySem.W.keepIn K (.ref (He.ga K "_law_pick")) = true := (T.says.def_ 2).choose_spec.kp
theorem kp_law_value {K : PySem.W.Frag} {mg : Str → Option Value} (T : TX K mg) : PySem.W.keepIn K (.ref (He.ga K "_law_value")) = true := (T.says.def_ 3).choose_spec.kp
theorem kp_law_ones {K : PySem.W.Frag} {mg : Str → Option Value} (T : TX K mg) : PySem.W.keepIn K (.ref (He.ga K "_law_ones")) = true := (T.says.def_ 4).choose_spec.kp
theorem kp_law_named {K : PySem.W.Frag} {mg : Str → Option Value} (T : TX K mg) : PySem.W.keepIn K (.ref (He.ga K "_law_named")) = true := (T.says.def_ 5).choose_spec.kp
theorem kp_law_field {K : PySem.W.Frag} {mg : Str → Option Value} (T : TX K mg) : PySem.W.keepIn K (.ref (He.ga K "_law_field")) = true := (T.says.def_ 6).choose_spec.kp
theorem kp_law_kinds {K : PySem.W.Frag} {mg : Str → Option Value} (T : TX K mg) : PySem.W.keepIn K (.ref (He.ga K "_law_kinds")) = true := (T.says.def_ 7).choose_spec.kp
theorem kp_law_two_right {K : PySem.W.Frag} {mg : Str → Option Value} (T : TX K mg) : PySem.W.keepIn K (.ref (He.ga K "_law_two_right")) = true := (T.says.def_ 8).choose_spec.kp
theorem kp_law_causes_right {K : PySem.W.Frag} {mg : Str → Option Value} (T : TX K mg) : PySem.W.keepIn K (.ref (He.ga K "_law_causes_right")) = true := (T.says.def_ 9).choose_spec.kp
theorem kp_law_caught {K : PySem.W.Frag} {mg : Str → Option Value} (T : TX K mg) : PySem.W.keepIn K (.ref (He.ga K "_law_caught")) = true := (T.says.def_ 10).choose_spec.kp
theorem kt_six {K : PySem.W.Frag} {mg : Str → Option Value} (T : TX K mg) (c : String) (h : (six.all fun t => decide ((t, Str.ofString c) ∈ kits)) = true) (n : String) (hn : n ∈ six) : PySem.W.kitOne K (.type n) (.ref (gaS K c)) = some false := T.kt n (Str.ofString c) (of_decide_eq_true (List.all_eq_true.mp h n hn))
theorem sc_BadBoardD_initD : FnScope ["self", "part"] ["self", "part"] (defScope s_BadBoardD_initD) := ⟨rfl, rfl, rfl, by decide +kernel, rfl, by decide +kernel, by decide +kernel⟩
noncomputable def xd_BadBoard {K : PySem.W.Frag} {mg : Str → Option Value} (T : TX K mg) : FuncData := (T.says.def_ 12).choose
theorem x_BadBoard {P : Program} {w : World} {K : PySem.W.Frag} {mg : Str → Option Value} {base : Heap} (T : TX K mg) : FnOk P w K mg base (L2.CX P w) 1 (mO K "BadBoard" "__init__") (xd_BadBoard T) ["self", "part"] (spX1 (gaS K "BadBoard") (Str.ofString "part")) := ok_x1 (st := s_BadBoardD_initD) (T.says.def_ 12).choose_spec sc_BadBoardD_initD rfl (oex_of (T.xc "BadBoard" (by decide +kernel)) (T.xi "BadBoard" (by decide +kernel))) (T.nf "BadBoard" "part" (by decide +kernel))
theorem xb_BadBoard {K : PySem.W.Frag} {mg : Str → Option Value} (T : TX K mg) : Binds K (xd_BadBoard T) ["self", "part"] [] := (T.says.def_ 12).choose_spec.bindsN (fun _ _ _ _ _ _ us hl => match us, hl with | [_, _], _ => rfl)
theorem xk_BadBoard {K : PySem.W.Frag} {mg : Str → Option Value} (T : TX K mg) : KBn K (xd_BadBoard T) ["self", "part"] 1 [Str.ofString "part"] (fun us ws => pickL [0, 1] (us ++ ws)) (fun vs zs => pickL [0, 1] (vs ++ zs)) := kbn_of (st := s_BadBoardD_initD) (m := 1) [Str.ofString "part"] [0, 1] (T.says.def_ 12).choose_spec (fun _ _ _ _ _ _ us ws h1 h2 => match us, ws, h1, h2 with | [_], [_], _, _ => rfl)
theorem sc_BadBookD_initD : FnScope ["self", "part"] ["self", "part"] (defScope s_BadBookD_initD) := ⟨rfl, rfl, rfl, by decide +kernel, rfl, by decide +kernel, by decide +kernel⟩
noncomputable def xd_BadBook {K : PySem.W.Frag} {mg : Str → Option Value} (T : TX K mg) : FuncData := (T.says.def_ 13).choose
theorem x_BadBook {P : Program} {w : World} {K : PySem.W.Frag} {mg : Str → Option Value} {base : Heap} (T : TX K mg) : FnOk P w K mg base (L2.CX P w) 1 (mO K "BadBook" "__init__") (xd_BadBook T) ["self", "part"] (spX1 (gaS K "BadBook") (Str.ofString "part")) := ok_x1 (st := s_BadBookD_initD) (T.says.def_ 13).choose_spec sc_BadBookD_initD rfl (oex_of (T.xc "BadBook" (by decide +kernel)) (T.xi "BadBook" (by decide +kernel))) (T.nf "BadBook" "part" (by decide +kernel))
theorem xb_BadBook {K : PySem.W.Frag} {mg : Str → Option Value} (T : TX K mg) : Binds K (xd_BadBook T) ["self", "part"] [] := (T.says.def_ 13).choose_spec.bindsN (fun _ _ _ _ _ _ us hl => match us, hl with | [_, _], _ => rfl)
theorem xk_BadBook {K : PySem.W.Frag} {mg : Str → Option Value} (T : TX K mg) : KBn K (xd_BadBook T) ["self", "part"] 1 [Str.ofString "part"] (fun us ws => pickL [0, 1] (us ++ ws)) (fun vs zs => pickL [0, 1] (vs ++ zs)) := kbn_of (st := s_BadBookD_initD) (m := 1) [Str.ofString "part"] [0, 1] (T.says.def_ 13).choose_spec (fun _ _ _ _ _ _ us ws h1 h2 => match us, ws, h1, h2 with | [_], [_], _, _ => rfl)
theorem sc_BadClaimD_initD : FnScope ["self", "part"] ["self", "part"] (defScope s_BadClaimD_initD) := ⟨rfl, rfl, rfl, by decide +kernel, rfl, by decide +kernel, by decide +kernel⟩
noncomputable def xd_BadClaim {K : PySem.W.Frag} {mg : Str → Option Value} (T : TX K mg) : FuncData := (T.says.def_ 14).choose
theorem x_BadClaim {P : Program} {w : World} {K : PySem.W.Frag} {mg : Str → Option Value} {base : Heap} (T : TX K mg) : FnOk P w K mg base (L2.CX P w) 1 (mO K "BadClaim" "__init__") (xd_BadClaim T) ["self", "part"] (spX1 (gaS K "BadClaim") (Str.ofString "part")) := ok_x1 (st := s_BadClaimD_initD) (T.says.def_ 14).choose_spec sc_BadClaimD_initD rfl (oex_of (T.xc "BadClaim" (by decide +kernel)) (T.xi "BadClaim" (by decide +kernel))) (T.nf "BadClaim" "part" (by decide +kernel))
theorem xb_BadClaim {K : PySem.W.Frag} {mg : Str → Option Value} (T : TX K mg) : Binds K (xd_BadClaim T) ["self", "part"] [] := (T.says.def_ 14).choose_spec.bindsN (fun _ _ _ _ _ _ us hl => match us, hl with | [_, _], _ => rfl)
theorem xk_BadClaim {K : PySem.W.Frag} {mg : Str → Option Value} (T : TX K mg) : KBn K (xd_BadClaim T) ["self", "part"] 1 [Str.ofString "part"] (fun us ws => pickL [0, 1] (us ++ ws)) (fun vs zs => pickL [0, 1] (vs ++ zs)) := kbn_of (st := s_BadClaimD_initD) (m := 1) [Str.ofString "part"] [0, 1] (T.says.def_ 14).choose_spec (fun _ _ _ _ _ _ us ws h1 h2 => match us, ws, h1, h2 with | [_], [_], _, _ => rfl)
theorem sc_BadEndD_initD : FnScope ["self", "part"] ["self", "part"] (defScope s_BadEndD_initD) := ⟨rfl, rfl, rfl, by decide +kernel, rfl, by decide +kernel, by decide +kernel⟩
noncomputable def xd_BadEnd {K : PySem.W.Frag} {mg : Str → Option Value} (T : TX K mg) : FuncData := (T.says.def_ 15).choose
theorem x_BadEnd {P : Program} {w : World} {K : PySem.W.Frag} {mg : Str → Option Value} {base : Heap} (T : TX K mg) : FnOk P w K mg base (L2.CX P w) 1 (mO K "BadEnd" "__init__") (xd_BadEnd T) ["self", "part"] (spX1 (gaS K "BadEnd") (Str.ofString "part")) := ok_x1 (st := s_BadEndD_initD) (T.says.def_ 15).choose_spec sc_BadEndD_initD rfl (oex_of (T.xc "BadEnd" (by decide +kernel)) (T.xi "BadEnd" (by decide +kernel))) (T.nf "BadEnd" "part" (by decide +kernel))
theorem xb_BadEnd {K : PySem.W.Frag} {mg : Str → Option Value} (T : TX K mg) : Binds K (xd_BadEnd T) ["self", "part"] [] := (T.says.def_ 15).choose_spec.bindsN (fun _ _ _ _ _ _ us hl => match us, hl with | [_, _], _ => rfl)
theorem xk_BadEnd {K : PySem.W.Frag} {mg : Str → Option Value} (T : TX K mg) : KBn K (xd_BadEnd T) ["self", "part"] 1 [Str.ofString "part"] (fun us ws => pickL [0, 1] (us ++ ws)) (fun vs zs => pickL [0, 1] (vs ++ zs)) := kbn_of (st := s_BadEndD_initD) (m := 1) [Str.ofString "part"] [0, 1] (T.says.def_ 15).choose_spec (fun _ _ _ _ _ _ us ws h1 h2 => match us, ws, h1, h2 with | [_], [_], _, _ => rfl)
theorem sc_BadHeldD_initD : FnScope ["self", "value"] ["self", "value"] (defScope s_BadHeldD_initD) := ⟨rfl, rfl, rfl, by decide +kernel, rfl, by decide +kernel, by decide +kernel⟩
noncomputable def xd_BadHeld {K : PySem.W.Frag} {mg : Str → Option Value} (T : TX K mg) : FuncData := (T.says.def_ 16).choose
theorem x_BadHeld {P : Program} {w : World} {K : PySem.W.Frag} {mg : Str → Option Value} {base : Heap} (T : TX K mg) : FnOk P w K mg base (L2.CX P w) 1 (mO K "BadHeld" "__init__") (xd_BadHeld T) ["self", "value"] (spX1 (gaS K "BadHeld") (Str.ofString "value")) := ok_x1 (st := s_BadHeldD_initD) (T.says.def_ 16).choose_spec sc_BadHeldD_initD rfl (oex_of (T.xc "BadHeld" (by decide +kernel)) (T.xi "BadHeld" (by decide +kernel))) (T.nf "BadHeld" "value" (by decide +kernel))
theorem xb_BadHeld {K : PySem.W.Frag} {mg : Str → Option Value} (T : TX K mg) : Binds K (xd_BadHeld T) ["self", "value"] [] := (T.says.def_ 16).choose_spec.bindsN (fun _ _ _ _ _ _ us hl => match us, hl with | [_, _], _ => rfl)
theorem xk_BadHeld {K : PySem.W.Frag} {mg : Str → Option Value} (T : TX K mg) : KBn K (xd_BadHeld T) ["self", "value"] 1 [Str.ofString "value"] (fun us ws => pickL [0, 1] (us ++ ws)) (fun vs zs => pickL [0, 1] (vs ++ zs)) := kbn_of (st := s_BadHeldD_initD) (m := 1) [Str.ofString "value"] [0, 1] (T.says.def_ 16).choose_spec (fun _ _ _ _ _ _ us ws h1 h2 => match us, ws, h1, h2 with | [_], [_], _, _ => rfl)
theorem sc_BadLineD_initD : FnScope ["self", "word"] ["self", "word"] (defScope s_BadLineD_initD) := ⟨rfl, rfl, rfl, by decide +kernel, rfl, by decide +kernel, by decide +kernel⟩
noncomputable def xd_BadLine {K : PySem.W.Frag} {mg : Str → Option Value} (T : TX K mg) : FuncData := (T.says.def_ 17).choose
theorem x_BadLine {P : Program} {w : World} {K : PySem.W.Frag} {mg : Str → Option Value} {base : Heap} (T : TX K mg) : FnOk P w K mg base (L2.CX P w) 1 (mO K "BadLine" "__init__") (xd_BadLine T) ["self", "word"] (spX1 (gaS K "BadLine") (Str.ofString "word")) := ok_x1 (st := s_BadLineD_initD) (T.says.def_ 17).choose_spec sc_BadLineD_initD rfl (oex_of (T.xc "BadLine" (by decide +kernel)) (T.xi "BadLine" (by decide +kernel))) (T.nf "BadLine" "word" (by decide +kernel))
theorem xb_BadLine {K : PySem.W.Frag} {mg : Str → Option Value} (T : TX K mg) : Binds K (xd_BadLine T) ["self", "word"] [] := (T.says.def_ 17).choose_spec.bindsN (fun _ _ _ _ _ _ us hl => match us, hl with | [_, _], _ => rfl)
theorem xk_BadLine {K : PySem.W.Frag} {mg : Str → Option Value} (T : TX K mg) : KBn K (xd_BadLine T) ["self", "word"] 1 [Str.ofString "word"] (fun us ws => pickL [0, 1] (us ++ ws)) (fun vs zs => pickL [0, 1] (vs ++ zs)) := kbn_of (st := s_BadLineD_initD) (m := 1) [Str.ofString "word"] [0, 1] (T.says.def_ 17).choose_spec (fun _ _ _ _ _ _ us ws h1 h2 => match us, ws, h1, h2 with | [_], [_], _, _ => rfl)
theorem sc_BadNumberD_initD : FnScope ["self", "value"] ["self", "value"] (defScope s_BadNumberD_initD) := ⟨rfl, rfl, rfl, by decide +kernel, rfl, by decide +kernel, by decide +kernel⟩
noncomputable def xd_BadNumber {K : PySem.W.Frag} {mg : Str → Option Value} (T : TX K mg) : FuncData := (T.says.def_ 18).choose
theorem x_BadNumber {P : Program} {w : World} {K : PySem.W.Frag} {mg : Str → Option Value} {base : Heap} (T : TX K mg) : FnOk P w K mg base (L2.CX P w) 1 (mO K "BadNumber" "__init__") (xd_BadNumber T) ["self", "value"] (spX1 (gaS K "BadNumber") (Str.ofString "value")) := ok_x1 (st := s_BadNumberD_initD) (T.says.def_ 18).choose_spec sc_BadNumberD_initD rfl (oex_of (T.xc "BadNumber" (by decide +kernel)) (T.xi "BadNumber" (by decide +kernel))) (T.nf "BadNumber" "value" (by decide +kernel))
theorem xb_BadNumber {K : PySem.W.Frag} {mg : Str → Option Value} (T : TX K mg) : Binds K (xd_BadNumber T) ["self", "value"] [] := (T.says.def_ 18).choose_spec.bindsN (fun _ _ _ _ _ _ us hl => match us, hl with | [_, _], _ => rfl)
theorem xk_BadNumber {K : PySem.W.Frag} {mg : Str → Option Value} (T : TX K mg) : KBn K (xd_BadNumber T) ["self", "value"] 1 [Str.ofString "value"] (fun us ws => pickL [0, 1] (us ++ ws)) (fun vs zs => pickL [0, 1] (vs ++ zs)) := kbn_of (st := s_BadNumberD_initD) (m := 1) [Str.ofString "value"] [0, 1] (T.says.def_ 18).choose_spec (fun _ _ _ _ _ _ us ws h1 h2 => match us, ws, h1, h2 with | [_], [_], _, _ => rfl)
theorem sc_BadPitD_initD : FnScope ["self", "value"] ["self", "value"] (defScope s_BadPitD_initD) := ⟨rfl, rfl, rfl, by decide +kernel, rfl, by decide +kernel, by decide +kernel⟩
noncomputable def xd_BadPit {K : PySem.W.Frag} {mg : Str → Option Value} (T : TX K mg) : FuncData := (T.says.def_ 19).choose
theorem x_BadPit {P : Program} {w : World} {K : PySem.W.Frag} {mg : Str → Option Value} {base : Heap} (T : TX K mg) : FnOk P w K mg base (L2.CX P w) 1 (mO K "BadPit" "__init__") (xd_BadPit T) ["self", "value"] (spX1 (gaS K "BadPit") (Str.ofString "value")) := ok_x1 (st := s_BadPitD_initD) (T.says.def_ 19).choose_spec sc_BadPitD_initD rfl (oex_of (T.xc "BadPit" (by decide +kernel)) (T.xi "BadPit" (by decide +kernel))) (T.nf "BadPit" "value" (by decide +kernel))
theorem xb_BadPit {K : PySem.W.Frag} {mg : Str → Option Value} (T : TX K mg) : Binds K (xd_BadPit T) ["self", "value"] [] := (T.says.def_ 19).choose_spec.bindsN (fun _ _ _ _ _ _ us hl => match us, hl with | [_, _], _ => rfl)
theorem xk_BadPit {K : PySem.W.Frag} {mg : Str → Option Value} (T : TX K mg) : KBn K (xd_BadPit T) ["self", "value"] 1 [Str.ofString "value"] (fun us ws => pickL [0, 1] (us ++ ws)) (fun vs zs => pickL [0, 1] (vs ++ zs)) := kbn_of (st := s_BadPitD_initD) (m := 1) [Str.ofString "value"] [0, 1] (T.says.def_ 19).choose_spec (fun _ _ _ _ _ _ us ws h1 h2 => match us, ws, h1, h2 with | [_], [_], _, _ => rfl)
theorem sc_BadPlayerD_initD : FnScope ["self", "value"] ["self", "value"] (defScope s_BadPlayerD_initD) := ⟨rfl, rfl, rfl, by decide +kernel, rfl, by decide +kernel, by decide +kernel⟩
noncomputable def xd_BadPlayer {K : PySem.W.Frag} {mg : Str → Option Value} (T : TX K mg) : FuncData := (T.says.def_ 20).choose
theorem x_BadPlayer {P : Program} {w : World} {K : PySem.W.Frag} {mg : Str → Option Value} {base : Heap} (T : TX K mg) : FnOk P w K mg base (L2.CX P w) 1 (mO K "BadPlayer" "__init__") (xd_BadPlayer T) ["self", "value"] (spX1 (gaS K "BadPlayer") (Str.ofString "value")) := ok_x1 (st := s_BadPlayerD_initD) (T.says.def_ 20).choose_spec sc_BadPlayerD_initD rfl (oex_of (T.xc "BadPlayer" (by decide +kernel)) (T.xi "BadPlayer" (by decide +kernel))) (T.nf "BadPlayer" "value" (by decide +kernel))
theorem xb_BadPlayer {K : PySem.W.Frag} {mg : Str → Option Value} (T : TX K mg) : Binds K (xd_BadPlayer T) ["self", "value"] [] := (T.says.def_ 20).choose_spec.bindsN (fun _ _ _ _ _ _ us hl => match us, hl with | [_, _], _ => rfl)
theorem xk_BadPlayer {K : PySem.W.Frag} {mg : Str → Option Value} (T : TX K mg) : KBn K (xd_BadPlayer T) ["self", "value"] 1 [Str.ofString "value"] (fun us ws => pickL [0, 1] (us ++ ws)) (fun vs zs => pickL [0, 1] (vs ++ zs)) := kbn_of (st := s_BadPlayerD_initD) (m := 1) [Str.ofString "value"] [0, 1] (T.says.def_ 20).choose_spec (fun _ _ _ _ _ _ us ws h1 h2 => match us, ws, h1, h2 with | [_], [_], _, _ => rfl)
theorem sc_BadRingD_initD : FnScope ["self", "part"] ["self", "part"] (defScope s_BadRingD_initD) := ⟨rfl, rfl, rfl, by decide +kernel, rfl, by decide +kernel, by decide +kernel⟩
noncomputable def xd_BadRing {K : PySem.W.Frag} {mg : Str → Option Value} (T : TX K mg) : FuncData := (T.says.def_ 21).choose
theorem x_BadRing {P : Program} {w : World} {K : PySem.W.Frag} {mg : Str → Option Value} {base : Heap} (T : TX K mg) : FnOk P w K mg base (L2.CX P w) 1 (mO K "BadRing" "__init__") (xd_BadRing T) ["self", "part"] (spX1 (gaS K "BadRing") (Str.ofString "part")) := ok_x1 (st := s_BadRingD_initD) (T.says.def_ 21).choose_spec sc_BadRingD_initD rfl (oex_of (T.xc "BadRing" (by decide +kernel)) (T.xi "BadRing" (by decide +kernel))) (T.nf "BadRing" "part" (by decide +kernel))
theorem xb_BadRing {K : PySem.W.Frag} {mg : Str → Option Value} (T : TX K mg) : Binds K (xd_BadRing T) ["self", "part"] [] := (T.says.def_ 21).choose_spec.bindsN (fun _ _ _ _ _ _ us hl => match us, hl with | [_, _], _ => rfl)
theorem xk_BadRing {K : PySem.W.Frag} {mg : Str → Option Value} (T : TX K mg) : KBn K (xd_BadRing T) ["self", "part"] 1 [Str.ofString "part"] (fun us ws => pickL [0, 1] (us ++ ws)) (fun vs zs => pickL [0, 1] (vs ++ zs)) := kbn_of (st := s_BadRingD_initD) (m := 1) [Str.ofString "part"] [0, 1] (T.says.def_ 21).choose_spec (fun _ _ _ _ _ _ us ws h1 h2 => match us, ws, h1, h2 with | [_], [_], _, _ => rfl)
theorem sc_BadRoadD_initD : FnScope ["self", "part"] ["self", "part"] (defScope s_BadRoadD_initD) := ⟨rfl, rfl, rfl, by decide +kernel, rfl, by decide +kernel, by decide +kernel⟩
noncomputable def xd_BadRoad {K : PySem.W.Frag} {mg : Str → Option Value} (T : TX K mg) : FuncData := (T.says.def_ 22).choose
theorem x_BadRoad {P : Program} {w : World} {K : PySem.W.Frag} {mg : Str → Option Value} {base : Heap} (T : TX K mg) : FnOk P w K mg base (L2.CX P w) 1 (mO K "BadRoad" "__init__") (xd_BadRoad T) ["self", "part"] (spX1 (gaS K "BadRoad") (Str.ofString "part")) := ok_x1 (st := s_BadRoadD_initD) (T.says.def_ 22).choose_spec sc_BadRoadD_initD rfl (oex_of (T.xc "BadRoad" (by decide +kernel)) (T.xi "BadRoad" (by decide +kernel))) (T.nf "BadRoad" "part" (by decide +kernel))
theorem xb_BadRoad {K : PySem.W.Frag} {mg : Str → Option Value} (T : TX K mg) : Binds K (xd_BadRoad T) ["self", "part"] [] := (T.says.def_ 22).choose_spec.bindsN (fun _ _ _ _ _ _ us hl => match us, hl with | [_, _], _ => rfl)
theorem xk_BadRoad {K : PySem.W.Frag} {mg : Str → Option Value} (T : TX K mg) : KBn K (xd_BadRoad T) ["self", "part"] 1 [Str.ofString "part"] (fun us ws => pickL [0, 1] (us ++ ws)) (fun vs zs => pickL [0, 1] (vs ++ zs)) := kbn_of (st := s_BadRoadD_initD) (m := 1) [Str.ofString "part"] [0, 1] (T.says.def_ 22).choose_spec (fun _ _ _ _ _ _ us ws h1 h2 => match us, ws, h1, h2 with | [_], [_], _, _ => rfl)
theorem sc_BadRowD_initD : FnScope ["self", "at"] ["self", "at"] (defScope s_BadRowD_initD) := ⟨rfl, rfl, rfl, by decide +kernel, rfl, by decide +kernel, by decide +kernel⟩
noncomputable def xd_BadRow {K : PySem.W.Frag} {mg : Str → Option Value} (T : TX K mg) : FuncData := (T.says.def_ 23).choose
theorem x_BadRow {P : Program} {w : World} {K : PySem.W.Frag} {mg : Str → Option Value} {base : Heap} (T : TX K mg) : FnOk P w K mg base (L2.CX P w) 1 (mO K "BadRow" "__init__") (xd_BadRow T) ["self", "at"] (spX1 (gaS K "BadRow") (Str.ofString "at")) := ok_x1 (st := s_BadRowD_initD) (T.says.def_ 23).choose_spec sc_BadRowD_initD rfl (oex_of (T.xc "BadRow" (by decide +kernel)) (T.xi "BadRow" (by decide +kernel))) (T.nf "BadRow" "at" (by decide +kernel))
theorem xb_BadRow {K : PySem.W.Frag} {mg : Str → Option Value} (T : TX K mg) : Binds K (xd_BadRow T) ["self", "at"] [] := (T.says.def_ 23).choose_spec.bindsN (fun _ _ _ _ _ _ us hl => match us, hl with | [_, _], _ => rfl)
theorem xk_BadRow {K : PySem.W.Frag} {mg : Str → Option Value} (T : TX K mg) : KBn K (xd_BadRow T) ["self", "at"] 1 [Str.ofString "at"] (fun us ws => pickL [0, 1] (us ++ ws)) (fun vs zs => pickL [0, 1] (vs ++ zs)) := kbn_of (st := s_BadRowD_initD) (m := 1) [Str.ofString "at"] [0, 1] (T.says.def_ 23).choose_spec (fun _ _ _ _ _ _ us ws h1 h2 => match us, ws, h1, h2 with | [_], [_], _, _ => rfl)
theorem sc_BadShapeD_initD : FnScope ["self", "part"] ["self", "part"] (defScope s_BadShapeD_initD) := ⟨rfl, rfl, rfl, by decide +kernel, rfl, by decide +kernel, by decide +kernel⟩
noncomputable def xd_BadShape {K : PySem.W.Frag} {mg : Str → Option Value} (T : TX K mg) : FuncData := (T.says.def_ 24).choose
theorem x_BadShape {P : Program} {w : World} {K : PySem.W.Frag} {mg : Str → Option Value} {base : Heap} (T : TX K mg) : FnOk P w K mg base (L2.CX P w) 1 (mO K "BadShape" "__init__") (xd_BadShape T) ["self", "part"] (spX1 (gaS K "BadShape") (Str.ofString "part")) := ok_x1 (st := s_BadShapeD_initD) (T.says.def_ 24).choose_spec sc_BadShapeD_initD rfl (oex_of (T.xc "BadShape" (by decide +kernel)) (T.xi "BadShape" (by decide +kernel))) (T.nf "BadShape" "part" (by decide +kernel))
theorem xb_BadShape {K : PySem.W.Frag} {mg : Str → Option Value} (T : TX K mg) : Binds K (xd_BadShape T) ["self", "part"] [] := (T.says.def_ 24).choose_spec.bindsN (fun _ _ _ _ _ _ us hl => match us, hl with | [_, _], _ => rfl)
theorem xk_BadShape {K : PySem.W.Frag} {mg : Str → Option Value} (T : TX K mg) : KBn K (xd_BadShape T) ["self", "part"] 1 [Str.ofString "part"] (fun us ws => pickL [0, 1] (us ++ ws)) (fun vs zs => pickL [0, 1] (vs ++ zs)) := kbn_of (st := s_BadShapeD_initD) (m := 1) [Str.ofString "part"] [0, 1] (T.says.def_ 24).choose_spec (fun _ _ _ _ _ _ us ws h1 h2 => match us, ws, h1, h2 with | [_], [_], _, _ => rfl)
theorem sc_BadSumD_initD : FnScope ["self", "part"] ["self", "part"] (defScope s_BadSumD_initD) := ⟨rfl, rfl, rfl, by decide +kernel, rfl, by decide +kernel, by decide +kernel⟩
noncomputable def xd_BadSum {K : PySem.W.Frag} {mg : Str → Option Value} (T : TX K mg) : FuncData := (T.says.def_ 25).choose
theorem x_BadSum {P : Program} {w : World} {K : PySem.W.Frag} {mg : Str → Option Value} {base : Heap} (T : TX K mg) : FnOk P w K mg base (L2.CX P w) 1 (mO K "BadSum" "__init__") (xd_BadSum T) ["self", "part"] (spX1 (gaS K "BadSum") (Str.ofString "part")) := ok_x1 (st := s_BadSumD_initD) (T.says.def_ 25).choose_spec sc_BadSumD_initD rfl (oex_of (T.xc "BadSum" (by decide +kernel)) (T.xi "BadSum" (by decide +kernel))) (T.nf "BadSum" "part" (by decide +kernel))
theorem xb_BadSum {K : PySem.W.Frag} {mg : Str → Option Value} (T : TX K mg) : Binds K (xd_BadSum T) ["self", "part"] [] := (T.says.def_ 25).choose_spec.bindsN (fun _ _ _ _ _ _ us hl => match us, hl with | [_, _], _ => rfl)
theorem xk_BadSum {K : PySem.W.Frag} {mg : Str → Option Value} (T : TX K mg) : KBn K (xd_BadSum T) ["self", "part"] 1 [Str.ofString "part"] (fun us ws => pickL [0, 1] (us ++ ws)) (fun vs zs => pickL [0, 1] (vs ++ zs)) := kbn_of (st := s_BadSumD_initD) (m := 1) [Str.ofString "part"] [0, 1] (T.says.def_ 25).choose_spec (fun _ _ _ _ _ _ us ws h1 h2 => match us, ws, h1, h2 with | [_], [_], _, _ => rfl)
theorem sc_BadTextD_initD : FnScope ["self", "line", "word"] ["self", "line", "word"] (defScope s_BadTextD_initD) := ⟨rfl, rfl, rfl, by decide +kernel, rfl, by decide +kernel, by decide +kernel⟩
noncomputable def xd_BadText {K : PySem.W.Frag} {mg : Str → Option Value} (T : TX K mg) : FuncData := (T.says.def_ 26).choose
theorem x_BadText {P : Program} {w : World} {K : PySem.W.Frag} {mg : Str → Option Value} {base : Heap} (T : TX K mg) : FnOk P w K mg base (L2.CX P w) 1 (mO K "BadText" "__init__") (xd_BadText T) ["self", "line", "word"] (spX2 (gaS K "BadText") (Str.ofString "line") (Str.ofString "word")) := ok_x2 (st := s_BadTextD_initD) (T.says.def_ 26).choose_spec sc_BadTextD_initD rfl (oex_of (T.xc "BadText" (by decide +kernel)) (T.xi "BadText" (by decide +kernel))) (T.nf "BadText" "line" (by decide +kernel)) (T.nf "BadText" "word" (by decide +kernel))
theorem xb_BadText {K : PySem.W.Frag} {mg : Str → Option Value} (T : TX K mg) : Binds K (xd_BadText T) ["self", "line", "word"] [] := (T.says.def_ 26).choose_spec.bindsN (fun _ _ _ _ _ _ us hl => match us, hl with | [_, _, _], _ => rfl)
theorem xk_BadText {K : PySem.W.Frag} {mg : Str → Option Value} (T : TX K mg) : KBn K (xd_BadText T) ["self", "line", "word"] 1 [Str.ofString "word", Str.ofString "line"] (fun us ws => pickL [0, 2, 1] (us ++ ws)) (fun vs zs => pickL [0, 2, 1] (vs ++ zs)) := kbn_of (st := s_BadTextD_initD) (m := 1) [Str.ofString "word", Str.ofString "line"] [0, 2, 1] (T.says.def_ 26).choose_spec (fun _ _ _ _ _ _ us ws h1 h2 => match us, ws, h1, h2 with | [_], [_, _], _, _ => rfl)
theorem sc_BadTurnD_initD : FnScope ["self", "value"] ["self", "value"] (defScope s_BadTurnD_initD) := ⟨rfl, rfl, rfl, by decide +kernel, rfl, by decide +kernel, by decide +kernel⟩
noncomputable def xd_BadTurn {K : PySem.W.Frag} {mg : Str → Option Value} (T : TX K mg) : FuncData := (T.says.def_ 27).choose
theorem x_BadTurn {P : Program} {w : World} {K : PySem.W.Frag} {mg : Str → Option Value} {base : Heap} (T : TX K mg) : FnOk P w K mg base (L2.CX P w) 1 (mO K "BadTurn" "__init__") (xd_BadTurn T) ["self", "value"] (spX1 (gaS K "BadTurn") (Str.ofString "value")) := ok_x1 (st := s_BadTurnD_initD) (T.says.def_ 27).choose_spec sc_BadTurnD_initD rfl (oex_of (T.xc "BadTurn" (by decide +kernel)) (T.xi "BadTurn" (by decide +kernel))) (T.nf "BadTurn" "value" (by decide +kernel))
theorem xb_BadTurn {K : PySem.W.Frag} {mg : Str → Option Value} (T : TX K mg) : Binds K (xd_BadTurn T) ["self", "value"] [] := (T.says.def_ 27).choose_spec.bindsN (fun _ _ _ _ _ _ us hl => match us, hl with | [_, _], _ => rfl)
theorem xk_BadTurn {K : PySem.W.Frag} {mg : Str → Option Value} (T : TX K mg) : KBn K (xd_BadTurn T) ["self", "value"] 1 [Str.ofString "value"] (fun us ws => pickL [0, 1] (us ++ ws)) (fun vs zs => pickL [0, 1] (vs ++ zs)) := kbn_of (st := s_BadTurnD_initD) (m := 1) [Str.ofString "value"] [0, 1] (T.says.def_ 27).choose_spec (fun _ _ _ _ _ _ us ws h1 h2 => match us, ws, h1, h2 with | [_], [_], _, _ => rfl)
theorem sc_CannotMoveD_initD : FnScope ["self", "at", "cause"] ["self", "at", "cause"] (defScope s_CannotMoveD_initD) := ⟨rfl, rfl, rfl, by decide +kernel, rfl, by decide +kernel, by decide +kernel⟩
noncomputable def xd_CannotMove {K : PySem.W.Frag} {mg : Str → Option Value} (T : TX K mg) : FuncData := (T.says.def_ 28).choose
theorem x_CannotMove {P : Program} {w : World} {K : PySem.W.Frag} {mg : Str → Option Value} {base : Heap} (T : TX K mg) : FnOk P w K mg base (L2.CX P w) 1 (mO K "CannotMove" "__init__") (xd_CannotMove T) ["self", "at", "cause"] (spX2 (gaS K "CannotMove") (Str.ofString "at") (Str.ofString "cause")) := ok_x2 (st := s_CannotMoveD_initD) (T.says.def_ 28).choose_spec sc_CannotMoveD_initD rfl (oex_of (T.xc "CannotMove" (by decide +kernel)) (T.xi "CannotMove" (by decide +kernel))) (T.nf "CannotMove" "at" (by decide +kernel)) (T.nf "CannotMove" "cause" (by decide +kernel))
theorem xb_CannotMove {K : PySem.W.Frag} {mg : Str → Option Value} (T : TX K mg) : Binds K (xd_CannotMove T) ["self", "at", "cause"] [] := (T.says.def_ 28).choose_spec.bindsN (fun _ _ _ _ _ _ us hl => match us, hl with | [_, _, _], _ => rfl)
theorem xk_CannotMove {K : PySem.W.Frag} {mg : Str → Option Value} (T : TX K mg) : KBn K (xd_CannotMove T) ["self", "at", "cause"] 1 [Str.ofString "cause", Str.ofString "at"] (fun us ws => pickL [0, 2, 1] (us ++ ws)) (fun vs zs => pickL [0, 2, 1] (vs ++ zs)) := kbn_of (st := s_CannotMoveD_initD) (m := 1) [Str.ofString "cause", Str.ofString "at"] [0, 2, 1] (T.says.def_ 28).choose_spec (fun _ _ _ _ _ _ us ws h1 h2 => match us, ws, h1, h2 with | [_], [_, _], _, _ => rfl)
theorem sc_EmptyD_initD : FnScope ["self", "pit"] ["self", "pit"] (defScope s_EmptyD_initD) := ⟨rfl, rfl, rfl, by decide +kernel, rfl, by decide +kernel, by decide +kernel⟩
noncomputable def xd_Empty {K : PySem.W.Frag} {mg : Str → Option Value} (T : TX K mg) : FuncData := (T.says.def_ 29).choose
theorem x_Empty {P : Program} {w : World} {K : PySem.W.Frag} {mg : Str → Option Value} {base : Heap} (T : TX K mg) : FnOk P w K mg base (L2.CX P w) 1 (mO K "Empty" "__init__") (xd_Empty T) ["self", "pit"] (spX1 (gaS K "Empty") (Str.ofString "pit")) := ok_x1 (st := s_EmptyD_initD) (T.says.def_ 29).choose_spec sc_EmptyD_initD rfl (oex_of (T.xc "Empty" (by decide +kernel)) (T.xi "Empty" (by decide +kernel))) (T.nf "Empty" "pit" (by decide +kernel))
theorem xb_Empty {K : PySem.W.Frag} {mg : Str → Option Value} (T : TX K mg) : Binds K (xd_Empty T) ["self", "pit"] [] := (T.says.def_ 29).choose_spec.bindsN (fun _ _ _ _ _ _ us hl => match us, hl with | [_, _], _ => rfl)
theorem xk_Empty {K : PySem.W.Frag} {mg : Str → Option Value} (T : TX K mg) : KBn K (xd_Empty T) ["self", "pit"] 1 [Str.ofString "pit"] (fun us ws => pickL [0, 1] (us ++ ws)) (fun vs zs => pickL [0, 1] (vs ++ zs)) := kbn_of (st := s_EmptyD_initD) (m := 1) [Str.ofString "pit"] [0, 1] (T.says.def_ 29).choose_spec (fun _ _ _ _ _ _ us ws h1 h2 => match us, ws, h1, h2 with | [_], [_], _, _ => rfl)
theorem sc_NoEndD_initD : FnScope ["self", "at"] ["self", "at"] (defScope s_NoEndD_initD) := ⟨rfl, rfl, rfl, by decide +kernel, rfl, by decide +kernel, by decide +kernel⟩
noncomputable def xd_NoEnd {K : PySem.W.Frag} {mg : Str → Option Value} (T : TX K mg) : FuncData := (T.says.def_ 30).choose
theorem x_NoEnd {P : Program} {w : World} {K : PySem.W.Frag} {mg : Str → Option Value} {base : Heap} (T : TX K mg) : FnOk P w K mg base (L2.CX P w) 1 (mO K "NoEnd" "__init__") (xd_NoEnd T) ["self", "at"] (spX1 (gaS K "NoEnd") (Str.ofString "at")) := ok_x1 (st := s_NoEndD_initD) (T.says.def_ 30).choose_spec sc_NoEndD_initD rfl (oex_of (T.xc "NoEnd" (by decide +kernel)) (T.xi "NoEnd" (by decide +kernel))) (T.nf "NoEnd" "at" (by decide +kernel))
theorem xb_NoEnd {K : PySem.W.Frag} {mg : Str → Option Value} (T : TX K mg) : Binds K (xd_NoEnd T) ["self", "at"] [] := (T.says.def_ 30).choose_spec.bindsN (fun _ _ _ _ _ _ us hl => match us, hl with | [_, _], _ => rfl)
theorem xk_NoEnd {K : PySem.W.Frag} {mg : Str → Option Value} (T : TX K mg) : KBn K (xd_NoEnd T) ["self", "at"] 1 [Str.ofString "at"] (fun us ws => pickL [0, 1] (us ++ ws)) (fun vs zs => pickL [0, 1] (vs ++ zs)) := kbn_of (st := s_NoEndD_initD) (m := 1) [Str.ofString "at"] [0, 1] (T.says.def_ 30).choose_spec (fun _ _ _ _ _ _ us ws h1 h2 => match us, ws, h1, h2 with | [_], [_], _, _ => rfl)
theorem sc_NoLapD_initD : FnScope ["self", "pit"] ["self", "pit"] (defScope s_NoLapD_initD) := ⟨rfl, rfl, rfl, by decide +kernel, rfl, by decide +kernel, by decide +kernel⟩
noncomputable def xd_NoLap {K : PySem.W.Frag} {mg : Str → Option Value} (T : TX K mg) : FuncData := (T.says.def_ 31).choose
theorem x_NoLap {P : Program} {w : World} {K : PySem.W.Frag} {mg : Str → Option Value} {base : Heap} (T : TX K mg) : FnOk P w K mg base (L2.CX P w) 1 (mO K "NoLap" "__init__") (xd_NoLap T) ["self", "pit"] (spX1 (gaS K "NoLap") (Str.ofString "pit")) := ok_x1 (st := s_NoLapD_initD) (T.says.def_ 31).choose_spec sc_NoLapD_initD rfl (oex_of (T.xc "NoLap" (by decide +kernel)) (T.xi "NoLap" (by decide +kernel))) (T.nf "NoLap" "pit" (by decide +kernel))
theorem xb_NoLap {K : PySem.W.Frag} {mg : Str → Option Value} (T : TX K mg) : Binds K (xd_NoLap T) ["self", "pit"] [] := (T.says.def_ 31).choose_spec.bindsN (fun _ _ _ _ _ _ us hl => match us, hl with | [_, _], _ => rfl)
theorem xk_NoLap {K : PySem.W.Frag} {mg : Str → Option Value} (T : TX K mg) : KBn K (xd_NoLap T) ["self", "pit"] 1 [Str.ofString "pit"] (fun us ws => pickL [0, 1] (us ++ ws)) (fun vs zs => pickL [0, 1] (vs ++ zs)) := kbn_of (st := s_NoLapD_initD) (m := 1) [Str.ofString "pit"] [0, 1] (T.says.def_ 31).choose_spec (fun _ _ _ _ _ _ us ws h1 h2 => match us, ws, h1, h2 with | [_], [_], _, _ => rfl)
theorem sc_NoNameD_initD : FnScope ["self", "name"] ["self", "name"] (defScope s_NoNameD_initD) := ⟨rfl, rfl, rfl, by decide +kernel, rfl, by decide +kernel, by decide +kernel⟩
noncomputable def xd_NoName {K : PySem.W.Frag} {mg : Str → Option Value} (T : TX K mg) : FuncData := (T.says.def_ 32).choose
theorem x_NoName {P : Program} {w : World} {K : PySem.W.Frag} {mg : Str → Option Value} {base : Heap} (T : TX K mg) : FnOk P w K mg base (L2.CX P w) 1 (mO K "NoName" "__init__") (xd_NoName T) ["self", "name"] (spX1 (gaS K "NoName") (Str.ofString "name")) := ok_x1 (st := s_NoNameD_initD) (T.says.def_ 32).choose_spec sc_NoNameD_initD rfl (oex_of (T.xc "NoName" (by decide +kernel)) (T.xi "NoName" (by decide +kernel))) (T.nf "NoName" "name" (by decide +kernel))
theorem xb_NoName {K : PySem.W.Frag} {mg : Str → Option Value} (T : TX K mg) : Binds K (xd_NoName T) ["self", "name"] [] := (T.says.def_ 32).choose_spec.bindsN (fun _ _ _ _ _ _ us hl => match us, hl with | [_, _], _ => rfl)
theorem xk_NoName {K : PySem.W.Frag} {mg : Str → Option Value} (T : TX K mg) : KBn K (xd_NoName T) ["self", "name"] 1 [Str.ofString "name"] (fun us ws => pickL [0, 1] (us ++ ws)) (fun vs zs => pickL [0, 1] (vs ++ zs)) := kbn_of (st := s_NoNameD_initD) (m := 1) [Str.ofString "name"] [0, 1] (T.says.def_ 32).choose_spec (fun _ _ _ _ _ _ us ws h1 h2 => match us, ws, h1, h2 with | [_], [_], _, _ => rfl)
theorem sc_NoPlayerD_initD : FnScope ["self", "pit"] ["self", "pit"] (defScope s_NoPlayerD_initD) := ⟨rfl, rfl, rfl, by decide +kernel, rfl, by decide +kernel, by decide +kernel⟩
noncomputable def xd_NoPlayer {K : PySem.W.Frag} {mg : Str → Option Value} (T : TX K mg) : FuncData := (T.says.def_ 33).choose
theorem x_NoPlayer {P : Program} {w : World} {K : PySem.W.Frag} {mg : Str → Option Value} {base : Heap} (T : TX K mg) : FnOk P w K mg base (L2.CX P w) 1 (mO K "NoPlayer" "__init__") (xd_NoPlayer T) ["self", "pit"] (spX1 (gaS K "NoPlayer") (Str.ofString "pit")) := ok_x1 (st := s_NoPlayerD_initD) (T.says.def_ 33).choose_spec sc_NoPlayerD_initD rfl (oex_of (T.xc "NoPlayer" (by decide +kernel)) (T.xi "NoPlayer" (by decide +kernel))) (T.nf "NoPlayer" "pit" (by decide +kernel))
theorem xb_NoPlayer {K : PySem.W.Frag} {mg : Str → Option Value} (T : TX K mg) : Binds K (xd_NoPlayer T) ["self", "pit"] [] := (T.says.def_ 33).choose_spec.bindsN (fun _ _ _ _ _ _ us hl => match us, hl with | [_, _], _ => rfl)
theorem xk_NoPlayer {K : PySem.W.Frag} {mg : Str → Option Value} (T : TX K mg) : KBn K (xd_NoPlayer T) ["self", "pit"] 1 [Str.ofString "pit"] (fun us ws => pickL [0, 1] (us ++ ws)) (fun vs zs => pickL [0, 1] (vs ++ zs)) := kbn_of (st := s_NoPlayerD_initD) (m := 1) [Str.ofString "pit"] [0, 1] (T.says.def_ 33).choose_spec (fun _ _ _ _ _ _ us ws h1 h2 => match us, ws, h1, h2 with | [_], [_], _, _ => rfl)
theorem sc_OutOfTurnD_initD : FnScope ["self", "player"] ["self", "player"] (defScope s_OutOfTurnD_initD) := ⟨rfl, rfl, rfl, by decide +kernel, rfl, by decide +kernel, by decide +kernel⟩
noncomputable def xd_OutOfTurn {K : PySem.W.Frag} {mg : Str → Option Value} (T : TX K mg) : FuncData := (T.says.def_ 34).choose
theorem x_OutOfTurn {P : Program} {w : World} {K : PySem.W.Frag} {mg : Str → Option Value} {base : Heap} (T : TX K mg) : FnOk P w K mg base (L2.CX P w) 1 (mO K "OutOfTurn" "__init__") (xd_OutOfTurn T) ["self", "player"] (spX1 (gaS K "OutOfTurn") (Str.ofString "player")) := ok_x1 (st := s_OutOfTurnD_initD) (T.says.def_ 34).choose_spec sc_OutOfTurnD_initD rfl (oex_of (T.xc "OutOfTurn" (by decide +kernel)) (T.xi "OutOfTurn" (by decide +kernel))) (T.nf "OutOfTurn" "player" (by decide +kernel))
theorem xb_OutOfTurn {K : PySem.W.Frag} {mg : Str → Option Value} (T : TX K mg) : Binds K (xd_OutOfTurn T) ["self", "player"] [] := (T.says.def_ 34).choose_spec.bindsN (fun _ _ _ _ _ _ us hl => match us, hl with | [_, _], _ => rfl)
theorem xk_OutOfTurn {K : PySem.W.Frag} {mg : Str → Option Value} (T : TX K mg) : KBn K (xd_OutOfTurn T) ["self", "player"] 1 [Str.ofString "player"] (fun us ws => pickL [0, 1] (us ++ ws)) (fun vs zs => pickL [0, 1] (vs ++ zs)) := kbn_of (st := s_OutOfTurnD_initD) (m := 1) [Str.ofString "player"] [0, 1] (T.says.def_ 34).choose_spec (fun _ _ _ _ _ _ us ws h1 h2 => match us, ws, h1, h2 with | [_], [_], _, _ => rfl)
theorem sc_TooManyD_initD : FnScope ["self", "what", "most"] ["self", "what", "most"] (defScope s_TooManyD_initD) := ⟨rfl, rfl, rfl, by decide +kernel, rfl, by decide +kernel, by decide +kernel⟩
noncomputable def xd_TooMany {K : PySem.W.Frag} {mg : Str → Option Value} (T : TX K mg) : FuncData := (T.says.def_ 35).choose
theorem x_TooMany {P : Program} {w : World} {K : PySem.W.Frag} {mg : Str → Option Value} {base : Heap} (T : TX K mg) : FnOk P w K mg base (L2.CX P w) 1 (mO K "TooMany" "__init__") (xd_TooMany T) ["self", "what", "most"] (spX2 (gaS K "TooMany") (Str.ofString "what") (Str.ofString "most")) := ok_x2 (st := s_TooManyD_initD) (T.says.def_ 35).choose_spec sc_TooManyD_initD rfl (oex_of (T.xc "TooMany" (by decide +kernel)) (T.xi "TooMany" (by decide +kernel))) (T.nf "TooMany" "what" (by decide +kernel)) (T.nf "TooMany" "most" (by decide +kernel))
theorem xb_TooMany {K : PySem.W.Frag} {mg : Str → Option Value} (T : TX K mg) : Binds K (xd_TooMany T) ["self", "what", "most"] [] := (T.says.def_ 35).choose_spec.bindsN (fun _ _ _ _ _ _ us hl => match us, hl with | [_, _, _], _ => rfl)
theorem xk_TooMany {K : PySem.W.Frag} {mg : Str → Option Value} (T : TX K mg) : KBn K (xd_TooMany T) ["self", "what", "most"] 1 [Str.ofString "most", Str.ofString "what"] (fun us ws => pickL [0, 2, 1] (us ++ ws)) (fun vs zs => pickL [0, 2, 1] (vs ++ zs)) := kbn_of (st := s_TooManyD_initD) (m := 1) [Str.ofString "most", Str.ofString "what"] [0, 2, 1] (T.says.def_ 35).choose_spec (fun _ _ _ _ _ _ us ws h1 h2 => match us, ws, h1, h2 with | [_], [_, _], _, _ => rfl)
end K01
set_option Elab.async false
set_option linter.all false
set_option maxRecDepth 100000
set_option maxHeartbeats 4000000
namespace K01H
open PySem PySem.W PySem.Calls PyProof.Rows HandSHeadRun HX
def as0 : List Addr := [2, 3, 22, 23, 24, 25, 35, 36, 37, 38, 39, 40, 41, 42, 43, 44, 54, 55, 56, 57, 58, 59, 60, 61, 62, 63, 73, 74, 75, 76, 77, 78, 79, 80, 81, 82, 92, 93, 94, 95, 96, 97, 98, 99, 100, 101, 111, 112, 113, 114, 115, 116, 117, 118, 119, 120, 130, 131, 132, 133, 134, 135, 136, 137, 138, 139, 149, 150, 151, 152, 153, 154, 155, 156, 157, 158, 168, 169, 170, 171, 172, 173, 174, 175, 176, 177, 187, 188, 189, 190, 191, 192, 193, 194, 195, 196, 206, 207, 208, 209, 210, 211, 212, 213, 214, 215, 225, 226, 227, 228, 229, 230, 231, 232, 233, 234, 244, 245, 246, 247, 248, 249, 250, 251, 252, 253, 263, 264, 265, 266, 267, 268, 269, 270, 271, 272, 282, 283, 284, 285, 286, 287, 288, 289, 290, 291, 301, 302, 303, 304, 305, 306, 307, 308, 309, 310, 320, 321, 322, 323, 324, 325, 326, 327, 328, 329, 339, 340, 341, 342, 343, 344, 345, 346, 347, 348, 358, 359, 360, 361, 362, 363, 364, 365, 366, 367, 377, 378, 379, 380, 381, 382, 383, 384, 385, 386, 396, 397, 398, 408, 409, 410, 420, 421, 422, 432, 433, 434, 435, 436, 437, 438, 439, 440, 441, 451, 452, 453, 454, 455, 456, 457, 458, 459, 460, 470, 471, 472, 482, 483, 484, 485, 486, 487, 488, 489, 490, 491, 501, 502, 503, 504, 505, 506, 507, 508, 509, 510, 520, 521, 522, 523, 524, 525, 526, 527, 528, 529, 532, 533, 534, 535, 536, 537, 538, 539, 540, 541, 542, 543, 544, 545, 546, 547, 548, 549, 550, 551, 552, 553, 554, 555, 556, 557, 558, 559, 560, 561, 562, 563, 564, 565, 566, 567, 568, 569, 570, 571, 572, 573, 574, 575, 576, 577, 578, 579, 580, 581, 582, 583, 584, 585, 586, 587, 588, 589, 590, 591, 592, 593, 594, 595, 596, 597, 598, 599, 600, 601, 602, 603, 604, 605, 606, 607, 608, 609]
noncomputable def K0 (P : Params) : Frag := [(2, boot_o_2 P), (3, o3_3 P), (22, o22), (23, o23 P), (24, o24_3), (25, o25), (35, o35), (36, o36), (37, o37), (38, o38), (39, o39), (40, o40), (41, o41), (42, o42), (43, o43 P), (44, o44), (54, o54), (55, o55), (56, o56), (57, o57), (58, o58), (59, o59), (60, o60), (61, o61), (62, o62 P), (63, o63), (73, o73), (74, o74), (75, o75), (76, o76), (77, o77), (78, o78), (79, o79), (80, o80), (81, o81 P), (82, o82), (92, o92), (93, o93), (94, o94), (95, o95), (96, o96), (97, o97), (98, o98), (99, o99), (100, o100 P), (101, o101), (111, o111), (112, o112), (113, o113), (114, o114), (115, o115), (116, o116), (117, o117), (118, o118), (119, o119 P), (120, o120), (130, o130), (131, o131), (132, o132), (133, o133), (134, o134), (135, o135), (136, o136), (137, o137), (138, o138 P), (139, o139), (149, o149), (150, o150), (151, o151), (152, o152), (153, o153), (154, o154), (155, o155), (156, o156), (157, o157 P), (158, o158), (168, o168), (169, o169), (170, o170), (171, o171), (172, o172), (173, o173), (174, o174), (175, o175), (176, o176 P), (177, o177), (187, o187), (188, o188), (189, o189), (190, o190), (191, o191), (192, o192), (193, o193), (194, o194), (195, o195 P), (196, o196), (206, o206), (207, o207), (208, o208), (209, o209), (210, o210), (211, o211), (212, o212), (213, o213), (214, o214 P), (215, o215), (225, o225), (226, o226), (227, o227), (228, o228), (229, o229), (230, o230), (231, o231), (232, o232), (233, o233 P), (234, o234), (244, o244), (245, o245), (246, o246), (247, o247), (248, o248), (249, o249), (250, o250), (251, o251), (252, o252 P), (253, o253), (263, o263), (264, o264), (265, o265), (266, o266), (267, o267), (268, o268), (269, o269), (270, o270), (271, o271 P), (272, o272), (282, o282), (283, o283), (284, o284), (285, o285), (286, o286), (287, o287), (288, o288), (289, o289), (290, o290 P), (291, o291), (301, o301), (302, o302), (303, o303), (304, o304), (305, o305), (306, o306), (307, o307), (308, o308), (309, o309 P), (310, o310), (320, o320), (321, o321), (322, o322), (323, o323), (324, o324), (325, o325), (326, o326), (327, o327), (328, o328 P), (329, o329), (339, o339), (340, o340), (341, o341), (342, o342), (343, o343), (344, o344), (345, o345), (346, o346), (347, o347 P), (348, o348), (358, o358), (359, o359), (360, o360), (361, o361), (362, o362), (363, o363), (364, o364), (365, o365), (366, o366 P), (367, o367), (377, o377), (378, o378), (379, o379), (380, o380), (381, o381), (382, o382), (383, o383), (384, o384), (385, o385 P), (386, o386), (396, o396), (397, o397 P), (398, o398), (408, o408), (409, o409 P), (410, o410), (420, o420), (421, o421 P), (422, o422), (432, o432), (433, o433), (434, o434), (435, o435), (436, o436), (437, o437), (438, o438), (439, o439), (440, o440 P), (441, o441), (451, o451), (452, o452), (453, o453), (454, o454), (455, o455), (456, o456), (457, o457), (458, o458), (459, o459 P), (460, o460), (470, o470), (471, o471 P), (472, o472), (482, o482), (483, o483), (484, o484), (485, o485), (486, o486), (487, o487), (488, o488), (489, o489), (490, o490 P), (491, o491), (501, o501), (502, o502), (503, o503), (504, o504), (505, o505), (506, o506), (507, o507), (508, o508), (509, o509 P), (510, o510), (520, o520), (521, o521), (522, o522), (523, o523), (524, o524), (525, o525), (526, o526), (527, o527), (528, o528 P), (529, o529), (532, o532), (533, o533), (534, o534), (535, o535), (536, o536), (537, o537), (538, o538), (539, o539), (540, o540), (541, o541), (542, o542), (543, o543), (544, o544), (545, o545), (546, o546), (547, o547), (548, o548), (549, o549), (550, o550), (551, o551), (552, o552), (553, o553), (554, o554), (555, o555), (556, o556), (557, o557), (558, o558), (559, o559), (560, o560), (561, o561), (562, o562), (563, o563), (564, o564), (565, o565), (566, o566), (567, o567), (568, o568), (569, o569), (570, o570), (571, o571), (572, o572), (573, o573), (574, o574), (575, o575), (576, o576), (577, o577), (578, o578), (579, o579), (580, o580), (581, o581), (582, o582), (583, o583), (584, o584), (585, o585), (586, o586), (587, o587), (588, o588), (589, o589), (590, o590), (591, o591), (592, o592), (593, o593), (594, o594), (595, o595), (596, o596), (597, o597), (598, o598), (599, o599), (600, o600), (601, o601), (602, o602), (603, o603), (604, o604), (605, o605), (606, o606), (607, o607), (608, o608), (609, o609)]
theorem ea (P : Params) : as0 = (K0 P).map (·.1) := rfl
theorem l3 (w : World) (os : OsState) : ZH.obF as0 (S3 w os) = (K0 w.params).map (fun p => some p.2) := by kernel_rfl
end K01H
set_option Elab.async false
set_option linter.all false
set_option maxRecDepth 100000
set_option maxHeartbeats 4000000
namespace K01
open PySem PySem.W PySem.Calls PyProof.Rows HandSHeadRun HX K01H
theorem l1 (w : World) (os : OsState) : looksF R.prog (boot_heap w.params) (S3 w os).abs = true := by kernel_rfl
theorem l2 (w : World) (os : OsState) : seenQ (PySem.W.view R.prog [42]) loose (importedModules R.prog.main.body) (fun s => xlAt (PySem.W.view R.prog [42]) [] s && recOk R.toRowW.records s) (S3 w os).abs = openGood (PySem.W.view R.prog [42]) loose := by kernel_rfl
def SaysF (w : World) (K : Frag) : Prop := ZH.SaysL lams chk fn K
theorem f1 (w : World) : SaysF w (K0 w.params) := by
  show ZH.obsL lams chk fn (K0 w.params) = (He5.valA fn, true)
  kernel_rfl
noncomputable abbrev hkF : PySem.W.Hook := ZH.hookF as0 K0 ea SaysF f1
end K01
set_option Elab.async false
set_option linter.all false
set_option maxRecDepth 100000
set_option maxHeartbeats 4000000
namespace K01
open PySem PySem.Spec PyProof.Rows L2 ZL PV
section
variable {P : Program} {w : World} {K : PySem.W.Frag} {mg : Str → Option Value} {base : Heap}
abbrev N_law_bag : List Str := ["_law_script", "_law_state", "_law_cell"]
theorem sc_law_bag : FnScope N_law_bag ["_law_script"] (defScope s_law_bag) := ⟨rfl, rfl, rfl, by decide +kernel, rfl, by decide +kernel, by decide +kernel⟩
noncomputable def F_law_bag : Fn := dfn 1 3 (sSeq (sSet 1 (k (.int 11))) (sSeq (sFor (.nm 2) (iSeq (sli (v 0) (oNo) (oSo (k (.int 63))))) (sSeq (sSet 1 (bin (modG) (cal intB (aCons (bin (addG) (bin (addG) (bin (mulG) (v 1) (k (.int 39373))) (bin (modG) (cal absB (aCons (v 2) aNil)) (k (.int 2147483629)))) (k (.int 17))) aNil)) (k (.int 2147483647)))) sNil)) (sSeq (sRet (dicM [("cells", cal listB (aCons (sli (v 0) (oNo) (oSo (k (.int 63)))) aNil)), ("at", k (.int 0)), ("rest", k (.int 0)), ("state", v 1)])) sNil)))
theorem w_law_bag (T : TX K mg) : FnFG P w K mg base 1 (He.ga K "_law_bag") F_law_bag := by
  obtain ⟨fd, F⟩ := T.says.def_ 0
  exact okFG (j := 0) (st := s_law_bag) F sc_law_bag rfl rfl (fun _ _ _ _ _ _ us hl => match us, hl with | [_], _ => rfl) (fun cdv A outer s H E hgd hr => qs_cons (qs_set 1 qk_int sc_law_bag.nd) (qs_cons (qs_for (passes_of rfl) rfl (qi_seq (qe_sli (qv 0) (qo_none) (qo_some qk_int))) (qg_name 2 sc_law_bag.nd) (qs_cons (qs_set 1 (qe_bin (of_mod) (qe_typ cf_int (T.free "int" (by decide +kernel)) (qa_cons (qe_bin (of_add) (qe_bin (of_add) (qe_bin (of_mul) (qv 1) qk_int) (qe_bin (of_mod) (qe_blt cf_abs (T.free "abs" (by decide +kernel)) (qa_cons (qv 2) qa_nil)) qk_int)) qk_int) qa_nil)) qk_int) sc_law_bag.nd) qs_nil)) (qs_cons (qs_ret (qe_dicM (qpm_cons (qe_typ cf_list (T.free "list" (by decide +kernel)) (qa_cons (qe_sli (qv 0) (qo_none) (qo_some qk_int)) qa_nil)) (qpm_cons qk_int (qpm_cons qk_int (qpm_cons (qv 1) (qpm_nil))))))) qs_nil)))
abbrev N_law_draw : List Str := ["_law_bag_here", "_law_limit", "_law_cell", "_law_mixed", "_law_found"]
theorem sc_law_draw : FnScope N_law_draw ["_law_bag_here", "_law_limit"] (defScope s_law_draw) := ⟨rfl, rfl, rfl, by decide +kernel, rfl, by decide +kernel, by decide +kernel⟩
noncomputable def F_law_draw : Fn := dfn 2 5 (sSeq (sWhl (tAn (tst (bin (ltG) (bin ddG (v 0) (k (.str "rest"))) (k (.int 2)))) (tst (bin (ltG) (bin ddG (v 0) (k (.str "at"))) (cal lenB (aCons (bin ddG (v 0) (k (.str "cells"))) aNil))))) (sSeq (sSet 2 (cal absB (aCons (bin ixG (bin ddG (v 0) (k (.str "cells"))) (bin ddG (v 0) (k (.str "at")))) aNil))) (sSeq (sDk (v 0) (k (.str "at")) (bin (addG) (bin ddG (v 0) (k (.str "at"))) (k (.int 1)))) (sSeq (sIf (tst (bin (ltG) (v 2) (bin (powG) (k (.int 10)) (k (.int 18))))) (sSeq (sSet 3 (bin (modG) (cal intB (aCons (bin (addG) (bin (powG) (bin (addG) (v 2) (k (.int 5))) (k (.int 3))) (bin (mulG) (bin ddG (v 0) (k (.str "state"))) (bin (addG) (bin ddG (v 0) (k (.str "at"))) (k (.int 1))))) aNil)) (k (.int 2147483629)))) (sSeq (sRet (bin (modG) (v 3) (v 1))) sNil)) sNil) (sSeq (sDk (v 0) (k (.str "rest")) (v 2)) sNil))))) (sSeq (sIf (tst (bin (geG) (bin ddG (v 0) (k (.str "rest"))) (k (.int 2)))) (sSeq (sSet 4 (bin (modG) (cal intB (aCons (bin ddG (v 0) (k (.str "rest"))) aNil)) (v 1))) (sSeq (sDk (v 0) (k (.str "rest")) (bin (fdivG) (bin ddG (v 0) (k (.str "rest"))) (v 1))) (sSeq (sRet (v 4)) sNil))) sNil) (sSeq (sDk (v 0) (k (.str "state")) (bin (modG) (cal intB (aCons (bin (addG) (bin (mulG) (bin ddG (v 0) (k (.str "state"))) (k (.int 39373))) (k (.int 17))) aNil)) (k (.int 2147483647)))) (sSeq (sRet (bin (modG) (bin (modG) (cal intB (aCons (bin (powG) (bin ddG (v 0) (k (.str "state"))) (k (.int 5))) aNil)) (k (.int 2147483629))) (v 1))) sNil))))
theorem w_law_draw (T : TX K mg) : FnFG P w K mg base 1 (He.ga K "_law_draw") F_law_draw := by
  obtain ⟨fd, F⟩ := T.says.def_ 1
  exact okFG (j := 0) (st := s_law_draw) F sc_law_draw rfl rfl (fun _ _ _ _ _ _ us hl => match us, hl with | [_, _], _ => rfl) (fun cdv A outer s H E hgd hr => qs_cons (qs_whl (passes_of rfl) (qt_w (qw_and (qt_cmp (of_lt) (qe_dd (u1 hr) (qv 0) qk_str) qk_int) (qw_and1 (qt_cmp (of_lt) (qe_dd (u1 hr) (qv 0) qk_str) (qe_blt cf_len (T.free "len" (by decide +kernel)) (qa_cons (qe_dd (u1 hr) (qv 0) qk_str) qa_nil)))))) (qs_cons (qs_set 2 (qe_blt cf_abs (T.free "abs" (by decide +kernel)) (qa_cons (qe_ix (qe_dd (u1 hr) (qv 0) qk_str) (qe_dd (u1 hr) (qv 0) qk_str)) qa_nil)) sc_law_draw.nd) (qs_cons (qs_dk (u1 hr) (qv 0) qk_str (qe_bin (of_add) (qe_dd (u1 hr) (qv 0) qk_str) qk_int)) (qs_cons (qs_if (qt_cmp (of_lt) (qv 2) (qe_bin (of_pow) qk_int qk_int)) (qs_cons (qs_set 3 (qe_bin (of_mod) (qe_typ cf_int (T.free "int" (by decide +kernel)) (qa_cons (qe_bin (of_add) (qe_bin (of_pow) (qe_bin (of_add) (qv 2) qk_int) qk_int) (qe_bin (of_mul) (qe_dd (u1 hr) (qv 0) qk_str) (qe_bin (of_add) (qe_dd (u1 hr) (qv 0) qk_str) qk_int))) qa_nil)) qk_int) sc_law_draw.nd) (qs_cons (qs_ret (qe_bin (of_mod) (qv 3) (qv 1))) qs_nil)) qs_nil) (qs_cons (qs_dk (u1 hr) (qv 0) qk_str (qv 2)) qs_nil))))) (qs_cons (qs_if (qt_cmp (of_ge) (qe_dd (u1 hr) (qv 0) qk_str) qk_int) (qs_cons (qs_set 4 (qe_bin (of_mod) (qe_typ cf_int (T.free "int" (by decide +kernel)) (qa_cons (qe_dd (u1 hr) (qv 0) qk_str) qa_nil)) (qv 1)) sc_law_draw.nd) (qs_cons (qs_dk (u1 hr) (qv 0) qk_str (qe_bin (of_fdiv) (qe_dd (u1 hr) (qv 0) qk_str) (qv 1))) (qs_cons (qs_ret (qv 4)) qs_nil))) qs_nil) (qs_cons (qs_dk (u1 hr) (qv 0) qk_str (qe_bin (of_mod) (qe_typ cf_int (T.free "int" (by decide +kernel)) (qa_cons (qe_bin (of_add) (qe_bin (of_mul) (qe_dd (u1 hr) (qv 0) qk_str) qk_int) qk_int) qa_nil)) qk_int)) (qs_cons (qs_ret (qe_bin (of_mod) (qe_bin (of_mod) (qe_typ cf_int (T.free "int" (by decide +kernel)) (qa_cons (qe_bin (of_pow) (qe_dd (u1 hr) (qv 0) qk_str) qk_int) qa_nil)) qk_int) (qv 1))) qs_nil))))
abbrev N_law_pick : List Str := ["_law_bag_here", "_law_some"]
theorem sc_law_pick : FnScope N_law_pick ["_law_bag_here", "_law_some"] (defScope s_law_pick) := ⟨rfl, rfl, rfl, by decide +kernel, rfl, by decide +kernel, by decide +kernel⟩
noncomputable def F_law_pick : Fn := dfn 2 2 (sSeq (sRet (bin ixG (v 1) (cal F_law_draw (aCons (v 0) (aCons (cal lenB (aCons (v 1) aNil)) aNil))))) sNil)
theorem w_law_pick (T : TX K mg) : FnFG P w K mg base 2 (He.ga K "_law_pick") F_law_pick := by
  obtain ⟨fd, F⟩ := T.says.def_ 2
  exact okFG (j := 1) (st := s_law_pick) F sc_law_pick rfl rfl (fun _ _ _ _ _ _ us hl => match us, hl with | [_, _], _ => rfl) (fun cdv A outer s H E hgd hr => qs_cons (qs_ret (qe_ix (qv 1) (qe_callG (w_law_draw T) hgd (hr.mono (by decide)) (T.glo "_law_draw" (by decide +kernel)) (kp_law_draw T) (qa_cons (qv 0) (qa_cons (qe_blt cf_len (T.free "len" (by decide +kernel)) (qa_cons (qv 1) qa_nil)) qa_nil))))) qs_nil)
abbrev N_law_value : List Str := ["_law_bag_here", "_law_some"]
theorem sc_law_value : FnScope N_law_value ["_law_bag_here"] (defScope s_law_value) := ⟨rfl, rfl, rfl, by decide +kernel, rfl, by decide +kernel, by decide +kernel⟩
noncomputable def F_law_value : Fn := dfn 1 2 (sSeq (sSet 1 (lstE (aCons (k .non) (aCons (k (.bl true)) (aCons (k (.bl false)) (aCons (k (.int 0)) (aCons (una negG (k (.int 3))) (aCons (bin (powG) (k (.int 10)) (k (.int 40))) (aCons (k (.str "")) (aCons (k (.str "word")) (aCons (tupE aNil) (aCons (tupE (aCons (k (.int 1)) (aCons (k (.str "a")) aNil))) (aCons (lstE aNil) (aCons (lstE (aCons (k (.int 0)) (aCons (lstE (aCons (k (.int 1)) aNil)) aNil))) (aCons (dicE) (aCons (dcE [("a", .int 1)]) (aCons (k (.str "x y")) aNil))))))))))))))))) (sSeq (sRet (cal F_law_pick (aCons (v 0) (aCons (v 1) aNil)))) sNil))
theorem w_law_value (T : TX K mg) : FnFG P w K mg base 3 (He.ga K "_law_value") F_law_value := by
  obtain ⟨fd, F⟩ := T.says.def_ 3
  exact okFG (j := 2) (st := s_law_value) F sc_law_value rfl rfl (fun _ _ _ _ _ _ us hl => match us, hl with | [_], _ => rfl) (fun cdv A outer s H E hgd hr => qs_cons (qs_set 1 (qe_lst (qa_cons (qk_non) (qa_cons qk_bl (qa_cons qk_bl (qa_cons qk_int (qa_cons (qe_un of_neg qk_int) (qa_cons (qe_bin (of_pow) qk_int qk_int) (qa_cons qk_str (qa_cons qk_str (qa_cons (qe_tup qa_nil) (qa_cons (qe_tup (qa_cons qk_int (qa_cons qk_str qa_nil))) (qa_cons (qe_lst qa_nil) (qa_cons (qe_lst (qa_cons qk_int (qa_cons (qe_lst (qa_cons qk_int qa_nil)) qa_nil))) (qa_cons (qe_dic0) (qa_cons (qe_dc (qp_cons .int (qp_nil))) (qa_cons qk_str qa_nil)))))))))))))))) sc_law_value.nd) (qs_cons (qs_ret (qe_callG (w_law_pick T) hgd (hr.mono (by decide)) (T.glo "_law_pick" (by decide +kernel)) (kp_law_pick T) (qa_cons (qv 0) (qa_cons (qv 1) qa_nil)))) qs_nil))
abbrev N_law_ones : List Str := ["_law_one", "_law_found"]
theorem sc_law_ones : FnScope N_law_ones ["_law_one"] (defScope s_law_ones) := ⟨rfl, rfl, rfl, by decide +kernel, rfl, by decide +kernel, by decide +kernel⟩
noncomputable def F_law_ones : Fn := dfn 1 2 (sSeq (sSet 1 (lstE (aCons (tupE (aCons (mkX "BadHeld" ["value"] (aCons (v 0) aNil)) (aCons (k (.str "value")) aNil))) (aCons (tupE (aCons (mkX "BadPlayer" ["value"] (aCons (v 0) aNil)) (aCons (k (.str "value")) aNil))) (aCons (tupE (aCons (mkX "BadPit" ["value"] (aCons (v 0) aNil)) (aCons (k (.str "value")) aNil))) (aCons (tupE (aCons (mkX "BadNumber" ["value"] (aCons (v 0) aNil)) (aCons (k (.str "value")) aNil))) aNil)))))) (sSeq (sSet 1 (bin (addG) (v 1) (lstE (aCons (tupE (aCons (mkX "BadTurn" ["value"] (aCons (v 0) aNil)) (aCons (k (.str "value")) aNil))) (aCons (tupE (aCons (mkX "BadRing" ["part"] (aCons (v 0) aNil)) (aCons (k (.str "part")) aNil))) (aCons (tupE (aCons (mkX "BadEnd" ["part"] (aCons (v 0) aNil)) (aCons (k (.str "part")) aNil))) (aCons (tupE (aCons (mkX "BadBook" ["part"] (aCons (v 0) aNil)) (aCons (k (.str "part")) aNil))) aNil))))))) (sSeq (sSet 1 (bin (addG) (v 1) (lstE (aCons (tupE (aCons (mkX "BadBoard" ["part"] (aCons (v 0) aNil)) (aCons (k (.str "part")) aNil))) (aCons (tupE (aCons (mkX "BadSum" ["part"] (aCons (v 0) aNil)) (aCons (k (.str "part")) aNil))) (aCons (tupE (aCons (mkX "BadShape" ["part"] (aCons (v 0) aNil)) (aCons (k (.str "part")) aNil))) (aCons (tupE (aCons (mkX "BadRoad" ["part"] (aCons (v 0) aNil)) (aCons (k (.str "part")) aNil))) aNil))))))) (sSeq (sSet 1 (bin (addG) (v 1) (lstE (aCons (tupE (aCons (mkX "BadClaim" ["part"] (aCons (v 0) aNil)) (aCons (k (.str "part")) aNil))) (aCons (tupE (aCons (mkX "BadRow" ["at"] (aCons (v 0) aNil)) (aCons (k (.str "at")) aNil))) (aCons (tupE (aCons (mkX "BadLine" ["word"] (aCons (v 0) aNil)) (aCons (k (.str "word")) aNil))) (aCons (tupE (aCons (mkX "NoLap" ["pit"] (aCons (v 0) aNil)) (aCons (k (.str "pit")) aNil))) aNil))))))) (sSeq (sRet (bin (addG) (v 1) (lstE (aCons (tupE (aCons (mkX "NoEnd" ["at"] (aCons (v 0) aNil)) (aCons (k (.str "at")) aNil))) (aCons (tupE (aCons (mkX "NoName" ["name"] (aCons (v 0) aNil)) (aCons (k (.str "name")) aNil))) aNil))))) sNil)))))
theorem w_law_ones (T : TX K mg) : FnFG P w K mg base 3 (He.ga K "_law_ones") F_law_ones := by
  obtain ⟨fd, F⟩ := T.says.def_ 4
  exact okFG (j := 2) (st := s_law_ones) F sc_law_ones rfl rfl (fun _ _ _ _ _ _ us hl => match us, hl with | [_], _ => rfl) (fun cdv A outer s H E hgd hr => qs_cons (qs_set 1 (qe_lst (qa_cons (qe_tup (qa_cons (qe_mkx1 (oex_of (T.xc "BadHeld" (by decide +kernel)) (T.xi "BadHeld" (by decide +kernel))) (T.meth "BadHeld" "__init__" (by decide +kernel)).at_ (isFn_ty (T.meth "BadHeld" "__init__" (by decide +kernel)).fn) (x_BadHeld T) (hr.mono (by decide)) (xb_BadHeld T) (T.glo "BadHeld" (by decide +kernel)) (qa_cons (qv 0) qa_nil)) (qa_cons qk_str qa_nil))) (qa_cons (qe_tup (qa_cons (qe_mkx1 (oex_of (T.xc "BadPlayer" (by decide +kernel)) (T.xi "BadPlayer" (by decide +kernel))) (T.meth "BadPlayer" "__init__" (by decide +kernel)).at_ (isFn_ty (T.meth "BadPlayer" "__init__" (by decide +kernel)).fn) (x_BadPlayer T) (hr.mono (by decide)) (xb_BadPlayer T) (T.glo "BadPlayer" (by decide +kernel)) (qa_cons (qv 0) qa_nil)) (qa_cons qk_str qa_nil))) (qa_cons (qe_tup (qa_cons (qe_mkx1 (oex_of (T.xc "BadPit" (by decide +kernel)) (T.xi "BadPit" (by decide +kernel))) (T.meth "BadPit" "__init__" (by decide +kernel)).at_ (isFn_ty (T.meth "BadPit" "__init__" (by decide +kernel)).fn) (x_BadPit T) (hr.mono (by decide)) (xb_BadPit T) (T.glo "BadPit" (by decide +kernel)) (qa_cons (qv 0) qa_nil)) (qa_cons qk_str qa_nil))) (qa_cons (qe_tup (qa_cons (qe_mkx1 (oex_of (T.xc "BadNumber" (by decide +kernel)) (T.xi "BadNumber" (by decide +kernel))) (T.meth "BadNumber" "__init__" (by decide +kernel)).at_ (isFn_ty (T.meth "BadNumber" "__init__" (by decide +kernel)).fn) (x_BadNumber T) (hr.mono (by decide)) (xb_BadNumber T) (T.glo "BadNumber" (by decide +kernel)) (qa_cons (qv 0) qa_nil)) (qa_cons qk_str qa_nil))) qa_nil))))) sc_law_ones.nd) (qs_cons (qs_set 1 (qe_bin (of_add) (qv 1) (qe_lst (qa_cons (qe_tup (qa_cons (qe_mkx1 (oex_of (T.xc "BadTurn" (by decide +kernel)) (T.xi "BadTurn" (by decide +kernel))) (T.meth "BadTurn" "__init__" (by decide +kernel)).at_ (isFn_ty (T.meth "BadTurn" "__init__" (by decide +kernel)).fn) (x_BadTurn T) (hr.mono (by decide)) (xb_BadTurn T) (T.glo "BadTurn" (by decide +kernel)) (qa_cons (qv 0) qa_nil)) (qa_cons qk_str qa_nil))) (qa_cons (qe_tup (qa_cons (qe_mkx1 (oex_of (T.xc "BadRing" (by decide +kernel)) (T.xi "BadRing" (by decide +kernel))) (T.meth "BadRing" "__init__" (by decide +kernel)).at_ (isFn_ty (T.meth "BadRing" "__init__" (by decide +kernel)).fn) (x_BadRing T) (hr.mono (by decide)) (xb_BadRing T) (T.glo "BadRing" (by decide +kernel)) (qa_cons (qv 0) qa_nil)) (qa_cons qk_str qa_nil))) (qa_cons (qe_tup (qa_cons (qe_mkx1 (oex_of (T.xc "BadEnd" (by decide +kernel)) (T.xi "BadEnd" (by decide +kernel))) (T.meth "BadEnd" "__init__" (by decide +kernel)).at_ (isFn_ty (T.meth "BadEnd" "__init__" (by decide +kernel)).fn) (x_BadEnd T) (hr.mono (by decide)) (xb_BadEnd T) (T.glo "BadEnd" (by decide +kernel)) (qa_cons (qv 0) qa_nil)) (qa_cons qk_str qa_nil))) (qa_cons (qe_tup (qa_cons (qe_mkx1 (oex_of (T.xc "BadBook" (by decide +kernel)) (T.xi "BadBook" (by decide +kernel))) (T.meth "BadBook" "__init__" (by decide +kernel)).at_ (isFn_ty (T.meth "BadBook" "__init__" (by decide +kernel)).fn) (x_BadBook T) (hr.mono (by decide)) (xb_BadBook T) (T.glo "BadBook" (by decide +kernel)) (qa_cons (qv 0) qa_nil)) (qa_cons qk_str qa_nil))) qa_nil)))))) sc_law_ones.nd) (qs_cons (qs_set 1 (qe_bin (of_add) (qv 1) (qe_lst (qa_cons (qe_tup (qa_cons (qe_mkx1 (oex_of (T.xc "BadBoard" (by decide +kernel)) (T.xi "BadBoard" (by decide +kernel))) (T.meth "BadBoard" "__init__" (by decide +kernel)).at_ (isFn_ty (T.meth "BadBoard" "__init__" (by decide +kernel)).fn) (x_BadBoard T) (hr.mono (by decide)) (xb_BadBoard T) (T.glo "BadBoard" (by decide +kernel)) (qa_cons (qv 0) qa_nil)) (qa_cons qk_str qa_nil))) (qa_cons (qe_tup (qa_cons (qe_mkx1 (oex_of (T.xc "BadSum" (by decide +kernel)) (T.xi "BadSum" (by decide +kernel))) (T.meth "BadSum" "__init__" (by decide +kernel)).at_ (isFn_ty (T.meth "BadSum" "__init__" (by decide +kernel)).fn) (x_BadSum T) (hr.mono (by decide)) (xb_BadSum T) (T.glo "BadSum" (by decide +kernel)) (qa_cons (qv 0) qa_nil)) (qa_cons qk_str qa_nil))) (qa_cons (qe_tup (qa_cons (qe_mkx1 (oex_of (T.xc "BadShape" (by decide +kernel)) (T.xi "BadShape" (by decide +kernel))) (T.meth "BadShape" "__init__" (by decide +kernel)).at_ (isFn_ty (T.meth "BadShape" "__init__" (by decide +kernel)).fn) (x_BadShape T) (hr.mono (by decide)) (xb_BadShape T) (T.glo "BadShape" (by decide +kernel)) (qa_cons (qv 0) qa_nil)) (qa_cons qk_str qa_nil))) (qa_cons (qe_tup (qa_cons (qe_mkx1 (oex_of (T.xc "BadRoad" (by decide +kernel)) (T.xi "BadRoad" (by decide +kernel))) (T.meth "BadRoad" "__init__" (by decide +kernel)).at_ (isFn_ty (T.meth "BadRoad" "__init__" (by decide +kernel)).fn) (x_BadRoad T) (hr.mono (by decide)) (xb_BadRoad T) (T.glo "BadRoad" (by decide +kernel)) (qa_cons (qv 0) qa_nil)) (qa_cons qk_str qa_nil))) qa_nil)))))) sc_law_ones.nd) (qs_cons (qs_set 1 (qe_bin (of_add) (qv 1) (qe_lst (qa_cons (qe_tup (qa_cons (qe_mkx1 (oex_of (T.xc "BadClaim" (by decide +kernel)) (T.xi "BadClaim" (by decide +kernel))) (T.meth "BadClaim" "__init__" (by decide +kernel)).at_ (isFn_ty (T.meth "BadClaim" "__init__" (by decide +kernel)).fn) (x_BadClaim T) (hr.mono (by decide)) (xb_BadClaim T) (T.glo "BadClaim" (by decide +kernel)) (qa_cons (qv 0) qa_nil)) (qa_cons qk_str qa_nil))) (qa_cons (qe_tup (qa_cons (qe_mkx1 (oex_of (T.xc "BadRow" (by decide +kernel)) (T.xi "BadRow" (by decide +kernel))) (T.meth "BadRow" "__init__" (by decide +kernel)).at_ (isFn_ty (T.meth "BadRow" "__init__" (by decide +kernel)).fn) (x_BadRow T) (hr.mono (by decide)) (xb_BadRow T) (T.glo "BadRow" (by decide +kernel)) (qa_cons (qv 0) qa_nil)) (qa_cons qk_str qa_nil))) (qa_cons (qe_tup (qa_cons (qe_mkx1 (oex_of (T.xc "BadLine" (by decide +kernel)) (T.xi "BadLine" (by decide +kernel))) (T.meth "BadLine" "__init__" (by decide +kernel)).at_ (isFn_ty (T.meth "BadLine" "__init__" (by decide +kernel)).fn) (x_BadLine T) (hr.mono (by decide)) (xb_BadLine T) (T.glo "BadLine" (by decide +kernel)) (qa_cons (qv 0) qa_nil)) (qa_cons qk_str qa_nil))) (qa_cons (qe_tup (qa_cons (qe_mkx1 (oex_of (T.xc "NoLap" (by decide +kernel)) (T.xi "NoLap" (by decide +kernel))) (T.meth "NoLap" "__init__" (by decide +kernel)).at_ (isFn_ty (T.meth "NoLap" "__init__" (by decide +kernel)).fn) (x_NoLap T) (hr.mono (by decide)) (xb_NoLap T) (T.glo "NoLap" (by decide +kernel)) (qa_cons (qv 0) qa_nil)) (qa_cons qk_str qa_nil))) qa_nil)))))) sc_law_ones.nd) (qs_cons (qs_ret (qe_bin (of_add) (qv 1) (qe_lst (qa_cons (qe_tup (qa_cons (qe_mkx1 (oex_of (T.xc "NoEnd" (by decide +kernel)) (T.xi "NoEnd" (by decide +kernel))) (T.meth "NoEnd" "__init__" (by decide +kernel)).at_ (isFn_ty (T.meth "NoEnd" "__init__" (by decide +kernel)).fn) (x_NoEnd T) (hr.mono (by decide)) (xb_NoEnd T) (T.glo "NoEnd" (by decide +kernel)) (qa_cons (qv 0) qa_nil)) (qa_cons qk_str qa_nil))) (qa_cons (qe_tup (qa_cons (qe_mkx1 (oex_of (T.xc "NoName" (by decide +kernel)) (T.xi "NoName" (by decide +kernel))) (T.meth "NoName" "__init__" (by decide +kernel)).at_ (isFn_ty (T.meth "NoName" "__init__" (by decide +kernel)).fn) (x_NoName T) (hr.mono (by decide)) (xb_NoName T) (T.glo "NoName" (by decide +kernel)) (qa_cons (qv 0) qa_nil)) (qa_cons qk_str qa_nil))) qa_nil))))) qs_nil)))))
abbrev N_law_named : List Str := ["_law_one", "_law_found"]
theorem sc_law_named : FnScope N_law_named ["_law_one"] (defScope s_law_named) := ⟨rfl, rfl, rfl, by decide +kernel, rfl, by decide +kernel, by decide +kernel⟩
noncomputable def F_law_named : Fn := dfn 1 2 (sSeq (sSet 1 (lstE (aCons (mkX "BadHeld" ["value"] (aCons (v 0) aNil)) (aCons (mkX "BadPlayer" ["value"] (aCons (v 0) aNil)) (aCons (mkX "BadPit" ["value"] (aCons (v 0) aNil)) (aCons (mkX "BadNumber" ["value"] (aCons (v 0) aNil)) (aCons (mkX "BadTurn" ["value"] (aCons (v 0) aNil)) aNil))))))) (sSeq (sSet 1 (bin (addG) (v 1) (lstE (aCons (mkX "BadRing" ["part"] (aCons (v 0) aNil)) (aCons (mkX "BadEnd" ["part"] (aCons (v 0) aNil)) (aCons (mkX "BadBook" ["part"] (aCons (v 0) aNil)) (aCons (mkX "BadBoard" ["part"] (aCons (v 0) aNil)) (aCons (mkX "BadSum" ["part"] (aCons (v 0) aNil)) aNil)))))))) (sSeq (sSet 1 (bin (addG) (v 1) (lstE (aCons (mkX "BadShape" ["part"] (aCons (v 0) aNil)) (aCons (mkX "BadRoad" ["part"] (aCons (v 0) aNil)) (aCons (mkX "BadClaim" ["part"] (aCons (v 0) aNil)) (aCons (mkX "BadRow" ["at"] (aCons (v 0) aNil)) (aCons (mkX "BadLine" ["word"] (aCons (v 0) aNil)) aNil)))))))) (sSeq (sRet (bin (addG) (v 1) (lstE (aCons (mkX "NoLap" ["pit"] (aCons (v 0) aNil)) (aCons (mkX "NoEnd" ["at"] (aCons (v 0) aNil)) (aCons (mkX "NoName" ["name"] (aCons (v 0) aNil)) aNil)))))) sNil))))
theorem w_law_named (T : TX K mg) : FnFG P w K mg base 3 (He.ga K "_law_named") F_law_named := by
  obtain ⟨fd, F⟩ := T.says.def_ 5
  exact okFG (j := 2) (st := s_law_named) F sc_law_named rfl rfl (fun _ _ _ _ _ _ us hl => match us, hl with | [_], _ => rfl) (fun cdv A outer s H E hgd hr => qs_cons (qs_set 1 (qe_lst (qa_cons (qe_mkxK1 (oex_of (T.xc "BadHeld" (by decide +kernel)) (T.xi "BadHeld" (by decide +kernel))) (T.meth "BadHeld" "__init__" (by decide +kernel)).at_ (isFn_ty (T.meth "BadHeld" "__init__" (by decide +kernel)).fn) (x_BadHeld T) (hr.mono (by decide)) (xk_BadHeld T) (T.glo "BadHeld" (by decide +kernel)) (qk_cons (qv 0) (qk_nil))) (qa_cons (qe_mkxK1 (oex_of (T.xc "BadPlayer" (by decide +kernel)) (T.xi "BadPlayer" (by decide +kernel))) (T.meth "BadPlayer" "__init__" (by decide +kernel)).at_ (isFn_ty (T.meth "BadPlayer" "__init__" (by decide +kernel)).fn) (x_BadPlayer T) (hr.mono (by decide)) (xk_BadPlayer T) (T.glo "BadPlayer" (by decide +kernel)) (qk_cons (qv 0) (qk_nil))) (qa_cons (qe_mkxK1 (oex_of (T.xc "BadPit" (by decide +kernel)) (T.xi "BadPit" (by decide +kernel))) (T.meth "BadPit" "__init__" (by decide +kernel)).at_ (isFn_ty (T.meth "BadPit" "__init__" (by decide +kernel)).fn) (x_BadPit T) (hr.mono (by decide)) (xk_BadPit T) (T.glo "BadPit" (by decide +kernel)) (qk_cons (qv 0) (qk_nil))) (qa_cons (qe_mkxK1 (oex_of (T.xc "BadNumber" (by decide +kernel)) (T.xi "BadNumber" (by decide +kernel))) (T.meth "BadNumber" "__init__" (by decide +kernel)).at_ (isFn_ty (T.meth "BadNumber" "__init__" (by decide +kernel)).fn) (x_BadNumber T) (hr.mono (by decide)) (xk_BadNumber T) (T.glo "BadNumber" (by decide +kernel)) (qk_cons (qv 0) (qk_nil))) (qa_cons (qe_mkxK1 (oex_of (T.xc "BadTurn" (by decide +kernel)) (T.xi "BadTurn" (by decide +kernel))) (T.meth "BadTurn" "__init__" (by decide +kernel)).at_ (isFn_ty (T.meth "BadTurn" "__init__" (by decide +kernel)).fn) (x_BadTurn T) (hr.mono (by decide)) (xk_BadTurn T) (T.glo "BadTurn" (by decide +kernel)) (qk_cons (qv 0) (qk_nil))) qa_nil)))))) sc_law_named.nd) (qs_cons (qs_set 1 (qe_bin (of_add) (qv 1) (qe_lst (qa_cons (qe_mkxK1 (oex_of (T.xc "BadRing" (by decide +kernel)) (T.xi "BadRing" (by decide +kernel))) (T.meth "BadRing" "__init__" (by decide +kernel)).at_ (isFn_ty (T.meth "BadRing" "__init__" (by decide +kernel)).fn) (x_BadRing T) (hr.mono (by decide)) (xk_BadRing T) (T.glo "BadRing" (by decide +kernel)) (qk_cons (qv 0) (qk_nil))) (qa_cons (qe_mkxK1 (oex_of (T.xc "BadEnd" (by decide +kernel)) (T.xi "BadEnd" (by decide +kernel))) (T.meth "BadEnd" "__init__" (by decide +kernel)).at_ (isFn_ty (T.meth "BadEnd" "__init__" (by decide +kernel)).fn) (x_BadEnd T) (hr.mono (by decide)) (xk_BadEnd T) (T.glo "BadEnd" (by decide +kernel)) (qk_cons (qv 0) (qk_nil))) (qa_cons (qe_mkxK1 (oex_of (T.xc "BadBook" (by decide +kernel)) (T.xi "BadBook" (by decide +kernel))) (T.meth "BadBook" "__init__" (by decide +kernel)).at_ (isFn_ty (T.meth "BadBook" "__init__" (by decide +kernel)).fn) (x_BadBook T) (hr.mono (by decide)) (xk_BadBook T) (T.glo "BadBook" (by decide +kernel)) (qk_cons (qv 0) (qk_nil))) (qa_cons (qe_mkxK1 (oex_of (T.xc "BadBoard" (by decide +kernel)) (T.xi "BadBoard" (by decide +kernel))) (T.meth "BadBoard" "__init__" (by decide +kernel)).at_ (isFn_ty (T.meth "BadBoard" "__init__" (by decide +kernel)).fn) (x_BadBoard T) (hr.mono (by decide)) (xk_BadBoard T) (T.glo "BadBoard" (by decide +kernel)) (qk_cons (qv 0) (qk_nil))) (qa_cons (qe_mkxK1 (oex_of (T.xc "BadSum" (by decide +kernel)) (T.xi "BadSum" (by decide +kernel))) (T.meth "BadSum" "__init__" (by decide +kernel)).at_ (isFn_ty (T.meth "BadSum" "__init__" (by decide +kernel)).fn) (x_BadSum T) (hr.mono (by decide)) (xk_BadSum T) (T.glo "BadSum" (by decide +kernel)) (qk_cons (qv 0) (qk_nil))) qa_nil))))))) sc_law_named.nd) (qs_cons (qs_set 1 (qe_bin (of_add) (qv 1) (qe_lst (qa_cons (qe_mkxK1 (oex_of (T.xc "BadShape" (by decide +kernel)) (T.xi "BadShape" (by decide +kernel))) (T.meth "BadShape" "__init__" (by decide +kernel)).at_ (isFn_ty (T.meth "BadShape" "__init__" (by decide +kernel)).fn) (x_BadShape T) (hr.mono (by decide)) (xk_BadShape T) (T.glo "BadShape" (by decide +kernel)) (qk_cons (qv 0) (qk_nil))) (qa_cons (qe_mkxK1 (oex_of (T.xc "BadRoad" (by decide +kernel)) (T.xi "BadRoad" (by decide +kernel))) (T.meth "BadRoad" "__init__" (by decide +kernel)).at_ (isFn_ty (T.meth "BadRoad" "__init__" (by decide +kernel)).fn) (x_BadRoad T) (hr.mono (by decide)) (xk_BadRoad T) (T.glo "BadRoad" (by decide +kernel)) (qk_cons (qv 0) (qk_nil))) (qa_cons (qe_mkxK1 (oex_of (T.xc "BadClaim" (by decide +kernel)) (T.xi "BadClaim" (by decide +kernel))) (T.meth "BadClaim" "__init__" (by decide +kernel)).at_ (isFn_ty (T.meth "BadClaim" "__init__" (by decide +kernel)).fn) (x_BadClaim T) (hr.mono (by decide)) (xk_BadClaim T) (T.glo "BadClaim" (by decide +kernel)) (qk_cons (qv 0) (qk_nil))) (qa_cons (qe_mkxK1 (oex_of (T.xc "BadRow" (by decide +kernel)) (T.xi "BadRow" (by decide +kernel))) (T.meth "BadRow" "__init__" (by decide +kernel)).at_ (isFn_ty (T.meth "BadRow" "__init__" (by decide +kernel)).fn) (x_BadRow T) (hr.mono (by decide)) (xk_BadRow T) (T.glo "BadRow" (by decide +kernel)) (qk_cons (qv 0) (qk_nil))) (qa_cons (qe_mkxK1 (oex_of (T.xc "BadLine" (by decide +kernel)) (T.xi "BadLine" (by decide +kernel))) (T.meth "BadLine" "__init__" (by decide +kernel)).at_ (isFn_ty (T.meth "BadLine" "__init__" (by decide +kernel)).fn) (x_BadLine T) (hr.mono (by decide)) (xk_BadLine T) (T.glo "BadLine" (by decide +kernel)) (qk_cons (qv 0) (qk_nil))) qa_nil))))))) sc_law_named.nd) (qs_cons (qs_ret (qe_bin (of_add) (qv 1) (qe_lst (qa_cons (qe_mkxK1 (oex_of (T.xc "NoLap" (by decide +kernel)) (T.xi "NoLap" (by decide +kernel))) (T.meth "NoLap" "__init__" (by decide +kernel)).at_ (isFn_ty (T.meth "NoLap" "__init__" (by decide +kernel)).fn) (x_NoLap T) (hr.mono (by decide)) (xk_NoLap T) (T.glo "NoLap" (by decide +kernel)) (qk_cons (qv 0) (qk_nil))) (qa_cons (qe_mkxK1 (oex_of (T.xc "NoEnd" (by decide +kernel)) (T.xi "NoEnd" (by decide +kernel))) (T.meth "NoEnd" "__init__" (by decide +kernel)).at_ (isFn_ty (T.meth "NoEnd" "__init__" (by decide +kernel)).fn) (x_NoEnd T) (hr.mono (by decide)) (xk_NoEnd T) (T.glo "NoEnd" (by decide +kernel)) (qk_cons (qv 0) (qk_nil))) (qa_cons (qe_mkxK1 (oex_of (T.xc "NoName" (by decide +kernel)) (T.xi "NoName" (by decide +kernel))) (T.meth "NoName" "__init__" (by decide +kernel)).at_ (isFn_ty (T.meth "NoName" "__init__" (by decide +kernel)).fn) (x_NoName T) (hr.mono (by decide)) (xk_NoName T) (T.glo "NoName" (by decide +kernel)) (qk_cons (qv 0) (qk_nil))) qa_nil)))))) qs_nil))))
theorem xf_name {X : Cx} (T : TX X.K X.mg) : ∀ c ∈ ["NoName"], XC X.K (He.ga X.K (Str.ofString c)) ∧ PySem.W.findIn X.K (.ref (He.ga X.K (Str.ofString c))) (Str.ofString "name") = some none := by
  intro c h
  simp only [List.mem_cons, List.not_mem_nil, or_false] at h
  rcases h with rfl
  · exact ⟨T.xc "NoName" (by decide +kernel), T.nf "NoName" "name" (by decide +kernel)⟩
theorem xf_pit {X : Cx} (T : TX X.K X.mg) : ∀ c ∈ ["NoLap", "NoPlayer", "Empty"], XC X.K (He.ga X.K (Str.ofString c)) ∧ PySem.W.findIn X.K (.ref (He.ga X.K (Str.ofString c))) (Str.ofString "pit") = some none := by
  intro c h
  simp only [List.mem_cons, List.not_mem_nil, or_false] at h
  rcases h with rfl | rfl | rfl
  · exact ⟨T.xc "NoLap" (by decide +kernel), T.nf "NoLap" "pit" (by decide +kernel)⟩
  · exact ⟨T.xc "NoPlayer" (by decide +kernel), T.nf "NoPlayer" "pit" (by decide +kernel)⟩
  · exact ⟨T.xc "Empty" (by decide +kernel), T.nf "Empty" "pit" (by decide +kernel)⟩
theorem xf_word {X : Cx} (T : TX X.K X.mg) : ∀ c ∈ ["BadLine", "BadText"], XC X.K (He.ga X.K (Str.ofString c)) ∧ PySem.W.findIn X.K (.ref (He.ga X.K (Str.ofString c))) (Str.ofString "word") = some none := by
  intro c h
  simp only [List.mem_cons, List.not_mem_nil, or_false] at h
  rcases h with rfl | rfl
  · exact ⟨T.xc "BadLine" (by decide +kernel), T.nf "BadLine" "word" (by decide +kernel)⟩
  · exact ⟨T.xc "BadText" (by decide +kernel), T.nf "BadText" "word" (by decide +kernel)⟩
theorem xf_at {X : Cx} (T : TX X.K X.mg) : ∀ c ∈ ["CannotMove", "BadRow", "NoEnd"], XC X.K (He.ga X.K (Str.ofString c)) ∧ PySem.W.findIn X.K (.ref (He.ga X.K (Str.ofString c))) (Str.ofString "at") = some none := by
  intro c h
  simp only [List.mem_cons, List.not_mem_nil, or_false] at h
  rcases h with rfl | rfl | rfl
  · exact ⟨T.xc "CannotMove" (by decide +kernel), T.nf "CannotMove" "at" (by decide +kernel)⟩
  · exact ⟨T.xc "BadRow" (by decide +kernel), T.nf "BadRow" "at" (by decide +kernel)⟩
  · exact ⟨T.xc "NoEnd" (by decide +kernel), T.nf "NoEnd" "at" (by decide +kernel)⟩
theorem xf_part {X : Cx} (T : TX X.K X.mg) : ∀ c ∈ ["BadRing", "BadEnd", "BadBook", "BadBoard", "BadSum", "BadShape", "BadRoad", "BadClaim"], XC X.K (He.ga X.K (Str.ofString c)) ∧ PySem.W.findIn X.K (.ref (He.ga X.K (Str.ofString c))) (Str.ofString "part") = some none := by
  intro c h
  simp only [List.mem_cons, List.not_mem_nil, or_false] at h
  rcases h with rfl | rfl | rfl | rfl | rfl | rfl | rfl | rfl
  · exact ⟨T.xc "BadRing" (by decide +kernel), T.nf "BadRing" "part" (by decide +kernel)⟩
  · exact ⟨T.xc "BadEnd" (by decide +kernel), T.nf "BadEnd" "part" (by decide +kernel)⟩
  · exact ⟨T.xc "BadBook" (by decide +kernel), T.nf "BadBook" "part" (by decide +kernel)⟩
  · exact ⟨T.xc "BadBoard" (by decide +kernel), T.nf "BadBoard" "part" (by decide +kernel)⟩
  · exact ⟨T.xc "BadSum" (by decide +kernel), T.nf "BadSum" "part" (by decide +kernel)⟩
  · exact ⟨T.xc "BadShape" (by decide +kernel), T.nf "BadShape" "part" (by decide +kernel)⟩
  · exact ⟨T.xc "BadRoad" (by decide +kernel), T.nf "BadRoad" "part" (by decide +kernel)⟩
  · exact ⟨T.xc "BadClaim" (by decide +kernel), T.nf "BadClaim" "part" (by decide +kernel)⟩
theorem xf_value {X : Cx} (T : TX X.K X.mg) : ∀ c ∈ ["BadHeld", "BadPlayer", "BadPit", "BadNumber", "BadTurn"], XC X.K (He.ga X.K (Str.ofString c)) ∧ PySem.W.findIn X.K (.ref (He.ga X.K (Str.ofString c))) (Str.ofString "value") = some none := by
  intro c h
  simp only [List.mem_cons, List.not_mem_nil, or_false] at h
  rcases h with rfl | rfl | rfl | rfl | rfl
  · exact ⟨T.xc "BadHeld" (by decide +kernel), T.nf "BadHeld" "value" (by decide +kernel)⟩
  · exact ⟨T.xc "BadPlayer" (by decide +kernel), T.nf "BadPlayer" "value" (by decide +kernel)⟩
  · exact ⟨T.xc "BadPit" (by decide +kernel), T.nf "BadPit" "value" (by decide +kernel)⟩
  · exact ⟨T.xc "BadNumber" (by decide +kernel), T.nf "BadNumber" "value" (by decide +kernel)⟩
  · exact ⟨T.xc "BadTurn" (by decide +kernel), T.nf "BadTurn" "value" (by decide +kernel)⟩
abbrev N_law_field : List Str := ["_law_error", "_law_kind"]
theorem sc_law_field : FnScope N_law_field ["_law_error", "_law_kind"] (defScope s_law_field) := ⟨rfl, rfl, rfl, by decide +kernel, rfl, by decide +kernel, by decide +kernel⟩
noncomputable def F_law_field : Fn := dfn 2 2 (sSeq (sIf (tst (bin (eqG false) (v 1) (k (.str "value")))) (sSeq (sRet (una (fldX ["BadHeld", "BadPlayer", "BadPit", "BadNumber", "BadTurn"] "value" fun _ _ => .no) (v 0))) sNil) sNil) (sSeq (sIf (tst (bin (eqG false) (v 1) (k (.str "part")))) (sSeq (sRet (una (fldX ["BadRing", "BadEnd", "BadBook", "BadBoard", "BadSum", "BadShape", "BadRoad", "BadClaim"] "part" fun _ _ => .no) (v 0))) sNil) sNil) (sSeq (sIf (tst (bin (eqG false) (v 1) (k (.str "at")))) (sSeq (sRet (una (fldX ["CannotMove", "BadRow", "NoEnd"] "at" fun _ _ => .no) (v 0))) sNil) sNil) (sSeq (sIf (tst (bin (eqG false) (v 1) (k (.str "word")))) (sSeq (sRet (una (fldX ["BadLine", "BadText"] "word" fun _ _ => .no) (v 0))) sNil) sNil) (sSeq (sIf (tst (bin (eqG false) (v 1) (k (.str "pit")))) (sSeq (sRet (una (fldX ["NoLap", "NoPlayer", "Empty"] "pit" fun _ _ => .no) (v 0))) sNil) sNil) (sSeq (sRet (una (fldX ["NoName"] "name" fun _ _ => .no) (v 0))) sNil))))))
theorem w_law_field (T : TX K mg) : FnFG P w K mg base 1 (He.ga K "_law_field") F_law_field := by
  obtain ⟨fd, F⟩ := T.says.def_ 6
  exact okFG (j := 0) (st := s_law_field) F sc_law_field rfl rfl (fun _ _ _ _ _ _ us hl => match us, hl with | [_, _], _ => rfl) (fun cdv A outer s H E hgd hr => qs_cons (qs_if (qt_cmp (of_eq hr.units) (qv 1) qk_str) (qs_cons (qs_ret (qe_fldX (xf_value T) (qv 0))) qs_nil) qs_nil) (qs_cons (qs_if (qt_cmp (of_eq hr.units) (qv 1) qk_str) (qs_cons (qs_ret (qe_fldX (xf_part T) (qv 0))) qs_nil) qs_nil) (qs_cons (qs_if (qt_cmp (of_eq hr.units) (qv 1) qk_str) (qs_cons (qs_ret (qe_fldX (xf_at T) (qv 0))) qs_nil) qs_nil) (qs_cons (qs_if (qt_cmp (of_eq hr.units) (qv 1) qk_str) (qs_cons (qs_ret (qe_fldX (xf_word T) (qv 0))) qs_nil) qs_nil) (qs_cons (qs_if (qt_cmp (of_eq hr.units) (qv 1) qk_str) (qs_cons (qs_ret (qe_fldX (xf_pit T) (qv 0))) qs_nil) qs_nil) (qs_cons (qs_ret (qe_fldX (xf_name T) (qv 0))) qs_nil))))))
theorem cc_Empty {X : Cx} (T : TX X.K X.mg) : CallF X (.builtin "isinstance") (isiF (isiC []) (isCl "Empty")) := by
  refine cf_isiC (fun n h => kt_six T "Empty" (by decide +kernel) n h) fun c b h => ?_
  cases h
theorem ix_Empty {X : Cx} (T : TX X.K X.mg) : CallF X (.builtin "isinstance") (isiX [("CannotMove", false), ("BadHeld", false), ("BadPlayer", false), ("BadPit", false), ("BadNumber", false), ("BadTurn", false), ("BadRing", false), ("BadEnd", false), ("BadBook", false), ("BadBoard", false), ("BadSum", false), ("BadShape", false), ("BadRoad", false), ("BadClaim", false), ("BadRow", false), ("BadLine", false), ("NoLap", false), ("NoEnd", false), ("NoName", false), ("BadText", false), ("TooMany", false), ("Unlike", false), ("Nothing", false), ("NotWhole", false), ("Cause", false), ("NoPlayer", false), ("OutOfTurn", false), ("Empty", true)] (isCl "Empty") (isiF (isiC []) (isCl "Empty"))) := by
  refine cf_isiX (cc_Empty T) (fun c h G v r => by cases r <;> simp [isCl] at h; subst h; exact .own _) T.cg T.ct fun c b h => ?_
  have h := memLk h
  have hh := List.all_eq_true.mp (show ([("CannotMove", false), ("BadHeld", false), ("BadPlayer", false), ("BadPit", false), ("BadNumber", false), ("BadTurn", false), ("BadRing", false), ("BadEnd", false), ("BadBook", false), ("BadBoard", false), ("BadSum", false), ("BadShape", false), ("BadRoad", false), ("BadClaim", false), ("BadRow", false), ("BadLine", false), ("NoLap", false), ("NoEnd", false), ("NoName", false), ("BadText", false), ("TooMany", false), ("Unlike", false), ("Nothing", false), ("NotWhole", false), ("Cause", false), ("NoPlayer", false), ("OutOfTurn", false), ("Empty", true)] : List (String × Bool)).all (fun p => decide (Str.ofString p.1 ∈ xcs) && decide ((Str.ofString p.1, Str.ofString "Empty", p.2) ∈ kitos)) = true by decide +kernel) (c, b) h
  simp only [Bool.and_eq_true, decide_eq_true_eq] at hh
  exact ⟨T.xc (Str.ofString c) hh.1, T.ko (Str.ofString c) (Str.ofString "Empty") b hh.2⟩
theorem cc_OutOfTurn {X : Cx} (T : TX X.K X.mg) : CallF X (.builtin "isinstance") (isiF (isiC []) (isCl "OutOfTurn")) := by
  refine cf_isiC (fun n h => kt_six T "OutOfTurn" (by decide +kernel) n h) fun c b h => ?_
  cases h
theorem ix_OutOfTurn {X : Cx} (T : TX X.K X.mg) : CallF X (.builtin "isinstance") (isiX [("CannotMove", false), ("BadHeld", false), ("BadPlayer", false), ("BadPit", false), ("BadNumber", false), ("BadTurn", false), ("BadRing", false), ("BadEnd", false), ("BadBook", false), ("BadBoard", false), ("BadSum", false), ("BadShape", false), ("BadRoad", false), ("BadClaim", false), ("BadRow", false), ("BadLine", false), ("NoLap", false), ("NoEnd", false), ("NoName", false), ("BadText", false), ("TooMany", false), ("Unlike", false), ("Nothing", false), ("NotWhole", false), ("Cause", false), ("NoPlayer", false), ("OutOfTurn", true), ("Empty", false)] (isCl "OutOfTurn") (isiF (isiC []) (isCl "OutOfTurn"))) := by
  refine cf_isiX (cc_OutOfTurn T) (fun c h G v r => by cases r <;> simp [isCl] at h; subst h; exact .own _) T.cg T.ct fun c b h => ?_
  have h := memLk h
  have hh := List.all_eq_true.mp (show ([("CannotMove", false), ("BadHeld", false), ("BadPlayer", false), ("BadPit", false), ("BadNumber", false), ("BadTurn", false), ("BadRing", false), ("BadEnd", false), ("BadBook", false), ("BadBoard", false), ("BadSum", false), ("BadShape", false), ("BadRoad", false), ("BadClaim", false), ("BadRow", false), ("BadLine", false), ("NoLap", false), ("NoEnd", false), ("NoName", false), ("BadText", false), ("TooMany", false), ("Unlike", false), ("Nothing", false), ("NotWhole", false), ("Cause", false), ("NoPlayer", false), ("OutOfTurn", true), ("Empty", false)] : List (String × Bool)).all (fun p => decide (Str.ofString p.1 ∈ xcs) && decide ((Str.ofString p.1, Str.ofString "OutOfTurn", p.2) ∈ kitos)) = true by decide +kernel) (c, b) h
  simp only [Bool.and_eq_true, decide_eq_true_eq] at hh
  exact ⟨T.xc (Str.ofString c) hh.1, T.ko (Str.ofString c) (Str.ofString "OutOfTurn") b hh.2⟩
theorem cc_NoPlayer {X : Cx} (T : TX X.K X.mg) : CallF X (.builtin "isinstance") (isiF (isiC []) (isCl "NoPlayer")) := by
  refine cf_isiC (fun n h => kt_six T "NoPlayer" (by decide +kernel) n h) fun c b h => ?_
  cases h
theorem ix_NoPlayer {X : Cx} (T : TX X.K X.mg) : CallF X (.builtin "isinstance") (isiX [("CannotMove", false), ("BadHeld", false), ("BadPlayer", false), ("BadPit", false), ("BadNumber", false), ("BadTurn", false), ("BadRing", false), ("BadEnd", false), ("BadBook", false), ("BadBoard", false), ("BadSum", false), ("BadShape", false), ("BadRoad", false), ("BadClaim", false), ("BadRow", false), ("BadLine", false), ("NoLap", false), ("NoEnd", false), ("NoName", false), ("BadText", false), ("TooMany", false), ("Unlike", false), ("Nothing", false), ("NotWhole", false), ("Cause", false), ("NoPlayer", true), ("OutOfTurn", false), ("Empty", false)] (isCl "NoPlayer") (isiF (isiC []) (isCl "NoPlayer"))) := by
  refine cf_isiX (cc_NoPlayer T) (fun c h G v r => by cases r <;> simp [isCl] at h; subst h; exact .own _) T.cg T.ct fun c b h => ?_
  have h := memLk h
  have hh := List.all_eq_true.mp (show ([("CannotMove", false), ("BadHeld", false), ("BadPlayer", false), ("BadPit", false), ("BadNumber", false), ("BadTurn", false), ("BadRing", false), ("BadEnd", false), ("BadBook", false), ("BadBoard", false), ("BadSum", false), ("BadShape", false), ("BadRoad", false), ("BadClaim", false), ("BadRow", false), ("BadLine", false), ("NoLap", false), ("NoEnd", false), ("NoName", false), ("BadText", false), ("TooMany", false), ("Unlike", false), ("Nothing", false), ("NotWhole", false), ("Cause", false), ("NoPlayer", true), ("OutOfTurn", false), ("Empty", false)] : List (String × Bool)).all (fun p => decide (Str.ofString p.1 ∈ xcs) && decide ((Str.ofString p.1, Str.ofString "NoPlayer", p.2) ∈ kitos)) = true by decide +kernel) (c, b) h
  simp only [Bool.and_eq_true, decide_eq_true_eq] at hh
  exact ⟨T.xc (Str.ofString c) hh.1, T.ko (Str.ofString c) (Str.ofString "NoPlayer") b hh.2⟩
theorem cc_Cause {X : Cx} (T : TX X.K X.mg) : CallF X (.builtin "isinstance") (isiF (isiC []) (isCl "Cause")) := by
  refine cf_isiC (fun n h => kt_six T "Cause" (by decide +kernel) n h) fun c b h => ?_
  cases h
theorem ix_Cause {X : Cx} (T : TX X.K X.mg) : CallF X (.builtin "isinstance") (isiX [("CannotMove", false), ("BadHeld", false), ("BadPlayer", false), ("BadPit", false), ("BadNumber", false), ("BadTurn", false), ("BadRing", false), ("BadEnd", false), ("BadBook", false), ("BadBoard", false), ("BadSum", false), ("BadShape", false), ("BadRoad", false), ("BadClaim", false), ("BadRow", false), ("BadLine", false), ("NoLap", false), ("NoEnd", false), ("NoName", false), ("BadText", false), ("TooMany", false), ("Unlike", false), ("Nothing", false), ("NotWhole", false), ("Cause", true), ("NoPlayer", true), ("OutOfTurn", true), ("Empty", true)] (isCl "Cause") (isiF (isiC []) (isCl "Cause"))) := by
  refine cf_isiX (cc_Cause T) (fun c h G v r => by cases r <;> simp [isCl] at h; subst h; exact .own _) T.cg T.ct fun c b h => ?_
  have h := memLk h
  have hh := List.all_eq_true.mp (show ([("CannotMove", false), ("BadHeld", false), ("BadPlayer", false), ("BadPit", false), ("BadNumber", false), ("BadTurn", false), ("BadRing", false), ("BadEnd", false), ("BadBook", false), ("BadBoard", false), ("BadSum", false), ("BadShape", false), ("BadRoad", false), ("BadClaim", false), ("BadRow", false), ("BadLine", false), ("NoLap", false), ("NoEnd", false), ("NoName", false), ("BadText", false), ("TooMany", false), ("Unlike", false), ("Nothing", false), ("NotWhole", false), ("Cause", true), ("NoPlayer", true), ("OutOfTurn", true), ("Empty", true)] : List (String × Bool)).all (fun p => decide (Str.ofString p.1 ∈ xcs) && decide ((Str.ofString p.1, Str.ofString "Cause", p.2) ∈ kitos)) = true by decide +kernel) (c, b) h
  simp only [Bool.and_eq_true, decide_eq_true_eq] at hh
  exact ⟨T.xc (Str.ofString c) hh.1, T.ko (Str.ofString c) (Str.ofString "Cause") b hh.2⟩
theorem cc_NotWhole {X : Cx} (T : TX X.K X.mg) : CallF X (.builtin "isinstance") (isiF (isiC []) (isCl "NotWhole")) := by
  refine cf_isiC (fun n h => kt_six T "NotWhole" (by decide +kernel) n h) fun c b h => ?_
  cases h
theorem ix_NotWhole {X : Cx} (T : TX X.K X.mg) : CallF X (.builtin "isinstance") (isiX [("CannotMove", false), ("BadHeld", false), ("BadPlayer", false), ("BadPit", false), ("BadNumber", false), ("BadTurn", false), ("BadRing", false), ("BadEnd", false), ("BadBook", false), ("BadBoard", false), ("BadSum", false), ("BadShape", false), ("BadRoad", false), ("BadClaim", false), ("BadRow", false), ("BadLine", false), ("NoLap", false), ("NoEnd", false), ("NoName", false), ("BadText", false), ("TooMany", false), ("Unlike", false), ("Nothing", false), ("NotWhole", true), ("Cause", false), ("NoPlayer", false), ("OutOfTurn", false), ("Empty", false)] (isCl "NotWhole") (isiF (isiC []) (isCl "NotWhole"))) := by
  refine cf_isiX (cc_NotWhole T) (fun c h G v r => by cases r <;> simp [isCl] at h; subst h; exact .own _) T.cg T.ct fun c b h => ?_
  have h := memLk h
  have hh := List.all_eq_true.mp (show ([("CannotMove", false), ("BadHeld", false), ("BadPlayer", false), ("BadPit", false), ("BadNumber", false), ("BadTurn", false), ("BadRing", false), ("BadEnd", false), ("BadBook", false), ("BadBoard", false), ("BadSum", false), ("BadShape", false), ("BadRoad", false), ("BadClaim", false), ("BadRow", false), ("BadLine", false), ("NoLap", false), ("NoEnd", false), ("NoName", false), ("BadText", false), ("TooMany", false), ("Unlike", false), ("Nothing", false), ("NotWhole", true), ("Cause", false), ("NoPlayer", false), ("OutOfTurn", false), ("Empty", false)] : List (String × Bool)).all (fun p => decide (Str.ofString p.1 ∈ xcs) && decide ((Str.ofString p.1, Str.ofString "NotWhole", p.2) ∈ kitos)) = true by decide +kernel) (c, b) h
  simp only [Bool.and_eq_true, decide_eq_true_eq] at hh
  exact ⟨T.xc (Str.ofString c) hh.1, T.ko (Str.ofString c) (Str.ofString "NotWhole") b hh.2⟩
theorem cc_Nothing {X : Cx} (T : TX X.K X.mg) : CallF X (.builtin "isinstance") (isiF (isiC []) (isCl "Nothing")) := by
  refine cf_isiC (fun n h => kt_six T "Nothing" (by decide +kernel) n h) fun c b h => ?_
  cases h
theorem ix_Nothing {X : Cx} (T : TX X.K X.mg) : CallF X (.builtin "isinstance") (isiX [("CannotMove", false), ("BadHeld", false), ("BadPlayer", false), ("BadPit", false), ("BadNumber", false), ("BadTurn", false), ("BadRing", false), ("BadEnd", false), ("BadBook", false), ("BadBoard", false), ("BadSum", false), ("BadShape", false), ("BadRoad", false), ("BadClaim", false), ("BadRow", false), ("BadLine", false), ("NoLap", false), ("NoEnd", false), ("NoName", false), ("BadText", false), ("TooMany", false), ("Unlike", false), ("Nothing", true), ("NotWhole", false), ("Cause", false), ("NoPlayer", false), ("OutOfTurn", false), ("Empty", false)] (isCl "Nothing") (isiF (isiC []) (isCl "Nothing"))) := by
  refine cf_isiX (cc_Nothing T) (fun c h G v r => by cases r <;> simp [isCl] at h; subst h; exact .own _) T.cg T.ct fun c b h => ?_
  have h := memLk h
  have hh := List.all_eq_true.mp (show ([("CannotMove", false), ("BadHeld", false), ("BadPlayer", false), ("BadPit", false), ("BadNumber", false), ("BadTurn", false), ("BadRing", false), ("BadEnd", false), ("BadBook", false), ("BadBoard", false), ("BadSum", false), ("BadShape", false), ("BadRoad", false), ("BadClaim", false), ("BadRow", false), ("BadLine", false), ("NoLap", false), ("NoEnd", false), ("NoName", false), ("BadText", false), ("TooMany", false), ("Unlike", false), ("Nothing", true), ("NotWhole", false), ("Cause", false), ("NoPlayer", false), ("OutOfTurn", false), ("Empty", false)] : List (String × Bool)).all (fun p => decide (Str.ofString p.1 ∈ xcs) && decide ((Str.ofString p.1, Str.ofString "Nothing", p.2) ∈ kitos)) = true by decide +kernel) (c, b) h
  simp only [Bool.and_eq_true, decide_eq_true_eq] at hh
  exact ⟨T.xc (Str.ofString c) hh.1, T.ko (Str.ofString c) (Str.ofString "Nothing") b hh.2⟩
theorem cc_Unlike {X : Cx} (T : TX X.K X.mg) : CallF X (.builtin "isinstance") (isiF (isiC []) (isCl "Unlike")) := by
  refine cf_isiC (fun n h => kt_six T "Unlike" (by decide +kernel) n h) fun c b h => ?_
  cases h
theorem ix_Unlike {X : Cx} (T : TX X.K X.mg) : CallF X (.builtin "isinstance") (isiX [("CannotMove", false), ("BadHeld", false), ("BadPlayer", false), ("BadPit", false), ("BadNumber", false), ("BadTurn", false), ("BadRing", false), ("BadEnd", false), ("BadBook", false), ("BadBoard", false), ("BadSum", false), ("BadShape", false), ("BadRoad", false), ("BadClaim", false), ("BadRow", false), ("BadLine", false), ("NoLap", false), ("NoEnd", false), ("NoName", false), ("BadText", false), ("TooMany", false), ("Unlike", true), ("Nothing", false), ("NotWhole", false), ("Cause", false), ("NoPlayer", false), ("OutOfTurn", false), ("Empty", false)] (isCl "Unlike") (isiF (isiC []) (isCl "Unlike"))) := by
  refine cf_isiX (cc_Unlike T) (fun c h G v r => by cases r <;> simp [isCl] at h; subst h; exact .own _) T.cg T.ct fun c b h => ?_
  have h := memLk h
  have hh := List.all_eq_true.mp (show ([("CannotMove", false), ("BadHeld", false), ("BadPlayer", false), ("BadPit", false), ("BadNumber", false), ("BadTurn", false), ("BadRing", false), ("BadEnd", false), ("BadBook", false), ("BadBoard", false), ("BadSum", false), ("BadShape", false), ("BadRoad", false), ("BadClaim", false), ("BadRow", false), ("BadLine", false), ("NoLap", false), ("NoEnd", false), ("NoName", false), ("BadText", false), ("TooMany", false), ("Unlike", true), ("Nothing", false), ("NotWhole", false), ("Cause", false), ("NoPlayer", false), ("OutOfTurn", false), ("Empty", false)] : List (String × Bool)).all (fun p => decide (Str.ofString p.1 ∈ xcs) && decide ((Str.ofString p.1, Str.ofString "Unlike", p.2) ∈ kitos)) = true by decide +kernel) (c, b) h
  simp only [Bool.and_eq_true, decide_eq_true_eq] at hh
  exact ⟨T.xc (Str.ofString c) hh.1, T.ko (Str.ofString c) (Str.ofString "Unlike") b hh.2⟩
theorem cc_CannotMove {X : Cx} (T : TX X.K X.mg) : CallF X (.builtin "isinstance") (isiF (isiC []) (isCl "CannotMove")) := by
  refine cf_isiC (fun n h => kt_six T "CannotMove" (by decide +kernel) n h) fun c b h => ?_
  cases h
theorem ix_CannotMove {X : Cx} (T : TX X.K X.mg) : CallF X (.builtin "isinstance") (isiX [("CannotMove", true), ("BadHeld", false), ("BadPlayer", false), ("BadPit", false), ("BadNumber", false), ("BadTurn", false), ("BadRing", false), ("BadEnd", false), ("BadBook", false), ("BadBoard", false), ("BadSum", false), ("BadShape", false), ("BadRoad", false), ("BadClaim", false), ("BadRow", false), ("BadLine", false), ("NoLap", false), ("NoEnd", false), ("NoName", false), ("BadText", false), ("TooMany", false), ("Unlike", false), ("Nothing", false), ("NotWhole", false), ("Cause", false), ("NoPlayer", false), ("OutOfTurn", false), ("Empty", false)] (isCl "CannotMove") (isiF (isiC []) (isCl "CannotMove"))) := by
  refine cf_isiX (cc_CannotMove T) (fun c h G v r => by cases r <;> simp [isCl] at h; subst h; exact .own _) T.cg T.ct fun c b h => ?_
  have h := memLk h
  have hh := List.all_eq_true.mp (show ([("CannotMove", true), ("BadHeld", false), ("BadPlayer", false), ("BadPit", false), ("BadNumber", false), ("BadTurn", false), ("BadRing", false), ("BadEnd", false), ("BadBook", false), ("BadBoard", false), ("BadSum", false), ("BadShape", false), ("BadRoad", false), ("BadClaim", false), ("BadRow", false), ("BadLine", false), ("NoLap", false), ("NoEnd", false), ("NoName", false), ("BadText", false), ("TooMany", false), ("Unlike", false), ("Nothing", false), ("NotWhole", false), ("Cause", false), ("NoPlayer", false), ("OutOfTurn", false), ("Empty", false)] : List (String × Bool)).all (fun p => decide (Str.ofString p.1 ∈ xcs) && decide ((Str.ofString p.1, Str.ofString "CannotMove", p.2) ∈ kitos)) = true by decide +kernel) (c, b) h
  simp only [Bool.and_eq_true, decide_eq_true_eq] at hh
  exact ⟨T.xc (Str.ofString c) hh.1, T.ko (Str.ofString c) (Str.ofString "CannotMove") b hh.2⟩
theorem cc_TooMany {X : Cx} (T : TX X.K X.mg) : CallF X (.builtin "isinstance") (isiF (isiC []) (isCl "TooMany")) := by
  refine cf_isiC (fun n h => kt_six T "TooMany" (by decide +kernel) n h) fun c b h => ?_
  cases h
theorem ix_TooMany {X : Cx} (T : TX X.K X.mg) : CallF X (.builtin "isinstance") (isiX [("CannotMove", false), ("BadHeld", false), ("BadPlayer", false), ("BadPit", false), ("BadNumber", false), ("BadTurn", false), ("BadRing", false), ("BadEnd", false), ("BadBook", false), ("BadBoard", false), ("BadSum", false), ("BadShape", false), ("BadRoad", false), ("BadClaim", false), ("BadRow", false), ("BadLine", false), ("NoLap", false), ("NoEnd", false), ("NoName", false), ("BadText", false), ("TooMany", true), ("Unlike", false), ("Nothing", false), ("NotWhole", false), ("Cause", false), ("NoPlayer", false), ("OutOfTurn", false), ("Empty", false)] (isCl "TooMany") (isiF (isiC []) (isCl "TooMany"))) := by
  refine cf_isiX (cc_TooMany T) (fun c h G v r => by cases r <;> simp [isCl] at h; subst h; exact .own _) T.cg T.ct fun c b h => ?_
  have h := memLk h
  have hh := List.all_eq_true.mp (show ([("CannotMove", false), ("BadHeld", false), ("BadPlayer", false), ("BadPit", false), ("BadNumber", false), ("BadTurn", false), ("BadRing", false), ("BadEnd", false), ("BadBook", false), ("BadBoard", false), ("BadSum", false), ("BadShape", false), ("BadRoad", false), ("BadClaim", false), ("BadRow", false), ("BadLine", false), ("NoLap", false), ("NoEnd", false), ("NoName", false), ("BadText", false), ("TooMany", true), ("Unlike", false), ("Nothing", false), ("NotWhole", false), ("Cause", false), ("NoPlayer", false), ("OutOfTurn", false), ("Empty", false)] : List (String × Bool)).all (fun p => decide (Str.ofString p.1 ∈ xcs) && decide ((Str.ofString p.1, Str.ofString "TooMany", p.2) ∈ kitos)) = true by decide +kernel) (c, b) h
  simp only [Bool.and_eq_true, decide_eq_true_eq] at hh
  exact ⟨T.xc (Str.ofString c) hh.1, T.ko (Str.ofString c) (Str.ofString "TooMany") b hh.2⟩
theorem cc_BadText {X : Cx} (T : TX X.K X.mg) : CallF X (.builtin "isinstance") (isiF (isiC []) (isCl "BadText")) := by
  refine cf_isiC (fun n h => kt_six T "BadText" (by decide +kernel) n h) fun c b h => ?_
  cases h
theorem ix_BadText {X : Cx} (T : TX X.K X.mg) : CallF X (.builtin "isinstance") (isiX [("CannotMove", false), ("BadHeld", false), ("BadPlayer", false), ("BadPit", false), ("BadNumber", false), ("BadTurn", false), ("BadRing", false), ("BadEnd", false), ("BadBook", false), ("BadBoard", false), ("BadSum", false), ("BadShape", false), ("BadRoad", false), ("BadClaim", false), ("BadRow", false), ("BadLine", false), ("NoLap", false), ("NoEnd", false), ("NoName", false), ("BadText", true), ("TooMany", false), ("Unlike", false), ("Nothing", false), ("NotWhole", false), ("Cause", false), ("NoPlayer", false), ("OutOfTurn", false), ("Empty", false)] (isCl "BadText") (isiF (isiC []) (isCl "BadText"))) := by
  refine cf_isiX (cc_BadText T) (fun c h G v r => by cases r <;> simp [isCl] at h; subst h; exact .own _) T.cg T.ct fun c b h => ?_
  have h := memLk h
  have hh := List.all_eq_true.mp (show ([("CannotMove", false), ("BadHeld", false), ("BadPlayer", false), ("BadPit", false), ("BadNumber", false), ("BadTurn", false), ("BadRing", false), ("BadEnd", false), ("BadBook", false), ("BadBoard", false), ("BadSum", false), ("BadShape", false), ("BadRoad", false), ("BadClaim", false), ("BadRow", false), ("BadLine", false), ("NoLap", false), ("NoEnd", false), ("NoName", false), ("BadText", true), ("TooMany", false), ("Unlike", false), ("Nothing", false), ("NotWhole", false), ("Cause", false), ("NoPlayer", false), ("OutOfTurn", false), ("Empty", false)] : List (String × Bool)).all (fun p => decide (Str.ofString p.1 ∈ xcs) && decide ((Str.ofString p.1, Str.ofString "BadText", p.2) ∈ kitos)) = true by decide +kernel) (c, b) h
  simp only [Bool.and_eq_true, decide_eq_true_eq] at hh
  exact ⟨T.xc (Str.ofString c) hh.1, T.ko (Str.ofString c) (Str.ofString "BadText") b hh.2⟩
theorem cc_NoName {X : Cx} (T : TX X.K X.mg) : CallF X (.builtin "isinstance") (isiF (isiC []) (isCl "NoName")) := by
  refine cf_isiC (fun n h => kt_six T "NoName" (by decide +kernel) n h) fun c b h => ?_
  cases h
theorem ix_NoName {X : Cx} (T : TX X.K X.mg) : CallF X (.builtin "isinstance") (isiX [("CannotMove", false), ("BadHeld", false), ("BadPlayer", false), ("BadPit", false), ("BadNumber", false), ("BadTurn", false), ("BadRing", false), ("BadEnd", false), ("BadBook", false), ("BadBoard", false), ("BadSum", false), ("BadShape", false), ("BadRoad", false), ("BadClaim", false), ("BadRow", false), ("BadLine", false), ("NoLap", false), ("NoEnd", false), ("NoName", true), ("BadText", false), ("TooMany", false), ("Unlike", false), ("Nothing", false), ("NotWhole", false), ("Cause", false), ("NoPlayer", false), ("OutOfTurn", false), ("Empty", false)] (isCl "NoName") (isiF (isiC []) (isCl "NoName"))) := by
  refine cf_isiX (cc_NoName T) (fun c h G v r => by cases r <;> simp [isCl] at h; subst h; exact .own _) T.cg T.ct fun c b h => ?_
  have h := memLk h
  have hh := List.all_eq_true.mp (show ([("CannotMove", false), ("BadHeld", false), ("BadPlayer", false), ("BadPit", false), ("BadNumber", false), ("BadTurn", false), ("BadRing", false), ("BadEnd", false), ("BadBook", false), ("BadBoard", false), ("BadSum", false), ("BadShape", false), ("BadRoad", false), ("BadClaim", false), ("BadRow", false), ("BadLine", false), ("NoLap", false), ("NoEnd", false), ("NoName", true), ("BadText", false), ("TooMany", false), ("Unlike", false), ("Nothing", false), ("NotWhole", false), ("Cause", false), ("NoPlayer", false), ("OutOfTurn", false), ("Empty", false)] : List (String × Bool)).all (fun p => decide (Str.ofString p.1 ∈ xcs) && decide ((Str.ofString p.1, Str.ofString "NoName", p.2) ∈ kitos)) = true by decide +kernel) (c, b) h
  simp only [Bool.and_eq_true, decide_eq_true_eq] at hh
  exact ⟨T.xc (Str.ofString c) hh.1, T.ko (Str.ofString c) (Str.ofString "NoName") b hh.2⟩
theorem cc_NoEnd {X : Cx} (T : TX X.K X.mg) : CallF X (.builtin "isinstance") (isiF (isiC []) (isCl "NoEnd")) := by
  refine cf_isiC (fun n h => kt_six T "NoEnd" (by decide +kernel) n h) fun c b h => ?_
  cases h
theorem ix_NoEnd {X : Cx} (T : TX X.K X.mg) : CallF X (.builtin "isinstance") (isiX [("CannotMove", false), ("BadHeld", false), ("BadPlayer", false), ("BadPit", false), ("BadNumber", false), ("BadTurn", false), ("BadRing", false), ("BadEnd", false), ("BadBook", false), ("BadBoard", false), ("BadSum", false), ("BadShape", false), ("BadRoad", false), ("BadClaim", false), ("BadRow", false), ("BadLine", false), ("NoLap", false), ("NoEnd", true), ("NoName", false), ("BadText", false), ("TooMany", false), ("Unlike", false), ("Nothing", false), ("NotWhole", false), ("Cause", false), ("NoPlayer", false), ("OutOfTurn", false), ("Empty", false)] (isCl "NoEnd") (isiF (isiC []) (isCl "NoEnd"))) := by
  refine cf_isiX (cc_NoEnd T) (fun c h G v r => by cases r <;> simp [isCl] at h; subst h; exact .own _) T.cg T.ct fun c b h => ?_
  have h := memLk h
  have hh := List.all_eq_true.mp (show ([("CannotMove", false), ("BadHeld", false), ("BadPlayer", false), ("BadPit", false), ("BadNumber", false), ("BadTurn", false), ("BadRing", false), ("BadEnd", false), ("BadBook", false), ("BadBoard", false), ("BadSum", false), ("BadShape", false), ("BadRoad", false), ("BadClaim", false), ("BadRow", false), ("BadLine", false), ("NoLap", false), ("NoEnd", true), ("NoName", false), ("BadText", false), ("TooMany", false), ("Unlike", false), ("Nothing", false), ("NotWhole", false), ("Cause", false), ("NoPlayer", false), ("OutOfTurn", false), ("Empty", false)] : List (String × Bool)).all (fun p => decide (Str.ofString p.1 ∈ xcs) && decide ((Str.ofString p.1, Str.ofString "NoEnd", p.2) ∈ kitos)) = true by decide +kernel) (c, b) h
  simp only [Bool.and_eq_true, decide_eq_true_eq] at hh
  exact ⟨T.xc (Str.ofString c) hh.1, T.ko (Str.ofString c) (Str.ofString "NoEnd") b hh.2⟩
theorem cc_NoLap {X : Cx} (T : TX X.K X.mg) : CallF X (.builtin "isinstance") (isiF (isiC []) (isCl "NoLap")) := by
  refine cf_isiC (fun n h => kt_six T "NoLap" (by decide +kernel) n h) fun c b h => ?_
  cases h
theorem ix_NoLap {X : Cx} (T : TX X.K X.mg) : CallF X (.builtin "isinstance") (isiX [("CannotMove", false), ("BadHeld", false), ("BadPlayer", false), ("BadPit", false), ("BadNumber", false), ("BadTurn", false), ("BadRing", false), ("BadEnd", false), ("BadBook", false), ("BadBoard", false), ("BadSum", false), ("BadShape", false), ("BadRoad", false), ("BadClaim", false), ("BadRow", false), ("BadLine", false), ("NoLap", true), ("NoEnd", false), ("NoName", false), ("BadText", false), ("TooMany", false), ("Unlike", false), ("Nothing", false), ("NotWhole", false), ("Cause", false), ("NoPlayer", false), ("OutOfTurn", false), ("Empty", false)] (isCl "NoLap") (isiF (isiC []) (isCl "NoLap"))) := by
  refine cf_isiX (cc_NoLap T) (fun c h G v r => by cases r <;> simp [isCl] at h; subst h; exact .own _) T.cg T.ct fun c b h => ?_
  have h := memLk h
  have hh := List.all_eq_true.mp (show ([("CannotMove", false), ("BadHeld", false), ("BadPlayer", false), ("BadPit", false), ("BadNumber", false), ("BadTurn", false), ("BadRing", false), ("BadEnd", false), ("BadBook", false), ("BadBoard", false), ("BadSum", false), ("BadShape", false), ("BadRoad", false), ("BadClaim", false), ("BadRow", false), ("BadLine", false), ("NoLap", true), ("NoEnd", false), ("NoName", false), ("BadText", false), ("TooMany", false), ("Unlike", false), ("Nothing", false), ("NotWhole", false), ("Cause", false), ("NoPlayer", false), ("OutOfTurn", false), ("Empty", false)] : List (String × Bool)).all (fun p => decide (Str.ofString p.1 ∈ xcs) && decide ((Str.ofString p.1, Str.ofString "NoLap", p.2) ∈ kitos)) = true by decide +kernel) (c, b) h
  simp only [Bool.and_eq_true, decide_eq_true_eq] at hh
  exact ⟨T.xc (Str.ofString c) hh.1, T.ko (Str.ofString c) (Str.ofString "NoLap") b hh.2⟩
theorem cc_BadLine {X : Cx} (T : TX X.K X.mg) : CallF X (.builtin "isinstance") (isiF (isiC []) (isCl "BadLine")) := by
  refine cf_isiC (fun n h => kt_six T "BadLine" (by decide +kernel) n h) fun c b h => ?_
  cases h
theorem ix_BadLine {X : Cx} (T : TX X.K X.mg) : CallF X (.builtin "isinstance") (isiX [("CannotMove", false), ("BadHeld", false), ("BadPlayer", false), ("BadPit", false), ("BadNumber", false), ("BadTurn", false), ("BadRing", false), ("BadEnd", false), ("BadBook", false), ("BadBoard", false), ("BadSum", false), ("BadShape", false), ("BadRoad", false), ("BadClaim", false), ("BadRow", false), ("BadLine", true), ("NoLap", false), ("NoEnd", false), ("NoName", false), ("BadText", false), ("TooMany", false), ("Unlike", false), ("Nothing", false), ("NotWhole", false), ("Cause", false), ("NoPlayer", false), ("OutOfTurn", false), ("Empty", false)] (isCl "BadLine") (isiF (isiC []) (isCl "BadLine"))) := by
  refine cf_isiX (cc_BadLine T) (fun c h G v r => by cases r <;> simp [isCl] at h; subst h; exact .own _) T.cg T.ct fun c b h => ?_
  have h := memLk h
  have hh := List.all_eq_true.mp (show ([("CannotMove", false), ("BadHeld", false), ("BadPlayer", false), ("BadPit", false), ("BadNumber", false), ("BadTurn", false), ("BadRing", false), ("BadEnd", false), ("BadBook", false), ("BadBoard", false), ("BadSum", false), ("BadShape", false), ("BadRoad", false), ("BadClaim", false), ("BadRow", false), ("BadLine", true), ("NoLap", false), ("NoEnd", false), ("NoName", false), ("BadText", false), ("TooMany", false), ("Unlike", false), ("Nothing", false), ("NotWhole", false), ("Cause", false), ("NoPlayer", false), ("OutOfTurn", false), ("Empty", false)] : List (String × Bool)).all (fun p => decide (Str.ofString p.1 ∈ xcs) && decide ((Str.ofString p.1, Str.ofString "BadLine", p.2) ∈ kitos)) = true by decide +kernel) (c, b) h
  simp only [Bool.and_eq_true, decide_eq_true_eq] at hh
  exact ⟨T.xc (Str.ofString c) hh.1, T.ko (Str.ofString c) (Str.ofString "BadLine") b hh.2⟩
theorem cc_BadRow {X : Cx} (T : TX X.K X.mg) : CallF X (.builtin "isinstance") (isiF (isiC []) (isCl "BadRow")) := by
  refine cf_isiC (fun n h => kt_six T "BadRow" (by decide +kernel) n h) fun c b h => ?_
  cases h
theorem ix_BadRow {X : Cx} (T : TX X.K X.mg) : CallF X (.builtin "isinstance") (isiX [("CannotMove", false), ("BadHeld", false), ("BadPlayer", false), ("BadPit", false), ("BadNumber", false), ("BadTurn", false), ("BadRing", false), ("BadEnd", false), ("BadBook", false), ("BadBoard", false), ("BadSum", false), ("BadShape", false), ("BadRoad", false), ("BadClaim", false), ("BadRow", true), ("BadLine", false), ("NoLap", false), ("NoEnd", false), ("NoName", false), ("BadText", false), ("TooMany", false), ("Unlike", false), ("Nothing", false), ("NotWhole", false), ("Cause", false), ("NoPlayer", false), ("OutOfTurn", false), ("Empty", false)] (isCl "BadRow") (isiF (isiC []) (isCl "BadRow"))) := by
  refine cf_isiX (cc_BadRow T) (fun c h G v r => by cases r <;> simp [isCl] at h; subst h; exact .own _) T.cg T.ct fun c b h => ?_
  have h := memLk h
  have hh := List.all_eq_true.mp (show ([("CannotMove", false), ("BadHeld", false), ("BadPlayer", false), ("BadPit", false), ("BadNumber", false), ("BadTurn", false), ("BadRing", false), ("BadEnd", false), ("BadBook", false), ("BadBoard", false), ("BadSum", false), ("BadShape", false), ("BadRoad", false), ("BadClaim", false), ("BadRow", true), ("BadLine", false), ("NoLap", false), ("NoEnd", false), ("NoName", false), ("BadText", false), ("TooMany", false), ("Unlike", false), ("Nothing", false), ("NotWhole", false), ("Cause", false), ("NoPlayer", false), ("OutOfTurn", false), ("Empty", false)] : List (String × Bool)).all (fun p => decide (Str.ofString p.1 ∈ xcs) && decide ((Str.ofString p.1, Str.ofString "BadRow", p.2) ∈ kitos)) = true by decide +kernel) (c, b) h
  simp only [Bool.and_eq_true, decide_eq_true_eq] at hh
  exact ⟨T.xc (Str.ofString c) hh.1, T.ko (Str.ofString c) (Str.ofString "BadRow") b hh.2⟩
theorem cc_BadClaim {X : Cx} (T : TX X.K X.mg) : CallF X (.builtin "isinstance") (isiF (isiC []) (isCl "BadClaim")) := by
  refine cf_isiC (fun n h => kt_six T "BadClaim" (by decide +kernel) n h) fun c b h => ?_
  cases h
theorem ix_BadClaim {X : Cx} (T : TX X.K X.mg) : CallF X (.builtin "isinstance") (isiX [("CannotMove", false), ("BadHeld", false), ("BadPlayer", false), ("BadPit", false), ("BadNumber", false), ("BadTurn", false), ("BadRing", false), ("BadEnd", false), ("BadBook", false), ("BadBoard", false), ("BadSum", false), ("BadShape", false), ("BadRoad", false), ("BadClaim", true), ("BadRow", false), ("BadLine", false), ("NoLap", false), ("NoEnd", false), ("NoName", false), ("BadText", false), ("TooMany", false), ("Unlike", false), ("Nothing", false), ("NotWhole", false), ("Cause", false), ("NoPlayer", false), ("OutOfTurn", false), ("Empty", false)] (isCl "BadClaim") (isiF (isiC []) (isCl "BadClaim"))) := by
  refine cf_isiX (cc_BadClaim T) (fun c h G v r => by cases r <;> simp [isCl] at h; subst h; exact .own _) T.cg T.ct fun c b h => ?_
  have h := memLk h
  have hh := List.all_eq_true.mp (show ([("CannotMove", false), ("BadHeld", false), ("BadPlayer", false), ("BadPit", false), ("BadNumber", false), ("BadTurn", false), ("BadRing", false), ("BadEnd", false), ("BadBook", false), ("BadBoard", false), ("BadSum", false), ("BadShape", false), ("BadRoad", false), ("BadClaim", true), ("BadRow", false), ("BadLine", false), ("NoLap", false), ("NoEnd", false), ("NoName", false), ("BadText", false), ("TooMany", false), ("Unlike", false), ("Nothing", false), ("NotWhole", false), ("Cause", false), ("NoPlayer", false), ("OutOfTurn", false), ("Empty", false)] : List (String × Bool)).all (fun p => decide (Str.ofString p.1 ∈ xcs) && decide ((Str.ofString p.1, Str.ofString "BadClaim", p.2) ∈ kitos)) = true by decide +kernel) (c, b) h
  simp only [Bool.and_eq_true, decide_eq_true_eq] at hh
  exact ⟨T.xc (Str.ofString c) hh.1, T.ko (Str.ofString c) (Str.ofString "BadClaim") b hh.2⟩
theorem cc_BadRoad {X : Cx} (T : TX X.K X.mg) : CallF X (.builtin "isinstance") (isiF (isiC []) (isCl "BadRoad")) := by
  refine cf_isiC (fun n h => kt_six T "BadRoad" (by decide +kernel) n h) fun c b h => ?_
  cases h
theorem ix_BadRoad {X : Cx} (T : TX X.K X.mg) : CallF X (.builtin "isinstance") (isiX [("CannotMove", false), ("BadHeld", false), ("BadPlayer", false), ("BadPit", false), ("BadNumber", false), ("BadTurn", false), ("BadRing", false), ("BadEnd", false), ("BadBook", false), ("BadBoard", false), ("BadSum", false), ("BadShape", false), ("BadRoad", true), ("BadClaim", false), ("BadRow", false), ("BadLine", false), ("NoLap", false), ("NoEnd", false), ("NoName", false), ("BadText", false), ("TooMany", false), ("Unlike", false), ("Nothing", false), ("NotWhole", false), ("Cause", false), ("NoPlayer", false), ("OutOfTurn", false), ("Empty", false)] (isCl "BadRoad") (isiF (isiC []) (isCl "BadRoad"))) := by
  refine cf_isiX (cc_BadRoad T) (fun c h G v r => by cases r <;> simp [isCl] at h; subst h; exact .own _) T.cg T.ct fun c b h => ?_
  have h := memLk h
  have hh := List.all_eq_true.mp (show ([("CannotMove", false), ("BadHeld", false), ("BadPlayer", false), ("BadPit", false), ("BadNumber", false), ("BadTurn", false), ("BadRing", false), ("BadEnd", false), ("BadBook", false), ("BadBoard", false), ("BadSum", false), ("BadShape", false), ("BadRoad", true), ("BadClaim", false), ("BadRow", false), ("BadLine", false), ("NoLap", false), ("NoEnd", false), ("NoName", false), ("BadText", false), ("TooMany", false), ("Unlike", false), ("Nothing", false), ("NotWhole", false), ("Cause", false), ("NoPlayer", false), ("OutOfTurn", false), ("Empty", false)] : List (String × Bool)).all (fun p => decide (Str.ofString p.1 ∈ xcs) && decide ((Str.ofString p.1, Str.ofString "BadRoad", p.2) ∈ kitos)) = true by decide +kernel) (c, b) h
  simp only [Bool.and_eq_true, decide_eq_true_eq] at hh
  exact ⟨T.xc (Str.ofString c) hh.1, T.ko (Str.ofString c) (Str.ofString "BadRoad") b hh.2⟩
theorem cc_BadShape {X : Cx} (T : TX X.K X.mg) : CallF X (.builtin "isinstance") (isiF (isiC []) (isCl "BadShape")) := by
  refine cf_isiC (fun n h => kt_six T "BadShape" (by decide +kernel) n h) fun c b h => ?_
  cases h
theorem ix_BadShape {X : Cx} (T : TX X.K X.mg) : CallF X (.builtin "isinstance") (isiX [("CannotMove", false), ("BadHeld", false), ("BadPlayer", false), ("BadPit", false), ("BadNumber", false), ("BadTurn", false), ("BadRing", false), ("BadEnd", false), ("BadBook", false), ("BadBoard", false), ("BadSum", false), ("BadShape", true), ("BadRoad", false), ("BadClaim", false), ("BadRow", false), ("BadLine", false), ("NoLap", false), ("NoEnd", false), ("NoName", false), ("BadText", false), ("TooMany", false), ("Unlike", false), ("Nothing", false), ("NotWhole", false), ("Cause", false), ("NoPlayer", false), ("OutOfTurn", false), ("Empty", false)] (isCl "BadShape") (isiF (isiC []) (isCl "BadShape"))) := by
  refine cf_isiX (cc_BadShape T) (fun c h G v r => by cases r <;> simp [isCl] at h; subst h; exact .own _) T.cg T.ct fun c b h => ?_
  have h := memLk h
  have hh := List.all_eq_true.mp (show ([("CannotMove", false), ("BadHeld", false), ("BadPlayer", false), ("BadPit", false), ("BadNumber", false), ("BadTurn", false), ("BadRing", false), ("BadEnd", false), ("BadBook", false), ("BadBoard", false), ("BadSum", false), ("BadShape", true), ("BadRoad", false), ("BadClaim", false), ("BadRow", false), ("BadLine", false), ("NoLap", false), ("NoEnd", false), ("NoName", false), ("BadText", false), ("TooMany", false), ("Unlike", false), ("Nothing", false), ("NotWhole", false), ("Cause", false), ("NoPlayer", false), ("OutOfTurn", false), ("Empty", false)] : List (String × Bool)).all (fun p => decide (Str.ofString p.1 ∈ xcs) && decide ((Str.ofString p.1, Str.ofString "BadShape", p.2) ∈ kitos)) = true by decide +kernel) (c, b) h
  simp only [Bool.and_eq_true, decide_eq_true_eq] at hh
  exact ⟨T.xc (Str.ofString c) hh.1, T.ko (Str.ofString c) (Str.ofString "BadShape") b hh.2⟩
theorem cc_BadSum {X : Cx} (T : TX X.K X.mg) : CallF X (.builtin "isinstance") (isiF (isiC []) (isCl "BadSum")) := by
  refine cf_isiC (fun n h => kt_six T "BadSum" (by decide +kernel) n h) fun c b h => ?_
  cases h
theorem ix_BadSum {X : Cx} (T : TX X.K X.mg) : CallF X (.builtin "isinstance") (isiX [("CannotMove", false), ("BadHeld", false), ("BadPlayer", false), ("BadPit", false), ("BadNumber", false), ("BadTurn", false), ("BadRing", false), ("BadEnd", false), ("BadBook", false), ("BadBoard", false), ("BadSum", true), ("BadShape", false), ("BadRoad", false), ("BadClaim", false), ("BadRow", false), ("BadLine", false), ("NoLap", false), ("NoEnd", false), ("NoName", false), ("BadText", false), ("TooMany", false), ("Unlike", false), ("Nothing", false), ("NotWhole", false), ("Cause", false), ("NoPlayer", false), ("OutOfTurn", false), ("Empty", false)] (isCl "BadSum") (isiF (isiC []) (isCl "BadSum"))) := by
  refine cf_isiX (cc_BadSum T) (fun c h G v r => by cases r <;> simp [isCl] at h; subst h; exact .own _) T.cg T.ct fun c b h => ?_
  have h := memLk h
  have hh := List.all_eq_true.mp (show ([("CannotMove", false), ("BadHeld", false), ("BadPlayer", false), ("BadPit", false), ("BadNumber", false), ("BadTurn", false), ("BadRing", false), ("BadEnd", false), ("BadBook", false), ("BadBoard", false), ("BadSum", true), ("BadShape", false), ("BadRoad", false), ("BadClaim", false), ("BadRow", false), ("BadLine", false), ("NoLap", false), ("NoEnd", false), ("NoName", false), ("BadText", false), ("TooMany", false), ("Unlike", false), ("Nothing", false), ("NotWhole", false), ("Cause", false), ("NoPlayer", false), ("OutOfTurn", false), ("Empty", false)] : List (String × Bool)).all (fun p => decide (Str.ofString p.1 ∈ xcs) && decide ((Str.ofString p.1, Str.ofString "BadSum", p.2) ∈ kitos)) = true by decide +kernel) (c, b) h
  simp only [Bool.and_eq_true, decide_eq_true_eq] at hh
  exact ⟨T.xc (Str.ofString c) hh.1, T.ko (Str.ofString c) (Str.ofString "BadSum") b hh.2⟩
theorem cc_BadBoard {X : Cx} (T : TX X.K X.mg) : CallF X (.builtin "isinstance") (isiF (isiC []) (isCl "BadBoard")) := by
  refine cf_isiC (fun n h => kt_six T "BadBoard" (by decide +kernel) n h) fun c b h => ?_
  cases h
theorem ix_BadBoard {X : Cx} (T : TX X.K X.mg) : CallF X (.builtin "isinstance") (isiX [("CannotMove", false), ("BadHeld", false), ("BadPlayer", false), ("BadPit", false), ("BadNumber", false), ("BadTurn", false), ("BadRing", false), ("BadEnd", false), ("BadBook", false), ("BadBoard", true), ("BadSum", false), ("BadShape", false), ("BadRoad", false), ("BadClaim", false), ("BadRow", false), ("BadLine", false), ("NoLap", false), ("NoEnd", false), ("NoName", false), ("BadText", false), ("TooMany", false), ("Unlike", false), ("Nothing", false), ("NotWhole", false), ("Cause", false), ("NoPlayer", false), ("OutOfTurn", false), ("Empty", false)] (isCl "BadBoard") (isiF (isiC []) (isCl "BadBoard"))) := by
  refine cf_isiX (cc_BadBoard T) (fun c h G v r => by cases r <;> simp [isCl] at h; subst h; exact .own _) T.cg T.ct fun c b h => ?_
  have h := memLk h
  have hh := List.all_eq_true.mp (show ([("CannotMove", false), ("BadHeld", false), ("BadPlayer", false), ("BadPit", false), ("BadNumber", false), ("BadTurn", false), ("BadRing", false), ("BadEnd", false), ("BadBook", false), ("BadBoard", true), ("BadSum", false), ("BadShape", false), ("BadRoad", false), ("BadClaim", false), ("BadRow", false), ("BadLine", false), ("NoLap", false), ("NoEnd", false), ("NoName", false), ("BadText", false), ("TooMany", false), ("Unlike", false), ("Nothing", false), ("NotWhole", false), ("Cause", false), ("NoPlayer", false), ("OutOfTurn", false), ("Empty", false)] : List (String × Bool)).all (fun p => decide (Str.ofString p.1 ∈ xcs) && decide ((Str.ofString p.1, Str.ofString "BadBoard", p.2) ∈ kitos)) = true by decide +kernel) (c, b) h
  simp only [Bool.and_eq_true, decide_eq_true_eq] at hh
  exact ⟨T.xc (Str.ofString c) hh.1, T.ko (Str.ofString c) (Str.ofString "BadBoard") b hh.2⟩
theorem cc_BadBook {X : Cx} (T : TX X.K X.mg) : CallF X (.builtin "isinstance") (isiF (isiC []) (isCl "BadBook")) := by
  refine cf_isiC (fun n h => kt_six T "BadBook" (by decide +kernel) n h) fun c b h => ?_
  cases h
theorem ix_BadBook {X : Cx} (T : TX X.K X.mg) : CallF X (.builtin "isinstance") (isiX [("CannotMove", false), ("BadHeld", false), ("BadPlayer", false), ("BadPit", false), ("BadNumber", false), ("BadTurn", false), ("BadRing", false), ("BadEnd", false), ("BadBook", true), ("BadBoard", false), ("BadSum", false), ("BadShape", false), ("BadRoad", false), ("BadClaim", false), ("BadRow", false), ("BadLine", false), ("NoLap", false), ("NoEnd", false), ("NoName", false), ("BadText", false), ("TooMany", false), ("Unlike", false), ("Nothing", false), ("NotWhole", false), ("Cause", false), ("NoPlayer", false), ("OutOfTurn", false), ("Empty", false)] (isCl "BadBook") (isiF (isiC []) (isCl "BadBook"))) := by
  refine cf_isiX (cc_BadBook T) (fun c h G v r => by cases r <;> simp [isCl] at h; subst h; exact .own _) T.cg T.ct fun c b h => ?_
  have h := memLk h
  have hh := List.all_eq_true.mp (show ([("CannotMove", false), ("BadHeld", false), ("BadPlayer", false), ("BadPit", false), ("BadNumber", false), ("BadTurn", false), ("BadRing", false), ("BadEnd", false), ("BadBook", true), ("BadBoard", false), ("BadSum", false), ("BadShape", false), ("BadRoad", false), ("BadClaim", false), ("BadRow", false), ("BadLine", false), ("NoLap", false), ("NoEnd", false), ("NoName", false), ("BadText", false), ("TooMany", false), ("Unlike", false), ("Nothing", false), ("NotWhole", false), ("Cause", false), ("NoPlayer", false), ("OutOfTurn", false), ("Empty", false)] : List (String × Bool)).all (fun p => decide (Str.ofString p.1 ∈ xcs) && decide ((Str.ofString p.1, Str.ofString "BadBook", p.2) ∈ kitos)) = true by decide +kernel) (c, b) h
  simp only [Bool.and_eq_true, decide_eq_true_eq] at hh
  exact ⟨T.xc (Str.ofString c) hh.1, T.ko (Str.ofString c) (Str.ofString "BadBook") b hh.2⟩
theorem cc_BadEnd {X : Cx} (T : TX X.K X.mg) : CallF X (.builtin "isinstance") (isiF (isiC []) (isCl "BadEnd")) := by
  refine cf_isiC (fun n h => kt_six T "BadEnd" (by decide +kernel) n h) fun c b h => ?_
  cases h
theorem ix_BadEnd {X : Cx} (T : TX X.K X.mg) : CallF X (.builtin "isinstance") (isiX [("CannotMove", false), ("BadHeld", false), ("BadPlayer", false), ("BadPit", false), ("BadNumber", false), ("BadTurn", false), ("BadRing", false), ("BadEnd", true), ("BadBook", false), ("BadBoard", false), ("BadSum", false), ("BadShape", false), ("BadRoad", false), ("BadClaim", false), ("BadRow", false), ("BadLine", false), ("NoLap", false), ("NoEnd", false), ("NoName", false), ("BadText", false), ("TooMany", false), ("Unlike", false), ("Nothing", false), ("NotWhole", false), ("Cause", false), ("NoPlayer", false), ("OutOfTurn", false), ("Empty", false)] (isCl "BadEnd") (isiF (isiC []) (isCl "BadEnd"))) := by
  refine cf_isiX (cc_BadEnd T) (fun c h G v r => by cases r <;> simp [isCl] at h; subst h; exact .own _) T.cg T.ct fun c b h => ?_
  have h := memLk h
  have hh := List.all_eq_true.mp (show ([("CannotMove", false), ("BadHeld", false), ("BadPlayer", false), ("BadPit", false), ("BadNumber", false), ("BadTurn", false), ("BadRing", false), ("BadEnd", true), ("BadBook", false), ("BadBoard", false), ("BadSum", false), ("BadShape", false), ("BadRoad", false), ("BadClaim", false), ("BadRow", false), ("BadLine", false), ("NoLap", false), ("NoEnd", false), ("NoName", false), ("BadText", false), ("TooMany", false), ("Unlike", false), ("Nothing", false), ("NotWhole", false), ("Cause", false), ("NoPlayer", false), ("OutOfTurn", false), ("Empty", false)] : List (String × Bool)).all (fun p => decide (Str.ofString p.1 ∈ xcs) && decide ((Str.ofString p.1, Str.ofString "BadEnd", p.2) ∈ kitos)) = true by decide +kernel) (c, b) h
  simp only [Bool.and_eq_true, decide_eq_true_eq] at hh
  exact ⟨T.xc (Str.ofString c) hh.1, T.ko (Str.ofString c) (Str.ofString "BadEnd") b hh.2⟩
theorem cc_BadRing {X : Cx} (T : TX X.K X.mg) : CallF X (.builtin "isinstance") (isiF (isiC []) (isCl "BadRing")) := by
  refine cf_isiC (fun n h => kt_six T "BadRing" (by decide +kernel) n h) fun c b h => ?_
  cases h
theorem ix_BadRing {X : Cx} (T : TX X.K X.mg) : CallF X (.builtin "isinstance") (isiX [("CannotMove", false), ("BadHeld", false), ("BadPlayer", false), ("BadPit", false), ("BadNumber", false), ("BadTurn", false), ("BadRing", true), ("BadEnd", false), ("BadBook", false), ("BadBoard", false), ("BadSum", false), ("BadShape", false), ("BadRoad", false), ("BadClaim", false), ("BadRow", false), ("BadLine", false), ("NoLap", false), ("NoEnd", false), ("NoName", false), ("BadText", false), ("TooMany", false), ("Unlike", false), ("Nothing", false), ("NotWhole", false), ("Cause", false), ("NoPlayer", false), ("OutOfTurn", false), ("Empty", false)] (isCl "BadRing") (isiF (isiC []) (isCl "BadRing"))) := by
  refine cf_isiX (cc_BadRing T) (fun c h G v r => by cases r <;> simp [isCl] at h; subst h; exact .own _) T.cg T.ct fun c b h => ?_
  have h := memLk h
  have hh := List.all_eq_true.mp (show ([("CannotMove", false), ("BadHeld", false), ("BadPlayer", false), ("BadPit", false), ("BadNumber", false), ("BadTurn", false), ("BadRing", true), ("BadEnd", false), ("BadBook", false), ("BadBoard", false), ("BadSum", false), ("BadShape", false), ("BadRoad", false), ("BadClaim", false), ("BadRow", false), ("BadLine", false), ("NoLap", false), ("NoEnd", false), ("NoName", false), ("BadText", false), ("TooMany", false), ("Unlike", false), ("Nothing", false), ("NotWhole", false), ("Cause", false), ("NoPlayer", false), ("OutOfTurn", false), ("Empty", false)] : List (String × Bool)).all (fun p => decide (Str.ofString p.1 ∈ xcs) && decide ((Str.ofString p.1, Str.ofString "BadRing", p.2) ∈ kitos)) = true by decide +kernel) (c, b) h
  simp only [Bool.and_eq_true, decide_eq_true_eq] at hh
  exact ⟨T.xc (Str.ofString c) hh.1, T.ko (Str.ofString c) (Str.ofString "BadRing") b hh.2⟩
theorem cc_BadTurn {X : Cx} (T : TX X.K X.mg) : CallF X (.builtin "isinstance") (isiF (isiC []) (isCl "BadTurn")) := by
  refine cf_isiC (fun n h => kt_six T "BadTurn" (by decide +kernel) n h) fun c b h => ?_
  cases h
theorem ix_BadTurn {X : Cx} (T : TX X.K X.mg) : CallF X (.builtin "isinstance") (isiX [("CannotMove", false), ("BadHeld", false), ("BadPlayer", false), ("BadPit", false), ("BadNumber", false), ("BadTurn", true), ("BadRing", false), ("BadEnd", false), ("BadBook", false), ("BadBoard", false), ("BadSum", false), ("BadShape", false), ("BadRoad", false), ("BadClaim", false), ("BadRow", false), ("BadLine", false), ("NoLap", false), ("NoEnd", false), ("NoName", false), ("BadText", false), ("TooMany", false), ("Unlike", false), ("Nothing", false), ("NotWhole", false), ("Cause", false), ("NoPlayer", false), ("OutOfTurn", false), ("Empty", false)] (isCl "BadTurn") (isiF (isiC []) (isCl "BadTurn"))) := by
  refine cf_isiX (cc_BadTurn T) (fun c h G v r => by cases r <;> simp [isCl] at h; subst h; exact .own _) T.cg T.ct fun c b h => ?_
  have h := memLk h
  have hh := List.all_eq_true.mp (show ([("CannotMove", false), ("BadHeld", false), ("BadPlayer", false), ("BadPit", false), ("BadNumber", false), ("BadTurn", true), ("BadRing", false), ("BadEnd", false), ("BadBook", false), ("BadBoard", false), ("BadSum", false), ("BadShape", false), ("BadRoad", false), ("BadClaim", false), ("BadRow", false), ("BadLine", false), ("NoLap", false), ("NoEnd", false), ("NoName", false), ("BadText", false), ("TooMany", false), ("Unlike", false), ("Nothing", false), ("NotWhole", false), ("Cause", false), ("NoPlayer", false), ("OutOfTurn", false), ("Empty", false)] : List (String × Bool)).all (fun p => decide (Str.ofString p.1 ∈ xcs) && decide ((Str.ofString p.1, Str.ofString "BadTurn", p.2) ∈ kitos)) = true by decide +kernel) (c, b) h
  simp only [Bool.and_eq_true, decide_eq_true_eq] at hh
  exact ⟨T.xc (Str.ofString c) hh.1, T.ko (Str.ofString c) (Str.ofString "BadTurn") b hh.2⟩
theorem cc_BadNumber {X : Cx} (T : TX X.K X.mg) : CallF X (.builtin "isinstance") (isiF (isiC []) (isCl "BadNumber")) := by
  refine cf_isiC (fun n h => kt_six T "BadNumber" (by decide +kernel) n h) fun c b h => ?_
  cases h
theorem ix_BadNumber {X : Cx} (T : TX X.K X.mg) : CallF X (.builtin "isinstance") (isiX [("CannotMove", false), ("BadHeld", false), ("BadPlayer", false), ("BadPit", false), ("BadNumber", true), ("BadTurn", false), ("BadRing", false), ("BadEnd", false), ("BadBook", false), ("BadBoard", false), ("BadSum", false), ("BadShape", false), ("BadRoad", false), ("BadClaim", false), ("BadRow", false), ("BadLine", false), ("NoLap", false), ("NoEnd", false), ("NoName", false), ("BadText", false), ("TooMany", false), ("Unlike", false), ("Nothing", false), ("NotWhole", false), ("Cause", false), ("NoPlayer", false), ("OutOfTurn", false), ("Empty", false)] (isCl "BadNumber") (isiF (isiC []) (isCl "BadNumber"))) := by
  refine cf_isiX (cc_BadNumber T) (fun c h G v r => by cases r <;> simp [isCl] at h; subst h; exact .own _) T.cg T.ct fun c b h => ?_
  have h := memLk h
  have hh := List.all_eq_true.mp (show ([("CannotMove", false), ("BadHeld", false), ("BadPlayer", false), ("BadPit", false), ("BadNumber", true), ("BadTurn", false), ("BadRing", false), ("BadEnd", false), ("BadBook", false), ("BadBoard", false), ("BadSum", false), ("BadShape", false), ("BadRoad", false), ("BadClaim", false), ("BadRow", false), ("BadLine", false), ("NoLap", false), ("NoEnd", false), ("NoName", false), ("BadText", false), ("TooMany", false), ("Unlike", false), ("Nothing", false), ("NotWhole", false), ("Cause", false), ("NoPlayer", false), ("OutOfTurn", false), ("Empty", false)] : List (String × Bool)).all (fun p => decide (Str.ofString p.1 ∈ xcs) && decide ((Str.ofString p.1, Str.ofString "BadNumber", p.2) ∈ kitos)) = true by decide +kernel) (c, b) h
  simp only [Bool.and_eq_true, decide_eq_true_eq] at hh
  exact ⟨T.xc (Str.ofString c) hh.1, T.ko (Str.ofString c) (Str.ofString "BadNumber") b hh.2⟩
theorem cc_BadPit {X : Cx} (T : TX X.K X.mg) : CallF X (.builtin "isinstance") (isiF (isiC []) (isCl "BadPit")) := by
  refine cf_isiC (fun n h => kt_six T "BadPit" (by decide +kernel) n h) fun c b h => ?_
  cases h
theorem ix_BadPit {X : Cx} (T : TX X.K X.mg) : CallF X (.builtin "isinstance") (isiX [("CannotMove", false), ("BadHeld", false), ("BadPlayer", false), ("BadPit", true), ("BadNumber", false), ("BadTurn", false), ("BadRing", false), ("BadEnd", false), ("BadBook", false), ("BadBoard", false), ("BadSum", false), ("BadShape", false), ("BadRoad", false), ("BadClaim", false), ("BadRow", false), ("BadLine", false), ("NoLap", false), ("NoEnd", false), ("NoName", false), ("BadText", false), ("TooMany", false), ("Unlike", false), ("Nothing", false), ("NotWhole", false), ("Cause", false), ("NoPlayer", false), ("OutOfTurn", false), ("Empty", false)] (isCl "BadPit") (isiF (isiC []) (isCl "BadPit"))) := by
  refine cf_isiX (cc_BadPit T) (fun c h G v r => by cases r <;> simp [isCl] at h; subst h; exact .own _) T.cg T.ct fun c b h => ?_
  have h := memLk h
  have hh := List.all_eq_true.mp (show ([("CannotMove", false), ("BadHeld", false), ("BadPlayer", false), ("BadPit", true), ("BadNumber", false), ("BadTurn", false), ("BadRing", false), ("BadEnd", false), ("BadBook", false), ("BadBoard", false), ("BadSum", false), ("BadShape", false), ("BadRoad", false), ("BadClaim", false), ("BadRow", false), ("BadLine", false), ("NoLap", false), ("NoEnd", false), ("NoName", false), ("BadText", false), ("TooMany", false), ("Unlike", false), ("Nothing", false), ("NotWhole", false), ("Cause", false), ("NoPlayer", false), ("OutOfTurn", false), ("Empty", false)] : List (String × Bool)).all (fun p => decide (Str.ofString p.1 ∈ xcs) && decide ((Str.ofString p.1, Str.ofString "BadPit", p.2) ∈ kitos)) = true by decide +kernel) (c, b) h
  simp only [Bool.and_eq_true, decide_eq_true_eq] at hh
  exact ⟨T.xc (Str.ofString c) hh.1, T.ko (Str.ofString c) (Str.ofString "BadPit") b hh.2⟩
theorem cc_BadPlayer {X : Cx} (T : TX X.K X.mg) : CallF X (.builtin "isinstance") (isiF (isiC []) (isCl "BadPlayer")) := by
  refine cf_isiC (fun n h => kt_six T "BadPlayer" (by decide +kernel) n h) fun c b h => ?_
  cases h
theorem ix_BadPlayer {X : Cx} (T : TX X.K X.mg) : CallF X (.builtin "isinstance") (isiX [("CannotMove", false), ("BadHeld", false), ("BadPlayer", true), ("BadPit", false), ("BadNumber", false), ("BadTurn", false), ("BadRing", false), ("BadEnd", false), ("BadBook", false), ("BadBoard", false), ("BadSum", false), ("BadShape", false), ("BadRoad", false), ("BadClaim", false), ("BadRow", false), ("BadLine", false), ("NoLap", false), ("NoEnd", false), ("NoName", false), ("BadText", false), ("TooMany", false), ("Unlike", false), ("Nothing", false), ("NotWhole", false), ("Cause", false), ("NoPlayer", false), ("OutOfTurn", false), ("Empty", false)] (isCl "BadPlayer") (isiF (isiC []) (isCl "BadPlayer"))) := by
  refine cf_isiX (cc_BadPlayer T) (fun c h G v r => by cases r <;> simp [isCl] at h; subst h; exact .own _) T.cg T.ct fun c b h => ?_
  have h := memLk h
  have hh := List.all_eq_true.mp (show ([("CannotMove", false), ("BadHeld", false), ("BadPlayer", true), ("BadPit", false), ("BadNumber", false), ("BadTurn", false), ("BadRing", false), ("BadEnd", false), ("BadBook", false), ("BadBoard", false), ("BadSum", false), ("BadShape", false), ("BadRoad", false), ("BadClaim", false), ("BadRow", false), ("BadLine", false), ("NoLap", false), ("NoEnd", false), ("NoName", false), ("BadText", false), ("TooMany", false), ("Unlike", false), ("Nothing", false), ("NotWhole", false), ("Cause", false), ("NoPlayer", false), ("OutOfTurn", false), ("Empty", false)] : List (String × Bool)).all (fun p => decide (Str.ofString p.1 ∈ xcs) && decide ((Str.ofString p.1, Str.ofString "BadPlayer", p.2) ∈ kitos)) = true by decide +kernel) (c, b) h
  simp only [Bool.and_eq_true, decide_eq_true_eq] at hh
  exact ⟨T.xc (Str.ofString c) hh.1, T.ko (Str.ofString c) (Str.ofString "BadPlayer") b hh.2⟩
theorem cc_BadHeld {X : Cx} (T : TX X.K X.mg) : CallF X (.builtin "isinstance") (isiF (isiC []) (isCl "BadHeld")) := by
  refine cf_isiC (fun n h => kt_six T "BadHeld" (by decide +kernel) n h) fun c b h => ?_
  cases h
theorem ix_BadHeld {X : Cx} (T : TX X.K X.mg) : CallF X (.builtin "isinstance") (isiX [("CannotMove", false), ("BadHeld", true), ("BadPlayer", false), ("BadPit", false), ("BadNumber", false), ("BadTurn", false), ("BadRing", false), ("BadEnd", false), ("BadBook", false), ("BadBoard", false), ("BadSum", false), ("BadShape", false), ("BadRoad", false), ("BadClaim", false), ("BadRow", false), ("BadLine", false), ("NoLap", false), ("NoEnd", false), ("NoName", false), ("BadText", false), ("TooMany", false), ("Unlike", false), ("Nothing", false), ("NotWhole", false), ("Cause", false), ("NoPlayer", false), ("OutOfTurn", false), ("Empty", false)] (isCl "BadHeld") (isiF (isiC []) (isCl "BadHeld"))) := by
  refine cf_isiX (cc_BadHeld T) (fun c h G v r => by cases r <;> simp [isCl] at h; subst h; exact .own _) T.cg T.ct fun c b h => ?_
  have h := memLk h
  have hh := List.all_eq_true.mp (show ([("CannotMove", false), ("BadHeld", true), ("BadPlayer", false), ("BadPit", false), ("BadNumber", false), ("BadTurn", false), ("BadRing", false), ("BadEnd", false), ("BadBook", false), ("BadBoard", false), ("BadSum", false), ("BadShape", false), ("BadRoad", false), ("BadClaim", false), ("BadRow", false), ("BadLine", false), ("NoLap", false), ("NoEnd", false), ("NoName", false), ("BadText", false), ("TooMany", false), ("Unlike", false), ("Nothing", false), ("NotWhole", false), ("Cause", false), ("NoPlayer", false), ("OutOfTurn", false), ("Empty", false)] : List (String × Bool)).all (fun p => decide (Str.ofString p.1 ∈ xcs) && decide ((Str.ofString p.1, Str.ofString "BadHeld", p.2) ∈ kitos)) = true by decide +kernel) (c, b) h
  simp only [Bool.and_eq_true, decide_eq_true_eq] at hh
  exact ⟨T.xc (Str.ofString c) hh.1, T.ko (Str.ofString c) (Str.ofString "BadHeld") b hh.2⟩
abbrev N_law_kinds : List Str := ["_law_error", "_law_found", "_law_k", "_law_is_one"]
theorem sc_law_kinds : FnScope N_law_kinds ["_law_error"] (defScope s_law_kinds) := ⟨rfl, rfl, rfl, by decide +kernel, rfl, by decide +kernel, by decide +kernel⟩
noncomputable def F_law_kinds : Fn := dfn 1 4 (sSeq (sSet 1 (lstE (aCons (cal (isiX [("CannotMove", false), ("BadHeld", true), ("BadPlayer", false), ("BadPit", false), ("BadNumber", false), ("BadTurn", false), ("BadRing", false), ("BadEnd", false), ("BadBook", false), ("BadBoard", false), ("BadSum", false), ("BadShape", false), ("BadRoad", false), ("BadClaim", false), ("BadRow", false), ("BadLine", false), ("NoLap", false), ("NoEnd", false), ("NoName", false), ("BadText", false), ("TooMany", false), ("Unlike", false), ("Nothing", false), ("NotWhole", false), ("Cause", false), ("NoPlayer", false), ("OutOfTurn", false), ("Empty", false)] (isCl "BadHeld") (isiF (isiC []) (isCl "BadHeld"))) (aCons (v 0) (aCons (k (.cls "BadHeld")) aNil))) (aCons (cal (isiX [("CannotMove", false), ("BadHeld", false), ("BadPlayer", true), ("BadPit", false), ("BadNumber", false), ("BadTurn", false), ("BadRing", false), ("BadEnd", false), ("BadBook", false), ("BadBoard", false), ("BadSum", false), ("BadShape", false), ("BadRoad", false), ("BadClaim", false), ("BadRow", false), ("BadLine", false), ("NoLap", false), ("NoEnd", false), ("NoName", false), ("BadText", false), ("TooMany", false), ("Unlike", false), ("Nothing", false), ("NotWhole", false), ("Cause", false), ("NoPlayer", false), ("OutOfTurn", false), ("Empty", false)] (isCl "BadPlayer") (isiF (isiC []) (isCl "BadPlayer"))) (aCons (v 0) (aCons (k (.cls "BadPlayer")) aNil))) (aCons (cal (isiX [("CannotMove", false), ("BadHeld", false), ("BadPlayer", false), ("BadPit", true), ("BadNumber", false), ("BadTurn", false), ("BadRing", false), ("BadEnd", false), ("BadBook", false), ("BadBoard", false), ("BadSum", false), ("BadShape", false), ("BadRoad", false), ("BadClaim", false), ("BadRow", false), ("BadLine", false), ("NoLap", false), ("NoEnd", false), ("NoName", false), ("BadText", false), ("TooMany", false), ("Unlike", false), ("Nothing", false), ("NotWhole", false), ("Cause", false), ("NoPlayer", false), ("OutOfTurn", false), ("Empty", false)] (isCl "BadPit") (isiF (isiC []) (isCl "BadPit"))) (aCons (v 0) (aCons (k (.cls "BadPit")) aNil))) aNil))))) (sSeq (sSet 1 (bin (addG) (v 1) (lstE (aCons (cal (isiX [("CannotMove", false), ("BadHeld", false), ("BadPlayer", false), ("BadPit", false), ("BadNumber", true), ("BadTurn", false), ("BadRing", false), ("BadEnd", false), ("BadBook", false), ("BadBoard", false), ("BadSum", false), ("BadShape", false), ("BadRoad", false), ("BadClaim", false), ("BadRow", false), ("BadLine", false), ("NoLap", false), ("NoEnd", false), ("NoName", false), ("BadText", false), ("TooMany", false), ("Unlike", false), ("Nothing", false), ("NotWhole", false), ("Cause", false), ("NoPlayer", false), ("OutOfTurn", false), ("Empty", false)] (isCl "BadNumber") (isiF (isiC []) (isCl "BadNumber"))) (aCons (v 0) (aCons (k (.cls "BadNumber")) aNil))) (aCons (cal (isiX [("CannotMove", false), ("BadHeld", false), ("BadPlayer", false), ("BadPit", false), ("BadNumber", false), ("BadTurn", true), ("BadRing", false), ("BadEnd", false), ("BadBook", false), ("BadBoard", false), ("BadSum", false), ("BadShape", false), ("BadRoad", false), ("BadClaim", false), ("BadRow", false), ("BadLine", false), ("NoLap", false), ("NoEnd", false), ("NoName", false), ("BadText", false), ("TooMany", false), ("Unlike", false), ("Nothing", false), ("NotWhole", false), ("Cause", false), ("NoPlayer", false), ("OutOfTurn", false), ("Empty", false)] (isCl "BadTurn") (isiF (isiC []) (isCl "BadTurn"))) (aCons (v 0) (aCons (k (.cls "BadTurn")) aNil))) (aCons (cal (isiX [("CannotMove", false), ("BadHeld", false), ("BadPlayer", false), ("BadPit", false), ("BadNumber", false), ("BadTurn", false), ("BadRing", true), ("BadEnd", false), ("BadBook", false), ("BadBoard", false), ("BadSum", false), ("BadShape", false), ("BadRoad", false), ("BadClaim", false), ("BadRow", false), ("BadLine", false), ("NoLap", false), ("NoEnd", false), ("NoName", false), ("BadText", false), ("TooMany", false), ("Unlike", false), ("Nothing", false), ("NotWhole", false), ("Cause", false), ("NoPlayer", false), ("OutOfTurn", false), ("Empty", false)] (isCl "BadRing") (isiF (isiC []) (isCl "BadRing"))) (aCons (v 0) (aCons (k (.cls "BadRing")) aNil))) aNil)))))) (sSeq (sSet 1 (bin (addG) (v 1) (lstE (aCons (cal (isiX [("CannotMove", false), ("BadHeld", false), ("BadPlayer", false), ("BadPit", false), ("BadNumber", false), ("BadTurn", false), ("BadRing", false), ("BadEnd", true), ("BadBook", false), ("BadBoard", false), ("BadSum", false), ("BadShape", false), ("BadRoad", false), ("BadClaim", false), ("BadRow", false), ("BadLine", false), ("NoLap", false), ("NoEnd", false), ("NoName", false), ("BadText", false), ("TooMany", false), ("Unlike", false), ("Nothing", false), ("NotWhole", false), ("Cause", false), ("NoPlayer", false), ("OutOfTurn", false), ("Empty", false)] (isCl "BadEnd") (isiF (isiC []) (isCl "BadEnd"))) (aCons (v 0) (aCons (k (.cls "BadEnd")) aNil))) (aCons (cal (isiX [("CannotMove", false), ("BadHeld", false), ("BadPlayer", false), ("BadPit", false), ("BadNumber", false), ("BadTurn", false), ("BadRing", false), ("BadEnd", false), ("BadBook", true), ("BadBoard", false), ("BadSum", false), ("BadShape", false), ("BadRoad", false), ("BadClaim", false), ("BadRow", false), ("BadLine", false), ("NoLap", false), ("NoEnd", false), ("NoName", false), ("BadText", false), ("TooMany", false), ("Unlike", false), ("Nothing", false), ("NotWhole", false), ("Cause", false), ("NoPlayer", false), ("OutOfTurn", false), ("Empty", false)] (isCl "BadBook") (isiF (isiC []) (isCl "BadBook"))) (aCons (v 0) (aCons (k (.cls "BadBook")) aNil))) (aCons (cal (isiX [("CannotMove", false), ("BadHeld", false), ("BadPlayer", false), ("BadPit", false), ("BadNumber", false), ("BadTurn", false), ("BadRing", false), ("BadEnd", false), ("BadBook", false), ("BadBoard", true), ("BadSum", false), ("BadShape", false), ("BadRoad", false), ("BadClaim", false), ("BadRow", false), ("BadLine", false), ("NoLap", false), ("NoEnd", false), ("NoName", false), ("BadText", false), ("TooMany", false), ("Unlike", false), ("Nothing", false), ("NotWhole", false), ("Cause", false), ("NoPlayer", false), ("OutOfTurn", false), ("Empty", false)] (isCl "BadBoard") (isiF (isiC []) (isCl "BadBoard"))) (aCons (v 0) (aCons (k (.cls "BadBoard")) aNil))) aNil)))))) (sSeq (sSet 1 (bin (addG) (v 1) (lstE (aCons (cal (isiX [("CannotMove", false), ("BadHeld", false), ("BadPlayer", false), ("BadPit", false), ("BadNumber", false), ("BadTurn", false), ("BadRing", false), ("BadEnd", false), ("BadBook", false), ("BadBoard", false), ("BadSum", true), ("BadShape", false), ("BadRoad", false), ("BadClaim", false), ("BadRow", false), ("BadLine", false), ("NoLap", false), ("NoEnd", false), ("NoName", false), ("BadText", false), ("TooMany", false), ("Unlike", false), ("Nothing", false), ("NotWhole", false), ("Cause", false), ("NoPlayer", false), ("OutOfTurn", false), ("Empty", false)] (isCl "BadSum") (isiF (isiC []) (isCl "BadSum"))) (aCons (v 0) (aCons (k (.cls "BadSum")) aNil))) (aCons (cal (isiX [("CannotMove", false), ("BadHeld", false), ("BadPlayer", false), ("BadPit", false), ("BadNumber", false), ("BadTurn", false), ("BadRing", false), ("BadEnd", false), ("BadBook", false), ("BadBoard", false), ("BadSum", false), ("BadShape", true), ("BadRoad", false), ("BadClaim", false), ("BadRow", false), ("BadLine", false), ("NoLap", false), ("NoEnd", false), ("NoName", false), ("BadText", false), ("TooMany", false), ("Unlike", false), ("Nothing", false), ("NotWhole", false), ("Cause", false), ("NoPlayer", false), ("OutOfTurn", false), ("Empty", false)] (isCl "BadShape") (isiF (isiC []) (isCl "BadShape"))) (aCons (v 0) (aCons (k (.cls "BadShape")) aNil))) (aCons (cal (isiX [("CannotMove", false), ("BadHeld", false), ("BadPlayer", false), ("BadPit", false), ("BadNumber", false), ("BadTurn", false), ("BadRing", false), ("BadEnd", false), ("BadBook", false), ("BadBoard", false), ("BadSum", false), ("BadShape", false), ("BadRoad", true), ("BadClaim", false), ("BadRow", false), ("BadLine", false), ("NoLap", false), ("NoEnd", false), ("NoName", false), ("BadText", false), ("TooMany", false), ("Unlike", false), ("Nothing", false), ("NotWhole", false), ("Cause", false), ("NoPlayer", false), ("OutOfTurn", false), ("Empty", false)] (isCl "BadRoad") (isiF (isiC []) (isCl "BadRoad"))) (aCons (v 0) (aCons (k (.cls "BadRoad")) aNil))) aNil)))))) (sSeq (sSet 1 (bin (addG) (v 1) (lstE (aCons (cal (isiX [("CannotMove", false), ("BadHeld", false), ("BadPlayer", false), ("BadPit", false), ("BadNumber", false), ("BadTurn", false), ("BadRing", false), ("BadEnd", false), ("BadBook", false), ("BadBoard", false), ("BadSum", false), ("BadShape", false), ("BadRoad", false), ("BadClaim", true), ("BadRow", false), ("BadLine", false), ("NoLap", false), ("NoEnd", false), ("NoName", false), ("BadText", false), ("TooMany", false), ("Unlike", false), ("Nothing", false), ("NotWhole", false), ("Cause", false), ("NoPlayer", false), ("OutOfTurn", false), ("Empty", false)] (isCl "BadClaim") (isiF (isiC []) (isCl "BadClaim"))) (aCons (v 0) (aCons (k (.cls "BadClaim")) aNil))) (aCons (cal (isiX [("CannotMove", false), ("BadHeld", false), ("BadPlayer", false), ("BadPit", false), ("BadNumber", false), ("BadTurn", false), ("BadRing", false), ("BadEnd", false), ("BadBook", false), ("BadBoard", false), ("BadSum", false), ("BadShape", false), ("BadRoad", false), ("BadClaim", false), ("BadRow", true), ("BadLine", false), ("NoLap", false), ("NoEnd", false), ("NoName", false), ("BadText", false), ("TooMany", false), ("Unlike", false), ("Nothing", false), ("NotWhole", false), ("Cause", false), ("NoPlayer", false), ("OutOfTurn", false), ("Empty", false)] (isCl "BadRow") (isiF (isiC []) (isCl "BadRow"))) (aCons (v 0) (aCons (k (.cls "BadRow")) aNil))) (aCons (cal (isiX [("CannotMove", false), ("BadHeld", false), ("BadPlayer", false), ("BadPit", false), ("BadNumber", false), ("BadTurn", false), ("BadRing", false), ("BadEnd", false), ("BadBook", false), ("BadBoard", false), ("BadSum", false), ("BadShape", false), ("BadRoad", false), ("BadClaim", false), ("BadRow", false), ("BadLine", true), ("NoLap", false), ("NoEnd", false), ("NoName", false), ("BadText", false), ("TooMany", false), ("Unlike", false), ("Nothing", false), ("NotWhole", false), ("Cause", false), ("NoPlayer", false), ("OutOfTurn", false), ("Empty", false)] (isCl "BadLine") (isiF (isiC []) (isCl "BadLine"))) (aCons (v 0) (aCons (k (.cls "BadLine")) aNil))) aNil)))))) (sSeq (sSet 1 (bin (addG) (v 1) (lstE (aCons (cal (isiX [("CannotMove", false), ("BadHeld", false), ("BadPlayer", false), ("BadPit", false), ("BadNumber", false), ("BadTurn", false), ("BadRing", false), ("BadEnd", false), ("BadBook", false), ("BadBoard", false), ("BadSum", false), ("BadShape", false), ("BadRoad", false), ("BadClaim", false), ("BadRow", false), ("BadLine", false), ("NoLap", true), ("NoEnd", false), ("NoName", false), ("BadText", false), ("TooMany", false), ("Unlike", false), ("Nothing", false), ("NotWhole", false), ("Cause", false), ("NoPlayer", false), ("OutOfTurn", false), ("Empty", false)] (isCl "NoLap") (isiF (isiC []) (isCl "NoLap"))) (aCons (v 0) (aCons (k (.cls "NoLap")) aNil))) (aCons (cal (isiX [("CannotMove", false), ("BadHeld", false), ("BadPlayer", false), ("BadPit", false), ("BadNumber", false), ("BadTurn", false), ("BadRing", false), ("BadEnd", false), ("BadBook", false), ("BadBoard", false), ("BadSum", false), ("BadShape", false), ("BadRoad", false), ("BadClaim", false), ("BadRow", false), ("BadLine", false), ("NoLap", false), ("NoEnd", true), ("NoName", false), ("BadText", false), ("TooMany", false), ("Unlike", false), ("Nothing", false), ("NotWhole", false), ("Cause", false), ("NoPlayer", false), ("OutOfTurn", false), ("Empty", false)] (isCl "NoEnd") (isiF (isiC []) (isCl "NoEnd"))) (aCons (v 0) (aCons (k (.cls "NoEnd")) aNil))) (aCons (cal (isiX [("CannotMove", false), ("BadHeld", false), ("BadPlayer", false), ("BadPit", false), ("BadNumber", false), ("BadTurn", false), ("BadRing", false), ("BadEnd", false), ("BadBook", false), ("BadBoard", false), ("BadSum", false), ("BadShape", false), ("BadRoad", false), ("BadClaim", false), ("BadRow", false), ("BadLine", false), ("NoLap", false), ("NoEnd", false), ("NoName", true), ("BadText", false), ("TooMany", false), ("Unlike", false), ("Nothing", false), ("NotWhole", false), ("Cause", false), ("NoPlayer", false), ("OutOfTurn", false), ("Empty", false)] (isCl "NoName") (isiF (isiC []) (isCl "NoName"))) (aCons (v 0) (aCons (k (.cls "NoName")) aNil))) aNil)))))) (sSeq (sSet 1 (bin (addG) (v 1) (lstE (aCons (cal (isiX [("CannotMove", false), ("BadHeld", false), ("BadPlayer", false), ("BadPit", false), ("BadNumber", false), ("BadTurn", false), ("BadRing", false), ("BadEnd", false), ("BadBook", false), ("BadBoard", false), ("BadSum", false), ("BadShape", false), ("BadRoad", false), ("BadClaim", false), ("BadRow", false), ("BadLine", false), ("NoLap", false), ("NoEnd", false), ("NoName", false), ("BadText", true), ("TooMany", false), ("Unlike", false), ("Nothing", false), ("NotWhole", false), ("Cause", false), ("NoPlayer", false), ("OutOfTurn", false), ("Empty", false)] (isCl "BadText") (isiF (isiC []) (isCl "BadText"))) (aCons (v 0) (aCons (k (.cls "BadText")) aNil))) (aCons (cal (isiX [("CannotMove", false), ("BadHeld", false), ("BadPlayer", false), ("BadPit", false), ("BadNumber", false), ("BadTurn", false), ("BadRing", false), ("BadEnd", false), ("BadBook", false), ("BadBoard", false), ("BadSum", false), ("BadShape", false), ("BadRoad", false), ("BadClaim", false), ("BadRow", false), ("BadLine", false), ("NoLap", false), ("NoEnd", false), ("NoName", false), ("BadText", false), ("TooMany", true), ("Unlike", false), ("Nothing", false), ("NotWhole", false), ("Cause", false), ("NoPlayer", false), ("OutOfTurn", false), ("Empty", false)] (isCl "TooMany") (isiF (isiC []) (isCl "TooMany"))) (aCons (v 0) (aCons (k (.cls "TooMany")) aNil))) (aCons (cal (isiX [("CannotMove", true), ("BadHeld", false), ("BadPlayer", false), ("BadPit", false), ("BadNumber", false), ("BadTurn", false), ("BadRing", false), ("BadEnd", false), ("BadBook", false), ("BadBoard", false), ("BadSum", false), ("BadShape", false), ("BadRoad", false), ("BadClaim", false), ("BadRow", false), ("BadLine", false), ("NoLap", false), ("NoEnd", false), ("NoName", false), ("BadText", false), ("TooMany", false), ("Unlike", false), ("Nothing", false), ("NotWhole", false), ("Cause", false), ("NoPlayer", false), ("OutOfTurn", false), ("Empty", false)] (isCl "CannotMove") (isiF (isiC []) (isCl "CannotMove"))) (aCons (v 0) (aCons (k (.cls "CannotMove")) aNil))) aNil)))))) (sSeq (sSet 1 (bin (addG) (v 1) (lstE (aCons (cal (isiX [("CannotMove", false), ("BadHeld", false), ("BadPlayer", false), ("BadPit", false), ("BadNumber", false), ("BadTurn", false), ("BadRing", false), ("BadEnd", false), ("BadBook", false), ("BadBoard", false), ("BadSum", false), ("BadShape", false), ("BadRoad", false), ("BadClaim", false), ("BadRow", false), ("BadLine", false), ("NoLap", false), ("NoEnd", false), ("NoName", false), ("BadText", false), ("TooMany", false), ("Unlike", true), ("Nothing", false), ("NotWhole", false), ("Cause", false), ("NoPlayer", false), ("OutOfTurn", false), ("Empty", false)] (isCl "Unlike") (isiF (isiC []) (isCl "Unlike"))) (aCons (v 0) (aCons (k (.cls "Unlike")) aNil))) (aCons (cal (isiX [("CannotMove", false), ("BadHeld", false), ("BadPlayer", false), ("BadPit", false), ("BadNumber", false), ("BadTurn", false), ("BadRing", false), ("BadEnd", false), ("BadBook", false), ("BadBoard", false), ("BadSum", false), ("BadShape", false), ("BadRoad", false), ("BadClaim", false), ("BadRow", false), ("BadLine", false), ("NoLap", false), ("NoEnd", false), ("NoName", false), ("BadText", false), ("TooMany", false), ("Unlike", false), ("Nothing", true), ("NotWhole", false), ("Cause", false), ("NoPlayer", false), ("OutOfTurn", false), ("Empty", false)] (isCl "Nothing") (isiF (isiC []) (isCl "Nothing"))) (aCons (v 0) (aCons (k (.cls "Nothing")) aNil))) (aCons (cal (isiX [("CannotMove", false), ("BadHeld", false), ("BadPlayer", false), ("BadPit", false), ("BadNumber", false), ("BadTurn", false), ("BadRing", false), ("BadEnd", false), ("BadBook", false), ("BadBoard", false), ("BadSum", false), ("BadShape", false), ("BadRoad", false), ("BadClaim", false), ("BadRow", false), ("BadLine", false), ("NoLap", false), ("NoEnd", false), ("NoName", false), ("BadText", false), ("TooMany", false), ("Unlike", false), ("Nothing", false), ("NotWhole", true), ("Cause", false), ("NoPlayer", false), ("OutOfTurn", false), ("Empty", false)] (isCl "NotWhole") (isiF (isiC []) (isCl "NotWhole"))) (aCons (v 0) (aCons (k (.cls "NotWhole")) aNil))) aNil)))))) (sSeq (sSet 1 (bin (addG) (v 1) (lstE (aCons (cal (isiX [("CannotMove", false), ("BadHeld", false), ("BadPlayer", false), ("BadPit", false), ("BadNumber", false), ("BadTurn", false), ("BadRing", false), ("BadEnd", false), ("BadBook", false), ("BadBoard", false), ("BadSum", false), ("BadShape", false), ("BadRoad", false), ("BadClaim", false), ("BadRow", false), ("BadLine", false), ("NoLap", false), ("NoEnd", false), ("NoName", false), ("BadText", false), ("TooMany", false), ("Unlike", false), ("Nothing", false), ("NotWhole", false), ("Cause", true), ("NoPlayer", true), ("OutOfTurn", true), ("Empty", true)] (isCl "Cause") (isiF (isiC []) (isCl "Cause"))) (aCons (v 0) (aCons (k (.cls "Cause")) aNil))) (aCons (cal (isiX [("CannotMove", false), ("BadHeld", false), ("BadPlayer", false), ("BadPit", false), ("BadNumber", false), ("BadTurn", false), ("BadRing", false), ("BadEnd", false), ("BadBook", false), ("BadBoard", false), ("BadSum", false), ("BadShape", false), ("BadRoad", false), ("BadClaim", false), ("BadRow", false), ("BadLine", false), ("NoLap", false), ("NoEnd", false), ("NoName", false), ("BadText", false), ("TooMany", false), ("Unlike", false), ("Nothing", false), ("NotWhole", false), ("Cause", false), ("NoPlayer", true), ("OutOfTurn", false), ("Empty", false)] (isCl "NoPlayer") (isiF (isiC []) (isCl "NoPlayer"))) (aCons (v 0) (aCons (k (.cls "NoPlayer")) aNil))) (aCons (cal (isiX [("CannotMove", false), ("BadHeld", false), ("BadPlayer", false), ("BadPit", false), ("BadNumber", false), ("BadTurn", false), ("BadRing", false), ("BadEnd", false), ("BadBook", false), ("BadBoard", false), ("BadSum", false), ("BadShape", false), ("BadRoad", false), ("BadClaim", false), ("BadRow", false), ("BadLine", false), ("NoLap", false), ("NoEnd", false), ("NoName", false), ("BadText", false), ("TooMany", false), ("Unlike", false), ("Nothing", false), ("NotWhole", false), ("Cause", false), ("NoPlayer", false), ("OutOfTurn", true), ("Empty", false)] (isCl "OutOfTurn") (isiF (isiC []) (isCl "OutOfTurn"))) (aCons (v 0) (aCons (k (.cls "OutOfTurn")) aNil))) aNil)))))) (sSeq (sRet (lcE (.tp [2, 3]) (iEn (aCons (bin (addG) (v 1) (lstE (aCons (cal (isiX [("CannotMove", false), ("BadHeld", false), ("BadPlayer", false), ("BadPit", false), ("BadNumber", false), ("BadTurn", false), ("BadRing", false), ("BadEnd", false), ("BadBook", false), ("BadBoard", false), ("BadSum", false), ("BadShape", false), ("BadRoad", false), ("BadClaim", false), ("BadRow", false), ("BadLine", false), ("NoLap", false), ("NoEnd", false), ("NoName", false), ("BadText", false), ("TooMany", false), ("Unlike", false), ("Nothing", false), ("NotWhole", false), ("Cause", false), ("NoPlayer", false), ("OutOfTurn", false), ("Empty", true)] (isCl "Empty") (isiF (isiC []) (isCl "Empty"))) (aCons (v 0) (aCons (k (.cls "Empty")) aNil))) aNil))) aNil)) (tru (v 3)) (v 2))) sNil))))))))))
theorem w_law_kinds (T : TX K mg) : FnFG P w K mg base 1 (He.ga K "_law_kinds") F_law_kinds := by
  obtain ⟨fd, F⟩ := T.says.def_ 7
  exact okFG (j := 0) (st := s_law_kinds) F sc_law_kinds rfl rfl (fun _ _ _ _ _ _ us hl => match us, hl with | [_], _ => rfl) (fun cdv A outer s H E hgd hr => qs_cons (qs_set 1 (qe_lst (qa_cons (qe_blt (ix_BadHeld T) (T.free "isinstance" (by decide +kernel)) (qa_cons (qv 0) (qa_cons (qg_cls (T.glo "BadHeld" (by decide +kernel))) qa_nil))) (qa_cons (qe_blt (ix_BadPlayer T) (T.free "isinstance" (by decide +kernel)) (qa_cons (qv 0) (qa_cons (qg_cls (T.glo "BadPlayer" (by decide +kernel))) qa_nil))) (qa_cons (qe_blt (ix_BadPit T) (T.free "isinstance" (by decide +kernel)) (qa_cons (qv 0) (qa_cons (qg_cls (T.glo "BadPit" (by decide +kernel))) qa_nil))) qa_nil)))) sc_law_kinds.nd) (qs_cons (qs_set 1 (qe_bin (of_add) (qv 1) (qe_lst (qa_cons (qe_blt (ix_BadNumber T) (T.free "isinstance" (by decide +kernel)) (qa_cons (qv 0) (qa_cons (qg_cls (T.glo "BadNumber" (by decide +kernel))) qa_nil))) (qa_cons (qe_blt (ix_BadTurn T) (T.free "isinstance" (by decide +kernel)) (qa_cons (qv 0) (qa_cons (qg_cls (T.glo "BadTurn" (by decide +kernel))) qa_nil))) (qa_cons (qe_blt (ix_BadRing T) (T.free "isinstance" (by decide +kernel)) (qa_cons (qv 0) (qa_cons (qg_cls (T.glo "BadRing" (by decide +kernel))) qa_nil))) qa_nil))))) sc_law_kinds.nd) (qs_cons (qs_set 1 (qe_bin (of_add) (qv 1) (qe_lst (qa_cons (qe_blt (ix_BadEnd T) (T.free "isinstance" (by decide +kernel)) (qa_cons (qv 0) (qa_cons (qg_cls (T.glo "BadEnd" (by decide +kernel))) qa_nil))) (qa_cons (qe_blt (ix_BadBook T) (T.free "isinstance" (by decide +kernel)) (qa_cons (qv 0) (qa_cons (qg_cls (T.glo "BadBook" (by decide +kernel))) qa_nil))) (qa_cons (qe_blt (ix_BadBoard T) (T.free "isinstance" (by decide +kernel)) (qa_cons (qv 0) (qa_cons (qg_cls (T.glo "BadBoard" (by decide +kernel))) qa_nil))) qa_nil))))) sc_law_kinds.nd) (qs_cons (qs_set 1 (qe_bin (of_add) (qv 1) (qe_lst (qa_cons (qe_blt (ix_BadSum T) (T.free "isinstance" (by decide +kernel)) (qa_cons (qv 0) (qa_cons (qg_cls (T.glo "BadSum" (by decide +kernel))) qa_nil))) (qa_cons (qe_blt (ix_BadShape T) (T.free "isinstance" (by decide +kernel)) (qa_cons (qv 0) (qa_cons (qg_cls (T.glo "BadShape" (by decide +kernel))) qa_nil))) (qa_cons (qe_blt (ix_BadRoad T) (T.free "isinstance" (by decide +kernel)) (qa_cons (qv 0) (qa_cons (qg_cls (T.glo "BadRoad" (by decide +kernel))) qa_nil))) qa_nil))))) sc_law_kinds.nd) (qs_cons (qs_set 1 (qe_bin (of_add) (qv 1) (qe_lst (qa_cons (qe_blt (ix_BadClaim T) (T.free "isinstance" (by decide +kernel)) (qa_cons (qv 0) (qa_cons (qg_cls (T.glo "BadClaim" (by decide +kernel))) qa_nil))) (qa_cons (qe_blt (ix_BadRow T) (T.free "isinstance" (by decide +kernel)) (qa_cons (qv 0) (qa_cons (qg_cls (T.glo "BadRow" (by decide +kernel))) qa_nil))) (qa_cons (qe_blt (ix_BadLine T) (T.free "isinstance" (by decide +kernel)) (qa_cons (qv 0) (qa_cons (qg_cls (T.glo "BadLine" (by decide +kernel))) qa_nil))) qa_nil))))) sc_law_kinds.nd) (qs_cons (qs_set 1 (qe_bin (of_add) (qv 1) (qe_lst (qa_cons (qe_blt (ix_NoLap T) (T.free "isinstance" (by decide +kernel)) (qa_cons (qv 0) (qa_cons (qg_cls (T.glo "NoLap" (by decide +kernel))) qa_nil))) (qa_cons (qe_blt (ix_NoEnd T) (T.free "isinstance" (by decide +kernel)) (qa_cons (qv 0) (qa_cons (qg_cls (T.glo "NoEnd" (by decide +kernel))) qa_nil))) (qa_cons (qe_blt (ix_NoName T) (T.free "isinstance" (by decide +kernel)) (qa_cons (qv 0) (qa_cons (qg_cls (T.glo "NoName" (by decide +kernel))) qa_nil))) qa_nil))))) sc_law_kinds.nd) (qs_cons (qs_set 1 (qe_bin (of_add) (qv 1) (qe_lst (qa_cons (qe_blt (ix_BadText T) (T.free "isinstance" (by decide +kernel)) (qa_cons (qv 0) (qa_cons (qg_cls (T.glo "BadText" (by decide +kernel))) qa_nil))) (qa_cons (qe_blt (ix_TooMany T) (T.free "isinstance" (by decide +kernel)) (qa_cons (qv 0) (qa_cons (qg_cls (T.glo "TooMany" (by decide +kernel))) qa_nil))) (qa_cons (qe_blt (ix_CannotMove T) (T.free "isinstance" (by decide +kernel)) (qa_cons (qv 0) (qa_cons (qg_cls (T.glo "CannotMove" (by decide +kernel))) qa_nil))) qa_nil))))) sc_law_kinds.nd) (qs_cons (qs_set 1 (qe_bin (of_add) (qv 1) (qe_lst (qa_cons (qe_blt (ix_Unlike T) (T.free "isinstance" (by decide +kernel)) (qa_cons (qv 0) (qa_cons (qg_cls (T.glo "Unlike" (by decide +kernel))) qa_nil))) (qa_cons (qe_blt (ix_Nothing T) (T.free "isinstance" (by decide +kernel)) (qa_cons (qv 0) (qa_cons (qg_cls (T.glo "Nothing" (by decide +kernel))) qa_nil))) (qa_cons (qe_blt (ix_NotWhole T) (T.free "isinstance" (by decide +kernel)) (qa_cons (qv 0) (qa_cons (qg_cls (T.glo "NotWhole" (by decide +kernel))) qa_nil))) qa_nil))))) sc_law_kinds.nd) (qs_cons (qs_set 1 (qe_bin (of_add) (qv 1) (qe_lst (qa_cons (qe_blt (ix_Cause T) (T.free "isinstance" (by decide +kernel)) (qa_cons (qv 0) (qa_cons (qg_cls (T.glo "Cause" (by decide +kernel))) qa_nil))) (qa_cons (qe_blt (ix_NoPlayer T) (T.free "isinstance" (by decide +kernel)) (qa_cons (qv 0) (qa_cons (qg_cls (T.glo "NoPlayer" (by decide +kernel))) qa_nil))) (qa_cons (qe_blt (ix_OutOfTurn T) (T.free "isinstance" (by decide +kernel)) (qa_cons (qv 0) (qa_cons (qg_cls (T.glo "OutOfTurn" (by decide +kernel))) qa_nil))) qa_nil))))) sc_law_kinds.nd) (qs_cons (qs_ret (qe_lc (own := [("_law_k", 2), ("_law_is_one", 3)]) (.tp [2, 3]) rfl rfl sc_law_kinds.nd (qi_enum (T.free "enumerate" (by decide +kernel)) (qa_cons (qe_bin (of_add) (qv 1) (qe_lst (qa_cons (qe_blt (ix_Empty T) (T.free "isinstance" (by decide +kernel)) (qa_cons (qv 0) (qa_cons (qg_cls (T.glo "Empty" (by decide +kernel))) qa_nil))) qa_nil))) qa_nil)) (blkOk_by (N := N_law_kinds) (sc := defScope s_law_kinds) (by decide +kernel)) (fun _ _ _ _ _ => qg_tup rfl (qgs_cons 2 (qgs_cons 3 (qgs_nil) sc_law_kinds.nd) sc_law_kinds.nd) rfl) (fun _ _ _ _ _ => qts_one (qt_tru (qv 3))) (fun _ _ _ _ _ => qv 2))) qs_nil))))))))))
theorem xf_cause {X : Cx} (T : TX X.K X.mg) : ∀ c ∈ ["CannotMove"], XC X.K (He.ga X.K (Str.ofString c)) ∧ PySem.W.findIn X.K (.ref (He.ga X.K (Str.ofString c))) (Str.ofString "cause") = some none := by
  intro c h
  simp only [List.mem_cons, List.not_mem_nil, or_false] at h
  rcases h with rfl
  · exact ⟨T.xc "CannotMove" (by decide +kernel), T.nf "CannotMove" "cause" (by decide +kernel)⟩
theorem xf_most {X : Cx} (T : TX X.K X.mg) : ∀ c ∈ ["TooMany"], XC X.K (He.ga X.K (Str.ofString c)) ∧ PySem.W.findIn X.K (.ref (He.ga X.K (Str.ofString c))) (Str.ofString "most") = some none := by
  intro c h
  simp only [List.mem_cons, List.not_mem_nil, or_false] at h
  rcases h with rfl
  · exact ⟨T.xc "TooMany" (by decide +kernel), T.nf "TooMany" "most" (by decide +kernel)⟩
theorem xf_what {X : Cx} (T : TX X.K X.mg) : ∀ c ∈ ["TooMany"], XC X.K (He.ga X.K (Str.ofString c)) ∧ PySem.W.findIn X.K (.ref (He.ga X.K (Str.ofString c))) (Str.ofString "what") = some none := by
  intro c h
  simp only [List.mem_cons, List.not_mem_nil, or_false] at h
  rcases h with rfl
  · exact ⟨T.xc "TooMany" (by decide +kernel), T.nf "TooMany" "what" (by decide +kernel)⟩
theorem xf_line {X : Cx} (T : TX X.K X.mg) : ∀ c ∈ ["BadText"], XC X.K (He.ga X.K (Str.ofString c)) ∧ PySem.W.findIn X.K (.ref (He.ga X.K (Str.ofString c))) (Str.ofString "line") = some none := by
  intro c h
  simp only [List.mem_cons, List.not_mem_nil, or_false] at h
  rcases h with rfl
  · exact ⟨T.xc "BadText" (by decide +kernel), T.nf "BadText" "line" (by decide +kernel)⟩
abbrev N_law_two_right : List Str := ["_law_one", "_law_more", "_law_first", "_law_later", "_law_text", "_law_many", "_law_stopped"]
theorem sc_law_two_right : FnScope N_law_two_right ["_law_one", "_law_more"] (defScope s_law_two_right) := ⟨rfl, rfl, rfl, by decide +kernel, rfl, by decide +kernel, by decide +kernel⟩
noncomputable def F_law_two_right : Fn := dfn 2 7 (sSeq (sSet 2 (lstE (aCons (mkX "BadText" ["line", "word"] (aCons (v 0) (aCons (v 1) aNil))) (aCons (mkX "TooMany" ["what", "most"] (aCons (v 0) (aCons (v 1) aNil))) (aCons (mkX "CannotMove" ["at", "cause"] (aCons (v 0) (aCons (v 1) aNil))) aNil))))) (sSeq (sSet 3 (lstE (aCons (mkX "BadText" ["line", "word"] (revA (aCons (v 1) (aCons (v 0) aNil)))) (aCons (mkX "TooMany" ["what", "most"] (revA (aCons (v 1) (aCons (v 0) aNil)))) (aCons (mkX "CannotMove" ["at", "cause"] (revA (aCons (v 1) (aCons (v 0) aNil)))) aNil))))) (sSeq (sFor (.tl [4, 5, 6]) (iSeq (lstE (aCons (v 2) (aCons (v 3) aNil)))) (sSeq (sIf (tst (bin (eqG true) (cal (reprA (reprN (reprI reprB))) (aCons (lstE (aCons (una (fldX ["BadText"] "line" fun _ _ => .no) (v 4)) (aCons (una (fldX ["BadLine", "BadText"] "word" fun _ _ => .no) (v 4)) (aCons (una (fldX ["TooMany"] "what" fun _ _ => .no) (v 5)) (aCons (una (fldX ["TooMany"] "most" fun _ _ => .no) (v 5)) (aCons (una (fldX ["CannotMove", "BadRow", "NoEnd"] "at" fun _ _ => .no) (v 6)) (aCons (una (fldX ["CannotMove"] "cause" fun _ _ => .no) (v 6)) aNil))))))) aNil)) (cal (reprA (reprN (reprI reprB))) (aCons (bin (mulG) (lstE (aCons (v 0) (aCons (v 1) aNil))) (k (.int 3))) aNil)))) (sSeq (sRet (k (.bl false))) sNil) sNil) (sSeq (sIf (tst (bin (eqG true) (lstE (aCons (cal F_law_kinds (aCons (v 4) aNil)) (aCons (cal F_law_kinds (aCons (v 5) aNil)) (aCons (cal F_law_kinds (aCons (v 6) aNil)) aNil)))) (lstE (aCons (lstE (aCons (k (.int 18)) aNil)) (aCons (lstE (aCons (k (.int 19)) aNil)) (aCons (lstE (aCons (k (.int 20)) aNil)) aNil)))))) (sSeq (sRet (k (.bl false))) sNil) sNil) sNil))) (sSeq (sRet (k (.bl true))) sNil))))
theorem w_law_two_right (T : TX K mg) : FnFG P w K mg base 3 (He.ga K "_law_two_right") F_law_two_right := by
  obtain ⟨fd, F⟩ := T.says.def_ 8
  exact okFG (j := 2) (st := s_law_two_right) F sc_law_two_right rfl rfl (fun _ _ _ _ _ _ us hl => match us, hl with | [_, _], _ => rfl) (fun cdv A outer s H E hgd hr => qs_cons (qs_set 2 (qe_lst (qa_cons (qe_mkx2 (oex_of (T.xc "BadText" (by decide +kernel)) (T.xi "BadText" (by decide +kernel))) (T.meth "BadText" "__init__" (by decide +kernel)).at_ (isFn_ty (T.meth "BadText" "__init__" (by decide +kernel)).fn) (x_BadText T) (hr.mono (by decide)) (xb_BadText T) (T.glo "BadText" (by decide +kernel)) (qa_cons (qv 0) (qa_cons (qv 1) qa_nil))) (qa_cons (qe_mkx2 (oex_of (T.xc "TooMany" (by decide +kernel)) (T.xi "TooMany" (by decide +kernel))) (T.meth "TooMany" "__init__" (by decide +kernel)).at_ (isFn_ty (T.meth "TooMany" "__init__" (by decide +kernel)).fn) (x_TooMany T) (hr.mono (by decide)) (xb_TooMany T) (T.glo "TooMany" (by decide +kernel)) (qa_cons (qv 0) (qa_cons (qv 1) qa_nil))) (qa_cons (qe_mkx2 (oex_of (T.xc "CannotMove" (by decide +kernel)) (T.xi "CannotMove" (by decide +kernel))) (T.meth "CannotMove" "__init__" (by decide +kernel)).at_ (isFn_ty (T.meth "CannotMove" "__init__" (by decide +kernel)).fn) (x_CannotMove T) (hr.mono (by decide)) (xb_CannotMove T) (T.glo "CannotMove" (by decide +kernel)) (qa_cons (qv 0) (qa_cons (qv 1) qa_nil))) qa_nil)))) sc_law_two_right.nd) (qs_cons (qs_set 3 (qe_lst (qa_cons (qe_mkxK2 (oex_of (T.xc "BadText" (by decide +kernel)) (T.xi "BadText" (by decide +kernel))) (T.meth "BadText" "__init__" (by decide +kernel)).at_ (isFn_ty (T.meth "BadText" "__init__" (by decide +kernel)).fn) (x_BadText T) (hr.mono (by decide)) (xk_BadText T) (T.glo "BadText" (by decide +kernel)) (qk_cons (qv 1) (qk_cons (qv 0) (qk_nil)))) (qa_cons (qe_mkxK2 (oex_of (T.xc "TooMany" (by decide +kernel)) (T.xi "TooMany" (by decide +kernel))) (T.meth "TooMany" "__init__" (by decide +kernel)).at_ (isFn_ty (T.meth "TooMany" "__init__" (by decide +kernel)).fn) (x_TooMany T) (hr.mono (by decide)) (xk_TooMany T) (T.glo "TooMany" (by decide +kernel)) (qk_cons (qv 1) (qk_cons (qv 0) (qk_nil)))) (qa_cons (qe_mkxK2 (oex_of (T.xc "CannotMove" (by decide +kernel)) (T.xi "CannotMove" (by decide +kernel))) (T.meth "CannotMove" "__init__" (by decide +kernel)).at_ (isFn_ty (T.meth "CannotMove" "__init__" (by decide +kernel)).fn) (x_CannotMove T) (hr.mono (by decide)) (xk_CannotMove T) (T.glo "CannotMove" (by decide +kernel)) (qk_cons (qv 1) (qk_cons (qv 0) (qk_nil)))) qa_nil)))) sc_law_two_right.nd) (qs_cons (qs_for (passes_of rfl) rfl (qi_seq (qe_lst (qa_cons (qv 2) (qa_cons (qv 3) qa_nil)))) (qg_lst rfl (qgs_cons 4 (qgs_cons 5 (qgs_cons 6 (qgs_nil) sc_law_two_right.nd) sc_law_two_right.nd) sc_law_two_right.nd) rfl) (qs_cons (qs_if (qt_cmp (of_ne hr.units) (qe_blt (cf_reprA hgd hr.units (cf_reprN (cf_reprI (cf_repr hgd hr.units)))) (T.free "repr" (by decide +kernel)) (qa_cons (qe_lst (qa_cons (qe_fldX (xf_line T) (qv 4)) (qa_cons (qe_fldX (xf_word T) (qv 4)) (qa_cons (qe_fldX (xf_what T) (qv 5)) (qa_cons (qe_fldX (xf_most T) (qv 5)) (qa_cons (qe_fldX (xf_at T) (qv 6)) (qa_cons (qe_fldX (xf_cause T) (qv 6)) qa_nil))))))) qa_nil)) (qe_blt (cf_reprA hgd hr.units (cf_reprN (cf_reprI (cf_repr hgd hr.units)))) (T.free "repr" (by decide +kernel)) (qa_cons (qe_bin (of_mul) (qe_lst (qa_cons (qv 0) (qa_cons (qv 1) qa_nil))) qk_int) qa_nil))) (qs_cons (qs_ret qk_bl) qs_nil) qs_nil) (qs_cons (qs_if (qt_cmp (of_ne hr.units) (qe_lst (qa_cons (qe_callG (w_law_kinds T) hgd (hr.mono (by decide)) (T.glo "_law_kinds" (by decide +kernel)) (kp_law_kinds T) (qa_cons (qv 4) qa_nil)) (qa_cons (qe_callG (w_law_kinds T) hgd (hr.mono (by decide)) (T.glo "_law_kinds" (by decide +kernel)) (kp_law_kinds T) (qa_cons (qv 5) qa_nil)) (qa_cons (qe_callG (w_law_kinds T) hgd (hr.mono (by decide)) (T.glo "_law_kinds" (by decide +kernel)) (kp_law_kinds T) (qa_cons (qv 6) qa_nil)) qa_nil)))) (qe_lst (qa_cons (qe_lst (qa_cons qk_int qa_nil)) (qa_cons (qe_lst (qa_cons qk_int qa_nil)) (qa_cons (qe_lst (qa_cons qk_int qa_nil)) qa_nil))))) (qs_cons (qs_ret qk_bl) qs_nil) qs_nil) qs_nil))) (qs_cons (qs_ret qk_bl) qs_nil))))
theorem cc_LapError {X : Cx} (T : TX X.K X.mg) : CallF X (.builtin "isinstance") (isiF (isiC []) (isCl "LapError")) := by
  refine cf_isiC (fun n h => kt_six T "LapError" (by decide +kernel) n h) fun c b h => ?_
  cases h
theorem ix_LapError {X : Cx} (T : TX X.K X.mg) : CallF X (.builtin "isinstance") (isiX [("CannotMove", true), ("BadHeld", true), ("BadPlayer", true), ("BadPit", true), ("BadNumber", true), ("BadTurn", true), ("BadRing", true), ("BadEnd", true), ("BadBook", true), ("BadBoard", true), ("BadSum", true), ("BadShape", true), ("BadRoad", true), ("BadClaim", true), ("BadRow", true), ("BadLine", true), ("NoLap", true), ("NoEnd", true), ("NoName", true), ("BadText", true), ("TooMany", true), ("Unlike", true), ("Nothing", true), ("NotWhole", true), ("Cause", true), ("NoPlayer", true), ("OutOfTurn", true), ("Empty", true)] (isCl "LapError") (isiF (isiC []) (isCl "LapError"))) := by
  refine cf_isiX (cc_LapError T) (fun c h G v r => by cases r <;> simp [isCl] at h; subst h; exact .own _) T.cg T.ct fun c b h => ?_
  have h := memLk h
  have hh := List.all_eq_true.mp (show ([("CannotMove", true), ("BadHeld", true), ("BadPlayer", true), ("BadPit", true), ("BadNumber", true), ("BadTurn", true), ("BadRing", true), ("BadEnd", true), ("BadBook", true), ("BadBoard", true), ("BadSum", true), ("BadShape", true), ("BadRoad", true), ("BadClaim", true), ("BadRow", true), ("BadLine", true), ("NoLap", true), ("NoEnd", true), ("NoName", true), ("BadText", true), ("TooMany", true), ("Unlike", true), ("Nothing", true), ("NotWhole", true), ("Cause", true), ("NoPlayer", true), ("OutOfTurn", true), ("Empty", true)] : List (String × Bool)).all (fun p => decide (Str.ofString p.1 ∈ xcs) && decide ((Str.ofString p.1, Str.ofString "LapError", p.2) ∈ kitos)) = true by decide +kernel) (c, b) h
  simp only [Bool.and_eq_true, decide_eq_true_eq] at hh
  exact ⟨T.xc (Str.ofString c) hh.1, T.ko (Str.ofString c) (Str.ofString "LapError") b hh.2⟩
theorem xf_player {X : Cx} (T : TX X.K X.mg) : ∀ c ∈ ["OutOfTurn"], XC X.K (He.ga X.K (Str.ofString c)) ∧ PySem.W.findIn X.K (.ref (He.ga X.K (Str.ofString c))) (Str.ofString "player") = some none := by
  intro c h
  simp only [List.mem_cons, List.not_mem_nil, or_false] at h
  rcases h with rfl
  · exact ⟨T.xc "OutOfTurn" (by decide +kernel), T.nf "OutOfTurn" "player" (by decide +kernel)⟩
abbrev N_law_causes_right : List Str := ["_law_one", "_law_causes", "_law_cause_so", "_law_seen", "_law_error"]
theorem sc_law_causes_right : FnScope N_law_causes_right ["_law_one"] (defScope s_law_causes_right) := ⟨rfl, rfl, rfl, by decide +kernel, rfl, by decide +kernel, by decide +kernel⟩
noncomputable def F_law_causes_right : Fn := dfn 1 5 (sSeq (sSet 1 (lstE (aCons (mkX "NoPlayer" ["pit"] (aCons (v 0) aNil)) (aCons (mkX "OutOfTurn" ["player"] (aCons (v 0) aNil)) (aCons (mkX "Empty" ["pit"] (aCons (v 0) aNil)) (aCons (mkX "NoPlayer" ["pit"] (aCons (v 0) aNil)) (aCons (mkX "OutOfTurn" ["player"] (aCons (v 0) aNil)) (aCons (mkX "Empty" ["pit"] (aCons (v 0) aNil)) aNil)))))))) (sSeq (sIf (tst (bin (eqG true) (lcE (.nm 2) (iSeq (v 1)) tYs (cal F_law_kinds (aCons (v 2) aNil))) (bin (mulG) (lstE (aCons (lstE (aCons (k (.int 24)) (aCons (k (.int 25)) aNil))) (aCons (lstE (aCons (k (.int 24)) (aCons (k (.int 26)) aNil))) (aCons (lstE (aCons (k (.int 24)) (aCons (k (.int 27)) aNil))) aNil)))) (k (.int 2))))) (sSeq (sRet (k (.bl false))) sNil) sNil) (sSeq (sSet 3 (lstE (aCons (una (fldX ["NoLap", "NoPlayer", "Empty"] "pit" fun _ _ => .no) (bin ixG (v 1) (k (.int 0)))) (aCons (una (fldX ["OutOfTurn"] "player" fun _ _ => .no) (bin ixG (v 1) (k (.int 1)))) (aCons (una (fldX ["NoLap", "NoPlayer", "Empty"] "pit" fun _ _ => .no) (bin ixG (v 1) (k (.int 2)))) (aCons (una (fldX ["NoLap", "NoPlayer", "Empty"] "pit" fun _ _ => .no) (bin ixG (v 1) (k (.int 3)))) (aCons (una (fldX ["OutOfTurn"] "player" fun _ _ => .no) (bin ixG (v 1) (k (.int 4)))) (aCons (una (fldX ["NoLap", "NoPlayer", "Empty"] "pit" fun _ _ => .no) (bin ixG (v 1) (k (.int 5)))) aNil)))))))) (sSeq (sIf (tOr (tst (bin (eqG true) (cal (reprA (reprN (reprI reprB))) (aCons (v 3) aNil)) (cal (reprA (reprN (reprI reprB))) (aCons (bin (mulG) (lstE (aCons (v 0) aNil)) (k (.int 6))) aNil)))) (tst (bin (eqG true) (lcE (.nm 2) (iSeq (v 1)) tYs (cal (isiX [("CannotMove", true), ("BadHeld", true), ("BadPlayer", true), ("BadPit", true), ("BadNumber", true), ("BadTurn", true), ("BadRing", true), ("BadEnd", true), ("BadBook", true), ("BadBoard", true), ("BadSum", true), ("BadShape", true), ("BadRoad", true), ("BadClaim", true), ("BadRow", true), ("BadLine", true), ("NoLap", true), ("NoEnd", true), ("NoName", true), ("BadText", true), ("TooMany", true), ("Unlike", true), ("Nothing", true), ("NotWhole", true), ("Cause", true), ("NoPlayer", true), ("OutOfTurn", true), ("Empty", true)] (isCl "LapError") (isiF (isiC []) (isCl "LapError"))) (aCons (v 2) (aCons (k (.cls "LapError")) aNil)))) (bin (mulG) (lstE (aCons (k (.bl true)) aNil)) (k (.int 6)))))) (sSeq (sRet (k (.bl false))) sNil) sNil) (sSeq (sRet (bin (eqG false) (lcE (.nm 4) (iSeq (lstE (aCons (mkX "Unlike" [] aNil) (aCons (mkX "Nothing" [] aNil) (aCons (mkX "NotWhole" [] aNil) (aCons (mkX "Cause" [] aNil) aNil)))))) tYs (cal F_law_kinds (aCons (v 4) aNil))) (lstE (aCons (lstE (aCons (k (.int 21)) aNil)) (aCons (lstE (aCons (k (.int 22)) aNil)) (aCons (lstE (aCons (k (.int 23)) aNil)) (aCons (lstE (aCons (k (.int 24)) aNil)) aNil))))))) sNil)))))
theorem w_law_causes_right (T : TX K mg) : FnFG P w K mg base 3 (He.ga K "_law_causes_right") F_law_causes_right := by
  obtain ⟨fd, F⟩ := T.says.def_ 9
  exact okFG (j := 2) (st := s_law_causes_right) F sc_law_causes_right rfl rfl (fun _ _ _ _ _ _ us hl => match us, hl with | [_], _ => rfl) (fun cdv A outer s H E hgd hr => qs_cons (qs_set 1 (qe_lst (qa_cons (qe_mkx1 (oex_of (T.xc "NoPlayer" (by decide +kernel)) (T.xi "NoPlayer" (by decide +kernel))) (T.meth "NoPlayer" "__init__" (by decide +kernel)).at_ (isFn_ty (T.meth "NoPlayer" "__init__" (by decide +kernel)).fn) (x_NoPlayer T) (hr.mono (by decide)) (xb_NoPlayer T) (T.glo "NoPlayer" (by decide +kernel)) (qa_cons (qv 0) qa_nil)) (qa_cons (qe_mkx1 (oex_of (T.xc "OutOfTurn" (by decide +kernel)) (T.xi "OutOfTurn" (by decide +kernel))) (T.meth "OutOfTurn" "__init__" (by decide +kernel)).at_ (isFn_ty (T.meth "OutOfTurn" "__init__" (by decide +kernel)).fn) (x_OutOfTurn T) (hr.mono (by decide)) (xb_OutOfTurn T) (T.glo "OutOfTurn" (by decide +kernel)) (qa_cons (qv 0) qa_nil)) (qa_cons (qe_mkx1 (oex_of (T.xc "Empty" (by decide +kernel)) (T.xi "Empty" (by decide +kernel))) (T.meth "Empty" "__init__" (by decide +kernel)).at_ (isFn_ty (T.meth "Empty" "__init__" (by decide +kernel)).fn) (x_Empty T) (hr.mono (by decide)) (xb_Empty T) (T.glo "Empty" (by decide +kernel)) (qa_cons (qv 0) qa_nil)) (qa_cons (qe_mkxK1 (oex_of (T.xc "NoPlayer" (by decide +kernel)) (T.xi "NoPlayer" (by decide +kernel))) (T.meth "NoPlayer" "__init__" (by decide +kernel)).at_ (isFn_ty (T.meth "NoPlayer" "__init__" (by decide +kernel)).fn) (x_NoPlayer T) (hr.mono (by decide)) (xk_NoPlayer T) (T.glo "NoPlayer" (by decide +kernel)) (qk_cons (qv 0) (qk_nil))) (qa_cons (qe_mkxK1 (oex_of (T.xc "OutOfTurn" (by decide +kernel)) (T.xi "OutOfTurn" (by decide +kernel))) (T.meth "OutOfTurn" "__init__" (by decide +kernel)).at_ (isFn_ty (T.meth "OutOfTurn" "__init__" (by decide +kernel)).fn) (x_OutOfTurn T) (hr.mono (by decide)) (xk_OutOfTurn T) (T.glo "OutOfTurn" (by decide +kernel)) (qk_cons (qv 0) (qk_nil))) (qa_cons (qe_mkxK1 (oex_of (T.xc "Empty" (by decide +kernel)) (T.xi "Empty" (by decide +kernel))) (T.meth "Empty" "__init__" (by decide +kernel)).at_ (isFn_ty (T.meth "Empty" "__init__" (by decide +kernel)).fn) (x_Empty T) (hr.mono (by decide)) (xk_Empty T) (T.glo "Empty" (by decide +kernel)) (qk_cons (qv 0) (qk_nil))) qa_nil))))))) sc_law_causes_right.nd) (qs_cons (qs_if (qt_cmp (of_ne hr.units) (qe_lc (own := [("_law_cause_so", 2)]) (.nm 2) rfl rfl sc_law_causes_right.nd (qi_seq (qv 1)) (blkOk_by (N := N_law_causes_right) (sc := defScope s_law_causes_right) (by decide +kernel)) (fun _ _ _ _ _ => qg_name 2 sc_law_causes_right.nd) (fun _ _ _ _ _ => pts_yes) (fun _ _ _ _ _ => qe_callG (w_law_kinds T) hgd (hr.mono (by decide)) (T.glo "_law_kinds" (by decide +kernel)) (kp_law_kinds T) (qa_cons (qv 2) qa_nil))) (qe_bin (of_mul) (qe_lst (qa_cons (qe_lst (qa_cons qk_int (qa_cons qk_int qa_nil))) (qa_cons (qe_lst (qa_cons qk_int (qa_cons qk_int qa_nil))) (qa_cons (qe_lst (qa_cons qk_int (qa_cons qk_int qa_nil))) qa_nil)))) qk_int)) (qs_cons (qs_ret qk_bl) qs_nil) qs_nil) (qs_cons (qs_set 3 (qe_lst (qa_cons (qe_fldX (xf_pit T) (qe_ix (qv 1) qk_int)) (qa_cons (qe_fldX (xf_player T) (qe_ix (qv 1) qk_int)) (qa_cons (qe_fldX (xf_pit T) (qe_ix (qv 1) qk_int)) (qa_cons (qe_fldX (xf_pit T) (qe_ix (qv 1) qk_int)) (qa_cons (qe_fldX (xf_player T) (qe_ix (qv 1) qk_int)) (qa_cons (qe_fldX (xf_pit T) (qe_ix (qv 1) qk_int)) qa_nil))))))) sc_law_causes_right.nd) (qs_cons (qs_if (qt_w (qw_or (qt_cmp (of_ne hr.units) (qe_blt (cf_reprA hgd hr.units (cf_reprN (cf_reprI (cf_repr hgd hr.units)))) (T.free "repr" (by decide +kernel)) (qa_cons (qv 3) qa_nil)) (qe_blt (cf_reprA hgd hr.units (cf_reprN (cf_reprI (cf_repr hgd hr.units)))) (T.free "repr" (by decide +kernel)) (qa_cons (qe_bin (of_mul) (qe_lst (qa_cons (qv 0) qa_nil)) qk_int) qa_nil))) (qw_or1 (qt_cmp (of_ne hr.units) (qe_lc (own := [("_law_cause_so", 2)]) (.nm 2) rfl rfl sc_law_causes_right.nd (qi_seq (qv 1)) (blkOk_by (N := N_law_causes_right) (sc := defScope s_law_causes_right) (by decide +kernel)) (fun _ _ _ _ _ => qg_name 2 sc_law_causes_right.nd) (fun _ _ _ _ _ => pts_yes) (fun _ _ _ _ _ => qe_blt (ix_LapError T) (T.free "isinstance" (by decide +kernel)) (qa_cons (qv 2) (qa_cons (qg_cls (T.glo "LapError" (by decide +kernel))) qa_nil)))) (qe_bin (of_mul) (qe_lst (qa_cons qk_bl qa_nil)) qk_int))))) (qs_cons (qs_ret qk_bl) qs_nil) qs_nil) (qs_cons (qs_ret (qe_cmp (of_eq hr.units) (qe_lc (own := [("_law_error", 4)]) (.nm 4) rfl rfl sc_law_causes_right.nd (qi_seq (qe_lst (qa_cons (qe_mkx0 (T.xn "Unlike" (by decide +kernel)) (T.xc "Unlike" (by decide +kernel)) (T.glo "Unlike" (by decide +kernel))) (qa_cons (qe_mkx0 (T.xn "Nothing" (by decide +kernel)) (T.xc "Nothing" (by decide +kernel)) (T.glo "Nothing" (by decide +kernel))) (qa_cons (qe_mkx0 (T.xn "NotWhole" (by decide +kernel)) (T.xc "NotWhole" (by decide +kernel)) (T.glo "NotWhole" (by decide +kernel))) (qa_cons (qe_mkx0 (T.xn "Cause" (by decide +kernel)) (T.xc "Cause" (by decide +kernel)) (T.glo "Cause" (by decide +kernel))) qa_nil)))))) (blkOk_by (N := N_law_causes_right) (sc := defScope s_law_causes_right) (by decide +kernel)) (fun _ _ _ _ _ => qg_name 4 sc_law_causes_right.nd) (fun _ _ _ _ _ => pts_yes) (fun _ _ _ _ _ => qe_callG (w_law_kinds T) hgd (hr.mono (by decide)) (T.glo "_law_kinds" (by decide +kernel)) (kp_law_kinds T) (qa_cons (qv 4) qa_nil))) (qe_lst (qa_cons (qe_lst (qa_cons qk_int qa_nil)) (qa_cons (qe_lst (qa_cons qk_int qa_nil)) (qa_cons (qe_lst (qa_cons qk_int qa_nil)) (qa_cons (qe_lst (qa_cons qk_int qa_nil)) qa_nil))))))) qs_nil)))))
abbrev N_law_caught : List Str := ["_law_one", "_law_error"]
theorem sc_law_caught : FnScope N_law_caught ["_law_one"] (defScope s_law_caught) := ⟨rfl, rfl, rfl, by decide +kernel, rfl, by decide +kernel, by decide +kernel⟩
noncomputable def F_law_caught : Fn := dfn 1 2 (sSeq (sTryR "CannotMove" ["at", "cause"] 1 (aCons (v 0) (aCons (mkX "Empty" ["pit"] (aCons (k (.int 3)) aNil)) aNil)) (anE (cal (isiX [("CannotMove", true), ("BadHeld", false), ("BadPlayer", false), ("BadPit", false), ("BadNumber", false), ("BadTurn", false), ("BadRing", false), ("BadEnd", false), ("BadBook", false), ("BadBoard", false), ("BadSum", false), ("BadShape", false), ("BadRoad", false), ("BadClaim", false), ("BadRow", false), ("BadLine", false), ("NoLap", false), ("NoEnd", false), ("NoName", false), ("BadText", false), ("TooMany", false), ("Unlike", false), ("Nothing", false), ("NotWhole", false), ("Cause", false), ("NoPlayer", false), ("OutOfTurn", false), ("Empty", false)] (isCl "CannotMove") (isiF (isiC []) (isCl "CannotMove"))) (aCons (v 1) (aCons (k (.cls "CannotMove")) aNil))) (anE (bin (eqG false) (cal (reprA (reprN (reprI reprB))) (aCons (una (fldX ["CannotMove", "BadRow", "NoEnd"] "at" fun _ _ => .no) (v 1)) aNil)) (cal (reprA (reprN (reprI reprB))) (aCons (v 0) aNil))) (bin (eqG false) (una (fldX ["NoLap", "NoPlayer", "Empty"] "pit" fun _ _ => .no) (una (fldX ["CannotMove"] "cause" fun _ _ => .no) (v 1))) (k (.int 3)))))) sNil)
theorem w_law_caught (T : TX K mg) : FnFG P w K mg base 3 (He.ga K "_law_caught") F_law_caught := by
  obtain ⟨fd, F⟩ := T.says.def_ 10
  exact okFG (j := 2) (st := s_law_caught) F sc_law_caught rfl rfl (fun _ _ _ _ _ _ us hl => match us, hl with | [_], _ => rfl) (fun cdv A outer s H E hgd hr => qs_cons (qs_tryR2 (i := 1) (c := .ref (gaS K "LapError")) rfl rfl rfl sc_law_caught.nd rfl rfl ⟨rfl, by decide, .inl (T.glo "LapError" (by decide +kernel))⟩ (fun b z => nomatch (show b ∈ ([] : List Addr) from z)) (T.xm "CannotMove" "LapError" (by decide +kernel)) (oex_of (T.xc "CannotMove" (by decide +kernel)) (T.xi "CannotMove" (by decide +kernel))) (T.meth "CannotMove" "__init__" (by decide +kernel)).at_ (isFn_ty (T.meth "CannotMove" "__init__" (by decide +kernel)).fn) (x_CannotMove T) (hr.mono (by decide)) (xb_CannotMove T) (T.glo "CannotMove" (by decide +kernel)) (fun pn xe => qa_cons (qv 0) (qa_cons (qe_mkx1 (oex_of (T.xc "Empty" (by decide +kernel)) (T.xi "Empty" (by decide +kernel))) (T.meth "Empty" "__init__" (by decide +kernel)).at_ (isFn_ty (T.meth "Empty" "__init__" (by decide +kernel)).fn) (x_Empty T) (hr.mono (by decide)) (xb_Empty T) (T.glo "Empty" (by decide +kernel)) (qa_cons qk_int qa_nil)) qa_nil)) (fun a_ pn => qe_and (qe_blt (ix_CannotMove T) (T.free "isinstance" (by decide +kernel)) (qa_cons (qv 1) (qa_cons (qg_cls (T.glo "CannotMove" (by decide +kernel))) qa_nil))) (qe_and (qe_cmp (of_eq hr.units) (qe_blt (cf_reprA hgd hr.units (cf_reprN (cf_reprI (cf_repr hgd hr.units)))) (T.free "repr" (by decide +kernel)) (qa_cons (qe_fldX (xf_at T) (qv 1)) qa_nil)) (qe_blt (cf_reprA hgd hr.units (cf_reprN (cf_reprI (cf_repr hgd hr.units)))) (T.free "repr" (by decide +kernel)) (qa_cons (qv 0) qa_nil))) (qe_one (qe_cmp (of_eq hr.units) (qe_fldX (xf_pit T) (qe_fldX (xf_cause T) (qv 1))) qk_int))))) qs_nil)
theorem ix_ValueError {X : Cx} (T : TX X.K X.mg) : CallF X (.builtin "isinstance") (isiX [("CannotMove", true), ("BadHeld", true), ("BadPlayer", true), ("BadPit", true), ("BadNumber", true), ("BadTurn", true), ("BadRing", true), ("BadEnd", true), ("BadBook", true), ("BadBoard", true), ("BadSum", true), ("BadShape", true), ("BadRoad", true), ("BadClaim", true), ("BadRow", true), ("BadLine", true), ("NoLap", true), ("NoEnd", true), ("NoName", true), ("BadText", true), ("TooMany", true), ("Unlike", true), ("Nothing", true), ("NotWhole", true), ("Cause", true), ("NoPlayer", true), ("OutOfTurn", true), ("Empty", true)] (isTy "ValueError") (fun _ _ => .no)) := by
  refine cf_isiX (fun _ _ _ _ _ _ _ _ _ ⟨_, _, _, _, _, h⟩ => h.elim) (fun c h G v r => by cases r <;> simp [isTy] at h; subst h; exact .ty _) T.cg T.ct fun c b h => ?_
  have h := memLk h
  have hh := List.all_eq_true.mp (show ([("CannotMove", true), ("BadHeld", true), ("BadPlayer", true), ("BadPit", true), ("BadNumber", true), ("BadTurn", true), ("BadRing", true), ("BadEnd", true), ("BadBook", true), ("BadBoard", true), ("BadSum", true), ("BadShape", true), ("BadRoad", true), ("BadClaim", true), ("BadRow", true), ("BadLine", true), ("NoLap", true), ("NoEnd", true), ("NoName", true), ("BadText", true), ("TooMany", true), ("Unlike", true), ("Nothing", true), ("NotWhole", true), ("Cause", true), ("NoPlayer", true), ("OutOfTurn", true), ("Empty", true)] : List (String × Bool)).all (fun p => decide (Str.ofString p.1 ∈ xcs) && decide (Str.ofString p.1 ∈ kvs) && p.2) = true by decide +kernel) (c, b) h
  simp only [Bool.and_eq_true, decide_eq_true_eq] at hh
  exact ⟨T.xc (Str.ofString c) hh.1.1, by rw [show b = true from hh.2]; exact T.kv (Str.ofString c) hh.1.2⟩
abbrev N_law : List Str := ["_law_script", "_law_bag_here", "_law_turn", "_law_one", "_law_more", "_law_named_here", "_law_k", "_law_pair", "_law_error", "_law_seen"]
theorem sc_law : FnScope N_law ["_law_script"] (defScope s_law) := ⟨rfl, rfl, rfl, by decide +kernel, rfl, by decide +kernel, by decide +kernel⟩
noncomputable def F_law : Fn := dfn 1 10 (sSeq (sSet 1 (cal F_law_bag (aCons (v 0) aNil))) (sSeq (sFor (.nm 2) (iR1 (aCons (k (.int 4)) aNil)) (sSeq (sPar 3 4 (aCons (cal F_law_value (aCons (v 1) aNil)) (aCons (cal F_law_value (aCons (v 1) aNil)) aNil))) (sSeq (sSet 5 (cal F_law_named (aCons (v 3) aNil))) (sSeq (sFor (.tp [6, 7]) (iEn (aCons (cal F_law_ones (aCons (v 3) aNil)) aNil)) (sSeq (sIf (tOr (tst (bin (eqG true) (cal (reprA (reprN (reprI reprB))) (aCons (cal F_law_field (aCons (bin ixG (v 7) (k (.int 0))) (aCons (bin ixG (v 7) (k (.int 1))) aNil))) aNil)) (cal (reprA (reprN (reprI reprB))) (aCons (v 3) aNil)))) (tst (bin (eqG true) (cal F_law_kinds (aCons (bin ixG (v 7) (k (.int 0))) aNil)) (lstE (aCons (v 6) aNil))))) (sSeq (sRet (k (.bl false))) sNil) sNil) sNil)) (sSeq (sFor (.nm 8) (iSeq (bin (addG) (v 5) (lstE (aCons (mkX "Unlike" [] aNil) (aCons (mkX "Nothing" [] aNil) (aCons (mkX "NotWhole" [] aNil) (aCons (mkX "Cause" [] aNil) aNil))))))) (sSeq (sIf (tOr (tNo (tru (cal (isiX [("CannotMove", true), ("BadHeld", true), ("BadPlayer", true), ("BadPit", true), ("BadNumber", true), ("BadTurn", true), ("BadRing", true), ("BadEnd", true), ("BadBook", true), ("BadBoard", true), ("BadSum", true), ("BadShape", true), ("BadRoad", true), ("BadClaim", true), ("BadRow", true), ("BadLine", true), ("NoLap", true), ("NoEnd", true), ("NoName", true), ("BadText", true), ("TooMany", true), ("Unlike", true), ("Nothing", true), ("NotWhole", true), ("Cause", true), ("NoPlayer", true), ("OutOfTurn", true), ("Empty", true)] (isCl "LapError") (isiF (isiC []) (isCl "LapError"))) (aCons (v 8) (aCons (k (.cls "LapError")) aNil))))) (tNo (tru (cal (isiX [("CannotMove", true), ("BadHeld", true), ("BadPlayer", true), ("BadPit", true), ("BadNumber", true), ("BadTurn", true), ("BadRing", true), ("BadEnd", true), ("BadBook", true), ("BadBoard", true), ("BadSum", true), ("BadShape", true), ("BadRoad", true), ("BadClaim", true), ("BadRow", true), ("BadLine", true), ("NoLap", true), ("NoEnd", true), ("NoName", true), ("BadText", true), ("TooMany", true), ("Unlike", true), ("Nothing", true), ("NotWhole", true), ("Cause", true), ("NoPlayer", true), ("OutOfTurn", true), ("Empty", true)] (isTy "ValueError") (fun _ _ => .no)) (aCons (v 8) (aCons (k (.ty "ValueError")) aNil)))))) (sSeq (sRet (k (.bl false))) sNil) sNil) sNil)) (sSeq (sSet 9 (lcE (.tp [8, 7]) (iZp (aCons (v 5) (aCons (cal F_law_ones (aCons (k (.int 0)) aNil)) aNil))) tYs (cal F_law_field (aCons (v 8) (aCons (bin ixG (v 7) (k (.int 1))) aNil))))) (sSeq (sIf (tOr (tst (bin (eqG true) (cal lenB (aCons (v 5) aNil)) (k (.int 18)))) (tst (bin (eqG true) (cal (reprA (reprN (reprI reprB))) (aCons (v 9) aNil)) (cal (reprA (reprN (reprI reprB))) (aCons (bin (mulG) (lstE (aCons (v 3) aNil)) (k (.int 18))) aNil))))) (sSeq (sRet (k (.bl false))) sNil) sNil) (sSeq (sIf (tOr (tNo (tru (cal F_law_two_right (aCons (v 3) (aCons (v 4) aNil))))) (tOr (tNo (tru (cal F_law_causes_right (aCons (v 3) aNil)))) (tNo (tru (cal F_law_caught (aCons (v 4) aNil)))))) (sSeq (sRet (k (.bl false))) sNil) sNil) sNil)))))))) (sSeq (sRet (k (.bl true))) sNil)))
theorem w_law (T : TX K mg) : FnFG P w K mg base 4 (He.ga K "law") F_law := by
  obtain ⟨fd, F⟩ := T.says.def_ 11
  exact okFG (j := 3) (st := s_law) F sc_law rfl rfl (fun _ _ _ _ _ _ us hl => match us, hl with | [_], _ => rfl) (fun cdv A outer s H E hgd hr => qs_cons (qs_set 1 (qe_callG (w_law_bag T) hgd (hr.mono (by decide)) (T.glo "_law_bag" (by decide +kernel)) (kp_law_bag T) (qa_cons (qv 0) qa_nil)) sc_law.nd) (qs_cons (qs_for (passes_of rfl) rfl (qi_range1 (T.free "range" (by decide +kernel)) (qa_cons qk_int qa_nil)) (qg_name 2 sc_law.nd) (qs_cons (qs_par 3 4 rfl (qa_cons (qe_callG (w_law_value T) hgd (hr.mono (by decide)) (T.glo "_law_value" (by decide +kernel)) (kp_law_value T) (qa_cons (qv 1) qa_nil)) (qa_cons (qe_callG (w_law_value T) hgd (hr.mono (by decide)) (T.glo "_law_value" (by decide +kernel)) (kp_law_value T) (qa_cons (qv 1) qa_nil)) qa_nil)) sc_law.nd) (qs_cons (qs_set 5 (qe_callG (w_law_named T) hgd (hr.mono (by decide)) (T.glo "_law_named" (by decide +kernel)) (kp_law_named T) (qa_cons (qv 3) qa_nil)) sc_law.nd) (qs_cons (qs_for (passes_of rfl) rfl (qi_enum (T.free "enumerate" (by decide +kernel)) (qa_cons (qe_callG (w_law_ones T) hgd (hr.mono (by decide)) (T.glo "_law_ones" (by decide +kernel)) (kp_law_ones T) (qa_cons (qv 3) qa_nil)) qa_nil)) (qg_tup rfl (qgs_cons 6 (qgs_cons 7 (qgs_nil) sc_law.nd) sc_law.nd) rfl) (qs_cons (qs_if (qt_w (qw_or (qt_cmp (of_ne hr.units) (qe_blt (cf_reprA hgd hr.units (cf_reprN (cf_reprI (cf_repr hgd hr.units)))) (T.free "repr" (by decide +kernel)) (qa_cons (qe_callG (w_law_field T) hgd (hr.mono (by decide)) (T.glo "_law_field" (by decide +kernel)) (kp_law_field T) (qa_cons (qe_ix (qv 7) qk_int) (qa_cons (qe_ix (qv 7) qk_int) qa_nil))) qa_nil)) (qe_blt (cf_reprA hgd hr.units (cf_reprN (cf_reprI (cf_repr hgd hr.units)))) (T.free "repr" (by decide +kernel)) (qa_cons (qv 3) qa_nil))) (qw_or1 (qt_cmp (of_ne hr.units) (qe_callG (w_law_kinds T) hgd (hr.mono (by decide)) (T.glo "_law_kinds" (by decide +kernel)) (kp_law_kinds T) (qa_cons (qe_ix (qv 7) qk_int) qa_nil)) (qe_lst (qa_cons (qv 6) qa_nil)))))) (qs_cons (qs_ret qk_bl) qs_nil) qs_nil) qs_nil)) (qs_cons (qs_for (passes_of rfl) rfl (qi_seq (qe_bin (of_add) (qv 5) (qe_lst (qa_cons (qe_mkx0 (T.xn "Unlike" (by decide +kernel)) (T.xc "Unlike" (by decide +kernel)) (T.glo "Unlike" (by decide +kernel))) (qa_cons (qe_mkx0 (T.xn "Nothing" (by decide +kernel)) (T.xc "Nothing" (by decide +kernel)) (T.glo "Nothing" (by decide +kernel))) (qa_cons (qe_mkx0 (T.xn "NotWhole" (by decide +kernel)) (T.xc "NotWhole" (by decide +kernel)) (T.glo "NotWhole" (by decide +kernel))) (qa_cons (qe_mkx0 (T.xn "Cause" (by decide +kernel)) (T.xc "Cause" (by decide +kernel)) (T.glo "Cause" (by decide +kernel))) qa_nil))))))) (qg_name 8 sc_law.nd) (qs_cons (qs_if (qt_w (qw_or (qt_not (qt_tru (qe_blt (ix_LapError T) (T.free "isinstance" (by decide +kernel)) (qa_cons (qv 8) (qa_cons (qg_cls (T.glo "LapError" (by decide +kernel))) qa_nil))))) (qw_or1 (qt_not (qt_tru (qe_blt (ix_ValueError T) (T.free "isinstance" (by decide +kernel)) (qa_cons (qv 8) (qa_cons (qg_ty (T.free "ValueError" (by decide +kernel)) (by decide +kernel)) qa_nil)))))))) (qs_cons (qs_ret qk_bl) qs_nil) qs_nil) qs_nil)) (qs_cons (qs_setLc 9 (own := [("_law_error", 8), ("_law_pair", 7)]) (.tp [8, 7]) rfl rfl sc_law.nd (qi_zip (T.free "zip" (by decide +kernel)) (qa_cons (qv 5) (qa_cons (qe_callG (w_law_ones T) hgd (hr.mono (by decide)) (T.glo "_law_ones" (by decide +kernel)) (kp_law_ones T) (qa_cons qk_int qa_nil)) qa_nil))) (blkOk_by (N := N_law) (sc := defScope s_law) (by decide +kernel)) (fun _ _ _ _ _ => qg_tup rfl (qgs_cons 8 (qgs_cons 7 (qgs_nil) sc_law.nd) sc_law.nd) rfl) (fun _ _ _ _ _ => pts_yes) (fun _ _ _ _ _ => qe_callG (w_law_field T) hgd (hr.mono (by decide)) (T.glo "_law_field" (by decide +kernel)) (kp_law_field T) (qa_cons (qv 8) (qa_cons (qe_ix (qv 7) qk_int) qa_nil)))) (qs_cons (qs_if (qt_w (qw_or (qt_cmp (of_ne hr.units) (qe_blt cf_len (T.free "len" (by decide +kernel)) (qa_cons (qv 5) qa_nil)) qk_int) (qw_or1 (qt_cmp (of_ne hr.units) (qe_blt (cf_reprA hgd hr.units (cf_reprN (cf_reprI (cf_repr hgd hr.units)))) (T.free "repr" (by decide +kernel)) (qa_cons (qv 9) qa_nil)) (qe_blt (cf_reprA hgd hr.units (cf_reprN (cf_reprI (cf_repr hgd hr.units)))) (T.free "repr" (by decide +kernel)) (qa_cons (qe_bin (of_mul) (qe_lst (qa_cons (qv 3) qa_nil)) qk_int) qa_nil)))))) (qs_cons (qs_ret qk_bl) qs_nil) qs_nil) (qs_cons (qs_if (qt_w (qw_or (qt_not (qt_tru (qe_callG (w_law_two_right T) hgd (hr.mono (by decide)) (T.glo "_law_two_right" (by decide +kernel)) (kp_law_two_right T) (qa_cons (qv 3) (qa_cons (qv 4) qa_nil))))) (qw_or (qt_not (qt_tru (qe_callG (w_law_causes_right T) hgd (hr.mono (by decide)) (T.glo "_law_causes_right" (by decide +kernel)) (kp_law_causes_right T) (qa_cons (qv 3) qa_nil)))) (qw_or1 (qt_not (qt_tru (qe_callG (w_law_caught T) hgd (hr.mono (by decide)) (T.glo "_law_caught" (by decide +kernel)) (kp_law_caught T) (qa_cons (qv 4) qa_nil)))))))) (qs_cons (qs_ret qk_bl) qs_nil) qs_nil) qs_nil)))))))) (qs_cons (qs_ret qk_bl) qs_nil)))
end
end K01
set_option Elab.async false
set_option linter.all false
set_option maxRecDepth 100000
set_option maxHeartbeats 4000000
namespace PVZ
open PySem PV
abbrev _root_.PV.XQ := String → List (String × D) → Sto → Prop
inductive _root_.PV.Tag {α : Type} (a : α) : Type where
  | mk
def Wp {α : Type} (o : Out α) (Q : α → Sto → Prop) (E : XQ) (_ : Tag (Q, E) := .mk) : Prop := match o with
  | .ok a S => Q a S
  | .ex c fs S => E c fs S
  | .no => False
def Ws (o : Out Fl) (N : Ev → Sto → Prop) (R : D → Sto → Prop) (B C : Ev → Sto → Prop) (E : XQ) (_ : Tag (N, R, B, C, E) := .mk) : Prop := match o with
  | .ok (.nx ρ) S => N ρ S
  | .ok (.rt d) S => R d S
  | .ok (.bk ρ) S => B ρ S
  | .ok (.ct ρ) S => C ρ S
  | .ex c fs S => E c fs S
  | .no => False
section
variable {α β : Type} {o : Out α} {Q Q' : α → Sto → Prop} {E E' : XQ}
theorem Wp.imp (h : Wp o Q E) (i : ∀ a S, Q a S → Q' a S) (j : ∀ c fs S, E c fs S → E' c fs S) : Wp o Q' E' := by
  match o, h with
  | .ok a S, h => exact i a S h
  | .ex c fs S, h => exact j c fs S h
  | .no, h => exact h
theorem wp_ok {a : α} {S : Sto} (h : Q a S) : Wp (.ok a S) Q E := h
theorem wp_eq {a : α} {S : Sto} (e : o = .ok a S) (h : Q a S) : Wp o Q E := by rw [e]; exact h
theorem Wp.of {o : Out α} (h : Wp o Q fun _ _ _ => False) : ∃ a S, o = .ok a S ∧ Q a S := by
  match o, h with
  | .ok a S, h => exact ⟨a, S, rfl, h⟩
theorem wp_bind {k : α → Sto → Out β} {R : β → Sto → Prop} (h : Wp o (fun a S => Wp (k a S) R E) E) : Wp (o.bind k) R E := by
  match o, h with
  | .ok a S, h => exact h
  | .ex c fs S, h => exact h
  | .no, h => exact h
theorem ws_bind {k : α → Sto → Out Fl} {N : Ev → Sto → Prop} {R : D → Sto → Prop} {B C : Ev → Sto → Prop} (h : Wp o (fun a S => Ws (k a S) N R B C E) E) : Ws (o.bind k) N R B C E := by
  match o, h with
  | .ok a S, h => exact h
  | .ex c fs S, h => exact h
  | .no, h => exact h
theorem Ws.imp {o : Out Fl} {N N' : Ev → Sto → Prop} {R R' : D → Sto → Prop} {B B' C C' : Ev → Sto → Prop} (h : Ws o N R B C E) (i : ∀ ρ S, N ρ S → N' ρ S) (j : ∀ d S, R d S → R' d S) (b : ∀ ρ S, B ρ S → B' ρ S) (c : ∀ ρ S, C ρ S → C' ρ S) (e : ∀ c fs S, E c fs S → E' c fs S) : Ws o N' R' B' C' E' := by
  match o, h with
  | .ok (.nx _) _, h => exact i _ _ h
  | .ok (.rt _) _, h => exact j _ _ h
  | .ok (.bk _) _, h => exact b _ _ h
  | .ok (.ct _) _, h => exact c _ _ h
  | .ex _ _ _, h => exact e _ _ _ h
  | .no, h => exact h
end
theorem ex1 {α : Type} {p q : α → Prop} {a : α} (h : p a) (h2 : q a) : ∃ a, p a ∧ q a := ⟨a, h, h2⟩
section
variable {ρ : Ev} {S : Sto} {Q : D → Sto → Prop} {E : XQ} {a b c : ME} {d : D}
variable {t u : MT}
theorem wp_t {α : Type} {x : Bool} {o o' : Out α} {Q : α → Sto → Prop} (h : x = true) (q : Wp o Q E) : Wp (if x = true then o else o') Q E := by rw [if_pos h]; exact q
theorem wp_f {α : Type} {x : Bool} {o o' : Out α} {Q : α → Sto → Prop} (h : x = false) (q : Wp o' Q E) : Wp (if x = true then o else o') Q E := by rw [if_neg (by rw [h]; decide)]; exact q
theorem wp_ofLen {n : Nat} {F : Fn} {ds : List D} (h : ds.length = n) (q : Wp (F ds S) Q E) : Wp (ofLen n F ds S) Q E := by
  unfold ofLen
  rw [if_pos h]
  exact q
theorem wp_kw {idx : List Nat} {dds ds es : List D} {F : Fn} (h : pickL idx (ds ++ dds) = es) (q : Wp (F es S) Q E) : Wp (kwF idx dds F ds S) Q E := by
  unfold kwF
  rw [h]
  exact q
theorem wp_mul {i j : Int} (h : mulOk i j = true) (q : Q (.int (i * j)) S) : Wp (mulG (.int i) (.int j) S) Q E := by
  have e : mulG (.int i) (.int j) S = .ok (.int (i * j)) S := if_pos h
  rw [e]
  exact q
theorem wp_fdiv {i j : Int} (h : divOk j = true) (q : Q (.int (i / j)) S) : Wp (fdivG (.int i) (.int j) S) Q E := by
  have e : fdivG (.int i) (.int j) S = .ok (.int (i / j)) S := if_pos h
  rw [e]
  exact q
theorem wp_mod {i j : Int} (h : 0 < j) (q : Q (.int (i % j)) S) : Wp (modG (.int i) (.int j) S) Q E := by
  have e : modG (.int i) (.int j) S = .ok (.int (i % j)) S := if_pos h
  rw [e]
  exact q
theorem wp_pow {i j : Int} (h : powOk i j = true) (q : Q (.int (i ^ j.toNat)) S) : Wp (powG (.int i) (.int j) S) Q E := by
  have e : powG (.int i) (.int j) S = .ok (.int (i ^ j.toNat)) S := if_pos h
  rw [e]
  exact q
theorem wp_eqv {x y : D} {e n : Bool} (h : eqD x y = some e) (q : Q (.bl (n ^^ e)) S) : Wp (eqG n x y S) Q E := by
  unfold eqG
  rw [h]
  exact q
theorem wp_ixl {xs : List D} {i : Int} {x : D} (h : L2.atI xs i = some x) (q : Q x S) : Wp (ixG (.lst xs) (.int i) S) Q E := by
  unfold ixG
  simp only [h]
  exact q
theorem wp_fld {cs : List String} {f : String} {x y : D} {c : String} {fs : List (String × D)} (h1 : insOf S x = some (c, fs)) (h2 : cs.contains c = true) (h3 : fs.lookup f = some y) (q : Q y S) : Wp (fldG cs f x S) Q E := by
  unfold fldG
  simp only [h1, h2, h3, if_true]
  exact q
theorem wp_isi {ans : Ty → Option Bool} {cls : D → Bool} {ds : List D} {b : Bool} (h : isiF ans cls ds S = .ok (.bl b) S) (q : Q (.bl b) S) : Wp (isiF ans cls ds S) Q E := wp_eq h q
theorem wp_isiA {Ts cs : List String} (h : Wp (a ρ S) (fun x S1 => ∃ t, tyD S1 x = some t ∧ (match t with | .b n => Q (.bl (Ts.any fun T => subT n T)) S1 | .c n => cs.contains n = true ∧ Q (.bl false) S1)) E) : Wp (isiA Ts cs a ρ S) Q E := wp_bind (h.imp (fun x S1 q => by
  obtain ⟨t, e, q⟩ := q
  rw [e]
  match t, q with
  | .b n, q => exact q
  | .c n, q =>
    simp only [q.1, if_true]
    exact q.2) fun _ _ _ q => q)
end
section
variable {ρ : Ev} {S : Sto} {N : Ev → Sto → Prop} {R : D → Sto → Prop} {B C : Ev → Sto → Prop} {E : XQ} {a b : MS} {m o : ME} {t : MT}
theorem ws_t {x : Bool} {o o' : Out Fl} (h : x = true) (q : Ws o N R B C E) : Ws (if x = true then o else o') N R B C E := by rw [if_pos h]; exact q
theorem ws_f {x : Bool} {o o' : Out Fl} (h : x = false) (q : Ws o' N R B C E) : Ws (if x = true then o else o') N R B C E := by rw [if_neg (by rw [h]; decide)]; exact q
theorem ws_forL {T : Tg} {g : Option Nat} {all : List D} (I : Nat → Ev → Sto → Prop) (hg : ∀ j ρ S, I j ρ S → Gd g all S) : ∀ (xs : List D) (i : Nat) (ρ : Ev) (S : Sto), (∀ j x, xs[j]? = some x → ∀ ρ S, I (i + j) ρ S → ∃ ρ1, setT T x ρ = some ρ1 ∧ Ws (b ρ1 S) (I (i + j + 1)) R N (I (i + j + 1)) E) → (∀ ρ S, I (i + xs.length) ρ S → N ρ S) → I i ρ S → Ws (forL T b g all xs ρ S) N R B C E
  | [], i, ρ, S, _, hN, h => by
    unfold forL
    rw [if_pos (hg _ _ _ h)]
    exact hN _ _ h
  | x :: xs, i, ρ, S, hs, hN, h => by
    unfold forL
    rw [if_pos (hg _ _ _ h)]
    obtain ⟨ρ1, e, q⟩ := hs 0 x rfl ρ S h
    simp only [e]
    have ih : ∀ ρ' S', I (i + 1) ρ' S' → Ws (forL T b g all xs ρ' S') N R B C E := fun ρ' S' h' => ws_forL I hg xs (i + 1) ρ' S' (fun j y hy ρ S z => by
      have := hs (j + 1) y (by simpa using hy) ρ S (by rw [show i + (j + 1) = i + 1 + j by omega]; exact z)
      rw [show i + (j + 1) = i + 1 + j by omega] at this
      exact this) (fun ρ S z => hN ρ S (by rw [List.length_cons, show i + (xs.length + 1) = i + 1 + xs.length by omega]; exact z)) h'
    match b ρ1 S, q with
    | .ok (.nx _) _, q => exact ih _ _ q
    | .ok (.rt _) _, q => exact q
    | .ok (.bk _) _, q => exact q
    | .ok (.ct _) _, q => exact ih _ _ q
    | .ex _ _ _, q => exact q
    | .no, q => exact q.elim
theorem ws_for {T : Tg} {it : MI} (I : Nat → Ev → Sto → Prop) (h : Wp (it ρ S) (fun p S1 => (∀ j ρ S, I j ρ S → Gd p.2 p.1 S) ∧ I 0 ρ S1 ∧ (∀ j x, p.1[j]? = some x → ∀ ρ S, I j ρ S → ∃ ρ1, setT T x ρ = some ρ1 ∧ Ws (b ρ1 S) (I (j + 1)) R N (I (j + 1)) E) ∧ (∀ ρ S, I p.1.length ρ S → N ρ S)) E) : Ws (sFor T it b ρ S) N R B C E :=
  ws_bind (h.imp (fun p S1 q => by
    obtain ⟨h1, h2, h3, h4⟩ := q
    refine ws_forL I h1 p.1 0 ρ S1 (fun j x hx => ?_) (fun ρ S z => h4 ρ S (by simpa using z)) h2
    rw [Nat.zero_add]
    exact h3 j x hx) fun _ _ _ q => q)
theorem ws_whl (I : Nat → Ev → Sto → Prop) (n : Nat) (h0 : I n ρ S) (hs : ∀ m ρ S, I m ρ S → Wp (t ρ S) (fun c S1 => (c = true → Ws (b ρ S1) (fun ρ' S' => ∃ m', m' < m ∧ I m' ρ' S') R N (fun ρ' S' => ∃ m', m' < m ∧ I m' ρ' S') E) ∧ (c = false → N ρ S1)) E) : Ws (sWhl t b ρ S) N R B C E := by
  have main : ∀ m ρ S, I m ρ S → ∃ n, Ws (whL t b n ρ S) N R B C E := by
    intro m
    induction m using Nat.strongRecOn with
    | ind m ih =>
      intro ρ S h
      have q := hs m ρ S h
      match et : t ρ S, q with
      | .ok false S1, q => exact ⟨1, by unfold whL; rw [et]; exact q.2 rfl⟩
      | .ex _ _ _, q => exact ⟨1, by unfold whL; rw [et]; exact q⟩
      | .no, q => exact q.elim
      | .ok true S1, q =>
        have q := q.1 rfl
        match eb : b ρ S1, q with
        | .ok (.nx ρ') S2, ⟨m', hm, q⟩ =>
          obtain ⟨n, hn⟩ := ih m' hm ρ' S2 q
          exact ⟨n + 1, by unfold whL; rw [et]; show Ws ((b ρ S1).bind _) _ _ _ _ _; rw [eb]; exact hn⟩
        | .ok (.ct ρ') S2, ⟨m', hm, q⟩ =>
          obtain ⟨n, hn⟩ := ih m' hm ρ' S2 q
          exact ⟨n + 1, by unfold whL; rw [et]; show Ws ((b ρ S1).bind _) _ _ _ _ _; rw [eb]; exact hn⟩
        | .ok (.rt d) S2, q => exact ⟨1, by unfold whL; rw [et]; show Ws ((b ρ S1).bind _) _ _ _ _ _; rw [eb]; exact q⟩
        | .ok (.bk ρ') S2, q => exact ⟨1, by unfold whL; rw [et]; show Ws ((b ρ S1).bind _) _ _ _ _ _; rw [eb]; exact q⟩
        | .ex c fs S2, q => exact ⟨1, by unfold whL; rw [et]; show Ws ((b ρ S1).bind _) _ _ _ _ _; rw [eb]; exact q⟩
        | .no, q => exact q.elim
  obtain ⟨n, hn⟩ := main n ρ S h0
  have ne : whL t b n ρ S ≠ .no := fun e => by rw [e] at hn; exact hn
  rw [whl_ok rfl ne]
  exact hn
theorem wp_lcL {T : Tg} {e : ME} {g : Option Nat} {all : List D} (I : Nat → List D → Sto → Prop) (hg : ∀ j acc S, I j acc S → Gd g all S) : ∀ (xs : List D) (i : Nat) (acc : List D) (S : Sto), (∀ j x, xs[j]? = some x → ∀ acc S, I (i + j) acc S → ∃ ρ1, setT T x ρ = some ρ1 ∧ Wp (t ρ1 S) (fun c S1 => (c = true → Wp (e ρ1 S1) (fun d S2 => I (i + j + 1) (acc ++ [d]) S2) fun _ _ _ => False) ∧ (c = false → I (i + j + 1) acc S1)) fun _ _ _ => False) → I i acc S → ∃ ds S', lcL T t e g all ρ xs S = .ok ds S' ∧ I (i + xs.length) (acc ++ ds) S'
  | [], i, acc, S, _, h => by
    refine ⟨[], S, ?_, by simpa using h⟩
    unfold lcL
    rw [if_pos (hg _ _ _ h)]
  | x :: xs, i, acc, S, hs, h => by
    obtain ⟨ρ1, e1, q⟩ := hs 0 x rfl acc S h
    have nxt : ∀ acc' S', I (i + 1) acc' S' → ∃ ds S'', lcL T t e g all ρ xs S' = .ok ds S'' ∧ I (i + (x :: xs).length) (acc' ++ ds) S'' := fun acc' S' h' => by
      have := wp_lcL I hg xs (i + 1) acc' S' (fun j y hy acc S z => by
        have := hs (j + 1) y (by simpa using hy) acc S (by rw [show i + (j + 1) = i + 1 + j by omega]; exact z)
        rw [show i + (j + 1) = i + 1 + j by omega] at this
        exact this) h'
      rw [List.length_cons, show i + (xs.length + 1) = i + 1 + xs.length by omega]
      exact this
    match et : t ρ1 S, q with
    | .ok true S1, q =>
      obtain ⟨d, S2, ed, q⟩ := Wp.of (q.1 rfl)
      obtain ⟨ds, S3, el, q⟩ := nxt _ _ q
      refine ⟨d :: ds, S3, ?_, by simpa using q⟩
      unfold lcL
      rw [if_pos (hg _ _ _ h)]
      simp only [e1, et, ed, el]
    | .ok false S1, q =>
      obtain ⟨ds, S3, el, q⟩ := nxt _ _ (q.2 rfl)
      refine ⟨ds, S3, ?_, by simpa using q⟩
      unfold lcL
      rw [if_pos (hg _ _ _ h)]
      simp only [e1, et, el]
theorem wp_lcO {T : Tg} {it : MI} {e : ME} {Q : List D → Sto → Prop} (I : Nat → List D → Sto → Prop) (h : Wp (it ρ S) (fun p S1 => p.1.length ≤ 1000 ∧ (∀ j acc S, I j acc S → Gd p.2 p.1 S) ∧ I 0 [] S1 ∧ (∀ j x, p.1[j]? = some x → ∀ acc S, I j acc S → ∃ ρ1, setT T x (wipeD ρ T.slots) = some ρ1 ∧ Wp (t ρ1 S) (fun c S1 => (c = true → Wp (e ρ1 S1) (fun d S2 => I (j + 1) (acc ++ [d]) S2) fun _ _ _ => False) ∧ (c = false → I (j + 1) acc S1)) fun _ _ _ => False) ∧ ∀ ds S, I p.1.length ds S → Q ds S) E) : Wp (lcO T it t e ρ S) Q E :=
  wp_bind (h.imp (fun p S1 q => by
    obtain ⟨h0, h1, h2, h3, h4⟩ := q
    rw [if_pos h0]
    obtain ⟨ds, S', e, q⟩ := wp_lcL (T := T) (t := t) (e := e) (ρ := wipeD ρ T.slots) I h1 p.1 0 [] S1 (fun j x hx => by rw [Nat.zero_add]; exact h3 j x hx) h2
    exact wp_eq e (h4 _ _ (by simpa using q))) fun _ _ _ q => q)
theorem wp_lcE {T : Tg} {it : MI} {e : ME} {Q : D → Sto → Prop} (h : Wp (lcO T it t e ρ S) (fun ds S1 => Q (.lst ds) S1) E) : Wp (lcE T it t e ρ S) Q E := wp_bind h
end
section
variable {S : Sto} {Q : D → Sto → Prop} {E : XQ}
def Gq (S : Sto) (Q : D → Sto → Prop) (E : XQ) (d : D) (S' : Sto) : Prop := Wp (gcO S (.ok d S')) Q E
def Gx (S : Sto) (Q : D → Sto → Prop) (E : XQ) : XQ := fun c fs S' => Wp (gcO S (.ex c fs S')) Q E
theorem gq_len {d : D} {S' : Sto} (h : S'.length = S.length) (q : Q d S') : Gq S Q E d S' := by
  unfold Gq
  rw [gc_len h]
  exact q
theorem gq_same {d : D} (q : Q d S) : Gq S Q E d S := gq_len rfl q
theorem wp_dfn {np n : Nat} {b : MS} {ds : List D} (hl : ds.length = np) (h : Ws (b (ds.map some ++ List.replicate (n - np) none) S) (fun _ S' => Gq S Q E .non S') (Gq S Q E) (fun _ _ => False) (fun _ _ => False) (Gx S Q E)) : Wp (dfn np n b ds S) Q E := by
  unfold dfn
  rw [if_pos hl]
  match b (ds.map some ++ List.replicate (n - np) none) S, h with
  | .ok (.nx _) _, h => exact h
  | .ok (.rt _) _, h => exact h
  | .ex _ _ _, h => exact h
end
end PVZ
set_option Elab.async false
set_option linter.all false
set_option maxRecDepth 100000
set_option maxHeartbeats 4000000
namespace PVZ
open PySem PV
theorem Wp_Q {α : Type} {o : Out α} {Q Q' : α → Sto → Prop} {E : XQ} (h : ∀ a S, Q a S = Q' a S) : Wp o Q E = Wp o Q' E := by
  have e : Q = Q' := funext fun a => funext fun S => h a S
  subst e
  rfl
section
variable {α β : Type} {E : XQ} {S : Sto} {ρ : Ev}
theorem Q_bind {o : Out α} {k : α → Sto → Out β} {Q : β → Sto → Prop} : Wp (o.bind k) Q E = Wp o (fun a S => Wp (k a S) Q E) E := by cases o <;> rfl
theorem Q_sbind {o : Out α} {k : α → Sto → Out Fl} {N : Ev → Sto → Prop} {R : D → Sto → Prop} {B C : Ev → Sto → Prop} : Ws (o.bind k) N R B C E = Wp o (fun a S => Ws (k a S) N R B C E) E := by cases o <;> rfl
theorem Q_ok {a : α} {Q : α → Sto → Prop} : Wp (.ok a S) Q E = Q a S := rfl
theorem Q_ex {c : String} {fs : List (String × D)} {Q : α → Sto → Prop} : Wp (.ex c fs S) Q E = E c fs S := rfl
variable {Q : D → Sto → Prop} {d x : D} {o : Option D} {a b c m : ME} {ms : MA} {t u : MT}
theorem Q_v0 : Wp (v 0 (some d :: ρ) S) Q E = Q d S := rfl
theorem Q_vs {n : Nat} : Wp (v (n + 1) (o :: ρ) S) Q E = Wp (v n ρ S) Q E := by
  unfold v
  rw [List.getElem?_cons_succ]
theorem Q_k : Wp (k d ρ S) Q E = Q d S := rfl
theorem Q_bin {g : G2} : Wp (bin g a b ρ S) Q E = Wp (a ρ S) (fun x S1 => Wp (b ρ S1) (fun y S2 => Wp (g x y S2) Q E) E) E := by
  unfold bin
  rw [Q_bind]
  exact Wp_Q fun _ _ => Q_bind
theorem Q_una {g : G1} : Wp (una g a ρ S) Q E = Wp (a ρ S) (fun x S1 => Wp (g x S1) Q E) E := Q_bind
theorem Q_cal {F : Fn} : Wp (cal F ms ρ S) Q E = Wp (ms ρ S) (fun ds S1 => Wp (F ds S1) Q E) E := Q_bind
theorem Q_nil {Q : List D → Sto → Prop} : Wp (aNil ρ S) Q E = Q [] S := rfl
theorem Q_cons {Q : List D → Sto → Prop} : Wp (aCons a ms ρ S) Q E = Wp (a ρ S) (fun x S1 => Wp (ms ρ S1) (fun ds S2 => Q (x :: ds) S2) E) E := by
  unfold aCons
  rw [Q_bind]
  exact Wp_Q fun _ _ => Q_bind
theorem Q_star {Q : List D → Sto → Prop} : Wp (aStar a ms ρ S) Q E = Wp (a ρ S) (fun x S1 => Wp (match x with
  | .lst xs => (ms ρ S1).bind fun ds S2 => .ok (xs ++ ds) S2
  | .tup xs => (ms ρ S1).bind fun ds S2 => .ok (xs ++ ds) S2
  | .loc n => match S1[n]? with
    | some (.lst xs) => (ms ρ S1).bind fun ds S2 => .ok (xs ++ ds) S2
    | _ => .no
  | _ => .no) Q E) E := Q_bind
variable {P : Bool → Sto → Prop}
theorem Q_tst : Wp (tst a ρ S) P E = Wp (a ρ S) (fun d S1 => Wp (match d with | .bl b => Out.ok b S1 | _ => .no) P E) E := Q_bind
theorem Q_tru : Wp (tru a ρ S) P E = Wp (a ρ S) (fun d S1 => Wp (match truD d with | some b => Out.ok b S1 | none => .no) P E) E := Q_bind
theorem Q_no : Wp (tNo t ρ S) P E = Wp (t ρ S) (fun c S1 => P (!c) S1) E := Q_bind
theorem Q_an : Wp (tAn t u ρ S) P E = Wp (t ρ S) (fun c S1 => Wp (if c = true then u ρ S1 else .ok false S1) P E) E := Q_bind
theorem Q_or : Wp (tOr t u ρ S) P E = Wp (t ρ S) (fun c S1 => Wp (if c = true then .ok true S1 else u ρ S1) P E) E := Q_bind
theorem Q_ifE : Wp (ifE t a b ρ S) Q E = Wp (t ρ S) (fun c S1 => Wp (if c = true then a ρ S1 else b ρ S1) Q E) E := Q_bind
def _root_.PV.anD (b : ME) (ρ : Ev) (d : D) (S1 : Sto) : Out D := match d with
  | .bl c => if c = true then b ρ S1 else .ok (.bl false) S1
  | _ => .no
def _root_.PV.orD (b : ME) (ρ : Ev) (d : D) (S1 : Sto) : Out D := match d with
  | .bl c => if c = true then .ok (.bl true) S1 else b ρ S1
  | _ => .no
theorem Q_anE : Wp (anE a b ρ S) Q E = Wp (a ρ S) (fun d S1 => Wp (anD b ρ d S1) Q E) E := by
  unfold anE
  rw [Q_bind]
  refine Wp_Q fun d S1 => ?_
  cases d with
  | bl c => cases c <;> rfl
  | _ => rfl
theorem Q_orE : Wp (orE a b ρ S) Q E = Wp (a ρ S) (fun d S1 => Wp (orD b ρ d S1) Q E) E := by
  unfold orE
  rw [Q_bind]
  refine Wp_Q fun d S1 => ?_
  cases d with
  | bl c => cases c <;> rfl
  | _ => rfl
theorem Q_anD {c : Bool} : Wp (anD b ρ (.bl c) S) Q E = Wp (if c = true then b ρ S else .ok (.bl false) S) Q E := rfl
theorem Q_orD {c : Bool} : Wp (orD b ρ (.bl c) S) Q E = Wp (if c = true then .ok (.bl true) S else b ρ S) Q E := rfl
theorem Q_noE : Wp (noE a ρ S) Q E = Wp (a ρ S) (fun d S1 => Wp (match d with | .bl b => .ok (.bl (!b)) S1 | _ => .no) Q E) E := Q_bind
def _root_.PV.chD (g' : G2) (y : D) (c : ME) (ρ : Ev) (z : D) (S3 : Sto) : Out D := match z with
  | .bl t => if t = true then (c ρ S3).bind fun u S4 => g' y u S4 else .ok (.bl false) S3
  | _ => .no
theorem Q_chn {g g' : G2} : Wp (chn g g' a b c ρ S) Q E = Wp (a ρ S) (fun x S1 => Wp (b ρ S1) (fun y S2 => Wp (g x y S2) (fun z S3 => Wp (chD g' y c ρ z S3) Q E) E) E) E := by
  unfold chn
  rw [Q_bind]
  refine Wp_Q fun x S1 => Q_bind.trans (Wp_Q fun y S2 => Q_bind.trans (Wp_Q fun z S3 => ?_))
  cases z with
  | bl c => cases c <;> rfl
  | _ => rfl
theorem Q_chD {g' : G2} {y : D} {t : Bool} : Wp (chD g' y c ρ (.bl t) S) Q E = Wp (if t = true then (c ρ S).bind fun u S4 => g' y u S4 else .ok (.bl false) S) Q E := rfl
theorem Q_t {o o' : Out α} {Q : α → Sto → Prop} : Wp (if true = true then o else o') Q E = Wp o Q E := rfl
theorem Q_f {o o' : Out α} {Q : α → Sto → Prop} : Wp (if false = true then o else o') Q E = Wp o' Q E := rfl
theorem Q_T {h : Decidable True} {o o' : Out α} {Q : α → Sto → Prop} : Wp (@ite _ True h o o') Q E = Wp o Q E := by rw [if_pos trivial]
theorem Q_F {h : Decidable False} {o o' : Out α} {Q : α → Sto → Prop} : Wp (@ite _ False h o o') Q E = Wp o' Q E := by rw [if_neg not_false]
theorem wp_dt {p : Prop} [Decidable p] {o o' : Out α} {Q : α → Sto → Prop} (h : p) (q : Wp o Q E) : Wp (if decide p = true then o else o') Q E := wp_t (decide_eq_true h) q
theorem wp_df {p : Prop} [Decidable p] {o o' : Out α} {Q : α → Sto → Prop} (h : ¬ p) (q : Wp o' Q E) : Wp (if decide p = true then o else o') Q E := wp_f (decide_eq_false h) q
def _root_.PV.tupQ (ds : List D) (S1 : Sto) : Out D := if ds.length ≤ 1000 then .ok (.tup ds) S1 else .no
def _root_.PV.lstQ (ds : List D) (S1 : Sto) : Out D := if ds.length ≤ 1000 then .ok (.lst ds) S1 else .no
def _root_.PV.lstMQ (ds : List D) (S1 : Sto) : Out D := if ds.length ≤ 1000 then .ok (.loc S1.length) (S1 ++ [.lst ds]) else .no
theorem Q_tup : Wp (tupE ms ρ S) Q E = Wp (ms ρ S) (fun ds S1 => Wp (tupQ ds S1) Q E) E := Q_bind
theorem Q_lst : Wp (lstE ms ρ S) Q E = Wp (ms ρ S) (fun ds S1 => Wp (lstQ ds S1) Q E) E := Q_bind
theorem Q_lstM : Wp (lstM ms ρ S) Q E = Wp (ms ρ S) (fun ds S1 => Wp (lstMQ ds S1) Q E) E := Q_bind
theorem wp_tupQ {ds : List D} (h : ds.length ≤ 1000) (q : Q (.tup ds) S) : Wp (tupQ ds S) Q E := by unfold tupQ; rw [if_pos h]; exact q
theorem wp_lstQ {ds : List D} (h : ds.length ≤ 1000) (q : Q (.lst ds) S) : Wp (lstQ ds S) Q E := by unfold lstQ; rw [if_pos h]; exact q
theorem wp_lstMQ {ds : List D} (h : ds.length ≤ 1000) (q : Q (.loc S.length) (S ++ [.lst ds])) : Wp (lstMQ ds S) Q E := by unfold lstMQ; rw [if_pos h]; exact q
theorem Q_cm {C : String} {F : Fn} : Wp (cmE C F (k (.cls C)) ms ρ S) Q E = Wp (ms ρ S) (fun ds S2 => Wp (F (.cls C :: ds) S2) Q E) E := by
  show Wp (if isCl C (.cls C) = true then (ms ρ S).bind fun ds S2 => F (.cls C :: ds) S2 else .no) Q E = _
  rw [if_pos (by simp [isCl]), Q_bind]
theorem Q_sm {C : String} {F : Fn} : Wp (smE C F (k (.cls C)) ms ρ S) Q E = Wp (ms ρ S) (fun ds S2 => Wp (F ds S2) Q E) E := by
  show Wp (if isCl C (.cls C) = true then (ms ρ S).bind fun ds S2 => F ds S2 else .no) Q E = _
  rw [if_pos (by simp [isCl]), Q_bind]
def _root_.PV.mtQ (τ : List (String × Fn)) (n : String) (ms : MA) (ρ : Ev) (x : D) (S1 : Sto) : Out D := match insOf S1 x with
  | some (c, fs) => match τ.lookup c with
    | some F => match fs.lookup n with
      | none => (ms ρ S1).bind fun ds S2 => F (x :: ds) S2
      | some _ => .no
    | none => .no
  | none => .no
theorem Q_mt {τ : List (String × Fn)} {n : String} : Wp (mtO τ n a ms ρ S) Q E = Wp (a ρ S) (fun x S1 => Wp (mtQ τ n ms ρ x S1) Q E) E := Q_bind
theorem wp_mtQ {τ : List (String × Fn)} {n C : String} {fs : List (String × D)} {F : Fn} (e1 : insOf S x = some (C, fs)) (e2 : τ.lookup C = some F) (e3 : fs.lookup n = none) (q : Wp (ms ρ S) (fun ds S2 => Wp (F (x :: ds) S2) Q E) E) : Wp (mtQ τ n ms ρ x S) Q E := by
  unfold mtQ
  simp only [e1, e2, e3]
  rw [Q_bind]
  exact q
def _root_.PV.mtKQ (C : String) (n : String) (l : Nat) (F : Fn) (ms : MA) (ρ : Ev) (x : D) (S1 : Sto) : Out D := match insOf S1 x with
  | some (c', fs) => if c' = C then match fs.lookup n with
      | none => (ms ρ S1).bind fun ds S2 => if ds.length = l then F (x :: ds) S2 else .no
      | some _ => .no
    else .no
  | none => .no
theorem Q_mtK {C n : String} {l : Nat} {F : Fn} : Wp (mtK C n l F a ms ρ S) Q E = Wp (a ρ S) (fun x S1 => Wp (mtKQ C n l F ms ρ x S1) Q E) E := Q_bind
theorem wp_mtKQ {n C : String} {l : Nat} {fs : List (String × D)} {F : Fn} (e1 : insOf S x = some (C, fs)) (e3 : fs.lookup n = none) (q : Wp (ms ρ S) (fun ds S2 => ds.length = l ∧ Wp (F (x :: ds) S2) Q E) E) : Wp (mtKQ C n l F ms ρ x S) Q E := by
  unfold mtKQ
  simp only [e1, e3, if_true]
  exact wp_bind (q.imp (fun ds S2 q => by rw [if_pos q.1]; exact q.2) fun _ _ _ q => q)
def _root_.PV.mthQ (g : D → List D → Sto → Out D) (ms : MA) (ρ : Ev) (x : D) (S1 : Sto) : Out D := if isLoc S1 x = true then (ms ρ S1).bind fun ds S2 => g x ds S2 else .no
theorem Q_mthL {g : D → List D → Sto → Out D} : Wp (mthL g a ms ρ S) Q E = Wp (a ρ S) (fun x S1 => Wp (mthQ g ms ρ x S1) Q E) E := Q_bind
theorem Q_mthS {g : G2} : Wp (mthS g a b ρ S) Q E = Wp (a ρ S) (fun x S1 => Wp (if isStr x = true then (b ρ S1).bind fun y S2 => g x y S2 else .no) Q E) E := Q_bind
theorem Q_isStr {z : Str} {o o' : Out D} : Wp (if isStr (.str z) = true then o else o') Q E = Wp o Q E := rfl
theorem Q_itemsF {g : Fn} : Wp (itemsF g m ρ S) Q E = Wp (m ρ S) (fun d S1 => Wp (match d with
  | .lst xs => g xs S1
  | .tup xs => g xs S1
  | .loc n => match S1[n]? with
    | some (.lst xs) => g xs S1
    | _ => .no
  | _ => .no) Q E) E := Q_bind
theorem Q_sli {l h : MO} : Wp (sli m l h ρ S) Q E = Wp (m ρ S) (fun x S1 => Wp (l ρ S1) (fun lo S2 => Wp (h ρ S2) (fun hi S3 => Wp (slG x lo hi S3) Q E) E) E) E := by
  unfold sli
  rw [Q_bind]
  exact Wp_Q fun _ _ => Q_bind.trans (Wp_Q fun _ _ => Q_bind)
theorem Q_oNo {Q : Option Int → Sto → Prop} : Wp (oNo ρ S) Q E = Q none S := rfl
theorem Q_oSo {Q : Option Int → Sto → Prop} : Wp (oSo m ρ S) Q E = Wp (m ρ S) (fun d S1 => Wp (match d with | .int i => Out.ok (some i) S1 | _ => .no) Q E) E := Q_bind
variable {i j : Int}
theorem Q_add : Wp (addG (.int i) (.int j) S) Q E = Q (.int (i + j)) S := rfl
theorem Q_addI : Wp (addI (.int i) (.int j) S) Q E = Q (.int (i + j)) S := rfl
theorem Q_sub : Wp (subG (.int i) (.int j) S) Q E = Q (.int (i - j)) S := rfl
theorem Q_neg : Wp (negG (.int i) S) Q E = Q (.int (-i)) S := rfl
theorem Q_eqI : Wp (eqG false (.int i) (.int j) S) Q E = Q (.bl (decide (i = j))) S := by
  unfold eqG
  rw [eqD_int]
  simp [Q_ok]
theorem Q_neI : Wp (eqG true (.int i) (.int j) S) Q E = Q (.bl (!decide (i = j))) S := by
  unfold eqG
  rw [eqD_int]
  simp [Q_ok]
theorem Q_lt : Wp (ltG (.int i) (.int j) S) Q E = Q (.bl (decide (i < j))) S := rfl
theorem Q_le : Wp (leG (.int i) (.int j) S) Q E = Q (.bl (decide (i ≤ j))) S := rfl
theorem Q_gt : Wp (gtG (.int i) (.int j) S) Q E = Q (.bl (decide (j < i))) S := rfl
theorem Q_ge : Wp (geG (.int i) (.int j) S) Q E = Q (.bl (decide (j ≤ i))) S := rfl
theorem Q_isN {n : Bool} : Wp (isG n x .non S) Q E = Q (.bl (n ^^ isNon x)) S := rfl
theorem Q_int : Wp (intB [.int i] S) Q E = Q (.int i) S := rfl
theorem Q_intb {b : Bool} : Wp (intB [.bl b] S) Q E = Q (.int (if b = true then 1 else 0)) S := rfl
theorem Q_abs : Wp (absB [.int i] S) Q E = Q (.int (if i < 0 then -i else i)) S := rfl
variable {xs ys : List D}
theorem Q_lenl : Wp (lenB [.lst xs] S) Q E = Q (.int xs.length) S := rfl
theorem Q_lent : Wp (lenB [.tup xs] S) Q E = Q (.int xs.length) S := rfl
theorem Q_tupl : Wp (tupB [.lst xs] S) Q E = Q (.tup xs) S := rfl
theorem Q_tupt : Wp (tupB [.tup xs] S) Q E = Q (.tup xs) S := rfl
theorem Q_listl : Wp (listB [.lst xs] S) Q E = Q (.lst xs) S := rfl
theorem Q_listt : Wp (listB [.tup xs] S) Q E = Q (.lst xs) S := rfl
theorem Q_onlyB {o : Out D} : Wp (onlyB o) Q E = Wp o (fun d S1 => Wp (match d with | .bl b => .ok (.bl b) S1 | _ => .no) Q E) E := Q_bind
theorem Q_notB {o : Out D} : Wp (notB o) Q E = Wp o (fun d S1 => Wp (match d with | .bl b => .ok (.bl (!b)) S1 | _ => .no) Q E) E := Q_bind
end
section
variable {S : Sto} {E : XQ} {Q : D → Sto → Prop}
theorem Q_ixt0 {a : D} {xs : List D} : Wp (ixG (.tup (a :: xs)) (.int 0) S) Q E = Q a S := by
  have e : L2.atI (a :: xs) 0 = some a := by rw [L2.atI, L2.ixN, List.length_cons, if_pos (by decide), if_pos (by first | omega | (simp only [List.length_cons]; omega))]; rfl
  unfold ixG
  simp only [e]
  rfl
theorem Q_ixt1 {a b : D} {xs : List D} : Wp (ixG (.tup (a :: b :: xs)) (.int 1) S) Q E = Q b S := by
  have e : L2.atI (a :: b :: xs) 1 = some b := by rw [L2.atI, L2.ixN, List.length_cons, if_pos (by decide), if_pos (by first | omega | (simp only [List.length_cons]; omega))]; rfl
  unfold ixG
  simp only [e]
  rfl
theorem Q_ixt2 {a b c : D} {xs : List D} : Wp (ixG (.tup (a :: b :: c :: xs)) (.int 2) S) Q E = Q c S := by
  have e : L2.atI (a :: b :: c :: xs) 2 = some c := by rw [L2.atI, L2.ixN, List.length_cons, if_pos (by decide), if_pos (by first | omega | (simp only [List.length_cons]; omega))]; rfl
  unfold ixG
  simp only [e]
  rfl
theorem Q_ixt3 {a b c d : D} {xs : List D} : Wp (ixG (.tup (a :: b :: c :: d :: xs)) (.int 3) S) Q E = Q d S := by
  have e : L2.atI (a :: b :: c :: d :: xs) 3 = some d := by rw [L2.atI, L2.ixN, List.length_cons, if_pos (by decide), if_pos (by first | omega | (simp only [List.length_cons]; omega))]; rfl
  unfold ixG
  simp only [e]
  rfl
theorem Q_ixl0 {a : D} {xs : List D} : Wp (ixG (.lst (a :: xs)) (.int 0) S) Q E = Q a S := by
  have e : L2.atI (a :: xs) 0 = some a := by rw [L2.atI, L2.ixN, List.length_cons, if_pos (by decide), if_pos (by first | omega | (simp only [List.length_cons]; omega))]; rfl
  unfold ixG
  simp only [e]
  rfl
theorem Q_ixl1 {a b : D} {xs : List D} : Wp (ixG (.lst (a :: b :: xs)) (.int 1) S) Q E = Q b S := by
  have e : L2.atI (a :: b :: xs) 1 = some b := by rw [L2.atI, L2.ixN, List.length_cons, if_pos (by decide), if_pos (by first | omega | (simp only [List.length_cons]; omega))]; rfl
  unfold ixG
  simp only [e]
  rfl
theorem Q_ixl2 {a b c : D} {xs : List D} : Wp (ixG (.lst (a :: b :: c :: xs)) (.int 2) S) Q E = Q c S := by
  have e : L2.atI (a :: b :: c :: xs) 2 = some c := by rw [L2.atI, L2.ixN, List.length_cons, if_pos (by decide), if_pos (by first | omega | (simp only [List.length_cons]; omega))]; rfl
  unfold ixG
  simp only [e]
  rfl
theorem Q_ixl3 {a b c d : D} {xs : List D} : Wp (ixG (.lst (a :: b :: c :: d :: xs)) (.int 3) S) Q E = Q d S := by
  have e : L2.atI (a :: b :: c :: d :: xs) 3 = some d := by rw [L2.atI, L2.ixN, List.length_cons, if_pos (by decide), if_pos (by first | omega | (simp only [List.length_cons]; omega))]; rfl
  unfold ixG
  simp only [e]
  rfl
end
section
variable {ρ : Ev} {S : Sto} {N : Ev → Sto → Prop} {R : D → Sto → Prop} {B C : Ev → Sto → Prop} {E : XQ} {a b : MS} {m o : ME} {t : MT} {ms : MA}
theorem Q_seq : Ws (sSeq a b ρ S) N R B C E = Ws (a ρ S) (fun ρ' S' => Ws (b ρ' S') N R B C E) R B C E := by
  unfold sSeq
  match a ρ S with
  | .ok (.nx _) _ => rfl
  | .ok (.rt _) _ => rfl
  | .ok (.bk _) _ => rfl
  | .ok (.ct _) _ => rfl
  | .ex _ _ _ => rfl
  | .no => rfl
theorem Q_sNil : Ws (sNil ρ S) N R B C E = N ρ S := rfl
theorem Q_ret : Ws (sRet m ρ S) N R B C E = Wp (m ρ S) R E := Q_sbind
theorem Q_retN : Ws (sRetN ρ S) N R B C E = R .non S := rfl
theorem Q_exp : Ws (sExp m ρ S) N R B C E = Wp (m ρ S) (fun _ S1 => N ρ S1) E := Q_sbind
theorem Q_set {i : Nat} : Ws (sSet i m ρ S) N R B C E = Wp (m ρ S) (fun d S1 => N (ρ.set i (some d)) S1) E := Q_sbind
theorem Q_if : Ws (sIf t a b ρ S) N R B C E = Wp (t ρ S) (fun c S1 => Ws (if c = true then a ρ S1 else b ρ S1) N R B C E) E := Q_sbind
theorem Q_brk : Ws (sBrk ρ S) N R B C E = B ρ S := rfl
theorem Q_cnt : Ws (sCnt ρ S) N R B C E = C ρ S := rfl
theorem Q_st {o o' : Out Fl} : Ws (if true = true then o else o') N R B C E = Ws o N R B C E := rfl
theorem Q_sf {o o' : Out Fl} : Ws (if false = true then o else o') N R B C E = Ws o' N R B C E := rfl
theorem Q_nx : Ws (.ok (.nx ρ) S) N R B C E = N ρ S := rfl
theorem Q_sT {h : Decidable True} {o o' : Out Fl} : Ws (@ite _ True h o o') N R B C E = Ws o N R B C E := by rw [if_pos trivial]
theorem Q_sF {h : Decidable False} {o o' : Out Fl} : Ws (@ite _ False h o o') N R B C E = Ws o' N R B C E := by rw [if_neg not_false]
theorem ws_dt {p : Prop} [Decidable p] {o o' : Out Fl} (h : p) (q : Ws o N R B C E) : Ws (if decide p = true then o else o') N R B C E := ws_t (decide_eq_true h) q
theorem ws_df {p : Prop} [Decidable p] {o o' : Out Fl} (h : ¬ p) (q : Ws o' N R B C E) : Ws (if decide p = true then o else o') N R B C E := ws_f (decide_eq_false h) q
def _root_.PV.parQ (i j : Nat) (ρ : Ev) (ds : List D) (S1 : Sto) : Out Fl := match ds with
  | [d, e] => .ok (.nx ((ρ.set i (some d)).set j (some e))) S1
  | _ => .no
theorem Q_par {i j : Nat} : Ws (sPar i j ms ρ S) N R B C E = Wp (ms ρ S) (fun ds S1 => Ws (parQ i j ρ ds S1) N R B C E) E := Q_sbind
theorem Q_parQ {i j : Nat} {d e : D} : Ws (parQ i j ρ [d, e] S) N R B C E = N ((ρ.set i (some d)).set j (some e)) S := rfl
def _root_.PV.asgQ (T : Tg) (d : D) (ρ : Ev) (S1 : Sto) : Out Fl := match setT T d ρ with
  | some ρ' => .ok (.nx ρ') S1
  | none => .no
theorem Q_asg {T : Tg} : Ws (sAsg T m ρ S) N R B C E = Wp (m ρ S) (fun d S1 => Ws (asgQ T d ρ S1) N R B C E) E := Q_sbind
theorem Q_asgN {i : Nat} {d : D} : Ws (asgQ (.nm i) d ρ S) N R B C E = N (ρ.set i (some d)) S := rfl
theorem Q_asg2 {i j : Nat} {d e : D} : Ws (asgQ (.tp [i, j]) (.tup [d, e]) ρ S) N R B C E = N ((ρ.set i (some d)).set j (some e)) S := rfl
theorem Q_asg3 {i j l : Nat} {d e f : D} : Ws (asgQ (.tp [i, j, l]) (.tup [d, e, f]) ρ S) N R B C E = N (((ρ.set i (some d)).set j (some e)).set l (some f)) S := rfl
theorem Q_asg4 {i j l n : Nat} {d e f g : D} : Ws (asgQ (.tp [i, j, l, n]) (.tup [d, e, f, g]) ρ S) N R B C E = N ((((ρ.set i (some d)).set j (some e)).set l (some f)).set n (some g)) S := rfl
theorem ws_asgQ {T : Tg} {d : D} {ρ' : Ev} (e : setT T d ρ = some ρ') (q : N ρ' S) : Ws (asgQ T d ρ S) N R B C E := by
  unfold asgQ
  rw [e]
  exact q
def _root_.PV.augQ (i : Nat) (g : G2) (m : ME) (ρ : Ev) (x : D) (S : Sto) : Out Fl := (m ρ S).bind fun y S1 => (g x y S1).bind fun z S2 => .ok (.nx (ρ.set i (some z))) S2
theorem Q_aug {i : Nat} {g : G2} : Ws (sAug i g m ρ S) N R B C E = Wp (v i ρ S) (fun x S' => Ws (augQ i g m ρ x S') N R B C E) E := by
  unfold sAug v
  match ρ[i]? with
  | some (some x) => rfl
  | some none => rfl
  | none => rfl
theorem Q_augQ {i : Nat} {g : G2} {x : D} : Ws (augQ i g m ρ x S) N R B C E = Wp (m ρ S) (fun y S1 => Wp (g x y S1) (fun z S2 => N (ρ.set i (some z)) S2) E) E := by
  unfold augQ
  rw [Q_sbind]
  exact Wp_Q fun _ _ => Q_sbind
variable {Q : List D × Option Nat → Sto → Prop} {d : D}
def _root_.PV.seqQ (d : D) (S1 : Sto) : Out (List D × Option Nat) := match itemsI S1 d with
  | some p => .ok p S1
  | none => .no
theorem Q_iSeq : Wp (iSeq m ρ S) Q E = Wp (m ρ S) (fun d S1 => Wp (seqQ d S1) Q E) E := Q_bind
theorem Q_seqL {xs : List D} : Wp (seqQ (.lst xs) S) Q E = Q (xs, none) S := rfl
theorem Q_seqT {xs : List D} : Wp (seqQ (.tup xs) S) Q E = Q (xs, none) S := rfl
theorem Q_seqS {z : Str} : Wp (seqQ (.str z) S) Q E = Q (signs z, none) S := rfl
def _root_.PV.r1Q (ds : List D) (S1 : Sto) : Out (List D × Option Nat) := match ds with
  | [.int j] => if near62 j = true then .ok (ups 0 j.toNat, none) S1 else .no
  | _ => .no
def _root_.PV.r2Q (ds : List D) (S1 : Sto) : Out (List D × Option Nat) := match ds with
  | [.int i, .int j] => if near62 i = true ∧ near62 j = true then .ok (ups i (j - i).toNat, none) S1 else .no
  | _ => .no
theorem Q_iR1 : Wp (iR1 ms ρ S) Q E = Wp (ms ρ S) (fun ds S1 => Wp (r1Q ds S1) Q E) E := Q_bind
theorem Q_iR2 : Wp (iR2 ms ρ S) Q E = Wp (ms ρ S) (fun ds S1 => Wp (r2Q ds S1) Q E) E := Q_bind
theorem wp_r1Q {j : Int} (h : near62 j = true) (q : Q (ups 0 j.toNat, none) S) : Wp (r1Q [.int j] S) Q E := by
  unfold r1Q
  simp only [h, if_true]
  exact q
theorem wp_r2Q {i j : Int} (h : near62 i = true) (h' : near62 j = true) (q : Q (ups i (j - i).toNat, none) S) : Wp (r2Q [.int i, .int j] S) Q E := by
  unfold r2Q
  simp only [h, h', and_self, if_true]
  exact q
theorem Q_iEn : Wp (iEn ms ρ S) Q E = Wp (ms ρ S) (fun ds S1 => Wp (enD ds S1) Q E) E := Q_bind
theorem Q_iZp : Wp (iZp ms ρ S) Q E = Wp (ms ρ S) (fun ds S1 => Wp (zpD ds S1) Q E) E := Q_bind
theorem Q_zpl {xs ys : List D} : Wp (zpD [.lst xs, .lst ys] S) Q E = Q (zipD xs ys, none) S := rfl
theorem Q_zpt {xs ys : List D} : Wp (zpD [.tup xs, .tup ys] S) Q E = Q (zipD xs ys, none) S := rfl
end
section
variable {α : Type} {E : XQ} {S : Sto} {ρ : Ev} {Q : D → Sto → Prop} {m : ME} {ms : MA}
def _root_.PV.frzQ (d : D) (S1 : Sto) : Out D := match d with
  | .loc n => match S1[n]? with
    | some (.lst xs) => .ok (.lst xs) (S1.set n .dead)
    | _ => .no
  | _ => .no
theorem Q_frz : Wp (frzE m ρ S) Q E = Wp (m ρ S) (fun d S1 => Wp (frzQ d S1) Q E) E := Q_bind
def _root_.PV.lnsQ (d : D) (S1 : Sto) : Out D := match d with
  | .lst xs => match asStrs xs with
    | some ys => if ys.Nodup ∧ ys.length < 4000 then .ok (.int ys.length) S1 else .no
    | none => .no
  | _ => .no
theorem Q_lns : Wp (lnsE m ρ S) Q E = Wp (m ρ S) (fun d S1 => Wp (lnsQ d S1) Q E) E := Q_bind
theorem Q_dc {kvs : List (Str × Cst)} : Wp (dcE kvs ρ S) Q E = Q (.hob (.dK (L2.mergeK [] (kvV kvs)))) S := rfl
theorem Q_iEs {Q : List D × Option Nat → Sto → Prop} : Wp (iEs ms ρ S) Q E = Wp (ms ρ S) (fun ds S1 => Wp (ensD ds S1) Q E) E := Q_bind
theorem Q_ens {Q : List D × Option Nat → Sto → Prop} {z : Str} : Wp (ensD [.str z] S) Q E = Q (numbered 0 (signs z), none) S := rfl
theorem Q_enl {Q : List D × Option Nat → Sto → Prop} {xs : List D} : Wp (enD [.lst xs] S) Q E = Q (numbered 0 xs, none) S := rfl
theorem Q_ent {Q : List D × Option Nat → Sto → Prop} {xs : List D} : Wp (enD [.tup xs] S) Q E = Q (numbered 0 xs, none) S := rfl
end
section
variable {ρ : Ev} {S : Sto} {N : Ev → Sto → Prop} {R : D → Sto → Prop} {B C : Ev → Sto → Prop} {E : XQ} {m o i : ME}
end
end PVZ
set_option Elab.async false
set_option linter.all false
set_option maxRecDepth 100000
set_option maxHeartbeats 4000000
namespace PV
open PySem
@[irreducible] def Wp {α : Type} (o : Out α) (Q : α → Sto → Prop) (E : XQ) (t : Tag (Q, E) := .mk) : Prop := PVZ.Wp o Q E t
@[irreducible] def Ws (o : Out Fl) (N : Ev → Sto → Prop) (R : D → Sto → Prop) (B C : Ev → Sto → Prop) (E : XQ) (t : Tag (N, R, B, C, E) := .mk) : Prop := PVZ.Ws o N R B C E t
section
variable {α β : Type} {o : Out α} {Q Q' : α → Sto → Prop} {E E' : XQ}
theorem Wp.imp (h : Wp o Q E) (i : ∀ a S, Q a S → Q' a S) (j : ∀ c fs S, E c fs S → E' c fs S) : Wp o Q' E' := by with_unfolding_all exact PVZ.Wp.imp h i j
theorem wp_ok {a : α} {S : Sto} (h : Q a S) : Wp (.ok a S) Q E := by with_unfolding_all exact PVZ.wp_ok h
theorem wp_eq {a : α} {S : Sto} (e : o = .ok a S) (h : Q a S) : Wp o Q E := by with_unfolding_all exact PVZ.wp_eq e h
theorem Wp.of {o : Out α} (h : Wp o Q fun _ _ _ => False) : ∃ a S, o = .ok a S ∧ Q a S := by with_unfolding_all exact PVZ.Wp.of h
theorem wp_bind {k : α → Sto → Out β} {R : β → Sto → Prop} (h : Wp o (fun a S => Wp (k a S) R E) E) : Wp (o.bind k) R E := by with_unfolding_all exact PVZ.wp_bind h
theorem ws_bind {k : α → Sto → Out Fl} {N : Ev → Sto → Prop} {R : D → Sto → Prop} {B C : Ev → Sto → Prop} (h : Wp o (fun a S => Ws (k a S) N R B C E) E) : Ws (o.bind k) N R B C E := by with_unfolding_all exact PVZ.ws_bind h
theorem Ws.imp {o : Out Fl} {N N' : Ev → Sto → Prop} {R R' : D → Sto → Prop} {B B' C C' : Ev → Sto → Prop} (h : Ws o N R B C E) (i : ∀ ρ S, N ρ S → N' ρ S) (j : ∀ d S, R d S → R' d S) (b : ∀ ρ S, B ρ S → B' ρ S) (c : ∀ ρ S, C ρ S → C' ρ S) (e : ∀ c fs S, E c fs S → E' c fs S) : Ws o N' R' B' C' E' := by with_unfolding_all exact PVZ.Ws.imp h i j b c e
end
theorem ex1 {α : Type} {p q : α → Prop} {a : α} (h : p a) (h2 : q a) : ∃ a, p a ∧ q a := by with_unfolding_all exact PVZ.ex1 h h2
section
variable {ρ : Ev} {S : Sto} {Q : D → Sto → Prop} {E : XQ} {a b c : ME} {d : D}
variable {t u : MT}
theorem wp_t {α : Type} {x : Bool} {o o' : Out α} {Q : α → Sto → Prop} (h : x = true) (q : Wp o Q E) : Wp (if x = true then o else o') Q E := by with_unfolding_all exact PVZ.wp_t h q
theorem wp_f {α : Type} {x : Bool} {o o' : Out α} {Q : α → Sto → Prop} (h : x = false) (q : Wp o' Q E) : Wp (if x = true then o else o') Q E := by with_unfolding_all exact PVZ.wp_f h q
theorem wp_ofLen {n : Nat} {F : Fn} {ds : List D} (h : ds.length = n) (q : Wp (F ds S) Q E) : Wp (ofLen n F ds S) Q E := by with_unfolding_all exact PVZ.wp_ofLen h q
theorem wp_kw {idx : List Nat} {dds ds es : List D} {F : Fn} (h : pickL idx (ds ++ dds) = es) (q : Wp (F es S) Q E) : Wp (kwF idx dds F ds S) Q E := by with_unfolding_all exact PVZ.wp_kw h q
theorem wp_mul {i j : Int} (h : mulOk i j = true) (q : Q (.int (i * j)) S) : Wp (mulG (.int i) (.int j) S) Q E := by with_unfolding_all exact PVZ.wp_mul h q
theorem wp_fdiv {i j : Int} (h : divOk j = true) (q : Q (.int (i / j)) S) : Wp (fdivG (.int i) (.int j) S) Q E := by with_unfolding_all exact PVZ.wp_fdiv h q
theorem wp_mod {i j : Int} (h : 0 < j) (q : Q (.int (i % j)) S) : Wp (modG (.int i) (.int j) S) Q E := by with_unfolding_all exact PVZ.wp_mod h q
theorem wp_pow {i j : Int} (h : powOk i j = true) (q : Q (.int (i ^ j.toNat)) S) : Wp (powG (.int i) (.int j) S) Q E := by with_unfolding_all exact PVZ.wp_pow h q
theorem wp_eqv {x y : D} {e n : Bool} (h : eqD x y = some e) (q : Q (.bl (n ^^ e)) S) : Wp (eqG n x y S) Q E := by with_unfolding_all exact PVZ.wp_eqv h q
theorem wp_ixl {xs : List D} {i : Int} {x : D} (h : L2.atI xs i = some x) (q : Q x S) : Wp (ixG (.lst xs) (.int i) S) Q E := by with_unfolding_all exact PVZ.wp_ixl h q
theorem wp_fld {cs : List String} {f : String} {x y : D} {c : String} {fs : List (String × D)} (h1 : insOf S x = some (c, fs)) (h2 : cs.contains c = true) (h3 : fs.lookup f = some y) (q : Q y S) : Wp (fldG cs f x S) Q E := by with_unfolding_all exact PVZ.wp_fld h1 h2 h3 q
theorem wp_isi {ans : Ty → Option Bool} {cls : D → Bool} {ds : List D} {b : Bool} (h : isiF ans cls ds S = .ok (.bl b) S) (q : Q (.bl b) S) : Wp (isiF ans cls ds S) Q E := by with_unfolding_all exact PVZ.wp_isi h q
theorem wp_isiA {Ts cs : List String} (h : Wp (a ρ S) (fun x S1 => ∃ t, tyD S1 x = some t ∧ (match t with | .b n => Q (.bl (Ts.any fun T => subT n T)) S1 | .c n => cs.contains n = true ∧ Q (.bl false) S1)) E) : Wp (isiA Ts cs a ρ S) Q E := by with_unfolding_all exact PVZ.wp_isiA h
end
section
variable {ρ : Ev} {S : Sto} {N : Ev → Sto → Prop} {R : D → Sto → Prop} {B C : Ev → Sto → Prop} {E : XQ} {a b : MS} {m o : ME} {t : MT}
theorem ws_t {x : Bool} {o o' : Out Fl} (h : x = true) (q : Ws o N R B C E) : Ws (if x = true then o else o') N R B C E := by with_unfolding_all exact PVZ.ws_t h q
theorem ws_f {x : Bool} {o o' : Out Fl} (h : x = false) (q : Ws o' N R B C E) : Ws (if x = true then o else o') N R B C E := by with_unfolding_all exact PVZ.ws_f h q
theorem ws_forL {T : Tg} {g : Option Nat} {all : List D} (I : Nat → Ev → Sto → Prop) (hg : ∀ j ρ S, I j ρ S → Gd g all S) : ∀ (xs : List D) (i : Nat) (ρ : Ev) (S : Sto), (∀ j x, xs[j]? = some x → ∀ ρ S, I (i + j) ρ S → ∃ ρ1, setT T x ρ = some ρ1 ∧ Ws (b ρ1 S) (I (i + j + 1)) R N (I (i + j + 1)) E) → (∀ ρ S, I (i + xs.length) ρ S → N ρ S) → I i ρ S → Ws (forL T b g all xs ρ S) N R B C E := by with_unfolding_all exact PVZ.ws_forL I hg
theorem ws_for {T : Tg} {it : MI} (I : Nat → Ev → Sto → Prop) (h : Wp (it ρ S) (fun p S1 => (∀ j ρ S, I j ρ S → Gd p.2 p.1 S) ∧ I 0 ρ S1 ∧ (∀ j x, p.1[j]? = some x → ∀ ρ S, I j ρ S → ∃ ρ1, setT T x ρ = some ρ1 ∧ Ws (b ρ1 S) (I (j + 1)) R N (I (j + 1)) E) ∧ (∀ ρ S, I p.1.length ρ S → N ρ S)) E) : Ws (sFor T it b ρ S) N R B C E := by with_unfolding_all exact PVZ.ws_for I h
theorem ws_whl (I : Nat → Ev → Sto → Prop) (n : Nat) (h0 : I n ρ S) (hs : ∀ m ρ S, I m ρ S → Wp (t ρ S) (fun c S1 => (c = true → Ws (b ρ S1) (fun ρ' S' => ∃ m', m' < m ∧ I m' ρ' S') R N (fun ρ' S' => ∃ m', m' < m ∧ I m' ρ' S') E) ∧ (c = false → N ρ S1)) E) : Ws (sWhl t b ρ S) N R B C E := by with_unfolding_all exact PVZ.ws_whl I n h0 hs
theorem wp_lcL {T : Tg} {e : ME} {g : Option Nat} {all : List D} (I : Nat → List D → Sto → Prop) (hg : ∀ j acc S, I j acc S → Gd g all S) : ∀ (xs : List D) (i : Nat) (acc : List D) (S : Sto), (∀ j x, xs[j]? = some x → ∀ acc S, I (i + j) acc S → ∃ ρ1, setT T x ρ = some ρ1 ∧ Wp (t ρ1 S) (fun c S1 => (c = true → Wp (e ρ1 S1) (fun d S2 => I (i + j + 1) (acc ++ [d]) S2) fun _ _ _ => False) ∧ (c = false → I (i + j + 1) acc S1)) fun _ _ _ => False) → I i acc S → ∃ ds S', lcL T t e g all ρ xs S = .ok ds S' ∧ I (i + xs.length) (acc ++ ds) S' := by with_unfolding_all exact PVZ.wp_lcL I hg
theorem wp_lcO {T : Tg} {it : MI} {e : ME} {Q : List D → Sto → Prop} (I : Nat → List D → Sto → Prop) (h : Wp (it ρ S) (fun p S1 => p.1.length ≤ 1000 ∧ (∀ j acc S, I j acc S → Gd p.2 p.1 S) ∧ I 0 [] S1 ∧ (∀ j x, p.1[j]? = some x → ∀ acc S, I j acc S → ∃ ρ1, setT T x (wipeD ρ T.slots) = some ρ1 ∧ Wp (t ρ1 S) (fun c S1 => (c = true → Wp (e ρ1 S1) (fun d S2 => I (j + 1) (acc ++ [d]) S2) fun _ _ _ => False) ∧ (c = false → I (j + 1) acc S1)) fun _ _ _ => False) ∧ ∀ ds S, I p.1.length ds S → Q ds S) E) : Wp (lcO T it t e ρ S) Q E := by with_unfolding_all exact PVZ.wp_lcO I h
theorem wp_lcE {T : Tg} {it : MI} {e : ME} {Q : D → Sto → Prop} (h : Wp (lcO T it t e ρ S) (fun ds S1 => Q (.lst ds) S1) E) : Wp (lcE T it t e ρ S) Q E := by with_unfolding_all exact PVZ.wp_lcE h
end
section
variable {S : Sto} {Q : D → Sto → Prop} {E : XQ}
def Gq (S : Sto) (Q : D → Sto → Prop) (E : XQ) (d : D) (S' : Sto) : Prop := Wp (gcO S (.ok d S')) Q E
def Gx (S : Sto) (Q : D → Sto → Prop) (E : XQ) : XQ := fun c fs S' => Wp (gcO S (.ex c fs S')) Q E
theorem gq_len {d : D} {S' : Sto} (h : S'.length = S.length) (q : Q d S') : Gq S Q E d S' := by with_unfolding_all exact PVZ.gq_len h q
theorem gq_same {d : D} (q : Q d S) : Gq S Q E d S := by with_unfolding_all exact PVZ.gq_same q
theorem wp_dfn {np n : Nat} {b : MS} {ds : List D} (hl : ds.length = np) (h : Ws (b (ds.map some ++ List.replicate (n - np) none) S) (fun _ S' => Gq S Q E .non S') (Gq S Q E) (fun _ _ => False) (fun _ _ => False) (Gx S Q E)) : Wp (dfn np n b ds S) Q E := by with_unfolding_all exact PVZ.wp_dfn hl h
end
theorem Wp_Q {α : Type} {o : Out α} {Q Q' : α → Sto → Prop} {E : XQ} (h : ∀ a S, Q a S = Q' a S) : Wp o Q E = Wp o Q' E := by with_unfolding_all exact PVZ.Wp_Q h
section
variable {α β : Type} {E : XQ} {S : Sto} {ρ : Ev}
theorem Q_bind {o : Out α} {k : α → Sto → Out β} {Q : β → Sto → Prop} : Wp (o.bind k) Q E = Wp o (fun a S => Wp (k a S) Q E) E := by with_unfolding_all exact PVZ.Q_bind
theorem Q_sbind {o : Out α} {k : α → Sto → Out Fl} {N : Ev → Sto → Prop} {R : D → Sto → Prop} {B C : Ev → Sto → Prop} : Ws (o.bind k) N R B C E = Wp o (fun a S => Ws (k a S) N R B C E) E := by with_unfolding_all exact PVZ.Q_sbind
theorem Q_ok {a : α} {Q : α → Sto → Prop} : Wp (.ok a S) Q E = Q a S := by with_unfolding_all exact PVZ.Q_ok
theorem Q_ex {c : String} {fs : List (String × D)} {Q : α → Sto → Prop} : Wp (.ex c fs S) Q E = E c fs S := by with_unfolding_all exact PVZ.Q_ex
variable {Q : D → Sto → Prop} {d x : D} {o : Option D} {a b c m : ME} {ms : MA} {t u : MT}
theorem Q_v0 : Wp (v 0 (some d :: ρ) S) Q E = Q d S := by with_unfolding_all exact PVZ.Q_v0
theorem Q_vs {n : Nat} : Wp (v (n + 1) (o :: ρ) S) Q E = Wp (v n ρ S) Q E := by with_unfolding_all exact PVZ.Q_vs
theorem Q_k : Wp (k d ρ S) Q E = Q d S := by with_unfolding_all exact PVZ.Q_k
theorem Q_bin {g : G2} : Wp (bin g a b ρ S) Q E = Wp (a ρ S) (fun x S1 => Wp (b ρ S1) (fun y S2 => Wp (g x y S2) Q E) E) E := by with_unfolding_all exact PVZ.Q_bin
theorem Q_una {g : G1} : Wp (una g a ρ S) Q E = Wp (a ρ S) (fun x S1 => Wp (g x S1) Q E) E := by with_unfolding_all exact PVZ.Q_una
theorem Q_cal {F : Fn} : Wp (cal F ms ρ S) Q E = Wp (ms ρ S) (fun ds S1 => Wp (F ds S1) Q E) E := by with_unfolding_all exact PVZ.Q_cal
theorem Q_nil {Q : List D → Sto → Prop} : Wp (aNil ρ S) Q E = Q [] S := by with_unfolding_all exact PVZ.Q_nil
theorem Q_cons {Q : List D → Sto → Prop} : Wp (aCons a ms ρ S) Q E = Wp (a ρ S) (fun x S1 => Wp (ms ρ S1) (fun ds S2 => Q (x :: ds) S2) E) E := by with_unfolding_all exact PVZ.Q_cons
theorem Q_star {Q : List D → Sto → Prop} : Wp (aStar a ms ρ S) Q E = Wp (a ρ S) (fun x S1 => Wp (match x with
  | .lst xs => (ms ρ S1).bind fun ds S2 => .ok (xs ++ ds) S2
  | .tup xs => (ms ρ S1).bind fun ds S2 => .ok (xs ++ ds) S2
  | .loc n => match S1[n]? with
    | some (.lst xs) => (ms ρ S1).bind fun ds S2 => .ok (xs ++ ds) S2
    | _ => .no
  | _ => .no) Q E) E := by with_unfolding_all exact PVZ.Q_star
variable {P : Bool → Sto → Prop}
theorem Q_tst : Wp (tst a ρ S) P E = Wp (a ρ S) (fun d S1 => Wp (match d with | .bl b => Out.ok b S1 | _ => .no) P E) E := by with_unfolding_all exact PVZ.Q_tst
theorem Q_tru : Wp (tru a ρ S) P E = Wp (a ρ S) (fun d S1 => Wp (match truD d with | some b => Out.ok b S1 | none => .no) P E) E := by with_unfolding_all exact PVZ.Q_tru
theorem Q_no : Wp (tNo t ρ S) P E = Wp (t ρ S) (fun c S1 => P (!c) S1) E := by with_unfolding_all exact PVZ.Q_no
theorem Q_an : Wp (tAn t u ρ S) P E = Wp (t ρ S) (fun c S1 => Wp (if c = true then u ρ S1 else .ok false S1) P E) E := by with_unfolding_all exact PVZ.Q_an
theorem Q_or : Wp (tOr t u ρ S) P E = Wp (t ρ S) (fun c S1 => Wp (if c = true then .ok true S1 else u ρ S1) P E) E := by with_unfolding_all exact PVZ.Q_or
theorem Q_ifE : Wp (ifE t a b ρ S) Q E = Wp (t ρ S) (fun c S1 => Wp (if c = true then a ρ S1 else b ρ S1) Q E) E := by with_unfolding_all exact PVZ.Q_ifE
theorem Q_anE : Wp (anE a b ρ S) Q E = Wp (a ρ S) (fun d S1 => Wp (anD b ρ d S1) Q E) E := by with_unfolding_all exact PVZ.Q_anE
theorem Q_orE : Wp (orE a b ρ S) Q E = Wp (a ρ S) (fun d S1 => Wp (orD b ρ d S1) Q E) E := by with_unfolding_all exact PVZ.Q_orE
theorem Q_anD {c : Bool} : Wp (anD b ρ (.bl c) S) Q E = Wp (if c = true then b ρ S else .ok (.bl false) S) Q E := by with_unfolding_all exact PVZ.Q_anD
theorem Q_orD {c : Bool} : Wp (orD b ρ (.bl c) S) Q E = Wp (if c = true then .ok (.bl true) S else b ρ S) Q E := by with_unfolding_all exact PVZ.Q_orD
theorem Q_noE : Wp (noE a ρ S) Q E = Wp (a ρ S) (fun d S1 => Wp (match d with | .bl b => .ok (.bl (!b)) S1 | _ => .no) Q E) E := by with_unfolding_all exact PVZ.Q_noE
theorem Q_chn {g g' : G2} : Wp (chn g g' a b c ρ S) Q E = Wp (a ρ S) (fun x S1 => Wp (b ρ S1) (fun y S2 => Wp (g x y S2) (fun z S3 => Wp (chD g' y c ρ z S3) Q E) E) E) E := by with_unfolding_all exact PVZ.Q_chn
theorem Q_chD {g' : G2} {y : D} {t : Bool} : Wp (chD g' y c ρ (.bl t) S) Q E = Wp (if t = true then (c ρ S).bind fun u S4 => g' y u S4 else .ok (.bl false) S) Q E := by with_unfolding_all exact PVZ.Q_chD
theorem Q_t {o o' : Out α} {Q : α → Sto → Prop} : Wp (if true = true then o else o') Q E = Wp o Q E := by with_unfolding_all exact PVZ.Q_t
theorem Q_f {o o' : Out α} {Q : α → Sto → Prop} : Wp (if false = true then o else o') Q E = Wp o' Q E := by with_unfolding_all exact PVZ.Q_f
theorem Q_T {h : Decidable True} {o o' : Out α} {Q : α → Sto → Prop} : Wp (@ite _ True h o o') Q E = Wp o Q E := by with_unfolding_all exact PVZ.Q_T
theorem Q_F {h : Decidable False} {o o' : Out α} {Q : α → Sto → Prop} : Wp (@ite _ False h o o') Q E = Wp o' Q E := by with_unfolding_all exact PVZ.Q_F
theorem wp_dt {p : Prop} [Decidable p] {o o' : Out α} {Q : α → Sto → Prop} (h : p) (q : Wp o Q E) : Wp (if decide p = true then o else o') Q E := by with_unfolding_all exact PVZ.wp_dt h q
theorem wp_df {p : Prop} [Decidable p] {o o' : Out α} {Q : α → Sto → Prop} (h : ¬ p) (q : Wp o' Q E) : Wp (if decide p = true then o else o') Q E := by with_unfolding_all exact PVZ.wp_df h q
theorem Q_tup : Wp (tupE ms ρ S) Q E = Wp (ms ρ S) (fun ds S1 => Wp (tupQ ds S1) Q E) E := by with_unfolding_all exact PVZ.Q_tup
theorem Q_lst : Wp (lstE ms ρ S) Q E = Wp (ms ρ S) (fun ds S1 => Wp (lstQ ds S1) Q E) E := by with_unfolding_all exact PVZ.Q_lst
theorem Q_lstM : Wp (lstM ms ρ S) Q E = Wp (ms ρ S) (fun ds S1 => Wp (lstMQ ds S1) Q E) E := by with_unfolding_all exact PVZ.Q_lstM
theorem wp_tupQ {ds : List D} (h : ds.length ≤ 1000) (q : Q (.tup ds) S) : Wp (tupQ ds S) Q E := by with_unfolding_all exact PVZ.wp_tupQ h q
theorem wp_lstQ {ds : List D} (h : ds.length ≤ 1000) (q : Q (.lst ds) S) : Wp (lstQ ds S) Q E := by with_unfolding_all exact PVZ.wp_lstQ h q
theorem wp_lstMQ {ds : List D} (h : ds.length ≤ 1000) (q : Q (.loc S.length) (S ++ [.lst ds])) : Wp (lstMQ ds S) Q E := by with_unfolding_all exact PVZ.wp_lstMQ h q
theorem Q_cm {C : String} {F : Fn} : Wp (cmE C F (k (.cls C)) ms ρ S) Q E = Wp (ms ρ S) (fun ds S2 => Wp (F (.cls C :: ds) S2) Q E) E := by with_unfolding_all exact PVZ.Q_cm
theorem Q_sm {C : String} {F : Fn} : Wp (smE C F (k (.cls C)) ms ρ S) Q E = Wp (ms ρ S) (fun ds S2 => Wp (F ds S2) Q E) E := by with_unfolding_all exact PVZ.Q_sm
theorem Q_mt {τ : List (String × Fn)} {n : String} : Wp (mtO τ n a ms ρ S) Q E = Wp (a ρ S) (fun x S1 => Wp (mtQ τ n ms ρ x S1) Q E) E := by with_unfolding_all exact PVZ.Q_mt
theorem wp_mtQ {τ : List (String × Fn)} {n C : String} {fs : List (String × D)} {F : Fn} (e1 : insOf S x = some (C, fs)) (e2 : τ.lookup C = some F) (e3 : fs.lookup n = none) (q : Wp (ms ρ S) (fun ds S2 => Wp (F (x :: ds) S2) Q E) E) : Wp (mtQ τ n ms ρ x S) Q E := by with_unfolding_all exact PVZ.wp_mtQ e1 e2 e3 q
theorem Q_mtK {C n : String} {l : Nat} {F : Fn} : Wp (mtK C n l F a ms ρ S) Q E = Wp (a ρ S) (fun x S1 => Wp (mtKQ C n l F ms ρ x S1) Q E) E := by with_unfolding_all exact PVZ.Q_mtK
theorem wp_mtKQ {n C : String} {l : Nat} {fs : List (String × D)} {F : Fn} (e1 : insOf S x = some (C, fs)) (e3 : fs.lookup n = none) (q : Wp (ms ρ S) (fun ds S2 => ds.length = l ∧ Wp (F (x :: ds) S2) Q E) E) : Wp (mtKQ C n l F ms ρ x S) Q E := by with_unfolding_all exact PVZ.wp_mtKQ e1 e3 q
theorem Q_mthL {g : D → List D → Sto → Out D} : Wp (mthL g a ms ρ S) Q E = Wp (a ρ S) (fun x S1 => Wp (mthQ g ms ρ x S1) Q E) E := by with_unfolding_all exact PVZ.Q_mthL
theorem Q_mthS {g : G2} : Wp (mthS g a b ρ S) Q E = Wp (a ρ S) (fun x S1 => Wp (if isStr x = true then (b ρ S1).bind fun y S2 => g x y S2 else .no) Q E) E := by with_unfolding_all exact PVZ.Q_mthS
theorem Q_isStr {z : Str} {o o' : Out D} : Wp (if isStr (.str z) = true then o else o') Q E = Wp o Q E := by with_unfolding_all exact PVZ.Q_isStr
theorem Q_itemsF {g : Fn} : Wp (itemsF g m ρ S) Q E = Wp (m ρ S) (fun d S1 => Wp (match d with
  | .lst xs => g xs S1
  | .tup xs => g xs S1
  | .loc n => match S1[n]? with
    | some (.lst xs) => g xs S1
    | _ => .no
  | _ => .no) Q E) E := by with_unfolding_all exact PVZ.Q_itemsF
theorem Q_sli {l h : MO} : Wp (sli m l h ρ S) Q E = Wp (m ρ S) (fun x S1 => Wp (l ρ S1) (fun lo S2 => Wp (h ρ S2) (fun hi S3 => Wp (slG x lo hi S3) Q E) E) E) E := by with_unfolding_all exact PVZ.Q_sli
theorem Q_oNo {Q : Option Int → Sto → Prop} : Wp (oNo ρ S) Q E = Q none S := by with_unfolding_all exact PVZ.Q_oNo
theorem Q_oSo {Q : Option Int → Sto → Prop} : Wp (oSo m ρ S) Q E = Wp (m ρ S) (fun d S1 => Wp (match d with | .int i => Out.ok (some i) S1 | _ => .no) Q E) E := by with_unfolding_all exact PVZ.Q_oSo
variable {i j : Int}
theorem Q_add : Wp (addG (.int i) (.int j) S) Q E = Q (.int (i + j)) S := by with_unfolding_all exact PVZ.Q_add
theorem Q_addI : Wp (addI (.int i) (.int j) S) Q E = Q (.int (i + j)) S := by with_unfolding_all exact PVZ.Q_addI
theorem Q_sub : Wp (subG (.int i) (.int j) S) Q E = Q (.int (i - j)) S := by with_unfolding_all exact PVZ.Q_sub
theorem Q_neg : Wp (negG (.int i) S) Q E = Q (.int (-i)) S := by with_unfolding_all exact PVZ.Q_neg
theorem Q_eqI : Wp (eqG false (.int i) (.int j) S) Q E = Q (.bl (decide (i = j))) S := by with_unfolding_all exact PVZ.Q_eqI
theorem Q_neI : Wp (eqG true (.int i) (.int j) S) Q E = Q (.bl (!decide (i = j))) S := by with_unfolding_all exact PVZ.Q_neI
theorem Q_lt : Wp (ltG (.int i) (.int j) S) Q E = Q (.bl (decide (i < j))) S := by with_unfolding_all exact PVZ.Q_lt
theorem Q_le : Wp (leG (.int i) (.int j) S) Q E = Q (.bl (decide (i ≤ j))) S := by with_unfolding_all exact PVZ.Q_le
theorem Q_gt : Wp (gtG (.int i) (.int j) S) Q E = Q (.bl (decide (j < i))) S := by with_unfolding_all exact PVZ.Q_gt
theorem Q_ge : Wp (geG (.int i) (.int j) S) Q E = Q (.bl (decide (j ≤ i))) S := by with_unfolding_all exact PVZ.Q_ge
theorem Q_isN {n : Bool} : Wp (isG n x .non S) Q E = Q (.bl (n ^^ isNon x)) S := by with_unfolding_all exact PVZ.Q_isN
theorem Q_int : Wp (intB [.int i] S) Q E = Q (.int i) S := by with_unfolding_all exact PVZ.Q_int
theorem Q_intb {b : Bool} : Wp (intB [.bl b] S) Q E = Q (.int (if b = true then 1 else 0)) S := by with_unfolding_all exact PVZ.Q_intb
theorem Q_abs : Wp (absB [.int i] S) Q E = Q (.int (if i < 0 then -i else i)) S := by with_unfolding_all exact PVZ.Q_abs
variable {xs ys : List D}
theorem Q_lenl : Wp (lenB [.lst xs] S) Q E = Q (.int xs.length) S := by with_unfolding_all exact PVZ.Q_lenl
theorem Q_lent : Wp (lenB [.tup xs] S) Q E = Q (.int xs.length) S := by with_unfolding_all exact PVZ.Q_lent
theorem Q_tupl : Wp (tupB [.lst xs] S) Q E = Q (.tup xs) S := by with_unfolding_all exact PVZ.Q_tupl
theorem Q_tupt : Wp (tupB [.tup xs] S) Q E = Q (.tup xs) S := by with_unfolding_all exact PVZ.Q_tupt
theorem Q_listl : Wp (listB [.lst xs] S) Q E = Q (.lst xs) S := by with_unfolding_all exact PVZ.Q_listl
theorem Q_listt : Wp (listB [.tup xs] S) Q E = Q (.lst xs) S := by with_unfolding_all exact PVZ.Q_listt
theorem Q_onlyB {o : Out D} : Wp (onlyB o) Q E = Wp o (fun d S1 => Wp (match d with | .bl b => .ok (.bl b) S1 | _ => .no) Q E) E := by with_unfolding_all exact PVZ.Q_onlyB
theorem Q_notB {o : Out D} : Wp (notB o) Q E = Wp o (fun d S1 => Wp (match d with | .bl b => .ok (.bl (!b)) S1 | _ => .no) Q E) E := by with_unfolding_all exact PVZ.Q_notB
end
section
variable {S : Sto} {E : XQ} {Q : D → Sto → Prop}
theorem Q_ixt0 {a : D} {xs : List D} : Wp (ixG (.tup (a :: xs)) (.int 0) S) Q E = Q a S := by with_unfolding_all exact PVZ.Q_ixt0
theorem Q_ixt1 {a b : D} {xs : List D} : Wp (ixG (.tup (a :: b :: xs)) (.int 1) S) Q E = Q b S := by with_unfolding_all exact PVZ.Q_ixt1
theorem Q_ixt2 {a b c : D} {xs : List D} : Wp (ixG (.tup (a :: b :: c :: xs)) (.int 2) S) Q E = Q c S := by with_unfolding_all exact PVZ.Q_ixt2
theorem Q_ixt3 {a b c d : D} {xs : List D} : Wp (ixG (.tup (a :: b :: c :: d :: xs)) (.int 3) S) Q E = Q d S := by with_unfolding_all exact PVZ.Q_ixt3
theorem Q_ixl0 {a : D} {xs : List D} : Wp (ixG (.lst (a :: xs)) (.int 0) S) Q E = Q a S := by with_unfolding_all exact PVZ.Q_ixl0
theorem Q_ixl1 {a b : D} {xs : List D} : Wp (ixG (.lst (a :: b :: xs)) (.int 1) S) Q E = Q b S := by with_unfolding_all exact PVZ.Q_ixl1
theorem Q_ixl2 {a b c : D} {xs : List D} : Wp (ixG (.lst (a :: b :: c :: xs)) (.int 2) S) Q E = Q c S := by with_unfolding_all exact PVZ.Q_ixl2
theorem Q_ixl3 {a b c d : D} {xs : List D} : Wp (ixG (.lst (a :: b :: c :: d :: xs)) (.int 3) S) Q E = Q d S := by with_unfolding_all exact PVZ.Q_ixl3
end
section
variable {ρ : Ev} {S : Sto} {N : Ev → Sto → Prop} {R : D → Sto → Prop} {B C : Ev → Sto → Prop} {E : XQ} {a b : MS} {m o : ME} {t : MT} {ms : MA}
theorem Q_seq : Ws (sSeq a b ρ S) N R B C E = Ws (a ρ S) (fun ρ' S' => Ws (b ρ' S') N R B C E) R B C E := by with_unfolding_all exact PVZ.Q_seq
theorem Q_sNil : Ws (sNil ρ S) N R B C E = N ρ S := by with_unfolding_all exact PVZ.Q_sNil
theorem Q_ret : Ws (sRet m ρ S) N R B C E = Wp (m ρ S) R E := by with_unfolding_all exact PVZ.Q_ret
theorem Q_retN : Ws (sRetN ρ S) N R B C E = R .non S := by with_unfolding_all exact PVZ.Q_retN
theorem Q_exp : Ws (sExp m ρ S) N R B C E = Wp (m ρ S) (fun _ S1 => N ρ S1) E := by with_unfolding_all exact PVZ.Q_exp
theorem Q_set {i : Nat} : Ws (sSet i m ρ S) N R B C E = Wp (m ρ S) (fun d S1 => N (ρ.set i (some d)) S1) E := by with_unfolding_all exact PVZ.Q_set
theorem Q_if : Ws (sIf t a b ρ S) N R B C E = Wp (t ρ S) (fun c S1 => Ws (if c = true then a ρ S1 else b ρ S1) N R B C E) E := by with_unfolding_all exact PVZ.Q_if
theorem Q_brk : Ws (sBrk ρ S) N R B C E = B ρ S := by with_unfolding_all exact PVZ.Q_brk
theorem Q_cnt : Ws (sCnt ρ S) N R B C E = C ρ S := by with_unfolding_all exact PVZ.Q_cnt
theorem Q_st {o o' : Out Fl} : Ws (if true = true then o else o') N R B C E = Ws o N R B C E := by with_unfolding_all exact PVZ.Q_st
theorem Q_sf {o o' : Out Fl} : Ws (if false = true then o else o') N R B C E = Ws o' N R B C E := by with_unfolding_all exact PVZ.Q_sf
theorem Q_nx : Ws (.ok (.nx ρ) S) N R B C E = N ρ S := by with_unfolding_all exact PVZ.Q_nx
theorem Q_sT {h : Decidable True} {o o' : Out Fl} : Ws (@ite _ True h o o') N R B C E = Ws o N R B C E := by with_unfolding_all exact PVZ.Q_sT
theorem Q_sF {h : Decidable False} {o o' : Out Fl} : Ws (@ite _ False h o o') N R B C E = Ws o' N R B C E := by with_unfolding_all exact PVZ.Q_sF
theorem ws_dt {p : Prop} [Decidable p] {o o' : Out Fl} (h : p) (q : Ws o N R B C E) : Ws (if decide p = true then o else o') N R B C E := by with_unfolding_all exact PVZ.ws_dt h q
theorem ws_df {p : Prop} [Decidable p] {o o' : Out Fl} (h : ¬ p) (q : Ws o' N R B C E) : Ws (if decide p = true then o else o') N R B C E := by with_unfolding_all exact PVZ.ws_df h q
theorem Q_par {i j : Nat} : Ws (sPar i j ms ρ S) N R B C E = Wp (ms ρ S) (fun ds S1 => Ws (parQ i j ρ ds S1) N R B C E) E := by with_unfolding_all exact PVZ.Q_par
theorem Q_parQ {i j : Nat} {d e : D} : Ws (parQ i j ρ [d, e] S) N R B C E = N ((ρ.set i (some d)).set j (some e)) S := by with_unfolding_all exact PVZ.Q_parQ
theorem Q_asg {T : Tg} : Ws (sAsg T m ρ S) N R B C E = Wp (m ρ S) (fun d S1 => Ws (asgQ T d ρ S1) N R B C E) E := by with_unfolding_all exact PVZ.Q_asg
theorem Q_asgN {i : Nat} {d : D} : Ws (asgQ (.nm i) d ρ S) N R B C E = N (ρ.set i (some d)) S := by with_unfolding_all exact PVZ.Q_asgN
theorem Q_asg2 {i j : Nat} {d e : D} : Ws (asgQ (.tp [i, j]) (.tup [d, e]) ρ S) N R B C E = N ((ρ.set i (some d)).set j (some e)) S := by with_unfolding_all exact PVZ.Q_asg2
theorem Q_asg3 {i j l : Nat} {d e f : D} : Ws (asgQ (.tp [i, j, l]) (.tup [d, e, f]) ρ S) N R B C E = N (((ρ.set i (some d)).set j (some e)).set l (some f)) S := by with_unfolding_all exact PVZ.Q_asg3
theorem Q_asg4 {i j l n : Nat} {d e f g : D} : Ws (asgQ (.tp [i, j, l, n]) (.tup [d, e, f, g]) ρ S) N R B C E = N ((((ρ.set i (some d)).set j (some e)).set l (some f)).set n (some g)) S := by with_unfolding_all exact PVZ.Q_asg4
theorem ws_asgQ {T : Tg} {d : D} {ρ' : Ev} (e : setT T d ρ = some ρ') (q : N ρ' S) : Ws (asgQ T d ρ S) N R B C E := by with_unfolding_all exact PVZ.ws_asgQ e q
theorem Q_aug {i : Nat} {g : G2} : Ws (sAug i g m ρ S) N R B C E = Wp (v i ρ S) (fun x S' => Ws (augQ i g m ρ x S') N R B C E) E := by with_unfolding_all exact PVZ.Q_aug
theorem Q_augQ {i : Nat} {g : G2} {x : D} : Ws (augQ i g m ρ x S) N R B C E = Wp (m ρ S) (fun y S1 => Wp (g x y S1) (fun z S2 => N (ρ.set i (some z)) S2) E) E := by with_unfolding_all exact PVZ.Q_augQ
variable {Q : List D × Option Nat → Sto → Prop} {d : D}
theorem Q_iSeq : Wp (iSeq m ρ S) Q E = Wp (m ρ S) (fun d S1 => Wp (seqQ d S1) Q E) E := by with_unfolding_all exact PVZ.Q_iSeq
theorem Q_seqL {xs : List D} : Wp (seqQ (.lst xs) S) Q E = Q (xs, none) S := by with_unfolding_all exact PVZ.Q_seqL
theorem Q_seqT {xs : List D} : Wp (seqQ (.tup xs) S) Q E = Q (xs, none) S := by with_unfolding_all exact PVZ.Q_seqT
theorem Q_seqS {z : Str} : Wp (seqQ (.str z) S) Q E = Q (signs z, none) S := by with_unfolding_all exact PVZ.Q_seqS
theorem Q_iR1 : Wp (iR1 ms ρ S) Q E = Wp (ms ρ S) (fun ds S1 => Wp (r1Q ds S1) Q E) E := by with_unfolding_all exact PVZ.Q_iR1
theorem Q_iR2 : Wp (iR2 ms ρ S) Q E = Wp (ms ρ S) (fun ds S1 => Wp (r2Q ds S1) Q E) E := by with_unfolding_all exact PVZ.Q_iR2
theorem wp_r1Q {j : Int} (h : near62 j = true) (q : Q (ups 0 j.toNat, none) S) : Wp (r1Q [.int j] S) Q E := by with_unfolding_all exact PVZ.wp_r1Q h q
theorem wp_r2Q {i j : Int} (h : near62 i = true) (h' : near62 j = true) (q : Q (ups i (j - i).toNat, none) S) : Wp (r2Q [.int i, .int j] S) Q E := by with_unfolding_all exact PVZ.wp_r2Q h h' q
theorem Q_iEn : Wp (iEn ms ρ S) Q E = Wp (ms ρ S) (fun ds S1 => Wp (enD ds S1) Q E) E := by with_unfolding_all exact PVZ.Q_iEn
theorem Q_iZp : Wp (iZp ms ρ S) Q E = Wp (ms ρ S) (fun ds S1 => Wp (zpD ds S1) Q E) E := by with_unfolding_all exact PVZ.Q_iZp
theorem Q_zpl {xs ys : List D} : Wp (zpD [.lst xs, .lst ys] S) Q E = Q (zipD xs ys, none) S := by with_unfolding_all exact PVZ.Q_zpl
theorem Q_zpt {xs ys : List D} : Wp (zpD [.tup xs, .tup ys] S) Q E = Q (zipD xs ys, none) S := by with_unfolding_all exact PVZ.Q_zpt
end
section
variable {α : Type} {E : XQ} {S : Sto} {ρ : Ev} {Q : D → Sto → Prop} {m : ME} {ms : MA}
theorem Q_frz : Wp (frzE m ρ S) Q E = Wp (m ρ S) (fun d S1 => Wp (frzQ d S1) Q E) E := by with_unfolding_all exact PVZ.Q_frz
theorem Q_lns : Wp (lnsE m ρ S) Q E = Wp (m ρ S) (fun d S1 => Wp (lnsQ d S1) Q E) E := by with_unfolding_all exact PVZ.Q_lns
theorem Q_dc {kvs : List (Str × Cst)} : Wp (dcE kvs ρ S) Q E = Q (.hob (.dK (L2.mergeK [] (kvV kvs)))) S := by with_unfolding_all exact PVZ.Q_dc
theorem Q_iEs {Q : List D × Option Nat → Sto → Prop} : Wp (iEs ms ρ S) Q E = Wp (ms ρ S) (fun ds S1 => Wp (ensD ds S1) Q E) E := by with_unfolding_all exact PVZ.Q_iEs
theorem Q_ens {Q : List D × Option Nat → Sto → Prop} {z : Str} : Wp (ensD [.str z] S) Q E = Q (numbered 0 (signs z), none) S := by with_unfolding_all exact PVZ.Q_ens
theorem Q_enl {Q : List D × Option Nat → Sto → Prop} {xs : List D} : Wp (enD [.lst xs] S) Q E = Q (numbered 0 xs, none) S := by with_unfolding_all exact PVZ.Q_enl
theorem Q_ent {Q : List D × Option Nat → Sto → Prop} {xs : List D} : Wp (enD [.tup xs] S) Q E = Q (numbered 0 xs, none) S := by with_unfolding_all exact PVZ.Q_ent
end
section
variable {ρ : Ev} {S : Sto} {N : Ev → Sto → Prop} {R : D → Sto → Prop} {B C : Ev → Sto → Prop} {E : XQ} {m o i : ME}
end
end PV
set_option Elab.async false
set_option linter.all false
set_option maxRecDepth 100000
set_option maxHeartbeats 4000000
namespace PV
open PySem
abbrev nX : XQ := fun _ _ _ => False
theorem eq_of_wp {α : Type} {o : Out α} {d : α} {S : Sto} (h : Wp o (fun d' S' => d' = d ∧ S' = S) nX) : o = .ok d S := by
  obtain ⟨a, S', e, rfl, rfl⟩ := Wp.of h
  exact e
theorem atI_ok {xs : List D} {r : Int} (h0 : 0 ≤ r) (h1 : r < xs.length) : ∃ x, L2.atI xs r = some x ∧ xs[r.toNat]? = some x := by
  have h2 : r.toNat < xs.length := by omega
  refine ⟨xs[r.toNat], ?_, by rw [List.getElem?_eq_getElem h2]⟩
  unfold L2.atI L2.ixN
  rw [if_pos h0, if_pos h1]
  exact List.getElem?_eq_getElem h2
theorem gq_nil {d : D} {S' : Sto} {Q : D → Sto → Prop} {E : XQ} (h : d.und 0 = true) (q : Q d []) : Gq [] Q E d S' := by
  classical
  have e : gcO [] (.ok d S') = .ok d [] := by
    show (if d.und ([] : Sto).length = true ∧ Kept [] S' then Out.ok d (S'.take ([] : Sto).length) else .ok d S') = _
    rw [if_pos ⟨h, fun i c hi _ => absurd hi (Nat.not_lt_zero _)⟩]
    rfl
  unfold Gq
  exact wp_eq e q
theorem law_of {F : Fn} {ds : List D} (h : Wp (F ds []) (fun d _ => d = .bl true) nX) : ∃ S', F ds [] = .ok (.bl true) S' := by
  obtain ⟨d, S', e, rfl⟩ := Wp.of h
  exact ⟨S', e⟩
end PV
set_option Elab.async false
set_option linter.all false
set_option maxRecDepth 100000
set_option maxHeartbeats 4000000
namespace PV
open PySem
theorem filter_take {α : Type} (p : α → Bool) {ns : List α} {j : Nat} {a : α} (h : ns[j]? = some a) : (ns.take (j + 1)).filter p = (ns.take j).filter p ++ (if p a = true then [a] else []) := by
  rw [List.take_add_one, h, List.filter_append]
  congr 1
  cases e : p a <;> simp [e]
theorem wp_lcT {α : Type} {T : Tg} {it : MI} {t : MT} {e : ME} {ρ : Ev} {S : Sto} {ns : List α} {Q : D → Sto → Prop} {E : XQ} (g : α → D) (p : α → Bool) (f : α → D)
    (hi : Wp (it ρ S) (fun q S' => q = (ns.map g, none) ∧ S' = S) nX) (hl : ns.length ≤ 1000)
    (h : ∀ a ∈ ns, ∃ ρ1, setT T (g a) (wipeD ρ T.slots) = some ρ1 ∧ Wp (t ρ1 S) (fun c S1 => c = p a ∧ S1 = S) nX ∧ (p a = true → Wp (e ρ1 S) (fun d S2 => d = f a ∧ S2 = S) nX))
    (q : Q (.lst ((ns.filter p).map f)) S) : Wp (lcE T it t e ρ S) Q E := by
  refine wp_lcE (wp_lcO (fun n acc S' => S' = S ∧ acc = ((ns.take n).filter p).map f) (wp_eq (eq_of_wp hi) ⟨?_, fun _ _ _ _ => trivial, ⟨rfl, by simp⟩, ?_, ?_⟩))
  · show (ns.map g).length ≤ 1000
    rw [List.length_map]
    exact hl
  · rintro n x hx acc S' ⟨rfl, rfl⟩
    have hx : (ns.map g)[n]? = some x := hx
    rw [List.getElem?_map] at hx
    obtain ⟨a, ha, rfl⟩ := Option.map_eq_some_iff.mp hx
    obtain ⟨ρ1, e1, w1, w2⟩ := h a (List.mem_of_getElem? ha)
    refine ⟨ρ1, e1, w1.imp (fun c S1 hc => ?_) fun _ _ _ q => q⟩
    obtain ⟨rfl, rfl⟩ := hc
    refine ⟨fun c => (w2 c).imp (fun d S2 hd => ?_) fun _ _ _ q => q, fun c => ?_⟩
    · obtain ⟨rfl, rfl⟩ := hd
      refine ⟨rfl, ?_⟩
      rw [filter_take p ha, if_pos c, List.map_append]
      rfl
    · refine ⟨rfl, ?_⟩
      rw [filter_take p ha, if_neg (by rw [c]; decide), List.append_nil]
  · rintro acc S' ⟨rfl, e⟩
    rw [List.take_of_length_le (by show _ ≤ (ns.map g).length; rw [List.length_map]; omega)] at e
    subst e
    exact q
theorem wp_lcU {α : Type} {T : Tg} {it : MI} {e : ME} {ρ : Ev} {S : Sto} {ns : List α} {Q : D → Sto → Prop} {E : XQ} (g : α → D) (f : α → D)
    (hi : Wp (it ρ S) (fun q S' => q = (ns.map g, none) ∧ S' = S) nX) (hl : ns.length ≤ 1000)
    (h : ∀ a ∈ ns, ∃ ρ1, setT T (g a) (wipeD ρ T.slots) = some ρ1 ∧ Wp (e ρ1 S) (fun d S2 => d = f a ∧ S2 = S) nX)
    (q : Q (.lst (ns.map f)) S) : Wp (lcE T it tYs e ρ S) Q E := by
  refine wp_lcT g (fun _ => true) f hi hl (fun a ha => ?_) ?_
  · obtain ⟨ρ1, e1, w⟩ := h a ha
    exact ⟨ρ1, e1, wp_ok ⟨rfl, rfl⟩, fun _ => w⟩
  · rw [List.filter_eq_self.mpr (fun _ _ => rfl)]
    exact q
theorem numbered_map {α : Type} (g : α → D) : ∀ (ns : List α) (k : Nat), numbered (k : Int) (ns.map g) = (ns.zipIdx k).map fun p => .tup [.int p.2, g p.1]
  | [], _ => rfl
  | n :: ns, k => by
    rw [List.map_cons, numbered, List.zipIdx_cons, List.map_cons]
    have := numbered_map g ns (k + 1)
    rw [show ((k : Int) + 1) = ((k + 1 : Nat) : Int) by omega, this]
theorem sizeLine_eq : sizeLine = 16777216 := by decide
end PV
set_option Elab.async false
set_option linter.all false
set_option maxRecDepth 100000
set_option maxHeartbeats 4000000
namespace PVZ
open PySem PV
section
variable {α β : Type} {E : XQ} {S S1 : Sto} {ρ : Ev} {Q : D → Sto → Prop} {N : Ev → Sto → Prop} {R : D → Sto → Prop} {B C : Ev → Sto → Prop} {ms : MA} {m : ME} {c : String} {fs : List (String × D)}
def _root_.PV.parQ3 (i j l : Nat) (ρ : Ev) (ds : List D) (S1 : Sto) : Out Fl := match ds with
  | [a, b, c] => .ok (.nx (((ρ.set i (some a)).set j (some b)).set l (some c))) S1
  | _ => .no
theorem Q_par3 {i j l : Nat} : Ws (sPar3 i j l ms ρ S) N R B C E = Wp (ms ρ S) (fun ds S1 => Ws (parQ3 i j l ρ ds S1) N R B C E) E := Q_sbind
theorem Q_parc3 {i j l : Nat} {x y z : D} : Ws (parQ3 i j l ρ [x, y, z] S1) N R B C E = N (((ρ.set i (some x)).set j (some y)).set l (some z)) S1 := rfl
def _root_.PV.raiQ (c : String) (fl : List String) (ds : List D) (S1 : Sto) : Out Fl := if ds.length = fl.length then .ex c (fl.zip ds).reverse S1 else .no
theorem Q_rai {fl : List String} : Ws (sRai c fl ms ρ S) N R B C E = Wp (ms ρ S) (fun ds S1 => Ws (raiQ c fl ds S1) N R B C E) E := Q_sbind
theorem Q_rai0 : Ws (raiQ c [] [] S1) N R B C E = E c [] S1 := rfl
theorem Q_rai1 {f : String} {x : D} : Ws (raiQ c [f] [x] S1) N R B C E = E c [(f, x)] S1 := rfl
theorem Q_rai2 {f g : String} {x y : D} : Ws (raiQ c [f, g] [x, y] S1) N R B C E = E c [(g, y), (f, x)] S1 := rfl
theorem Q_gxs : Gx S Q E c fs S = E c fs S := by
  unfold Gx
  rw [gc_samex]
  rfl
theorem wp_isx {τ : List (String × Bool)} {cls : D → Bool} {g : Fn} {ds : List D} {d : D} (e : isiX τ cls g ds S = .ok d S) (q : Q d S) : Wp (isiX τ cls g ds S) Q E := wp_eq e q
theorem wp_fldx {cs : List String} {f : String} {g : G1} {x d : D} (e : fldX cs f g x S = .ok d S) (q : Q d S) : Wp (fldX cs f g x S) Q E := wp_eq e q
end
end PVZ
namespace PV
open PySem
section
variable {α β : Type} {E : XQ} {S S1 : Sto} {ρ : Ev} {Q : D → Sto → Prop} {N : Ev → Sto → Prop} {R : D → Sto → Prop} {B C : Ev → Sto → Prop} {ms : MA} {m : ME} {c : String} {fs : List (String × D)}
theorem Q_par3 {i j l : Nat} : Ws (sPar3 i j l ms ρ S) N R B C E = Wp (ms ρ S) (fun ds S1 => Ws (parQ3 i j l ρ ds S1) N R B C E) E := by with_unfolding_all exact PVZ.Q_par3
theorem Q_parc3 {i j l : Nat} {x y z : D} : Ws (parQ3 i j l ρ [x, y, z] S1) N R B C E = N (((ρ.set i (some x)).set j (some y)).set l (some z)) S1 := by with_unfolding_all exact PVZ.Q_parc3
theorem Q_rai {fl : List String} : Ws (sRai c fl ms ρ S) N R B C E = Wp (ms ρ S) (fun ds S1 => Ws (raiQ c fl ds S1) N R B C E) E := by with_unfolding_all exact PVZ.Q_rai
theorem Q_rai0 : Ws (raiQ c [] [] S1) N R B C E = E c [] S1 := by with_unfolding_all exact PVZ.Q_rai0
theorem Q_rai1 {f : String} {x : D} : Ws (raiQ c [f] [x] S1) N R B C E = E c [(f, x)] S1 := by with_unfolding_all exact PVZ.Q_rai1
theorem Q_rai2 {f g : String} {x y : D} : Ws (raiQ c [f, g] [x, y] S1) N R B C E = E c [(g, y), (f, x)] S1 := by with_unfolding_all exact PVZ.Q_rai2
theorem Q_gxs : Gx S Q E c fs S = E c fs S := by with_unfolding_all exact PVZ.Q_gxs
theorem wp_isx {τ : List (String × Bool)} {cls : D → Bool} {g : Fn} {ds : List D} {d : D} (e : isiX τ cls g ds S = .ok d S) (q : Q d S) : Wp (isiX τ cls g ds S) Q E := by with_unfolding_all exact PVZ.wp_isx e q
theorem wp_fldx {cs : List String} {f : String} {g : G1} {x d : D} (e : fldX cs f g x S = .ok d S) (q : Q d S) : Wp (fldX cs f g x S) Q E := by with_unfolding_all exact PVZ.wp_fldx e q
end
end PV
set_option Elab.async false
set_option linter.all false
set_option maxRecDepth 100000
set_option maxHeartbeats 4000000
namespace PVZ
open PySem PV
section
variable {S S1 : Sto} {Q : D → Sto → Prop} {E : XQ} {c : String} {F : Fn} {ds : List D}
end
end PVZ
namespace PV
open PySem
section
variable {S S1 : Sto} {Q : D → Sto → Prop} {E : XQ} {c : String} {F : Fn} {ds : List D}
end
end PV
set_option Elab.async false
set_option linter.all false
set_option maxRecDepth 100000
set_option maxHeartbeats 4000000
namespace PVZ
open PySem PV
section
variable {E : XQ} {S : Sto} {ρ : Ev} {N : Ev → Sto → Prop} {R : D → Sto → Prop} {B C : Ev → Sto → Prop} {m o i : ME}
theorem ws_dk (h : Wp (m ρ S) (fun y S1 => Wp (o ρ S1) (fun x S2 => Wp (i ρ S2) (fun k S3 => ∃ n z es, x = .loc n ∧ k = .str z ∧ S3[n]? = some (.dic es) ∧ es.length < 1000 ∧ N ρ (S3.set n (.dic (esP es z y)))) E) E) E) : Ws (sDk o i m ρ S) N R B C E := ws_bind (h.imp (fun y S1 q => ws_bind (q.imp (fun x S2 q => ws_bind (q.imp (fun k S3 q => by
  obtain ⟨n, z, es, rfl, rfl, e1, e2, q⟩ := q
  simp only [e1, if_pos e2]
  exact q) fun _ _ _ q => q)) fun _ _ _ q => q)) fun _ _ _ q => q)
end
end PVZ
namespace PV
open PySem
noncomputable def drawG (c1 c2 c3 : Int) : MS := (sSeq (sWhl (tAn (tst (bin (ltG) (bin ddG (v 0) (k (.str "rest"))) (k (.int 2)))) (tst (bin (ltG) (bin ddG (v 0) (k (.str "at"))) (cal lenB (aCons (bin ddG (v 0) (k (.str "cells"))) aNil))))) (sSeq (sSet 2 (cal absB (aCons (bin ixG (bin ddG (v 0) (k (.str "cells"))) (bin ddG (v 0) (k (.str "at")))) aNil))) (sSeq (sDk (v 0) (k (.str "at")) (bin (addG) (bin ddG (v 0) (k (.str "at"))) (k (.int 1)))) (sSeq (sIf (tst (bin (ltG) (v 2) (bin (powG) (k (.int 10)) (k (.int 18))))) (sSeq (sSet 3 (bin (modG) (cal intB (aCons (bin (addG) (bin (powG) (bin (addG) (v 2) (k (.int c1))) (k (.int 3))) (bin (mulG) (bin ddG (v 0) (k (.str "state"))) (bin (addG) (bin ddG (v 0) (k (.str "at"))) (k (.int 1))))) aNil)) (k (.int 2147483629)))) (sSeq (sRet (bin (modG) (v 3) (v 1))) sNil)) sNil) (sSeq (sDk (v 0) (k (.str "rest")) (v 2)) sNil))))) (sSeq (sIf (tst (bin (geG) (bin ddG (v 0) (k (.str "rest"))) (k (.int 2)))) (sSeq (sSet 4 (bin (modG) (cal intB (aCons (bin ddG (v 0) (k (.str "rest"))) aNil)) (v 1))) (sSeq (sDk (v 0) (k (.str "rest")) (bin (fdivG) (bin ddG (v 0) (k (.str "rest"))) (v 1))) (sSeq (sRet (v 4)) sNil))) sNil) (sSeq (sDk (v 0) (k (.str "state")) (bin (modG) (cal intB (aCons (bin (addG) (bin (mulG) (bin ddG (v 0) (k (.str "state"))) (k (.int c2))) (k (.int c3))) aNil)) (k (.int 2147483647)))) (sSeq (sRet (bin (modG) (bin (modG) (cal intB (aCons (bin (powG) (bin ddG (v 0) (k (.str "state"))) (k (.int 5))) aNil)) (k (.int 2147483629))) (v 1))) sNil))))
def bagC (cs : List Int) (a r st : Int) : Cell := .dic [("cells", .lst (cs.map .int)), ("at", .int a), ("rest", .int r), ("state", .int st)]
def Bag (S : Sto) (p : Nat) : Prop := ∃ cs a r st, S[p]? = some (bagC cs a r st) ∧ cs.length ≤ 63 ∧ 0 ≤ a ∧ a ≤ cs.length ∧ 0 ≤ r ∧ 0 ≤ st ∧ st < 2147483647
def SameBag (p : Nat) (S S' : Sto) : Prop := ∃ cs a r st, S' = S.set p (bagC cs a r st)
theorem Bag.lt {S : Sto} {p : Nat} (h : Bag S p) : p < S.length := by
  obtain ⟨cs, a, r, st, e, _⟩ := h
  exact (List.getElem?_eq_some_iff.mp e).1
theorem Bag.app {S T : Sto} {p : Nat} (h : Bag S p) : Bag (S ++ T) p := by
  obtain ⟨cs, a, r, st, e, z⟩ := id h
  exact ⟨cs, a, r, st, by rw [List.getElem?_append_left h.lt]; exact e, z⟩
theorem SameBag.refl {S : Sto} {p : Nat} (h : Bag S p) : SameBag p S S := by
  obtain ⟨cs, a, r, st, e, z⟩ := id h
  obtain ⟨hp, e2⟩ := List.getElem?_eq_some_iff.mp e
  exact ⟨cs, a, r, st, by rw [← e2, List.set_getElem_self]⟩
theorem SameBag.trans {S S' S'' : Sto} {p : Nat} (h : SameBag p S S') (h' : SameBag p S' S'') : SameBag p S S'' := by
  obtain ⟨cs, a, r, st, rfl⟩ := h
  obtain ⟨cs', a', r', st', rfl⟩ := h'
  exact ⟨cs', a', r', st', by rw [List.set_set]⟩
theorem SameBag.len {S S' : Sto} {p : Nat} (h : SameBag p S S') : S'.length = S.length := by
  obtain ⟨cs, a, r, st, rfl⟩ := h
  exact List.length_set ..
theorem wp_dd {n : Nat} {es : List (Str × D)} {z : Str} {d : D} {S : Sto} {Q : D → Sto → Prop} {E : XQ} (h : S[n]? = some (.dic es)) (g : esG es z = some d) (q : Q d S) : Wp (ddG (.loc n) (.str z) S) Q E := wp_eq (by
  unfold ddG
  simp only [h, g]) q
section
variable {E : XQ} {S : Sto} {ρ : Ev} {N : Ev → Sto → Prop} {R : D → Sto → Prop} {B C : Ev → Sto → Prop} {m o i : ME}
theorem ws_dk (h : Wp (m ρ S) (fun y S1 => Wp (o ρ S1) (fun x S2 => Wp (i ρ S2) (fun k S3 => ∃ n z es, x = .loc n ∧ k = .str z ∧ S3[n]? = some (.dic es) ∧ es.length < 1000 ∧ N ρ (S3.set n (.dic (esP es z y)))) E) E) E) : Ws (sDk o i m ρ S) N R B C E := by with_unfolding_all exact PVZ.ws_dk h
end
end PV
set_option Elab.async false
set_option linter.all false
set_option maxRecDepth 100000
set_option maxHeartbeats 4000000
local macro_rules | `(tactic| k_upd) => `(tactic| first | simp -dsimp -implicitDefEqProofs only [PV.Q_ok, PV.Q_ex, PV.Q_v0, PV.Q_vs, PV.Q_k, PV.Q_bin, PV.Q_una, PV.Q_cal, PV.Q_nil, PV.Q_cons, PV.Q_star, PV.Q_tst, PV.Q_tru, PV.Q_no, PV.Q_an, PV.Q_or, PV.Q_ifE, PV.Q_anE, PV.Q_orE, PV.Q_anD, PV.Q_orD, PV.Q_noE, PV.Q_chn, PV.Q_chD, PV.Q_t, PV.Q_f, PV.Q_T, PV.Q_F, PV.Q_tup, PV.Q_lst, PV.Q_lstM, PV.Q_cm, PV.Q_sm, PV.Q_mt, PV.Q_mtK, PV.Q_mthL, PV.Q_mthS, PV.Q_isStr, PV.Q_itemsF, PV.Q_sli, PV.Q_oNo, PV.Q_oSo, PV.Q_add, PV.Q_addI, PV.Q_sub, PV.Q_neg, PV.Q_eqI, PV.Q_neI, PV.Q_lt, PV.Q_le, PV.Q_gt, PV.Q_ge, PV.Q_isN, PV.Q_int, PV.Q_intb, PV.Q_abs, PV.Q_lenl, PV.Q_lent, PV.Q_tupl, PV.Q_tupt, PV.Q_listl, PV.Q_listt, PV.Q_onlyB, PV.Q_notB, PV.Q_ixt0, PV.Q_ixt1, PV.Q_ixt2, PV.Q_ixt3, PV.Q_ixl0, PV.Q_ixl1, PV.Q_ixl2, PV.Q_ixl3, PV.Q_seq, PV.Q_sNil, PV.Q_ret, PV.Q_retN, PV.Q_exp, PV.Q_set, PV.Q_if, PV.Q_brk, PV.Q_cnt, PV.Q_st, PV.Q_sf, PV.Q_nx, PV.Q_sT, PV.Q_sF, PV.Q_par, PV.Q_parQ, PV.Q_asg, PV.Q_asgN, PV.Q_asg2, PV.Q_asg3, PV.Q_asg4, PV.Q_aug, PV.Q_augQ, PV.Q_iSeq, PV.Q_seqL, PV.Q_seqT, PV.Q_seqS, PV.Q_iR1, PV.Q_iR2, PV.Q_iEn, PV.Q_iZp, PV.Q_zpl, PV.Q_zpt, PV.Q_frz, PV.Q_lns, PV.Q_dc, PV.Q_iEs, PV.Q_ens, PV.Q_enl, PV.Q_ent, PV.Q_par3, PV.Q_parc3, PV.Q_rai, PV.Q_rai0, PV.Q_rai1, PV.Q_rai2, PV.Q_gxs, PV.Q_bind, PV.Q_sbind, PV.truD, List.map_cons, List.map_nil, List.cons_append, List.nil_append, Nat.reduceSub, List.reduceReplicate, List.set_cons_zero, List.set_cons_succ, Bool.not_true, Bool.not_false, Bool.not_not, Bool.false_xor, Bool.true_xor, Bool.false_eq_true, and_self, true_and, and_true, PV.wipeD, PV.Tg.slots] | ((with_reducible apply PV.wp_fld); (focus rfl); (focus rfl); (focus rfl)) | ((with_reducible apply PV.wp_isi); (focus rfl)) | ((with_reducible apply PV.wp_isiA); (focus rfl)) | ((with_reducible apply PV.wp_lstQ); (focus exact Nat.le_of_ble_eq_true rfl)) | ((with_reducible apply PV.wp_tupQ); (focus exact Nat.le_of_ble_eq_true rfl)) | ((with_reducible apply PV.wp_lstMQ); (focus exact Nat.le_of_ble_eq_true rfl)) | ((with_reducible apply PV.wp_mtQ); (focus rfl); (focus rfl); (focus rfl)) | ((with_reducible apply PV.wp_mtKQ); (focus rfl); (focus rfl)) | ((with_reducible apply PV.wp_r1Q); (focus exact PV.near62_of (by omega) (by omega))) | ((with_reducible apply PV.wp_r2Q); (focus exact PV.near62_of (by omega) (by omega)); (focus exact PV.near62_of (by omega) (by omega))) | ((with_reducible apply PV.wp_ofLen); (focus rfl)) | ((with_reducible apply PV.wp_isx); (focus rfl)) | ((with_reducible apply PV.wp_fldx); (focus rfl)) | ((with_reducible apply PV.wp_kw); (focus rfl)) | ((with_reducible apply PV.ws_asgQ); (focus rfl)) | ((with_reducible apply PV.ex1); (focus rfl)) | ((with_reducible apply And.intro); (focus rfl)) | with_reducible exact PV.gq_same ⟨rfl, rfl⟩ | with_reducible exact ⟨rfl, rfl⟩)
namespace PV
open PySem
abbrev bagL (cs : List Int) (a r st : Int) : List (Str × D) := [("cells", .lst (cs.map .int)), ("at", .int a), ("rest", .int r), ("state", .int st)]
section
variable {cs : List Int} {a r st b : Int}
theorem g_cells : esG (bagL cs a r st) "cells" = some (.lst (cs.map .int)) := rfl
theorem g_at : esG (bagL cs a r st) "at" = some (.int a) := rfl
theorem g_rest : esG (bagL cs a r st) "rest" = some (.int r) := rfl
theorem g_state : esG (bagL cs a r st) "state" = some (.int st) := rfl
theorem p_at : esP (bagL cs a r st) "at" (.int b) = bagL cs b r st := rfl
theorem p_rest : esP (bagL cs a r st) "rest" (.int b) = bagL cs a b st := rfl
theorem p_state : esP (bagL cs a r st) "state" (.int b) = bagL cs a r b := rfl
end
def BagIn (S : Sto) (p : Nat) (cs : List Int) (a r st : Int) : Prop := S[p]? = some (.dic (bagL cs a r st)) ∧ cs.length ≤ 63 ∧ 0 ≤ a ∧ a ≤ cs.length ∧ 0 ≤ r ∧ 0 ≤ st ∧ st < 2147483647
theorem BagIn.same {S S' : Sto} {p : Nat} {cs : List Int} {a r st : Int} (h : BagIn S' p cs a r st) (hs : SameBag p S S') {a' r' st' : Int} : SameBag p S (S'.set p (.dic (bagL cs a' r' st'))) := by
  obtain ⟨cs1, a1, r1, s1, rfl⟩ := hs
  exact ⟨cs, a', r', st', by rw [List.set_set]; rfl⟩
def DrawB (F : Fn) : Prop := ∀ {S : Sto} {p : Nat} {m : Int} {Q : D → Sto → Prop} {E : XQ}, Bag S p → 1 ≤ m → m < 2 ^ 110 → (∀ r S', 0 ≤ r → r < m → SameBag p S S' → Bag S' p → Q (.int r) S') → Wp (F [.loc p, .int m] S) Q E
theorem drawG_of {c1 c2 c3 : Int} (k1 : 0 ≤ c1 ∧ c1 < 1000) (k2 : 0 ≤ c2 ∧ c2 < 2147483647) (k3 : 0 ≤ c3 ∧ c3 < 1000) : DrawB (dfn 2 5 (drawG c1 c2 c3)) := by
  intro S p m Q E h hm hm' q
  have hd : divOk m = true := divOk_small (by omega) (by omega)
  have m0 : 0 < m := by omega
  obtain ⟨cs, a, r, st, e, hl, ha, ha', hr, h0, h1⟩ := id h
  have sb0 : SameBag p S S := .refl h
  have fin : ∀ {cs : List Int} {a r st : Int} {S' : Sto}, BagIn S' p cs a r st → SameBag p S S' → ∀ n : Int, 0 ≤ n → n < m → Gq S Q E (.int n) S' := fun hb hs n n0 n1 => gq_len hs.len (q n _ n0 n1 hs ⟨_, _, _, _, hb⟩)
  refine wp_dfn rfl ?_
  unfold drawG
  (repeat k_upd)
  refine Ws.imp (N := fun ρ S' => ∃ cs a r st x2 x3 x4, ρ = [some (.loc p), some (.int m), x2, x3, x4] ∧ BagIn S' p cs a r st ∧ SameBag p S S') ?loop ?tail (fun _ _ q => q) (fun _ _ q => q) (fun _ _ q => q) (fun _ _ _ q => q)
  case tail =>
    rintro ρ S' ⟨cs, a, r, st, x2, x3, x4, rfl, hb, hs⟩
    obtain ⟨e, hl, ha, ha', hr, h0, h1⟩ := id hb
    have lt : p < S'.length := (List.getElem?_eq_some_iff.mp e).1
    (repeat k_upd)
    refine wp_dd e g_rest ?_
    (repeat k_upd)
    by_cases c : (2 : Int) ≤ r
    · refine ws_dt c ?_
      (repeat k_upd)
      refine wp_dd e g_rest ?_
      (repeat k_upd)
      refine wp_mod m0 ?_
      (repeat k_upd)
      refine ws_dk ?_
      (repeat k_upd)
      refine wp_dd e g_rest ?_
      (repeat k_upd)
      refine wp_fdiv hd ?_
      (repeat k_upd)
      refine ⟨_, _, _, rfl, rfl, e, Nat.le_of_ble_eq_true rfl, ?_⟩
      rw [p_rest]
      (repeat k_upd)
      refine fin (cs := cs) (a := a) (r := r / m) (st := st) ⟨List.getElem?_set_self lt, hl, ha, ha', Int.ediv_nonneg hr (by omega), h0, h1⟩ (hb.same hs) _ (Int.emod_nonneg _ (by omega)) (Int.emod_lt_of_pos _ m0)
    · refine ws_df c ?_
      (repeat k_upd)
      refine ws_dk ?_
      (repeat k_upd)
      refine wp_dd e g_state ?_
      (repeat k_upd)
      refine wp_mul (PV.mulOk_l (by omega) (by omega)) ?_
      (repeat k_upd)
      refine wp_mod (by decide) ?_
      (repeat k_upd)
      refine ⟨_, _, _, rfl, rfl, e, Nat.le_of_ble_eq_true rfl, ?_⟩
      rw [p_state]
      have z0 : 0 ≤ (st * c2 + c3) % 2147483647 := Int.emod_nonneg _ (by decide)
      have z1 : (st * c2 + c3) % 2147483647 < 2147483647 := Int.emod_lt_of_pos _ (by decide)
      generalize (st * c2 + c3) % 2147483647 = st2 at z0 z1 ⊢
      have e2 : (S'.set p (.dic (bagL cs a r st2)))[p]? = some (.dic (bagL cs a r st2)) := List.getElem?_set_self lt
      (repeat k_upd)
      refine wp_dd e2 g_state ?_
      (repeat k_upd)
      refine wp_pow (powOk_of (by decide) (by decide) (by omega)) ?_
      (repeat k_upd)
      refine wp_mod (by decide) ?_
      (repeat k_upd)
      refine wp_mod m0 ?_
      (repeat k_upd)
      exact fin (cs := cs) (a := a) (r := r) (st := st2) ⟨e2, hl, ha, ha', hr, z0, z1⟩ (hb.same hs) _ (Int.emod_nonneg _ (by omega)) (Int.emod_lt_of_pos _ m0)
  case loop =>
  refine ws_whl (fun n ρ S' => ∃ cs a r st x2 x3 x4, n = (cs.length - a).toNat ∧ ρ = [some (.loc p), some (.int m), x2, x3, x4] ∧ BagIn S' p cs a r st ∧ SameBag p S S') ((cs.length - a).toNat) ⟨cs, a, r, st, none, none, none, rfl, rfl, ⟨e, hl, ha, ha', hr, h0, h1⟩, sb0⟩ ?_
  rintro n ρ S' ⟨cs, a, r, st, x2, x3, x4, rfl, rfl, hb, hs⟩
  obtain ⟨e, hl, ha, ha', hr, h0, h1⟩ := id hb
  have lt : p < S'.length := (List.getElem?_eq_some_iff.mp e).1
  (repeat k_upd)
  refine wp_dd e g_rest ?_
  (repeat k_upd)
  by_cases c : r < (2 : Int)
  · refine wp_dt c ?_
    (repeat k_upd)
    refine wp_dd e g_at ?_
    (repeat k_upd)
    refine wp_dd e g_cells ?_
    (repeat k_upd)
    rw [List.length_map]
    refine ⟨fun c2 => ?_, fun c2 => ⟨cs, a, r, st, _, _, _, rfl, hb, hs⟩⟩
    have c2 := of_decide_eq_true c2
    (repeat k_upd)
    refine wp_dd e g_cells ?_
    (repeat k_upd)
    refine wp_dd e g_at ?_
    (repeat k_upd)
    obtain ⟨x, hx⟩ : ∃ x, cs[a.toNat]? = some x := ⟨_, List.getElem?_eq_getElem (by omega)⟩
    refine wp_ixl (x := .int x) ?_ ?_
    · unfold L2.atI L2.ixN
      rw [if_pos ha, if_pos (by rw [List.length_map]; omega)]
      show (cs.map D.int)[a.toNat]? = _
      rw [List.getElem?_map, hx]
      rfl
    (repeat k_upd)
    obtain ⟨y, hy⟩ : ∃ y : Int, y = if x < 0 then -x else x := ⟨_, rfl⟩
    rw [← hy]
    have y0 : 0 ≤ y := by rw [hy]; split <;> omega
    refine ws_dk ?_
    (repeat k_upd)
    refine wp_dd e g_at ?_
    (repeat k_upd)
    refine ⟨_, _, _, rfl, rfl, e, Nat.le_of_ble_eq_true rfl, ?_⟩
    rw [p_at]
    have e2 : (S'.set p (.dic (bagL cs (a + 1) r st)))[p]? = some (.dic (bagL cs (a + 1) r st)) := List.getElem?_set_self lt
    (repeat k_upd)
    refine wp_pow (by decide) ?_
    (repeat k_upd)
    by_cases c3 : y < 10 ^ 18
    · refine ws_dt c3 ?_
      (repeat k_upd)
      refine wp_pow (powOk_of (by decide) (by decide) (by omega)) ?_
      (repeat k_upd)
      refine wp_dd e2 g_state ?_
      (repeat k_upd)
      refine wp_dd e2 g_at ?_
      (repeat k_upd)
      refine wp_mul (PV.mulOk_l (by omega) (by omega)) ?_
      (repeat k_upd)
      refine wp_mod (by decide) ?_
      (repeat k_upd)
      refine wp_mod m0 ?_
      (repeat k_upd)
      exact fin (cs := cs) (a := a + 1) (r := r) (st := st) ⟨e2, hl, by omega, by omega, hr, h0, h1⟩ (hb.same hs) _ (Int.emod_nonneg _ (by omega)) (Int.emod_lt_of_pos _ m0)
    · refine ws_df c3 ?_
      (repeat k_upd)
      refine ws_dk ?_
      (repeat k_upd)
      refine ⟨_, _, _, rfl, rfl, e2, Nat.le_of_ble_eq_true rfl, ?_⟩
      rw [p_rest, List.set_set]
      refine ⟨(cs.length - (a + 1)).toNat, by omega, cs, a + 1, y, st, _, _, _, rfl, rfl, ⟨List.getElem?_set_self lt, hl, by omega, by omega, y0, h0, h1⟩, hb.same hs⟩
  · refine wp_df c ?_
    (repeat k_upd)
    refine ⟨fun z => (by cases z), fun _ => ⟨cs, a, r, st, _, _, _, rfl, hb, hs⟩⟩
def PickB (F : Fn) : Prop := ∀ {S : Sto} {p : Nat} {xs : List D} {Q : D → Sto → Prop} {E : XQ}, Bag S p → 1 ≤ xs.length → xs.length ≤ 1000 → (∀ (i : Nat) x S', xs[i]? = some x → SameBag p S S' → Bag S' p → Q x S') → Wp (F [.loc p, .lst xs] S) Q E
theorem pickB_of {F : Fn} (hF : DrawB F) : PickB (dfn 2 2 (sSeq (sRet (bin ixG (v 1) (cal F (aCons (v 0) (aCons (cal lenB (aCons (v 1) aNil)) aNil))))) sNil)) := by
  intro S p xs Q E h h0 h1 q
  refine wp_dfn rfl ?_
  (repeat k_upd)
  refine hF h (by omega) (by omega) fun r S' r0 r1 s1 p1 => ?_
  obtain ⟨x, e1, e2⟩ := atI_ok (xs := xs) r0 r1
  refine wp_ixl e1 ?_
  exact gq_len s1.len (q _ x S' e2 s1 p1)
noncomputable def bagF (c0 c1 c2 : Int) : MS := (sSeq (sSet 1 (k (.int c0))) (sSeq (sFor (.nm 2) (iSeq (sli (v 0) (oNo) (oSo (k (.int 63))))) (sSeq (sSet 1 (bin (modG) (cal intB (aCons (bin (addG) (bin (addG) (bin (mulG) (v 1) (k (.int c1))) (bin (modG) (cal absB (aCons (v 2) aNil)) (k (.int 2147483629)))) (k (.int c2))) aNil)) (k (.int 2147483647)))) sNil)) (sSeq (sRet (dicM [("cells", cal listB (aCons (sli (v 0) (oNo) (oSo (k (.int 63)))) aNil)), ("at", k (.int 0)), ("rest", k (.int 0)), ("state", v 1)])) sNil)))
theorem sli63 {cs : List Int} (h : cs.length ≤ 63) {x : Option D} {ρ : Ev} {S : Sto} : sli (v 0) (oNo) (oSo (k (.int 63))) (some (.src (cs.map .int)) :: ρ) S = .ok (.lst (cs.map .int)) S :=
  sli_ok rfl rfl rfl (show slG (.src (cs.map .int)) none (some 63) S = .ok (.lst (cs.map .int)) S by
    show Out.ok (D.lst (cutD (cs.map D.int) none (some 63))) S = _
    rw [cut63 _ (by simpa using h)])
theorem bag_ok {c0 c1 c2 : Int} (k0 : 0 ≤ c0 ∧ c0 < 1000) (k1 : 0 ≤ c1 ∧ c1 < 2147483647) (k2 : 0 ≤ c2 ∧ c2 < 1000) {cs : List Int} (h : cs.length ≤ 63) {Q : D → Sto → Prop} {E : XQ} (q : ∀ S', Bag S' 0 → S'.length = 1 → Q (.loc 0) S') : Wp (dfn 1 3 (bagF c0 c1 c2) [.src (cs.map .int)] []) Q E := by
  refine wp_dfn rfl ?_
  unfold bagF
  (repeat k_upd)
  refine ws_for (fun j ρ S' => S' = [] ∧ ∃ st x2, 0 ≤ st ∧ st < 2147483647 ∧ ρ = [some (.src (cs.map .int)), some (.int st), x2]) (wp_eq (a := (cs.map .int, none)) (S := []) ?_ ⟨fun _ _ _ _ => trivial, ⟨rfl, c0, none, by omega, by omega, rfl⟩, ?_, ?_⟩)
  · show (sli _ _ _ _ _).bind _ = _
    rw [sli63 h (x := none)]
    rfl
  · rintro j x hx ρ S' ⟨rfl, st, x2, s0, s1, rfl⟩
    have hx : (cs.map D.int)[j]? = some x := hx
    rw [List.getElem?_map] at hx
    obtain ⟨n, hn, rfl⟩ := Option.map_eq_some_iff.mp hx
    refine ⟨_, rfl, ?_⟩
    (repeat k_upd)
    refine wp_mul (PV.mulOk_l (by omega) (by omega)) ?_
    (repeat k_upd)
    refine wp_mod (by decide) ?_
    (repeat k_upd)
    refine wp_mod (by decide) ?_
    (repeat k_upd)
    exact ⟨_, _, Int.emod_nonneg _ (by decide), Int.emod_lt_of_pos _ (by decide), rfl⟩
  · rintro ρ S' ⟨rfl, st, x2, s0, s1, rfl⟩
    (repeat k_upd)
    refine wp_eq (a := .loc 0) (S := [bagC cs 0 0 st]) ?_ ?_
    · show ((dicL _ _ _).bind _) = _
      have e1 : cal listB (aCons (sli (v 0) (oNo) (oSo (k (.int 63)))) aNil) [some (.src (cs.map .int)), some (.int st), x2] [Cell.dic []] = .ok (.lst (cs.map .int)) [Cell.dic []] := by
        refine cal_ok (cons_ok (sli63 h (x := none)) rfl) rfl
      show ((cal listB (aCons (sli (v 0) (oNo) (oSo (k (.int 63)))) aNil) [some (.src (cs.map .int)), some (.int st), x2] [Cell.dic []]).bind _).bind _ = _
      rw [e1]
      show dicQ 0 (bagL cs 0 0 st) [Cell.dic []] = _
      unfold dicQ
      show (if _ then _ else _) = _
      rw [if_pos ⟨Nat.le_of_ble_eq_true rfl, show ((["cells", "at", "rest", "state"] : List Str)).Nodup by decide +kernel⟩]
      rfl
    · unfold Gq
      classical
      refine wp_eq (a := .loc 0) (S := [bagC cs 0 0 st]) ?_ (q _ ⟨cs, 0, 0, st, rfl, h, by omega, by omega, by omega, s0, s1⟩ rfl)
      unfold gcO
      simp only
      exact if_neg (fun z => by
        have := z.1
        simp [D.und] at this)
end PV
set_option Elab.async false
set_option linter.all false
set_option maxRecDepth 100000
set_option maxHeartbeats 4000000
namespace PV
open PySem
theorem Q_sT_NoneType_int : subT "NoneType" "int" = false := by decide +kernel
theorem Q_sT_NoneType_bool : subT "NoneType" "bool" = false := by decide +kernel
theorem Q_sT_NoneType_str : subT "NoneType" "str" = false := by decide +kernel
theorem Q_sT_NoneType_list : subT "NoneType" "list" = false := by decide +kernel
theorem Q_sT_NoneType_tuple : subT "NoneType" "tuple" = false := by decide +kernel
theorem Q_sT_bool_int : subT "bool" "int" = true := by decide +kernel
theorem Q_sT_bool_bool : subT "bool" "bool" = true := by decide +kernel
theorem Q_sT_bool_str : subT "bool" "str" = false := by decide +kernel
theorem Q_sT_bool_list : subT "bool" "list" = false := by decide +kernel
theorem Q_sT_bool_tuple : subT "bool" "tuple" = false := by decide +kernel
theorem Q_sT_int_int : subT "int" "int" = true := by decide +kernel
theorem Q_sT_int_bool : subT "int" "bool" = false := by decide +kernel
theorem Q_sT_int_str : subT "int" "str" = false := by decide +kernel
theorem Q_sT_int_list : subT "int" "list" = false := by decide +kernel
theorem Q_sT_int_tuple : subT "int" "tuple" = false := by decide +kernel
theorem Q_sT_str_int : subT "str" "int" = false := by decide +kernel
theorem Q_sT_str_bool : subT "str" "bool" = false := by decide +kernel
theorem Q_sT_str_str : subT "str" "str" = true := by decide +kernel
theorem Q_sT_str_list : subT "str" "list" = false := by decide +kernel
theorem Q_sT_str_tuple : subT "str" "tuple" = false := by decide +kernel
theorem Q_sT_tuple_int : subT "tuple" "int" = false := by decide +kernel
theorem Q_sT_tuple_bool : subT "tuple" "bool" = false := by decide +kernel
theorem Q_sT_tuple_str : subT "tuple" "str" = false := by decide +kernel
theorem Q_sT_tuple_list : subT "tuple" "list" = false := by decide +kernel
theorem Q_sT_tuple_tuple : subT "tuple" "tuple" = true := by decide +kernel
theorem Q_sT_list_int : subT "list" "int" = false := by decide +kernel
theorem Q_sT_list_bool : subT "list" "bool" = false := by decide +kernel
theorem Q_sT_list_str : subT "list" "str" = false := by decide +kernel
theorem Q_sT_list_list : subT "list" "list" = true := by decide +kernel
theorem Q_sT_list_tuple : subT "list" "tuple" = false := by decide +kernel
theorem Q_sT_dict_int : subT "dict" "int" = false := by decide +kernel
theorem Q_sT_dict_bool : subT "dict" "bool" = false := by decide +kernel
theorem Q_sT_dict_str : subT "dict" "str" = false := by decide +kernel
theorem Q_sT_dict_list : subT "dict" "list" = false := by decide +kernel
theorem Q_sT_dict_tuple : subT "dict" "tuple" = false := by decide +kernel
theorem Q_nn_i {i : Int} : isNon (.int i) = false := rfl
theorem Q_nn_n  : isNon (.non) = true := rfl
theorem Q_nn_t {xs : List D} : isNon (.tup xs) = false := rfl
theorem Q_nn_l {xs : List D} : isNon (.lst xs) = false := rfl
theorem Q_nn_s {z : Str} : isNon (.str z) = false := rfl
theorem Q_nn_b {b : Bool} : isNon (.bl b) = false := rfl
theorem Q_nn_d  : isNon (.dic0) = false := rfl
theorem Q_nn_o {c : String} {fs : List (String × D)} : isNon (.obj c fs) = false := rfl
end PV
set_option Elab.async false
set_option linter.all false
set_option maxRecDepth 100000
set_option maxHeartbeats 4000000
namespace PV
open PySem PySem.Spec PyProof.Rows L2
end PV
set_option Elab.async false
set_option linter.all false
set_option maxRecDepth 100000
set_option maxHeartbeats 4000000
namespace PV
open PySem
end PV
set_option Elab.async false
set_option linter.all false
set_option maxRecDepth 100000
set_option maxHeartbeats 4000000
namespace PV
open PySem PyProof.Rows
end PV
set_option Elab.async false
set_option linter.all false
set_option maxRecDepth 100000
set_option maxHeartbeats 4000000
namespace PV
open PySem
section
variable {S S1 : Sto} {Q : D → Sto → Prop} {E : XQ} {ρ : Ev} {a m mx : ME} {ms ms2 : MA} {N B C : Ev → Sto → Prop} {R : D → Sto → Prop}
theorem wp_ic {τ : List (String × D)} {f c : String} {x y : D} {fs : List (String × D)} (h1 : insOf S x = some (c, fs)) (h2 : τ.lookup c = some y) (h3 : fs.lookup f = none) (q : Q y S) : Wp (icG τ f x S) Q E := wp_eq (by
  unfold icG
  simp only [h1, h2, h3]) q
def mtKNQ (τ : List (String × Fn)) (n : String) (k : Nat) (ms : MA) (ρ : Ev) (x : D) (S1 : Sto) : Out D := match insOf S1 x with
  | some (c, fs) => match τ.lookup c with
    | some F => match fs.lookup n with
      | none => (ms ρ S1).bind fun ds S2 => if ds.length = k then F (x :: ds) S2 else .no
      | some _ => .no
    | none => .no
  | none => .no
theorem Q_mtKN {τ : List (String × Fn)} {n : String} {k : Nat} : Wp (mtKN τ n k a ms ρ S) Q E = Wp (a ρ S) (fun x S1 => Wp (mtKNQ τ n k ms ρ x S1) Q E) E := Q_bind
theorem wp_mtKNQ {τ : List (String × Fn)} {n C : String} {k : Nat} {x : D} {fs : List (String × D)} {F : Fn} (e1 : insOf S x = some (C, fs)) (e2 : τ.lookup C = some F) (e3 : fs.lookup n = none) (q : Wp (ms ρ S) (fun ds S2 => ds.length = k ∧ Wp (F (x :: ds) S2) Q E) E) : Wp (mtKNQ τ n k ms ρ x S) Q E := by
  unfold mtKNQ
  simp only [e1, e2, e3]
  exact wp_bind (q.imp (fun ds S2 q => by rw [if_pos q.1]; exact q.2) fun _ _ _ q => q)
def mtPKQ (τ : List (String × Fn)) (n : String) (i k : Nat) (ms ks : MA) (ρ : Ev) (x : D) (S1 : Sto) : Out D := match insOf S1 x with
  | some (c, fs) => match τ.lookup c with
    | some F => match fs.lookup n with
      | none => (ms ρ S1).bind fun xs S2 => (ks ρ S2).bind fun ys S3 => if xs.length = i ∧ ys.length = k then F (x :: (xs ++ ys)) S3 else .no
      | some _ => .no
    | none => .no
  | none => .no
theorem Q_mtPK {τ : List (String × Fn)} {n : String} {i k : Nat} : Wp (mtPK τ n i k a ms ms2 ρ S) Q E = Wp (a ρ S) (fun x S1 => Wp (mtPKQ τ n i k ms ms2 ρ x S1) Q E) E := Q_bind
theorem wp_mtPKQ {τ : List (String × Fn)} {n C : String} {i k : Nat} {x : D} {fs : List (String × D)} {F : Fn} (e1 : insOf S x = some (C, fs)) (e2 : τ.lookup C = some F) (e3 : fs.lookup n = none)
    (q : Wp (ms ρ S) (fun xs S2 => Wp (ms2 ρ S2) (fun ys S3 => (xs.length = i ∧ ys.length = k) ∧ Wp (F (x :: (xs ++ ys)) S3) Q E) E) E) : Wp (mtPKQ τ n i k ms ms2 ρ x S) Q E := by
  unfold mtPKQ
  simp only [e1, e2, e3]
  exact wp_bind (q.imp (fun xs S2 q => wp_bind (q.imp (fun ys S3 q => by rw [if_pos q.1]; exact q.2) fun _ _ _ q => q)) fun _ _ _ q => q)
def mtcQ (r : MC) (d : D) (ρ : Ev) (S1 : Sto) : Out Fl := match d with
  | .str z => r z ρ S1
  | _ => .no
theorem Q_mtc {r : MC} : Ws (sMtc m r ρ S) N R B C E = Wp (m ρ S) (fun d S1 => Ws (mtcQ r d ρ S1) N R B C E) E := Q_sbind
theorem Q_mtcs {r : MC} {z : Str} : Ws (mtcQ r (.str z) ρ S) N R B C E = Ws (r z ρ S) N R B C E := rfl
theorem Q_mcN {z : Str} : Ws (mcN z ρ S) N R B C E = Ws (sNil ρ S) N R B C E := rfl
theorem Q_mcW {z : Str} {b : MS} : Ws (mcW b z ρ S) N R B C E = Ws (b ρ S) N R B C E := rfl
theorem ws_mcT {c z : Str} {b : MS} {r : MC} (h : z = c) (q : Ws (b ρ S) N R B C E) : Ws (mcC c b r z ρ S) N R B C E := by
  unfold mcC
  rw [if_pos h]
  exact q
theorem ws_mcF {c z : Str} {b : MS} {r : MC} (h : z ≠ c) (q : Ws (r z ρ S) N R B C E) : Ws (mcC c b r z ρ S) N R B C E := by
  unfold mcC
  rw [if_neg h]
  exact q
end
end PV
set_option Elab.async false
set_option linter.all false
set_option maxRecDepth 100000
set_option maxHeartbeats 4000000
local macro_rules | `(tactic| k_upd) => `(tactic| first | simp -dsimp -implicitDefEqProofs only [PV.Q_ok, PV.Q_ex, PV.Q_v0, PV.Q_vs, PV.Q_k, PV.Q_bin, PV.Q_una, PV.Q_cal, PV.Q_nil, PV.Q_cons, PV.Q_star, PV.Q_tst, PV.Q_tru, PV.Q_no, PV.Q_an, PV.Q_or, PV.Q_ifE, PV.Q_anE, PV.Q_orE, PV.Q_anD, PV.Q_orD, PV.Q_noE, PV.Q_chn, PV.Q_chD, PV.Q_t, PV.Q_f, PV.Q_T, PV.Q_F, PV.Q_tup, PV.Q_lst, PV.Q_lstM, PV.Q_cm, PV.Q_sm, PV.Q_mt, PV.Q_mtK, PV.Q_mthL, PV.Q_mthS, PV.Q_isStr, PV.Q_itemsF, PV.Q_sli, PV.Q_oNo, PV.Q_oSo, PV.Q_add, PV.Q_addI, PV.Q_sub, PV.Q_neg, PV.Q_eqI, PV.Q_neI, PV.Q_lt, PV.Q_le, PV.Q_gt, PV.Q_ge, PV.Q_isN, PV.Q_int, PV.Q_intb, PV.Q_abs, PV.Q_lenl, PV.Q_lent, PV.Q_tupl, PV.Q_tupt, PV.Q_listl, PV.Q_listt, PV.Q_onlyB, PV.Q_notB, PV.Q_ixt0, PV.Q_ixt1, PV.Q_ixt2, PV.Q_ixt3, PV.Q_ixl0, PV.Q_ixl1, PV.Q_ixl2, PV.Q_ixl3, PV.Q_seq, PV.Q_sNil, PV.Q_ret, PV.Q_retN, PV.Q_exp, PV.Q_set, PV.Q_if, PV.Q_brk, PV.Q_cnt, PV.Q_st, PV.Q_sf, PV.Q_nx, PV.Q_sT, PV.Q_sF, PV.Q_par, PV.Q_parQ, PV.Q_asg, PV.Q_asgN, PV.Q_asg2, PV.Q_asg3, PV.Q_asg4, PV.Q_aug, PV.Q_augQ, PV.Q_iSeq, PV.Q_seqL, PV.Q_seqT, PV.Q_seqS, PV.Q_iR1, PV.Q_iR2, PV.Q_iEn, PV.Q_iZp, PV.Q_zpl, PV.Q_zpt, PV.Q_frz, PV.Q_lns, PV.Q_dc, PV.Q_iEs, PV.Q_ens, PV.Q_enl, PV.Q_ent, PV.Q_par3, PV.Q_parc3, PV.Q_rai, PV.Q_rai0, PV.Q_rai1, PV.Q_rai2, PV.Q_gxs, PV.Q_bind, PV.Q_sbind, PV.Q_sT_NoneType_int, PV.Q_sT_NoneType_bool, PV.Q_sT_NoneType_str, PV.Q_sT_NoneType_list, PV.Q_sT_NoneType_tuple, PV.Q_sT_bool_int, PV.Q_sT_bool_bool, PV.Q_sT_bool_str, PV.Q_sT_bool_list, PV.Q_sT_bool_tuple, PV.Q_sT_int_int, PV.Q_sT_int_bool, PV.Q_sT_int_str, PV.Q_sT_int_list, PV.Q_sT_int_tuple, PV.Q_sT_str_int, PV.Q_sT_str_bool, PV.Q_sT_str_str, PV.Q_sT_str_list, PV.Q_sT_str_tuple, PV.Q_sT_tuple_int, PV.Q_sT_tuple_bool, PV.Q_sT_tuple_str, PV.Q_sT_tuple_list, PV.Q_sT_tuple_tuple, PV.Q_sT_list_int, PV.Q_sT_list_bool, PV.Q_sT_list_str, PV.Q_sT_list_list, PV.Q_sT_list_tuple, PV.Q_sT_dict_int, PV.Q_sT_dict_bool, PV.Q_sT_dict_str, PV.Q_sT_dict_list, PV.Q_sT_dict_tuple, PV.Q_nn_i, PV.Q_nn_n, PV.Q_nn_t, PV.Q_nn_l, PV.Q_nn_s, PV.Q_nn_b, PV.Q_nn_d, PV.Q_nn_o, PV.Q_mtKN, PV.Q_mtPK, PV.Q_mtc, PV.Q_mtcs, PV.Q_mcN, PV.Q_mcW, PV.truD, List.map_cons, List.map_nil, List.cons_append, List.nil_append, Nat.reduceSub, List.reduceReplicate, List.set_cons_zero, List.set_cons_succ, Bool.not_true, Bool.not_false, Bool.not_not, Bool.false_xor, Bool.true_xor, Bool.false_eq_true, and_self, true_and, and_true, PV.wipeD, PV.Tg.slots] | ((with_reducible apply PV.wp_ic); (focus rfl); (focus rfl); (focus rfl)) | ((with_reducible apply PV.wp_mtKNQ); (focus rfl); (focus rfl); (focus rfl)) | ((with_reducible apply PV.wp_mtPKQ); (focus rfl); (focus rfl); (focus rfl)) | ((with_reducible apply PV.ws_mcT); (focus rfl)) | ((with_reducible apply PV.ws_mcF); (focus decide +kernel)) | ((with_reducible apply PV.wp_fld); (focus rfl); (focus rfl); (focus rfl)) | ((with_reducible apply PV.wp_isi); (focus rfl)) | ((with_reducible apply PV.wp_isiA); (focus rfl)) | ((with_reducible apply PV.wp_lstQ); (focus exact Nat.le_of_ble_eq_true rfl)) | ((with_reducible apply PV.wp_tupQ); (focus exact Nat.le_of_ble_eq_true rfl)) | ((with_reducible apply PV.wp_lstMQ); (focus exact Nat.le_of_ble_eq_true rfl)) | ((with_reducible apply PV.wp_mtQ); (focus rfl); (focus rfl); (focus rfl)) | ((with_reducible apply PV.wp_mtKQ); (focus rfl); (focus rfl)) | ((with_reducible apply PV.wp_r1Q); (focus exact PV.near62_of (by omega) (by omega))) | ((with_reducible apply PV.wp_r2Q); (focus exact PV.near62_of (by omega) (by omega)); (focus exact PV.near62_of (by omega) (by omega))) | ((with_reducible apply PV.wp_ofLen); (focus rfl)) | ((with_reducible apply PV.wp_isx); (focus rfl)) | ((with_reducible apply PV.wp_fldx); (focus rfl)) | ((with_reducible apply PV.wp_kw); (focus rfl)) | ((with_reducible apply PV.ws_asgQ); (focus rfl)) | ((with_reducible apply PV.ex1); (focus rfl)) | ((with_reducible apply And.intro); (focus rfl)) | with_reducible exact PV.gq_same ⟨rfl, rfl⟩ | with_reducible exact ⟨rfl, rfl⟩)
namespace K01
open PySem PV PyProof.Rows
theorem dB : DrawB F_law_draw := drawG_of (c1 := 5) (c2 := 39373) (c3 := 17) (by decide) (by decide) (by decide)
theorem pB : PickB F_law_pick := pickB_of dB
theorem w_bag {cs : List Int} (h : cs.length ≤ 63) {Q : D → Sto → Prop} {E : XQ} (q : ∀ S', Bag S' 0 → S'.length = 1 → Q (.loc 0) S') : Wp (F_law_bag [.src (cs.map .int)] []) Q E := bag_ok (c0 := 11) (c1 := 39373) (c2 := 17) (by decide) (by decide) (by decide) h q
def dA : D := .hob (.dK [(.inr "a", .int 1)])
def vals : List D := [.non, .bl true, .bl false, .int 0, .int (-3), .int (10 ^ 40), .str "", .str "word", .tup [], .tup [.int 1, .str "a"], .lst [], .lst [.int 0, .lst [.int 1]], .dic0, dA, .str "x y"]
structure Sh (v : D) : Prop where
  p : ∃ p, toA v = some p ∧ p.showable = true ∧ p.depth ≤ 4 ∧ p.shown.length ≤ 60
  r : ∃ z, ∀ S, reprA (reprN (reprI reprB)) [v] S = .ok (.str z) S
  u : ∀ n, v.und n = true
theorem sh_P {v : D} {p : PyData} (h : toA v = some p) (h2 : p.showable = true ∧ p.depth ≤ 4 ∧ p.shown.length ≤ 60) (r : ∃ z, ∀ S, reprA (reprN (reprI reprB)) [v] S = .ok (.str z) S) (u : ∀ n, v.und n = true) : Sh v := ⟨⟨p, h, h2⟩, r, u⟩
theorem repT {xs : List D} {p : PyData} (h : toP (.tup xs) = some p) (h2 : reprOk p = true) (S : Sto) : reprA (reprN (reprI reprB)) [.tup xs] S = .ok (.str p.shown) S := by
  show (match toP (.tup xs) with
    | some p => if reprOk p = true then Out.ok (D.str p.shown) S else .no
    | none => .no) = _
  rw [h]
  exact if_pos h2
theorem repL0 (S : Sto) : reprA (reprN (reprI reprB)) [.lst []] S = .ok (.str (PyData.list []).shown) S := by
  show (match toP (.lst []) with
    | some p => if reprOk p = true then Out.ok (D.str p.shown) S else .no
    | none => .no) = _
  rw [show toP (.lst []) = some (.list []) from rfl]
  exact if_pos (by decide +kernel)
theorem repA {x : D} {xs : List D} {ps : List PyData} (h : toAs (x :: xs) = some ps) (h2 : reprT (.list ps) = true) (S : Sto) : reprA (reprN (reprI reprB)) [.lst (x :: xs)] S = .ok (.str (PyData.list ps).shown) S := by
  unfold reprA
  simp only [h]
  exact if_pos h2
theorem repI {i : Int} (h : i.natAbs.log2 < 1920) (S : Sto) : reprA (reprN (reprI reprB)) [.int i] S = .ok (.str (strOf i)) S := by
  show (if i.natAbs.log2 < 1920 then Out.ok (D.str (strOf i)) S else .no) = _
  exact if_pos h
theorem repS {z : Str} (h : (reprText z).length ≤ sizeLine) (S : Sto) : reprA (reprN (reprI reprB)) [.str z] S = .ok (.str (reprText z)) S := by
  show (if (reprText z).length ≤ sizeLine then Out.ok (D.str (reprText z)) S else .no) = _
  exact if_pos h
theorem repD {kvs : List (L2.Key × L2.V)} {ps : List (PyData × PyData)} (h : kvP kvs = some ps) (h2 : reprT (.dict ps) = true) (S : Sto) : reprA (reprN (reprI reprB)) [.hob (.dK kvs)] S = .ok (.str (PyData.dict ps).shown) S := by
  unfold reprA
  simp only [h]
  exact if_pos h2
theorem sh_val {v : D} (h : v ∈ vals) : Sh v := by
  simp only [vals, List.mem_cons, List.not_mem_nil, or_false] at h
  rcases h with rfl | rfl | rfl | rfl | rfl | rfl | rfl | rfl | rfl | rfl | rfl | rfl | rfl | rfl | rfl
  · exact sh_P (p := .none) rfl (by decide +kernel) ⟨_, fun _ => rfl⟩ (fun _ => rfl)
  · exact sh_P (p := .bool true) rfl (by decide +kernel) ⟨_, fun _ => rfl⟩ (fun _ => rfl)
  · exact sh_P (p := .bool false) rfl (by decide +kernel) ⟨_, fun _ => rfl⟩ (fun _ => rfl)
  · exact sh_P (p := .int 0) rfl (by decide +kernel) ⟨_, repI (by decide +kernel)⟩ (fun _ => rfl)
  · exact sh_P (p := .int (-3)) rfl (by decide +kernel) ⟨_, repI (by decide +kernel)⟩ (fun _ => rfl)
  · exact sh_P (p := .int (10 ^ 40)) rfl (by decide +kernel) ⟨_, repI (by decide +kernel)⟩ (fun _ => rfl)
  · exact sh_P (p := .str "") rfl (by decide +kernel) ⟨_, repS (by decide +kernel)⟩ (fun _ => rfl)
  · exact sh_P (p := .str "word") rfl (by decide +kernel) ⟨_, repS (by decide +kernel)⟩ (fun _ => rfl)
  · exact sh_P (p := .tuple []) rfl (by decide +kernel) ⟨_, fun S => repT (p := .tuple []) rfl (by decide +kernel) S⟩ (fun _ => rfl)
  · exact sh_P (p := .tuple [.int 1, .str "a"]) rfl (by decide +kernel) ⟨_, fun S => repT (p := .tuple [.int 1, .str "a"]) rfl (by decide +kernel) S⟩ (fun _ => rfl)
  · exact sh_P (p := .list []) rfl (by decide +kernel) ⟨_, repL0⟩ (fun _ => rfl)
  · exact sh_P (p := .list [.int 0, .list [.int 1]]) rfl (by decide +kernel) ⟨_, fun S => repA (ps := [.int 0, .list [.int 1]]) rfl (by decide +kernel) S⟩ (fun _ => rfl)
  · exact sh_P (p := .dict []) rfl (by decide +kernel) ⟨_, fun _ => rfl⟩ (fun _ => rfl)
  · exact sh_P (p := .dict [(.str "a", .int 1)]) rfl (by decide +kernel) ⟨_, repD (ps := [(.str "a", .int 1)]) rfl (by decide +kernel)⟩ (fun _ => rfl)
  · exact sh_P (p := .str "x y") rfl (by decide +kernel) ⟨_, repS (by decide +kernel)⟩ (fun _ => rfl)
theorem items {xs : List D} (h : ∀ x ∈ xs, Sh x) : ∃ ps, toAs xs = some ps ∧ PyData.showableAll ps = true ∧ PyData.depthAll ps ≤ 4 ∧ piled (PyData.shownAll ps) ≤ 64 * xs.length := by
  induction xs with
  | nil => exact ⟨[], rfl, by simp [PyData.showableAll], by simp [PyData.depthAll], by simp [PyData.shownAll, piled]⟩
  | cons x xs ih =>
    obtain ⟨ps, h1, h2, h3, h4⟩ := ih fun y hy => h y (List.mem_cons_of_mem _ hy)
    obtain ⟨p, e1, e2, e3, e4⟩ := (h x List.mem_cons_self).p
    refine ⟨p :: ps, by unfold toAs; rw [e1, h1]; rfl, by simp [PyData.showableAll, e2, h2], by simp only [PyData.depthAll]; omega, ?_⟩
    simp only [PyData.shownAll, List.length_cons]
    rw [piled_cons]
    omega
theorem rep_items {x : D} {xs : List D} (h : ∀ y ∈ x :: xs, Sh y) (hl : xs.length ≤ 30) : ∃ z, ∀ S, reprA (reprN (reprI reprB)) [.lst (x :: xs)] S = .ok (.str z) S := by
  obtain ⟨ps, h1, h2, h3, h4⟩ := items h
  refine ⟨_, repA h1 ?_⟩
  have l := len_listText (PyData.shownAll ps)
  have e : sizeLine = 16777216 := by decide
  unfold reprT
  rw [show (PyData.list ps).showable = true by simpa [PyData.showable] using h2, decide_eq_true (show (PyData.list ps).depth ≤ 60 by simp only [PyData.depth]; omega), decide_eq_true (show (PyData.list ps).shown.length ≤ sizeLine by simp only [PyData.shown]; rw [e]; simp only [List.length_cons] at h4; omega)]
  rfl
theorem add_lst {xs ys : List D} (h : xs.length ≤ 1000) (h' : ys.length ≤ 1000) {S : Sto} : addG (.lst xs) (.lst ys) S = .ok (.lst (xs ++ ys)) S := by
  have sl := PV.sizeLine_eq
  show (if _ then _ else _) = _
  rw [if_pos]
  unfold fits
  exact decide_eq_true (by omega)
theorem w_value {S : Sto} {Q : D → Sto → Prop} {E : XQ} (h : Bag S 0) (q : ∀ v S', Sh v → SameBag 0 S S' → Bag S' 0 → Q v S') : Wp (F_law_value [.loc 0] S) Q E := by
  refine wp_dfn rfl ?_
  (repeat k_upd)
  refine wp_pow (by decide) ?_
  (repeat k_upd)
  refine wp_eq (a := .dic0) (S := S) rfl ?_
  (repeat k_upd)
  show Wp (F_law_pick [.loc 0, .lst vals] S) _ _
  refine pB h (Nat.le_of_ble_eq_true rfl) (Nat.le_of_ble_eq_true rfl) fun i x S2 hx s2 p2 => ?_
  have hs : Sh x := sh_val (List.mem_of_getElem? hx)
  (repeat k_upd)
  exact gq_len s2.len (q x S2 hs s2 p2)
end K01
set_option Elab.async false
set_option linter.all false
set_option maxRecDepth 100000
set_option maxHeartbeats 4000000
namespace K01
open PySem PV PyProof.Rows
theorem wp_isX {τ : List (String × Bool)} {t : String} {g : Fn} {c : String} {fs : List (String × D)} {b : Bool} {S : Sto} {Q : D → Sto → Prop} {E : XQ} (hb : τ.lookup c = some b) (q : Q (.bl b) S) : Wp (isiX τ (isCl t) g [.exc c fs, .cls t] S) Q E := by
  refine wp_eq ?_ q
  have h : isCl t (.cls t) = true := decide_eq_true rfl
  show (if isCl t (.cls t) = true then (match List.lookup c τ with
        | some b => Out.ok (D.bl b) S
        | none => Out.no) else Out.no) = _
  rw [if_pos h]
  simp only [hb]
def kn (bs : List Bool) : List D := (bs.zipIdx.filter (·.1)).map fun p => .int (p.2 : Nat)
theorem e_kinds {c : String} {b0 b1 b2 b3 b4 b5 b6 b7 b8 b9 b10 b11 b12 b13 b14 b15 b16 b17 b18 b19 b20 b21 b22 b23 b24 b25 b26 b27 : Bool} (fs : List (String × D)) (S : Sto)
    (h0 : List.lookup c ([("CannotMove", false), ("BadHeld", true), ("BadPlayer", false), ("BadPit", false), ("BadNumber", false), ("BadTurn", false), ("BadRing", false), ("BadEnd", false), ("BadBook", false), ("BadBoard", false), ("BadSum", false), ("BadShape", false), ("BadRoad", false), ("BadClaim", false), ("BadRow", false), ("BadLine", false), ("NoLap", false), ("NoEnd", false), ("NoName", false), ("BadText", false), ("TooMany", false), ("Unlike", false), ("Nothing", false), ("NotWhole", false), ("Cause", false), ("NoPlayer", false), ("OutOfTurn", false), ("Empty", false)] : List (String × Bool)) = some b0)
    (h1 : List.lookup c ([("CannotMove", false), ("BadHeld", false), ("BadPlayer", true), ("BadPit", false), ("BadNumber", false), ("BadTurn", false), ("BadRing", false), ("BadEnd", false), ("BadBook", false), ("BadBoard", false), ("BadSum", false), ("BadShape", false), ("BadRoad", false), ("BadClaim", false), ("BadRow", false), ("BadLine", false), ("NoLap", false), ("NoEnd", false), ("NoName", false), ("BadText", false), ("TooMany", false), ("Unlike", false), ("Nothing", false), ("NotWhole", false), ("Cause", false), ("NoPlayer", false), ("OutOfTurn", false), ("Empty", false)] : List (String × Bool)) = some b1)
    (h2 : List.lookup c ([("CannotMove", false), ("BadHeld", false), ("BadPlayer", false), ("BadPit", true), ("BadNumber", false), ("BadTurn", false), ("BadRing", false), ("BadEnd", false), ("BadBook", false), ("BadBoard", false), ("BadSum", false), ("BadShape", false), ("BadRoad", false), ("BadClaim", false), ("BadRow", false), ("BadLine", false), ("NoLap", false), ("NoEnd", false), ("NoName", false), ("BadText", false), ("TooMany", false), ("Unlike", false), ("Nothing", false), ("NotWhole", false), ("Cause", false), ("NoPlayer", false), ("OutOfTurn", false), ("Empty", false)] : List (String × Bool)) = some b2)
    (h3 : List.lookup c ([("CannotMove", false), ("BadHeld", false), ("BadPlayer", false), ("BadPit", false), ("BadNumber", true), ("BadTurn", false), ("BadRing", false), ("BadEnd", false), ("BadBook", false), ("BadBoard", false), ("BadSum", false), ("BadShape", false), ("BadRoad", false), ("BadClaim", false), ("BadRow", false), ("BadLine", false), ("NoLap", false), ("NoEnd", false), ("NoName", false), ("BadText", false), ("TooMany", false), ("Unlike", false), ("Nothing", false), ("NotWhole", false), ("Cause", false), ("NoPlayer", false), ("OutOfTurn", false), ("Empty", false)] : List (String × Bool)) = some b3)
    (h4 : List.lookup c ([("CannotMove", false), ("BadHeld", false), ("BadPlayer", false), ("BadPit", false), ("BadNumber", false), ("BadTurn", true), ("BadRing", false), ("BadEnd", false), ("BadBook", false), ("BadBoard", false), ("BadSum", false), ("BadShape", false), ("BadRoad", false), ("BadClaim", false), ("BadRow", false), ("BadLine", false), ("NoLap", false), ("NoEnd", false), ("NoName", false), ("BadText", false), ("TooMany", false), ("Unlike", false), ("Nothing", false), ("NotWhole", false), ("Cause", false), ("NoPlayer", false), ("OutOfTurn", false), ("Empty", false)] : List (String × Bool)) = some b4)
    (h5 : List.lookup c ([("CannotMove", false), ("BadHeld", false), ("BadPlayer", false), ("BadPit", false), ("BadNumber", false), ("BadTurn", false), ("BadRing", true), ("BadEnd", false), ("BadBook", false), ("BadBoard", false), ("BadSum", false), ("BadShape", false), ("BadRoad", false), ("BadClaim", false), ("BadRow", false), ("BadLine", false), ("NoLap", false), ("NoEnd", false), ("NoName", false), ("BadText", false), ("TooMany", false), ("Unlike", false), ("Nothing", false), ("NotWhole", false), ("Cause", false), ("NoPlayer", false), ("OutOfTurn", false), ("Empty", false)] : List (String × Bool)) = some b5)
    (h6 : List.lookup c ([("CannotMove", false), ("BadHeld", false), ("BadPlayer", false), ("BadPit", false), ("BadNumber", false), ("BadTurn", false), ("BadRing", false), ("BadEnd", true), ("BadBook", false), ("BadBoard", false), ("BadSum", false), ("BadShape", false), ("BadRoad", false), ("BadClaim", false), ("BadRow", false), ("BadLine", false), ("NoLap", false), ("NoEnd", false), ("NoName", false), ("BadText", false), ("TooMany", false), ("Unlike", false), ("Nothing", false), ("NotWhole", false), ("Cause", false), ("NoPlayer", false), ("OutOfTurn", false), ("Empty", false)] : List (String × Bool)) = some b6)
    (h7 : List.lookup c ([("CannotMove", false), ("BadHeld", false), ("BadPlayer", false), ("BadPit", false), ("BadNumber", false), ("BadTurn", false), ("BadRing", false), ("BadEnd", false), ("BadBook", true), ("BadBoard", false), ("BadSum", false), ("BadShape", false), ("BadRoad", false), ("BadClaim", false), ("BadRow", false), ("BadLine", false), ("NoLap", false), ("NoEnd", false), ("NoName", false), ("BadText", false), ("TooMany", false), ("Unlike", false), ("Nothing", false), ("NotWhole", false), ("Cause", false), ("NoPlayer", false), ("OutOfTurn", false), ("Empty", false)] : List (String × Bool)) = some b7)
    (h8 : List.lookup c ([("CannotMove", false), ("BadHeld", false), ("BadPlayer", false), ("BadPit", false), ("BadNumber", false), ("BadTurn", false), ("BadRing", false), ("BadEnd", false), ("BadBook", false), ("BadBoard", true), ("BadSum", false), ("BadShape", false), ("BadRoad", false), ("BadClaim", false), ("BadRow", false), ("BadLine", false), ("NoLap", false), ("NoEnd", false), ("NoName", false), ("BadText", false), ("TooMany", false), ("Unlike", false), ("Nothing", false), ("NotWhole", false), ("Cause", false), ("NoPlayer", false), ("OutOfTurn", false), ("Empty", false)] : List (String × Bool)) = some b8)
    (h9 : List.lookup c ([("CannotMove", false), ("BadHeld", false), ("BadPlayer", false), ("BadPit", false), ("BadNumber", false), ("BadTurn", false), ("BadRing", false), ("BadEnd", false), ("BadBook", false), ("BadBoard", false), ("BadSum", true), ("BadShape", false), ("BadRoad", false), ("BadClaim", false), ("BadRow", false), ("BadLine", false), ("NoLap", false), ("NoEnd", false), ("NoName", false), ("BadText", false), ("TooMany", false), ("Unlike", false), ("Nothing", false), ("NotWhole", false), ("Cause", false), ("NoPlayer", false), ("OutOfTurn", false), ("Empty", false)] : List (String × Bool)) = some b9)
    (h10 : List.lookup c ([("CannotMove", false), ("BadHeld", false), ("BadPlayer", false), ("BadPit", false), ("BadNumber", false), ("BadTurn", false), ("BadRing", false), ("BadEnd", false), ("BadBook", false), ("BadBoard", false), ("BadSum", false), ("BadShape", true), ("BadRoad", false), ("BadClaim", false), ("BadRow", false), ("BadLine", false), ("NoLap", false), ("NoEnd", false), ("NoName", false), ("BadText", false), ("TooMany", false), ("Unlike", false), ("Nothing", false), ("NotWhole", false), ("Cause", false), ("NoPlayer", false), ("OutOfTurn", false), ("Empty", false)] : List (String × Bool)) = some b10)
    (h11 : List.lookup c ([("CannotMove", false), ("BadHeld", false), ("BadPlayer", false), ("BadPit", false), ("BadNumber", false), ("BadTurn", false), ("BadRing", false), ("BadEnd", false), ("BadBook", false), ("BadBoard", false), ("BadSum", false), ("BadShape", false), ("BadRoad", true), ("BadClaim", false), ("BadRow", false), ("BadLine", false), ("NoLap", false), ("NoEnd", false), ("NoName", false), ("BadText", false), ("TooMany", false), ("Unlike", false), ("Nothing", false), ("NotWhole", false), ("Cause", false), ("NoPlayer", false), ("OutOfTurn", false), ("Empty", false)] : List (String × Bool)) = some b11)
    (h12 : List.lookup c ([("CannotMove", false), ("BadHeld", false), ("BadPlayer", false), ("BadPit", false), ("BadNumber", false), ("BadTurn", false), ("BadRing", false), ("BadEnd", false), ("BadBook", false), ("BadBoard", false), ("BadSum", false), ("BadShape", false), ("BadRoad", false), ("BadClaim", true), ("BadRow", false), ("BadLine", false), ("NoLap", false), ("NoEnd", false), ("NoName", false), ("BadText", false), ("TooMany", false), ("Unlike", false), ("Nothing", false), ("NotWhole", false), ("Cause", false), ("NoPlayer", false), ("OutOfTurn", false), ("Empty", false)] : List (String × Bool)) = some b12)
    (h13 : List.lookup c ([("CannotMove", false), ("BadHeld", false), ("BadPlayer", false), ("BadPit", false), ("BadNumber", false), ("BadTurn", false), ("BadRing", false), ("BadEnd", false), ("BadBook", false), ("BadBoard", false), ("BadSum", false), ("BadShape", false), ("BadRoad", false), ("BadClaim", false), ("BadRow", true), ("BadLine", false), ("NoLap", false), ("NoEnd", false), ("NoName", false), ("BadText", false), ("TooMany", false), ("Unlike", false), ("Nothing", false), ("NotWhole", false), ("Cause", false), ("NoPlayer", false), ("OutOfTurn", false), ("Empty", false)] : List (String × Bool)) = some b13)
    (h14 : List.lookup c ([("CannotMove", false), ("BadHeld", false), ("BadPlayer", false), ("BadPit", false), ("BadNumber", false), ("BadTurn", false), ("BadRing", false), ("BadEnd", false), ("BadBook", false), ("BadBoard", false), ("BadSum", false), ("BadShape", false), ("BadRoad", false), ("BadClaim", false), ("BadRow", false), ("BadLine", true), ("NoLap", false), ("NoEnd", false), ("NoName", false), ("BadText", false), ("TooMany", false), ("Unlike", false), ("Nothing", false), ("NotWhole", false), ("Cause", false), ("NoPlayer", false), ("OutOfTurn", false), ("Empty", false)] : List (String × Bool)) = some b14)
    (h15 : List.lookup c ([("CannotMove", false), ("BadHeld", false), ("BadPlayer", false), ("BadPit", false), ("BadNumber", false), ("BadTurn", false), ("BadRing", false), ("BadEnd", false), ("BadBook", false), ("BadBoard", false), ("BadSum", false), ("BadShape", false), ("BadRoad", false), ("BadClaim", false), ("BadRow", false), ("BadLine", false), ("NoLap", true), ("NoEnd", false), ("NoName", false), ("BadText", false), ("TooMany", false), ("Unlike", false), ("Nothing", false), ("NotWhole", false), ("Cause", false), ("NoPlayer", false), ("OutOfTurn", false), ("Empty", false)] : List (String × Bool)) = some b15)
    (h16 : List.lookup c ([("CannotMove", false), ("BadHeld", false), ("BadPlayer", false), ("BadPit", false), ("BadNumber", false), ("BadTurn", false), ("BadRing", false), ("BadEnd", false), ("BadBook", false), ("BadBoard", false), ("BadSum", false), ("BadShape", false), ("BadRoad", false), ("BadClaim", false), ("BadRow", false), ("BadLine", false), ("NoLap", false), ("NoEnd", true), ("NoName", false), ("BadText", false), ("TooMany", false), ("Unlike", false), ("Nothing", false), ("NotWhole", false), ("Cause", false), ("NoPlayer", false), ("OutOfTurn", false), ("Empty", false)] : List (String × Bool)) = some b16)
    (h17 : List.lookup c ([("CannotMove", false), ("BadHeld", false), ("BadPlayer", false), ("BadPit", false), ("BadNumber", false), ("BadTurn", false), ("BadRing", false), ("BadEnd", false), ("BadBook", false), ("BadBoard", false), ("BadSum", false), ("BadShape", false), ("BadRoad", false), ("BadClaim", false), ("BadRow", false), ("BadLine", false), ("NoLap", false), ("NoEnd", false), ("NoName", true), ("BadText", false), ("TooMany", false), ("Unlike", false), ("Nothing", false), ("NotWhole", false), ("Cause", false), ("NoPlayer", false), ("OutOfTurn", false), ("Empty", false)] : List (String × Bool)) = some b17)
    (h18 : List.lookup c ([("CannotMove", false), ("BadHeld", false), ("BadPlayer", false), ("BadPit", false), ("BadNumber", false), ("BadTurn", false), ("BadRing", false), ("BadEnd", false), ("BadBook", false), ("BadBoard", false), ("BadSum", false), ("BadShape", false), ("BadRoad", false), ("BadClaim", false), ("BadRow", false), ("BadLine", false), ("NoLap", false), ("NoEnd", false), ("NoName", false), ("BadText", true), ("TooMany", false), ("Unlike", false), ("Nothing", false), ("NotWhole", false), ("Cause", false), ("NoPlayer", false), ("OutOfTurn", false), ("Empty", false)] : List (String × Bool)) = some b18)
    (h19 : List.lookup c ([("CannotMove", false), ("BadHeld", false), ("BadPlayer", false), ("BadPit", false), ("BadNumber", false), ("BadTurn", false), ("BadRing", false), ("BadEnd", false), ("BadBook", false), ("BadBoard", false), ("BadSum", false), ("BadShape", false), ("BadRoad", false), ("BadClaim", false), ("BadRow", false), ("BadLine", false), ("NoLap", false), ("NoEnd", false), ("NoName", false), ("BadText", false), ("TooMany", true), ("Unlike", false), ("Nothing", false), ("NotWhole", false), ("Cause", false), ("NoPlayer", false), ("OutOfTurn", false), ("Empty", false)] : List (String × Bool)) = some b19)
    (h20 : List.lookup c ([("CannotMove", true), ("BadHeld", false), ("BadPlayer", false), ("BadPit", false), ("BadNumber", false), ("BadTurn", false), ("BadRing", false), ("BadEnd", false), ("BadBook", false), ("BadBoard", false), ("BadSum", false), ("BadShape", false), ("BadRoad", false), ("BadClaim", false), ("BadRow", false), ("BadLine", false), ("NoLap", false), ("NoEnd", false), ("NoName", false), ("BadText", false), ("TooMany", false), ("Unlike", false), ("Nothing", false), ("NotWhole", false), ("Cause", false), ("NoPlayer", false), ("OutOfTurn", false), ("Empty", false)] : List (String × Bool)) = some b20)
    (h21 : List.lookup c ([("CannotMove", false), ("BadHeld", false), ("BadPlayer", false), ("BadPit", false), ("BadNumber", false), ("BadTurn", false), ("BadRing", false), ("BadEnd", false), ("BadBook", false), ("BadBoard", false), ("BadSum", false), ("BadShape", false), ("BadRoad", false), ("BadClaim", false), ("BadRow", false), ("BadLine", false), ("NoLap", false), ("NoEnd", false), ("NoName", false), ("BadText", false), ("TooMany", false), ("Unlike", true), ("Nothing", false), ("NotWhole", false), ("Cause", false), ("NoPlayer", false), ("OutOfTurn", false), ("Empty", false)] : List (String × Bool)) = some b21)
    (h22 : List.lookup c ([("CannotMove", false), ("BadHeld", false), ("BadPlayer", false), ("BadPit", false), ("BadNumber", false), ("BadTurn", false), ("BadRing", false), ("BadEnd", false), ("BadBook", false), ("BadBoard", false), ("BadSum", false), ("BadShape", false), ("BadRoad", false), ("BadClaim", false), ("BadRow", false), ("BadLine", false), ("NoLap", false), ("NoEnd", false), ("NoName", false), ("BadText", false), ("TooMany", false), ("Unlike", false), ("Nothing", true), ("NotWhole", false), ("Cause", false), ("NoPlayer", false), ("OutOfTurn", false), ("Empty", false)] : List (String × Bool)) = some b22)
    (h23 : List.lookup c ([("CannotMove", false), ("BadHeld", false), ("BadPlayer", false), ("BadPit", false), ("BadNumber", false), ("BadTurn", false), ("BadRing", false), ("BadEnd", false), ("BadBook", false), ("BadBoard", false), ("BadSum", false), ("BadShape", false), ("BadRoad", false), ("BadClaim", false), ("BadRow", false), ("BadLine", false), ("NoLap", false), ("NoEnd", false), ("NoName", false), ("BadText", false), ("TooMany", false), ("Unlike", false), ("Nothing", false), ("NotWhole", true), ("Cause", false), ("NoPlayer", false), ("OutOfTurn", false), ("Empty", false)] : List (String × Bool)) = some b23)
    (h24 : List.lookup c ([("CannotMove", false), ("BadHeld", false), ("BadPlayer", false), ("BadPit", false), ("BadNumber", false), ("BadTurn", false), ("BadRing", false), ("BadEnd", false), ("BadBook", false), ("BadBoard", false), ("BadSum", false), ("BadShape", false), ("BadRoad", false), ("BadClaim", false), ("BadRow", false), ("BadLine", false), ("NoLap", false), ("NoEnd", false), ("NoName", false), ("BadText", false), ("TooMany", false), ("Unlike", false), ("Nothing", false), ("NotWhole", false), ("Cause", true), ("NoPlayer", true), ("OutOfTurn", true), ("Empty", true)] : List (String × Bool)) = some b24)
    (h25 : List.lookup c ([("CannotMove", false), ("BadHeld", false), ("BadPlayer", false), ("BadPit", false), ("BadNumber", false), ("BadTurn", false), ("BadRing", false), ("BadEnd", false), ("BadBook", false), ("BadBoard", false), ("BadSum", false), ("BadShape", false), ("BadRoad", false), ("BadClaim", false), ("BadRow", false), ("BadLine", false), ("NoLap", false), ("NoEnd", false), ("NoName", false), ("BadText", false), ("TooMany", false), ("Unlike", false), ("Nothing", false), ("NotWhole", false), ("Cause", false), ("NoPlayer", true), ("OutOfTurn", false), ("Empty", false)] : List (String × Bool)) = some b25)
    (h26 : List.lookup c ([("CannotMove", false), ("BadHeld", false), ("BadPlayer", false), ("BadPit", false), ("BadNumber", false), ("BadTurn", false), ("BadRing", false), ("BadEnd", false), ("BadBook", false), ("BadBoard", false), ("BadSum", false), ("BadShape", false), ("BadRoad", false), ("BadClaim", false), ("BadRow", false), ("BadLine", false), ("NoLap", false), ("NoEnd", false), ("NoName", false), ("BadText", false), ("TooMany", false), ("Unlike", false), ("Nothing", false), ("NotWhole", false), ("Cause", false), ("NoPlayer", false), ("OutOfTurn", true), ("Empty", false)] : List (String × Bool)) = some b26)
    (h27 : List.lookup c ([("CannotMove", false), ("BadHeld", false), ("BadPlayer", false), ("BadPit", false), ("BadNumber", false), ("BadTurn", false), ("BadRing", false), ("BadEnd", false), ("BadBook", false), ("BadBoard", false), ("BadSum", false), ("BadShape", false), ("BadRoad", false), ("BadClaim", false), ("BadRow", false), ("BadLine", false), ("NoLap", false), ("NoEnd", false), ("NoName", false), ("BadText", false), ("TooMany", false), ("Unlike", false), ("Nothing", false), ("NotWhole", false), ("Cause", false), ("NoPlayer", false), ("OutOfTurn", false), ("Empty", true)] : List (String × Bool)) = some b27) :
    F_law_kinds [.exc c fs] S = .ok (.lst (kn [b0, b1, b2, b3, b4, b5, b6, b7, b8, b9, b10, b11, b12, b13, b14, b15, b16, b17, b18, b19, b20, b21, b22, b23, b24, b25, b26, b27])) S := by
  refine eq_of_wp (wp_dfn rfl ?_)
  (repeat k_upd)
  refine wp_isX h0 ?_
  (repeat k_upd)
  refine wp_isX h1 ?_
  (repeat k_upd)
  refine wp_isX h2 ?_
  (repeat k_upd)
  refine wp_isX h3 ?_
  (repeat k_upd)
  refine wp_isX h4 ?_
  (repeat k_upd)
  refine wp_isX h5 ?_
  (repeat k_upd)
  refine wp_eq (add_lst (Nat.le_of_ble_eq_true rfl) (Nat.le_of_ble_eq_true rfl)) ?_
  (repeat k_upd)
  refine wp_isX h6 ?_
  (repeat k_upd)
  refine wp_isX h7 ?_
  (repeat k_upd)
  refine wp_isX h8 ?_
  (repeat k_upd)
  refine wp_eq (add_lst (Nat.le_of_ble_eq_true rfl) (Nat.le_of_ble_eq_true rfl)) ?_
  (repeat k_upd)
  refine wp_isX h9 ?_
  (repeat k_upd)
  refine wp_isX h10 ?_
  (repeat k_upd)
  refine wp_isX h11 ?_
  (repeat k_upd)
  refine wp_eq (add_lst (Nat.le_of_ble_eq_true rfl) (Nat.le_of_ble_eq_true rfl)) ?_
  (repeat k_upd)
  refine wp_isX h12 ?_
  (repeat k_upd)
  refine wp_isX h13 ?_
  (repeat k_upd)
  refine wp_isX h14 ?_
  (repeat k_upd)
  refine wp_eq (add_lst (Nat.le_of_ble_eq_true rfl) (Nat.le_of_ble_eq_true rfl)) ?_
  (repeat k_upd)
  refine wp_isX h15 ?_
  (repeat k_upd)
  refine wp_isX h16 ?_
  (repeat k_upd)
  refine wp_isX h17 ?_
  (repeat k_upd)
  refine wp_eq (add_lst (Nat.le_of_ble_eq_true rfl) (Nat.le_of_ble_eq_true rfl)) ?_
  (repeat k_upd)
  refine wp_isX h18 ?_
  (repeat k_upd)
  refine wp_isX h19 ?_
  (repeat k_upd)
  refine wp_isX h20 ?_
  (repeat k_upd)
  refine wp_eq (add_lst (Nat.le_of_ble_eq_true rfl) (Nat.le_of_ble_eq_true rfl)) ?_
  (repeat k_upd)
  refine wp_isX h21 ?_
  (repeat k_upd)
  refine wp_isX h22 ?_
  (repeat k_upd)
  refine wp_isX h23 ?_
  (repeat k_upd)
  refine wp_eq (add_lst (Nat.le_of_ble_eq_true rfl) (Nat.le_of_ble_eq_true rfl)) ?_
  (repeat k_upd)
  refine wp_isX h24 ?_
  (repeat k_upd)
  refine wp_isX h25 ?_
  (repeat k_upd)
  refine wp_isX h26 ?_
  (repeat k_upd)
  refine wp_eq (add_lst (Nat.le_of_ble_eq_true rfl) (Nat.le_of_ble_eq_true rfl)) ?_
  (repeat k_upd)
  refine wp_lcT (ns := [b0, b1, b2, b3, b4, b5, b6, b7, b8, b9, b10, b11, b12, b13, b14, b15, b16, b17, b18, b19, b20, b21, b22, b23, b24, b25, b26, b27].zipIdx) (fun p => .tup [.int (p.2 : Nat), .bl p.1]) (fun p => p.1) (fun p => .int (p.2 : Nat)) ?_ (by simp) (fun p hp => ⟨_, rfl, ?_, fun _ => ?_⟩) ?_
  · (repeat k_upd)
    refine wp_isX h27 ?_
    (repeat k_upd)
    refine wp_eq (add_lst (Nat.le_of_ble_eq_true rfl) (Nat.le_of_ble_eq_true rfl)) ?_
    (repeat k_upd)
    rfl
  · (repeat k_upd)
  · (repeat k_upd)
  · (repeat k_upd)
end K01
set_option Elab.async false
set_option linter.all false
set_option maxRecDepth 100000
set_option maxHeartbeats 4000000
namespace K01
open PySem PV PyProof.Rows
theorem k_BadHeld (fs : List (String × D)) (S : Sto) : F_law_kinds [.exc "BadHeld" fs] S = .ok (.lst [.int 0]) S :=
  e_kinds (b0 := true) (b1 := false) (b2 := false) (b3 := false) (b4 := false) (b5 := false) (b6 := false) (b7 := false) (b8 := false) (b9 := false) (b10 := false) (b11 := false) (b12 := false) (b13 := false) (b14 := false) (b15 := false) (b16 := false) (b17 := false) (b18 := false) (b19 := false) (b20 := false) (b21 := false) (b22 := false) (b23 := false) (b24 := false) (b25 := false) (b26 := false) (b27 := false) fs S (by decide +kernel) (by decide +kernel) (by decide +kernel) (by decide +kernel) (by decide +kernel) (by decide +kernel) (by decide +kernel) (by decide +kernel) (by decide +kernel) (by decide +kernel) (by decide +kernel) (by decide +kernel) (by decide +kernel) (by decide +kernel) (by decide +kernel) (by decide +kernel) (by decide +kernel) (by decide +kernel) (by decide +kernel) (by decide +kernel) (by decide +kernel) (by decide +kernel) (by decide +kernel) (by decide +kernel) (by decide +kernel) (by decide +kernel) (by decide +kernel) (by decide +kernel)
theorem k_BadPlayer (fs : List (String × D)) (S : Sto) : F_law_kinds [.exc "BadPlayer" fs] S = .ok (.lst [.int 1]) S :=
  e_kinds (b0 := false) (b1 := true) (b2 := false) (b3 := false) (b4 := false) (b5 := false) (b6 := false) (b7 := false) (b8 := false) (b9 := false) (b10 := false) (b11 := false) (b12 := false) (b13 := false) (b14 := false) (b15 := false) (b16 := false) (b17 := false) (b18 := false) (b19 := false) (b20 := false) (b21 := false) (b22 := false) (b23 := false) (b24 := false) (b25 := false) (b26 := false) (b27 := false) fs S (by decide +kernel) (by decide +kernel) (by decide +kernel) (by decide +kernel) (by decide +kernel) (by decide +kernel) (by decide +kernel) (by decide +kernel) (by decide +kernel) (by decide +kernel) (by decide +kernel) (by decide +kernel) (by decide +kernel) (by decide +kernel) (by decide +kernel) (by decide +kernel) (by decide +kernel) (by decide +kernel) (by decide +kernel) (by decide +kernel) (by decide +kernel) (by decide +kernel) (by decide +kernel) (by decide +kernel) (by decide +kernel) (by decide +kernel) (by decide +kernel) (by decide +kernel)
theorem k_BadPit (fs : List (String × D)) (S : Sto) : F_law_kinds [.exc "BadPit" fs] S = .ok (.lst [.int 2]) S :=
  e_kinds (b0 := false) (b1 := false) (b2 := true) (b3 := false) (b4 := false) (b5 := false) (b6 := false) (b7 := false) (b8 := false) (b9 := false) (b10 := false) (b11 := false) (b12 := false) (b13 := false) (b14 := false) (b15 := false) (b16 := false) (b17 := false) (b18 := false) (b19 := false) (b20 := false) (b21 := false) (b22 := false) (b23 := false) (b24 := false) (b25 := false) (b26 := false) (b27 := false) fs S (by decide +kernel) (by decide +kernel) (by decide +kernel) (by decide +kernel) (by decide +kernel) (by decide +kernel) (by decide +kernel) (by decide +kernel) (by decide +kernel) (by decide +kernel) (by decide +kernel) (by decide +kernel) (by decide +kernel) (by decide +kernel) (by decide +kernel) (by decide +kernel) (by decide +kernel) (by decide +kernel) (by decide +kernel) (by decide +kernel) (by decide +kernel) (by decide +kernel) (by decide +kernel) (by decide +kernel) (by decide +kernel) (by decide +kernel) (by decide +kernel) (by decide +kernel)
theorem k_BadNumber (fs : List (String × D)) (S : Sto) : F_law_kinds [.exc "BadNumber" fs] S = .ok (.lst [.int 3]) S :=
  e_kinds (b0 := false) (b1 := false) (b2 := false) (b3 := true) (b4 := false) (b5 := false) (b6 := false) (b7 := false) (b8 := false) (b9 := false) (b10 := false) (b11 := false) (b12 := false) (b13 := false) (b14 := false) (b15 := false) (b16 := false) (b17 := false) (b18 := false) (b19 := false) (b20 := false) (b21 := false) (b22 := false) (b23 := false) (b24 := false) (b25 := false) (b26 := false) (b27 := false) fs S (by decide +kernel) (by decide +kernel) (by decide +kernel) (by decide +kernel) (by decide +kernel) (by decide +kernel) (by decide +kernel) (by decide +kernel) (by decide +kernel) (by decide +kernel) (by decide +kernel) (by decide +kernel) (by decide +kernel) (by decide +kernel) (by decide +kernel) (by decide +kernel) (by decide +kernel) (by decide +kernel) (by decide +kernel) (by decide +kernel) (by decide +kernel) (by decide +kernel) (by decide +kernel) (by decide +kernel) (by decide +kernel) (by decide +kernel) (by decide +kernel) (by decide +kernel)
theorem k_BadTurn (fs : List (String × D)) (S : Sto) : F_law_kinds [.exc "BadTurn" fs] S = .ok (.lst [.int 4]) S :=
  e_kinds (b0 := false) (b1 := false) (b2 := false) (b3 := false) (b4 := true) (b5 := false) (b6 := false) (b7 := false) (b8 := false) (b9 := false) (b10 := false) (b11 := false) (b12 := false) (b13 := false) (b14 := false) (b15 := false) (b16 := false) (b17 := false) (b18 := false) (b19 := false) (b20 := false) (b21 := false) (b22 := false) (b23 := false) (b24 := false) (b25 := false) (b26 := false) (b27 := false) fs S (by decide +kernel) (by decide +kernel) (by decide +kernel) (by decide +kernel) (by decide +kernel) (by decide +kernel) (by decide +kernel) (by decide +kernel) (by decide +kernel) (by decide +kernel) (by decide +kernel) (by decide +kernel) (by decide +kernel) (by decide +kernel) (by decide +kernel) (by decide +kernel) (by decide +kernel) (by decide +kernel) (by decide +kernel) (by decide +kernel) (by decide +kernel) (by decide +kernel) (by decide +kernel) (by decide +kernel) (by decide +kernel) (by decide +kernel) (by decide +kernel) (by decide +kernel)
theorem k_BadRing (fs : List (String × D)) (S : Sto) : F_law_kinds [.exc "BadRing" fs] S = .ok (.lst [.int 5]) S :=
  e_kinds (b0 := false) (b1 := false) (b2 := false) (b3 := false) (b4 := false) (b5 := true) (b6 := false) (b7 := false) (b8 := false) (b9 := false) (b10 := false) (b11 := false) (b12 := false) (b13 := false) (b14 := false) (b15 := false) (b16 := false) (b17 := false) (b18 := false) (b19 := false) (b20 := false) (b21 := false) (b22 := false) (b23 := false) (b24 := false) (b25 := false) (b26 := false) (b27 := false) fs S (by decide +kernel) (by decide +kernel) (by decide +kernel) (by decide +kernel) (by decide +kernel) (by decide +kernel) (by decide +kernel) (by decide +kernel) (by decide +kernel) (by decide +kernel) (by decide +kernel) (by decide +kernel) (by decide +kernel) (by decide +kernel) (by decide +kernel) (by decide +kernel) (by decide +kernel) (by decide +kernel) (by decide +kernel) (by decide +kernel) (by decide +kernel) (by decide +kernel) (by decide +kernel) (by decide +kernel) (by decide +kernel) (by decide +kernel) (by decide +kernel) (by decide +kernel)
theorem k_BadEnd (fs : List (String × D)) (S : Sto) : F_law_kinds [.exc "BadEnd" fs] S = .ok (.lst [.int 6]) S :=
  e_kinds (b0 := false) (b1 := false) (b2 := false) (b3 := false) (b4 := false) (b5 := false) (b6 := true) (b7 := false) (b8 := false) (b9 := false) (b10 := false) (b11 := false) (b12 := false) (b13 := false) (b14 := false) (b15 := false) (b16 := false) (b17 := false) (b18 := false) (b19 := false) (b20 := false) (b21 := false) (b22 := false) (b23 := false) (b24 := false) (b25 := false) (b26 := false) (b27 := false) fs S (by decide +kernel) (by decide +kernel) (by decide +kernel) (by decide +kernel) (by decide +kernel) (by decide +kernel) (by decide +kernel) (by decide +kernel) (by decide +kernel) (by decide +kernel) (by decide +kernel) (by decide +kernel) (by decide +kernel) (by decide +kernel) (by decide +kernel) (by decide +kernel) (by decide +kernel) (by decide +kernel) (by decide +kernel) (by decide +kernel) (by decide +kernel) (by decide +kernel) (by decide +kernel) (by decide +kernel) (by decide +kernel) (by decide +kernel) (by decide +kernel) (by decide +kernel)
theorem k_BadBook (fs : List (String × D)) (S : Sto) : F_law_kinds [.exc "BadBook" fs] S = .ok (.lst [.int 7]) S :=
  e_kinds (b0 := false) (b1 := false) (b2 := false) (b3 := false) (b4 := false) (b5 := false) (b6 := false) (b7 := true) (b8 := false) (b9 := false) (b10 := false) (b11 := false) (b12 := false) (b13 := false) (b14 := false) (b15 := false) (b16 := false) (b17 := false) (b18 := false) (b19 := false) (b20 := false) (b21 := false) (b22 := false) (b23 := false) (b24 := false) (b25 := false) (b26 := false) (b27 := false) fs S (by decide +kernel) (by decide +kernel) (by decide +kernel) (by decide +kernel) (by decide +kernel) (by decide +kernel) (by decide +kernel) (by decide +kernel) (by decide +kernel) (by decide +kernel) (by decide +kernel) (by decide +kernel) (by decide +kernel) (by decide +kernel) (by decide +kernel) (by decide +kernel) (by decide +kernel) (by decide +kernel) (by decide +kernel) (by decide +kernel) (by decide +kernel) (by decide +kernel) (by decide +kernel) (by decide +kernel) (by decide +kernel) (by decide +kernel) (by decide +kernel) (by decide +kernel)
theorem k_BadBoard (fs : List (String × D)) (S : Sto) : F_law_kinds [.exc "BadBoard" fs] S = .ok (.lst [.int 8]) S :=
  e_kinds (b0 := false) (b1 := false) (b2 := false) (b3 := false) (b4 := false) (b5 := false) (b6 := false) (b7 := false) (b8 := true) (b9 := false) (b10 := false) (b11 := false) (b12 := false) (b13 := false) (b14 := false) (b15 := false) (b16 := false) (b17 := false) (b18 := false) (b19 := false) (b20 := false) (b21 := false) (b22 := false) (b23 := false) (b24 := false) (b25 := false) (b26 := false) (b27 := false) fs S (by decide +kernel) (by decide +kernel) (by decide +kernel) (by decide +kernel) (by decide +kernel) (by decide +kernel) (by decide +kernel) (by decide +kernel) (by decide +kernel) (by decide +kernel) (by decide +kernel) (by decide +kernel) (by decide +kernel) (by decide +kernel) (by decide +kernel) (by decide +kernel) (by decide +kernel) (by decide +kernel) (by decide +kernel) (by decide +kernel) (by decide +kernel) (by decide +kernel) (by decide +kernel) (by decide +kernel) (by decide +kernel) (by decide +kernel) (by decide +kernel) (by decide +kernel)
theorem k_BadSum (fs : List (String × D)) (S : Sto) : F_law_kinds [.exc "BadSum" fs] S = .ok (.lst [.int 9]) S :=
  e_kinds (b0 := false) (b1 := false) (b2 := false) (b3 := false) (b4 := false) (b5 := false) (b6 := false) (b7 := false) (b8 := false) (b9 := true) (b10 := false) (b11 := false) (b12 := false) (b13 := false) (b14 := false) (b15 := false) (b16 := false) (b17 := false) (b18 := false) (b19 := false) (b20 := false) (b21 := false) (b22 := false) (b23 := false) (b24 := false) (b25 := false) (b26 := false) (b27 := false) fs S (by decide +kernel) (by decide +kernel) (by decide +kernel) (by decide +kernel) (by decide +kernel) (by decide +kernel) (by decide +kernel) (by decide +kernel) (by decide +kernel) (by decide +kernel) (by decide +kernel) (by decide +kernel) (by decide +kernel) (by decide +kernel) (by decide +kernel) (by decide +kernel) (by decide +kernel) (by decide +kernel) (by decide +kernel) (by decide +kernel) (by decide +kernel) (by decide +kernel) (by decide +kernel) (by decide +kernel) (by decide +kernel) (by decide +kernel) (by decide +kernel) (by decide +kernel)
theorem k_BadShape (fs : List (String × D)) (S : Sto) : F_law_kinds [.exc "BadShape" fs] S = .ok (.lst [.int 10]) S :=
  e_kinds (b0 := false) (b1 := false) (b2 := false) (b3 := false) (b4 := false) (b5 := false) (b6 := false) (b7 := false) (b8 := false) (b9 := false) (b10 := true) (b11 := false) (b12 := false) (b13 := false) (b14 := false) (b15 := false) (b16 := false) (b17 := false) (b18 := false) (b19 := false) (b20 := false) (b21 := false) (b22 := false) (b23 := false) (b24 := false) (b25 := false) (b26 := false) (b27 := false) fs S (by decide +kernel) (by decide +kernel) (by decide +kernel) (by decide +kernel) (by decide +kernel) (by decide +kernel) (by decide +kernel) (by decide +kernel) (by decide +kernel) (by decide +kernel) (by decide +kernel) (by decide +kernel) (by decide +kernel) (by decide +kernel) (by decide +kernel) (by decide +kernel) (by decide +kernel) (by decide +kernel) (by decide +kernel) (by decide +kernel) (by decide +kernel) (by decide +kernel) (by decide +kernel) (by decide +kernel) (by decide +kernel) (by decide +kernel) (by decide +kernel) (by decide +kernel)
theorem k_BadRoad (fs : List (String × D)) (S : Sto) : F_law_kinds [.exc "BadRoad" fs] S = .ok (.lst [.int 11]) S :=
  e_kinds (b0 := false) (b1 := false) (b2 := false) (b3 := false) (b4 := false) (b5 := false) (b6 := false) (b7 := false) (b8 := false) (b9 := false) (b10 := false) (b11 := true) (b12 := false) (b13 := false) (b14 := false) (b15 := false) (b16 := false) (b17 := false) (b18 := false) (b19 := false) (b20 := false) (b21 := false) (b22 := false) (b23 := false) (b24 := false) (b25 := false) (b26 := false) (b27 := false) fs S (by decide +kernel) (by decide +kernel) (by decide +kernel) (by decide +kernel) (by decide +kernel) (by decide +kernel) (by decide +kernel) (by decide +kernel) (by decide +kernel) (by decide +kernel) (by decide +kernel) (by decide +kernel) (by decide +kernel) (by decide +kernel) (by decide +kernel) (by decide +kernel) (by decide +kernel) (by decide +kernel) (by decide +kernel) (by decide +kernel) (by decide +kernel) (by decide +kernel) (by decide +kernel) (by decide +kernel) (by decide +kernel) (by decide +kernel) (by decide +kernel) (by decide +kernel)
theorem k_BadClaim (fs : List (String × D)) (S : Sto) : F_law_kinds [.exc "BadClaim" fs] S = .ok (.lst [.int 12]) S :=
  e_kinds (b0 := false) (b1 := false) (b2 := false) (b3 := false) (b4 := false) (b5 := false) (b6 := false) (b7 := false) (b8 := false) (b9 := false) (b10 := false) (b11 := false) (b12 := true) (b13 := false) (b14 := false) (b15 := false) (b16 := false) (b17 := false) (b18 := false) (b19 := false) (b20 := false) (b21 := false) (b22 := false) (b23 := false) (b24 := false) (b25 := false) (b26 := false) (b27 := false) fs S (by decide +kernel) (by decide +kernel) (by decide +kernel) (by decide +kernel) (by decide +kernel) (by decide +kernel) (by decide +kernel) (by decide +kernel) (by decide +kernel) (by decide +kernel) (by decide +kernel) (by decide +kernel) (by decide +kernel) (by decide +kernel) (by decide +kernel) (by decide +kernel) (by decide +kernel) (by decide +kernel) (by decide +kernel) (by decide +kernel) (by decide +kernel) (by decide +kernel) (by decide +kernel) (by decide +kernel) (by decide +kernel) (by decide +kernel) (by decide +kernel) (by decide +kernel)
theorem k_BadRow (fs : List (String × D)) (S : Sto) : F_law_kinds [.exc "BadRow" fs] S = .ok (.lst [.int 13]) S :=
  e_kinds (b0 := false) (b1 := false) (b2 := false) (b3 := false) (b4 := false) (b5 := false) (b6 := false) (b7 := false) (b8 := false) (b9 := false) (b10 := false) (b11 := false) (b12 := false) (b13 := true) (b14 := false) (b15 := false) (b16 := false) (b17 := false) (b18 := false) (b19 := false) (b20 := false) (b21 := false) (b22 := false) (b23 := false) (b24 := false) (b25 := false) (b26 := false) (b27 := false) fs S (by decide +kernel) (by decide +kernel) (by decide +kernel) (by decide +kernel) (by decide +kernel) (by decide +kernel) (by decide +kernel) (by decide +kernel) (by decide +kernel) (by decide +kernel) (by decide +kernel) (by decide +kernel) (by decide +kernel) (by decide +kernel) (by decide +kernel) (by decide +kernel) (by decide +kernel) (by decide +kernel) (by decide +kernel) (by decide +kernel) (by decide +kernel) (by decide +kernel) (by decide +kernel) (by decide +kernel) (by decide +kernel) (by decide +kernel) (by decide +kernel) (by decide +kernel)
theorem k_BadLine (fs : List (String × D)) (S : Sto) : F_law_kinds [.exc "BadLine" fs] S = .ok (.lst [.int 14]) S :=
  e_kinds (b0 := false) (b1 := false) (b2 := false) (b3 := false) (b4 := false) (b5 := false) (b6 := false) (b7 := false) (b8 := false) (b9 := false) (b10 := false) (b11 := false) (b12 := false) (b13 := false) (b14 := true) (b15 := false) (b16 := false) (b17 := false) (b18 := false) (b19 := false) (b20 := false) (b21 := false) (b22 := false) (b23 := false) (b24 := false) (b25 := false) (b26 := false) (b27 := false) fs S (by decide +kernel) (by decide +kernel) (by decide +kernel) (by decide +kernel) (by decide +kernel) (by decide +kernel) (by decide +kernel) (by decide +kernel) (by decide +kernel) (by decide +kernel) (by decide +kernel) (by decide +kernel) (by decide +kernel) (by decide +kernel) (by decide +kernel) (by decide +kernel) (by decide +kernel) (by decide +kernel) (by decide +kernel) (by decide +kernel) (by decide +kernel) (by decide +kernel) (by decide +kernel) (by decide +kernel) (by decide +kernel) (by decide +kernel) (by decide +kernel) (by decide +kernel)
theorem k_NoLap (fs : List (String × D)) (S : Sto) : F_law_kinds [.exc "NoLap" fs] S = .ok (.lst [.int 15]) S :=
  e_kinds (b0 := false) (b1 := false) (b2 := false) (b3 := false) (b4 := false) (b5 := false) (b6 := false) (b7 := false) (b8 := false) (b9 := false) (b10 := false) (b11 := false) (b12 := false) (b13 := false) (b14 := false) (b15 := true) (b16 := false) (b17 := false) (b18 := false) (b19 := false) (b20 := false) (b21 := false) (b22 := false) (b23 := false) (b24 := false) (b25 := false) (b26 := false) (b27 := false) fs S (by decide +kernel) (by decide +kernel) (by decide +kernel) (by decide +kernel) (by decide +kernel) (by decide +kernel) (by decide +kernel) (by decide +kernel) (by decide +kernel) (by decide +kernel) (by decide +kernel) (by decide +kernel) (by decide +kernel) (by decide +kernel) (by decide +kernel) (by decide +kernel) (by decide +kernel) (by decide +kernel) (by decide +kernel) (by decide +kernel) (by decide +kernel) (by decide +kernel) (by decide +kernel) (by decide +kernel) (by decide +kernel) (by decide +kernel) (by decide +kernel) (by decide +kernel)
theorem k_NoEnd (fs : List (String × D)) (S : Sto) : F_law_kinds [.exc "NoEnd" fs] S = .ok (.lst [.int 16]) S :=
  e_kinds (b0 := false) (b1 := false) (b2 := false) (b3 := false) (b4 := false) (b5 := false) (b6 := false) (b7 := false) (b8 := false) (b9 := false) (b10 := false) (b11 := false) (b12 := false) (b13 := false) (b14 := false) (b15 := false) (b16 := true) (b17 := false) (b18 := false) (b19 := false) (b20 := false) (b21 := false) (b22 := false) (b23 := false) (b24 := false) (b25 := false) (b26 := false) (b27 := false) fs S (by decide +kernel) (by decide +kernel) (by decide +kernel) (by decide +kernel) (by decide +kernel) (by decide +kernel) (by decide +kernel) (by decide +kernel) (by decide +kernel) (by decide +kernel) (by decide +kernel) (by decide +kernel) (by decide +kernel) (by decide +kernel) (by decide +kernel) (by decide +kernel) (by decide +kernel) (by decide +kernel) (by decide +kernel) (by decide +kernel) (by decide +kernel) (by decide +kernel) (by decide +kernel) (by decide +kernel) (by decide +kernel) (by decide +kernel) (by decide +kernel) (by decide +kernel)
theorem k_NoName (fs : List (String × D)) (S : Sto) : F_law_kinds [.exc "NoName" fs] S = .ok (.lst [.int 17]) S :=
  e_kinds (b0 := false) (b1 := false) (b2 := false) (b3 := false) (b4 := false) (b5 := false) (b6 := false) (b7 := false) (b8 := false) (b9 := false) (b10 := false) (b11 := false) (b12 := false) (b13 := false) (b14 := false) (b15 := false) (b16 := false) (b17 := true) (b18 := false) (b19 := false) (b20 := false) (b21 := false) (b22 := false) (b23 := false) (b24 := false) (b25 := false) (b26 := false) (b27 := false) fs S (by decide +kernel) (by decide +kernel) (by decide +kernel) (by decide +kernel) (by decide +kernel) (by decide +kernel) (by decide +kernel) (by decide +kernel) (by decide +kernel) (by decide +kernel) (by decide +kernel) (by decide +kernel) (by decide +kernel) (by decide +kernel) (by decide +kernel) (by decide +kernel) (by decide +kernel) (by decide +kernel) (by decide +kernel) (by decide +kernel) (by decide +kernel) (by decide +kernel) (by decide +kernel) (by decide +kernel) (by decide +kernel) (by decide +kernel) (by decide +kernel) (by decide +kernel)
theorem k_BadText (fs : List (String × D)) (S : Sto) : F_law_kinds [.exc "BadText" fs] S = .ok (.lst [.int 18]) S :=
  e_kinds (b0 := false) (b1 := false) (b2 := false) (b3 := false) (b4 := false) (b5 := false) (b6 := false) (b7 := false) (b8 := false) (b9 := false) (b10 := false) (b11 := false) (b12 := false) (b13 := false) (b14 := false) (b15 := false) (b16 := false) (b17 := false) (b18 := true) (b19 := false) (b20 := false) (b21 := false) (b22 := false) (b23 := false) (b24 := false) (b25 := false) (b26 := false) (b27 := false) fs S (by decide +kernel) (by decide +kernel) (by decide +kernel) (by decide +kernel) (by decide +kernel) (by decide +kernel) (by decide +kernel) (by decide +kernel) (by decide +kernel) (by decide +kernel) (by decide +kernel) (by decide +kernel) (by decide +kernel) (by decide +kernel) (by decide +kernel) (by decide +kernel) (by decide +kernel) (by decide +kernel) (by decide +kernel) (by decide +kernel) (by decide +kernel) (by decide +kernel) (by decide +kernel) (by decide +kernel) (by decide +kernel) (by decide +kernel) (by decide +kernel) (by decide +kernel)
theorem k_TooMany (fs : List (String × D)) (S : Sto) : F_law_kinds [.exc "TooMany" fs] S = .ok (.lst [.int 19]) S :=
  e_kinds (b0 := false) (b1 := false) (b2 := false) (b3 := false) (b4 := false) (b5 := false) (b6 := false) (b7 := false) (b8 := false) (b9 := false) (b10 := false) (b11 := false) (b12 := false) (b13 := false) (b14 := false) (b15 := false) (b16 := false) (b17 := false) (b18 := false) (b19 := true) (b20 := false) (b21 := false) (b22 := false) (b23 := false) (b24 := false) (b25 := false) (b26 := false) (b27 := false) fs S (by decide +kernel) (by decide +kernel) (by decide +kernel) (by decide +kernel) (by decide +kernel) (by decide +kernel) (by decide +kernel) (by decide +kernel) (by decide +kernel) (by decide +kernel) (by decide +kernel) (by decide +kernel) (by decide +kernel) (by decide +kernel) (by decide +kernel) (by decide +kernel) (by decide +kernel) (by decide +kernel) (by decide +kernel) (by decide +kernel) (by decide +kernel) (by decide +kernel) (by decide +kernel) (by decide +kernel) (by decide +kernel) (by decide +kernel) (by decide +kernel) (by decide +kernel)
theorem k_CannotMove (fs : List (String × D)) (S : Sto) : F_law_kinds [.exc "CannotMove" fs] S = .ok (.lst [.int 20]) S :=
  e_kinds (b0 := false) (b1 := false) (b2 := false) (b3 := false) (b4 := false) (b5 := false) (b6 := false) (b7 := false) (b8 := false) (b9 := false) (b10 := false) (b11 := false) (b12 := false) (b13 := false) (b14 := false) (b15 := false) (b16 := false) (b17 := false) (b18 := false) (b19 := false) (b20 := true) (b21 := false) (b22 := false) (b23 := false) (b24 := false) (b25 := false) (b26 := false) (b27 := false) fs S (by decide +kernel) (by decide +kernel) (by decide +kernel) (by decide +kernel) (by decide +kernel) (by decide +kernel) (by decide +kernel) (by decide +kernel) (by decide +kernel) (by decide +kernel) (by decide +kernel) (by decide +kernel) (by decide +kernel) (by decide +kernel) (by decide +kernel) (by decide +kernel) (by decide +kernel) (by decide +kernel) (by decide +kernel) (by decide +kernel) (by decide +kernel) (by decide +kernel) (by decide +kernel) (by decide +kernel) (by decide +kernel) (by decide +kernel) (by decide +kernel) (by decide +kernel)
theorem k_Unlike (fs : List (String × D)) (S : Sto) : F_law_kinds [.exc "Unlike" fs] S = .ok (.lst [.int 21]) S :=
  e_kinds (b0 := false) (b1 := false) (b2 := false) (b3 := false) (b4 := false) (b5 := false) (b6 := false) (b7 := false) (b8 := false) (b9 := false) (b10 := false) (b11 := false) (b12 := false) (b13 := false) (b14 := false) (b15 := false) (b16 := false) (b17 := false) (b18 := false) (b19 := false) (b20 := false) (b21 := true) (b22 := false) (b23 := false) (b24 := false) (b25 := false) (b26 := false) (b27 := false) fs S (by decide +kernel) (by decide +kernel) (by decide +kernel) (by decide +kernel) (by decide +kernel) (by decide +kernel) (by decide +kernel) (by decide +kernel) (by decide +kernel) (by decide +kernel) (by decide +kernel) (by decide +kernel) (by decide +kernel) (by decide +kernel) (by decide +kernel) (by decide +kernel) (by decide +kernel) (by decide +kernel) (by decide +kernel) (by decide +kernel) (by decide +kernel) (by decide +kernel) (by decide +kernel) (by decide +kernel) (by decide +kernel) (by decide +kernel) (by decide +kernel) (by decide +kernel)
theorem k_Nothing (fs : List (String × D)) (S : Sto) : F_law_kinds [.exc "Nothing" fs] S = .ok (.lst [.int 22]) S :=
  e_kinds (b0 := false) (b1 := false) (b2 := false) (b3 := false) (b4 := false) (b5 := false) (b6 := false) (b7 := false) (b8 := false) (b9 := false) (b10 := false) (b11 := false) (b12 := false) (b13 := false) (b14 := false) (b15 := false) (b16 := false) (b17 := false) (b18 := false) (b19 := false) (b20 := false) (b21 := false) (b22 := true) (b23 := false) (b24 := false) (b25 := false) (b26 := false) (b27 := false) fs S (by decide +kernel) (by decide +kernel) (by decide +kernel) (by decide +kernel) (by decide +kernel) (by decide +kernel) (by decide +kernel) (by decide +kernel) (by decide +kernel) (by decide +kernel) (by decide +kernel) (by decide +kernel) (by decide +kernel) (by decide +kernel) (by decide +kernel) (by decide +kernel) (by decide +kernel) (by decide +kernel) (by decide +kernel) (by decide +kernel) (by decide +kernel) (by decide +kernel) (by decide +kernel) (by decide +kernel) (by decide +kernel) (by decide +kernel) (by decide +kernel) (by decide +kernel)
theorem k_NotWhole (fs : List (String × D)) (S : Sto) : F_law_kinds [.exc "NotWhole" fs] S = .ok (.lst [.int 23]) S :=
  e_kinds (b0 := false) (b1 := false) (b2 := false) (b3 := false) (b4 := false) (b5 := false) (b6 := false) (b7 := false) (b8 := false) (b9 := false) (b10 := false) (b11 := false) (b12 := false) (b13 := false) (b14 := false) (b15 := false) (b16 := false) (b17 := false) (b18 := false) (b19 := false) (b20 := false) (b21 := false) (b22 := false) (b23 := true) (b24 := false) (b25 := false) (b26 := false) (b27 := false) fs S (by decide +kernel) (by decide +kernel) (by decide +kernel) (by decide +kernel) (by decide +kernel) (by decide +kernel) (by decide +kernel) (by decide +kernel) (by decide +kernel) (by decide +kernel) (by decide +kernel) (by decide +kernel) (by decide +kernel) (by decide +kernel) (by decide +kernel) (by decide +kernel) (by decide +kernel) (by decide +kernel) (by decide +kernel) (by decide +kernel) (by decide +kernel) (by decide +kernel) (by decide +kernel) (by decide +kernel) (by decide +kernel) (by decide +kernel) (by decide +kernel) (by decide +kernel)
theorem k_Cause (fs : List (String × D)) (S : Sto) : F_law_kinds [.exc "Cause" fs] S = .ok (.lst [.int 24]) S :=
  e_kinds (b0 := false) (b1 := false) (b2 := false) (b3 := false) (b4 := false) (b5 := false) (b6 := false) (b7 := false) (b8 := false) (b9 := false) (b10 := false) (b11 := false) (b12 := false) (b13 := false) (b14 := false) (b15 := false) (b16 := false) (b17 := false) (b18 := false) (b19 := false) (b20 := false) (b21 := false) (b22 := false) (b23 := false) (b24 := true) (b25 := false) (b26 := false) (b27 := false) fs S (by decide +kernel) (by decide +kernel) (by decide +kernel) (by decide +kernel) (by decide +kernel) (by decide +kernel) (by decide +kernel) (by decide +kernel) (by decide +kernel) (by decide +kernel) (by decide +kernel) (by decide +kernel) (by decide +kernel) (by decide +kernel) (by decide +kernel) (by decide +kernel) (by decide +kernel) (by decide +kernel) (by decide +kernel) (by decide +kernel) (by decide +kernel) (by decide +kernel) (by decide +kernel) (by decide +kernel) (by decide +kernel) (by decide +kernel) (by decide +kernel) (by decide +kernel)
theorem k_NoPlayer (fs : List (String × D)) (S : Sto) : F_law_kinds [.exc "NoPlayer" fs] S = .ok (.lst [.int 24, .int 25]) S :=
  e_kinds (b0 := false) (b1 := false) (b2 := false) (b3 := false) (b4 := false) (b5 := false) (b6 := false) (b7 := false) (b8 := false) (b9 := false) (b10 := false) (b11 := false) (b12 := false) (b13 := false) (b14 := false) (b15 := false) (b16 := false) (b17 := false) (b18 := false) (b19 := false) (b20 := false) (b21 := false) (b22 := false) (b23 := false) (b24 := true) (b25 := true) (b26 := false) (b27 := false) fs S (by decide +kernel) (by decide +kernel) (by decide +kernel) (by decide +kernel) (by decide +kernel) (by decide +kernel) (by decide +kernel) (by decide +kernel) (by decide +kernel) (by decide +kernel) (by decide +kernel) (by decide +kernel) (by decide +kernel) (by decide +kernel) (by decide +kernel) (by decide +kernel) (by decide +kernel) (by decide +kernel) (by decide +kernel) (by decide +kernel) (by decide +kernel) (by decide +kernel) (by decide +kernel) (by decide +kernel) (by decide +kernel) (by decide +kernel) (by decide +kernel) (by decide +kernel)
theorem k_OutOfTurn (fs : List (String × D)) (S : Sto) : F_law_kinds [.exc "OutOfTurn" fs] S = .ok (.lst [.int 24, .int 26]) S :=
  e_kinds (b0 := false) (b1 := false) (b2 := false) (b3 := false) (b4 := false) (b5 := false) (b6 := false) (b7 := false) (b8 := false) (b9 := false) (b10 := false) (b11 := false) (b12 := false) (b13 := false) (b14 := false) (b15 := false) (b16 := false) (b17 := false) (b18 := false) (b19 := false) (b20 := false) (b21 := false) (b22 := false) (b23 := false) (b24 := true) (b25 := false) (b26 := true) (b27 := false) fs S (by decide +kernel) (by decide +kernel) (by decide +kernel) (by decide +kernel) (by decide +kernel) (by decide +kernel) (by decide +kernel) (by decide +kernel) (by decide +kernel) (by decide +kernel) (by decide +kernel) (by decide +kernel) (by decide +kernel) (by decide +kernel) (by decide +kernel) (by decide +kernel) (by decide +kernel) (by decide +kernel) (by decide +kernel) (by decide +kernel) (by decide +kernel) (by decide +kernel) (by decide +kernel) (by decide +kernel) (by decide +kernel) (by decide +kernel) (by decide +kernel) (by decide +kernel)
theorem k_Empty (fs : List (String × D)) (S : Sto) : F_law_kinds [.exc "Empty" fs] S = .ok (.lst [.int 24, .int 27]) S :=
  e_kinds (b0 := false) (b1 := false) (b2 := false) (b3 := false) (b4 := false) (b5 := false) (b6 := false) (b7 := false) (b8 := false) (b9 := false) (b10 := false) (b11 := false) (b12 := false) (b13 := false) (b14 := false) (b15 := false) (b16 := false) (b17 := false) (b18 := false) (b19 := false) (b20 := false) (b21 := false) (b22 := false) (b23 := false) (b24 := true) (b25 := false) (b26 := false) (b27 := true) fs S (by decide +kernel) (by decide +kernel) (by decide +kernel) (by decide +kernel) (by decide +kernel) (by decide +kernel) (by decide +kernel) (by decide +kernel) (by decide +kernel) (by decide +kernel) (by decide +kernel) (by decide +kernel) (by decide +kernel) (by decide +kernel) (by decide +kernel) (by decide +kernel) (by decide +kernel) (by decide +kernel) (by decide +kernel) (by decide +kernel) (by decide +kernel) (by decide +kernel) (by decide +kernel) (by decide +kernel) (by decide +kernel) (by decide +kernel) (by decide +kernel) (by decide +kernel)
theorem wp_eqS {x y : Str} {S : Sto} {Q : D → Sto → Prop} {E : XQ} (q : Q (.bl (decide (x = y))) S) : Wp (eqG false (.str x) (.str y) S) Q E := by
  refine wp_eqv (eqD_str x y) ?_
  rw [Bool.false_xor]
  exact q
theorem wp_mk {ρ : Ev} {S : Sto} {Q : D → Sto → Prop} {E : XQ} {c : String} {fl : List String} {ms : MA} (h : Wp (ms ρ S) (fun ds S1 => ds.length = fl.length ∧ Q (.exc c (fl.zip ds).reverse) S1) E) : Wp (mkX c fl ms ρ S) Q E :=
  wp_bind (h.imp (fun ds S1 q => by rw [if_pos q.1]; exact wp_ok q.2) fun _ _ _ q => q)
def FK : List (String × String) := [("BadHeld", "value"), ("BadPlayer", "value"), ("BadPit", "value"), ("BadNumber", "value"), ("BadTurn", "value"), ("BadRing", "part"), ("BadEnd", "part"), ("BadBook", "part"), ("BadBoard", "part"), ("BadSum", "part"), ("BadShape", "part"), ("BadRoad", "part"), ("BadClaim", "part"), ("BadRow", "at"), ("BadLine", "word"), ("NoLap", "pit"), ("NoEnd", "at"), ("NoName", "name")]
def exV (v : D) (p : String × String) : D := .exc p.1 [(p.2, v)]
def onV (v : D) (p : String × String) : D := .tup [exV v p, .str (Str.ofString p.2)]
theorem e_field {p : String × String} (h : p ∈ FK) (v : D) (S : Sto) : F_law_field [exV v p, .str (Str.ofString p.2)] S = .ok v S := by
  simp only [FK, List.mem_cons, List.not_mem_nil, or_false] at h
  unfold exV
  rcases h with rfl | rfl | rfl | rfl | rfl | rfl | rfl | rfl | rfl | rfl | rfl | rfl | rfl | rfl | rfl | rfl | rfl | rfl
  · refine eq_of_wp (wp_dfn rfl ?_)
    (repeat k_upd)
    refine wp_eqS ?_
    rw [show decide ((("value" : String) : Str) = (("value" : String) : Str)) = true by decide +kernel]
    (repeat k_upd)
  · refine eq_of_wp (wp_dfn rfl ?_)
    (repeat k_upd)
    refine wp_eqS ?_
    rw [show decide ((("value" : String) : Str) = (("value" : String) : Str)) = true by decide +kernel]
    (repeat k_upd)
  · refine eq_of_wp (wp_dfn rfl ?_)
    (repeat k_upd)
    refine wp_eqS ?_
    rw [show decide ((("value" : String) : Str) = (("value" : String) : Str)) = true by decide +kernel]
    (repeat k_upd)
  · refine eq_of_wp (wp_dfn rfl ?_)
    (repeat k_upd)
    refine wp_eqS ?_
    rw [show decide ((("value" : String) : Str) = (("value" : String) : Str)) = true by decide +kernel]
    (repeat k_upd)
  · refine eq_of_wp (wp_dfn rfl ?_)
    (repeat k_upd)
    refine wp_eqS ?_
    rw [show decide ((("value" : String) : Str) = (("value" : String) : Str)) = true by decide +kernel]
    (repeat k_upd)
  · refine eq_of_wp (wp_dfn rfl ?_)
    (repeat k_upd)
    refine wp_eqS ?_
    rw [show decide ((("part" : String) : Str) = (("value" : String) : Str)) = false by decide +kernel]
    (repeat k_upd)
    refine wp_eqS ?_
    rw [show decide ((("part" : String) : Str) = (("part" : String) : Str)) = true by decide +kernel]
    (repeat k_upd)
  · refine eq_of_wp (wp_dfn rfl ?_)
    (repeat k_upd)
    refine wp_eqS ?_
    rw [show decide ((("part" : String) : Str) = (("value" : String) : Str)) = false by decide +kernel]
    (repeat k_upd)
    refine wp_eqS ?_
    rw [show decide ((("part" : String) : Str) = (("part" : String) : Str)) = true by decide +kernel]
    (repeat k_upd)
  · refine eq_of_wp (wp_dfn rfl ?_)
    (repeat k_upd)
    refine wp_eqS ?_
    rw [show decide ((("part" : String) : Str) = (("value" : String) : Str)) = false by decide +kernel]
    (repeat k_upd)
    refine wp_eqS ?_
    rw [show decide ((("part" : String) : Str) = (("part" : String) : Str)) = true by decide +kernel]
    (repeat k_upd)
  · refine eq_of_wp (wp_dfn rfl ?_)
    (repeat k_upd)
    refine wp_eqS ?_
    rw [show decide ((("part" : String) : Str) = (("value" : String) : Str)) = false by decide +kernel]
    (repeat k_upd)
    refine wp_eqS ?_
    rw [show decide ((("part" : String) : Str) = (("part" : String) : Str)) = true by decide +kernel]
    (repeat k_upd)
  · refine eq_of_wp (wp_dfn rfl ?_)
    (repeat k_upd)
    refine wp_eqS ?_
    rw [show decide ((("part" : String) : Str) = (("value" : String) : Str)) = false by decide +kernel]
    (repeat k_upd)
    refine wp_eqS ?_
    rw [show decide ((("part" : String) : Str) = (("part" : String) : Str)) = true by decide +kernel]
    (repeat k_upd)
  · refine eq_of_wp (wp_dfn rfl ?_)
    (repeat k_upd)
    refine wp_eqS ?_
    rw [show decide ((("part" : String) : Str) = (("value" : String) : Str)) = false by decide +kernel]
    (repeat k_upd)
    refine wp_eqS ?_
    rw [show decide ((("part" : String) : Str) = (("part" : String) : Str)) = true by decide +kernel]
    (repeat k_upd)
  · refine eq_of_wp (wp_dfn rfl ?_)
    (repeat k_upd)
    refine wp_eqS ?_
    rw [show decide ((("part" : String) : Str) = (("value" : String) : Str)) = false by decide +kernel]
    (repeat k_upd)
    refine wp_eqS ?_
    rw [show decide ((("part" : String) : Str) = (("part" : String) : Str)) = true by decide +kernel]
    (repeat k_upd)
  · refine eq_of_wp (wp_dfn rfl ?_)
    (repeat k_upd)
    refine wp_eqS ?_
    rw [show decide ((("part" : String) : Str) = (("value" : String) : Str)) = false by decide +kernel]
    (repeat k_upd)
    refine wp_eqS ?_
    rw [show decide ((("part" : String) : Str) = (("part" : String) : Str)) = true by decide +kernel]
    (repeat k_upd)
  · refine eq_of_wp (wp_dfn rfl ?_)
    (repeat k_upd)
    refine wp_eqS ?_
    rw [show decide ((("at" : String) : Str) = (("value" : String) : Str)) = false by decide +kernel]
    (repeat k_upd)
    refine wp_eqS ?_
    rw [show decide ((("at" : String) : Str) = (("part" : String) : Str)) = false by decide +kernel]
    (repeat k_upd)
    refine wp_eqS ?_
    rw [show decide ((("at" : String) : Str) = (("at" : String) : Str)) = true by decide +kernel]
    (repeat k_upd)
  · refine eq_of_wp (wp_dfn rfl ?_)
    (repeat k_upd)
    refine wp_eqS ?_
    rw [show decide ((("word" : String) : Str) = (("value" : String) : Str)) = false by decide +kernel]
    (repeat k_upd)
    refine wp_eqS ?_
    rw [show decide ((("word" : String) : Str) = (("part" : String) : Str)) = false by decide +kernel]
    (repeat k_upd)
    refine wp_eqS ?_
    rw [show decide ((("word" : String) : Str) = (("at" : String) : Str)) = false by decide +kernel]
    (repeat k_upd)
    refine wp_eqS ?_
    rw [show decide ((("word" : String) : Str) = (("word" : String) : Str)) = true by decide +kernel]
    (repeat k_upd)
  · refine eq_of_wp (wp_dfn rfl ?_)
    (repeat k_upd)
    refine wp_eqS ?_
    rw [show decide ((("pit" : String) : Str) = (("value" : String) : Str)) = false by decide +kernel]
    (repeat k_upd)
    refine wp_eqS ?_
    rw [show decide ((("pit" : String) : Str) = (("part" : String) : Str)) = false by decide +kernel]
    (repeat k_upd)
    refine wp_eqS ?_
    rw [show decide ((("pit" : String) : Str) = (("at" : String) : Str)) = false by decide +kernel]
    (repeat k_upd)
    refine wp_eqS ?_
    rw [show decide ((("pit" : String) : Str) = (("word" : String) : Str)) = false by decide +kernel]
    (repeat k_upd)
    refine wp_eqS ?_
    rw [show decide ((("pit" : String) : Str) = (("pit" : String) : Str)) = true by decide +kernel]
    (repeat k_upd)
  · refine eq_of_wp (wp_dfn rfl ?_)
    (repeat k_upd)
    refine wp_eqS ?_
    rw [show decide ((("at" : String) : Str) = (("value" : String) : Str)) = false by decide +kernel]
    (repeat k_upd)
    refine wp_eqS ?_
    rw [show decide ((("at" : String) : Str) = (("part" : String) : Str)) = false by decide +kernel]
    (repeat k_upd)
    refine wp_eqS ?_
    rw [show decide ((("at" : String) : Str) = (("at" : String) : Str)) = true by decide +kernel]
    (repeat k_upd)
  · refine eq_of_wp (wp_dfn rfl ?_)
    (repeat k_upd)
    refine wp_eqS ?_
    rw [show decide ((("name" : String) : Str) = (("value" : String) : Str)) = false by decide +kernel]
    (repeat k_upd)
    refine wp_eqS ?_
    rw [show decide ((("name" : String) : Str) = (("part" : String) : Str)) = false by decide +kernel]
    (repeat k_upd)
    refine wp_eqS ?_
    rw [show decide ((("name" : String) : Str) = (("at" : String) : Str)) = false by decide +kernel]
    (repeat k_upd)
    refine wp_eqS ?_
    rw [show decide ((("name" : String) : Str) = (("word" : String) : Str)) = false by decide +kernel]
    (repeat k_upd)
    refine wp_eqS ?_
    rw [show decide ((("name" : String) : Str) = (("pit" : String) : Str)) = false by decide +kernel]
    (repeat k_upd)
theorem e_named (v : D) (S : Sto) : F_law_named [v] S = .ok (.lst (FK.map (exV v))) S := by
  refine eq_of_wp (wp_dfn rfl ?_)
  (repeat k_upd)
  refine wp_mk ?_
  (repeat k_upd)
  refine wp_mk ?_
  (repeat k_upd)
  refine wp_mk ?_
  (repeat k_upd)
  refine wp_mk ?_
  (repeat k_upd)
  refine wp_mk ?_
  (repeat k_upd)
  refine wp_mk ?_
  (repeat k_upd)
  refine wp_mk ?_
  (repeat k_upd)
  refine wp_mk ?_
  (repeat k_upd)
  refine wp_mk ?_
  (repeat k_upd)
  refine wp_mk ?_
  (repeat k_upd)
  refine wp_eq (add_lst (Nat.le_of_ble_eq_true rfl) (Nat.le_of_ble_eq_true rfl)) ?_
  (repeat k_upd)
  refine wp_mk ?_
  (repeat k_upd)
  refine wp_mk ?_
  (repeat k_upd)
  refine wp_mk ?_
  (repeat k_upd)
  refine wp_mk ?_
  (repeat k_upd)
  refine wp_mk ?_
  (repeat k_upd)
  refine wp_eq (add_lst (Nat.le_of_ble_eq_true rfl) (Nat.le_of_ble_eq_true rfl)) ?_
  (repeat k_upd)
  refine wp_mk ?_
  (repeat k_upd)
  refine wp_mk ?_
  (repeat k_upd)
  refine wp_mk ?_
  (repeat k_upd)
  refine wp_eq (add_lst (Nat.le_of_ble_eq_true rfl) (Nat.le_of_ble_eq_true rfl)) ?_
  (repeat k_upd)
theorem e_ones (v : D) (S : Sto) : F_law_ones [v] S = .ok (.lst (FK.map (onV v))) S := by
  refine eq_of_wp (wp_dfn rfl ?_)
  (repeat k_upd)
  refine wp_mk ?_
  (repeat k_upd)
  refine wp_mk ?_
  (repeat k_upd)
  refine wp_mk ?_
  (repeat k_upd)
  refine wp_mk ?_
  (repeat k_upd)
  refine wp_mk ?_
  (repeat k_upd)
  refine wp_mk ?_
  (repeat k_upd)
  refine wp_mk ?_
  (repeat k_upd)
  refine wp_mk ?_
  (repeat k_upd)
  refine wp_eq (add_lst (Nat.le_of_ble_eq_true rfl) (Nat.le_of_ble_eq_true rfl)) ?_
  (repeat k_upd)
  refine wp_mk ?_
  (repeat k_upd)
  refine wp_mk ?_
  (repeat k_upd)
  refine wp_mk ?_
  (repeat k_upd)
  refine wp_mk ?_
  (repeat k_upd)
  refine wp_eq (add_lst (Nat.le_of_ble_eq_true rfl) (Nat.le_of_ble_eq_true rfl)) ?_
  (repeat k_upd)
  refine wp_mk ?_
  (repeat k_upd)
  refine wp_mk ?_
  (repeat k_upd)
  refine wp_mk ?_
  (repeat k_upd)
  refine wp_mk ?_
  (repeat k_upd)
  refine wp_eq (add_lst (Nat.le_of_ble_eq_true rfl) (Nat.le_of_ble_eq_true rfl)) ?_
  (repeat k_upd)
  refine wp_mk ?_
  (repeat k_upd)
  refine wp_mk ?_
  (repeat k_upd)
  refine wp_eq (add_lst (Nat.le_of_ble_eq_true rfl) (Nat.le_of_ble_eq_true rfl)) ?_
  (repeat k_upd)
end K01
set_option Elab.async false
set_option linter.all false
set_option maxRecDepth 100000
set_option maxHeartbeats 4000000
namespace K01
open PySem PV PyProof.Rows
theorem wp_rev {ρ : Ev} {S : Sto} {Q : List D → Sto → Prop} {E : XQ} {ms : MA} (h : Wp (ms ρ S) (fun ds S1 => Q ds.reverse S1) E) : Wp (revA ms ρ S) Q E :=
  wp_bind (h.imp (fun ds S1 q => wp_ok q) fun _ _ _ q => q)
theorem ne_sr (a : Str) {S : Sto} {Q : D → Sto → Prop} {E : XQ} (q : Q (.bl false) S) : Wp (eqG true (.str a) (.str a) S) Q E := by
  refine wp_eq ?_ q
  simp [eqG, eqD]
theorem ws_tryR {C : String} {fl : List String} {i : Nat} {ms : MA} {me : ME} {ρ : Ev} {S : Sto} {N : Ev → Sto → Prop} {R : D → Sto → Prop} {B Cc : Ev → Sto → Prop} {E : XQ}
    (h : Wp (ms ρ S) (fun ds S1 => ds.length = fl.length ∧ Wp (me (ρ.set i (some (.exc C (fl.zip ds).reverse))) S1) R fun _ _ _ => False) fun _ _ _ => False) : Ws (sTryR C fl i ms me ρ S) N R B Cc E := by
  obtain ⟨ds, S1, e, hl, q⟩ := Wp.of h
  obtain ⟨d, S2, e2, q2⟩ := Wp.of q
  have e3 : sTryR C fl i ms me ρ S = .ok (.rt d) S2 := by
    unfold sTryR
    rw [e]
    show (if _ then _ else _) = _
    rw [if_pos hl, e2]
    rfl
  rw [e3]
  with_unfolding_all exact q2
theorem e_caught {v : D} (hv : Sh v) (S : Sto) : F_law_caught [v] S = .ok (.bl true) S := by
  obtain ⟨z, hz⟩ := hv.r
  refine eq_of_wp (wp_dfn rfl ?_)
  (repeat k_upd)
  refine ws_tryR ?_
  (repeat k_upd)
  refine wp_mk ?_
  (repeat k_upd)
  refine wp_eq (hz _) ?_
  (repeat k_upd)
  refine wp_eq (hz _) ?_
  (repeat k_upd)
  refine wp_eqS ?_
  rw [decide_eq_true rfl]
  (repeat k_upd)
def CS : List (String × String) := [("NoPlayer", "pit"), ("OutOfTurn", "player"), ("Empty", "pit"), ("NoPlayer", "pit"), ("OutOfTurn", "player"), ("Empty", "pit")]
def kd (c : String) : D := if c = "NoPlayer" then .lst [.int 24, .int 25] else if c = "OutOfTurn" then .lst [.int 24, .int 26] else .lst [.int 24, .int 27]
theorem e_ck {p : String × String} (h : p ∈ CS) (v : D) (S : Sto) : F_law_kinds [exV v p] S = .ok (kd p.1) S := by
  simp only [CS, List.mem_cons, List.not_mem_nil, or_false] at h
  rcases h with rfl | rfl | rfl | rfl | rfl | rfl
  · exact k_NoPlayer _ S
  · exact k_OutOfTurn _ S
  · exact k_Empty _ S
  · exact k_NoPlayer _ S
  · exact k_OutOfTurn _ S
  · exact k_Empty _ S
def C4 : List String := ["Unlike", "Nothing", "NotWhole", "Cause"]
def kd4 (c : String) : D := if c = "Unlike" then .lst [.int 21] else if c = "Nothing" then .lst [.int 22] else if c = "NotWhole" then .lst [.int 23] else .lst [.int 24]
theorem e_k4 {c : String} (h : c ∈ C4) (S : Sto) : F_law_kinds [.exc c []] S = .ok (kd4 c) S := by
  simp only [C4, List.mem_cons, List.not_mem_nil, or_false] at h
  rcases h with rfl | rfl | rfl | rfl
  · exact k_Unlike _ S
  · exact k_Nothing _ S
  · exact k_NotWhole _ S
  · exact k_Cause _ S
theorem e_causes {v : D} (hv : Sh v) (S : Sto) : F_law_causes_right [v] S = .ok (.bl true) S := by
  obtain ⟨z, hz⟩ := rep_items (x := v) (xs := [v, v, v, v, v]) (fun y hy => by
    simp only [List.mem_cons, List.not_mem_nil, or_false, or_self] at hy
    rw [hy]
    exact hv) (Nat.le_of_ble_eq_true rfl)
  refine eq_of_wp (wp_dfn rfl ?_)
  (repeat k_upd)
  refine wp_mk ?_
  (repeat k_upd)
  refine wp_mk ?_
  (repeat k_upd)
  refine wp_mk ?_
  (repeat k_upd)
  refine wp_mk ?_
  (repeat k_upd)
  refine wp_mk ?_
  (repeat k_upd)
  refine wp_mk ?_
  (repeat k_upd)
  refine wp_lcU (ns := CS) (exV v) (fun p => kd p.1) (wp_eq (a := (CS.map (exV v), none)) (S := S) rfl ⟨rfl, rfl⟩) (by decide) (fun p hp => ⟨_, rfl, ?_⟩) ?_
  · (repeat k_upd)
    refine wp_eq (e_ck hp v S) ?_
    (repeat k_upd)
  (repeat k_upd)
  refine wp_eq (a := .lst [.lst [.int 24, .int 25], .lst [.int 24, .int 26], .lst [.int 24, .int 27], .lst [.int 24, .int 25], .lst [.int 24, .int 26], .lst [.int 24, .int 27]]) (S := S) rfl ?_
  (repeat k_upd)
  refine wp_eqv (e := true) (by decide +kernel) ?_
  rw [Bool.true_xor]
  (repeat k_upd)
  refine wp_eq (a := .exc "OutOfTurn" [("player", v)]) (S := S) rfl ?_
  (repeat k_upd)
  refine wp_eq (a := .exc "Empty" [("pit", v)]) (S := S) rfl ?_
  (repeat k_upd)
  refine wp_eq (hz _) ?_
  (repeat k_upd)
  refine wp_eq (a := .lst [v, v, v, v, v, v]) (S := S) rfl ?_
  (repeat k_upd)
  refine wp_eq (hz _) ?_
  (repeat k_upd)
  refine ne_sr z ?_
  (repeat k_upd)
  refine wp_lcU (ns := CS) (exV v) (fun p => .bl true) (wp_eq (a := (CS.map (exV v), none)) (S := S) rfl ⟨rfl, rfl⟩) (by decide) (fun p hp => ⟨_, rfl, ?_⟩) ?_
  · simp only [CS, List.mem_cons, List.not_mem_nil, or_false] at hp
    unfold exV
    rcases hp with rfl | rfl | rfl | rfl | rfl | rfl <;> (repeat k_upd)
  (repeat k_upd)
  refine wp_eq (a := .lst [.bl true, .bl true, .bl true, .bl true, .bl true, .bl true]) (S := S) rfl ?_
  (repeat k_upd)
  refine wp_eqv (e := true) (by decide +kernel) ?_
  rw [Bool.true_xor]
  (repeat k_upd)
  refine wp_lcU (ns := C4) (fun c => .exc c []) kd4 ?_ (by decide) (fun c hc => ⟨_, rfl, ?_⟩) ?_
  · (repeat k_upd)
    refine wp_mk ?_
    (repeat k_upd)
    refine wp_mk ?_
    (repeat k_upd)
    refine wp_mk ?_
    (repeat k_upd)
    refine wp_mk ?_
    (repeat k_upd)
    try rfl
  · (repeat k_upd)
    refine wp_eq (e_k4 hc S) ?_
    (repeat k_upd)
  (repeat k_upd)
  refine wp_eqv (e := true) (by decide +kernel) ?_
  rw [Bool.false_xor]
  exact gq_same ⟨rfl, rfl⟩
end K01
set_option Elab.async false
set_option linter.all false
set_option maxRecDepth 100000
set_option maxHeartbeats 4000000
namespace K01
open PySem PV PyProof.Rows
def twoL (v w : D) : List D := [.exc "BadText" [("word", w), ("line", v)], .exc "TooMany" [("most", w), ("what", v)], .exc "CannotMove" [("cause", w), ("at", v)]]
theorem e_two {v w : D} (hv : Sh v) (hw : Sh w) (S : Sto) : F_law_two_right [v, w] S = .ok (.bl true) S := by
  obtain ⟨z, hz⟩ := rep_items (x := v) (xs := [w, v, w, v, w]) (fun y hy => by
    simp only [List.mem_cons, List.not_mem_nil, or_false] at hy
    rcases hy with rfl | rfl | rfl | rfl | rfl | rfl <;> assumption) (Nat.le_of_ble_eq_true rfl)
  refine eq_of_wp (wp_dfn rfl ?_)
  (repeat k_upd)
  refine wp_mk ?_
  (repeat k_upd)
  refine wp_mk ?_
  (repeat k_upd)
  refine wp_mk ?_
  (repeat k_upd)
  refine wp_mk (wp_rev ?_)
  (repeat k_upd)
  refine wp_mk (wp_rev ?_)
  (repeat k_upd)
  refine wp_mk (wp_rev ?_)
  (repeat k_upd)
  refine ws_for (fun j ρ S' => S' = S ∧ ∃ x4 x5 x6, ρ = [some v, some w, some (.lst (twoL v w)), some (.lst (twoL v w)), x4, x5, x6]) (wp_eq (a := ([.lst (twoL v w), .lst (twoL v w)], none)) (S := S) rfl ?_)
  refine ⟨fun _ _ _ _ => trivial, ⟨rfl, _, _, _, rfl⟩, ?_, ?_⟩
  · rintro j z2 hz2 ρ S' ⟨e1, x4, x5, x6, rfl⟩
    rw [e1]
    have e2 : z2 = .lst (twoL v w) := by
      have := List.mem_of_getElem? hz2
      simp only [List.mem_cons, List.not_mem_nil, or_false, or_self] at this
      exact this
    rw [e2]
    unfold twoL
    refine ⟨_, rfl, ?_⟩
    (repeat k_upd)
    refine wp_eq (hz _) ?_
    (repeat k_upd)
    refine wp_eq (a := .lst [v, w, v, w, v, w]) (S := S) rfl ?_
    (repeat k_upd)
    refine wp_eq (hz _) ?_
    (repeat k_upd)
    refine ne_sr z ?_
    (repeat k_upd)
    refine wp_eq (k_BadText _ S) ?_
    (repeat k_upd)
    refine wp_eq (k_TooMany _ S) ?_
    (repeat k_upd)
    refine wp_eq (k_CannotMove _ S) ?_
    (repeat k_upd)
    refine wp_eqv (e := true) (by decide +kernel) ?_
    rw [Bool.true_xor]
    (repeat k_upd)
    exact ⟨_, _, _, rfl⟩
  · rintro ρ S' ⟨e1, x4, x5, x6, rfl⟩
    rw [e1]
    (repeat k_upd)
end K01
set_option Elab.async false
set_option linter.all false
set_option maxRecDepth 100000
set_option maxHeartbeats 4000000
namespace K01
open PySem PV PyProof.Rows
theorem e_kdi (v : D) (S : Sto) : ∀ (i : Nat) (p : String × String), FK[i]? = some p → F_law_kinds [exV v p] S = .ok (.lst [.int (i : Nat)]) S
  | 0, _, h => by cases h; exact k_BadHeld _ S
  | 1, _, h => by cases h; exact k_BadPlayer _ S
  | 2, _, h => by cases h; exact k_BadPit _ S
  | 3, _, h => by cases h; exact k_BadNumber _ S
  | 4, _, h => by cases h; exact k_BadTurn _ S
  | 5, _, h => by cases h; exact k_BadRing _ S
  | 6, _, h => by cases h; exact k_BadEnd _ S
  | 7, _, h => by cases h; exact k_BadBook _ S
  | 8, _, h => by cases h; exact k_BadBoard _ S
  | 9, _, h => by cases h; exact k_BadSum _ S
  | 10, _, h => by cases h; exact k_BadShape _ S
  | 11, _, h => by cases h; exact k_BadRoad _ S
  | 12, _, h => by cases h; exact k_BadClaim _ S
  | 13, _, h => by cases h; exact k_BadRow _ S
  | 14, _, h => by cases h; exact k_BadLine _ S
  | 15, _, h => by cases h; exact k_NoLap _ S
  | 16, _, h => by cases h; exact k_NoEnd _ S
  | 17, _, h => by cases h; exact k_NoName _ S
  | n + 18, _, h => by
    have := (List.getElem?_eq_some_iff.mp h).1
    exact absurd this (by show ¬ (n + 18 < 18); omega)
theorem pick_map {α : Type} {g : α → D} {ns : List α} {i : Nat} {x : D} (h : (ns.map g)[i]? = some x) : ∃ n, ns[i]? = some n ∧ x = g n := by
  rw [List.getElem?_map] at h
  obtain ⟨n, h1, h2⟩ := Option.map_eq_some_iff.mp h
  exact ⟨n, h1, h2.symm⟩
theorem e_law {cs : List Int} (h : cs.length ≤ 63) : ∃ S', F_law [.src (cs.map .int)] [] = .ok (.bl true) S' := by
  refine law_of (wp_dfn rfl ?_)
  (repeat k_upd)
  refine w_bag h fun S1 p1 hl => ?_
  (repeat k_upd)
  refine ws_for (fun j ρ S' => Bag S' 0 ∧ ∃ x2 x3 x4 x5 x6 x7 x8 x9, ρ = [some (.src (cs.map .int)), some (.loc 0), x2, x3, x4, x5, x6, x7, x8, x9]) (wp_eq (a := (ups 0 4, none)) rfl ?_)
  refine ⟨fun _ _ _ _ => trivial, ⟨p1, _, _, _, _, _, _, _, _, rfl⟩, ?_, ?_⟩
  · rintro j z hz ρ S0 ⟨hp, x2, x3, x4, x5, x6, x7, x8, x9, rfl⟩
    obtain ⟨rfl, hj2⟩ := ups_at (n := 4) hz
    refine ⟨_, rfl, ?_⟩
    (repeat k_upd)
    refine w_value hp fun v S2 hv s2 p2 => ?_
    (repeat k_upd)
    refine w_value p2 fun w S hw s3 p3 => ?_
    obtain ⟨z0, hz0⟩ := hv.r
    (repeat k_upd)
    refine wp_eq (e_named v S) ?_
    (repeat k_upd)
    refine ws_for (fun i ρ S' => S' = S ∧ ∃ x6 x7, ρ = [some (.src (cs.map .int)), some (.loc 0), some (.int (0 + (j : Int))), some v, some w, some (.lst (FK.map (exV v))), x6, x7, x8, x9]) ?_
    (repeat k_upd)
    refine wp_eq (e_ones v S) ?_
    (repeat k_upd)
    have en := numbered_map (onV v) FK 0
    rw [show numbered 0 (FK.map (onV v)) = (FK.zipIdx).map fun p => D.tup [.int (p.2 : Nat), onV v p.1] from en]
    refine ⟨fun _ _ _ _ => trivial, ⟨_, _, rfl⟩, ?_, ?_⟩
    · rintro i y hy ρ S' ⟨e1, x6, x7, rfl⟩
      rw [e1]
      obtain ⟨q, hq, rfl⟩ := pick_map hy
      rw [List.getElem?_zipIdx] at hq
      obtain ⟨p, hpp, rfl⟩ := Option.map_eq_some_iff.mp hq
      have hpm := List.mem_of_getElem? hpp
      refine ⟨_, rfl, ?_⟩
      unfold onV
      (repeat k_upd)
      refine wp_eq (e_field hpm v S) ?_
      (repeat k_upd)
      refine wp_eq (hz0 _) ?_
      (repeat k_upd)
      refine wp_eq (hz0 _) ?_
      (repeat k_upd)
      refine ne_sr z0 ?_
      (repeat k_upd)
      refine wp_eq (e_kdi v S i p hpp) ?_
      (repeat k_upd)
      rw [Nat.zero_add]
      refine wp_eqv (e := true) ((eqD_lints [(i : Int)] [(i : Int)]).trans (by simp)) ?_
      rw [Bool.true_xor]
      (repeat k_upd)
      exact ⟨_, _, rfl⟩
    rintro ρ S' ⟨e1, x6, x7, rfl⟩
    rw [e1]
    (repeat k_upd)
    refine ws_for (fun i ρ S' => S' = S ∧ ∃ x8, ρ = [some (.src (cs.map .int)), some (.loc 0), some (.int (0 + (j : Int))), some v, some w, some (.lst (FK.map (exV v))), x6, x7, x8, x9]) ?_
    (repeat k_upd)
    refine wp_mk ?_
    (repeat k_upd)
    refine wp_mk ?_
    (repeat k_upd)
    refine wp_mk ?_
    (repeat k_upd)
    refine wp_mk ?_
    (repeat k_upd)
    refine wp_eq (add_lst (Nat.le_of_ble_eq_true rfl) (Nat.le_of_ble_eq_true rfl)) ?_
    (repeat k_upd)
    refine ⟨fun _ _ _ _ => trivial, ⟨_, rfl⟩, ?_, ?_⟩
    · rintro i y hy ρ S' ⟨e1, x8, rfl⟩
      rw [e1]
      have hm : y ∈ FK.map (exV v) ++ [.exc "Unlike" [], .exc "Nothing" [], .exc "NotWhole" [], .exc "Cause" []] := List.mem_of_getElem? hy
      simp only [FK, List.map_cons, List.map_nil, List.cons_append, List.nil_append, exV, List.mem_cons, List.not_mem_nil, or_false] at hm
      rcases hm with rfl | rfl | rfl | rfl | rfl | rfl | rfl | rfl | rfl | rfl | rfl | rfl | rfl | rfl | rfl | rfl | rfl | rfl | rfl | rfl | rfl | rfl <;> (refine ⟨_, rfl, ?_⟩; (repeat k_upd); exact ⟨_, rfl⟩)
    rintro ρ S' ⟨e1, x8, rfl⟩
    rw [e1]
    (repeat k_upd)
    refine wp_lcE (wp_lcO (fun i acc S' => S' = S ∧ acc = List.replicate i v) ?_)
    (repeat k_upd)
    refine wp_eq (e_ones (.int 0) S) ?_
    (repeat k_upd)
    rw [show zipD (FK.map (exV v)) (FK.map (onV (.int 0))) = FK.map (fun p => D.tup [exV v p, onV (.int 0) p]) from rfl]
    refine ⟨by rw [List.length_map]; decide, fun _ _ _ _ => trivial, ?_, ?_⟩
    · rintro i y hy acc S' ⟨e1, rfl⟩
      rw [e1]
      obtain ⟨p, hpp, rfl⟩ := pick_map hy
      have hpm := List.mem_of_getElem? hpp
      refine ⟨_, rfl, wp_ok ⟨fun _ => ?_, fun c => by cases c⟩⟩
      unfold onV
      (repeat k_upd)
      refine wp_eq (e_field hpm v S) ?_
      exact ⟨rfl, List.replicate_succ'.symm⟩
    rintro ds S' ⟨e1, e2⟩
    rw [e1, e2]
    obtain ⟨zz, hzz⟩ := rep_items (x := v) (xs := List.replicate 17 v) (fun y hy => by
      have : y = v := by
        rcases List.mem_cons.mp hy with e | e
        · exact e
        · exact List.eq_of_mem_replicate e
      rw [this]
      exact hv) (by rw [List.length_replicate]; decide)
    rw [show List.replicate (FK.map (fun p => D.tup [exV v p, onV (.int 0) p])).length v = v :: List.replicate 17 v from rfl]
    obtain ⟨L, hL⟩ : ∃ L, L = v :: List.replicate 17 v := ⟨_, rfl⟩
    rw [← hL] at hzz ⊢
    (repeat k_upd)
    rw [show ((FK.map (exV v)).length : Int) = 18 from rfl, decide_eq_true rfl]
    (repeat k_upd)
    refine wp_eq (hzz _) ?_
    (repeat k_upd)
    refine wp_eq (a := .lst L) (S := S) (by rw [hL]; rfl) ?_
    (repeat k_upd)
    refine wp_eq (hzz _) ?_
    (repeat k_upd)
    refine ne_sr zz ?_
    (repeat k_upd)
    refine wp_eq (e_two hv hw S) ?_
    (repeat k_upd)
    refine wp_eq (e_causes hv S) ?_
    (repeat k_upd)
    refine wp_eq (e_caught hw S) ?_
    (repeat k_upd)
    exact ⟨p3, _, _, _, _, _, _, _, _, rfl⟩
  · rintro ρ S0 ⟨hp, x2, x3, x4, x5, x6, x7, x8, x9, rfl⟩
    (repeat k_upd)
    exact gq_nil rfl rfl
end K01
open PySem PySem.W PySem.Calls PyProof.Rows
set_option maxRecDepth 100000
set_option maxHeartbeats 0
theorem PySem.Challenge.cw_lapseeds_k01_errors_holds : PySem.Challenge.rw_lapseeds_k01_errors.Holds := by
  refine K01.pre fun said => ?_
  refine HX.head_seg (r := OpenLaw.row PySem.Challenge.rw_lapseeds_k01_errors) (q := view (OpenLaw.row PySem.Challenge.rw_lapseeds_k01_errors).prog [42]) (H := K01.hkF) (ob := ZH.obF K01H.as0) (loose := K01.loose) (d := HandSHeadRun.topDef (OpenLaw.row PySem.Challenge.rw_lapseeds_k01_errors).prog 42) (kwd := []) (F := K01H.S3) ZH.obF_eq
    K01.pre0 (fun s => by kernel_rfl) K01H.run K01.l1 K01.l2 K01H.l3 (by kernel_rfl) (by kernel_rfl) (by kernel_rfl) (by rfl) (by first | assumption | decide +kernel) (by decide +kernel) K01.preB ?hw ?hc
  case hw => w_witness2
  case hc =>
    refine ZL.walk_ofT (l := PySem.Challenge.rw_lapseeds_k01_errors) (n := 63) (k := 4) rfl (by decide) (by kernel_rfl) ⟨rfl, by decide, by decide⟩ ?F
    intro w mg fa h Y G hmg0
    obtain ⟨Ka, Xa, c⟩ := Y
    have hmg : mg ("law" : PySem.Str) = some (.ref fa) := by
      have e : (HandSHeadRun.topDef (OpenLaw.row PySem.Challenge.rw_lapseeds_k01_errors).prog 42).name = ("law" : PySem.Str) := by kernel_rfl
      rw [← e]
      exact hmg0
    have c : ZH.SaysL K01.lams K01.chk K01.fn Ka := c
    have KX : (ZH.dropT K01.lams Ka).In h := ZH.dropT_in Xa
    have T := K01.tx KX G c.z
    have efa : fa = He.ga (ZH.dropT K01.lams Ka) "law" := by
      have z := T.glo "law" (by decide +kernel)
      rw [hmg] at z
      exact Value.ref.inj (Option.some.inj z)
    subst efa
    exact ⟨ZH.dropT K01.lams Ka, PV.csOf (ZH.dropT K01.lams Ka) K01.lams, PV.spEnd (ZH.dropT K01.lams Ka) K01.F_law, KX, PV.csOf_all KX Xa c.t,
      fun H a ns hl hH hS => (K01.e_law hl).elim fun S' e => PV.end_atT hS (PV.csOf_told c.t hH) e, fun base _ _ hB => PV.end_of (K01.w_law T)⟩
