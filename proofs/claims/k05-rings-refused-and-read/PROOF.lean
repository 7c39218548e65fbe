import PyProof.Rows.All
import Wide.All
import OpenK.AllK
import Wide.FinOn
import KE.KStateDown
import KE.DataCmp
import Lean
import HandS.ForMost
import HandS.Exc
import HandS.Defaults
import HandS.Star
import HandS.ClsMeth
import HandS.IsInst
import HandS.TupAny
import HandS.Style
import HandS.OwnEq
import HandS.Head0
import HandS.Head1
import HandS.Head2
import HandS.HeadEnd
import HandS.HeadHook1
import HandS.HeadHook2
import HandS.HeadNt
import KE.GoesEnum
import KE.KFmtOwn
import HandS.Walk
import HandS.Codes
import HandS.Lambda
import HandS.ExcValue
import HandS.WordsExc
import HandS.Wide
import HandS.Text
import HandS.Deep
import KE.KOpsOwn
import KE.KCallOwn
import HandS.SortInts
import HandS.Comp
import HandS.Iter
import PyProof.ListMulAny
import HandS.More
import HandS.TupMul
import HandS.RaiseMore
import HandS.Zip
import KE.GoesZip
import HandS.MakeKwOnly
import HandS.Strs
import HandS.HeadHook3
import HandS.FStr
import HandS.Replace
import HandS.Dict
import HandS.ExcInit
import KE.KExcIs
import HandS.ExcOwn
import HandS.EndTab
import KE.KNestM
import PyProof.FactsAll.int_2
import PyProof.FactsAll.int_3
import PySem.Challenge.RW_lapseeds_k05_rings_refused_and_read
import PyProof.StrLawsIn
import PyProof.Rows.StrLawsPart
import PyProof.P3Eq
import PyProof.Rows.StrCountLaw
import PyProof.Rows.StrCase
import Wide.Once
set_option Elab.async false
set_option linter.all false
set_option maxRecDepth 100000
set_option maxHeartbeats 4000000
/-! My own small layer over HandS: a head's Hook by any Bool; defs called where no repr is running; own operators; data by repr and order. -/
namespace ZH
open PySem PySem.W L2
def obsZ (chk : Frag → Bool) (fn : List He5.DefA) (K : Frag) : He.AlD := (chk K && fn.all fun d => d.ok K, fn.map fun d => He5.fnA K (d.at_ K))
def SaysZ (chk : Frag → Bool) (fn : List He5.DefA) (K : Frag) : Prop := obsZ chk fn K = He5.valA fn
def obsZG (n : Nat) (chk : Frag → Bool) (fn : List He5.DefA) (g : Addr → Option Obj) : He.AlD := obsZ chk fn (He.frG g (He5.asA g n))
def hookZ (n : Nat) (chk : Frag → Bool) (fn : List He5.DefA) : PySem.W.Hook where
  α := He.AlD
  obs := fun s => obsZG n chk fn s.heap.get?
  val := fun _ => He5.valA fn
  says := fun _ h => ∃ K : Frag, K.In h ∧ SaysZ chk fn K
  of := fun _ _ e => ⟨_, He.frG_in, e⟩
  keeps := fun _ _ _ z k => z.elim fun K q => ⟨K, Frag.In.keeps q.1 k, q.2⟩
theorem obsZG_eq {n : Nat} {chk : Frag → Bool} {fn : List He5.DefA} {g : Addr → Option Obj} {s : Shared} (h : ∀ a, g a = s.heap.get? a) : obsZG n chk fn g = (hookZ n chk fn).obs s := by
  rw [show g = s.heap.get? from funext h] <;> rfl
section
variable {chk : Frag → Bool} {fn : List He5.DefA} {K : Frag}
theorem SaysZ.two (c : SaysZ chk fn K) : chk K = true ∧ (fn.all fun d => d.ok K) = true := He.ba (show (chk K && fn.all fun d => d.ok K) = true from congrArg (fun z : He.AlD => z.1) c)
theorem SaysZ.fact (c : SaysZ chk fn K) : chk K = true := c.two.1
theorem SaysZ.def_ (c : SaysZ chk fn K) (i : Nat) {d : He5.DefA} (h : fn[i]? = some d := by rfl) : ∃ fd, L2.FunD K d.name d.qual d.params d.body d.scope (d.dvs K) (d.kws K) (d.at_ K) fd := by
  have e := congrArg (fun z : He.AlD => z.2[i]?) c
  have e' : (fn.map fun d => He5.fnA K (d.at_ K))[i]? = (fn.map He5.DefA.val)[i]? := e
  rw [List.getElem?_map, List.getElem?_map, h] at e'
  exact He5.DefA.funD (Option.some.inj e') (List.all_eq_true.mp c.two.2 d (List.mem_of_getElem? h))
end
end ZH
namespace ZL
open PySem PySem.Spec PyProof.Rows L2
/-! ### defs that are called where no repr is running -/
structure FnG (P : Program) (w : World) (K : PySem.W.Frag) (mg : Str → Option Value) (base : Heap) (CX : CXT) (k : Nat) (f : Addr) (fd : FuncData) (ps : List Str) (sp : Sp) : Prop where
  len : ∀ vs H Q E, sp vs H Q E → vs.length = ps.length
  run : ∀ (A : Around) (outer : List Env) (s : Shared) (H : Hp) (args : Args) (us : List Value) (vs : List V) (Q : VK) (E : XK), A.guards = some [] → Room k A → Env0 P w K mg base A outer s H → BindsTo s fd args (ps.zip us) → Vals vs us →
    sp vs H Q E → codeAny (model P w) A (.call (.ref f) args) (CR CX outer P w H s Q E) s
section
variable {P : Program} {w : World} {K : PySem.W.Frag} {mg : Str → Option Value} {base : Heap} {x qual : Str} {params : Arguments} {body : List Stmt} {scope : Scope} {dvs : List V} {kws : List (Str × V)} {f : Addr} {fd : FuncData} {CX : CXT} {N ps : List Str} {j k : Nat} {sp : Sp}
theorem FnG.of (F : FnOk P w K mg base CX k f fd ps sp) : FnG P w K mg base CX k f fd ps sp := ⟨F.len, fun A outer s H args us vs Q E _ hr e0 hb r h => F.run A outer s H args us vs Q E hr e0 hb r h⟩
theorem FnG.mono (F : FnG P w K mg base CX j f fd ps sp) (h : j ≤ k) : FnG P w K mg base CX k f fd ps sp := ⟨F.len, fun A outer s H args us vs Q E hg hr => F.run A outer s H args us vs Q E hg (hr.mono h)⟩
/-- a def's promise by its body, where no repr is running -/
theorem okG (F : FunD K x qual params body scope dvs kws f fd) (S : FnScope N ps scope) (len : ∀ vs H Q E, sp vs H Q E → vs.length = ps.length)
    (hbody : ∀ (cdv : Value) (A : Around) (outer : List Env) (s : Shared) (H : Hp) (vs : List V) (Q : VK) (E : XK), A.guards = some [] → Room k (A.deeper (envOfC qual scope s.heap.objs.size f cdv)) → sp vs H Q E →
      ∃ t, PSs (cxOf CX P w K mg base N qual scope f cdv A outer s H E) body t ∧ t { nx := fun _ H' => Q .non H', rt := Q } (start N vs) H) : FnG P w K mg base CX (k + 1) f fd ps sp := by
  obtain ⟨oc, od, dV, kV, doc, pm, an, cdv, ct, osl, rfl, lk, hcd, -, -⟩ := F.ex
  refine ⟨len, fun A outer s H args us vs Q E hg hr e0 hb r h => ?_⟩
  refine StX.run_bnd lk hcd S hr e0 (G := fun xs H2 => xs = vs ∧ H2 = H) (fun A' Ex Q' q => hb _ _ _ _ (q s H vs us e0 Un.refl rfl (fun _ _ z => z) r (len _ _ _ _ h) ⟨rfl, rfl⟩)) fun s2 H2 xs e hr' => ?_
  rw [e.1, e.2]
  exact hbody cdv A outer s2 H vs Q E hg hr' h
end
section
variable {X : Cx} {CX : CXT} {k : Nat} {f C : Addr} {fd : FuncData} {ps : List Str} {sp : Sp} {dvs : List V} {ds : List Value} {E : XK} {x m : Str} {p pos apos : Pos} {e o : Expr} {es : List Expr} {ta : TE} {t : TA}
theorem run_fnG {pins : List (Addr × Obj)} {σ : L2.St} {H : Hp} {s : Shared} {Q : VK} {us : List Value} {vs : List V} (F : FnG X.prog X.w X.K X.mg X.base CX k f fd ps sp) (hgd : X.A.guards = some []) (hr : Room k X.A) (hb : Binds X.K fd ps ds) (hd : Vals dvs ds) (hx : Passes CX X E)
    (I : Inv X pins σ H s) (r : Vals vs us) (h : sp (vs ++ dvs) H Q E) : wpAny (model X.prog X.w) X.A (call (.ref f) us) (EP X pins σ Q) X.xe s := by
  have r2 : Vals (vs ++ dvs) (us ++ ds) := r.append hd
  have hl : (us ++ ds).length = ps.length := r2.length ▸ F.len _ _ _ _ h
  refine wpAny_call (codeAny_mono (F.run X.A X.stack s H ⟨us, []⟩ (us ++ ds) (vs ++ dvs) Q E hgd hr I.env0 (hb s us I.kIn hl) r2 h) fun z s' hq => ?_)
  match z, hq with
  | .error e, hq => exact hx pins σ H s e s' I hq
  | .ok (.ret u), hq => exact I.after hq
  | .ok .next, hq => exact False.elim hq
  | .ok .brk, hq => exact False.elim hq
  | .ok .cont, hq => exact False.elim hq
/-- f(e, ..) of such a def -/
theorem pe_callG (F : FnG X.prog X.w X.K X.mg X.base CX k f fd ps sp) (hgd : X.A.guards = some []) (hr : Room k X.A) (hg : Gl X x) (hm : X.mg x = some (.ref f)) (hk : PySem.W.keepIn X.K (.ref f) = true) (hb : Binds X.K fd ps ds) (hd : Vals dvs ds) (hx : Passes CX X E)
    (ha : PA X (e :: es) t) (hdb : (x == ("__debug__" : Str)) = false := by decide) (he : starEach (e :: es) X.env = (false, eval e X.env) :: starEach es X.env := by rfl) (hpl : (backTo pos (starEach es X.env)).any (·.1) = false := by rfl) :
    PE X (.Call (.Name x p) (e :: es) [] pos) (tCall sp dvs E t) :=
  ⟨fun pins s σ H Q I h => wpAny_Call_Name_kw (ld_glob I hg hm (PySem.W.callWith_K (h₀ := X.base) I.ok.mod.kin hk (thn (ha.run pos pins s σ H _ I h) fun us s1 z => by
    obtain ⟨vs, H1, I1, r, q⟩ := z
    exact ⟨I1.kIn, run_fnG F hgd hr hb hd hx I1 r q⟩) he hpl) hdb)⟩
end
/-! ### a callee run from anywhere below a body -/
section
variable {X : Cx} {CX : CXT} {k : Nat} {f C g : Addr} {sp : Sp} {E : XK} {pins : List (Addr × Obj)} {σ : L2.St} {H : Hp} {s : Shared}
theorem run_at {A : Around} {Q : VK} {us : List Value} {vs : List V} (F : FnR X.prog X.w X.K X.mg X.base CX k f sp) (hr : Room k A) (hf : A.frames = X.A.frames) (hx : Passes CX X E) (I : Inv X pins σ H s) (r : Vals vs us) (h : sp vs H Q E) :
    wpAny (model X.prog X.w) A (call (.ref f) us) (EP X pins σ Q) X.xe s := by
  have e0 : Env0 X.prog X.w X.K X.mg X.base A X.stack s H := { I.env0 with frames := hf.trans I.env0.frames }
  refine wpAny_call (codeAny_mono (F A X.stack s H us vs Q E hr e0 r h) fun z s' hq => ?_)
  match z, hq with
  | .error e, hq => exact hx pins σ H s e s' I hq
  | .ok (.ret u), hq => exact I.after hq
  | .ok .next, hq => exact False.elim hq
  | .ok .brk, hq => exact False.elim hq
  | .ok .cont, hq => exact False.elim hq
theorem inst_at {a dx : Addr} {fs : List (Str × V)} (I : Inv X pins σ H s) (h : H a = some (.ins C dx fs)) : ∃ od, PySem.W.InstAt s.heap a (PySem.W.instObj C dx) C (some od) := by
  obtain ⟨mA, O, -⟩ := ins_get I.hok h
  obtain ⟨od, J, -⟩ := O.look
  exact ⟨od, J⟩
/-- a special method of a class of the text -/
structure Own (K : PySem.W.Frag) (C : Addr) (m : Str) (f : Addr) : Prop where
  at_ : PySem.W.findIn K (.ref C) m = some (some (.ref f))
  fn : PySem.W.isFn K (.ref f) = true
theorem Own.of {K : PySem.W.Frag} {m : Str} (h : Meth K C m f) : Own K C m f := ⟨h.at_, h.fn⟩
/-! ### own operators -/
/-- -x, ~x -/
def rOwn1 (C : Addr) (sp : Sp) (E : XK) : V → Hp → VK → Prop := fun x H Q => ∃ a dx fs, x = .ref a ∧ H a = some (.ins C dx fs) ∧ sp [x] H Q E
theorem un_negO (o : Own X.K C "__neg__" f) (F : FnR X.prog X.w X.K X.mg X.base CX k f sp) (hr : Room k X.A) (hx : Passes CX X E) : UnR X (unaryOp .USub) (rOwn1 C sp E) := by
  intro pins s σ H x u Q I rx h
  obtain ⟨a, dx, fs, rfl, ha, q⟩ := h
  cases rx
  obtain ⟨od, J⟩ := inst_at I ha
  obtain ⟨m, hF⟩ := I.fr
  exact PySem.W.ksp_neg hF I.ok.mod.kin J o.at_ o.fn (run_at (vs := [.ref a]) F hr rfl hx I (.cons rfl .nil) q)
theorem un_invO (o : Own X.K C "__invert__" f) (F : FnR X.prog X.w X.K X.mg X.base CX k f sp) (hr : Room k X.A) (hx : Passes CX X E) : UnR X (unaryOp .Invert) (rOwn1 C sp E) := by
  intro pins s σ H x u Q I rx h
  obtain ⟨a, dx, fs, rfl, ha, q⟩ := h
  cases rx
  obtain ⟨od, J⟩ := inst_at I ha
  obtain ⟨m, hF⟩ := I.fr
  exact PySem.W.ksp_inv hF I.ok.mod.kin J o.at_ o.fn (run_at (vs := [.ref a]) F hr rfl hx I (.cons rfl .nil) q)
/-- what an own comparison hands back -/
theorem cmpBack_bl {Q : VK} {u : Value} {s' : Shared} (h : EP X pins σ (fun v H' => (∃ b, v = .bl b) ∧ Q v H') u s') : PySem.W.CmpBack (EP X pins σ Q) u s' := by
  obtain ⟨v, H', I', r, ⟨b, rfl⟩, q⟩ := h
  cases r
  exact ⟨.bl b, H', I', rfl, q⟩
/-- x op y, x and y instances of the class at C -/
def rOwn2 (C : Addr) (sp : Sp) (E : XK) : R2 := fun x y H Q => ∃ a b dx dy fs gs, x = .ref a ∧ y = .ref b ∧ H a = some (.ins C dx fs) ∧ H b = some (.ins C dy gs) ∧ sp [x, y] H (fun v H' => (∃ b, v = .bl b) ∧ Q v H') E
theorem rc_own {op : CmpOp} {Q : VK} {a b dx dy : Addr} {fs gs : List (Str × V)} (o : Own X.K C (cmpInfo op).2.1 f) (F : FnR X.prog X.w X.K X.mg X.base CX k f sp) (hr : Room k X.A) (hx : Passes CX X E) (I : Inv X pins σ H s) (ha : H a = some (.ins C dx fs)) (hb : H b = some (.ins C dy gs))
    (q : sp [.ref a, .ref b] H (fun v H' => (∃ b, v = .bl b) ∧ Q v H') E) : wpAny (model X.prog X.w) X.A (richCompare op (.ref a) (.ref b)) (EP X pins σ Q) X.xe s := by
  obtain ⟨od, J⟩ := inst_at I ha
  obtain ⟨od', J'⟩ := inst_at I hb
  obtain ⟨m, hF⟩ := I.fr
  exact PySem.W.cmp_K hr.units0 hF I.ok.mod.kin J J'.type (by simp [PySem.W.notFirst]) o.at_ o.fn (thn (run_at (vs := [.ref a, .ref b]) F hr rfl hx I (.cons rfl (.cons rfl .nil)) q) fun u s' z => cmpBack_bl z)
theorem op_ltO (o : Own X.K C "__lt__" f) (F : FnR X.prog X.w X.K X.mg X.base CX k f sp) (hr : Room k X.A) (hx : Passes CX X E) : OpR X (compareOp .Lt) (rOwn2 C sp E) := by
  rintro pins s σ H x y v u Q I rx ry ⟨a, b, dx, dy, fs, gs, rfl, rfl, ha, hb, q⟩
  cases rx
  cases ry
  exact rc_own (op := .Lt) o F hr hx I ha hb q
theorem op_leO (o : Own X.K C "__le__" f) (F : FnR X.prog X.w X.K X.mg X.base CX k f sp) (hr : Room k X.A) (hx : Passes CX X E) : OpR X (compareOp .LtE) (rOwn2 C sp E) := by
  rintro pins s σ H x y v u Q I rx ry ⟨a, b, dx, dy, fs, gs, rfl, rfl, ha, hb, q⟩
  cases rx
  cases ry
  exact rc_own (op := .LtE) o F hr hx I ha hb q
theorem op_gtO (o : Own X.K C "__gt__" f) (F : FnR X.prog X.w X.K X.mg X.base CX k f sp) (hr : Room k X.A) (hx : Passes CX X E) : OpR X (compareOp .Gt) (rOwn2 C sp E) := by
  rintro pins s σ H x y v u Q I rx ry ⟨a, b, dx, dy, fs, gs, rfl, rfl, ha, hb, q⟩
  cases rx
  cases ry
  exact rc_own (op := .Gt) o F hr hx I ha hb q
theorem op_geO (o : Own X.K C "__ge__" f) (F : FnR X.prog X.w X.K X.mg X.base CX k f sp) (hr : Room k X.A) (hx : Passes CX X E) : OpR X (compareOp .GtE) (rOwn2 C sp E) := by
  rintro pins s σ H x y v u Q I rx ry ⟨a, b, dx, dy, fs, gs, rfl, rfl, ha, hb, q⟩
  cases rx
  cases ry
  exact rc_own (op := .GtE) o F hr hx I ha hb q
theorem op_eqO (o : Own X.K C "__eq__" f) (F : FnR X.prog X.w X.K X.mg X.base CX k f sp) (hr : Room k X.A) (hx : Passes CX X E) : OpR X (compareOp .Eq) (rOwn2 C sp E) := by
  rintro pins s σ H x y v u Q I rx ry ⟨a, b, dx, dy, fs, gs, rfl, rfl, ha, hb, q⟩
  cases rx
  cases ry
  exact rc_own (op := .Eq) o F hr hx I ha hb q
end
/-! ### order of data -/
section
open PySem.W (alike dataLt lt_data le_data)
variable {X : Cx}
def rLtD (K : PySem.W.Frag) : R2 := fun x y H Q => ∃ d e, Dp K H x d ∧ Dp K H y e ∧ alike d e = true ∧ d ≠ .none ∧ d.depth ≤ 60 ∧ Q (.bl (dataLt d e)) H
def rGtD (K : PySem.W.Frag) : R2 := fun x y H Q => ∃ d e, Dp K H x d ∧ Dp K H y e ∧ alike d e = true ∧ d ≠ .none ∧ d.depth ≤ 60 ∧ Q (.bl (dataLt e d)) H
def rLeD (K : PySem.W.Frag) : R2 := fun x y H Q => ∃ d e, Dp K H x d ∧ Dp K H y e ∧ alike d e = true ∧ d ≠ .none ∧ d.depth ≤ 60 ∧ Q (.bl (!dataLt e d)) H
def rGeD (K : PySem.W.Frag) : R2 := fun x y H Q => ∃ d e, Dp K H x d ∧ Dp K H y e ∧ alike d e = true ∧ d ≠ .none ∧ d.depth ≤ 60 ∧ Q (.bl (!dataLt d e)) H
theorem op_ltD (hu : X.A.units + 64 < cLine) : OpR X (compareOp .Lt) (rLtD X.K) := by
  rintro pins s σ H x y v u Q I rx ry ⟨d, e, hd, he, al, nn, dp, q⟩
  obtain ⟨as, r1⟩ := Dp.reads I d x v hd rx
  obtain ⟨bs, r2⟩ := Dp.reads I e y u he ry
  exact lt_data r1 r2 al nn (by omega) ⟨.bl _, H, I, rfl, q⟩
theorem op_leD (hu : X.A.units + 64 < cLine) : OpR X (compareOp .LtE) (rLeD X.K) := by
  rintro pins s σ H x y v u Q I rx ry ⟨d, e, hd, he, al, nn, dp, q⟩
  obtain ⟨as, r1⟩ := Dp.reads I d x v hd rx
  obtain ⟨bs, r2⟩ := Dp.reads I e y u he ry
  exact le_data r1 r2 al nn (by omega) ⟨.bl _, H, I, rfl, q⟩
/-! ### repr of data -/
def rReprD (K : PySem.W.Frag) : List V → Hp → VK → Prop := fun xs H Q => ∃ (a : Addr) (d : PyData), xs = [.ref a] ∧ Dp K H (.ref a) d ∧ d.showable = true ∧ d.hasDict = false ∧ d.depth ≤ 60 ∧ d.shown.length ≤ sizeLine ∧ Q (.str d.shown) H
theorem call_reprD (hg : X.A.guards = some []) (hu : X.A.units + 64 < cLine) : CallR X (.builtin "repr") (rReprD X.K) := by
  rintro pins s σ H xs us Q I r ⟨a, d, rfl, hd, hs, nd, dp, hz, q⟩
  match us, r with
  | [u], .cons r1 .nil =>
    cases r1
    obtain ⟨as, rd⟩ := Dp.reads I d (.ref a) (.ref a) hd rfl
    refine repr_of_reads' rd hs (fun z => ?_) hg (by omega) (fun _ _ z => z) (fun h' u tk hk => ⟨.str d.shown, H, I.kept hk, ⟨u, rfl⟩, q⟩) hz
    rw [nd] at z
    cases z
end
end ZL
set_option Elab.async false
set_option linter.all false
set_option maxRecDepth 100000
set_option maxHeartbeats 4000000
namespace ZL
open PySem PySem.Spec PyProof.Rows L2
/-! ### != where the class has an own == alone -/
structure OwnNe (K : PySem.W.Frag) (C : Addr) : Prop where
  ne : PySem.W.findIn K (.ref C) "__ne__" = some (some (.builtin "object.__ne__"))
  ob : PySem.W.mroIn K C (.type "object") = some true
section
variable {prog : Program} {w : World} {A : Around} {E : Value → Shared → Prop} {s : Shared} {K : PySem.W.Frag} {x C f : Addr} {ox : Obj} {od : Option Obj} {b : Value}
theorem ne_obj {Q : Value → Shared → Prop} (N : OwnNe K C) (o : Own K C "__eq__" f) (hu : A.in1.units < cLine) (X : K.In s.heap) (I : PySem.W.InstAt s.heap x ox C od)
    (h : wpAny (model prog w) A.in1 (call (.ref f) [.ref x, b]) (fun v s' => ∃ r, v = .bool r ∧ Q (.bool (!r)) s') E s) : wpAny (model prog w) A (call (.builtin "object.__ne__") [.ref x, b]) Q E s := by
  refine wpAny_call (codeAny_call_builtin PySem.F.cmp_object.ne.plain PySem.F.cmpEntry_ne (PySem.W.check_slot (i := "object.__ne__") (owner := "object") (n := "__ne__") PySem.F.cmpKind_ne PySem.F.cmpSplit_ne (I.type.andThen (PySem.W.looks_mroIn X N.ob)) (PySem.F.cmpArgs_ne _ _) ?_))
  unfold Builtin.«object.__ne__»
  refine wpAny_bind (m := slotArgs "__ne__" 1 _) (wpAny_pure ?_)
  refine wpAny_bind (m := cRoomFor _ _) (wpAny_cRoomFor hu ?_)
  refine wpAny_bind (m := callSpecialIfBound? (.ref x) (Str.ofString "__eq__") [b]) (PySem.W.ifBound_K X I o.at_ o.fn (thn h fun v s' z => ?_))
  obtain ⟨r, rfl, q⟩ := z
  exact wpAny_bind (m := truthy (.bool r)) (wpAny_truthy_bool (wpAny_pure q))
theorem ifBound_B {M : Model} {name : Str} {id : String} {args : List Value} {Q : Option Value → Shared → Prop} (X : K.In s.heap) (I : PySem.W.InstAt s.heap x ox C od) (hs : PySem.W.findIn K (.ref C) name = some (some (.builtin id)))
    (hb : ∀ self, bindSpecial (.builtin id) self = pure (.builtin id, [self])) (h : wpAny M A (call (.builtin id) (.ref x :: args)) (fun v => Q (some v)) E s) : wpAny M A (callSpecialIfBound? (.ref x) name args) Q E s := by
  have fin : wpAny M A (call (.builtin id) ([.ref x] ++ args) >>= fun v => pure (some v)) Q E s := wpAny_bind (thn h fun _ _ z => wpAny_pure z)
  simp only [callSpecialIfBound?, bindSpecialIfBound?]
  refine wpAny_holding (wpAny_bind (wpAny_bind (wpAny_bind (I.type.here ((PySem.W.looks_findIn X hs).here ?_)))))
  refine wpAny_bind (wpAny_askSetting (wpAny_ite ?_))
  split
  · exact wpAny_bind ((PySem.W.Looks.of_pure (hb _)).here (wpAny_pure (by exact fin)))
  · exact wpAny_tryCatch (wpAny_bind ((PySem.W.Looks.of_pure (hb _)).here (wpAny_pure (by exact fin))))
theorem ne_rc {tb : Value} {Q : Value → Shared → Prop} (N : OwnNe K C) (o : Own K C "__eq__" f) (hu : A.units + 1 < cLine) (X : K.In s.heap) (I : PySem.W.InstAt s.heap x ox C od) (hb : PySem.W.Looks (model prog w) s.heap (typeOf b) tb) (hn : PySem.W.notFirst K C tb = true)
    (h : wpAny (model prog w) A.in1 (call (.ref f) [.ref x, b]) (fun v s' => ∃ r, v = .bool r ∧ Q (.bool (!r)) s') E s) : wpAny (model prog w) A (richCompare .NotEq (.ref x) b) Q E s := by
  have one : wpAny (model prog w) A (tryCompare (.ref x) (cmpInfo .NotEq).2.1 b) (fun r s' => ∃ v, r = some v ∧ Q v s') E s := by
    unfold tryCompare
    refine wpAny_bind (ifBound_B X I N.ne PySem.F.cmp_object.ne.bind (ne_obj N o (by show A.units + 1 < cLine; exact hu) X I (thn h fun v s' z => ?_)))
    obtain ⟨r, rfl, q⟩ := z
    exact ⟨r, rfl, wpAny_pure ⟨_, rfl, q⟩⟩
  have fin : ∀ {k : Option Value → Sem Value}, (∀ v, k (some v) = pure v) → wpAny (model prog w) A (tryCompare (.ref x) (cmpInfo .NotEq).2.1 b >>= k) Q E s := fun {k} hk => wpAny_bind (thn one fun r s' z => by
    obtain ⟨v, rfl, q⟩ := z
    rw [hk]
    exact wpAny_pure q)
  unfold richCompare
  simp only [oneThing_ref]
  refine wpAny_holding (wpAny_bind (wpAny_cRoomFor (by omega) ?_))
  refine wpAny_bind (I.type.here (wpAny_bind (hb.here ?_)))
  split
  · rename_i q
    have e : PySem.W.subIn K tb (.ref C) = some false := by
      rcases Bool.or_eq_true_iff.mp hn with e | e
      · rw [beq_iff_eq.mp e] at q; simp at q
      · exact beq_iff_eq.mp e
    refine wpAny_bind ((PySem.W.looks_subIn X e).here ?_)
    simp only [Bool.false_eq_true, if_false]
    refine wpAny_bind (thn one fun r s' z => ?_)
    obtain ⟨v, rfl, hq⟩ := z
    exact wpAny_pure hq
  · refine wpAny_bind (wpAny_pure ?_)
    simp only [Bool.false_eq_true, if_false]
    refine wpAny_bind (thn one fun r s' z => ?_)
    obtain ⟨v, rfl, hq⟩ := z
    exact wpAny_pure hq
end
section
variable {X : Cx} {CX : CXT} {k : Nat} {f C g : Addr} {sp : Sp} {E : XK}
/-- x != y, instances of the class at C with an own == alone -/
def rOwnNe (C : Addr) (sp : Sp) (E : XK) : R2 := fun x y H Q => ∃ a b dx dy fs gs, x = .ref a ∧ y = .ref b ∧ H a = some (.ins C dx fs) ∧ H b = some (.ins C dy gs) ∧ sp [x, y] H (fun v H' => ∃ r, v = .bl r ∧ Q (.bl (!r)) H') E
theorem op_neO (N : OwnNe X.K C) (o : Own X.K C "__eq__" f) (F : FnR X.prog X.w X.K X.mg X.base CX k f sp) (hr : Room (k + 1) X.A) (hx : Passes CX X E) : OpR X (compareOp .NotEq) (rOwnNe C sp E) := by
  rintro pins s σ H x y v u Q I rx ry ⟨a, b, dx, dy, fs, gs, rfl, rfl, ha, hb, q⟩
  cases rx
  cases ry
  obtain ⟨od, J⟩ := inst_at I ha
  obtain ⟨od', J'⟩ := inst_at I hb
  show wpAny (model X.prog X.w) X.A (richCompare .NotEq (.ref a) (.ref b)) (EP X pins σ Q) X.xe s
  refine ne_rc N o (by have := hr.un; omega) I.kIn J J'.type (by simp [PySem.W.notFirst]) (thn (run_at (A := X.A.in1) (vs := [.ref a, .ref b]) F hr.in1 rfl hx I (.cons rfl (.cons rfl .nil)) q) fun u s' z => ?_)
  obtain ⟨v, H', I', r, b', rfl, q'⟩ := z
  cases r
  exact ⟨b', rfl, .bl (!b'), H', I', rfl, q'⟩
/-! ### x[i] by an own __getitem__ -/
theorem pe_makeS1 {x : Str} {e : Expr} {te : TE} {p pos sp_ : Pos} (M : Mk X.K C f) (F : FnR X.prog X.w X.K X.mg X.base CX k f sp) (hr : Room (k + 1) X.A) (hg : Gl X x) (hm : X.mg x = some (.ref C)) (hx : Passes CX X E) (he : PE X e te) (hd : (x == ("__debug__" : Str)) = false := by decide)
    (hst : starEach [.Starred e sp_] X.env = [(true, eval e X.env)] := by rfl) :
    PE X (.Call (.Name x p) [.Starred e sp_] [] pos) (fun σ H Q => te σ H fun y H1 => ∃ a xs, y = V.ref a ∧ (SqT X.K H1 a xs ∨ SqL X.K H1 a xs) ∧ ∀ x dx, H1 x = none → H1 dx = none → dx ≠ x →
      sp (V.ref x :: xs) (upd (upd H1 dx (.own x)) x (.ins C dx [])) (fun v H2 => v = .non ∧ Q (.ref x) H2) E) :=
  ⟨fun pins s σ H Q I h => wpAny_Call_Name_kw (ld_glob I hg hm (PySem.W.callWith_S (h₀ := X.base) I.ok.mod.kin M.kp (thn (he.run pins s σ H _ I h) fun v s1 z => by
    obtain ⟨y, H1, I1, ry, a, xs, rfl, hxs, q⟩ := z
    cases ry
    exact StX.star_any I1 hxs fun us s2 I2 rv => ⟨I2.kIn, StX.run_makeR M F hr hx I2 rv q⟩) hst) hd)⟩
end
/-! ### a op b op c op d -/
section
variable {X : Cx} {a b c d : Expr} {ta tb tc td : TE} {pos : Pos}
def tChain3 (r r' r'' : R2) (ta tb tc td : TE) : TE := fun σ H Q => ta σ H fun x H1 => tb σ H1 fun y H2 => r x y H2 fun z H3 => ∃ k, z = .bl k ∧ (if k = true then tc σ H3 fun w H4 => r' y w H4 fun z' H5 => ∃ k', z' = .bl k' ∧ (if k' = true then td σ H5 fun u H6 => r'' w u H6 Q else Q (.bl false) H5) else Q (.bl false) H3)
theorem pe_chain3 {op op' op'' : CmpOp} {r r' r'' : R2} (ho : OpR X (compareOp op) r) (ho' : OpR X (compareOp op') r') (ho'' : OpR X (compareOp op'') r'') (ha : PE X a ta) (hb : PE X b tb) (hc : PE X c tc) (hd : PE X d td)
    (hm : lastMarks [op, op', op''] [b, c, d] = false := by with_unfolding_all rfl) : PE X (.Compare a [op, op', op''] [b, c, d] pos) (tChain3 r r' r'' ta tb tc td) := by
  refine ⟨fun pins s σ H Q I h => ?_⟩
  refine Compare_chain (thn (ha.run pins s σ H _ I h) fun v s1 z1 => ?_) hm
  obtain ⟨x, H1, I1, r1, q1⟩ := z1
  refine chain_link (thn (hb.run pins s1 σ H1 _ I1 q1) fun u s2 z2 => ?_)
  obtain ⟨y, H2, I2, r2, q2⟩ := z2
  refine thn (ho pins s2 σ H2 x y v u _ I2 r1 r2 q2) fun dd s3 z3 => ?_
  obtain ⟨z, H3, I3, r3, k, rfl, q3⟩ := z3
  cases r3
  refine wpAny_truthy_bool ?_
  cases k with
  | false => exact ite_ff ⟨.bl false, H3, I3, rfl, q3⟩
  | true =>
    refine ite_tt (chain_link (thn (hc.run pins s3 σ H3 _ I3 q3) fun w' s4 z4 => ?_))
    obtain ⟨w, H4, I4, r4, q4⟩ := z4
    refine thn (ho' pins s4 σ H4 y w u w' _ I4 r2 r4 q4) fun dd s5 z5 => ?_
    obtain ⟨z', H5, I5, r5, k', rfl, q5⟩ := z5
    cases r5
    refine wpAny_truthy_bool ?_
    cases k' with
    | false => exact ite_ff ⟨.bl false, H5, I5, rfl, q5⟩
    | true =>
      refine ite_tt (chain_last (thn (hd.run pins s5 σ H5 _ I5 q5) fun t' s6 z6 => ?_))
      obtain ⟨t, H6, I6, r6, q6⟩ := z6
      exact ho'' pins s6 σ H6 w t w' t' Q I6 r4 r6 q6
end
end ZL
set_option Elab.async false
set_option linter.all false
set_option maxRecDepth 100000
set_option maxHeartbeats 4000000
namespace ZL
open PySem PySem.Spec PyProof.Rows L2
/-! ### x[i] by an own __getitem__ -/
section
variable {X : Cx} {CX : CXT} {k : Nat} {f C g : Addr} {sp : Sp} {E : XK} {a b : Expr} {ta tb : TE} {pos : Pos}
def rOwnIx (C : Addr) (sp : Sp) (E : XK) : R2 := fun x y H Q => ∃ a dx fs, x = .ref a ∧ H a = some (.ins C dx fs) ∧ sp [x, y] H Q E
theorem pe_ixO (o : Own X.K C "__getitem__" f) (hf : PySem.W.fnIn X.K f = true) (F : FnR X.prog X.w X.K X.mg X.base CX k f sp) (hr : Room (k + 1) X.A) (hx : Passes CX X E) (ha : PE X a ta) (hb : PE X b tb)
    (hs : ∀ x i, subscripted b true (.ref x) i = runValue (.builtin "lifetime.subscript" ⟨[.ref x, i], []⟩)) : PE X (.Subscript a b pos) (tOp (rOwnIx C sp E) ta tb) := by
  refine ⟨fun pins s σ H Q I h => ?_⟩
  refine Subscript_ (binT ha hb I h fun v u s2 x y H2 I2 rx ry q => ?_)
  obtain ⟨c, dx, fs, rfl, hc, q⟩ := q
  cases rx
  obtain ⟨od, J⟩ := inst_at I2 hc
  obtain ⟨m, hF⟩ := I2.fr
  exact PySem.W.sub_K hF I2.ok.mod.kin J o.at_ hf o.fn (run_at (A := X.A.in1) (vs := [.ref c, y]) F hr.in1 rfl hx I2 (.cons rfl (.cons ry .nil)) q) (hs _ _)
end
/-! ### t[::-1] of a tuple -/
section
variable {prog : Program} {w : World} {A : Around} {E : Value → Shared → Prop} {s : Shared}
theorem places_rev (n : Nat) : Builtin.Slice.slicePlaces ((n : Int) - 1) (-1) (-1) = n := by
  unfold Builtin.Slice.slicePlaces
  rw [if_neg (by decide)]
  by_cases h : (n : Int) - 1 > -1
  · rw [if_pos h, show ((n : Int) - 1 - -1 - 1) / (- -1) + 1 = (n : Int) by rw [show (- -1 : Int) = 1 by decide, Int.ediv_one]; omega]
    exact Int.toNat_natCast n
  · rw [if_neg h]
    show 0 = n
    omega
theorem applied_rev {sl : Addr} {vk : Value} {n : Nat} {Q : Int × Int × Nat → Shared → Prop} (hs : s.heap.IsSliceOf sl .none .none vk) (pk : IsPart vk (some (-1))) (h : Q ((n : Int) - 1, -1, n) s) :
    wpAny (model prog w) A (Builtin.Slice.sliceApplied (.ref sl) (pure (n : Int))) Q E s := by
  obtain ⟨os, hos, hcs, hds⟩ := id hs
  unfold Builtin.Slice.sliceApplied Builtin.Slice.sliceFields
  refine wpAny_bind (wpAny_bind (wpAny_field hos hds (x := .none) rfl (wpAny_bind (wpAny_field hos hds (x := .none) rfl (wpAny_bind (wpAny_field hos hds (x := vk) rfl (wpAny_pure ?_)))))))
  refine wpAny_bind (HT.slicePart_ pk ?_)
  show wpAny _ _ (if ((-1 : Int) == 0) = true then _ else _) _ _ s
  rw [if_neg (by decide)]
  refine wpAny_bind (HT.slicePart_ .none (wpAny_bind (HT.slicePart_ .none (wpAny_bind (wpAny_pure ?_)))))
  show wpAny _ _ (pure ((n : Int) - 1, (-1 : Int), Builtin.Slice.slicePlaces ((n : Int) - 1) (-1) (-1))) _ _ s
  rw [places_rev]
  exact wpAny_pure h
theorem fm_congr {α β : Type} {f g : α → Option β} : ∀ {l : List α}, (∀ m ∈ l, f m = g m) → l.filterMap f = l.filterMap g
  | [], _ => rfl
  | x :: l, h => by
    rw [List.filterMap_cons, List.filterMap_cons, h x List.mem_cons_self, fm_congr fun m hm => h m (List.mem_cons_of_mem _ hm)]
theorem pick_rev (xs : Array Value) : ((List.range xs.size).filterMap fun (m : Nat) => xs[(((xs.size : Int) - 1) + (m : Int) * -1).toNat]?).toArray = xs.toList.reverse.toArray := by
  have e : ((List.range xs.size).filterMap fun (m : Nat) => xs[(((xs.size : Int) - 1) + (m : Int) * -1).toNat]?) = ((List.range xs.size).map fun k => xs.size - 1 - k).filterMap (xs[·]?) := by
    rw [List.filterMap_map]
    refine fm_congr fun m hm => ?_
    have := List.mem_range.mp hm
    show xs[(((xs.size : Int) - 1) + (m : Int) * -1).toNat]? = xs[xs.size - 1 - m]?
    rw [show (((xs.size : Int) - 1) + (m : Int) * -1).toNat = xs.size - 1 - m by omega]
  rw [e, PySem.W.krv_range, List.filterMap_reverse, PySem.W.krv_all]
theorem getItem_tuple_rev {t sl : Addr} {items : Array Value} {vk : Value} {Q : Value → Shared → Prop} (ht : IsTup s.heap t items) (hs : s.heap.IsSliceOf sl .none .none vk) (pk : IsPart vk (some (-1)))
    (h : Q (.ref s.heap.objs.size) { s with heap := s.heap.push { cls := .type "tuple", data := .seq items.toList.reverse.toArray } }) (hsz : items.size ≤ sizeLine) : wpAny (model prog w) A (getItem (.ref t) (.ref sl)) Q E s := by
  have htake : sizeOk (.seq items.toList.reverse.toArray) := by
    show items.toList.reverse.toArray.size ≤ sizeLine
    rw [List.size_toArray, List.length_reverse, Array.length_toList]
    exact hsz
  obtain ⟨os, hos, hcs, hds⟩ := id hs
  have hTs : s.TypeIs (.ref sl) "slice" := ⟨os, hos, hcs⟩
  unfold getItem
  try with_reducible refine wpAny_holding ?_
  first | refine wpAny_bind (wpAny_pure ?_) | skip
  refine wpAny_bind (wpAny_sequenceKey ht.typeIs (by decide) ?_)
  refine wpAny_bind (wpAny_callSpecial?_slot (name := Str.ofString "__getitem__") ht.typeIs PyProof.Rows.slot_tuple_getitem (wpAny_call_entry PyProof.Rows.slot_tuple_getitem ht.typeIs entry_tuple_getitem ?_ (args_tuple_getitem _ _)))
  show wpAny _ _ (Builtin.Tuple.tupleItemsOf (.ref t) >>= _) _ _ s
  refine wpAny_bind (tupleItemsOf_ ht ?_)
  refine wpAny_bind (wpAny_typeOf hTs ?_)
  rw [if_pos (by decide)]
  refine wpAny_bind (applied_rev hs pk ?_)
  have hno : ¬ (((((items.size : Int) - 1) : Int) == 0 && (-1 : Int) == 1 && items.size == items.size) = true) := by
    rw [show ((-1 : Int) == 1) = false by decide, Bool.and_false, Bool.false_and]
    exact Bool.false_ne_true
  show wpAny _ _ (if ((((items.size : Int) - 1) : Int) == 0 && (-1 : Int) == 1 && items.size == items.size) = true then _ else _) _ _ s
  rw [if_neg hno, pick_rev]
  first
    | exact wpAny_bind (m := Builtin.Tuple.tupleExact _) (wpAny_newObj_type (wpAny_pure ⟨_, rfl, wpAny_pure h⟩) htake)
    | exact wpAny_bind (m := Builtin.Tuple.tupleExact _) (wpAny_newObj_type (wpAny_bind (wpAny_pure (wpAny_pure ⟨_, rfl, wpAny_pure h⟩))) htake)
    | exact wpAny_bind (wpAny_bind (m := Builtin.Tuple.tupleExact _) (wpAny_newObj_type (wpAny_pure (wpAny_pure ⟨_, rfl, wpAny_pure h⟩)) htake))
    | exact wpAny_bind (wpAny_bind (m := Builtin.Tuple.tupleExact _) (wpAny_newObj_type (wpAny_pure ⟨_, rfl, wpAny_pure h⟩) htake))
end
section
variable {X : Cx}
def tRevT (K : PySem.W.Frag) (te : TE) : TE := fun σ H Q => te σ H fun x H1 => ∃ a xs, x = .ref a ∧ SqT K H1 a xs ∧ ∀ p, H1 p = none → Q (.ref p) (upd H1 p (.tup xs.reverse))
theorem pe_revT {e : Expr} {te : TE} {k : Nat} {p1 p2 p3 pos : Pos} (he : PE X e te) : PE X (.Subscript e (.Slice none none (some (.UnaryOp .USub (.Constant (.int 1) k p1) p2)) p3) pos) (tRevT X.K te) := by
  refine ⟨fun pins s σ H Q I h => ?_⟩
  refine Subscript_ (thn (he.run pins s σ H _ I h) fun v s1 z1 => ?_)
  obtain ⟨x, H1, I1, r1, a, xs, rfl, hx, q⟩ := z1
  cases r1
  have hst : PO X (some (.UnaryOp .USub (.Constant (.int 1) k p1) p2)) (tPart (tUn (rU fun i => .int (-i)) (tC (.int 1)))) := po_some (pe_un un_neg pe_int)
  refine wpAny_Slice (thn (po_none.run pins s1 σ H1 (fun o H2 => o = none ∧ H2 = H1) I1 ⟨rfl, rfl⟩) fun vl s2 z2 => ?_)
  obtain ⟨l, H2, I2, pl, rfl, rfl⟩ := z2
  refine thn (po_none.run pins s2 σ H2 (fun o H3 => o = none ∧ H3 = H2) I2 ⟨rfl, rfl⟩) fun vu s3 z3 => ?_
  obtain ⟨u, H3, I3, pu, rfl, rfl⟩ := z3
  refine thn (hst.run pins s3 σ H3 (fun o H4 => o = some (-1) ∧ H4 = H3) I3 ⟨1, rfl, -1, rfl, rfl, rfl⟩) fun vs s4 z4 => ?_
  obtain ⟨o, H4, I4, ps, rfl, rfl⟩ := z4
  cases pl
  cases pu
  have I5 : Inv X pins σ H4 { s4 with heap := s4.heap.push { cls := .type "slice", data := .fields #[.none, .none, vs] } } := I4.kept (t' := s4.toks) fun b ob q => Heap.get?_push_of_some _ q
  obtain ⟨its, r, ht, hz⟩ := I5.tuple hx
  have hlen := r.length
  show wpAny (model X.prog X.w) X.A (subscriptTail e (.Slice none none (some (.UnaryOp .USub (.Constant (.int 1) k p1) p2)) p3) (.ref a) (.ref s4.heap.objs.size)) (EP X pins σ Q) X.xe _
  refine tail_any (ops := [.ref a, .ref s4.heap.objs.size]) ht.typeIs PyProof.Rows.slot_tuple_getitem.lookup ?_ (by with_unfolding_all rfl)
  refine getItem_tuple_rev ht (Heap.IsSliceOf.new _ .none .none vs) ps ?_ (by rw [List.size_toArray]; omega)
  have e1 : its.toArray.toList.reverse.toArray = its.reverse.toArray := by simp
  rw [e1]
  have hz2 : xs.reverse.length ≤ sizeLine := by
    rw [List.length_reverse]
    exact hz
  exact ⟨.ref _, _, I5.laid (t' := s4.toks) (o := .tup xs.reverse) (fun b ob q => Heap.get?_push_of_some _ q) (Nat.le_refl _) ⟨hz2, its.reverse, r.reverse, ⟨_, Heap.get?_push_size _ rfl, rfl, _, rfl⟩⟩, rfl, q _ (I5.hok.fresh (Nat.le_refl _))⟩
end
/-! ### enumerate(t) of a tuple -/
theorem meets_enumerate_new1 {v : Value} {o : Obj} {H : Heap → Prop} (B : Begins v o H) :
    Meets (Builtin.«enumerate.__new__» ⟨[.type "enumerate", v], []⟩) (fun _ R s => H s.heap ∧
      R (.ok (.ret (.ref (s.heap.push o).objs.size))) { s with heap := (s.heap.push o).push { cls := .type "enumerate", data := .fields #[.none, .bool false, .ref s.heap.objs.size, rawInt 0, .none, .none] } }) :=
  .of_wp fun prog w A R s h => by
    obtain ⟨hp, g, d, tk, os⟩ := s
    obtain ⟨h1, h⟩ := h
    have hsub := sub_enumerate
    have q1 : ∀ {A' : Around} {E : Value → Shared → Prop} {Q : Value → Shared → Prop}, Q (.ref hp.objs.size) ⟨hp.push o, g, d, tk, os⟩ → wpAny (model prog w) A' (pyIter v) Q E ⟨hp, g, d, tk, os⟩ :=
      fun q => B.iter prog w _ _ ⟨hp, g, d, tk, os⟩ _ h1 q
    wp_walk using q1
    refine wpAny_stack_any fun st => wpAny_pure ?_
    split
    · rename_i c _ _ _ _ _
      cases (c == Value.type "enumerate")
      · wp_walk using q1
        exact ⟨_, rfl, h⟩
      · wp_walk using q1
        exact ⟨_, rfl, h⟩
    · wp_walk using q1
      exact ⟨_, rfl, h⟩
theorem enum_begins1 {prog : Program} {w : World} {A : Around} {E : Value → Shared → Prop} {s : Shared} {v : Value} {o : Obj} {H : Heap → Prop} {Q : Value → Shared → Prop} (B : Begins v o H) (h1 : H s.heap)
    (h : ∀ h', IsEnum h' (s.heap.objs.size + 1) s.heap.objs.size 0 .none → h'.get? s.heap.objs.size = some o → (∀ b o, s.heap.get? b = some o → h'.get? b = some o) → Q (.ref (s.heap.objs.size + 1)) { s with heap := h' }) :
    wpAny (model prog w) A (call (.type "enumerate") [v]) Q E s := by
  have hz : (s.heap.push o).objs.size = s.heap.objs.size + 1 := Heap.size_push ..
  refine callType_new PySem.F.called_enumerate (by decide) (PySem.F.typeCall_enumerate_1 _) (PySem.F.newCall_enumerate_1 _) (fun obj => PySem.F.args_object_init_2 obj _) PySem.F.entry_enumerate_new (meets_enumerate_new1 B) ⟨h1, ?_⟩
  show _ ∧ _
  rw [hz]
  have he := Heap.get?_push_size (s.heap.push o) (o := { cls := .type "enumerate", data := .fields #[.none, .bool false, .ref s.heap.objs.size, rawInt 0, .none, .none] }) rfl
  rw [hz] at he
  exact ⟨⟨_, he, rfl⟩, h _ he (Heap.get?_push_of_some _ (Heap.get?_push_size _ B.free)) fun b o x => Heap.get?_push_of_some _ (Heap.get?_push_of_some _ x)⟩
def IteT (K : PySem.W.Frag) (a : Addr) : It :=
  ⟨fun i H => ∃ (xs : List V) (x : V), SqT K H a xs ∧ xs[i]? = some x, fun i H v H' => ∃ T x, v = .ref T ∧ H T = none ∧ H' = upd H T (.tup [.int (i : Nat), x]) ∧ ∀ xs, SqT K H a xs → xs[i]? = some x, fun i H => ∃ xs : List V, SqT K H a xs ∧ xs.length = i⟩
theorem turn_enumT {P : Program} {w : World} {K : PySem.W.Frag} {elts : List Expr} {kk : Nat} {tpos : Pos} (a e it : Addr) :
    Turn P w K (.Tuple elts kk tpos) (IteT K a) [e, it] e (fun i h => (∃ old, IsEnum h e it ((i : Nat) : Int) old) ∧ h.IsTupleIter it a i ∧ e ≠ it) where
  mem := by simp
  obj := fun i h st b hb => by
    obtain ⟨⟨old, he⟩, ⟨o, ho, hc, hd⟩, _⟩ := st
    rcases List.mem_cons.mp hb with z | z
    · rw [z]; exact ⟨_, he, fun v q => nomatch q⟩
    · rw [List.mem_singleton.mp z]; exact ⟨o, ho, fun v q => by rw [hd] at q; cases q⟩
  keep := fun i h h' st k => by
    obtain ⟨⟨old, he⟩, hi, hne⟩ := st
    exact ⟨⟨old, k e (by simp) _ he⟩, hi.at fun o q => k it (by simp) o q, hne⟩
  item := by
    intro X hP hw hK hc i pins s σ H E I hf st hg
    subst hP hw hK
    obtain ⟨⟨old, he⟩, hit, hne⟩ := st
    obtain ⟨xs, x, hq, hx⟩ := hg
    obtain ⟨its, rv, p, hz⟩ := I.tuple hq
    obtain ⟨u, hu, ru⟩ := rv.get hx
    have hel : e < s.heap.objs.size := Heap.lt_size he
    have hil : it < s.heap.objs.size := by obtain ⟨_, q, _⟩ := hit; exact Heap.lt_size q
    have hae : a ≠ e := fun z => by
      obtain ⟨o, ho, hcl, _⟩ := p
      rw [z, he] at ho
      cases ho
      injection hcl with q
      exact absurd q (by decide)
    have hai : a ≠ it := fun z => by
      obtain ⟨o, ho, hcl, _⟩ := p
      obtain ⟨o2, ho2, hc2, _⟩ := hit
      rw [z, ho2] at ho
      cases ho
      rw [hc2] at hcl
      injection hcl with q
      exact absurd q (by decide)
    refine wpAny_pyNext_enum_itemC (Draws.tuple (by exact I.ok.hd hc) it a hai its.toArray) he ⟨hit, p⟩ (by rw [List.size_toArray, ← rv.length]; exact (List.getElem?_eq_some_iff.mp hx).1) hne (by simp [hne, hae.symm]) fun y h' tk hP ho hst hT hsz hk => ?_
    have hy : y = u := by
      have q : its.toArray[i]? = some y := hP
      rw [List.getElem?_toArray, hu] at q
      exact (Option.some.inj q).symm
    subst hy
    refine ⟨_, rfl, wpAny_letOwnedTupleGo_enum (s := { s with heap := h', toks := tk + 1 }) ho fun h'' he' sb => ?_⟩
    have hT2 : h''.get? s.heap.objs.size = some { cls := .type "tuple", data := .seq #[.int i tk, y] } := (sb.2 _ (Nat.ne_of_gt hel)).trans hT
    have new : ObjOk X.prog X.w (upd H s.heap.objs.size (.tup [.int (i : Nat), x])) h'' s.heap.objs.size (.tup [.int (i : Nat), x]) :=
      ⟨by show 2 ≤ sizeLine; decide, [.int i tk, y], .cons ⟨_, rfl⟩ (.cons ru .nil), ⟨_, hT2, rfl, _, rfl⟩⟩
    have I1 : Inv X pins σ (upd H s.heap.objs.size (.tup [.int (i : Nat), x])) { s with heap := h'', toks := tk + 1 } :=
      I.turnedNew (ch := [e, it]) (fun b ob hb q => (sb.2 b (fun z => hb (by simp [z]))).trans (hk b ob (fun z => hb (by simp [z])) (fun z => hb (by simp [z])) q)) hf (Nat.le_refl _) new
    refine ⟨.ref s.heap.objs.size, _, I1, rfl, ⟨_, x, rfl, I.hok.fresh (Nat.le_refl _), rfl, fun ys hy => by rw [I.tuple_inj hy hq]; exact hx⟩, ⟨⟨y, ?_⟩, hst.1.at fun o q => (sb.2 it (Ne.symm hne)).trans q, hne⟩, fun b hb => ?_⟩
    · rw [show ((i + 1 : Nat) : Int) = (i : Int) + 1 by omega]
      exact he'
    · have hb' : b < s.heap.objs.size := by
        rcases List.mem_cons.mp hb with z | z
        · rw [z]; exact hel
        · rw [List.mem_singleton.mp z]; exact hil
      rw [upd_ne (Nat.ne_of_lt hb')]
      exact (hf b hb).1
  done := by
    intro X hP hw hK hc i pins s σ H E I hf st hg
    subst hP hw hK
    obtain ⟨⟨old, he⟩, hit, hne⟩ := st
    obtain ⟨xs, hq, hx⟩ := hg
    obtain ⟨its, rv, p, hz⟩ := I.tuple hq
    obtain ⟨f0, f1, f2, f3, f4, f5⟩ := hf it (by simp)
    have hl := rv.length
    have hai : a ≠ it := fun z => by
      obtain ⟨o, ho, hcl, _⟩ := p
      obtain ⟨o2, ho2, hc2, _⟩ := hit
      rw [z, ho2] at ho
      cases ho
      rw [hc2] at hcl
      injection hcl with q
      exact absurd q (by decide)
    have hi : its.toArray.size = i := by rw [List.size_toArray, ← hl]; exact hx
    exact wpAny_pyNext_enum_endD (Draws.tuple (by exact I.ok.hd hc) it a hai its.toArray) he ⟨by rw [hi]; exact hit, p⟩ fun h' eb => ⟨rfl, I.turned (t' := s.toks) (fun b o hb q => eb b o hb q) f0 f1 f3 f4 f5⟩
  self := fun A i s Q E st h => by
    obtain ⟨⟨_, he⟩, _⟩ := st
    exact wpAny_pyIter_enum he h
def iEnumT (K : PySem.W.Frag) (ta : TA) : TI := fun σ H R => ta σ H fun vs H1 => ∃ a xs, vs = [.ref a] ∧ SqT K H1 a xs ∧ R (IteT K a) H1
theorem pi_enumT {X : Cx} {e : Expr} {ta : TA} {p pos tpos : Pos} {elts : List Expr} {kk : Nat} (hg : Gl X "enumerate") (hm : X.mg "enumerate" = none) (ha : PA X [e] ta) (hs : starEach [e] X.env = [(false, eval e X.env)] := by rfl) :
    PI X (.Tuple elts kk tpos) (.Call (.Name "enumerate" p) [e] [] pos) (iEnumT X.K ta) := by
  refine ⟨fun pins s σ H R I h => ?_⟩
  refine Call_ (ld_blt I hg hm boot_enumerate (PyProof.Rows.callWith_type1 (thn (ha.run pos pins s σ H _ I h) fun us s1 z => ?_) hs rfl))
  obtain ⟨vs, H1, I1, r1, a, xs, rfl, hq, q⟩ := z
  match us, r1 with
  | [u], .cons r .nil =>
    cases r
    obtain ⟨its, rv, p', hz⟩ := I1.tuple hq
    refine enum_begins1 (begins_tuple a its.toArray) p' fun h' he hit hk => wpAny_pyIter_enum he ?_
    have I2 : Inv X pins σ H1 { s1 with heap := h' } := I1.kept (t' := s1.toks) hk
    refine ⟨s1.heap.objs.size + 1, [s1.heap.objs.size + 1, s1.heap.objs.size], _, _, H1, rfl, I2, turn_enumT a (s1.heap.objs.size + 1) s1.heap.objs.size, ⟨⟨.none, he⟩, ⟨_, hit, rfl, rfl⟩, Nat.succ_ne_self _⟩, fun b hb => ?_, q⟩
    have hle : s1.heap.objs.size ≤ b := by
      rcases List.mem_cons.mp hb with z | z
      · rw [z]; exact Nat.le_add_right _ _
      · rw [List.mem_singleton.mp z]; exact Nat.le_refl _
    exact I1.fpOk hle (I1.hok.fresh hle)
theorem walk_enumT {K : PySem.W.Frag} {a : Addr} {xs : List V} : Walk (IteT K a) xs.length (fun H => SqT K H a xs) (YPair (fun i => some (.int (i : Nat))) (fun i => xs[i]?)) where
  goes := fun i _ hi q => ⟨xs, xs[i], q, by simp [hi]⟩
  stops := fun _ q => ⟨xs, q, rfl⟩
  yields := fun i H v H' _ q y => by
    obtain ⟨T, x, h1, h2, h3, h4⟩ := y
    exact ⟨T, .int (i : Nat), x, h1, h2, h3, rfl, h4 xs q⟩
end ZL
set_option Elab.async false
set_option linter.all false
set_option maxRecDepth 100000
set_option maxHeartbeats 4000000
namespace ZL
open PySem PySem.Spec PyProof.Rows L2
/-! ### defs by positional promises -/
def FnRG (P : Program) (w : World) (K : PySem.W.Frag) (mg : Str → Option Value) (base : Heap) (CX : CXT) (k : Nat) (f : Addr) (sp : Sp) : Prop :=
  ∀ (A : Around) (outer : List Env) (s : Shared) (H : Hp) (us : List Value) (vs : List V) (Q : VK) (E : XK), A.guards = some [] → Room k A → Env0 P w K mg base A outer s H → Vals vs us → sp vs H Q E →
    codeAny (model P w) A (.call (.ref f) ⟨us, []⟩) (CR CX outer P w H s Q E) s
section
variable {P : Program} {w : World} {K : PySem.W.Frag} {mg : Str → Option Value} {base : Heap} {x qual : Str} {st : Stmt} {kws : List (Str × V)} {f : Addr} {fd : FuncData} {N ps : List Str} {k : Nat} {sp : Sp} {CX : CXT}
theorem FnRG.of (F : FnR P w K mg base CX k f sp) : FnRG P w K mg base CX k f sp := fun A outer s H us vs Q E _ hr e0 r h => F A outer s H us vs Q E hr e0 r h
/-- a def from which nothing is raised -/
theorem okR (F : FunD K x qual (defArgs st) (defBody st) (defScope st) [] kws f fd) (S : FnScope N ps (defScope st)) (len : ∀ vs H Q E, sp vs H Q E → vs.length = ps.length)
    (hb : ∀ (kV doc pm : Value) (an : Option Addr) (cdv ct : Value) (us : List Value), us.length = ps.length → bindArgs (PySem.W.fnOf x qual (defArgs st) (defBody st) (defScope st) .none kV doc pm an cdv ct) ⟨us, []⟩ = pure (ps.zip us))
    (hbody : ∀ (cdv : Value) (A : Around) (outer : List Env) (s : Shared) (H : Hp) (vs : List V) (Q : VK) (E : XK), Room k (A.deeper (envOfC qual (defScope st) s.heap.objs.size f cdv)) → sp vs H Q E →
      ∃ t, PSs (cxOf CX0 P w K mg base N qual (defScope st) f cdv A outer s H E).nox (defBody st) t ∧ t { nx := fun _ H' => Q .non H', rt := Q } (start N vs) H) : FnR P w K mg base CX0 (k + 1) f sp := by
  have G : FnOk P w K mg base CX0 (k + 1) f fd ps sp := F.ok S len fun cdv A outer s H vs Q E hr h => by
    obtain ⟨t, ht, q⟩ := hbody cdv A outer s H vs Q E hr h
    exact ⟨t, ht.nox, q⟩
  exact (G.raw (F.bindsN hb) .nil).imp fun vs H Q E h => by rw [List.append_nil]; exact h
/-- .. called where no repr is running -/
theorem okRG (F : FunD K x qual (defArgs st) (defBody st) (defScope st) [] kws f fd) (S : FnScope N ps (defScope st)) (len : ∀ vs H Q E, sp vs H Q E → vs.length = ps.length)
    (hb : ∀ (kV doc pm : Value) (an : Option Addr) (cdv ct : Value) (us : List Value), us.length = ps.length → bindArgs (PySem.W.fnOf x qual (defArgs st) (defBody st) (defScope st) .none kV doc pm an cdv ct) ⟨us, []⟩ = pure (ps.zip us))
    (hbody : ∀ (cdv : Value) (A : Around) (outer : List Env) (s : Shared) (H : Hp) (vs : List V) (Q : VK) (E : XK), A.guards = some [] → Room k (A.deeper (envOfC qual (defScope st) s.heap.objs.size f cdv)) → sp vs H Q E →
      ∃ t, PSs (cxOf CX0 P w K mg base N qual (defScope st) f cdv A outer s H E).nox (defBody st) t ∧ t { nx := fun _ H' => Q .non H', rt := Q } (start N vs) H) : FnRG P w K mg base CX0 (k + 1) f sp := by
  have G : FnG P w K mg base CX0 (k + 1) f fd ps sp := okG F S len fun cdv A outer s H vs Q E hg hr h => by
    obtain ⟨t, ht, q⟩ := hbody cdv A outer s H vs Q E hg hr h
    exact ⟨t, ht.nox, q⟩
  intro A outer s H us vs Q E hg hr e0 r h
  have hl : us.length = ps.length := r.length ▸ G.len _ _ _ _ h
  have b := F.bindsN hb s us (e0.mod.kin.keeps fun b o e => (e0.bs b o e).1) (by simpa using hl)
  exact G.run A outer s H ⟨us, []⟩ us vs Q E hg hr e0 (by simpa using b) r h
end
section
variable {X : Cx} {CX : CXT} {k : Nat} {f C : Addr} {sp : Sp} {E : XK} {x m : Str} {p pos apos : Pos} {e o : Expr} {es : List Expr} {ta : TE} {t : TA}
def tCallR (sp : Sp) (E : XK) (t : TA) : TE := fun σ H Q => t σ H fun vs H1 => sp vs H1 Q E
theorem pe_callR (F : FnR X.prog X.w X.K X.mg X.base CX k f sp) (hr : Room k X.A) (hg : Gl X x) (hm : X.mg x = some (.ref f)) (hk : PySem.W.keepIn X.K (.ref f) = true) (hx : Passes CX X E)
    (ha : PA X (e :: es) t) (hdb : (x == ("__debug__" : Str)) = false := by decide) (he : starEach (e :: es) X.env = (false, eval e X.env) :: starEach es X.env := by rfl) (hpl : (backTo pos (starEach es X.env)).any (·.1) = false := by rfl) :
    PE X (.Call (.Name x p) (e :: es) [] pos) (tCallR sp E t) :=
  ⟨fun pins s σ H Q I h => wpAny_Call_Name_kw (ld_glob I hg hm (PySem.W.callWith_K (h₀ := X.base) I.ok.mod.kin hk (thn (ha.run pos pins s σ H _ I h) fun us s1 z => by
    obtain ⟨vs, H1, I1, r, q⟩ := z
    exact ⟨I1.kIn, wpAny_call (run_fnR F hr hx I1 r q)⟩) he hpl) hdb)⟩
theorem pe_callRG (F : FnRG X.prog X.w X.K X.mg X.base CX k f sp) (hgd : X.A.guards = some []) (hr : Room k X.A) (hg : Gl X x) (hm : X.mg x = some (.ref f)) (hk : PySem.W.keepIn X.K (.ref f) = true) (hx : Passes CX X E)
    (ha : PA X (e :: es) t) (hdb : (x == ("__debug__" : Str)) = false := by decide) (he : starEach (e :: es) X.env = (false, eval e X.env) :: starEach es X.env := by rfl) (hpl : (backTo pos (starEach es X.env)).any (·.1) = false := by rfl) :
    PE X (.Call (.Name x p) (e :: es) [] pos) (tCallR sp E t) :=
  ⟨fun pins s σ H Q I h => wpAny_Call_Name_kw (ld_glob I hg hm (PySem.W.callWith_K (h₀ := X.base) I.ok.mod.kin hk (thn (ha.run pos pins s σ H _ I h) fun us s1 z => by
    obtain ⟨vs, H1, I1, r, q⟩ := z
    refine ⟨I1.kIn, wpAny_call (codeAny_mono (F X.A X.stack s1 H1 us vs Q E hgd hr I1.env0 r q) fun z s' hq => ?_)⟩
    match z, hq with
    | .error e, hq => exact hx pins σ H1 s1 e s' I1 hq
    | .ok (.ret u), hq => exact I1.after hq
    | .ok .next, hq => exact False.elim hq
    | .ok .brk, hq => exact False.elim hq
    | .ok .cont, hq => exact False.elim hq) he hpl) hdb)⟩
end
/-! ### small words -/
theorem qT {Q : VK} {c : Prop} [Decidable c] {H : Hp} (hc : c) (q : Q (.bl true) H) : Q (.bl (decide c)) H := by
  rw [decide_eq_true hc]
  exact q
theorem qF {Q : VK} {c : Prop} [Decidable c] {H : Hp} (hc : ¬ c) (q : Q (.bl false) H) : Q (.bl (decide c)) H := by
  rw [decide_eq_false hc]
  exact q
theorem Ext.updD {H H1 : Hp} {p : Addr} {o : HO} (x : Ext H H1) (h : H p = none) : Ext H (upd H1 p o) := fun a u e => by
  rw [upd_ne (ne_of_none e h)]
  exact x a u e
/-- what a comprehension's element must leave: the list so far stands, what holds of it goes on -/
def LcN (D : Addr) (Pv : Nat → List V → Hp → Prop) (i : Nat) (y : V) (H4 : Hp) : Prop := ∃ acc, H4 D = some (.lst acc) ∧ acc.length < sizeLine ∧ ∃ ys, ys.length = i + 1 ∧ upd H4 D (.lst (acc ++ [y])) D = some (.lst ys) ∧ Pv (i + 1) ys (upd H4 D (.lst (acc ++ [y])))
theorem LcN.mk {D : Addr} {Pv : Nat → List V → Hp → Prop} {i : Nat} {ys : List V} {y : V} {H4 : Hp} (hl : ys.length = i) (hi : i < 1000) (hD : H4 D = some (.lst ys)) (h : Pv (i + 1) (ys ++ [y]) (upd H4 D (.lst (ys ++ [y])))) : LcN D Pv i y H4 :=
  ⟨ys, hD, small1000 (by omega), ys ++ [y], by rw [List.length_append, hl]; rfl, upd_same, h⟩
/-- a comprehension without tests by what holds of the list so far -/
theorem lc_acc {J : It} {n : Nat} {G : Hp → Prop} {Y : Nat → Hp → V → Hp → Prop} (w : Walk J n G Y) {g : TG} {te : TE} {vs : List Nat} {σ : L2.St} {H1 : Hp} {D : Addr} {Qd : Hp → Prop} (Pv : Nat → List V → Hp → Prop)
    (h0 : Pv 0 [] (upd H1 D (.lst []))) (hG : ∀ i ys H, i ≤ n → Pv i ys H → H D = some (.lst ys) → G H)
    (hs : ∀ i ys x H H', i < n → ys.length = i → Pv i ys H → H D = some (.lst ys) → Y i H x H' → g x (wipe σ vs) H' fun σ2 H2 => wipe σ2 vs = wipe σ vs ∧ te σ2 H2 (LcN D Pv i))
    (hd : ∀ ys H, ys.length = n → Pv n ys H → H D = some (.lst ys) → Qd H) :
    ∃ W : Nat → Nat → Hp → Prop, (∃ m, W 0 m (upd H1 D (.lst []))) ∧ ∀ i m H, W i m H →
      (J.stop i H ∧ Qd H) ∨ (J.go i H ∧ ∃ Nx : Hp → Prop, (∀ H', Nx H' → ∃ m', m' < m ∧ W (i + 1) m' H') ∧ ∀ x H', J.yld i H x H' → g x (wipe σ vs) H' fun σ2 H2 => wipe σ2 vs = wipe σ vs ∧ tYes σ2 H2 fun b H3 =>
        if b = true then te σ2 H3 fun y H4 => ∃ acc, H4 D = some (.lst acc) ∧ acc.length < sizeLine ∧ Nx (upd H4 D (.lst (acc ++ [y]))) else Nx H3) := by
  refine lc_it w (fun i H => ∃ ys, ys.length = i ∧ H D = some (.lst ys) ∧ Pv i ys H) ⟨[], rfl, upd_same, h0⟩ (fun i H hi z => ?_) (fun i x H H' hi z y => ?_) fun H z => ?_
  · obtain ⟨ys, _, hD, p⟩ := z
    exact hG i ys H hi p hD
  · obtain ⟨ys, hl, hD, p⟩ := z
    have q := hs i ys x H H' hi hl p hD y
    simp only [tYes, if_true]
    exact q
  · obtain ⟨ys, hl, hD, p⟩ := z
    exact hd ys H hl p hD
end ZL
set_option Elab.async false
set_option linter.all false
set_option maxRecDepth 100000
set_option maxHeartbeats 4000000
/-! The value layer: what a def computes, told by plain values. -/
namespace PV
open PySem PySem.Spec PyProof.Rows L2 ZL
/-- a plain value; lst, obj: lists and instances that are never written again; loc: one that may be -/
inductive D where
  | non | bl (b : Bool) | int (i : Int) | str (x : Str)
  | tup (xs : List D) | lst (xs : List D) | obj (c : String) (fs : List (String × D))
  | loc (n : Nat) | cls (c : String) | fnc (f : String) | ty (n : String)
  | src (xs : List D) | dic0 | hob (o : HO) | exc (c : String) (fs : List (String × D))
/-- what may be written -/
inductive Cell where
  | lst (xs : List D) | ins (c : String) (fs : List (String × D)) | dead | dic (es : List (Str × D))
/-- at a: a caught exception of the class cls, its fields at dd -/
def ExV (cls : Value) (dd : Option Addr) (a : Addr) : HO := .ext fun h => ∃ (oe : Obj) (vs : Array Value), h.get? a = some oe ∧ Zc cls dd oe ∧ oe.data = .fields vs
/-- the tables of code objects that may grow, each with the name of what it holds: those that the written part leaves out -/
def tbs (K : PySem.W.Frag) : List (Addr × Str) := K.filterMap fun e => match e.2.data with
  | .func fd => (match fd.code with
    | .ref c => (match K.lookup c with
      | some ⟨_, _, .fields vs, _⟩ => (match (vs[11]? : Option Value) with
        | some (.ref P) => (match K.lookup P with
          | none => some (P, fd.qualname ++ ".<locals>." ++ "<lambda>")
          | some _ => none)
        | _ => none)
      | _ => none)
    | _ => none)
  | _ => none
abbrev NoT (o : HO) : Prop := ∀ ps, o ≠ .tbl ps
abbrev Sto := List Cell
/-- the ghost: what is never written again, and where the cells stand -/
structure Gh where
  F : Hp
  f : Nat → Option Addr
def Gh.le (G G' : Gh) : Prop := (∀ a o, G.F a = some o → G'.F a = some o) ∧ ∀ n a, G.f n = some a → G'.f n = some a
theorem Gh.le.refl {G : Gh} : G.le G := ⟨fun _ _ h => h, fun _ _ h => h⟩
theorem Gh.le.trans {G G' G'' : Gh} (a : G.le G') (b : G'.le G'') : G.le G'' := ⟨fun x o h => b.1 x o (a.1 x o h), fun n x h => b.2 n x (a.2 n x h)⟩
mutual
inductive Rp (K : PySem.W.Frag) (G : Gh) : D → V → Prop where
  | non : Rp K G .non .non
  | bl (b : Bool) : Rp K G (.bl b) (.bl b)
  | int (i : Int) : Rp K G (.int i) (.int i)
  | str (x : Str) : Rp K G (.str x) (.str x)
  | tup {xs : List D} {a : Addr} {vs : List V} (h : SqT K G.F a vs) (r : Rps K G xs vs) : Rp K G (.tup xs) (.ref a)
  | lst {xs : List D} {a : Addr} {vs : List V} (h : G.F a = some (.lst vs)) (r : Rps K G xs vs) : Rp K G (.lst xs) (.ref a)
  | obj {c : String} {fs : List (String × D)} {a dx : Addr} {ws : List (Str × V)} (h : G.F a = some (.ins (He.ga K (Str.ofString c)) dx ws)) (r : Rpf K G fs ws) : Rp K G (.obj c fs) (.ref a)
  | loc {n : Nat} {a : Addr} (h : G.f n = some a) : Rp K G (.loc n) (.ref a)
  | cls (c : String) : Rp K G (.cls c) (.ref (He.ga K (Str.ofString c)))
  | fnc (f : String) : Rp K G (.fnc f) (.ref (He.ga K (Str.ofString f)))
  | ty (n : String) : Rp K G (.ty n) (.ty n)
  | src {xs : List D} {a : Addr} {vs : List V} (h : SqL K G.F a vs) (r : Rps K G xs vs) : Rp K G (.src xs) (.ref a)
  | dic0 {a : Addr} (h : G.F a = some (.dK [])) : Rp K G .dic0 (.ref a)
  | hob {o : HO} {a : Addr} (h : G.F a = some o) : Rp K G (.hob o) (.ref a)
  | exc0 {c : String} {a : Addr} (h : G.F a = some (ExV (.ref (He.ga K (Str.ofString c))) none a)) : Rp K G (.exc c []) (.ref a)
  | exc {c : String} {fs : List (String × D)} {a d : Addr} {ws : List (Str × V)} (h : G.F a = some (ExV (.ref (He.ga K (Str.ofString c))) (some d) a)) (hd : G.F d = some (.xd ws)) (r : Rpf K G fs ws) : Rp K G (.exc c fs) (.ref a)
inductive Rps (K : PySem.W.Frag) (G : Gh) : List D → List V → Prop where
  | nil : Rps K G [] []
  | cons {d : D} {v : V} {xs : List D} {vs : List V} (h : Rp K G d v) (t : Rps K G xs vs) : Rps K G (d :: xs) (v :: vs)
inductive Rpf (K : PySem.W.Frag) (G : Gh) : List (String × D) → List (Str × V) → Prop where
  | nil : Rpf K G [] []
  | cons {n : String} {d : D} {v : V} {fs : List (String × D)} {ws : List (Str × V)} (h : Rp K G d v) (t : Rpf K G fs ws) : Rpf K G ((n, d) :: fs) ((Str.ofString n, v) :: ws)
end
theorem SqT.mono {K : PySem.W.Frag} {F F' : Hp} {a : Addr} {vs : List V} (h : SqT K F a vs) (le : ∀ a o, F a = some o → F' a = some o) : SqT K F' a vs := by
  rcases h with (h | ⟨o, h⟩) | h
  · exact .inl (.inl (le _ _ h))
  · exact .inl (.inr ⟨o, le _ _ h⟩)
  · exact .inr h
theorem SqL.mono {K : PySem.W.Frag} {F F' : Hp} {a : Addr} {vs : List V} (h : SqL K F a vs) (le : ∀ a o, F a = some o → F' a = some o) : SqL K F' a vs := by
  rcases h with (h | ⟨o, h⟩) | h
  · exact .inl (.inl (le _ _ h))
  · exact .inl (.inr ⟨o, le _ _ h⟩)
  · exact .inr h
section
variable {K : PySem.W.Frag} {G G' : Gh}
theorem Rp.mono {d : D} {v : V} (h : Rp K G d v) (le : G.le G') : Rp K G' d v :=
  Rp.rec (motive_1 := fun d v _ => Rp K G' d v) (motive_2 := fun xs vs _ => Rps K G' xs vs) (motive_3 := fun fs ws _ => Rpf K G' fs ws)
    .non .bl .int .str (fun h _ r => .tup (SqT.mono h le.1) r) (fun h _ r => .lst (le.1 _ _ h) r) (fun h _ r => .obj (le.1 _ _ h) r) (fun h => .loc (le.2 _ _ h)) .cls .fnc .ty (fun h _ r => .src (SqL.mono h le.1) r) (fun h => .dic0 (le.1 _ _ h)) (fun h => .hob (le.1 _ _ h)) (fun h => .exc0 (le.1 _ _ h)) (fun h hd _ r => .exc (le.1 _ _ h) (le.1 _ _ hd) r) .nil (fun _ _ a b => .cons a b) .nil (fun _ _ a b => .cons a b) h
theorem Rps.mono {xs : List D} {vs : List V} (h : Rps K G xs vs) (le : G.le G') : Rps K G' xs vs := by
  induction xs generalizing vs with
  | nil => cases h; exact .nil
  | cons x xs ih => cases h with | cons a b => exact .cons (a.mono le) (ih b)
theorem Rpf.mono {fs : List (String × D)} {ws : List (Str × V)} (h : Rpf K G fs ws) (le : G.le G') : Rpf K G' fs ws := by
  induction fs generalizing ws with
  | nil => cases h; exact .nil
  | cons x xs ih => cases h with | cons a b => exact .cons (a.mono le) (ih b)
theorem Rps.length {xs : List D} {vs : List V} (h : Rps K G xs vs) : vs.length = xs.length := by
  induction xs generalizing vs with
  | nil => cases h; rfl
  | cons x xs ih => cases h with | cons a b => simp [ih b]
theorem Rps.get {xs : List D} {vs : List V} {i : Nat} {d : D} (h : Rps K G xs vs) (e : xs[i]? = some d) : ∃ v, vs[i]? = some v ∧ Rp K G d v := by
  induction xs generalizing vs i with
  | nil => simp at e
  | cons x xs ih =>
    cases h with
    | cons a b =>
      cases i with
      | zero => simp at e; subst e; exact ⟨_, rfl, a⟩
      | succ i => obtain ⟨v, h1, h2⟩ := ih b (by simpa using e); exact ⟨v, by simpa using h1, h2⟩
theorem Rps.get' {xs : List D} {vs : List V} {i : Nat} {v : V} (h : Rps K G xs vs) (e : vs[i]? = some v) : ∃ d, xs[i]? = some d ∧ Rp K G d v := by
  induction xs generalizing vs i with
  | nil => cases h; simp at e
  | cons x xs ih =>
    cases h with
    | cons a b =>
      cases i with
      | zero => simp at e; subst e; exact ⟨_, rfl, a⟩
      | succ i => obtain ⟨v, h1, h2⟩ := ih b (by simpa using e); exact ⟨v, by simpa using h1, h2⟩
theorem Rps.append {xs ys : List D} {vs ws : List V} (h : Rps K G xs vs) (h' : Rps K G ys ws) : Rps K G (xs ++ ys) (vs ++ ws) := by
  induction xs generalizing vs with
  | nil => cases h; exact h'
  | cons x xs ih => cases h with | cons a b => exact .cons a (ih b)
theorem Rps.take {xs : List D} {vs : List V} (n : Nat) (h : Rps K G xs vs) : Rps K G (xs.take n) (vs.take n) := by
  induction xs generalizing vs n with
  | nil => cases h; simp; exact .nil
  | cons x xs ih =>
    cases h with
    | cons a b =>
      cases n with
      | zero => exact .nil
      | succ n => exact .cons a (ih n b)
theorem Rps.drop {xs : List D} {vs : List V} (n : Nat) (h : Rps K G xs vs) : Rps K G (xs.drop n) (vs.drop n) := by
  induction xs generalizing vs n with
  | nil => cases h; simp; exact .nil
  | cons x xs ih =>
    cases h with
    | cons a b =>
      cases n with
      | zero => exact .cons a b
      | succ n => exact ih n b
theorem Rps.rev {xs : List D} {vs : List V} (h : Rps K G xs vs) : Rps K G xs.reverse vs.reverse := by
  induction xs generalizing vs with
  | nil => cases h; exact .nil
  | cons x xs ih => cases h with | cons a b => simp; exact (ih b).append (.cons a .nil)
theorem Rps.set {xs : List D} {vs : List V} {d : D} {v : V} (i : Nat) (h : Rps K G xs vs) (r : Rp K G d v) : Rps K G (xs.set i d) (vs.set i v) := by
  induction xs generalizing vs i with
  | nil => cases h; exact .nil
  | cons x xs ih =>
    cases h with
    | cons a b =>
      cases i with
      | zero => exact .cons r b
      | succ i => exact .cons a (ih i b)
theorem Rps.rep {d : D} {v : V} (r : Rp K G d v) : ∀ n : Nat, Rps K G (List.replicate n d) (List.replicate n v)
  | 0 => .nil
  | n + 1 => .cons r (Rps.rep r n)
theorem Rpf.get {fs : List (String × D)} {ws : List (Str × V)} {n : String} {d : D} (h : Rpf K G fs ws) (e : fs.lookup n = some d) (inj : ∀ p ∈ fs, Str.ofString p.1 = Str.ofString n → p.1 = n) : ∃ v, ws.lookup (Str.ofString n) = some v ∧ Rp K G d v := by
  induction fs generalizing ws with
  | nil => simp at e
  | cons x xs ih =>
    cases h with
    | @cons m d' v' _ ws' a b =>
      by_cases hm : n = m
      · subst hm
        simp at e
        subst e
        exact ⟨v', by simp, a⟩
      · have h1 : (n == m) = false := by simpa using hm
        rw [List.lookup_cons, h1] at e
        obtain ⟨v, p, q⟩ := ih b e fun p hp => inj p (List.mem_cons_of_mem _ hp)
        refine ⟨v, ?_, q⟩
        have h2 : (Str.ofString n == Str.ofString m) = false := by
          apply beq_eq_false_iff_ne.mpr
          intro z
          exact hm (inj (m, d') List.mem_cons_self z.symm).symm
        rw [List.lookup_cons, h2]
        exact p
end
/-- a dict by texts -/
inductive Rpk (K : PySem.W.Frag) (G : Gh) : List (Str × D) → List (Key × V) → Prop where
  | nil : Rpk K G [] []
  | cons {x : Str} {d : D} {v : V} {es : List (Str × D)} {kvs : List (Key × V)} (h : Rp K G d v) (t : Rpk K G es kvs) : Rpk K G ((x, d) :: es) ((.inr x, v) :: kvs)
theorem Rpk.mono {K : PySem.W.Frag} {G G' : Gh} {es : List (Str × D)} {kvs : List (Key × V)} (h : Rpk K G es kvs) (le : G.le G') : Rpk K G' es kvs := by
  induction h with
  | nil => exact .nil
  | cons a _ ih => exact .cons (a.mono le) ih
/-- tables and what they lead to stay -/
def Soft (H H' : Hp) : Prop := ∀ b o, H b = some o → ((∃ ps, o = .tbl ps) ∨ ∃ φ, o = .ext φ) → H' b = some o
theorem tabs_soft {T : List (Addr × Str)} {H H' : Hp} (t : LamX.Tabs T H) (e : Soft H H') : LamX.Tabs T H' := fun p hp => by
  obtain ⟨ps, h1, h2, h3⟩ := t p hp
  refine ⟨ps, e _ _ h1 (.inl ⟨ps, rfl⟩), h2, fun pos cv hc => ?_⟩
  obtain ⟨c, e1, e2⟩ := h3 pos cv hc
  exact ⟨c, e1, e _ _ e2 (.inr ⟨_, rfl⟩)⟩
theorem Soft.ext {H H' : Hp} (e : Ext H H') : Soft H H' := fun b o h _ => e b o h
theorem Soft.upd {H : Hp} {p : Addr} {o : HO} (h : ∀ u, H p = some u → (∀ ps, u ≠ .tbl ps) ∧ ∀ φ, u ≠ .ext φ) : Soft H (upd H p o) := fun b u e k => by
  rw [upd_ne fun z => ?_]
  · exact e
  · subst z
    rcases k with ⟨ps, k⟩ | ⟨φ, k⟩
    · exact (h u e).1 ps k
    · exact (h u e).2 φ k
theorem Soft.fresh {H : Hp} {p : Addr} {o : HO} (h : H p = none) : Soft H (L2.upd H p o) := Soft.upd fun u e => by rw [h] at e; cases e
/-! ### the state -/
def CellOk (K : PySem.W.Frag) (G : Gh) (H : Hp) (a : Addr) : Cell → Prop
  | .lst xs => ∃ vs, H a = some (.lst vs) ∧ Rps K G xs vs
  | .ins c fs => ∃ dx ws, H a = some (.ins (He.ga K (Str.ofString c)) dx ws) ∧ Rpf K G fs ws
  | .dead => True
  | .dic es => ∃ kvs, H a = some (.dK kvs) ∧ Rpk K G es kvs
structure Sm (K : PySem.W.Frag) (G : Gh) (S : Sto) (H : Hp) : Prop where
  fr : ∀ a o, G.F a = some o → H a = some o
  cel : ∀ (n : Nat) (c : Cell), S[n]? = some c → c ≠ .dead → ∃ a, G.f n = some a ∧ G.F a = none ∧ CellOk K G H a c
  dom : ∀ n a, G.f n = some a → n < S.length
  inj : ∀ n m a, G.f n = some a → G.f m = some a → n = m
  dn : ∀ n a, G.f n = some a → ∃ o, H a = some o ∧ NoT o
  nt : ∀ a o, G.F a = some o → NoT o
  tb : LamX.Tabs (tbs K) H
theorem CellOk.mono {K : PySem.W.Frag} {G G' : Gh} {H H' : Hp} {a : Addr} {c : Cell} (h : CellOk K G H a c) (le : G.le G') (e : ∀ o, H a = some o → H' a = some o) : CellOk K G' H' a c := by
  cases c with
  | lst xs => obtain ⟨vs, h1, h2⟩ := h; exact ⟨vs, e _ h1, h2.mono le⟩
  | ins c fs => obtain ⟨dx, ws, h1, h2⟩ := h; exact ⟨dx, ws, e _ h1, h2.mono le⟩
  | dead => trivial
  | dic es => obtain ⟨kvs, h1, h2⟩ := h; exact ⟨kvs, e _ h1, h2.mono le⟩
theorem CellOk.hard {K : PySem.W.Frag} {G : Gh} {H : Hp} {a : Addr} {c : Cell} (h : CellOk K G H a c) (nd : c ≠ .dead) : ∃ o, H a = some o ∧ (∀ ps, o ≠ .tbl ps) ∧ ∀ φ, o ≠ .ext φ := by
  cases c with
  | lst xs => obtain ⟨vs, h1, _⟩ := h; exact ⟨_, h1, (fun _ z => by cases z), (fun _ z => by cases z)⟩
  | ins c fs => obtain ⟨dx, ws, h1, _⟩ := h; exact ⟨_, h1, (fun _ z => by cases z), (fun _ z => by cases z)⟩
  | dead => exact absurd rfl nd
  | dic es => obtain ⟨kvs, h1, _⟩ := h; exact ⟨_, h1, (fun _ z => by cases z), (fun _ z => by cases z)⟩
theorem CellOk.has {K : PySem.W.Frag} {G : Gh} {H : Hp} {a : Addr} {c : Cell} (h : CellOk K G H a c) (nd : c ≠ .dead) : ∃ o, H a = some o := by
  cases c with
  | lst xs => obtain ⟨vs, h1, _⟩ := h; exact ⟨_, h1⟩
  | ins c fs => obtain ⟨dx, ws, h1, _⟩ := h; exact ⟨_, h1⟩
  | dead => exact absurd rfl nd
  | dic es => obtain ⟨kvs, h1, _⟩ := h; exact ⟨_, h1⟩
section
variable {K : PySem.W.Frag} {G G' : Gh} {S : Sto} {H H' : Hp}
theorem Sm.ext (m : Sm K G S H) (e : Ext H H') : Sm K G S H' where
  fr := fun a o h => e _ _ (m.fr a o h)
  cel := fun n c h nd => by
    obtain ⟨a, h1, h2, h3⟩ := m.cel n c h nd
    exact ⟨a, h1, h2, h3.mono .refl fun o => e _ _⟩
  dom := m.dom
  inj := m.inj
  dn := fun n a h => let ⟨o, z, y⟩ := m.dn n a h; ⟨o, e _ _ z, y⟩
  nt := m.nt
  tb := tabs_soft m.tb (.ext e)
/-- the ghost with one more thing that is never written -/
def Gh.put (G : Gh) (p : Addr) (o : HO) : Gh := ⟨upd G.F p o, G.f⟩
theorem Gh.put_le {G : Gh} {p : Addr} {o : HO} (h : G.F p = none) : G.le (G.put p o) := ⟨fun a u e => by
  show upd G.F p o a = _
  rw [upd_ne (ne_of_none e h)]
  exact e, fun _ _ h => h⟩
theorem Sm.free (m : Sm K G S H) {p : Addr} (h : H p = none) : G.F p = none := by
  cases e : G.F p with
  | none => rfl
  | some o => rw [m.fr _ _ e] at h; cases h
theorem Gh.put_nt {G : Gh} {p : Addr} {o : HO} (m : ∀ a o, G.F a = some o → NoT o) (ht : NoT o) : ∀ a u, (G.put p o).F a = some u → NoT u := fun a u e => by
  have e' : upd G.F p o a = some u := e
  by_cases z : a = p
  · rw [z, upd_same] at e'
    cases e'
    exact ht
  · rw [upd_ne z] at e'
    exact m a u e'
theorem Sm.put (m : Sm K G S H) {p : Addr} {o : HO} (h : H p = none) (ht : NoT o := by intro _ z; cases z) : Sm K (G.put p o) S (upd H p o) where
  fr := fun a u e => by
    by_cases q : a = p
    · subst q
      rw [upd_same]
      have e' : upd G.F a o a = some u := e
      rw [upd_same] at e'
      exact e'
    · have e' : upd G.F p o a = some u := e
      rw [upd_ne q] at e'
      rw [upd_ne q]
      exact m.fr _ _ e'
  cel := fun n c e nd => by
    obtain ⟨a, h1, h2, h3⟩ := m.cel n c e nd
    obtain ⟨u, hu⟩ := h3.has nd
    have na := ne_of_none hu h
    refine ⟨a, h1, ?_, h3.mono (Gh.put_le (m.free h)) fun o' q => by rw [upd_ne na]; exact q⟩
    show upd G.F p o a = none
    rw [upd_ne na]
    exact h2
  dom := m.dom
  inj := m.inj
  dn := fun n a e => by
    obtain ⟨u, hu, nu⟩ := m.dn n a e
    exact ⟨u, by rw [upd_ne (ne_of_none hu h)]; exact hu, nu⟩
  nt := Gh.put_nt m.nt ht
  tb := tabs_soft m.tb (.fresh h)
/-- a new cell -/
def Gh.new (G : Gh) (n : Nat) (p : Addr) : Gh := ⟨G.F, fun m => if m = n then some p else G.f m⟩
theorem Gh.new_at {G : Gh} {n : Nat} {p : Addr} : (G.new n p).f n = some p := if_pos rfl
theorem Sm.new_le (m : Sm K G S H) {p : Addr} : G.le (G.new S.length p) := ⟨fun _ _ h => h, fun n a h => by
  have := m.dom n a h
  show (if n = S.length then some p else G.f n) = some a
  rw [if_neg (by omega)]
  exact h⟩
theorem Sm.addr (m : Sm K G S H) {n : Nat} {c : Cell} {a : Addr} (h : S[n]? = some c) (nd : c ≠ .dead) (e : G.f n = some a) : G.F a = none ∧ CellOk K G H a c := by
  obtain ⟨b, h1, h2, h3⟩ := m.cel n c h nd
  rw [h1] at e
  have e' := Option.some.inj e
  subst e'
  exact ⟨h2, h3⟩
theorem Sm.new (m : Sm K G S H) {p : Addr} {o : HO} {c : Cell} (h : H p = none) (hc : CellOk K (G.new S.length p) (upd H p o) p c) (ht : NoT o := by intro _ z; cases z) : Sm K (G.new S.length p) (S ++ [c]) (upd H p o) where
  fr := fun a u e => by
    have := m.fr a u e
    rw [upd_ne (ne_of_none this h)]
    exact this
  cel := fun n c' e nd => by
    by_cases q : n < S.length
    · rw [List.getElem?_append_left q] at e
      obtain ⟨a, h1, h2, h3⟩ := m.cel n c' e nd
      obtain ⟨u, hu⟩ := h3.has nd
      have na := ne_of_none hu h
      exact ⟨a, m.new_le.2 _ _ h1, h2, h3.mono m.new_le fun o' q => by rw [upd_ne na]; exact q⟩
    · have q2 : n = S.length := by
        have : n < (S ++ [c]).length := (List.getElem?_eq_some_iff.mp e).1
        simp at this
        omega
      subst q2
      simp at e
      subst e
      exact ⟨p, Gh.new_at, m.free h, hc⟩
  dom := fun n a e => by
    simp
    by_cases q : n = S.length
    · omega
    · have e' : (if n = S.length then some p else G.f n) = some a := e
      rw [if_neg q] at e'
      have := m.dom n a e'
      omega
  inj := fun n k a e1 e2 => by
    have e1' : (if n = S.length then some p else G.f n) = some a := e1
    have e2' : (if k = S.length then some p else G.f k) = some a := e2
    by_cases q1 : n = S.length
    · by_cases q2 : k = S.length
      · omega
      · rw [if_pos q1] at e1'
        rw [if_neg q2] at e2'
        cases e1'
        obtain ⟨o, ho, _⟩ := m.dn _ _ e2'
        rw [h] at ho
        cases ho
    · by_cases q2 : k = S.length
      · rw [if_neg q1] at e1'
        rw [if_pos q2] at e2'
        cases e2'
        obtain ⟨o, ho, _⟩ := m.dn _ _ e1'
        rw [h] at ho
        cases ho
      · rw [if_neg q1] at e1'
        rw [if_neg q2] at e2'
        exact m.inj _ _ _ e1' e2'
  dn := fun n a e => by
    have e' : (if n = S.length then some p else G.f n) = some a := e
    by_cases q : n = S.length
    · rw [if_pos q] at e'
      cases e'
      exact ⟨o, upd_same, ht⟩
    · rw [if_neg q] at e'
      obtain ⟨u, hu, nu⟩ := m.dn n a e'
      exact ⟨u, by rw [upd_ne (ne_of_none hu h)]; exact hu, nu⟩
  nt := m.nt
  tb := tabs_soft m.tb (.fresh h)
/-- a cell is written -/
theorem Sm.write (m : Sm K G S H) {n : Nat} {a : Addr} {c c' : Cell} {o : HO} (h : S[n]? = some c) (nd : c ≠ .dead) (e : G.f n = some a) (hc : CellOk K G (upd H a o) a c') (ht : NoT o := by intro _ z; cases z) : Sm K G (S.set n c') (upd H a o) where
  fr := fun b u q => by
    have hF := (m.addr h nd e).1
    rw [upd_ne (ne_of_none q hF)]
    exact m.fr _ _ q
  cel := fun k d q nd' => by
    by_cases hk : n = k
    · subst hk
      have hl : n < S.length := (List.getElem?_eq_some_iff.mp h).1
      rw [List.getElem?_set_self hl] at q
      cases q
      exact ⟨a, e, (m.addr h nd e).1, hc⟩
    · rw [List.getElem?_set_ne hk] at q
      obtain ⟨b, h1, h2, h3⟩ := m.cel k d q nd'
      have nb : b ≠ a := fun z => by
        subst z
        exact hk (m.inj _ _ _ e h1)
      exact ⟨b, h1, h2, h3.mono .refl fun o' z => by rw [upd_ne nb]; exact z⟩
  dom := fun k b q => by
    rw [List.length_set]
    exact m.dom k b q
  inj := m.inj
  dn := fun k b q => by
    by_cases z : b = a
    · exact ⟨o, by rw [z]; exact upd_same, ht⟩
    · obtain ⟨u, hu, nu⟩ := m.dn k b q
      exact ⟨u, by rw [upd_ne z]; exact hu, nu⟩
  nt := m.nt
  tb := tabs_soft m.tb (.upd fun u hu => by
    obtain ⟨o1, e1, n1⟩ := (m.addr h nd e).2.hard nd
    rw [hu] at e1
    cases e1
    exact n1)
/-- an instance is written no more -/
theorem Sm.freeze (m : Sm K G S H) {n : Nat} {a : Addr} {c : Cell} {o : HO} (h : S[n]? = some c) (nd : c ≠ .dead) (e : G.f n = some a) (ho : H a = some o) (ht : NoT o := by intro _ z; cases z) : Sm K (G.put a o) (S.set n .dead) H where
  fr := fun b u q => by
    have q' : upd G.F a o b = some u := q
    by_cases z : b = a
    · subst z
      rw [upd_same] at q'
      rw [← q']
      exact ho
    · rw [upd_ne z] at q'
      exact m.fr _ _ q'
  cel := fun k d q nd' => by
    by_cases hk : n = k
    · subst hk
      have hl : n < S.length := (List.getElem?_eq_some_iff.mp h).1
      rw [List.getElem?_set_self hl] at q
      cases q
      exact absurd rfl nd'
    · rw [List.getElem?_set_ne hk] at q
      obtain ⟨b, h1, h2, h3⟩ := m.cel k d q nd'
      have nb : b ≠ a := fun z => by
        subst z
        exact hk (m.inj _ _ _ e h1)
      refine ⟨b, h1, ?_, h3.mono (Gh.put_le (m.addr h nd e).1) fun o' z => z⟩
      show upd G.F a o b = none
      rw [upd_ne nb]
      exact h2
  dom := fun k b q => by
    rw [List.length_set]
    exact m.dom k b q
  inj := m.inj
  dn := m.dn
  nt := Gh.put_nt m.nt ht
  tb := m.tb
end
/-- from a state to a later one: what is no cell stays, new cells are new -/
structure Stp (G : Gh) (H : Hp) (G' : Gh) (H' : Hp) : Prop where
  le : G.le G'
  dom : ∀ a o, H a = some o → NoT o → ∃ o', H' a = some o' ∧ NoT o'
  frm : ∀ a o, H a = some o → NoT o → (∀ n, G.f n ≠ some a) → H' a = some o
  new : ∀ n a, G'.f n = some a → G.f n = some a ∨ Fr0 H a
  fro : ∀ a o, G'.F a = some o → G.F a = some o ∨ Fr0 H a ∨ ∃ n, G.f n = some a
theorem fr0_not {H : Hp} {a : Addr} {o : HO} (z : Fr0 H a) (h : H a = some o) (nt : NoT o) : False := by
  obtain ⟨ps, e⟩ := z o h
  exact nt ps e
section
variable {K : PySem.W.Frag} {G G' G'' : Gh} {S : Sto} {H H' H'' : Hp}
theorem Stp.refl : Stp G H G H := ⟨.refl, fun _ o h n => ⟨o, h, n⟩, fun _ _ h _ _ => h, fun _ _ h => .inl h, fun _ _ h => .inl h⟩
theorem Stp.none_of (x : Stp G H G' H') {a : Addr} (q : Fr0 H' a) : Fr0 H a := fun o h => by
  by_cases nt : NoT o
  · obtain ⟨o', h', n'⟩ := x.dom a o h nt
    exact (fr0_not q h' n').elim
  · exact Classical.byContradiction fun z => nt fun ps e => z ⟨ps, e⟩
theorem Stp.trans (x : Stp G H G' H') (y : Stp G' H' G'' H'') : Stp G H G'' H'' where
  le := x.le.trans y.le
  dom := fun a o h n => let ⟨o', h', n'⟩ := x.dom a o h n; y.dom a o' h' n'
  frm := fun a o h nt hn => y.frm a o (x.frm a o h nt hn) nt fun n e => by
    rcases x.new n a e with q | q
    · exact hn n q
    · exact fr0_not q h nt
  new := fun n a e => by
    rcases y.new n a e with q | q
    · exact x.new n a q
    · exact .inr (x.none_of q)
  fro := fun a o e => by
    rcases y.fro a o e with q | q | ⟨n, q⟩
    · exact x.fro a o q
    · exact .inr (.inl (x.none_of q))
    · rcases x.new n a q with q | q
      · exact .inr (.inr ⟨n, q⟩)
      · exact .inr (.inl q)
theorem Stp.ext (e : Ext H H') : Stp G H G H' := ⟨.refl, fun _ o h n => ⟨o, e _ _ h, n⟩, fun _ _ h _ _ => e _ _ h, fun _ _ h => .inl h, fun _ _ h => .inl h⟩
theorem Stp.put {p : Addr} {o : HO} (sm : Sm K G S H) (hp : H p = none) : Stp G H (G.put p o) (upd H p o) :=
  ⟨Gh.put_le (sm.free hp), fun a u h n => ⟨u, by rw [upd_ne (ne_of_none h hp)]; exact h, n⟩, fun a u h _ _ => by rw [upd_ne (ne_of_none h hp)]; exact h, fun _ _ h => .inl h, fun a u h => by
    have h' : upd G.F p o a = some u := h
    by_cases z : a = p
    · exact .inr (.inl (by rw [z]; exact fr0_none hp))
    · rw [upd_ne z] at h'
      exact .inl h'⟩
theorem Stp.cell {p : Addr} {o : HO} (sm : Sm K G S H) (hp : H p = none) : Stp G H (G.new S.length p) (upd H p o) :=
  ⟨sm.new_le, fun a u h n => ⟨u, by rw [upd_ne (ne_of_none h hp)]; exact h, n⟩, fun a u h _ _ => by rw [upd_ne (ne_of_none h hp)]; exact h, fun n a h => by
    have h' : (if n = S.length then some p else G.f n) = some a := h
    by_cases q : n = S.length
    · rw [if_pos q] at h'
      cases h'
      exact .inr (fr0_none hp)
    · rw [if_neg q] at h'
      exact .inl h', fun _ _ h => .inl h⟩
theorem Stp.write {n : Nat} {a : Addr} {o : HO} (e : G.f n = some a) (ht : NoT o := by intro _ z; cases z) : Stp G H G (upd H a o) :=
  ⟨.refl, fun b u h nt => by
    by_cases z : b = a
    · exact ⟨o, by rw [z]; exact upd_same, ht⟩
    · exact ⟨u, by rw [upd_ne z]; exact h, nt⟩, fun b u h _ hn => by
    have z : b ≠ a := fun z => hn n (by rw [z]; exact e)
    rw [upd_ne z]
    exact h, fun _ _ h => .inl h, fun _ _ h => .inl h⟩
theorem Stp.freeze {n : Nat} {a : Addr} {o : HO} (hn : G.f n = some a) (h : G.F a = none) : Stp G H (G.put a o) H := ⟨Gh.put_le h, fun _ o h n => ⟨o, h, n⟩, fun _ _ h _ _ => h, fun _ _ h => .inl h, fun b u e => by
  have e' : upd G.F a o b = some u := e
  by_cases z : b = a
  · exact .inr (.inr ⟨n, by rw [z]; exact hn⟩)
  · rw [upd_ne z] at e'
    exact .inl e'⟩
/-- what was free at the start may be written -/
theorem Stp.at {p : Addr} {o : HO} (x : Stp G H G' H') (hp : H p = none) : Stp G H G' (upd H' p o) :=
  ⟨x.le, fun a u h n => by
    obtain ⟨u', h', n'⟩ := x.dom a u h n
    exact ⟨u', by rw [upd_ne (ne_of_none h hp)]; exact h', n'⟩, fun a u h nt hn => by
    rw [upd_ne (ne_of_none h hp)]
    exact x.frm a u h nt hn, x.new, x.fro⟩
theorem Stp.add {p : Addr} {o : HO} (x : Stp G H G' H') (hp : H p = none) (hF : G'.F p = none) : Stp G H (G'.put p o) H' :=
  ⟨x.le.trans (Gh.put_le hF), x.dom, x.frm, x.new, fun a u h => by
    have h' : upd G'.F p o a = some u := h
    by_cases z : a = p
    · exact .inr (.inl (by rw [z]; exact fr0_none hp))
    · rw [upd_ne z] at h'
      exact x.fro a u h'⟩
/-- what is no cell and not told may be written -/
theorem Sm.other {p : Addr} {o : HO} (m : Sm K G S H) (hF : G.F p = none) (hc : ∀ n, G.f n ≠ some p) (hh : ∀ u, H p = some u → (∀ ps, u ≠ .tbl ps) ∧ ∀ φ, u ≠ .ext φ) : Sm K G S (upd H p o) where
  fr := fun a u e => by rw [upd_ne (ne_of_none e hF)]; exact m.fr a u e
  cel := fun n c e nd => by
    obtain ⟨a, h1, h2, h3⟩ := m.cel n c e nd
    exact ⟨a, h1, h2, h3.mono .refl fun o' q => by rw [upd_ne fun z => hc n (by rw [← z]; exact h1)]; exact q⟩
  dom := m.dom
  inj := m.inj
  dn := fun n a e => by
    obtain ⟨u, hu, nu⟩ := m.dn n a e
    exact ⟨u, by rw [upd_ne fun z => hc n (by rw [← z]; exact e)]; exact hu, nu⟩
  nt := m.nt
  tb := tabs_soft m.tb (.upd hh)
/-- .. and told from now on -/
theorem Sm.tell {p : Addr} {o : HO} (m : Sm K G S H) (hp : H p = some o) (hc : ∀ n, G.f n ≠ some p) (ht : NoT o := by intro _ z; cases z) : Sm K (G.put p o) S H where
  fr := fun a u e => by
    have e' : upd G.F p o a = some u := e
    by_cases z : a = p
    · subst z
      rw [upd_same] at e'
      rw [← e']
      exact hp
    · rw [upd_ne z] at e'
      exact m.fr a u e'
  cel := fun n c e nd => by
    obtain ⟨a, h1, h2, h3⟩ := m.cel n c e nd
    have z : a ≠ p := fun z => hc n (by rw [← z]; exact h1)
    have hF : ∀ b u, G.F b = some u → (G.put p o).F b = some u := fun b u q => by
      show upd G.F p o b = some u
      by_cases y : b = p
      · subst y
        have := m.fr _ _ q
        rw [hp] at this
        cases this
        exact upd_same
      · rw [upd_ne y]
        exact q
    refine ⟨a, h1, ?_, h3.mono ⟨hF, fun _ _ h => h⟩ fun _ q => q⟩
    show upd G.F p o a = none
    rw [upd_ne z]
    exact h2
  dom := m.dom
  inj := m.inj
  dn := m.dn
  nt := Gh.put_nt m.nt ht
  tb := m.tb
/-- what is no cell and not told becomes a cell -/
theorem Sm.adopt {p : Addr} {o : HO} {c : Cell} (m : Sm K G S H) (hp : H p = some o) (hF : G.F p = none) (hc : ∀ n, G.f n ≠ some p) (h : CellOk K (G.new S.length p) H p c) (ht : NoT o := by intro _ z; cases z) : Sm K (G.new S.length p) (S ++ [c]) H where
  fr := m.fr
  cel := fun n c' e nd => by
    by_cases q : n < S.length
    · rw [List.getElem?_append_left q] at e
      obtain ⟨a, h1, h2, h3⟩ := m.cel n c' e nd
      exact ⟨a, m.new_le.2 _ _ h1, h2, h3.mono m.new_le fun _ z => z⟩
    · have q2 : n = S.length := by
        have : n < (S ++ [c]).length := (List.getElem?_eq_some_iff.mp e).1
        simp at this
        omega
      subst q2
      simp at e
      subst e
      exact ⟨p, Gh.new_at, hF, h⟩
  dom := fun n a e => by
    simp
    by_cases q : n = S.length
    · omega
    · have e' : (if n = S.length then some p else G.f n) = some a := e
      rw [if_neg q] at e'
      have := m.dom n a e'
      omega
  inj := fun n k a e1 e2 => by
    have e1' : (if n = S.length then some p else G.f n) = some a := e1
    have e2' : (if k = S.length then some p else G.f k) = some a := e2
    by_cases q1 : n = S.length
    · by_cases q2 : k = S.length
      · omega
      · rw [if_pos q1] at e1'
        rw [if_neg q2] at e2'
        cases e1'
        exact absurd e2' (hc k)
    · by_cases q2 : k = S.length
      · rw [if_neg q1] at e1'
        rw [if_pos q2] at e2'
        cases e2'
        exact absurd e1' (hc n)
      · rw [if_neg q1] at e1'
        rw [if_neg q2] at e2'
        exact m.inj _ _ _ e1' e2'
  dn := fun n a e => by
    have e' : (if n = S.length then some p else G.f n) = some a := e
    by_cases q : n = S.length
    · rw [if_pos q] at e'
      cases e'
      exact ⟨o, hp, ht⟩
    · rw [if_neg q] at e'
      exact m.dn n a e'
  nt := m.nt
  tb := m.tb
end
end PV
set_option Elab.async false
set_option linter.all false
set_option maxRecDepth 100000
set_option maxHeartbeats 4000000
namespace PV
open PySem PySem.Spec PyProof.Rows L2 ZL
/-! ### how code ends -/
inductive Out (α : Type) where
  | ok (a : α) (S : Sto) | ex (c : String) (fs : List (String × D)) (S : Sto) | no
def Out.bind {α β : Type} (o : Out α) (k : α → Sto → Out β) : Out β := match o with
  | .ok a S => k a S
  | .ex c fs S => .ex c fs S
  | .no => .no
theorem bind_ok {α β : Type} {a : α} {S : Sto} {k : α → Sto → Out β} : (Out.ok a S).bind k = k a S := rfl
theorem bind_ex {α β : Type} {c : String} {fs : List (String × D)} {S : Sto} {k : α → Sto → Out β} : (Out.ex c fs S : Out α).bind k = .ex c fs S := rfl
theorem bind_no {α β : Type} {k : α → Sto → Out β} : (Out.no : Out α).bind k = .no := rfl
theorem bind_congr {α β : Type} {o o' : Out α} {k : α → Sto → Out β} (h : o = o') : o.bind k = o'.bind k := by rw [h]
abbrev Ev := List (Option D)
abbrev ME := Ev → Sto → Out D
abbrev MT := Ev → Sto → Out Bool
abbrev MA := Ev → Sto → Out (List D)
inductive Fl where
  | nx (ρ : Ev) | rt (d : D) | bk (ρ : Ev) | ct (ρ : Ev)
abbrev MS := Ev → Sto → Out Fl
abbrev Fn := List D → Sto → Out D
/-- an exception by its class and its fields -/
def ExR (K : PySem.W.Frag) (G : Gh) (c : String) (fs : List (String × D)) (cls : Value) (dd : Option Addr) : Prop :=
  cls = .ref (He.ga K (Str.ofString c)) ∧ ((fs = [] ∧ dd = none) ∨ ∃ d ws, dd = some d ∧ G.F d = some (.xd ws) ∧ Rpf K G fs ws)
/-- what is wanted where an exception goes -/
def wEx (K : PySem.W.Frag) (G : Gh) (H : Hp) (c : String) (fs : List (String × D)) (S : Sto) : XK := fun cls dd H' => ∃ G', Stp G H G' H' ∧ Sm K G' S H' ∧ ExR K G' c fs cls dd
theorem wEx.anti {K : PySem.W.Frag} {G G1 : Gh} {H H1 : Hp} {c : String} {fs : List (String × D)} {S : Sto} {cls : Value} {dd : Option Addr} {H' : Hp} (le : Stp G H G1 H1) (h : wEx K G1 H1 c fs S cls dd H') : wEx K G H c fs S cls dd H' := by
  obtain ⟨G', l, r⟩ := h
  exact ⟨G', le.trans l, r⟩
def sat {α β : Type} (X : Cx) (R : Gh → α → β → Prop) (G : Gh) (H : Hp) (o : Out α) (Q : β → Hp → Prop) : Prop := match o with
  | .ok a S' => ∀ G' H' b, Stp G H G' H' → Sm X.K G' S' H' → R G' a b → Q b H'
  | .ex c fs S' => Takes X (fun cls dd _ H' => wEx X.K G H c fs S' cls dd H')
  | .no => False
section
variable {X : Cx} {α β γ δ : Type} {R : Gh → α → β → Prop} {R' : Gh → γ → δ → Prop} {G G1 : Gh} {H H1 : Hp} {o : Out α} {Q Q' : β → Hp → Prop}
theorem sat.mono (h : sat X R G H o Q) (le : Stp G H G1 H1) : sat X R G1 H1 o Q := by
  cases o with
  | ok a S => exact fun G' H' b l => h G' H' b (le.trans l)
  | ex c fs S => exact Takes.imp h fun _ _ _ _ z => z.anti le
  | no => exact h
theorem sat.imp (h : sat X R G H o Q) (i : ∀ b H, Q b H → Q' b H) : sat X R G H o Q' := by
  cases o with
  | ok a S => exact fun G' H' b l s r => i _ _ (h G' H' b l s r)
  | ex c fs S => exact h
  | no => exact h
/-- what the rest is given -/
def Aft (X : Cx) (R : Gh → α → β → Prop) (G : Gh) (H : Hp) (P : α → Sto → Gh → Hp → Prop) (b : β) (H1 : Hp) : Prop := ∃ a S1 G1, Stp G H G1 H1 ∧ Sm X.K G1 S1 H1 ∧ R G1 a b ∧ P a S1 G1 H1
theorem sat.bind {k : α → Sto → Out γ} {Q2 : δ → Hp → Prop} (h : sat X R' G H (o.bind k) Q2) : sat X R G H o (Aft X R G H fun a S1 G1 H1 => sat X R' G1 H1 (k a S1) Q2) := by
  cases o with
  | ok a S => exact fun G' H' b l s r => ⟨a, S, G', l, s, r, h.mono l⟩
  | ex c fs S => exact h
  | no => exact h
end
/-! ### slots -/
inductive Re (K : PySem.W.Frag) (G : Gh) : Ev → L2.St → Prop where
  | nil : Re K G [] []
  | skp {ρ : Ev} {σ : L2.St} {v : Option V} (t : Re K G ρ σ) : Re K G (none :: ρ) (v :: σ)
  | has {ρ : Ev} {σ : L2.St} {d : D} {v : V} (h : Rp K G d v) (t : Re K G ρ σ) : Re K G (some d :: ρ) (some v :: σ)
section
variable {K : PySem.W.Frag} {G G' : Gh} {ρ : Ev} {σ : L2.St}
theorem Re.mono (h : Re K G ρ σ) (le : G.le G') : Re K G' ρ σ := by
  induction h with
  | nil => exact .nil
  | skp _ ih => exact .skp ih
  | has r _ ih => exact .has (r.mono le) ih
theorem Re.get {i : Nat} {d : D} (h : Re K G ρ σ) (e : ρ[i]? = some (some d)) : ∃ v, σ[i]? = some (some v) ∧ Rp K G d v := by
  induction h generalizing i with
  | nil => simp at e
  | skp _ ih =>
    cases i with
    | zero => simp at e
    | succ i => obtain ⟨v, h1, h2⟩ := ih (i := i) (by simpa using e); exact ⟨v, by simpa using h1, h2⟩
  | has r _ ih =>
    cases i with
    | zero => simp at e; subst e; exact ⟨_, rfl, r⟩
    | succ i => obtain ⟨v, h1, h2⟩ := ih (i := i) (by simpa using e); exact ⟨v, by simpa using h1, h2⟩
theorem Re.set {d : D} {v : V} (h : Re K G ρ σ) (i : Nat) (r : Rp K G d v) : Re K G (ρ.set i (some d)) (σ.set i (some v)) := by
  induction h generalizing i with
  | nil => exact .nil
  | skp t ih =>
    cases i with
    | zero => exact .has r t
    | succ i => exact .skp (ih i)
  | has q t ih =>
    cases i with
    | zero => exact .has r t
    | succ i => exact .has q (ih i)
theorem Re.forget (h : Re K G ρ σ) (i : Nat) (v : Option V) : Re K G (ρ.set i none) (σ.set i v) := by
  induction h generalizing i with
  | nil => exact .nil
  | skp t ih =>
    cases i with
    | zero => exact .skp t
    | succ i => exact .skp (ih i)
  | has q t ih =>
    cases i with
    | zero => exact .skp t
    | succ i => exact .has q (ih i)
theorem Re.reps (n : Nat) : Re K G (List.replicate n none) (List.replicate n none) := by
  induction n with
  | zero => exact .nil
  | succ n ih => exact .skp ih
theorem Re.start {ds : List D} {vs : List V} (h : Rps K G ds vs) (n : Nat) : Re K G (ds.map some ++ List.replicate n none) (vs.map some ++ List.replicate n none) := by
  induction ds generalizing vs with
  | nil => cases h; exact Re.reps n
  | cons x xs ih => cases h with | cons a b => exact .has a (ih b)
end
/-! ### the judgements -/
def tE (X : Cx) (m : ME) : TE := fun σ H Q => ∃ ρ S G, Sm X.K G S H ∧ Re X.K G ρ σ ∧ sat X (Rp X.K) G H (m ρ S) Q
def tT (X : Cx) (m : MT) : TT := fun σ H Q => ∃ ρ S G, Sm X.K G S H ∧ Re X.K G ρ σ ∧ sat X (fun _ a b => a = b) G H (m ρ S) Q
def tA (X : Cx) (m : MA) : TA := fun σ H Q => ∃ ρ S G, Sm X.K G S H ∧ Re X.K G ρ σ ∧ sat X (Rps X.K) G H (m ρ S) Q
def satS (X : Cx) (G : Gh) (H : Hp) (o : Out Fl) (D : Ends) : Prop := match o with
  | .ok (.nx ρ') S' => ∀ G' H' σ', Stp G H G' H' → Sm X.K G' S' H' → Re X.K G' ρ' σ' → D.nx σ' H'
  | .ok (.rt d) S' => ∀ G' H' v, Stp G H G' H' → Sm X.K G' S' H' → Rp X.K G' d v → D.rt v H'
  | .ok (.bk ρ') S' => ∀ G' H' σ', Stp G H G' H' → Sm X.K G' S' H' → Re X.K G' ρ' σ' → D.bk σ' H'
  | .ok (.ct ρ') S' => ∀ G' H' σ', Stp G H G' H' → Sm X.K G' S' H' → Re X.K G' ρ' σ' → D.ct σ' H'
  | .ex c fs S' => Takes X (fun cls dd _ H' => wEx X.K G H c fs S' cls dd H')
  | .no => False
def tS (X : Cx) (m : MS) : TS := fun D σ H => ∃ ρ S G, Sm X.K G S H ∧ Re X.K G ρ σ ∧ satS X G H (m ρ S) D
abbrev QE (X : Cx) (e : Expr) (m : ME) : Prop := PE X e (tE X m)
abbrev QT (X : Cx) (e : Expr) (m : MT) : Prop := PT X e (tT X m)
abbrev QA (X : Cx) (es : List Expr) (m : MA) : Prop := PA X es (tA X m)
abbrev QS (X : Cx) (st : Stmt) (m : MS) : Prop := PS X st (tS X m)
abbrev QSs (X : Cx) (st : List Stmt) (m : MS) : Prop := PSs X st (tS X m)
theorem satS.mono {X : Cx} {G G1 : Gh} {H H1 : Hp} {o : Out Fl} {D : Ends} (h : satS X G H o D) (le : Stp G H G1 H1) : satS X G1 H1 o D := by
  match o, h with
  | .ok (.nx _) _, h => exact fun G' H' b l => h G' H' b (le.trans l)
  | .ok (.rt _) _, h => exact fun G' H' b l => h G' H' b (le.trans l)
  | .ok (.bk _) _, h => exact fun G' H' b l => h G' H' b (le.trans l)
  | .ok (.ct _) _, h => exact fun G' H' b l => h G' H' b (le.trans l)
  | .ex _ _ _, h => exact Takes.imp h fun _ _ _ _ z => z.anti le
  | .no, h => exact h
theorem satS.bind {α β : Type} {X : Cx} {R : Gh → α → β → Prop} {G : Gh} {H : Hp} {o : Out α} {k : α → Sto → Out Fl} {D : Ends} (h : satS X G H (o.bind k) D) : sat X R G H o (Aft X R G H fun a S1 G1 H1 => satS X G1 H1 (k a S1) D) := by
  cases o with
  | ok a S => exact fun G' H' b l s r => ⟨a, S, G', l, s, r, h.mono l⟩
  | ex c fs S => exact h
  | no => exact h
section
variable {X : Cx} {e : Expr} {st : Stmt} {sts : List Stmt}
theorem qe_of {t : TE} {m : ME} (h : PE X e t) (i : ∀ ρ S G σ H Q, Sm X.K G S H → Re X.K G ρ σ → sat X (Rp X.K) G H (m ρ S) Q → t σ H Q) : QE X e m :=
  ⟨fun pins s σ H Q I ⟨ρ, S, G, sm, re, q⟩ => h.run pins s σ H Q I (i ρ S G σ H Q sm re q)⟩
theorem qt_of {t : TT} {m : MT} (h : PT X e t) (i : ∀ ρ S G σ H Q, Sm X.K G S H → Re X.K G ρ σ → sat X (fun _ a b => a = b) G H (m ρ S) Q → t σ H Q) : QT X e m :=
  ⟨fun pins s σ H Q I ⟨ρ, S, G, sm, re, q⟩ => h.run pins s σ H Q I (i ρ S G σ H Q sm re q)⟩
theorem qs_of {t : TS} {m : MS} (h : PS X st t) (i : ∀ ρ S G σ H D, Sm X.K G S H → Re X.K G ρ σ → satS X G H (m ρ S) D → t D σ H) : QS X st m :=
  ⟨fun pins s σ H Q I ⟨ρ, S, G, sm, re, q⟩ => h.run pins s σ H Q I (i ρ S G σ H Q sm re q)⟩
theorem qss_of {t : TS} {m : MS} (h : PSs X sts t) (i : ∀ ρ S G σ H D, Sm X.K G S H → Re X.K G ρ σ → satS X G H (m ρ S) D → t D σ H) : QSs X sts m :=
  ⟨fun pins s σ H Q I ⟨ρ, S, G, sm, re, q⟩ => h.run pins s σ H Q I (i ρ S G σ H Q sm re q)⟩
end
/-! ### names, constants -/
def v (i : Nat) : ME := fun ρ S => match ρ[i]? with
  | some (some d) => .ok d S
  | _ => .no
def k (d : D) : ME := fun _ S => .ok d S
section
variable {X : Cx} {pos : Pos}
theorem qv (i : Nat) {x : Str} (hN : X.N[i]? = some x := by rfl) (hv : Vis X.env.scope x := by first | exact .inl rfl | exact .inr (.inl rfl) | exact .inr (.inr rfl)) (hd : (x == ("__debug__" : Str)) = false := by decide) (hcd : (x == ("__classdict__" : Str)) = false := by decide) : QE X (.Name x pos) (v i) :=
  qe_of (pe_var hN hv hd hcd) fun ρ S G σ H Q sm re h => by
    have h' : sat X (Rp X.K) G H (match ρ[i]? with | some (some d) => .ok d S | _ => .no) Q := h
    match e : ρ[i]?, h' with
    | some (some d), h' =>
      obtain ⟨v, h1, h2⟩ := re.get e
      exact ⟨v, h1, h' G H v .refl sm h2⟩
    | some none, h' => exact h'.elim
    | none, h' => exact h'.elim
theorem qk_of {e : Expr} {d : D} {x : V} (h : PE X e (tC x)) (r : ∀ G, Rp X.K G d x) : QE X e (k d) :=
  qe_of h fun ρ S G σ H Q sm re h => h G H x .refl sm (r G)
theorem qk_int {i : Int} {j : Nat} : QE X (.Constant (.int i) j pos) (k (.int i)) := qk_of pe_int fun _ => .int i
theorem qk_bl {b : Bool} {j : Nat} : QE X (.Constant (.bool b) j pos) (k (.bl b)) := qk_of pe_bl fun _ => .bl b
theorem qk_non {j : Nat} : QE X (.Constant .none j pos) (k .non) := qk_of pe_non fun _ => .non
theorem qk_str {x : Str} {j : Nat} : QE X (.Constant (.str x) j pos) (k (.str x)) := qk_of pe_str fun _ => .str x
/-- a module's int, text; a class of the module; a built-in class -/
theorem qg_int {x : Str} {i : Int} (hm : ∃ t, X.mg x = some (.int i t)) (hg : Gl X x := by rfl) (hd : (x == ("__debug__" : Str)) = false := by decide) : QE X (.Name x pos) (k (.int i)) :=
  let ⟨t, ht⟩ := hm
  qk_of (pe_glob (v := .int i) hg ht ⟨t, rfl⟩ hd) fun _ => .int i
theorem qg_str {x z : Str} (hm : ∃ t, X.mg x = some (.str z t)) (hg : Gl X x := by rfl) (hd : (x == ("__debug__" : Str)) = false := by decide) : QE X (.Name x pos) (k (.str z)) :=
  let ⟨t, ht⟩ := hm
  qk_of (pe_glob (v := .str z) hg ht ⟨t, rfl⟩ hd) fun _ => .str z
theorem qg_cls {c : String} (hm : X.mg (Str.ofString c) = some (.ref (He.ga X.K (Str.ofString c)))) (hg : Gl X (Str.ofString c) := by rfl) (hd : (Str.ofString c == ("__debug__" : Str)) = false := by decide) : QE X (.Name (Str.ofString c) pos) (k (.cls c)) :=
  qk_of (pe_glob (v := .ref _) hg hm rfl hd) fun _ => .cls c
theorem qg_ty {x : Str} {n : String} (hm : X.mg x = none) (hv : bootBuiltins x = some (.type n)) (hg : Gl X x := by rfl) (hn : x ≠ "__name__" := by decide) (hd : (x == ("__debug__" : Str)) = false := by decide) : QE X (.Name x pos) (k (.ty n)) :=
  qk_of (pe_bltn (v := .ty n) hg hm hv rfl hn hd) fun _ => .ty n
end
/-! ### argument lists -/
def aNil : MA := fun _ S => .ok [] S
def aCons (m : ME) (ms : MA) : MA := fun ρ S => (m ρ S).bind fun d S1 => (ms ρ S1).bind fun ds S2 => .ok (d :: ds) S2
section
variable {X : Cx} {e : Expr} {es : List Expr} {m : ME} {ms : MA} {pos : Pos}
theorem qa_nil : QA X [] aNil := ⟨fun pos pins s σ H Q I h => pa_nil.run pos pins s σ H Q I (by
  obtain ⟨ρ, S, G, sm, re, q⟩ := h
  exact q G H [] .refl sm .nil)⟩
theorem qa_cons (h : QE X e m) (hs : QA X es ms) (hst : starEach (e :: es) X.env = (false, eval e X.env) :: starEach es X.env := by rfl) : QA X (e :: es) (aCons m ms) :=
  ⟨fun pos pins s σ H Q I z => (pa_cons h hs hst).run pos pins s σ H Q I (by
    obtain ⟨ρ, S, G, sm, re, q⟩ := z
    refine ⟨ρ, S, G, sm, re, (sat.bind q).imp fun x H1 w => ?_⟩
    obtain ⟨d, S1, G1, le1, sm1, r1, q1⟩ := w
    refine ⟨ρ, S1, G1, sm1, re.mono le1.le, (sat.bind q1).imp fun xs H2 w => ?_⟩
    obtain ⟨ds, S2, G2, le2, sm2, r2, q2⟩ := w
    exact q2 G2 H2 _ .refl sm2 (.cons (r1.mono le2.le) r2))⟩
end
/-! ### statements -/
def sNil : MS := fun ρ S => .ok (.nx ρ) S
/-- the next statement, if the flow goes on -/
def sSeq (a b : MS) : MS := fun ρ S => (a ρ S).bind fun f S1 => match f with
  | .nx ρ' => b ρ' S1
  | f => .ok f S1
def sRet (m : ME) : MS := fun ρ S => (m ρ S).bind fun d S1 => .ok (.rt d) S1
def sRetN : MS := fun _ S => .ok (.rt .non) S
def sExp (m : ME) : MS := fun ρ S => (m ρ S).bind fun _ S1 => .ok (.nx ρ) S1
def sSet (i : Nat) (m : ME) : MS := fun ρ S => (m ρ S).bind fun d S1 => .ok (.nx (ρ.set i (some d))) S1
def sIf (t : MT) (a b : MS) : MS := fun ρ S => (t ρ S).bind fun c S1 => if c = true then a ρ S1 else b ρ S1
def sBrk : MS := fun ρ S => .ok (.bk ρ) S
def sCnt : MS := fun ρ S => .ok (.ct ρ) S
/-- a way that is never gone -/
def sNo : MS := fun _ _ => .no
section
variable {X : Cx} {e : Expr} {st : Stmt} {sts sts' : List Stmt} {m : ME} {t : MT} {a b : MS} {pos : Pos}
theorem qs_nil : QSs X [] sNil := qss_of pss_nil fun ρ S G σ H D sm re h => h G H σ .refl sm re
theorem qs_cons (h : QS X st a) (h' : QSs X sts b) : QSs X (st :: sts) (sSeq a b) := qss_of (pss_cons h h') fun ρ S G σ H D sm re h => by
  refine ⟨ρ, S, G, sm, re, ?_⟩
  have h1 : satS X G H ((a ρ S).bind fun f S1 => match f with | .nx ρ' => b ρ' S1 | f => .ok f S1) D := h
  match a ρ S, h1 with
  | .ok (.nx ρ') S', h1 => exact fun G' H' σ' le sm' re' => ⟨ρ', S', G', sm', re', h1.mono le⟩
  | .ok (.rt _) _, h1 => exact h1
  | .ok (.bk _) _, h1 => exact h1
  | .ok (.ct _) _, h1 => exact h1
  | .ex _ _ _, h1 => exact h1
  | .no, h1 => exact h1
theorem qs_one (h : QS X st a) : QSs X [st] (sSeq a sNil) := qs_cons h qs_nil
theorem qs_ret (h : QE X e m) : QS X (.Return (some e) pos) (sRet m) := qs_of (ps_ret h) fun ρ S G σ H D sm re z => by
  refine ⟨ρ, S, G, sm, re, (satS.bind z).imp fun x H1 w => ?_⟩
  obtain ⟨d, S1, G1, le1, sm1, r1, q1⟩ := w
  exact q1 G1 H1 x .refl sm1 r1
theorem qs_retN : QS X (.Return none pos) sRetN := qs_of ps_retN fun ρ S G σ H D sm re z => z G H _ .refl sm .non
theorem qs_exp (h : QE X e m) (hs : swapsWith e none pos.line X.env = pure false := by rfl) : QS X (.Expr e pos) (sExp m) := qs_of (ps_expr h hs) fun ρ S G σ H D sm re z => by
  refine ⟨ρ, S, G, sm, re, (satS.bind z).imp fun x H1 w => ?_⟩
  obtain ⟨d, S1, G1, le1, sm1, r1, q1⟩ := w
  exact q1 G1 H1 σ .refl sm1 (re.mono le1.le)
theorem qs_set (i : Nat) {x : Str} {pos' : Pos} (h : QE X e m) (hN : X.N.Nodup) (hi : X.N[i]? = some x := by rfl) (hx : Loc X.env.scope x := by first | exact .inl rfl | exact .inr rfl) (hs : swapsWith e (some (.Name x pos')) pos.line X.env = pure false := by rfl) (hf : X.fn x = true ∨ X.env.scope.names.lookup x = some .local := by first | exact .inl rfl | exact .inr rfl) :
    QS X (.Assign [.Name x pos'] e pos) (sSet i m) := qs_of (ps_set (i := i) hN hi hx h hs hf) fun ρ S G σ H D sm re z => by
  refine ⟨ρ, S, G, sm, re, (satS.bind z).imp fun x H1 w => ?_⟩
  obtain ⟨d, S1, G1, le1, sm1, r1, q1⟩ := w
  exact q1 G1 H1 _ .refl sm1 ((re.mono le1.le).set i r1)
theorem qs_if {c : Expr} (hc : QT X c t) (ha : QSs X sts a) (hb : QSs X sts' b) : QS X (.If c sts sts' pos) (sIf t a b) := qs_of (ps_if hc ha hb) fun ρ S G σ H D sm re z => by
  refine ⟨ρ, S, G, sm, re, (satS.bind z).imp fun x H1 w => ?_⟩
  obtain ⟨d, S1, G1, le1, sm1, r1, q1⟩ := w
  subst r1
  cases d with
  | true => exact ⟨ρ, S1, G1, sm1, re.mono le1.le, q1⟩
  | false => exact ⟨ρ, S1, G1, sm1, re.mono le1.le, q1⟩
theorem qs_break : QS X (.Break pos) sBrk := qs_of ps_break fun ρ S G σ H D sm re z => z G H σ .refl sm re
theorem qs_continue : QS X (.Continue pos) sCnt := qs_of ps_continue fun ρ S G σ H D sm re z => z G H σ .refl sm re
theorem qs_pass : QS X (.Pass pos) sNil := qs_of ps_pass fun ρ S G σ H D sm re z => z G H σ .refl sm re
theorem qs_no {st : Stmt} : QS X st sNo := ⟨fun _ _ _ _ _ _ ⟨_, _, _, _, _, q⟩ => q.elim⟩
theorem qss_no {sts : List Stmt} : QSs X sts sNo := ⟨fun _ _ _ _ _ _ ⟨_, _, _, _, _, q⟩ => q.elim⟩
theorem qe_no {e : Expr} : QE X e (fun _ _ => .no) := ⟨fun _ _ _ _ _ _ ⟨_, _, _, _, _, q⟩ => q.elim⟩
end
/-! ### cells that nothing leads to any more -/
mutual
def D.und (n : Nat) : D → Bool
  | .tup xs => belows n xs
  | .lst xs => belows n xs
  | .src xs => belows n xs
  | .dic0 => true
  | .hob _ => true
  | .exc _ fs => belowf n fs
  | .obj _ fs => belowf n fs
  | .loc m => decide (m < n)
  | .non => true
  | .bl _ => true
  | .int _ => true
  | .str _ => true
  | .cls _ => true
  | .fnc _ => true
  | .ty _ => true
def belows (n : Nat) : List D → Bool
  | [] => true
  | x :: xs => x.und n && belows n xs
def belowf (n : Nat) : List (String × D) → Bool
  | [] => true
  | (_, x) :: xs => x.und n && belowf n xs
end
def belowk (n : Nat) : List (Str × D) → Bool
  | [] => true
  | (_, x) :: xs => x.und n && belowk n xs
def Cell.und (n : Nat) : Cell → Bool
  | .dic es => belowk n es
  | .lst xs => belows n xs
  | .ins _ fs => belowf n fs
  | .dead => true
def Gh.cut (G : Gh) (n : Nat) : Gh := ⟨G.F, fun k => if k < n then G.f k else none⟩
theorem Gh.cut_some {G : Gh} {n k : Nat} {a : Addr} (h : (G.cut n).f k = some a) : k < n ∧ G.f k = some a := by
  have h' : (if k < n then G.f k else none) = some a := h
  by_cases q : k < n
  · rw [if_pos q] at h'
    exact ⟨q, h'⟩
  · rw [if_neg q] at h'
    cases h'
theorem Gh.cut_of {G : Gh} {n k : Nat} {a : Addr} (q : k < n) (h : G.f k = some a) : (G.cut n).f k = some a := by
  show (if k < n then G.f k else none) = some a
  rw [if_pos q]
  exact h
section
variable {K : PySem.W.Frag} {G G' : Gh} {n : Nat}
theorem Rp.cut {d : D} {v : V} (h : Rp K G d v) : d.und n = true → Rp K (G.cut n) d v :=
  Rp.rec (K := K) (G := G) (motive_1 := fun d v _ => d.und n = true → Rp K (G.cut n) d v) (motive_2 := fun xs vs _ => belows n xs = true → Rps K (G.cut n) xs vs) (motive_3 := fun fs ws _ => belowf n fs = true → Rpf K (G.cut n) fs ws)
    (fun _ => .non) (fun b _ => .bl b) (fun i _ => .int i) (fun x _ => .str x) (fun h _ r z => .tup h (r (by simpa [D.und] using z))) (fun h _ r z => .lst h (r (by simpa [D.und] using z))) (fun h _ r z => .obj h (r (by simpa [D.und] using z)))
    (fun h z => .loc (Gh.cut_of (by simpa [D.und] using z) h)) (fun c _ => .cls c) (fun c _ => .fnc c) (fun c _ => .ty c) (fun h _ r z => .src h (r (by simpa [D.und] using z))) (fun h _ => .dic0 h) (fun h _ => .hob h) (fun h _ => .exc0 h) (fun h hd _ r z => .exc h hd (r (by simpa [D.und] using z)))
    (fun _ => .nil) (fun _ _ a b z => by rw [belows, Bool.and_eq_true] at z; exact .cons (a z.1) (b z.2)) (fun _ => .nil) (fun _ _ a b z => by rw [belowf, Bool.and_eq_true] at z; exact .cons (a z.1) (b z.2)) h
theorem Rps.cut {xs : List D} {vs : List V} (h : Rps K G xs vs) (z : belows n xs = true) : Rps K (G.cut n) xs vs := by
  induction xs generalizing vs with
  | nil => cases h; exact .nil
  | cons x xs ih =>
    cases h with
    | cons a b => rw [belows, Bool.and_eq_true] at z; exact .cons (a.cut z.1) (ih b z.2)
theorem Rpf.cut {xs : List (String × D)} {vs : List (Str × V)} (h : Rpf K G xs vs) (z : belowf n xs = true) : Rpf K (G.cut n) xs vs := by
  induction xs generalizing vs with
  | nil => cases h; exact .nil
  | cons x xs ih =>
    cases h with
    | cons a b => rw [belowf, Bool.and_eq_true] at z; exact .cons (a.cut z.1) (ih b z.2)
theorem Rp.bel (dom : ∀ k a, G.f k = some a → k < n) {d : D} {v : V} (h : Rp K G d v) : d.und n = true :=
  Rp.rec (K := K) (G := G) (motive_1 := fun d v _ => d.und n = true) (motive_2 := fun xs vs _ => belows n xs = true) (motive_3 := fun fs ws _ => belowf n fs = true)
    rfl (fun _ => rfl) (fun _ => rfl) (fun _ => rfl) (fun h _ r => by rw [D.und]; exact r) (fun h _ r => by rw [D.und]; exact r) (fun h _ r => by rw [D.und]; exact r)
    (fun h => by rw [D.und]; exact decide_eq_true (dom _ _ h)) (fun _ => rfl) (fun _ => rfl) (fun _ => rfl) (fun h _ r => by rw [D.und]; exact r) (fun _ => rfl) (fun _ => rfl) (fun _ => rfl) (fun h hd _ r => by rw [D.und]; exact r)
    rfl (fun _ _ a b => by rw [belows, a, b]; rfl) rfl (fun _ _ a b => by rw [belowf, a, b]; rfl) h
theorem Rps.bel (dom : ∀ k a, G.f k = some a → k < n) {xs : List D} {vs : List V} (h : Rps K G xs vs) : belows n xs = true := by
  induction xs generalizing vs with
  | nil => rfl
  | cons x xs ih => cases h with | cons a b => rw [belows, a.bel dom, ih b]; rfl
theorem Rpf.bel (dom : ∀ k a, G.f k = some a → k < n) {xs : List (String × D)} {vs : List (Str × V)} (h : Rpf K G xs vs) : belowf n xs = true := by
  induction xs generalizing vs with
  | nil => rfl
  | cons x xs ih => cases h with | cons a b => rw [belowf, a.bel dom, ih b]; rfl
theorem Rpk.cut {es : List (Str × D)} {kvs : List (Key × V)} (h : Rpk K G es kvs) (z : belowk n es = true) : Rpk K (G.cut n) es kvs := by
  induction h with
  | nil => exact .nil
  | cons a _ ih => rw [belowk, Bool.and_eq_true] at z; exact .cons (a.cut z.1) (ih z.2)
theorem Rpk.bel (dom : ∀ k a, G.f k = some a → k < n) {es : List (Str × D)} {kvs : List (Key × V)} (h : Rpk K G es kvs) : belowk n es = true := by
  induction h with
  | nil => rfl
  | cons a _ ih => rw [belowk, a.bel dom, ih]; rfl
theorem CellOk.bel {H : Hp} {a : Addr} {c : Cell} (dom : ∀ k a, G.f k = some a → k < n) (h : CellOk K G H a c) : c.und n = true := by
  cases c with
  | lst xs => obtain ⟨vs, _, r⟩ := h; exact r.bel dom
  | ins c fs => obtain ⟨dx, ws, _, r⟩ := h; exact r.bel dom
  | dead => rfl
  | dic es => obtain ⟨kvs, _, r⟩ := h; exact r.bel dom
theorem CellOk.cut {H : Hp} {a : Addr} {c : Cell} (h : CellOk K G H a c) (z : c.und n = true) : CellOk K (G.cut n) H a c := by
  cases c with
  | lst xs => obtain ⟨vs, e, r⟩ := h; exact ⟨vs, e, r.cut z⟩
  | ins c fs => obtain ⟨dx, ws, e, r⟩ := h; exact ⟨dx, ws, e, r.cut z⟩
  | dead => trivial
  | dic es => obtain ⟨kvs, e, r⟩ := h; exact ⟨kvs, e, r.cut z⟩
end
/-- the cells of S are as they were, or lead to cells of S alone -/
def Kept (S S' : Sto) : Prop := ∀ i c, i < S.length → S'[i]? = some c → S[i]? = some c ∨ c.und S.length = true
open Classical in
noncomputable def gcO (S : Sto) (o : Out D) : Out D := match o with
  | .ok d S' => if d.und S.length = true ∧ Kept S S' then .ok d (S'.take S.length) else .ok d S'
  | .ex c fs S' => if belowf S.length fs = true ∧ Kept S S' then .ex c fs (S'.take S.length) else .ex c fs S'
  | .no => .no
theorem gc_len {S S' : Sto} {d : D} (h : S'.length = S.length) : gcO S (.ok d S') = .ok d S' := by
  classical
  show (if d.und S.length = true ∧ Kept S S' then Out.ok d ((S').take S.length) else .ok d (S')) = _
  split
  · rw [← h, List.take_length]
  · rfl
theorem gc_lenx {S S' : Sto} {c : String} {fs : List (String × D)} (h : S'.length = S.length) : gcO S (.ex c fs S') = .ex c fs S' := by
  classical
  show (if belowf S.length fs = true ∧ Kept S S' then Out.ex c fs ((S').take S.length) else .ex c fs (S')) = _
  split
  · rw [← h, List.take_length]
  · rfl
theorem gc_same {S : Sto} {d : D} : gcO S (.ok d S) = .ok d S := gc_len rfl
theorem gc_samex {S : Sto} {c : String} {fs : List (String × D)} : gcO S (.ex c fs S) = .ex c fs S := gc_lenx rfl
theorem gc_set {S : Sto} {d : D} {i : Nat} {c : Cell} : gcO S (.ok d (S.set i c)) = .ok d (S.set i c) := gc_len (List.length_set ..)
theorem Kept.app {S T : Sto} : Kept S (S ++ T) := fun i c h e => .inl (by rw [List.getElem?_append_left h] at e; exact e)
theorem gc_app {S T : Sto} {d : D} (h : d.und S.length = true) : gcO S (.ok d (S ++ T)) = .ok d S := by
  classical
  show (if d.und S.length = true ∧ Kept S (S ++ T) then Out.ok d ((S ++ T).take S.length) else .ok d (S ++ T)) = _
  rw [if_pos ⟨h, Kept.app⟩, List.take_left]
theorem gc_appx {S T : Sto} {c : String} {fs : List (String × D)} (h : belowf S.length fs = true) : gcO S (.ex c fs (S ++ T)) = .ex c fs S := by
  classical
  show (if belowf S.length fs = true ∧ Kept S (S ++ T) then Out.ex c fs ((S ++ T).take S.length) else .ex c fs (S ++ T)) = _
  rw [if_pos ⟨h, Kept.app⟩, List.take_left]
theorem Kept.setApp {S T : Sto} {k : Nat} {c : Cell} (hc : c.und S.length = true) : Kept S (S.set k c ++ T) := fun i c' h e => by
  rw [List.getElem?_append_left (by rw [List.length_set]; exact h)] at e
  by_cases q : k = i
  · subst q
    rw [List.getElem?_set_self h] at e
    cases e
    exact .inr hc
  · rw [List.getElem?_set_ne q] at e
    exact .inl e
theorem gc_setApp {S T : Sto} {d : D} {k : Nat} {c : Cell} (h : d.und S.length = true) (hc : c.und S.length = true) : gcO S (.ok d (S.set k c ++ T)) = .ok d (S.set k c) := by
  classical
  show (if d.und S.length = true ∧ Kept S (S.set k c ++ T) then Out.ok d ((S.set k c ++ T).take S.length) else .ok d (S.set k c ++ T)) = _
  rw [if_pos ⟨h, Kept.setApp hc⟩]
  have e : S.length = (S.set k c).length := (List.length_set ..).symm
  rw [e, List.take_left]
theorem Sm.cut {K : PySem.W.Frag} {G G' : Gh} {S S' : Sto} {H H' : Hp} (m : Sm K G S H) (m' : Sm K G' S' H') (hk : Kept S S') : Sm K (G'.cut S.length) (S'.take S.length) H' where
  fr := m'.fr
  cel := fun i c e nd => by
    have hi : i < S.length := by
      have := (List.getElem?_eq_some_iff.mp e).1
      rw [List.length_take] at this
      omega
    rw [List.getElem?_take_of_lt hi] at e
    obtain ⟨a, h1, h2, h3⟩ := m'.cel i c e nd
    refine ⟨a, Gh.cut_of hi h1, h2, h3.cut ?_⟩
    rcases hk i c hi e with q | q
    · obtain ⟨b, g1, g2, g3⟩ := m.cel i c q nd
      exact g3.bel m.dom
    · exact q
  dom := fun k a h => by
    obtain ⟨h1, h2⟩ := Gh.cut_some h
    have := m'.dom k a h2
    rw [List.length_take]
    omega
  inj := fun i j a h h' => m'.inj i j a (Gh.cut_some h).2 (Gh.cut_some h').2
  dn := fun i a h => m'.dn i a (Gh.cut_some h).2
  nt := m'.nt
  tb := m'.tb
theorem Sm.cut_le {K : PySem.W.Frag} {G G' : Gh} {S : Sto} {H H' : Hp} (m : Sm K G S H) (st : Stp G H G' H') : Stp G H (G'.cut S.length) H' := ⟨⟨st.le.1, fun k a h => Gh.cut_of (m.dom k a h) (st.le.2 k a h)⟩, st.dom, st.frm, fun n a h => st.new n a (Gh.cut_some h).2, st.fro⟩
/-! ### defs -/
def fin (o : Out Fl) : Out D := o.bind fun f S => match f with
  | .nx _ => .ok .non S
  | .rt d => .ok d S
  | _ => .no
/-- a def with np parameters and n slots -/
noncomputable def dfn (np n : Nat) (b : MS) : Fn := fun ds S => if ds.length = np then gcO S (fin (b (ds.map some ++ List.replicate (n - np) none) S)) else .no
def spO (K : PySem.W.Frag) (G : Gh) (H : Hp) (o : Out D) (Q : VK) (E : XK) : Prop := match o with
  | .ok d S' => ∀ G' H' v, Stp G H G' H' → Sm K G' S' H' → Rp K G' d v → Q v H'
  | .ex c fs S' => ∀ cls dd H', wEx K G H c fs S' cls dd H' → E cls dd H'
  | .no => False
def spF (K : PySem.W.Frag) (F : Fn) : Sp := fun vs H Q E => ∃ ds S G, Sm K G S H ∧ Rps K G ds vs ∧ spO K G H (F ds S) Q E
abbrev FnF (P : Program) (w : World) (K : PySem.W.Frag) (mg : Str → Option Value) (base : Heap) (k : Nat) (f : Addr) (F : Fn) : Prop := FnR P w K mg base (L2.CX P w) k f (spF K F)
abbrev FnFG (P : Program) (w : World) (K : PySem.W.Frag) (mg : Str → Option Value) (base : Heap) (k : Nat) (f : Addr) (F : Fn) : Prop := FnRG P w K mg base (L2.CX P w) k f (spF K F)
theorem ExR.cut {K : PySem.W.Frag} {G : Gh} {n : Nat} {c : String} {fs : List (String × D)} {cls : Value} {dd : Option Addr} (h : ExR K G c fs cls dd) (z : belowf n fs = true) : ExR K (G.cut n) c fs cls dd := by
  obtain ⟨h1, h2 | ⟨d, ws, h3, h4, h5⟩⟩ := h
  · exact ⟨h1, .inl h2⟩
  · exact ⟨h1, .inr ⟨d, ws, h3, h4, h5.cut z⟩⟩
theorem spO_gc {K : PySem.W.Frag} {G : Gh} {S : Sto} {H : Hp} {o : Out D} {Q : VK} {E : XK} (sm : Sm K G S H) (h : spO K G H (gcO S o) Q E) : spO K G H o Q E := by
  classical
  match o, h with
  | .ok d S', h =>
    intro G' H' v le sm' r
    by_cases c : d.und S.length = true ∧ Kept S S'
    · have e : gcO S (.ok d S') = .ok d (S'.take S.length) := if_pos c
      rw [e] at h
      exact h _ H' v (sm.cut_le le) (sm.cut sm' c.2) (r.cut c.1)
    · have e : gcO S (.ok d S') = .ok d S' := if_neg c
      rw [e] at h
      exact h G' H' v le sm' r
  | .ex x fs S', h =>
    intro cls dd H' w
    obtain ⟨G', le, sm', r⟩ := w
    by_cases c : belowf S.length fs = true ∧ Kept S S'
    · have e : gcO S (.ex x fs S') = .ex x fs (S'.take S.length) := if_pos c
      rw [e] at h
      exact h cls dd H' ⟨_, sm.cut_le le, sm.cut sm' c.2, r.cut c.1⟩
    · have e : gcO S (.ex x fs S') = .ex x fs S' := if_neg c
      rw [e] at h
      exact h cls dd H' ⟨G', le, sm', r⟩
  | .no, h => exact h
/-- how the body's end is the def's end -/
theorem sat_body {X : Cx} {G : Gh} {H : Hp} {K : PySem.W.Frag} {o : Out Fl} {Q : VK} {E : XK} (hK : X.K = K) (tk : Takes X (fun cls d _ H => E cls d H)) (h : spO K G H (fin o) Q E) :
    satS X G H o { nx := fun _ H' => Q .non H', rt := Q } := by
  subst hK
  match o, h with
  | .ok (.nx _) _, h => exact fun G' H' _ l s _ => h G' H' _ l s .non
  | .ok (.rt _) _, h => exact h
  | .ok (.bk _) _, h => exact h.elim
  | .ok (.ct _) _, h => exact h.elim
  | .ex _ _ _, h => exact tk.imp fun cls dd _ H' z => h cls dd H' z
  | .no, h => exact h.elim
section
variable {P : Program} {w : World} {K : PySem.W.Frag} {mg : Str → Option Value} {base : Heap} {x qual : Str} {st : Stmt} {kws : List (Str × V)} {f : Addr} {fd : FuncData} {N ps : List Str} {j : Nat} {b : MS}
theorem spF_len {np n : Nat} (hn : ps.length = np) : ∀ vs H Q E, spF K (dfn np n b) vs H Q E → vs.length = ps.length := fun vs H Q E ⟨ds, S, G, _, r, h⟩ => by
  by_cases q : ds.length = np
  · rw [r.length, q, hn]
  · unfold dfn at h
    rw [if_neg q] at h
    exact h.elim
theorem body_start {np n : Nat} {vs : List V} {H : Hp} {Q : VK} {E : XK} {X : Cx} (hK : X.K = K) (tk : Takes X (fun cls d _ H => E cls d H)) (hn : ps.length = np) (hN : N.length = n)
    (h : spF K (dfn np n b) vs H Q E) : tS X b { nx := fun _ H' => Q .non H', rt := Q } (start N vs) H := by
  have hl := spF_len (K := K) hn vs H Q E h
  obtain ⟨ds, S, G, sm, r, h⟩ := h
  have q : ds.length = np := by rw [← r.length, hl, hn]
  unfold dfn at h
  rw [if_pos q] at h
  refine ⟨_, S, G, by rw [hK]; exact sm, ?_, sat_body hK tk (spO_gc sm h)⟩
  unfold L2.start
  have e : N.length - vs.length = n - np := by rw [hN, hl, hn]
  rw [e, hK]
  exact Re.start r _
/-- THE RULE: a def by its body -/
theorem okF {np n : Nat} (F : FunD K x qual (defArgs st) (defBody st) (defScope st) [] kws f fd) (S : FnScope N ps (defScope st)) (hn : ps.length = np) (hN : N.length = n)
    (hb : ∀ (kV doc pm : Value) (an : Option Addr) (cdv ct : Value) (us : List Value), us.length = ps.length → bindArgs (PySem.W.fnOf x qual (defArgs st) (defBody st) (defScope st) .none kV doc pm an cdv ct) ⟨us, []⟩ = pure (ps.zip us))
    (hbody : ∀ (cdv : Value) (A : Around) (outer : List Env) (s : Shared) (H : Hp) (E : XK), Room j (A.deeper (envOfC qual (defScope st) s.heap.objs.size f cdv)) →
      QSs (cxOf (L2.CX P w) P w K mg base N qual (defScope st) f cdv A outer s H E) (defBody st) b) : FnF P w K mg base (j + 1) f (dfn np n b) := by
  have Fk : FnOk P w K mg base (L2.CX P w) (j + 1) f fd ps (spF K (dfn np n b)) := F.ok S (spF_len hn) fun cdv A outer s H vs Q E hr h =>
    ⟨_, hbody cdv A outer s H E hr, body_start rfl (takes_of rfl rfl rfl rfl) hn hN h⟩
  exact (Fk.raw (F.bindsN hb) .nil).imp fun vs H Q E h => by rw [List.append_nil]; exact h
/-- .. called where no repr is running -/
theorem okFG {np n : Nat} (F : FunD K x qual (defArgs st) (defBody st) (defScope st) [] kws f fd) (S : FnScope N ps (defScope st)) (hn : ps.length = np) (hN : N.length = n)
    (hb : ∀ (kV doc pm : Value) (an : Option Addr) (cdv ct : Value) (us : List Value), us.length = ps.length → bindArgs (PySem.W.fnOf x qual (defArgs st) (defBody st) (defScope st) .none kV doc pm an cdv ct) ⟨us, []⟩ = pure (ps.zip us))
    (hbody : ∀ (cdv : Value) (A : Around) (outer : List Env) (s : Shared) (H : Hp) (E : XK), A.guards = some [] → Room j (A.deeper (envOfC qual (defScope st) s.heap.objs.size f cdv)) →
      QSs (cxOf (L2.CX P w) P w K mg base N qual (defScope st) f cdv A outer s H E) (defBody st) b) : FnFG P w K mg base (j + 1) f (dfn np n b) := by
  have Fk : FnG P w K mg base (L2.CX P w) (j + 1) f fd ps (spF K (dfn np n b)) := okG F S (spF_len hn) fun cdv A outer s H vs Q E hg hr h =>
    ⟨_, hbody cdv A outer s H E hg hr, body_start rfl (takes_of rfl rfl rfl rfl) hn hN h⟩
  intro A outer s H us vs Q E hg hr e0 r h
  have hl : us.length = ps.length := r.length ▸ Fk.len _ _ _ _ h
  have bb := F.bindsN hb s us (e0.mod.kin.keeps fun b o e => (e0.bs b o e).1) (by simpa using hl)
  exact Fk.run A outer s H ⟨us, []⟩ us vs Q E hg hr e0 (by simpa using bb) r h
end
end PV
set_option Elab.async false
set_option linter.all false
set_option maxRecDepth 100000
set_option maxHeartbeats 4000000
namespace PV
open PySem PySem.Spec PyProof.Rows L2 ZL
/-! ### operations by values -/
abbrev G1 := D → Sto → Out D
abbrev G2 := D → D → Sto → Out D
def OpF (X : Cx) (f : Value → Value → Sem Value) (g : G2) : Prop := OpR X f (fun v w H Q => ∃ x y S G, Sm X.K G S H ∧ Rp X.K G x v ∧ Rp X.K G y w ∧ sat X (Rp X.K) G H (g x y S) Q)
def UnF (X : Cx) (f : Value → Sem Value) (g : G1) : Prop := UnR X f (fun v H Q => ∃ x S G, Sm X.K G S H ∧ Rp X.K G x v ∧ sat X (Rp X.K) G H (g x S) Q)
def CallF (X : Cx) (f : Value) (g : Fn) : Prop := CallR X f (fun vs H Q => ∃ ds S G, Sm X.K G S H ∧ Rps X.K G ds vs ∧ sat X (Rp X.K) G H (g ds S) Q)
def bin (g : G2) (a b : ME) : ME := fun ρ S => (a ρ S).bind fun x S1 => (b ρ S1).bind fun y S2 => g x y S2
def una (g : G1) (a : ME) : ME := fun ρ S => (a ρ S).bind fun x S1 => g x S1
def cal (g : Fn) (a : MA) : ME := fun ρ S => (a ρ S).bind fun ds S1 => g ds S1
/-- a op b op' c -/
def chn (g g' : G2) (a b c : ME) : ME := fun ρ S => (a ρ S).bind fun x S1 => (b ρ S1).bind fun y S2 => (g x y S2).bind fun z S3 => match z with
  | .bl true => (c ρ S3).bind fun u S4 => g' y u S4
  | .bl false => .ok (.bl false) S3
  | _ => .no
def isB (o : Out D) : Out Bool := o.bind fun d S => match d with
  | .bl b => .ok b S
  | _ => .no
section
variable {X : Cx} {a b c : Expr} {ma mb mc : ME} {g g' : G2} {pos : Pos}
theorem op2 {f : Value → Value → Sem Value} (ho : OpF X f g) {ta tb : TE} {ρ : Ev} {S : Sto} {G : Gh} {σ : L2.St} {H : Hp} {Q : VK} (sm : Sm X.K G S H) (re : Re X.K G ρ σ) (h : sat X (Rp X.K) G H (bin g ma mb ρ S) Q) :
    tOp (fun v w H Q => ∃ x y S G, Sm X.K G S H ∧ Rp X.K G x v ∧ Rp X.K G y w ∧ sat X (Rp X.K) G H (g x y S) Q) (tE X ma) (tE X mb) σ H Q := by
  refine ⟨ρ, S, G, sm, re, (sat.bind h).imp fun v H1 w => ?_⟩
  obtain ⟨x, S1, G1, le1, sm1, r1, q1⟩ := w
  refine ⟨ρ, S1, G1, sm1, re.mono le1.le, (sat.bind q1).imp fun v' H2 w => ?_⟩
  obtain ⟨y, S2, G2, le2, sm2, r2, q2⟩ := w
  exact ⟨x, y, S2, G2, sm2, r1.mono le2.le, r2, q2⟩
theorem qe_bin {op : Operator} (ho : OpF X (binaryOp op) g) (ha : QE X a ma) (hb : QE X b mb) : QE X (.BinOp a op b pos) (bin g ma mb) :=
  qe_of (pe_op ho ha hb) fun ρ S G σ H Q sm re h => op2 (ta := tE X ma) (tb := tE X mb) ho sm re h
theorem qe_cmp {op : CmpOp} (ho : OpF X (compareOp op) g) (ha : QE X a ma) (hb : QE X b mb) (hm : behindInMarks op b = false := by first | exact nomark _ | with_unfolding_all rfl) : QE X (.Compare a [op] [b] pos) (bin g ma mb) :=
  qe_of (pe_cmpR ho ha hb hm) fun ρ S G σ H Q sm re h => op2 (ta := tE X ma) (tb := tE X mb) ho sm re h
theorem sat_isB {G : Gh} {o : Out D} {Q : Bool → Hp → Prop} (h : sat X (fun _ a b => a = b) G H (isB o) Q) : sat X (Rp X.K) G H o (fun v H => ∃ c, v = .bl c ∧ Q c H) := by
  match o, h with
  | .ok (.bl c) S, h => exact fun G' H' v le sm r => by cases r; exact ⟨c, rfl, h G' H' c le sm rfl⟩
  | .ok .non _, h => exact h.elim
  | .ok (.int _) _, h => exact h.elim
  | .ok (.str _) _, h => exact h.elim
  | .ok (.tup _) _, h => exact h.elim
  | .ok (.lst _) _, h => exact h.elim
  | .ok (.obj _ _) _, h => exact h.elim
  | .ok (.loc _) _, h => exact h.elim
  | .ok (.cls _) _, h => exact h.elim
  | .ok (.fnc _) _, h => exact h.elim
  | .ok (.ty _) _, h => exact h.elim
  | .ok (.src _) _, h => exact h.elim
  | .ok .dic0 _, h => exact h.elim
  | .ok (.hob _) _, h => exact h.elim
  | .ok (.exc _ _) _, h => exact h.elim
  | .ex _ _ _, h => exact h
  | .no, h => exact h.elim
/-- a comparison as a test -/
def tst (m : ME) : MT := fun ρ S => isB (m ρ S)
theorem tst_bin {f : Value → Value → Sem Value} (ho : OpF X f g) {ρ : Ev} {S : Sto} {G : Gh} {σ : L2.St} {H : Hp} {Q : Bool → Hp → Prop} (sm : Sm X.K G S H) (re : Re X.K G ρ σ) (h : sat X (fun _ a b => a = b) G H (tst (bin g ma mb) ρ S) Q) :
    tTest (tOp (fun v w H Q => ∃ x y S G, Sm X.K G S H ∧ Rp X.K G x v ∧ Rp X.K G y w ∧ sat X (Rp X.K) G H (g x y S) Q) (tE X ma) (tE X mb)) σ H Q :=
  op2 (ta := tE X ma) (tb := tE X mb) ho sm re (sat_isB h)
theorem qt_cmp {op : CmpOp} (ho : OpF X (compareOp op) g) (ha : QE X a ma) (hb : QE X b mb) (hm : behindInMarks op b = false := by first | exact nomark _ | with_unfolding_all rfl) : QT X (.Compare a [op] [b] pos) (tst (bin g ma mb)) :=
  qt_of (pt_cmpR ho ha hb hm) fun ρ S G σ H Q sm re h => tst_bin ho sm re h
theorem chn_rd {f f' : Value → Value → Sem Value} (ho : OpF X f g) (ho' : OpF X f' g') {ρ : Ev} {S : Sto} {G : Gh} {σ : L2.St} {H : Hp} {Q : VK} (sm : Sm X.K G S H) (re : Re X.K G ρ σ) (h : sat X (Rp X.K) G H (chn g g' ma mb mc ρ S) Q) :
    tChain (fun v w H Q => ∃ x y S G, Sm X.K G S H ∧ Rp X.K G x v ∧ Rp X.K G y w ∧ sat X (Rp X.K) G H (g x y S) Q) (fun v w H Q => ∃ x y S G, Sm X.K G S H ∧ Rp X.K G x v ∧ Rp X.K G y w ∧ sat X (Rp X.K) G H (g' x y S) Q) (tE X ma) (tE X mb) (tE X mc) σ H Q := by
  refine ⟨ρ, S, G, sm, re, (sat.bind h).imp fun v H1 w => ?_⟩
  obtain ⟨x, S1, G1, le1, sm1, r1, q1⟩ := w
  refine ⟨ρ, S1, G1, sm1, re.mono le1.le, (sat.bind q1).imp fun v' H2 w => ?_⟩
  obtain ⟨y, S2, G2, le2, sm2, r2, q2⟩ := w
  refine ⟨x, y, S2, G2, sm2, r1.mono le2.le, r2, (sat.bind q2).imp fun v3 H3 w => ?_⟩
  obtain ⟨z, S3, G3, le3, sm3, r3, q3⟩ := w
  cases r3 with
  | bl k =>
    refine ⟨k, rfl, ?_⟩
    cases k with
    | true =>
      refine ⟨ρ, S3, G3, sm3, (re.mono le1.le).mono (le2.trans le3).le, (sat.bind q3).imp fun v4 H4 w => ?_⟩
      obtain ⟨u, S4, G4, le4, sm4, r4, q4⟩ := w
      exact ⟨y, u, S4, G4, sm4, (r2.mono le3.le).mono le4.le, r4, q4⟩
    | false => exact q3 G3 H3 _ .refl sm3 (.bl false)
  | _ => exact q3.elim
theorem qe_chn {op op' : CmpOp} (ho : OpF X (compareOp op) g) (ho' : OpF X (compareOp op') g') (ha : QE X a ma) (hb : QE X b mb) (hc : QE X c mc) (hm : lastMarks [op, op'] [b, c] = false := by with_unfolding_all rfl) : QE X (.Compare a [op, op'] [b, c] pos) (chn g g' ma mb mc) :=
  qe_of (pe_chain ho ho' ha hb hc hm) fun ρ S G σ H Q sm re h => chn_rd ho ho' sm re h
theorem qt_chn {op op' : CmpOp} (ho : OpF X (compareOp op) g) (ho' : OpF X (compareOp op') g') (ha : QE X a ma) (hb : QE X b mb) (hc : QE X c mc) (hm : lastMarks [op, op'] [b, c] = false := by with_unfolding_all rfl) : QT X (.Compare a [op, op'] [b, c] pos) (tst (chn g g' ma mb mc)) :=
  qt_of (pt_chain ho ho' ha hb hc hm) fun ρ S G σ H Q sm re h => chn_rd ho ho' sm re (sat_isB h)
theorem qe_un {op : UnaryOp} {g : G1} (ho : UnF X (unaryOp op) g) (ha : QE X a ma) : QE X (.UnaryOp op a pos) (una g ma) :=
  qe_of (pe_un ho ha) fun ρ S G σ H Q sm re h => by
    refine ⟨ρ, S, G, sm, re, (sat.bind h).imp fun v H1 w => ?_⟩
    obtain ⟨x, S1, G1, le1, sm1, r1, q1⟩ := w
    exact ⟨x, S1, G1, sm1, r1, q1⟩
end
/-! ### truth, and, or, not, if -/
def truD (d : D) : Option Bool := match d with
  | .non => some false
  | .bl b => some b
  | .int i => some (i != 0)
  | .str x => if x.length ≤ sizeLine then some ((x.length : Int) != 0) else none
  | .tup xs => some (!xs.isEmpty)
  | .lst xs => some (!xs.isEmpty)
  | _ => none
def tru (m : ME) : MT := fun ρ S => (m ρ S).bind fun d S1 => match truD d with
  | some b => .ok b S1
  | none => .no
def tNo (t : MT) : MT := fun ρ S => (t ρ S).bind fun c S1 => .ok (!c) S1
def tAn (t u : MT) : MT := fun ρ S => (t ρ S).bind fun c S1 => if c = true then u ρ S1 else .ok false S1
def tOr (t u : MT) : MT := fun ρ S => (t ρ S).bind fun c S1 => if c = true then .ok true S1 else u ρ S1
def ifE (t : MT) (a b : ME) : ME := fun ρ S => (t ρ S).bind fun c S1 => if c = true then a ρ S1 else b ρ S1
def anE (a b : ME) : ME := fun ρ S => (a ρ S).bind fun d S1 => match d with
  | .bl true => b ρ S1
  | .bl false => .ok (.bl false) S1
  | _ => .no
def orE (a b : ME) : ME := fun ρ S => (a ρ S).bind fun d S1 => match d with
  | .bl true => .ok (.bl true) S1
  | .bl false => b ρ S1
  | _ => .no
def noE (a : ME) : ME := fun ρ S => (a ρ S).bind fun d S1 => match d with
  | .bl b => .ok (.bl (!b)) S1
  | _ => .no
theorem Rps.isEmpty {K : PySem.W.Frag} {G : Gh} {xs : List D} {vs : List V} (h : Rps K G xs vs) : vs.isEmpty = xs.isEmpty := by cases h <;> rfl
section
variable {X : Cx} {a b c : Expr} {rest : List Expr} {ma mb : ME} {t u : MT} {pos : Pos}
theorem truV {G : Gh} {S : Sto} {H : Hp} {d : D} {v : V} {k : Bool} (sm : Sm X.K G S H) (r : Rp X.K G d v) (e : truD d = some k) : TruV X.K v H k := by
  cases r with
  | non => exact (Option.some.inj e).symm
  | bl b => exact (Option.some.inj e).symm
  | int i => exact (Option.some.inj e).symm
  | str x =>
    have e' : (if x.length ≤ sizeLine then some ((x.length : Int) != 0) else none) = some k := e
    by_cases q : x.length ≤ sizeLine
    · rw [if_pos q] at e'
      exact ⟨q, (Option.some.inj e').symm⟩
    · rw [if_neg q] at e'
      cases e'
  | tup h r => exact .inr (.inl ⟨_, SqT.mono h sm.fr, by rw [r.isEmpty]; exact (Option.some.inj e).symm⟩)
  | lst h r => exact .inl ⟨_, SqL.of (sm.fr _ _ h), by rw [r.isEmpty]; exact (Option.some.inj e).symm⟩
  | _ => cases e
theorem qt_tru (ha : QE X a ma) (he : ∀ whole, isTrue a X.env whole = (do let v ← whole; standAt a.pos; holding [v] (truthy v)) := by intro _; rfl) : QT X a (tru ma) :=
  qt_of (pt_truth ha he) fun ρ S G σ H Q sm re h => by
    refine ⟨ρ, S, G, sm, re, (sat.bind h).imp fun v H1 w => ?_⟩
    obtain ⟨d, S1, G1, le1, sm1, r1, q1⟩ := w
    match e : truD d, q1 with
    | some k, q1 => exact ⟨k, truV sm1 r1 e, q1 G1 H1 k .refl sm1 rfl⟩
    | none, q1 => exact q1.elim
theorem qt_not (h : QT X a t) : QT X (.UnaryOp .Not a pos) (tNo t) := qt_of (pt_not h) fun ρ S G σ H Q sm re h => by
  refine ⟨ρ, S, G, sm, re, (sat.bind h).imp fun v H1 w => ?_⟩
  obtain ⟨d, S1, G1, le1, sm1, r1, q1⟩ := w
  subst r1
  exact q1 G1 H1 _ .refl sm1 rfl
/-- and, or as tests: whatever the whole is -/
abbrev QW (X : Cx) (e : Expr) (m : MT) : Prop := PW X e (tT X m)
theorem qw_of {t : TT} {m : MT} {e : Expr} (h : PW X e t) (i : ∀ ρ S G σ H Q, Sm X.K G S H → Re X.K G ρ σ → sat X (fun _ a b => a = b) G H (m ρ S) Q → t σ H Q) : QW X e m :=
  ⟨fun wh pins s σ H Q I ⟨ρ, S, G, sm, re, q⟩ => h.run wh pins s σ H Q I (i ρ S G σ H Q sm re q)⟩
theorem qw_and1 (h : QT X a t) : QW X (.BoolOp .And [a] pos) t := pw_and1 h
theorem qw_or1 (h : QT X a t) : QW X (.BoolOp .Or [a] pos) t := pw_or1 h
theorem qw_and (h : QT X a t) (h' : QW X (.BoolOp .And (b :: rest) pos) u) : QW X (.BoolOp .And (a :: b :: rest) pos) (tAn t u) := qw_of (pw_and h h') fun ρ S G σ H Q sm re h => by
  refine ⟨ρ, S, G, sm, re, (sat.bind h).imp fun v H1 w => ?_⟩
  obtain ⟨d, S1, G1, le1, sm1, r1, q1⟩ := w
  subst r1
  cases d with
  | true => exact ⟨ρ, S1, G1, sm1, re.mono le1.le, q1⟩
  | false => exact q1 G1 H1 _ .refl sm1 rfl
theorem qw_or (h : QT X a t) (h' : QW X (.BoolOp .Or (b :: rest) pos) u) : QW X (.BoolOp .Or (a :: b :: rest) pos) (tOr t u) := qw_of (pw_or h h') fun ρ S G σ H Q sm re h => by
  refine ⟨ρ, S, G, sm, re, (sat.bind h).imp fun v H1 w => ?_⟩
  obtain ⟨d, S1, G1, le1, sm1, r1, q1⟩ := w
  subst r1
  cases d with
  | false => exact ⟨ρ, S1, G1, sm1, re.mono le1.le, q1⟩
  | true => exact q1 G1 H1 _ .refl sm1 rfl
theorem qt_w {e : Expr} (h : QW X e t) : QT X e t := h.pt
theorem qe_if {c : Expr} (hc : QT X c t) (ha : QE X a ma) (hb : QE X b mb) : QE X (.IfExp c a b pos) (ifE t ma mb) := qe_of (pe_ifExp hc ha hb) fun ρ S G σ H Q sm re h => by
  refine ⟨ρ, S, G, sm, re, (sat.bind h).imp fun v H1 w => ?_⟩
  obtain ⟨d, S1, G1, le1, sm1, r1, q1⟩ := w
  subst r1
  cases d with
  | true => exact ⟨ρ, S1, G1, sm1, re.mono le1.le, q1⟩
  | false => exact ⟨ρ, S1, G1, sm1, re.mono le1.le, q1⟩
theorem qe_one {op : BoolOp} (h : QE X a ma) : QE X (.BoolOp op [a] pos) ma := pe_one h
theorem qe_and (ha : QE X a ma) (hb : QE X (.BoolOp .And (b :: rest) pos) mb) : QE X (.BoolOp .And (a :: b :: rest) pos) (anE ma mb) := qe_of (pe_and ha hb) fun ρ S G σ H Q sm re h => by
  refine ⟨ρ, S, G, sm, re, (sat.bind h).imp fun v H1 w => ?_⟩
  obtain ⟨d, S1, G1, le1, sm1, r1, q1⟩ := w
  cases r1 with
  | bl k =>
    refine ⟨k, rfl, ?_⟩
    cases k with
    | true => exact ⟨ρ, S1, G1, sm1, re.mono le1.le, q1⟩
    | false => exact q1 G1 H1 _ .refl sm1 (.bl _)
  | _ => exact q1.elim
theorem qe_or (ha : QE X a ma) (hb : QE X (.BoolOp .Or (b :: rest) pos) mb) : QE X (.BoolOp .Or (a :: b :: rest) pos) (orE ma mb) := qe_of (pe_or ha hb) fun ρ S G σ H Q sm re h => by
  refine ⟨ρ, S, G, sm, re, (sat.bind h).imp fun v H1 w => ?_⟩
  obtain ⟨d, S1, G1, le1, sm1, r1, q1⟩ := w
  cases r1 with
  | bl k =>
    refine ⟨k, rfl, ?_⟩
    cases k with
    | false => exact ⟨ρ, S1, G1, sm1, re.mono le1.le, q1⟩
    | true => exact q1 G1 H1 _ .refl sm1 (.bl _)
  | _ => exact q1.elim
theorem qe_not (ha : QE X a ma) : QE X (.UnaryOp .Not a pos) (noE ma) := qe_of (pe_not ha) fun ρ S G σ H Q sm re h => by
  refine ⟨ρ, S, G, sm, re, (sat.bind h).imp fun v H1 w => ?_⟩
  obtain ⟨d, S1, G1, le1, sm1, r1, q1⟩ := w
  cases r1 with
  | bl k => exact ⟨k, rfl, q1 G1 H1 _ .refl sm1 (.bl _)⟩
  | _ => exact q1.elim
end
end PV
set_option Elab.async false
set_option linter.all false
set_option maxRecDepth 100000
set_option maxHeartbeats 4000000
namespace PV
open PySem PySem.Spec PyProof.Rows L2 ZL
/-! ### plain data -/
mutual
def toP : D → Option PyData
  | .non => some .none
  | .bl b => some (.bool b)
  | .int i => some (.int i)
  | .str x => some (.str x)
  | .tup xs => (toPs xs).map .tuple
  | .lst xs => (toPs xs).map .list
  | .src xs => (toPs xs).map .list
  | .dic0 => none
  | .hob _ => none
  | .exc _ _ => none
  | .obj _ _ => none
  | .loc _ => none
  | .cls _ => none
  | .fnc _ => none
  | .ty _ => none
def toPs : List D → Option (List PyData)
  | [] => some []
  | x :: xs => match toP x, toPs xs with
    | some p, some ps => some (p :: ps)
    | _, _ => none
end
section
variable {K : PySem.W.Frag} {G : Gh} {H : Hp}
mutual
theorem Rp.dp (e : ∀ a o, G.F a = some o → H a = some o) : ∀ (d : D) (v : V) (p : PyData), Rp K G d v → toP d = some p → Dp K H v p
  | .non, _, _, r, h => by cases r; cases h; exact .non
  | .bl _, _, _, r, h => by cases r; cases h; exact .bl _
  | .int _, _, _, r, h => by cases r; cases h; exact .int _
  | .str _, _, _, r, h => by cases r; cases h; exact .str _
  | .tup xs, _, _, r, h => by
    cases r with
    | tup q r =>
      unfold toP at h
      match hp : toPs xs, h with
      | some ps, h => cases h; exact .tup (SqT.mono q e) (Rps.dp e xs _ ps r hp)
      | none, h => cases h
  | .lst xs, _, _, r, h => by
    cases r with
    | lst q r =>
      unfold toP at h
      match hp : toPs xs, h with
      | some ps, h => cases h; exact .lst (SqL.of (e _ _ q)) (Rps.dp e xs _ ps r hp)
      | none, h => cases h
  | .src xs, _, _, r, h => by
    cases r with
    | src q r =>
      unfold toP at h
      match hp : toPs xs, h with
      | some ps, h => cases h; exact .lst (SqL.mono q e) (Rps.dp e xs _ ps r hp)
      | none, h => cases h
  | .obj _ _, _, _, _, h => by simp [toP] at h
  | .dic0, _, _, _, h => by simp [toP] at h
  | .hob _, _, _, _, h => by simp [toP] at h
  | .exc _ _, _, _, _, h => by simp [toP] at h
  | .loc _, _, _, _, h => by simp [toP] at h
  | .cls _, _, _, _, h => by simp [toP] at h
  | .fnc _, _, _, _, h => by simp [toP] at h
  | .ty _, _, _, _, h => by simp [toP] at h
theorem Rps.dp (e : ∀ a o, G.F a = some o → H a = some o) : ∀ (xs : List D) (vs : List V) (ps : List PyData), Rps K G xs vs → toPs xs = some ps → DpAll K H vs ps
  | [], _, _, r, h => by cases r; cases h; exact .nil
  | x :: xs, _, _, r, h => by
    cases r with
    | cons r1 r2 =>
      unfold toPs at h
      match h1 : toP x, h2 : toPs xs, h with
      | some p, some ps, h => cases h; exact .cons (Rp.dp e x _ p r1 h1) (Rps.dp e xs _ ps r2 h2)
      | none, some _, h => cases h
      | none, none, h => cases h
      | some _, none, h => cases h
end
end
/-- x == y of plain data -/
def eqP (x y : D) : Option Bool := match toP x, toP y with
  | some p, some q => if SeqAt.shaped p = true ∧ SeqAt.shaped q = true then some (PyData.eqv p q) else none
  | _, _ => none
def eqD (x y : D) : Option Bool := match x, y with
  | .str a, .str b => some (decide (a = b))
  | x, y => eqP x y
def eqG (neg : Bool) : G2 := fun x y S => match eqD x y with
  | some b => .ok (.bl (neg ^^ b)) S
  | none => .no
theorem eqP_some {x y : D} {b : Bool} (h : eqP x y = some b) : ∃ p q, toP x = some p ∧ toP y = some q ∧ SeqAt.shaped p = true ∧ SeqAt.shaped q = true ∧ b = PyData.eqv p q := by
  unfold eqP at h
  match h1 : toP x, h2 : toP y, h with
  | some p, some q, h =>
    simp only at h
    by_cases c : SeqAt.shaped p = true ∧ SeqAt.shaped q = true
    · rw [if_pos c] at h
      exact ⟨p, q, rfl, rfl, c.1, c.2, (Option.some.inj h).symm⟩
    · rw [if_neg c] at h
      cases h
  | none, _, h => cases h
  | some _, none, h => cases h
section
variable {X : Cx}
theorem dec_strV {a b : Str} : decide (V.str a = V.str b) = decide (a = b) := by
  rw [Bool.eq_iff_iff]
  simp
theorem of_eq (hu : X.A.units + 64 < cLine) : OpF X (compareOp .Eq) (eqG false) := fun pins s σ H v w u u' Q I rv rw' ⟨x, y, S, G, sm, rx, ry, h⟩ => by
  unfold eqG at h
  match e : eqD x y, h with
  | some b, h =>
    unfold eqD at e
    split at e
    · cases rx
      cases ry
      cases e
      exact op_eq pins s σ H _ _ u u' Q I rv rw' ⟨rfl, h G H _ .refl sm (by rw [dec_strV, Bool.false_xor]; exact .bl _)⟩
    · obtain ⟨p, q, h1, h2, h3, h4, rfl⟩ := eqP_some e
      exact op_eqD hu pins s σ H v w u u' Q I rv rw' ⟨p, q, Rp.dp sm.fr x v p rx h1, Rp.dp sm.fr y w q ry h2, h3, h4, h G H _ .refl sm (by rw [Bool.false_xor]; exact .bl _)⟩
  | none, h => exact h.elim
theorem of_ne (hu : X.A.units + 64 < cLine) : OpF X (compareOp .NotEq) (eqG true) := fun pins s σ H v w u u' Q I rv rw' ⟨x, y, S, G, sm, rx, ry, h⟩ => by
  unfold eqG at h
  match e : eqD x y, h with
  | some b, h =>
    unfold eqD at e
    split at e
    · cases rx
      cases ry
      cases e
      exact op_ne pins s σ H _ _ u u' Q I rv rw' ⟨rfl, h G H _ .refl sm (by rw [dec_strV, Bool.true_xor]; exact .bl _)⟩
    · obtain ⟨p, q, h1, h2, h3, h4, rfl⟩ := eqP_some e
      exact op_neD hu pins s σ H v w u u' Q I rv rw' ⟨p, q, Rp.dp sm.fr x v p rx h1, Rp.dp sm.fr y w q ry h2, h3, h4, h G H _ .refl sm (by rw [Bool.true_xor]; exact .bl _)⟩
  | none, h => exact h.elim
end
/-! ### order of ints, of texts -/
def strLt (a b : Str) : Bool := decide (a.cps.toList < b.cps.toList)
def ltG : G2 := fun x y S => match x, y with
  | .int i, .int j => .ok (.bl (decide (i < j))) S
  | .str a, .str b => .ok (.bl (strLt a b)) S
  | _, _ => .no
def leG : G2 := fun x y S => match x, y with
  | .int i, .int j => .ok (.bl (decide (i ≤ j))) S
  | .str a, .str b => .ok (.bl (!strLt b a)) S
  | _, _ => .no
def gtG : G2 := fun x y S => match x, y with
  | .int i, .int j => .ok (.bl (decide (j < i))) S
  | .str a, .str b => .ok (.bl (strLt b a)) S
  | _, _ => .no
def geG : G2 := fun x y S => match x, y with
  | .int i, .int j => .ok (.bl (decide (j ≤ i))) S
  | .str a, .str b => .ok (.bl (!strLt a b)) S
  | _, _ => .no
section
variable {X : Cx}
theorem of_lt : OpF X (compareOp .Lt) ltG := fun pins s σ H v w u u' Q I rv rw' ⟨x, y, S, G, sm, rx, ry, h⟩ => by
  unfold ltG at h
  split at h
  · cases rx; cases ry; exact op_lt pins s σ H _ _ u u' Q I rv rw' ⟨_, _, rfl, rfl, h G H _ .refl sm (.bl _)⟩
  · cases rx; cases ry; exact op_lt_str pins s σ H _ _ u u' Q I rv rw' ⟨_, _, rfl, rfl, h G H _ .refl sm (.bl _)⟩
  · exact h.elim
theorem of_le : OpF X (compareOp .LtE) leG := fun pins s σ H v w u u' Q I rv rw' ⟨x, y, S, G, sm, rx, ry, h⟩ => by
  unfold leG at h
  split at h
  · cases rx; cases ry; exact op_le pins s σ H _ _ u u' Q I rv rw' ⟨_, _, rfl, rfl, h G H _ .refl sm (.bl _)⟩
  · cases rx; cases ry; exact op_le_str pins s σ H _ _ u u' Q I rv rw' ⟨_, _, rfl, rfl, h G H _ .refl sm (.bl _)⟩
  · exact h.elim
theorem of_gt : OpF X (compareOp .Gt) gtG := fun pins s σ H v w u u' Q I rv rw' ⟨x, y, S, G, sm, rx, ry, h⟩ => by
  unfold gtG at h
  split at h
  · cases rx; cases ry; exact op_gt pins s σ H _ _ u u' Q I rv rw' ⟨_, _, rfl, rfl, h G H _ .refl sm (.bl _)⟩
  · cases rx; cases ry; exact op_gt_str pins s σ H _ _ u u' Q I rv rw' ⟨_, _, rfl, rfl, h G H _ .refl sm (.bl _)⟩
  · exact h.elim
theorem of_ge : OpF X (compareOp .GtE) geG := fun pins s σ H v w u u' Q I rv rw' ⟨x, y, S, G, sm, rx, ry, h⟩ => by
  unfold geG at h
  split at h
  · cases rx; cases ry; exact op_ge pins s σ H _ _ u u' Q I rv rw' ⟨_, _, rfl, rfl, h G H _ .refl sm (.bl _)⟩
  · cases rx; cases ry; exact op_ge_str pins s σ H _ _ u u' Q I rv rw' ⟨_, _, rfl, rfl, h G H _ .refl sm (.bl _)⟩
  · exact h.elim
end
/-! ### is None -/
def isNon : D → Bool
  | .non => true
  | _ => false
def isG (neg : Bool) : G2 := fun x y S => match y with
  | .non => .ok (.bl (neg ^^ isNon x)) S
  | _ => .no
theorem isNon_rp {K : PySem.W.Frag} {G : Gh} {d : D} {v : V} (r : Rp K G d v) : decide (v = .non) = isNon d := by cases r <;> simp [isNon]
section
variable {X : Cx}
theorem of_is : OpF X (compareOp .Is) (isG false) := fun pins s σ H v w u u' Q I rv rw' ⟨x, y, S, G, sm, rx, ry, h⟩ => by
  unfold isG at h
  split at h
  · cases ry; exact op_isN pins s σ H _ _ u u' Q I rv rw' ⟨rfl, h G H _ .refl sm (by rw [isNon_rp rx, Bool.false_xor]; exact .bl _)⟩
  · exact h.elim
theorem of_isnot : OpF X (compareOp .IsNot) (isG true) := fun pins s σ H v w u u' Q I rv rw' ⟨x, y, S, G, sm, rx, ry, h⟩ => by
  unfold isG at h
  split at h
  · cases ry; exact op_notN pins s σ H _ _ u u' Q I rv rw' ⟨rfl, h G H _ .refl sm (by rw [isNon_rp rx, Bool.true_xor]; exact .bl _)⟩
  · exact h.elim
end
/-! ### in -/
def strIn (a b : Str) : Bool := !(Builtin.Str.occurrences b a 0 b.length 1).isEmpty
def inD (x y : D) : Option Bool := match y with
  | .str b => match x with
    | .str a => some (strIn a b)
    | _ => none
  | .tup ys => match toP x, toPs ys with
    | some p, some qs => if flat p = true ∧ qs.all flat = true then some (qs.any fun q => PyData.eqv q p) else none
    | _, _ => none
  | .lst ys => match toP x, toPs ys with
    | some p, some qs => if SeqAt.shaped p = true ∧ SeqAt.shaped (.list qs) = true then some (qs.any fun q => PyData.eqv q p) else none
    | _, _ => none
  | _ => none
where flat : PyData → Bool
  | .none => true
  | .bool _ => true
  | .int _ => true
  | .str _ => true
  | _ => false
def inG (neg : Bool) : G2 := fun x y S => match inD x y with
  | some b => .ok (.bl (neg ^^ b)) S
  | none => .no
section
variable {K : PySem.W.Frag} {G : Gh} {H : Hp}
theorem dp_flat {v : V} {p : PyData} (h : Dp K H v p) (f : inD.flat p = true) : flatV v = true := by cases h <;> first | rfl | cases f
theorem dp_eqV {v w : V} {p q : PyData} (h : Dp K H v p) (h' : Dp K H w q) (f : inD.flat p = true) (f' : inD.flat q = true) : eqV v w = PyData.eqv p q := by
  cases h <;> cases h' <;> first | rfl | (cases f; done) | (cases f'; done) | simp [eqV, PyData.eqv]
theorem dpAll_flat : ∀ {vs : List V} {ps : List PyData}, DpAll K H vs ps → ps.all inD.flat = true → vs.all flatV = true
  | _, _, .nil, _ => rfl
  | _, _, .cons a b, f => by
    rw [List.all_cons, Bool.and_eq_true] at f
    rw [List.all_cons, Bool.and_eq_true]
    exact ⟨dp_flat a f.1, dpAll_flat b f.2⟩
theorem dpAll_any {v : V} {p : PyData} (h : Dp K H v p) (fp : inD.flat p = true) : ∀ {vs : List V} {ps : List PyData}, DpAll K H vs ps → ps.all inD.flat = true → inV v vs = ps.any fun q => PyData.eqv q p
  | _, _, .nil, _ => rfl
  | _, _, .cons a b, f => by
    rw [List.all_cons, Bool.and_eq_true] at f
    unfold inV
    rw [List.any_cons, List.any_cons, dp_eqV a h f.1 fp]
    exact congrArg _ (dpAll_any h fp b f.2)
end
theorem in_cases {X : Cx} {x y : D} {b : Bool} {G : Gh} {S : Sto} {H : Hp} {v w : V} (e : inD x y = some b) (sm : Sm X.K G S H) (rx : Rp X.K G x v) (ry : Rp X.K G y w) :
    (∃ i j, v = .str i ∧ w = .str j ∧ b = !(Builtin.Str.occurrences j i 0 j.length 1).isEmpty) ∨
    (∃ p xs, w = .ref p ∧ (SqL X.K H p xs ∨ SqT X.K H p xs) ∧ flatV v = true ∧ xs.all flatV = true ∧ b = inV v xs) ∨
    ∃ d ds, Dp X.K H v d ∧ Dp X.K H w (.list ds) ∧ SeqAt.shaped d = true ∧ SeqAt.shaped (.list ds) = true ∧ b = ds.any fun z => PyData.eqv z d := by
  unfold inD at e
  split at e
  · split at e
    · cases rx; cases ry
      exact .inl ⟨_, _, rfl, rfl, (Option.some.inj e).symm⟩
    · cases e
  · rename_i ys
    match h1 : toP x, h2 : toPs ys, e with
    | some p, some qs, e =>
      simp only at e
      by_cases c : inD.flat p = true ∧ qs.all inD.flat = true
      · rw [if_pos c] at e
        cases ry with
        | tup h r =>
          have dx := Rp.dp sm.fr x v p rx h1
          have dy := Rps.dp sm.fr ys _ qs r h2
          exact .inr (.inl ⟨_, _, rfl, .inr (SqT.mono h sm.fr), dp_flat dx c.1, dpAll_flat dy c.2, by rw [dpAll_any dx c.1 dy c.2]; exact (Option.some.inj e).symm⟩)
      · rw [if_neg c] at e
        cases e
    | none, _, e => cases e
    | some _, none, e => cases e
  · rename_i ys
    match h1 : toP x, h2 : toPs ys, e with
    | some p, some qs, e =>
      simp only at e
      by_cases c : SeqAt.shaped p = true ∧ SeqAt.shaped (.list qs) = true
      · rw [if_pos c] at e
        cases ry with
        | lst h r =>
          exact .inr (.inr ⟨p, qs, Rp.dp sm.fr x v p rx h1, .lst (SqL.of (sm.fr _ _ h)) (Rps.dp sm.fr ys _ qs r h2), c.1, c.2, (Option.some.inj e).symm⟩)
      · rw [if_neg c] at e
        cases e
    | none, _, e => cases e
    | some _, none, e => cases e
  · cases e
section
variable {X : Cx}
theorem of_in (hu : X.A.units + 65 < cLine) : OpF X (compareOp .In) (inG false) := fun pins s σ H v w u u' Q I rv rw' ⟨x, y, S, G, sm, rx, ry, h⟩ => by
  unfold inG at h
  match e : inD x y, h with
  | some b, h =>
    have q : Q (.bl b) H := h G H _ .refl sm (by rw [Bool.false_xor]; exact .bl _)
    rcases in_cases e sm rx ry with ⟨i, j, rfl, rfl, rfl⟩ | ⟨p, xs, rfl, h1, h2, h3, rfl⟩ | ⟨d, ds, h1, h2, h3, h4, rfl⟩
    · exact op_in_str pins s σ H _ _ u u' Q I rv rw' ⟨i, j, rfl, rfl, q⟩
    · exact op_in_seq pins s σ H _ _ u u' Q I rv rw' ⟨p, xs, rfl, h1, h2, h3, q⟩
    · exact op_inD hu pins s σ H _ _ u u' Q I rv rw' ⟨d, ds, h1, h2, h3, h4, q⟩
  | none, h => exact h.elim
theorem of_notin (hu : X.A.units + 65 < cLine) : OpF X (compareOp .NotIn) (inG true) := fun pins s σ H v w u u' Q I rv rw' ⟨x, y, S, G, sm, rx, ry, h⟩ => by
  unfold inG at h
  match e : inD x y, h with
  | some b, h =>
    have q : Q (.bl (!b)) H := h G H _ .refl sm (by rw [Bool.true_xor]; exact .bl _)
    rcases in_cases e sm rx ry with ⟨i, j, rfl, rfl, rfl⟩ | ⟨p, xs, rfl, h1, h2, h3, rfl⟩ | ⟨d, ds, h1, h2, h3, h4, rfl⟩
    · exact op_notin_str pins s σ H _ _ u u' Q I rv rw' ⟨i, j, rfl, rfl, q⟩
    · exact op_notIn_seq pins s σ H _ _ u u' Q I rv rw' ⟨p, xs, rfl, h1, h2, h3, q⟩
    · exact op_notInD hu pins s σ H _ _ u u' Q I rv rw' ⟨d, ds, h1, h2, h3, h4, q⟩
  | none, h => exact h.elim
end
/-! ### arithmetic, putting together -/
def fits (a b : Nat) : Bool := decide (a + b ≤ sizeLine)
def addG : G2 := fun x y S => match x, y with
  | .int i, .int j => .ok (.int (i + j)) S
  | .str a, .str b => if fits a.length b.length = true then .ok (.str (a ++ b)) S else .no
  | .lst a, .lst b => if fits a.length b.length = true then .ok (.lst (a ++ b)) S else .no
  | .tup a, .tup b => if fits a.length b.length = true then .ok (.tup (a ++ b)) S else .no
  | _, _ => .no
def subG : G2 := fun x y S => match x, y with
  | .int i, .int j => .ok (.int (i - j)) S
  | _, _ => .no
def mulOk (i j : Int) : Bool := decide (-(2 ^ 64) < i ∧ i < 2 ^ 64) || decide (-(2 ^ 64) < j ∧ j < 2 ^ 64) || decide (i.natAbs.log2 + j.natAbs.log2 < 1000000)
def repOk (n : Nat) (k : Int) : Bool := decide (-(2 ^ 63) ≤ k) && decide (k < 2 ^ 63) && decide (n * k.toNat ≤ sizeLine)
def mulG : G2 := fun x y S => match x, y with
  | .int i, .int j => if mulOk i j = true then .ok (.int (i * j)) S else .no
  | .lst a, .int k => if repOk a.length k = true then .ok (.lst (List.replicate k.toNat a).flatten) S else .no
  | _, _ => .no
def divOk (j : Int) : Bool := decide (0 < j) && decide (j.natAbs.log2 < 9000)
def fdivG : G2 := fun x y S => match x, y with
  | .int i, .int j => if divOk j = true then .ok (.int (i / j)) S else .no
  | _, _ => .no
def modG : G2 := fun x y S => match x, y with
  | .int i, .int j => if 0 < j then .ok (.int (i % j)) S else .no
  | _, _ => .no
def powOk (i j : Int) : Bool := decide (0 ≤ j) && decide (j ≤ 1000000) && decide (i.natAbs < 2 ^ 64)
def powG : G2 := fun x y S => match x, y with
  | .int i, .int j => if powOk i j = true then .ok (.int (i ^ j.toNat)) S else .no
  | _, _ => .no
theorem Rps.flat {K : PySem.W.Frag} {G : Gh} {xs : List D} {vs : List V} (r : Rps K G xs vs) : ∀ n : Nat, Rps K G (List.replicate n xs).flatten (List.replicate n vs).flatten
  | 0 => .nil
  | n + 1 => r.append (Rps.flat r n)
section
variable {X : Cx}
theorem new_lst {G : Gh} {S : Sto} {H : Hp} {p : Addr} {xs : List D} {vs : List V} {Q : VK} (sm : Sm X.K G S H) (hp : H p = none) (r : Rps X.K G xs vs) (h : sat X (Rp X.K) G H (.ok (.lst xs) S) Q) : Q (.ref p) (upd H p (.lst vs)) :=
  h _ _ _ (Stp.put sm hp) (sm.put hp) (.lst upd_same (r.mono (Gh.put_le (sm.free hp))))
theorem new_tup {G : Gh} {S : Sto} {H : Hp} {p : Addr} {xs : List D} {vs : List V} {Q : VK} (sm : Sm X.K G S H) (hp : H p = none) (r : Rps X.K G xs vs) (h : sat X (Rp X.K) G H (.ok (.tup xs) S) Q) : Q (.ref p) (upd H p (.tup vs)) :=
  h _ _ _ (Stp.put sm hp) (sm.put hp) (.tup (SqT.of upd_same) (r.mono (Gh.put_le (sm.free hp))))
theorem of_add : OpF X (binaryOp .Add) addG := fun pins s σ H v w u u' Q I rv rw' ⟨x, y, S, G, sm, rx, ry, h⟩ => by
  unfold addG at h
  split at h
  · cases rx; cases ry; exact op_add pins s σ H _ _ u u' Q I rv rw' ⟨_, _, rfl, rfl, h G H _ .refl sm (.int _)⟩
  · split at h
    · rename_i c
      cases rx; cases ry; exact op_add_str pins s σ H _ _ u u' Q I rv rw' ⟨_, _, rfl, rfl, of_decide_eq_true c, h G H _ .refl sm (.str _)⟩
    · exact h.elim
  · split at h
    · rename_i c
      cases rx with
      | lst h1 r1 =>
        cases ry with
        | lst h2 r2 =>
          refine op_cat pins s σ H _ _ u u' Q I rv rw' ⟨_, _, _, _, rfl, rfl, sm.fr _ _ h1, sm.fr _ _ h2, ?_, fun p hp => ?_⟩
          · rw [r1.length, r2.length]
            exact of_decide_eq_true c
          · exact new_lst sm hp (r1.append r2) h
    · exact h.elim
  · split at h
    · rename_i c
      cases rx with
      | tup h1 r1 =>
        cases ry with
        | tup h2 r2 =>
          refine op_catA pins s σ H _ _ u u' Q I rv rw' ⟨_, _, _, _, rfl, rfl, SqT.mono h1 sm.fr, SqT.mono h2 sm.fr, ?_, fun e => ?_, fun _ e => ?_, fun _ _ p hp => ?_⟩
          · rw [r1.length, r2.length]
            exact of_decide_eq_true c
          · subst e
            cases r1
            exact h G H _ .refl sm (.tup h2 r2)
          · subst e
            cases r2
            rw [List.append_nil] at h
            exact h G H _ .refl sm (.tup h1 r1)
          · exact new_tup sm hp (r1.append r2) h
    · exact h.elim
  · exact h.elim
theorem of_sub : OpF X (binaryOp .Sub) subG := fun pins s σ H v w u u' Q I rv rw' ⟨x, y, S, G, sm, rx, ry, h⟩ => by
  unfold subG at h
  split at h
  · cases rx; cases ry; exact op_sub pins s σ H _ _ u u' Q I rv rw' ⟨_, _, rfl, rfl, h G H _ .refl sm (.int _)⟩
  · exact h.elim
theorem of_mul : OpF X (binaryOp .Mult) mulG := fun pins s σ H v w u u' Q I rv rw' ⟨x, y, S, G, sm, rx, ry, h⟩ => by
  unfold mulG at h
  split at h
  · split at h
    · rename_i c
      cases rx; cases ry
      unfold mulOk at c
      rw [Bool.or_eq_true, Bool.or_eq_true] at c
      rcases c with (c | c) | c
      · exact op_mul pins s σ H _ _ u u' Q I rv rw' ⟨_, _, rfl, rfl, .inl (of_decide_eq_true c), h G H _ .refl sm (.int _)⟩
      · exact op_mul pins s σ H _ _ u u' Q I rv rw' ⟨_, _, rfl, rfl, .inr (of_decide_eq_true c), h G H _ .refl sm (.int _)⟩
      · exact op_mulW pins s σ H _ _ u u' Q I rv rw' ⟨_, _, rfl, rfl, (of_decide_eq_true c : _ < 1000000), h G H _ .refl sm (.int _)⟩
    · exact h.elim
  · split at h
    · rename_i c
      unfold repOk at c
      rw [Bool.and_eq_true, Bool.and_eq_true] at c
      cases rx with
      | lst h1 r1 =>
        cases ry
        refine op_rep pins s σ H _ _ u u' Q I rv rw' ⟨_, _, _, rfl, rfl, sm.fr _ _ h1, of_decide_eq_true c.1.1, of_decide_eq_true c.1.2, ?_, fun p hp => ?_⟩
        · rw [r1.length]
          exact of_decide_eq_true c.2
        · exact new_lst sm hp (r1.flat _) h
    · exact h.elim
  · exact h.elim
theorem of_fdiv : OpF X (binaryOp .FloorDiv) fdivG := fun pins s σ H v w u u' Q I rv rw' ⟨x, y, S, G, sm, rx, ry, h⟩ => by
  unfold fdivG at h
  split at h
  · split at h
    · rename_i c
      unfold divOk at c
      rw [Bool.and_eq_true] at c
      cases rx; cases ry; exact op_fdivW pins s σ H _ _ u u' Q I rv rw' ⟨_, _, rfl, rfl, ⟨of_decide_eq_true c.1, of_decide_eq_true c.2⟩, h G H _ .refl sm (.int _)⟩
    · exact h.elim
  · exact h.elim
theorem of_mod : OpF X (binaryOp .Mod) modG := fun pins s σ H v w u u' Q I rv rw' ⟨x, y, S, G, sm, rx, ry, h⟩ => by
  unfold modG at h
  split at h
  · split at h
    · rename_i c
      cases rx; cases ry; exact op_mod pins s σ H _ _ u u' Q I rv rw' ⟨_, _, rfl, rfl, c, h G H _ .refl sm (.int _)⟩
    · exact h.elim
  · exact h.elim
theorem of_pow : OpF X (binaryOp .Pow) powG := fun pins s σ H v w u u' Q I rv rw' ⟨x, y, S, G, sm, rx, ry, h⟩ => by
  unfold powG at h
  split at h
  · split at h
    · rename_i c
      unfold powOk at c
      rw [Bool.and_eq_true, Bool.and_eq_true] at c
      cases rx; cases ry; exact op_pow pins s σ H _ _ u u' Q I rv rw' ⟨_, _, rfl, rfl, ⟨of_decide_eq_true c.1.1, of_decide_eq_true c.1.2, of_decide_eq_true c.2⟩, h G H _ .refl sm (.int _)⟩
    · exact h.elim
  · exact h.elim
def negG : G1 := fun x S => match x with
  | .int i => .ok (.int (-i)) S
  | _ => .no
theorem of_neg : UnF X (unaryOp .USub) negG := fun pins s σ H v u Q I rv ⟨x, S, G, sm, rx, h⟩ => by
  unfold negG at h
  split at h
  · cases rx; exact un_neg pins s σ H _ u Q I rv ⟨_, rfl, h G H _ .refl sm (.int _)⟩
  · exact h.elim
end
end PV
set_option Elab.async false
set_option linter.all false
set_option maxRecDepth 100000
set_option maxHeartbeats 4000000
namespace ZL
open PySem PySem.Spec PyProof.Rows L2
section
variable {P : Program} {w : World} {K : PySem.W.Frag} {mg mb : Str → Option Value} {k : Nat} {fa a : Addr} {sp : Sp} {s₁ : Shared} {vs : List Value} {ns : List Int}
abbrev ended (s₁ : Shared) : Except Value Flow → Shared → Prop := fun r s' => r = .ok (.ret (.bool true)) ∧ OldK s₁.heap s'.heap ∧ s'.os = s₁.os ∧ AllBare s'.gens
/-- from a heap in which at most the script is told -/
theorem ended_of {H : Hp} (hO : Only H) (hok : HOk P w H s₁.heap) {r : Except Value Flow} {s' : Shared} (h : CR CX0 [] P w H s₁ (fun v _ => v = .bl true) (fun _ _ _ => False) r s') : ended s₁ r s' := by
  match r, h with
  | .error _, h => exact False.elim h
  | .ok .next, h => exact False.elim h
  | .ok .brk, h => exact False.elim h
  | .ok .cont, h => exact False.elim h
  | .ok (.ret u), h =>
    obtain ⟨v, H', os, bare, un, hok', r', q⟩ := h
    have q' : v = .bl true := q
    subst q'
    have r2 : u = Value.bool true := r'
    refine ⟨by rw [r2], OldK.of_keep fun b o e => ?_, os, bare⟩
    rcases hO b with z | ⟨ob, xs, z⟩
    · exact un.keep b o e z (fun y => nomatch y) (fun y => nomatch y)
    · have e1 := (hok b _ z).1
      rw [e] at e1
      rw [Option.some.inj e1]
      exact (hok' b _ (un.frzs b ob _ z)).1
theorem lawG_core {H : Hp} (KX : K.In s₁.heap) (hns : s₁.heap.Ns mainGlobals mg) (hb : s₁.heap.Ns builtinsNs mb) (hbb : ∀ x : Str, x ≠ "__name__" → mb x = bootBuiltins x) (hlim : s₁.heap.NoLimit) (hg : s₁.gens = #[])
    (hr : Room k callerA) (F : ∀ base : Heap, K.In base → base.Ns mainGlobals mg → FnRG P w K mg base CX0 k fa sp) (hO : Only H) (hok : HOk P w H s₁.heap)
    (hK : ∀ b o, K.lookup b = some o → H b = none) (hD : ∀ b o es ep, s₁.heap.get? b = some o → o.data = .dict es ep → H b = none)
    (h : sp [.ref a] H (fun v _ => v = .bl true) fun _ _ _ => False) : codeAny (model P w) callerA (.call (.ref fa) ⟨[.ref a], []⟩) (ended s₁) s₁ := by
  have nsK : ∀ {b : Addr} {m : Str → Option Value}, s₁.heap.Ns b m → (hidT s₁.heap H).Ns b m := fun {b m} z => by
    obtain ⟨o, es, ep, e, d, r⟩ := z
    exact ⟨o, es, ep, hidT_get e (hD b o es ep e d), d, r⟩
  have hKb : K.In (hidT s₁.heap H) := fun b o e => hidT_get (KX b o e) (hK b o e)
  obtain ⟨mc, l1, l2⟩ := hlim
  have e0 : Env0 P w K mg (hidT s₁.heap H) callerA [] s₁ H := ⟨rfl, ⟨hKb, nsK hns, ⟨mb, nsK hb, hbb⟩, ⟨mc, nsK l1, l2⟩⟩, fun b o e => of_hidT e, Nat.le_of_eq (hidT_size _ _), trivial, fun b z => (nomatch (show b ∈ ([] : List Addr) from z)), hok, .of_eq hg⟩
  exact codeAny_mono (F _ hKb (nsK hns) callerA [] s₁ H [.ref a] [.ref a] _ _ rfl hr e0 (.cons rfl .nil) h) fun r s' z => ended_of hO hok z
theorem law_callG (KX : K.In s₁.heap) (hns : s₁.heap.Ns mainGlobals mg) (hb : s₁.heap.Ns builtinsNs mb) (hbb : ∀ x : Str, x ≠ "__name__" → mb x = bootBuiltins x) (hlim : s₁.heap.NoLimit) (hg : s₁.gens = #[])
    (ha : s₁.heap.get? a = some { cls := .type "list", data := .seq vs.toArray }) (hi : IntsAre vs ns) (hl : ns.length ≤ sizeLine) (hr : Room k callerA)
    (F : ∀ base : Heap, K.In base → base.Ns mainGlobals mg → FnRG P w K mg base CX0 k fa sp)
    (hsp : ∀ H : Hp, Only H → SqL K H a (ns.map V.int) → sp [.ref a] H (fun v _ => v = .bl true) fun _ _ _ => False) :
    codeAny (model P w) callerA (.call (.ref fa) ⟨[.ref a], []⟩) (ended s₁) s₁ := by
  have rv := vals_ints hi
  cases hk : K.lookup a with
  | some o =>
    have e := KX a o hk
    rw [ha] at e
    have e' := (Option.some.inj e).symm
    subst e'
    have hO : Only (fun _ => none) := fun _ => .inl rfl
    refine lawG_core (H := fun _ => none) KX hns hb hbb hlim hg hr F hO (fun b u z => nomatch z) (fun _ _ _ => rfl) (fun _ _ _ _ _ _ => rfl) (hsp _ hO (.inr ⟨_, vs.toArray, _, hk, rfl, rfl, rfl, ?_, ?_⟩))
    · rw [List.size_toArray, hi.length]
      exact hl
    · simpa using rv
  | none =>
    let o : Obj := { cls := .type "list", data := .seq vs.toArray }
    let H : Hp := fun b => if b = a then some (.frz o (.lst (ns.map V.int))) else none
    have h1 : H a = some (.frz o (.lst (ns.map V.int))) := if_pos rfl
    have h2 : ∀ b, b ≠ a → H b = none := fun b z => if_neg z
    have hO : Only H := fun b => by
      by_cases z : b = a
      · exact .inr ⟨o, _, by rw [z]; exact h1⟩
      · exact .inl (h2 b z)
    refine lawG_core (H := H) KX hns hb hbb hlim hg hr F hO (fun b u z => ?_) (fun b o' z => h2 b fun y => ?_) (fun b o' es ep e d => h2 b fun y => ?_) (hsp _ hO (.inl (.inr ⟨o, h1⟩)))
    · by_cases y : b = a
      · subst y
        rw [h1] at z
        have z' := Option.some.inj z
        subst z'
        exact ⟨ha, by rw [List.length_map]; exact hl, vs, _, rv, ha⟩
      · rw [h2 b y] at z
        cases z
    · rw [y, hk] at z
      cases z
    · rw [y, ha] at e
      have e' := (Option.some.inj e).symm
      subst e'
      cases d
end
/-- a law called where no repr is running -/
theorem walk_ofG {l : PySem.W.OpenLaw} {n k : Nat} {q : Program} {loose : List Str} {XP : (Str → Option Value) → Heap → Prop} {YP : World → Heap → Prop} {d : DefRec}
    (hn : l.most = some n) (hn2 : n ≤ sizeLine) (hdf : d.params.defaults = []) (hr : Room k callerA)
    (F : ∀ (w : World) (mg : Str → Option Value) (fa : Addr) (h : Heap), YP w h → h.Ns mainGlobals mg → mg d.name = some (.ref fa) →
      ∃ (K : PySem.W.Frag) (sp : Sp), K.In h ∧ (∀ (H : Hp) (a : Addr) (ns : List Int), ns.length ≤ n → Only H → SqL K H a (ns.map V.int) → sp [.ref a] H (fun v _ => v = .bl true) fun _ _ _ => False) ∧
        ∀ base : Heap, K.In base → base.Ns mainGlobals mg → FnRG l.prog w K mg base CX0 k fa sp) :
    PySem.W.WalkO q loose XP YP l.row.toRowW d [] (fun f vs => PySem.call f vs) := by
  refine Att.attach_call hn hdf fun w s₀ s₁ mg mb fa o pm cd doc a vs ns G Y ho hd hcd hmg hobj hi hlen hg => ?_
  obtain ⟨K, sp, KX, hsp, hF⟩ := F w mg fa _ Y G.T.g hmg
  exact law_callG KX G.T.g G.T.b G.T.builtins G.T.nolimit hg hobj hi (Nat.le_trans hlen hn2) hr hF fun H hO hS => hsp H a ns hlen hO hS
end ZL
set_option Elab.async false
set_option linter.all false
set_option maxRecDepth 100000
set_option maxHeartbeats 4000000
namespace ZL
open PySem PySem.Spec PyProof.Rows L2
section
variable {X : Cx} {CX : CXT} {k : Nat} {f C : Addr} {sp : Sp} {E : XK}
/-- C() -/
theorem pe_makeR0 {x : Str} {p pos : Pos} (M : Mk X.K C f) (F : FnR X.prog X.w X.K X.mg X.base CX k f sp) (hr : Room (k + 1) X.A) (hg : Gl X x) (hm : X.mg x = some (.ref C)) (hx : Passes CX X E) (hd : (x == ("__debug__" : Str)) = false := by decide) :
    PE X (.Call (.Name x p) [] [] pos) (fun σ H Q => ∀ x dx, H x = none → H dx = none → dx ≠ x → sp [V.ref x] (upd (upd H dx (.own x)) x (.ins C dx [])) (fun v H2 => v = .non ∧ Q (.ref x) H2) E) :=
  ⟨fun pins s σ H Q I h => wpAny_Call_Name_kw (ld_glob I hg hm (PySem.W.callWith_K0 I.kIn M.kp (StX.run_makeR M F hr hx (I.tok _) .nil h)) hd)⟩
end
end ZL
set_option Elab.async false
set_option linter.all false
set_option maxRecDepth 100000
set_option maxHeartbeats 4000000
namespace ZL
open PySem PySem.Spec PyProof.Rows L2
section
variable {X : Cx} {CX : CXT} {k : Nat} {f C g : Addr} {sp : Sp} {E : XK} {pins : List (Addr × Obj)} {σ : L2.St} {H : Hp} {s : Shared}
/-! ### len, str, in of an instance by own methods -/
theorem call_lenO (o : Own X.K C "__len__" f) (F : FnR X.prog X.w X.K X.mg X.base CX k f sp) (hr : Room (k + 1) X.A) (hx : Passes CX X E) :
    CallR X (.builtin "len") (fun xs H Q => ∃ a dx fs, xs = [.ref a] ∧ H a = some (.ins C dx fs) ∧ sp [.ref a] H (fun v H' => ∃ n, v = .int n ∧ (0 ≤ n ∧ n < 2 ^ 63) ∧ Q v H') E) := by
  rintro pins s σ H xs us Q I r ⟨a, dx, fs, rfl, ha, q⟩
  match us, r with
  | [u], .cons r1 .nil =>
    cases r1
    obtain ⟨od, J⟩ := inst_at I ha
    obtain ⟨m, hF⟩ := I.fr
    refine PySem.W.len_K hF I.ok.mod.kin J o.at_ o.fn (thn (run_at (A := X.A.in1) (vs := [.ref a]) F hr.in1 rfl hx I (.cons rfl .nil) q) fun u s' z => ?_)
    obtain ⟨v, H', I', r', n, rfl, b, q'⟩ := z
    obtain ⟨t, rfl⟩ := r'
    exact ⟨b, .int n, H', I'.tok _, ⟨_, rfl⟩, q'⟩
theorem call_strO (o : Own X.K C "__str__" f) (F : FnR X.prog X.w X.K X.mg X.base CX k f sp) (hr : Room (k + 2) X.A) (hx : Passes CX X E) :
    CallR X (.type "str") (fun xs H Q => ∃ a dx fs, xs = [.ref a] ∧ H a = some (.ins C dx fs) ∧ sp [.ref a] H (fun v H' => ∃ z, v = .str z ∧ Q v H') E) := by
  rintro pins s σ H xs us Q I r ⟨a, dx, fs, rfl, ha, q⟩
  match us, r with
  | [u], .cons r1 .nil =>
    cases r1
    obtain ⟨od, J⟩ := inst_at I ha
    refine PySem.W.kso_call (by have := hr.un; show X.A.units + 1 + 1 < cLine; omega) I.kIn J o.at_ o.fn (thn (run_at (A := X.A.in1.in1) (vs := [.ref a]) F hr.in1.in1 rfl hx I (.cons rfl .nil) q) fun u s' z => ?_)
    obtain ⟨v, H', I', r', n, rfl, q'⟩ := z
    obtain ⟨t, rfl⟩ := r'
    exact ⟨.str n, H', I', ⟨_, rfl⟩, q'⟩
def rInO (C : Addr) (sp : Sp) (E : XK) (neg : Bool) : R2 := fun x y H Q => ∃ a dx fs, y = .ref a ∧ H a = some (.ins C dx fs) ∧ sp [y, x] H (fun v H' => ∃ b, v = .bl b ∧ Q (.bl (neg ^^ b)) H') E
theorem op_inO (o : Own X.K C "__contains__" f) (F : FnR X.prog X.w X.K X.mg X.base CX k f sp) (hr : Room k X.A) (hx : Passes CX X E) : OpR X (compareOp .In) (rInO C sp E false) := by
  rintro pins s σ H x y v u Q I rx ry ⟨a, dx, fs, rfl, ha, q⟩
  cases ry
  obtain ⟨od, J⟩ := inst_at I ha
  obtain ⟨m, hF⟩ := I.fr
  refine PySem.W.in_K hF I.ok.mod.kin J o.at_ o.fn (thn (run_at (A := X.A) (vs := [.ref a, x]) F hr rfl hx I (.cons rfl (.cons rx .nil)) q) fun u s' z => ?_)
  obtain ⟨v', H', I', r', b, rfl, q'⟩ := z
  cases r'
  refine wpAny_truthy_bool ⟨.bl b, H', I', rfl, ?_⟩
  simpa using q'
theorem op_ninO (o : Own X.K C "__contains__" f) (F : FnR X.prog X.w X.K X.mg X.base CX k f sp) (hr : Room k X.A) (hx : Passes CX X E) : OpR X (compareOp .NotIn) (rInO C sp E true) := by
  rintro pins s σ H x y v u Q I rx ry ⟨a, dx, fs, rfl, ha, q⟩
  cases ry
  obtain ⟨od, J⟩ := inst_at I ha
  obtain ⟨m, hF⟩ := I.fr
  refine PySem.W.notIn_K hF I.ok.mod.kin J o.at_ o.fn (thn (run_at (A := X.A) (vs := [.ref a, x]) F hr rfl hx I (.cons rfl (.cons rx .nil)) q) fun u s' z => ?_)
  obtain ⟨v', H', I', r', b, rfl, q'⟩ := z
  cases r'
  refine wpAny_truthy_bool ⟨.bl (!b), H', I', rfl, ?_⟩
  simpa using q'
/-! ### x op y by own methods -/
theorem cmpBack_ref {Q : VK} {u : Value} {s' : Shared} (h : EP X pins σ (fun v H' => (∃ r, v = .ref r) ∧ Q v H') u s') : PySem.W.CmpBack (EP X pins σ Q) u s' := by
  obtain ⟨v, H', I', r, ⟨b, rfl⟩, q⟩ := h
  cases r
  exact ⟨.ref b, H', I', rfl, q⟩
/-- x op y, both instances of the class at C; an object comes back -/
def rBinO (C : Addr) (sp : Sp) (E : XK) : R2 := fun x y H Q => ∃ a b dx dy fs gs, x = .ref a ∧ y = .ref b ∧ H a = some (.ins C dx fs) ∧ H b = some (.ins C dy gs) ∧ sp [x, y] H (fun v H' => (∃ r, v = .ref r) ∧ Q v H') E
theorem op_binO {op : Operator} (hc : PySem.W.selfFirst X.K C = true) (o : Own X.K C (PySem.dunder op.info.2) f) (F : FnR X.prog X.w X.K X.mg X.base CX k f sp) (hr : Room k X.A) (hx : Passes CX X E) : OpR X (binaryOp op) (rBinO C sp E) := by
  rintro pins s σ H x y v u Q I rx ry ⟨a, b, dx, dy, fs, gs, rfl, rfl, ha, hb, q⟩
  cases rx
  cases ry
  obtain ⟨od, J⟩ := inst_at I ha
  obtain ⟨od', J'⟩ := inst_at I hb
  obtain ⟨m, hF⟩ := I.fr
  exact PySem.W.binop_K hF I.ok.mod.kin J J'.type hc o.at_ o.fn (thn (run_at (vs := [.ref a, .ref b]) F hr rfl hx I (.cons rfl (.cons rfl .nil)) q) fun u s' z => cmpBack_ref z)
/-- x op an int -/
def rBinI (C : Addr) (sp : Sp) (E : XK) : R2 := fun x y H Q => ∃ a i dx fs, x = .ref a ∧ y = .int i ∧ H a = some (.ins C dx fs) ∧ sp [x, y] H (fun v H' => (∃ r, v = .ref r) ∧ Q v H') E
theorem op_binI {op : Operator} {fo ro rc : Option Value} (hc : PySem.W.selfFirst X.K C = true) (o : Own X.K C (PySem.dunder op.info.2) f) (hR : PySem.W.findIn X.K (.ref C) (dunderR op.info.2) = some rc) (hp : rc = none ∨ ∃ g : Addr, rc = some (.ref g))
    (h1 : PySem.W.findIn X.K (.type "int") (PySem.dunder op.info.2) = some fo) (h2 : PySem.W.findIn X.K (.type "int") (dunderR op.info.2) = some ro) (hsub : PySem.W.subIn X.K (.type "int") (.ref C) = some false)
    (F : FnR X.prog X.w X.K X.mg X.base CX k f sp) (hr : Room k X.A) (hx : Passes CX X E) : OpR X (binaryOp op) (rBinI C sp E) := by
  rintro pins s σ H x y v u Q I rx ry ⟨a, i, dx, fs, rfl, rfl, ha, q⟩
  cases rx
  have ry' := ry
  obtain ⟨t, rfl⟩ := ry'
  obtain ⟨od, J⟩ := inst_at I ha
  obtain ⟨m, hF⟩ := I.fr
  exact PySem.W.ksp_binT (T := "int") hF I.ok.mod.kin J rfl hc o.at_ o.fn hR hp h1 h2 hsub (thn (run_at (vs := [.ref a, .int i]) F hr rfl hx I (.cons rfl (.cons ry .nil)) q) fun u s' z => cmpBack_ref z)
end
end ZL
set_option Elab.async false
set_option linter.all false
set_option maxRecDepth 100000
set_option maxHeartbeats 4000000
namespace PV
open PySem PySem.Spec PyProof.Rows L2 ZL
/-! ### names as texts -/
theorem ofS_inj {a b : String} (h : Str.ofString a = Str.ofString b) : a = b := by
  rw [Str.ofString_eq_toList, Str.ofString_eq_toList] at h
  have h1 : (a.toList.map Char.toNat).toArray = (b.toList.map Char.toNat).toArray := congrArg Str.cps h
  have h2 : a.toList.map Char.toNat = b.toList.map Char.toNat := by simpa using congrArg Array.toList h1
  have inj : ∀ (x y : List Char), x.map Char.toNat = y.map Char.toNat → x = y := by
    intro x
    induction x with
    | nil => intro y e; cases y with | nil => rfl | cons _ _ => simp at e
    | cons c x ih =>
      intro y e
      cases y with
      | nil => simp at e
      | cons d y =>
        simp only [List.map_cons, List.cons.injEq] at e
        rw [Char.toNat_inj.mp e.1, ih y e.2]
  exact String.toList_inj.mp (inj _ _ h2)
section
variable {K : PySem.W.Frag} {G : Gh}
theorem Rpf.at {fs : List (String × D)} {ws : List (Str × V)} {n : String} {d : D} (h : Rpf K G fs ws) (e : fs.lookup n = some d) : ∃ v, ws.lookup (Str.ofString n) = some v ∧ Rp K G d v := h.get e fun _ _ z => ofS_inj z
theorem Rpf.gone {fs : List (String × D)} {ws : List (Str × V)} {n : String} (h : Rpf K G fs ws) (e : fs.lookup n = none) : ws.lookup (Str.ofString n) = none := by
  induction fs generalizing ws with
  | nil => cases h; rfl
  | cons x xs ih =>
    cases h with
    | @cons m d' v' _ ws' a b =>
      by_cases hm : n = m
      · subst hm
        simp at e
      · have h1 : (n == m) = false := by simpa using hm
        rw [List.lookup_cons, h1] at e
        have h2 : (Str.ofString n == Str.ofString m) = false := beq_eq_false_iff_ne.mpr fun z => hm (ofS_inj z)
        rw [List.lookup_cons, h2]
        exact ih b e
theorem Rpf.length {fs : List (String × D)} {ws : List (Str × V)} (h : Rpf K G fs ws) : ws.length = fs.length := by
  induction fs generalizing ws with
  | nil => cases h; rfl
  | cons x xs ih => cases h with | cons a b => simp [ih b]
def putD (f : String) (d : D) : List (String × D) → List (String × D)
  | [] => [(f, d)]
  | (g, x) :: r => if g = f then (g, d) :: r else (g, x) :: putD f d r
theorem Rpf.put {fs : List (String × D)} {ws : List (Str × V)} {n : String} {d : D} {v : V} (h : Rpf K G fs ws) (r : Rp K G d v) : Rpf K G (putD n d fs) (putF (Str.ofString n) v ws) := by
  induction fs generalizing ws with
  | nil => cases h; exact .cons r .nil
  | cons x xs ih =>
    cases h with
    | @cons m d' v' _ ws' a b =>
      by_cases hm : m = n
      · subst hm
        show Rpf K G (if m = m then (m, d) :: xs else _) (if Str.ofString m = Str.ofString m then (Str.ofString m, v) :: ws' else _)
        rw [if_pos rfl, if_pos rfl]
        exact .cons r b
      · show Rpf K G (if m = n then _ else (m, d') :: putD n d xs) (if Str.ofString m = Str.ofString n then _ else (Str.ofString m, v') :: putF (Str.ofString n) v ws')
        rw [if_neg hm, if_neg fun z => hm (ofS_inj z)]
        exact .cons a (ih b)
end
/-! ### what a call may let out -/
def Est (X : Cx) : XK := fun cls dd H' => ∃ G H c fs S', Takes X (fun cls dd _ H' => wEx X.K G H c fs S' cls dd H') ∧ wEx X.K G H c fs S' cls dd H'
theorem passE {X : Cx} : Passes (L2.CX X.prog X.w) X (Est X) := fun pins σ H s e s' I c => by
  obtain ⟨a, B, H', cls, d, rfl, fl, hok, ub, na, os, ag, G, H0, n, fs, S', tk, w⟩ := c
  exact passes_call tk (fun _ _ _ _ h => h) pins σ H s _ s' I ⟨a, B, H', cls, d, rfl, fl, hok, ub, na, os, ag, w⟩
theorem sat_sp {X : Cx} {G : Gh} {H : Hp} {o : Out D} {Q : VK} (h : sat X (Rp X.K) G H o Q) : spO X.K G H o Q (Est X) := by
  match o, h with
  | .ok _ _, h => exact h
  | .ex c fs S', h => exact fun cls dd H' w => ⟨G, H, c, fs, S', h, w⟩
  | .no, h => exact h
/-! ### f(..) -/
section
variable {X : Cx} {j : Nat} {f : Addr} {F : Fn} {x : Str} {e : Expr} {es : List Expr} {ms : MA} {p pos : Pos}
theorem cal_rd {ρ : Ev} {S : Sto} {G : Gh} {σ : L2.St} {H : Hp} {Q : VK} (sm : Sm X.K G S H) (re : Re X.K G ρ σ) (h : sat X (Rp X.K) G H (cal F ms ρ S) Q) : tA X ms σ H (fun vs H1 => spF X.K F vs H1 Q (Est X)) := by
  refine ⟨ρ, S, G, sm, re, (sat.bind h).imp fun vs H1 w => ?_⟩
  obtain ⟨ds, S1, G1, le1, sm1, r1, q1⟩ := w
  exact ⟨ds, S1, G1, sm1, r1, sat_sp q1⟩
theorem qe_callG (Ff : FnFG X.prog X.w X.K X.mg X.base j f F) (hgd : X.A.guards = some []) (hr : Room j X.A) (hm : X.mg x = some (.ref f)) (hk : PySem.W.keepIn X.K (.ref f) = true) (ha : QA X (e :: es) ms) (hg : Gl X x := by rfl) (hdb : (x == ("__debug__" : Str)) = false := by decide)
    (he : starEach (e :: es) X.env = (false, eval e X.env) :: starEach es X.env := by rfl) (hpl : (backTo pos (starEach es X.env)).any (·.1) = false := by rfl) : QE X (.Call (.Name x p) (e :: es) [] pos) (cal F ms) :=
  qe_of (pe_callRG Ff hgd hr hg hm hk passE ha hdb he hpl) fun ρ S G σ H Q sm re h => cal_rd sm re h
theorem qe_call (Ff : FnF X.prog X.w X.K X.mg X.base j f F) (hr : Room j X.A) (hm : X.mg x = some (.ref f)) (hk : PySem.W.keepIn X.K (.ref f) = true) (ha : QA X (e :: es) ms) (hg : Gl X x := by rfl) (hdb : (x == ("__debug__" : Str)) = false := by decide)
    (he : starEach (e :: es) X.env = (false, eval e X.env) :: starEach es X.env := by rfl) (hpl : (backTo pos (starEach es X.env)).any (·.1) = false := by rfl) : QE X (.Call (.Name x p) (e :: es) [] pos) (cal F ms) :=
  qe_of (pe_callR Ff hr hg hm hk passE ha hdb he hpl) fun ρ S G σ H Q sm re h => cal_rd sm re h
/-- a built-in function, a built-in class -/
theorem calB_rd {g : Fn} {ρ : Ev} {S : Sto} {G : Gh} {σ : L2.St} {H : Hp} {Q : VK} (sm : Sm X.K G S H) (re : Re X.K G ρ σ) (h : sat X (Rp X.K) G H (cal g ms ρ S) Q) :
    tCB (fun vs H Q => ∃ ds S G, Sm X.K G S H ∧ Rps X.K G ds vs ∧ sat X (Rp X.K) G H (g ds S) Q) (tA X ms) σ H Q := by
  refine ⟨ρ, S, G, sm, re, (sat.bind h).imp fun vs H1 w => ?_⟩
  obtain ⟨ds, S1, G1, le1, sm1, r1, q1⟩ := w
  exact ⟨ds, S1, G1, sm1, r1, q1⟩
theorem qe_blt {g : Fn} {id : String} (hc : CallF X (.builtin id) g) (hm : X.mg x = none) (ha : QA X (e :: es) ms) (hv : bootBuiltins x = some (.builtin id) := by decide +kernel) (hg : Gl X x := by rfl) (hn : x ≠ "__name__" := by decide) (hdb : (x == ("__debug__" : Str)) = false := by decide)
    (he : starEach (e :: es) X.env = (false, eval e X.env) :: starEach es X.env := by rfl) (hpl : (backTo pos (starEach es X.env)).any (·.1) = false := by rfl) : QE X (.Call (.Name x p) (e :: es) [] pos) (cal g ms) :=
  qe_of (pe_callB hc hg hm hv ha hn hdb he hpl) fun ρ S G σ H Q sm re h => calB_rd sm re h
theorem qe_typ {g : Fn} {T : String} (hc : CallF X (.type T) g) (hm : X.mg x = none) (ha : QA X (e :: es) ms) (hv : bootBuiltins x = some (.type T) := by decide +kernel) (hg : Gl X x := by rfl) (hn : x ≠ "__name__" := by decide) (hdb : (x == ("__debug__" : Str)) = false := by decide)
    (he : starEach (e :: es) X.env = (false, eval e X.env) :: starEach es X.env := by rfl) (hpl : (backTo pos (starEach es X.env)).any (·.1) = false := by rfl) : QE X (.Call (.Name x p) (e :: es) [] pos) (cal g ms) :=
  qe_of (pe_callTy hc hg hm hv ha hn hdb he hpl) fun ρ S G σ H Q sm re h => calB_rd sm re h
end
/-! ### built-in functions -/
def lenB : Fn := fun ds S => match ds with
  | [.lst xs] => .ok (.int xs.length) S
  | [.tup xs] => .ok (.int xs.length) S
  | [.src xs] => .ok (.int xs.length) S
  | [.str x] => if x.length ≤ sizeLine then .ok (.int x.length) S else .no
  | [.loc n] => match S[n]? with
    | some (.lst xs) => .ok (.int xs.length) S
    | _ => .no
  | _ => .no
def absB : Fn := fun ds S => match ds with
  | [.int i] => .ok (.int (if i < 0 then -i else i)) S
  | _ => .no
def minB : Fn := fun ds S => match ds with
  | [.int i, .int j] => .ok (.int (if j < i then j else i)) S
  | _ => .no
def maxB : Fn := fun ds S => match ds with
  | [.int i, .int j] => .ok (.int (if j > i then j else i)) S
  | _ => .no
def intB : Fn := fun ds S => match ds with
  | [.int i] => .ok (.int i) S
  | [.bl b] => .ok (.int (if b = true then 1 else 0)) S
  | [.str a] => match PySem.intText? a with
    | some n => if a.length ≤ 640 then .ok (.int n) S else .no
    | none => .no
  | _ => .no
def boolB : Fn := fun ds S => match ds with
  | [.int i] => .ok (.bl (i != 0)) S
  | [.bl b] => .ok (.bl b) S
  | _ => .no
def strOf (i : Int) : Str := Str.ofString (toString i)
def strB : Fn := fun ds S => match ds with
  | [.int i] => if i.natAbs.log2 < 1920 then .ok (.str (strOf i)) S else .no
  | _ => .no
def listB : Fn := fun ds S => match ds with
  | [.lst xs] => .ok (.lst xs) S
  | [.tup xs] => .ok (.lst xs) S
  | [.src xs] => .ok (.lst xs) S
  | _ => .no
/-- list(..) that will be written -/
def listM : Fn := fun ds S => match ds with
  | [.lst xs] => .ok (.loc S.length) (S ++ [.lst xs])
  | [.tup xs] => .ok (.loc S.length) (S ++ [.lst xs])
  | _ => .no
def tupB : Fn := fun ds S => match ds with
  | [.lst xs] => .ok (.tup xs) S
  | [.tup xs] => .ok (.tup xs) S
  | [.loc n] => match S[n]? with
    | some (.lst xs) => .ok (.tup xs) S
    | _ => .no
  | _ => .no
section
variable {X : Cx}
theorem vals1 {K : PySem.W.Frag} {G : Gh} {d : D} {vs : List V} (r : Rps K G [d] vs) : ∃ v, vs = [v] ∧ Rp K G d v := by
  cases r with
  | cons a b => cases b; exact ⟨_, rfl, a⟩
theorem vals2' {K : PySem.W.Frag} {G : Gh} {d e : D} {vs : List V} (r : Rps K G [d, e] vs) : ∃ v w, vs = [v, w] ∧ Rp K G d v ∧ Rp K G e w := by
  cases r with
  | cons a b => obtain ⟨w, rfl, q⟩ := vals1 b; exact ⟨_, _, rfl, a, q⟩
theorem Sm.list {K : PySem.W.Frag} {G : Gh} {S : Sto} {H : Hp} (sm : Sm K G S H) {n : Nat} {xs : List D} {v : V} (e : S[n]? = some (.lst xs)) (r : Rp K G (.loc n) v) : ∃ a vs, v = .ref a ∧ G.f n = some a ∧ H a = some (.lst vs) ∧ Rps K G xs vs := by
  cases r with
  | loc h =>
    obtain ⟨_, vs, h1, h2⟩ := sm.addr e (by simp) h
    exact ⟨_, vs, rfl, h, h1, h2⟩
theorem cf_len : CallF X (.builtin "len") lenB := fun pins s σ H vs us Q I rv ⟨ds, S, G, sm, r, h⟩ => by
  unfold lenB at h
  split at h
  · obtain ⟨v, rfl, q⟩ := vals1 r
    cases q with
    | lst a b => exact call_len_seq pins s σ H _ us Q I rv ⟨_, _, rfl, .inl (SqL.of (sm.fr _ _ a)), h G H _ .refl sm (by rw [b.length]; exact .int _)⟩
  · obtain ⟨v, rfl, q⟩ := vals1 r
    cases q with
    | tup a b => exact call_len_seq pins s σ H _ us Q I rv ⟨_, _, rfl, .inr (SqT.mono a sm.fr), h G H _ .refl sm (by rw [b.length]; exact .int _)⟩
  · obtain ⟨v, rfl, q⟩ := vals1 r
    cases q with
    | src a b => exact call_len_seq pins s σ H _ us Q I rv ⟨_, _, rfl, .inl (SqL.mono a sm.fr), h G H _ .refl sm (by rw [b.length]; exact .int _)⟩
  · split at h
    · rename_i c
      obtain ⟨v, rfl, q⟩ := vals1 r
      cases q
      exact call_len_str pins s σ H _ us Q I rv ⟨_, rfl, c, h G H _ .refl sm (.int _)⟩
    · exact h.elim
  · split at h
    · rename_i c
      obtain ⟨v, rfl, q⟩ := vals1 r
      obtain ⟨a, ws, rfl, _, h1, h2⟩ := sm.list c q
      exact call_len_seq pins s σ H _ us Q I rv ⟨_, _, rfl, .inl (SqL.of h1), h G H _ .refl sm (by rw [h2.length]; exact .int _)⟩
    · exact h.elim
  · exact h.elim
theorem cf_abs : CallF X (.builtin "abs") absB := fun pins s σ H vs us Q I rv ⟨ds, S, G, sm, r, h⟩ => by
  unfold absB at h
  split at h
  · obtain ⟨v, rfl, q⟩ := vals1 r
    cases q
    exact call_abs pins s σ H _ us Q I rv ⟨_, rfl, h G H _ .refl sm (.int _)⟩
  · exact h.elim
theorem cf_min (hc : X.calm = true) : CallF X (.builtin "min") minB := fun pins s σ H vs us Q I rv ⟨ds, S, G, sm, r, h⟩ => by
  unfold minB at h
  split at h
  · obtain ⟨v, w, rfl, q, q'⟩ := vals2' r
    cases q; cases q'
    exact call_min2 hc pins s σ H _ us Q I rv ⟨_, _, rfl, h G H _ .refl sm (.int _)⟩
  · exact h.elim
theorem cf_max (hc : X.calm = true) : CallF X (.builtin "max") maxB := fun pins s σ H vs us Q I rv ⟨ds, S, G, sm, r, h⟩ => by
  unfold maxB at h
  split at h
  · obtain ⟨v, w, rfl, q, q'⟩ := vals2' r
    cases q; cases q'
    exact call_max2 hc pins s σ H _ us Q I rv ⟨_, _, rfl, h G H _ .refl sm (.int _)⟩
  · exact h.elim
theorem cf_int : CallF X (.type "int") intB := fun pins s σ H vs us Q I rv ⟨ds, S, G, sm, r, h⟩ => by
  unfold intB at h
  split at h
  · obtain ⟨v, rfl, q⟩ := vals1 r
    cases q
    exact call_int1 pins s σ H _ us Q I rv (.inl ⟨_, rfl, h G H _ .refl sm (.int _)⟩)
  · obtain ⟨v, rfl, q⟩ := vals1 r
    cases q
    exact call_int1 pins s σ H _ us Q I rv (.inr ⟨_, rfl, h G H _ .refl sm (.int _)⟩)
  · split at h
    · rename_i c
      split at h
      · rename_i c2
        obtain ⟨v, rfl, q⟩ := vals1 r
        cases q
        exact call_int_str pins s σ H _ us Q I rv ⟨_, _, rfl, c, c2, h G H _ .refl sm (.int _)⟩
      · exact h.elim
    · exact h.elim
  · exact h.elim
theorem cf_bool : CallF X (.type "bool") boolB := fun pins s σ H vs us Q I rv ⟨ds, S, G, sm, r, h⟩ => by
  unfold boolB at h
  split at h
  · obtain ⟨v, rfl, q⟩ := vals1 r
    cases q
    exact call_bool1 pins s σ H _ us Q I rv (.inl ⟨_, rfl, h G H _ .refl sm (.bl _)⟩)
  · obtain ⟨v, rfl, q⟩ := vals1 r
    cases q
    exact call_bool1 pins s σ H _ us Q I rv (.inr ⟨_, rfl, h G H _ .refl sm (.bl _)⟩)
  · exact h.elim
theorem cf_str : CallF X (.type "str") strB := fun pins s σ H vs us Q I rv ⟨ds, S, G, sm, r, h⟩ => by
  unfold strB at h
  split at h
  · split at h
    · rename_i c
      obtain ⟨v, rfl, q⟩ := vals1 r
      cases q
      exact call_str_int pins s σ H _ us Q I rv ⟨_, rfl, c, h G H _ .refl sm (.str _)⟩
    · exact h.elim
  · exact h.elim
theorem cf_list : CallF X (.type "list") listB := fun pins s σ H vs us Q I rv ⟨ds, S, G, sm, r, h⟩ => by
  unfold listB at h
  split at h
  · obtain ⟨v, rfl, q⟩ := vals1 r
    cases q with
    | lst a b => exact call_list_of pins s σ H _ us Q I rv ⟨_, _, rfl, .inl (SqL.of (sm.fr _ _ a)), fun l hl => new_lst sm hl b h⟩
  · obtain ⟨v, rfl, q⟩ := vals1 r
    cases q with
    | tup a b => exact call_list_of pins s σ H _ us Q I rv ⟨_, _, rfl, .inr (SqT.mono a sm.fr), fun l hl => new_lst sm hl b h⟩
  · obtain ⟨v, rfl, q⟩ := vals1 r
    cases q with
    | src a b => exact call_list_of pins s σ H _ us Q I rv ⟨_, _, rfl, .inl (SqL.mono a sm.fr), fun l hl => new_lst sm hl b h⟩
  · exact h.elim
theorem new_cell {G : Gh} {S : Sto} {H : Hp} {p : Addr} {xs : List D} {vs : List V} {Q : VK} (sm : Sm X.K G S H) (hp : H p = none) (r : Rps X.K G xs vs) (h : sat X (Rp X.K) G H (.ok (.loc S.length) (S ++ [.lst xs])) Q) : Q (.ref p) (upd H p (.lst vs)) :=
  h _ _ _ (Stp.cell sm hp) (sm.new hp ⟨vs, upd_same, r.mono sm.new_le⟩) (.loc Gh.new_at)
theorem cf_listM : CallF X (.type "list") listM := fun pins s σ H vs us Q I rv ⟨ds, S, G, sm, r, h⟩ => by
  unfold listM at h
  split at h
  · obtain ⟨v, rfl, q⟩ := vals1 r
    cases q with
    | lst a b => exact call_list_of pins s σ H _ us Q I rv ⟨_, _, rfl, .inl (SqL.of (sm.fr _ _ a)), fun l hl => new_cell sm hl b h⟩
  · obtain ⟨v, rfl, q⟩ := vals1 r
    cases q with
    | tup a b => exact call_list_of pins s σ H _ us Q I rv ⟨_, _, rfl, .inr (SqT.mono a sm.fr), fun l hl => new_cell sm hl b h⟩
  · exact h.elim
theorem cf_tup : CallF X (.type "tuple") tupB := fun pins s σ H vs us Q I rv ⟨ds, S, G, sm, r, h⟩ => by
  unfold tupB at h
  split at h
  · obtain ⟨v, rfl, q⟩ := vals1 r
    cases q with
    | lst a b => exact call_tuple_of pins s σ H _ us Q I rv ⟨_, _, rfl, .inl ⟨SqL.of (sm.fr _ _ a), fun l hl => new_tup sm hl b h⟩⟩
  · obtain ⟨v, rfl, q⟩ := vals1 r
    cases q with
    | tup a b => exact call_tuple_of pins s σ H _ us Q I rv ⟨_, _, rfl, .inr ⟨SqT.mono a sm.fr, h G H _ .refl sm (.tup a b)⟩⟩
  · split at h
    · rename_i c
      obtain ⟨v, rfl, q⟩ := vals1 r
      obtain ⟨a, ws, rfl, _, h1, h2⟩ := sm.list c q
      exact call_tuple_of pins s σ H _ us Q I rv ⟨_, _, rfl, .inl ⟨SqL.of h1, fun l hl => new_tup sm hl h2 h⟩⟩
    · exact h.elim
  · exact h.elim
end
/-! ### displays -/
def tupE (ms : MA) : ME := fun ρ S => (ms ρ S).bind fun ds S1 => if ds.length ≤ 1000 then .ok (.tup ds) S1 else .no
def lstE (ms : MA) : ME := fun ρ S => (ms ρ S).bind fun ds S1 => if ds.length ≤ 1000 then .ok (.lst ds) S1 else .no
/-- a list that will be written -/
def lstM (ms : MA) : ME := fun ρ S => (ms ρ S).bind fun ds S1 => if ds.length ≤ 1000 then .ok (.loc S1.length) (S1 ++ [.lst ds]) else .no
theorem le_line {n : Nat} (h : n ≤ 1000) : n ≤ sizeLine := Nat.le_trans h (by decide)
section
variable {X : Cx} {es : List Expr} {ms : MA} {pos : Pos}
theorem qe_tup {x1} (h : QA X es ms) : QE X (.Tuple es x1 pos) (tupE ms) := qe_of (pe_tup h) fun ρ S G σ H Q sm re z => by
  refine ⟨ρ, S, G, sm, re, (sat.bind z).imp fun vs H1 w => ?_⟩
  obtain ⟨ds, S1, G1, le1, sm1, r1, q1⟩ := w
  split at q1
  · rename_i c
    exact ⟨by rw [r1.length]; exact le_line c, fun p hp => new_tup sm1 hp r1 q1⟩
  · exact q1.elim
theorem qe_lst (h : QA X es ms) : QE X (.List es pos) (lstE ms) := qe_of (pe_lst h) fun ρ S G σ H Q sm re z => by
  refine ⟨ρ, S, G, sm, re, (sat.bind z).imp fun vs H1 w => ?_⟩
  obtain ⟨ds, S1, G1, le1, sm1, r1, q1⟩ := w
  split at q1
  · rename_i c
    exact ⟨by rw [r1.length]; exact le_line c, fun p hp => new_lst sm1 hp r1 q1⟩
  · exact q1.elim
theorem qe_lstM (h : QA X es ms) : QE X (.List es pos) (lstM ms) := qe_of (pe_lst h) fun ρ S G σ H Q sm re z => by
  refine ⟨ρ, S, G, sm, re, (sat.bind z).imp fun vs H1 w => ?_⟩
  obtain ⟨ds, S1, G1, le1, sm1, r1, q1⟩ := w
  split at q1
  · rename_i c
    exact ⟨by rw [r1.length]; exact le_line c, fun p hp => new_cell sm1 hp r1 q1⟩
  · exact q1.elim
end
end PV
set_option Elab.async false
set_option linter.all false
set_option maxRecDepth 100000
set_option maxHeartbeats 4000000
namespace PV
open PySem PySem.Spec PyProof.Rows L2 ZL
/-! ### lists of ints, of truths, of texts -/
def asInts : List D → Option (List Int)
  | [] => some []
  | .int i :: xs => (asInts xs).map (i :: ·)
  | _ :: _ => none
def asBools : List D → Option (List Bool)
  | [] => some []
  | .bl i :: xs => (asBools xs).map (i :: ·)
  | _ :: _ => none
def asStrs : List D → Option (List Str)
  | [] => some []
  | .str i :: xs => (asStrs xs).map (i :: ·)
  | _ :: _ => none
theorem asInts_map : ∀ ns : List Int, asInts (ns.map .int) = some ns
  | [] => rfl
  | n :: ns => by rw [List.map_cons, asInts, asInts_map ns]; rfl
theorem asBools_map : ∀ ns : List Bool, asBools (ns.map .bl) = some ns
  | [] => rfl
  | n :: ns => by rw [List.map_cons, asBools, asBools_map ns]; rfl
theorem asStrs_map : ∀ ns : List Str, asStrs (ns.map .str) = some ns
  | [] => rfl
  | n :: ns => by rw [List.map_cons, asStrs, asStrs_map ns]; rfl
section
variable {K : PySem.W.Frag} {G : Gh}
theorem asInts_rp : ∀ {xs : List D} {vs : List V} {ns : List Int}, asInts xs = some ns → Rps K G xs vs → vs = ns.map V.int
  | [], _, _, h, r => by cases r; cases h; rfl
  | .int i :: xs, _, ns, h, r => by
    cases r with
    | cons a b =>
      cases a
      unfold asInts at h
      match e : asInts xs, h with
      | some ms, h => cases h; rw [asInts_rp e b]; rfl
      | none, h => cases h
  | .non :: _, _, _, h, _ => by cases h
  | .bl _ :: _, _, _, h, _ => by cases h
  | .str _ :: _, _, _, h, _ => by cases h
  | .tup _ :: _, _, _, h, _ => by cases h
  | .lst _ :: _, _, _, h, _ => by cases h
  | .obj _ _ :: _, _, _, h, _ => by cases h
  | .loc _ :: _, _, _, h, _ => by cases h
  | .cls _ :: _, _, _, h, _ => by cases h
  | .fnc _ :: _, _, _, h, _ => by cases h
  | .ty _ :: _, _, _, h, _ => by cases h
  | .src _ :: _, _, _, h, _ => by cases h
  | .dic0 :: _, _, _, h, _ => by cases h
  | .hob _ :: _, _, _, h, _ => by cases h
  | .exc _ _ :: _, _, _, h, _ => by cases h
theorem asBools_rp : ∀ {xs : List D} {vs : List V} {ns : List Bool}, asBools xs = some ns → Rps K G xs vs → vs = ns.map V.bl
  | [], _, _, h, r => by cases r; cases h; rfl
  | .bl i :: xs, _, ns, h, r => by
    cases r with
    | cons a b =>
      cases a
      unfold asBools at h
      match e : asBools xs, h with
      | some ms, h => cases h; rw [asBools_rp e b]; rfl
      | none, h => cases h
  | .non :: _, _, _, h, _ => by cases h
  | .int _ :: _, _, _, h, _ => by cases h
  | .str _ :: _, _, _, h, _ => by cases h
  | .tup _ :: _, _, _, h, _ => by cases h
  | .lst _ :: _, _, _, h, _ => by cases h
  | .obj _ _ :: _, _, _, h, _ => by cases h
  | .loc _ :: _, _, _, h, _ => by cases h
  | .cls _ :: _, _, _, h, _ => by cases h
  | .fnc _ :: _, _, _, h, _ => by cases h
  | .ty _ :: _, _, _, h, _ => by cases h
  | .src _ :: _, _, _, h, _ => by cases h
  | .dic0 :: _, _, _, h, _ => by cases h
  | .hob _ :: _, _, _, h, _ => by cases h
  | .exc _ _ :: _, _, _, h, _ => by cases h
theorem asStrs_rp : ∀ {xs : List D} {vs : List V} {ns : List Str}, asStrs xs = some ns → Rps K G xs vs → vs = ns.map V.str
  | [], _, _, h, r => by cases r; cases h; rfl
  | .str i :: xs, _, ns, h, r => by
    cases r with
    | cons a b =>
      cases a
      unfold asStrs at h
      match e : asStrs xs, h with
      | some ms, h => cases h; rw [asStrs_rp e b]; rfl
      | none, h => cases h
  | .non :: _, _, _, h, _ => by cases h
  | .int _ :: _, _, _, h, _ => by cases h
  | .bl _ :: _, _, _, h, _ => by cases h
  | .tup _ :: _, _, _, h, _ => by cases h
  | .lst _ :: _, _, _, h, _ => by cases h
  | .obj _ _ :: _, _, _, h, _ => by cases h
  | .loc _ :: _, _, _, h, _ => by cases h
  | .cls _ :: _, _, _, h, _ => by cases h
  | .fnc _ :: _, _, _, h, _ => by cases h
  | .ty _ :: _, _, _, h, _ => by cases h
  | .src _ :: _, _, _, h, _ => by cases h
  | .dic0 :: _, _, _, h, _ => by cases h
  | .hob _ :: _, _, _, h, _ => by cases h
  | .exc _ _ :: _, _, _, h, _ => by cases h
end
/-! ### all, any, sum, max, min, sorted of lists -/
def allB : Fn := fun ds S => match ds with
  | [.lst xs] => match asBools xs with
    | some bs => .ok (.bl (bs.all id)) S
    | none => .no
  | _ => .no
def anyB : Fn := fun ds S => match ds with
  | [.lst xs] => match asBools xs with
    | some bs => .ok (.bl (bs.any id)) S
    | none => .no
  | _ => .no
def sumB : Fn := fun ds S => match ds with
  | [.lst xs] => match asInts xs with
    | some ns => .ok (.int ns.sum) S
    | none => .no
  | _ => .no
def greatest : List Int → Int
  | [] => 0
  | [n] => n
  | n :: m :: ns => if greatest (m :: ns) > n then greatest (m :: ns) else n
theorem greatest_mem : ∀ ns : List Int, ns ≠ [] → greatest ns ∈ ns
  | [], h => absurd rfl h
  | [n], _ => List.mem_cons_self
  | n :: m :: ns, _ => by
    unfold greatest
    split
    · exact List.mem_cons_of_mem _ (greatest_mem (m :: ns) (by simp))
    · exact List.mem_cons_self
theorem greatest_le : ∀ (ns : List Int) (x : Int), x ∈ ns → x ≤ greatest ns
  | [], x, h => by simp at h
  | [n], x, h => by simp at h; subst h; exact Int.le_refl _
  | n :: m :: ns, x, h => by
    unfold greatest
    rcases List.mem_cons.mp h with rfl | h
    · split <;> omega
    · have := greatest_le (m :: ns) x h
      split <;> omega
def maxL : Fn := fun ds S => match ds with
  | [.lst xs] => match asInts xs with
    | some ns => if ns = [] then .no else .ok (.int (greatest ns)) S
    | none => .no
  | _ => .no
section
variable {X : Cx}
theorem cf_all (hc : X.calm = true) : CallF X (.builtin "all") allB := fun pins s σ H vs us Q I rv ⟨ds, S, G, sm, r, h⟩ => by
  unfold allB at h
  split at h
  · split at h
    · rename_i c
      obtain ⟨v, rfl, q⟩ := vals1 r
      cases q with
      | lst a b =>
        rw [asBools_rp c b] at a
        exact cr_all hc pins s σ H _ us Q I rv ⟨_, _, rfl, SqL.of (sm.fr _ _ a), h G H _ .refl sm (.bl _)⟩
    · exact h.elim
  · exact h.elim
theorem cf_any (hc : X.calm = true) : CallF X (.builtin "any") anyB := fun pins s σ H vs us Q I rv ⟨ds, S, G, sm, r, h⟩ => by
  unfold anyB at h
  split at h
  · split at h
    · rename_i c
      obtain ⟨v, rfl, q⟩ := vals1 r
      cases q with
      | lst a b =>
        rw [asBools_rp c b] at a
        exact cr_any hc pins s σ H _ us Q I rv ⟨_, _, rfl, SqL.of (sm.fr _ _ a), h G H _ .refl sm (.bl _)⟩
    · exact h.elim
  · exact h.elim
theorem cf_sum (hc : X.calm = true) : CallF X (.builtin "sum") sumB := fun pins s σ H vs us Q I rv ⟨ds, S, G, sm, r, h⟩ => by
  unfold sumB at h
  split at h
  · split at h
    · rename_i c
      obtain ⟨v, rfl, q⟩ := vals1 r
      cases q with
      | lst a b =>
        rw [asInts_rp c b] at a
        exact cr_sum hc pins s σ H _ us Q I rv ⟨_, _, rfl, SqL.of (sm.fr _ _ a), h G H _ .refl sm (.int _)⟩
    · exact h.elim
  · exact h.elim
theorem cf_maxL (hc : X.calm = true) : CallF X (.builtin "max") maxL := fun pins s σ H vs us Q I rv ⟨ds, S, G, sm, r, h⟩ => by
  unfold maxL at h
  split at h
  · split at h
    · rename_i ns c
      split at h
      · exact h.elim
      · rename_i ne
        obtain ⟨v, rfl, q⟩ := vals1 r
        cases q with
        | lst a b =>
          rw [asInts_rp c b] at a
          refine cr_max hc pins s σ H _ us Q I rv ⟨_, _, rfl, SqL.of (sm.fr _ _ a), List.length_pos_iff.mpr ne, fun m hm hle => ?_⟩
          have e : m = greatest ns := Int.le_antisymm (greatest_le ns m hm) (hle _ (greatest_mem ns ne))
          rw [e]
          exact h G H _ .refl sm (.int _)
    · exact h.elim
  · exact h.elim
end
/-! ### subscripts, slices -/
def ixG : G2 := fun x y S => match y with
  | .int i => match x with
    | .lst xs => match atI xs i with
      | some d => .ok d S
      | none => .no
    | .tup xs => match atI xs i with
      | some d => .ok d S
      | none => .no
    | .src xs => match atI xs i with
      | some d => .ok d S
      | none => .no
    | .loc n => match S[n]? with
      | some (.lst xs) => match atI xs i with
        | some d => .ok d S
        | none => .no
      | _ => .no
    | .str z => if z.length ≤ sizeLine then match atI z.cps.toList i with
        | some c => .ok (.str ⟨#[c]⟩) S
        | none => .no
      else .no
    | _ => .no
  | _ => .no
theorem Rps.atI {K : PySem.W.Frag} {G : Gh} {xs : List D} {vs : List V} {i : Int} {d : D} (r : Rps K G xs vs) (h : atI xs i = some d) : ∃ v, L2.atI vs i = some v ∧ Rp K G d v := by
  unfold L2.atI at h ⊢
  rw [r.length]
  match e : ixN xs.length i, h with
  | some j, h => exact r.get h
  | none, h => cases h
section
variable {X : Cx} {a b : Expr} {ma mb : ME} {pos : Pos}
theorem ixR : IxR X (fun v w H Q => ∃ x y S G, Sm X.K G S H ∧ Rp X.K G x v ∧ Rp X.K G y w ∧ sat X (Rp X.K) G H (ixG x y S) Q) := fun ea eb pins s σ H v w u u' Q I rv rw' ⟨x, y, S, G, sm, rx, ry, h⟩ hs => by
  unfold ixG at h
  split at h
  · cases ry
    split at h
    · split at h
      · rename_i c
        cases rx with
        | lst p r =>
          obtain ⟨z, z1, z2⟩ := r.atI c
          exact ix_list ea eb pins s σ H _ _ u u' Q I rv rw' ⟨_, _, _, z, rfl, rfl, SqL.of (sm.fr _ _ p), z1, h G H _ .refl sm z2⟩ hs
      · exact h.elim
    · split at h
      · rename_i c
        cases rx with
        | tup p r =>
          obtain ⟨z, z1, z2⟩ := r.atI c
          exact ix_tup ea eb pins s σ H _ _ u u' Q I rv rw' ⟨_, _, _, z, rfl, rfl, SqT.mono p sm.fr, z1, h G H _ .refl sm z2⟩ hs
      · exact h.elim
    · split at h
      · rename_i c
        cases rx with
        | src p r =>
          obtain ⟨z, z1, z2⟩ := r.atI c
          exact ix_list ea eb pins s σ H _ _ u u' Q I rv rw' ⟨_, _, _, z, rfl, rfl, SqL.mono p sm.fr, z1, h G H _ .refl sm z2⟩ hs
      · exact h.elim
    · split at h
      · rename_i c0
        split at h
        · rename_i c
          obtain ⟨p, vs, rfl, _, h1, r⟩ := sm.list c0 rx
          obtain ⟨z, z1, z2⟩ := r.atI c
          exact ix_list ea eb pins s σ H _ _ u u' Q I rv rw' ⟨_, _, _, z, rfl, rfl, SqL.of h1, z1, h G H _ .refl sm z2⟩ hs
        · exact h.elim
      · exact h.elim
    · split at h
      · rename_i c0
        split at h
        · rename_i c
          cases rx
          exact ix_str ea eb pins s σ H _ _ u u' Q I rv rw' ⟨_, _, _, rfl, rfl, c0, c, h G H _ .refl sm (.str _)⟩ hs
        · exact h.elim
      · exact h.elim
    · exact h.elim
  · exact h.elim
theorem qe_ix (ha : QE X a ma) (hb : QE X b mb) (hs : PlainIx b := by exact fun _ _ => rfl) : QE X (.Subscript a b pos) (bin ixG ma mb) :=
  qe_of (pe_ix ixR ha hb hs) fun ρ S G σ H Q sm re h => by
    refine ⟨ρ, S, G, sm, re, (sat.bind h).imp fun v H1 w => ?_⟩
    obtain ⟨x, S1, G1, le1, sm1, r1, q1⟩ := w
    refine ⟨ρ, S1, G1, sm1, re.mono le1.le, (sat.bind q1).imp fun v' H2 w => ?_⟩
    obtain ⟨y, S2, G2, le2, sm2, r2, q2⟩ := w
    exact ⟨x, y, S2, G2, sm2, r1.mono le2.le, r2, q2⟩
end
/-- a part of a slice -/
abbrev MO := Ev → Sto → Out (Option Int)
def tO (X : Cx) (m : MO) : L2.St → Hp → (Option Int → Hp → Prop) → Prop := fun σ H Q => ∃ ρ S G, Sm X.K G S H ∧ Re X.K G ρ σ ∧ sat X (fun _ a b => a = b) G H (m ρ S) Q
abbrev QO (X : Cx) (e : Option Expr) (m : MO) : Prop := PO X e (tO X m)
def oNo : MO := fun _ S => .ok none S
def oSo (m : ME) : MO := fun ρ S => (m ρ S).bind fun d S1 => match d with
  | .int i => .ok (some i) S1
  | _ => .no
def cutD {α : Type} (xs : List α) (lo hi : Option Int) : List α := (xs.drop (HT.sIx xs.length 0 lo)).take (HT.sIx xs.length xs.length hi - HT.sIx xs.length 0 lo)
theorem cutD_whole {α : Type} {xs : List α} {lo hi : Option Int} (h : HT.sIx xs.length 0 lo = 0 ∧ HT.sIx xs.length xs.length hi = xs.length) : cutD xs lo hi = xs := by
  unfold cutD
  rw [h.1, h.2]
  simp
def slG (x : D) (lo hi : Option Int) (S : Sto) : Out D := match x with
  | .lst xs => .ok (.lst (cutD xs lo hi)) S
  | .src xs => .ok (.lst (cutD xs lo hi)) S
  | .tup xs => .ok (.tup (cutD xs lo hi)) S
  | .str z => if z.length ≤ sizeLine then .ok (.str (cutS z lo hi)) S else .no
  | .loc n => match S[n]? with
    | some (.lst xs) => .ok (.lst (cutD xs lo hi)) S
    | _ => .no
  | _ => .no
def sli (m : ME) (l h : MO) : ME := fun ρ S => (m ρ S).bind fun x S1 => (l ρ S1).bind fun lo S2 => (h ρ S2).bind fun hi S3 => slG x lo hi S3
theorem Rps.cutV {K : PySem.W.Frag} {G : Gh} {xs : List D} {vs : List V} (r : Rps K G xs vs) (lo hi : Option Int) : Rps K G (cutD xs lo hi) (L2.cutV vs lo hi) := by
  unfold cutD L2.cutV
  rw [r.length]
  exact (r.drop _).take _
section
variable {X : Cx} {e : Expr} {lo hi : Option Expr} {m : ME} {ml mh : MO} {p2 pos : Pos}
theorem qo_none : QO X none oNo := ⟨fun pins s σ H Q I ⟨ρ, S, G, sm, re, q⟩ => po_none.run pins s σ H Q I (q G H none .refl sm rfl)⟩
theorem qo_some (h : QE X e m) : QO X (some e) (oSo m) := ⟨fun pins s σ H Q I ⟨ρ, S, G, sm, re, q⟩ => (po_some h).run pins s σ H Q I (by
  refine ⟨ρ, S, G, sm, re, (sat.bind q).imp fun v H1 w => ?_⟩
  obtain ⟨d, S1, G1, le1, sm1, r1, q1⟩ := w
  cases r1 with
  | int i => exact ⟨i, rfl, q1 G1 H1 _ .refl sm1 rfl⟩
  | _ => exact q1.elim)⟩
theorem slR : SlR X (fun v lo hi H Q => ∃ x S G, Sm X.K G S H ∧ Rp X.K G x v ∧ sat X (Rp X.K) G H (slG x lo hi S) Q) := fun pins s σ H v u vl vu lo hi sl Q I rv hs pl pu ⟨x, S, G, sm, rx, h⟩ => by
  unfold slG at h
  split at h
  · cases rx with
    | lst p r => exact sl_list pins s σ H _ u vl vu lo hi sl Q I rv hs pl pu ⟨_, _, rfl, SqL.of (sm.fr _ _ p), fun l hl => new_lst sm hl (r.cutV lo hi) h⟩
  · cases rx with
    | src p r => exact sl_list pins s σ H _ u vl vu lo hi sl Q I rv hs pl pu ⟨_, _, rfl, SqL.mono p sm.fr, fun l hl => new_lst sm hl (r.cutV lo hi) h⟩
  · cases rx with
    | tup p r =>
      refine sl_tupA pins s σ H _ u vl vu lo hi sl Q I rv hs pl pu ⟨_, _, rfl, SqT.mono p sm.fr, fun e => ?_, fun _ l hl => new_tup sm hl (r.cutV lo hi) h⟩
      rw [r.length] at e
      rw [cutD_whole e] at h
      exact h G H _ .refl sm (.tup p r)
  · split at h
    · rename_i c
      cases rx
      exact sl_str pins s σ H _ u vl vu lo hi sl Q I rv hs pl pu ⟨_, rfl, c, h G H _ .refl sm (.str _)⟩
    · exact h.elim
  · split at h
    · rename_i c
      obtain ⟨p, vs, rfl, _, h1, r⟩ := sm.list c rx
      exact sl_list pins s σ H _ u vl vu lo hi sl Q I rv hs pl pu ⟨_, _, rfl, SqL.of h1, fun l hl => new_lst sm hl (r.cutV lo hi) h⟩
    · exact h.elim
  · exact h.elim
theorem qe_sli (h : QE X e m) (hl : QO X lo ml) (hh : QO X hi mh) : QE X (.Subscript e (.Slice lo hi none p2) pos) (sli m ml mh) :=
  qe_of (pe_slice slR h hl hh) fun ρ S G σ H Q sm re h => by
    refine ⟨ρ, S, G, sm, re, (sat.bind h).imp fun v H1 w => ?_⟩
    obtain ⟨x, S1, G1, le1, sm1, r1, q1⟩ := w
    refine ⟨ρ, S1, G1, sm1, re.mono le1.le, (sat.bind q1).imp fun l H2 w => ?_⟩
    obtain ⟨l', S2, G2, le2, sm2, r2, q2⟩ := w
    subst r2
    refine ⟨ρ, S2, G2, sm2, (re.mono le1.le).mono le2.le, (sat.bind q2).imp fun u H3 w => ?_⟩
    obtain ⟨u', S3, G3, le3, sm3, r3, q3⟩ := w
    subst r3
    exact ⟨x, S3, G3, sm3, (r1.mono le2.le).mono le3.le, q3⟩
/-- x[::-1] -/
def revG : G1 := fun x S => match x with
  | .lst xs => .ok (.lst xs.reverse) S
  | .tup xs => .ok (.tup xs.reverse) S
  | _ => .no
end
/-! ### instances: fields, kinds -/
/-- the class and the fields of an instance -/
def insOf (S : Sto) (d : D) : Option (String × List (String × D)) := match d with
  | .obj c fs => some (c, fs)
  | .loc n => match S[n]? with
    | some (.ins c fs) => some (c, fs)
    | _ => none
  | _ => none
theorem Sm.ins {K : PySem.W.Frag} {G : Gh} {S : Sto} {H : Hp} (sm : Sm K G S H) {d : D} {v : V} {c : String} {fs : List (String × D)} (e : insOf S d = some (c, fs)) (r : Rp K G d v) : ∃ a dx ws, v = .ref a ∧ H a = some (.ins (He.ga K (Str.ofString c)) dx ws) ∧ Rpf K G fs ws := by
  unfold insOf at e
  split at e
  · cases e
    cases r with
    | obj h r => exact ⟨_, _, _, rfl, sm.fr _ _ h, r⟩
  · split at e
    · rename_i q
      cases e
      cases r with
      | loc h =>
        obtain ⟨_, dx, ws, h1, h2⟩ := sm.addr q (by simp) h
        exact ⟨_, dx, ws, rfl, h1, h2⟩
    · cases e
  · cases e
/-- d.f, of the classes cs -/
def fldG (cs : List String) (f : String) : G1 := fun d S => match insOf S d with
  | some (c, fs) => if cs.contains c = true then match fs.lookup f with
      | some x => .ok x S
      | none => .no
    else .no
  | none => .no
/-- what is known of a class -/
structure CF (K : PySem.W.Frag) (c : String) : Prop where
  cl : Cls K (He.ga K (Str.ofString c))
  ca : PySem.W.findIn K (.ref (He.ga K (Str.ofString c))) "__class__" = some (some (.builtin "object.__class__"))
  cg : PySem.W.specialIn K (.builtin "object.__class__") "__get__" = some (some (.builtin "getset_descriptor.__get__"))
  ct : PySem.W.takesIn K (.builtin "object.__class__") = some true
  mo : PySem.W.mroIn K (He.ga K (Str.ofString c)) (.type "object") = some true
section
variable {X : Cx} {e : Expr} {m : ME} {pos : Pos}
theorem qe_fld {cs : List String} {f : String} (hc : ∀ c ∈ cs, Cls X.K (He.ga X.K (Str.ofString c)) ∧ NoAttr X.K (He.ga X.K (Str.ofString c)) (Str.ofString f)) (h : QE X e m) (hb : attributeBase e (Str.ofString f) X.env (eval e X.env) = eval e X.env := by rfl) : QE X (.Attribute e (Str.ofString f) pos) (una (fldG cs f) m) :=
  qe_of (pe_fld h hb) fun ρ S G σ H Q sm re h => by
    refine ⟨ρ, S, G, sm, re, (sat.bind h).imp fun v H1 w => ?_⟩
    obtain ⟨x, S1, G1, le1, sm1, r1, q1⟩ := w
    unfold fldG at q1
    split at q1
    · rename_i c fs ei
      split at q1
      · rename_i hm
        split at q1
        · rename_i y hl
          obtain ⟨a, dx, ws, rfl, ha, rf⟩ := sm1.ins ei r1
          obtain ⟨z, hz, rz⟩ := rf.at hl
          have hk := hc c (List.contains_iff_mem.mp hm)
          exact ⟨a, _, dx, ws, z, rfl, ha, hk.1, hk.2, hz, q1 G1 H1 z .refl sm1 rz⟩
        · exact q1.elim
      · exact q1.elim
    · exact q1.elim
/-- d.f = e -/
def sFldS (cs : List String) (f : String) (o m : ME) : MS := fun ρ S => (m ρ S).bind fun y S1 => (o ρ S1).bind fun x S2 => match x with
  | .loc n => match S2[n]? with
    | some (.ins c fs) => if cs.contains c = true ∧ fs.length < 1000 then .ok (.nx ρ) (S2.set n (.ins c (putD f y fs))) else .no
    | _ => .no
  | _ => .no
theorem qs_fld {cs : List String} {f : String} {o : Expr} {mo : ME} {pos' : Pos} (hc : ∀ c ∈ cs, Cls X.K (He.ga X.K (Str.ofString c)) ∧ NoAttr X.K (He.ga X.K (Str.ofString c)) (Str.ofString f)) (ho : QE X o mo) (h : QE X e m)
    (hs : swapsWith e (some (.Attribute o (Str.ofString f) pos')) pos.line X.env = pure false := by rfl) : QS X (.Assign [.Attribute o (Str.ofString f) pos'] e pos) (sFldS cs f mo m) :=
  qs_of (ps_fld ho h hs) fun ρ S G σ H Q sm re h => by
    refine ⟨ρ, S, G, sm, re, (satS.bind h).imp fun v H1 w => ?_⟩
    obtain ⟨y, S1, G1, le1, sm1, r1, q1⟩ := w
    refine ⟨ρ, S1, G1, sm1, re.mono le1.le, (satS.bind q1).imp fun v' H2 w => ?_⟩
    obtain ⟨x, S2, G2, le2, sm2, r2, q2⟩ := w
    cases r2 with
    | loc hf =>
      simp only at q2
      split at q2
      · rename_i c fs hl
        split at q2
        · rename_i hm
          obtain ⟨hF, dx, ws, ha, rf⟩ := sm2.addr hl (by simp) hf
          have hk := hc c (List.contains_iff_mem.mp hm.1)
          refine ⟨_, _, dx, ws, rfl, ha, hk.1, hk.2, by rw [rf.length]; exact hm.2, ?_⟩
          exact q2 G2 _ σ (Stp.write hf) (sm2.write hl (by simp) hf ⟨dx, _, upd_same, rf.put (r1.mono le2.le)⟩) ((re.mono le1.le).mono le2.le)
        · exact q2.elim
      · exact q2.elim
    | _ => exact q2.elim
end
/-- the kind of a value -/
inductive Ty where
  | b (n : String) | c (n : String)
def tyD (S : Sto) (d : D) : Option Ty := match d with
  | .non => some (.b "NoneType")
  | .bl _ => some (.b "bool")
  | .int _ => some (.b "int")
  | .str _ => some (.b "str")
  | .tup _ => some (.b "tuple")
  | .lst _ => some (.b "list")
  | .dic0 => some (.b "dict")
  | .hob o => match o with
    | .dK _ => some (.b "dict")
    | _ => none
  | .obj c _ => some (.c c)
  | .loc n => match S[n]? with
    | some (.lst _) => some (.b "list")
    | some (.ins c _) => some (.c c)
    | _ => none
  | _ => none
def tyV' (K : PySem.W.Frag) : Ty → Value
  | .b n => .type n
  | .c n => .ref (He.ga K (Str.ofString n))
theorem tyX {K : PySem.W.Frag} {G : Gh} {S : Sto} {H : Hp} (sm : Sm K G S H) {d : D} {v : V} {t : Ty} (e : tyD S d = some t) (r : Rp K G d v) (hc : ∀ n, t = .c n → CF K n) : TyX K H v (tyV' K t) := by
  cases r with
  | non => cases e; exact .base .non
  | bl b => cases e; exact .base (.bl b)
  | int i => cases e; exact .base (.int i)
  | str x => cases e; exact .base (.str x)
  | tup h r =>
    cases e
    rcases SqT.mono h sm.fr with (q | ⟨o, q⟩) | ⟨o, its, n, q, c, _⟩
    · exact .base (.tup q)
    · exact .fTuple q
    · exact .kTuple q c
  | lst h r => cases e; exact .base (.lst (sm.fr _ _ h))
  | dic0 h => cases e; exact .base (.dK (sm.fr _ _ h))
  | @hob o a h =>
    cases o with
    | dK kvs => cases e; exact .base (.dK (sm.fr _ _ h))
    | _ => cases e
  | obj h r =>
    cases e
    have k := hc _ rfl
    exact .base (.ins (sm.fr _ _ h) k.cl k.ca k.cg k.ct k.mo)
  | @loc n a h =>
    unfold tyD at e
    simp only at e
    split at e
    · rename_i xs q
      cases e
      obtain ⟨_, vs, h1, _⟩ := sm.addr q (by simp) h
      exact .base (.lst h1)
    · rename_i c fs q
      cases e
      have k := hc _ rfl
      obtain ⟨_, dx, ws, h1, _⟩ := sm.addr q (by simp) h
      exact .base (.ins h1 k.cl k.ca k.cg k.ct k.mo)
    · cases e
  | _ => cases e
/-- the six built-in kinds -/
def six : List String := ["NoneType", "bool", "int", "str", "tuple", "list", "dict"]
def subT (n T : String) : Bool := decide (n = T) || (decide (n = "bool") && decide (T = "int"))
theorem kit_six : ∀ n ∈ six, ∀ T ∈ six, kitB n T = some (subT n T) := by decide +kernel
theorem tyD_six {S : Sto} {d : D} {n : String} (h : tyD S d = some (.b n)) : n ∈ six := by
  unfold tyD at h
  split at h <;> first | (cases h; decide) | (cases h; done) | skip
  all_goals (split at h <;> first | (cases h; decide) | cases h)
/-- isinstance(x, T), T one of the six; cs: classes that are none of them -/
def isiB (T : String) (cs : List String) (t : Ty) : Option Bool := match t with
  | .b n => some (subT n T)
  | .c n => if cs.contains n = true then some false else none
/-- isinstance(x, C): of a value of the six kinds no; of an instance by the table -/
def isiC (τ : List (String × Bool)) (t : Ty) : Option Bool := match t with
  | .b _ => some false
  | .c n => τ.lookup n
def isiF (ans : Ty → Option Bool) (cls : D → Bool) : Fn := fun ds S => match ds with
  | [x, c] => if cls c = true then match tyD S x with
      | some t => match ans t with
        | some b => .ok (.bl b) S
        | none => .no
      | none => .no
    else .no
  | _ => .no
def isTy (T : String) : D → Bool
  | .ty n => decide (n = T)
  | _ => false
def isCl (C : String) : D → Bool
  | .cls n => decide (n = C)
  | _ => false
section
variable {X : Cx}
theorem cf_isi {ans : Ty → Option Bool} {cls : D → Bool} {w : Value} (hcl : ∀ c, cls c = true → ∀ G v, Rp X.K G c v → ClsV v w) (hans : ∀ t b, (∀ n, t = .b n → n ∈ six) → ans t = some b → PySem.W.kitOne X.K (tyV' X.K t) w = some b ∧ ∀ n, t = .c n → CF X.K n) :
    CallF X (.builtin "isinstance") (isiF ans cls) := fun pins s σ H vs us Q I rv ⟨ds, S, G, sm, r, h⟩ => by
  unfold isiF at h
  split at h
  · split at h
    · rename_i x c hcc
      split at h
      · rename_i t ht
        split at h
        · rename_i b hb
          obtain ⟨v, u, rfl, q, q'⟩ := vals2' r
          obtain ⟨k1, k2⟩ := hans t b (fun n e => by subst e; exact tyD_six ht) hb
          exact call_isi pins s σ H _ us Q I rv ⟨v, u, _, w, b, rfl, hcl c hcc G u q', tyX sm ht q k2, k1, h G H _ .refl sm (.bl b)⟩
        · exact h.elim
      · exact h.elim
    · exact h.elim
  · exact h.elim
theorem cf_isiB {T : String} {cs : List String} (hT : T ∈ six) (hc : ∀ c ∈ cs, CF X.K c ∧ PySem.W.kitOne X.K (.ref (He.ga X.K (Str.ofString c))) (.type T) = some false) : CallF X (.builtin "isinstance") (isiF (isiB T cs) (isTy T)) :=
  cf_isi (w := .type T) (fun c h G v r => by
    cases r <;> simp [isTy] at h
    subst h
    exact .ty _) fun t b h6 e => by
    match t, e with
    | .b n, e =>
      cases e
      exact ⟨kit_ty (kit_six n (h6 n rfl) T hT), fun m z => by cases z⟩
    | .c n, e =>
      simp only [isiB] at e
      split at e
      · rename_i hm
        cases e
        have k := hc n (List.contains_iff_mem.mp hm)
        exact ⟨k.2, fun m z => by cases z; exact k.1⟩
      · cases e
theorem cf_isiC {C : String} {τ : List (String × Bool)} (h6 : ∀ n ∈ six, PySem.W.kitOne X.K (.type n) (.ref (He.ga X.K (Str.ofString C))) = some false) (hc : ∀ c b, τ.lookup c = some b → CF X.K c ∧ PySem.W.kitOne X.K (.ref (He.ga X.K (Str.ofString c))) (.ref (He.ga X.K (Str.ofString C))) = some b) :
    CallF X (.builtin "isinstance") (isiF (isiC τ) (isCl C)) :=
  cf_isi (w := .ref (He.ga X.K (Str.ofString C))) (fun c h G v r => by
    cases r <;> simp [isCl] at h
    subst h
    exact .own _) fun t b hs e => by
    match t, e with
    | .b n, e =>
      cases e
      exact ⟨h6 n (hs n rfl), fun m z => by cases z⟩
    | .c n, e =>
      have k := hc n b e
      exact ⟨k.2, fun m z => by cases z; exact k.1⟩
end
end PV
set_option Elab.async false
set_option linter.all false
set_option maxRecDepth 100000
set_option maxHeartbeats 4000000
namespace PV
open PySem PySem.Spec PyProof.Rows L2 ZL
/-! ### targets -/
inductive Tg where
  | nm (i : Nat) | tp (is : List Nat)
def Tg.slots : Tg → List Nat
  | .nm i => [i]
  | .tp is => is
def setAll : List Nat → List D → Ev → Option Ev
  | [], [], ρ => some ρ
  | i :: is, d :: ds, ρ => setAll is ds (ρ.set i (some d))
  | _, _, _ => none
def setT (T : Tg) (d : D) (ρ : Ev) : Option Ev := match T with
  | .nm i => some (ρ.set i (some d))
  | .tp is => match d with
    | .tup ds => setAll is ds ρ
    | _ => none
def tG (X : Cx) (T : Tg) : TG := fun v σ H Q => ∃ d ρ ρ' G, (∀ a o, G.F a = some o → H a = some o) ∧ Re X.K G ρ σ ∧ Rp X.K G d v ∧ setT T d ρ = some ρ' ∧ ∀ σ', Re X.K G ρ' σ' → (∀ vs, (∀ i ∈ T.slots, i ∈ vs) → wipe σ' vs = wipe σ vs) → Q σ' H
abbrev QG (X : Cx) (tg : Expr) (T : Tg) : Prop := PG X tg (tG X T)
theorem set_set_none {α : Type} (l : List (Option α)) (i : Nat) (x : Option α) : (l.set i x).set i none = l.set i none := List.set_set ..
theorem wipe_set {σ : L2.St} {i : Nat} {v : Option V} : ∀ {vs : List Nat}, i ∈ vs → wipe (σ.set i v) vs = wipe σ vs
  | [], h => by simp at h
  | j :: vs, h => by
    unfold wipe
    by_cases e : i ∈ vs
    · rw [wipe_set e]
    · rcases List.mem_cons.mp h with q | q
      · subst q
        have go : ∀ us : List Nat, i ∉ us → (wipe (σ.set i v) us) = (wipe σ us).set i v := by
          intro us
          induction us with
          | nil => intro _; rfl
          | cons k us ih =>
            intro hn
            unfold wipe
            rw [ih fun z => hn (List.mem_cons_of_mem _ z), List.set_comm]
            intro z
            exact hn (by rw [z]; exact List.mem_cons_self)
        rw [go vs e, List.set_set]
      · exact absurd q e
/-- the targets of a tuple -/
def tGs (X : Cx) (is : List Nat) : TGs := fun vs σ H Q => ∃ ds ρ ρ' G, (∀ a o, G.F a = some o → H a = some o) ∧ Re X.K G ρ σ ∧ Rps X.K G ds vs ∧ setAll is ds ρ = some ρ' ∧ ∀ σ', Re X.K G ρ' σ' → (∀ us, (∀ i ∈ is, i ∈ us) → wipe σ' us = wipe σ us) → Q σ' H
section
variable {X : Cx} {pos : Pos}
theorem qg_name (i : Nat) {x : Str} (hN : X.N.Nodup) (hi : X.N[i]? = some x := by rfl) (hx : Loc X.env.scope x := by first | exact .inl rfl | exact .inr rfl) (hf : X.fn x = true ∨ X.env.scope.names.lookup x = some .local := by first | exact .inl rfl | exact .inr rfl) : QG X (.Name x pos) (.nm i) := by
  refine ⟨fun pins s σ H v u Q I r h => (pg_name hN hi hx hf).run pins s σ H v u Q I r ?_⟩
  obtain ⟨d, ρ, ρ', G, fr, re, rd, e, q⟩ := h
  cases e
  exact q _ (re.set i rd) fun vs hv => wipe_set (hv i List.mem_cons_self)
theorem qgs_nil : PGs X [] (tGs X []) := by
  refine ⟨fun pins s σ H vs us Q I r h => pgs_nil.run pins s σ H vs us Q I r ?_⟩
  obtain ⟨ds, ρ, ρ', G, fr, re, rd, e, q⟩ := h
  match ds, e with
  | [], e => cases e; cases rd; exact ⟨rfl, q σ re fun _ _ => rfl⟩
  | _ :: _, e => cases e
theorem qgs_cons (i : Nat) {x : Str} {es : List Expr} {is : List Nat} (hr : PGs X es (tGs X is)) (hN : X.N.Nodup) (hi : X.N[i]? = some x := by rfl) (hx : Loc X.env.scope x := by first | exact .inl rfl | exact .inr rfl) (hf : X.fn x = true ∨ X.env.scope.names.lookup x = some .local := by first | exact .inl rfl | exact .inr rfl)
    (hs : (assignEach (.Name x pos :: es) X.env).map (·.2) = assign (.Name x pos) X.env :: (assignEach es X.env).map (·.2) := by rfl) : PGs X (.Name x pos :: es) (tGs X (i :: is)) := by
  refine ⟨fun pins s σ H vs us Q I r h => (pgs_cons (pg_name (pos := pos) hN hi hx hf) hr hs).run pins s σ H vs us Q I r ?_⟩
  obtain ⟨ds, ρ, ρ', G, fr, re, rd, e, q⟩ := h
  match ds, rd, e with
  | [], _, e => cases e
  | d :: ds, .cons a b, e =>
    refine ⟨_, _, rfl, ds, _, ρ', G, fr, re.set i a, b, e, fun σ' r' w' => q σ' r' fun us hu => ?_⟩
    rw [w' us fun k hk => hu k (List.mem_cons_of_mem _ hk)]
    exact wipe_set (hu i List.mem_cons_self)
theorem qg_tup {es : List Expr} {kk n : Nat} {is : List Nat} (hc : X.calm = true) (h : PGs X es (tGs X is)) (hl : is.length = n) (hn : (assignEach es X.env).length = n := by rfl) (hst : (assignEach es X.env).findIdx? (·.1) = none := by rfl) : QG X (.Tuple es kk pos) (.tp is) := by
  refine ⟨fun pins s σ H v u Q I r z => (pg_tup hc h hn hst).run pins s σ H v u Q I r ?_⟩
  obtain ⟨d, ρ, ρ', G, fr, re, rd, e, q⟩ := z
  match d, rd, e with
  | .tup ds, .tup h1 r1, e =>
    have e' : setAll is ds ρ = some ρ' := e
    have len : ∀ (is : List Nat) (ds : List D) (ρ ρ' : Ev), setAll is ds ρ = some ρ' → ds.length = is.length := by
      intro is
      induction is with
      | nil => intro ds ρ ρ' h; cases ds with | nil => rfl | cons _ _ => cases h
      | cons i is ih => intro ds ρ ρ' h; cases ds with | nil => cases h | cons d ds => simp [ih ds _ _ h]
    exact ⟨_, _, rfl, SqT.mono h1 fr, by rw [r1.length, len _ _ _ _ e', hl], ds, ρ, ρ', G, fr, re, r1, e', q⟩
  | .non, _, e => cases e
  | .bl _, _, e => cases e
  | .int _, _, e => cases e
  | .str _, _, e => cases e
  | .lst _, _, e => cases e
  | .obj _ _, _, e => cases e
  | .loc _, _, e => cases e
  | .cls _, _, e => cases e
  | .fnc _, _, e => cases e
  | .ty _, _, e => cases e
  | .src _, _, e => cases e
  | .dic0, _, e => cases e
  | .hob _, _, e => cases e
  | .exc _ _, _, e => cases e
end
/-! ### what is walked -/
/-- the cell that is walked must stay -/
def Gd (o : Option Nat) (xs : List D) (S : Sto) : Prop := match o with
  | none => True
  | some n => S[n]? = some (.lst xs)
structure WalkD (K : PySem.W.Frag) (G : Gh) (xs : List D) (o : Option Nat) (J : It) : Prop where
  goes : ∀ i G' S H, G.le G' → Sm K G' S H → Gd o xs S → i < xs.length → J.go i H
  stops : ∀ G' S H, G.le G' → Sm K G' S H → Gd o xs S → J.stop xs.length H
  yields : ∀ i G' S H x H' d, G.le G' → Sm K G' S H → Gd o xs S → xs[i]? = some d → J.yld i H x H' → ∃ G'', Stp G' H G'' H' ∧ Sm K G'' S H' ∧ Rp K G'' d x
abbrev MI := Ev → Sto → Out (List D × Option Nat)
def tI (X : Cx) (m : MI) : TI := fun σ H R => ∃ ρ S G, Sm X.K G S H ∧ Re X.K G ρ σ ∧ sat X (fun G' a (J : It) => WalkD X.K G' a.1 a.2 J) G H (m ρ S) (fun J H' => R J H')
abbrev QI (X : Cx) (tg iter : Expr) (m : MI) : Prop := PI X tg iter (tI X m)
theorem PI.or {X : Cx} {tg iter : Expr} {w w' : TI} (h : PI X tg iter w) (h' : PI X tg iter w') : PI X tg iter (fun σ H R => w σ H R ∨ w' σ H R) := ⟨fun pins s σ H R I z => z.elim (h.run pins s σ H R I) (h'.run pins s σ H R I)⟩
def itemsD (S : Sto) (d : D) : Option (List D × Option Nat) := match d with
  | .lst xs => some (xs, none)
  | .tup xs => some (xs, none)
  | .src xs => some (xs, none)
  | .loc n => match S[n]? with
    | some (.lst xs) => some (xs, some n)
    | _ => none
  | _ => none
/-- the signs of a text -/
def signs (z : Str) : List D := z.cps.toList.map fun c => .str ⟨#[c]⟩
/-- a list, a tuple, a text -/
def itemsI (S : Sto) (d : D) : Option (List D × Option Nat) := match d with
  | .str z => some (signs z, none)
  | d => itemsD S d
def iSeq (m : ME) : MI := fun ρ S => (m ρ S).bind fun d S1 => match itemsI S1 d with
  | some p => .ok p S1
  | none => .no
def iSgn (m : ME) : MI := fun ρ S => (m ρ S).bind fun d S1 => match d with
  | .str z => .ok (signs z, none) S1
  | _ => .no
/-- lo, lo + 1, .. -/
def ups (lo : Int) (n : Nat) : List D := (List.range n).map fun i => .int (lo + (i : Nat))
def near62 (i : Int) : Bool := decide (-(2 ^ 62) ≤ i ∧ i < 2 ^ 62)
def iR1 (m : MA) : MI := fun ρ S => (m ρ S).bind fun ds S1 => match ds with
  | [.int j] => if near62 j = true then .ok (ups 0 j.toNat, none) S1 else .no
  | _ => .no
def iR2 (m : MA) : MI := fun ρ S => (m ρ S).bind fun ds S1 => match ds with
  | [.int i, .int j] => if near62 i = true ∧ near62 j = true then .ok (ups i (j - i).toNat, none) S1 else .no
  | _ => .no
def numbered (k : Int) : List D → List D
  | [] => []
  | x :: xs => .tup [.int k, x] :: numbered (k + 1) xs
def enD (ds : List D) (S1 : Sto) : Out (List D × Option Nat) := match ds with
  | [d] => match itemsD S1 d with
    | some (xs, none) => .ok (numbered 0 xs, none) S1
    | _ => .no
  | _ => .no
def iEn (m : MA) : MI := fun ρ S => (m ρ S).bind enD
theorem numbered_length : ∀ (k : Int) (xs : List D), (numbered k xs).length = xs.length
  | _, [] => rfl
  | k, x :: xs => by simp [numbered, numbered_length (k + 1) xs]
theorem numbered_get : ∀ {k : Int} {xs : List D} {i : Nat} {d : D}, (numbered k xs)[i]? = some d → ∃ x, xs[i]? = some x ∧ d = .tup [.int (k + (i : Nat)), x]
  | _, [], _, _, h => by simp [numbered] at h
  | k, x :: xs, 0, d, h => by simp [numbered] at h; exact ⟨x, rfl, by simp [h]⟩
  | k, x :: xs, i + 1, d, h => by
    simp only [numbered, List.getElem?_cons_succ] at h
    obtain ⟨y, h1, h2⟩ := numbered_get h
    refine ⟨y, by simpa using h1, ?_⟩
    rw [h2]
    congr 3
    push_cast
    omega
theorem ups_length (lo : Int) (n : Nat) : (ups lo n).length = n := by simp [ups]
theorem ups_get {lo : Int} {n i : Nat} {d : D} (h : (ups lo n)[i]? = some d) : d = .int (lo + (i : Nat)) := by
  unfold ups at h
  rw [List.getElem?_map] at h
  cases e : (List.range n)[i]? with
  | none => rw [e] at h; cases h
  | some j =>
    rw [e] at h
    have := List.getElem?_eq_some_iff.mp e
    obtain ⟨h1, h2⟩ := this
    simp at h2
    subst h2
    exact (Option.some.inj h).symm
section
variable {K : PySem.W.Frag} {G : Gh}
theorem walkL {xs : List D} {vs : List V} {a : Addr} (h : SqL K G.F a vs) (r : Rps K G xs vs) : WalkD K G xs none (Itl K a) where
  goes := fun i G' S H le sm _ hi => walk_list.goes i H (by rw [r.length]; exact hi) (SqL.mono (SqL.mono h le.1) sm.fr)
  stops := fun G' S H le sm _ => by rw [← r.length]; exact walk_list.stops H (SqL.mono (SqL.mono h le.1) sm.fr)
  yields := fun i G' S H x H' d le sm _ hd y => by
    have hi : i < vs.length := by rw [r.length]; exact (List.getElem?_eq_some_iff.mp hd).1
    obtain ⟨rfl, hx⟩ := walk_list.yields i H x H' hi (SqL.mono (SqL.mono h le.1) sm.fr) y
    obtain ⟨d', h1, h2⟩ := r.get' hx
    rw [hd] at h1
    cases h1
    exact ⟨G', .refl, sm, h2.mono le⟩
theorem walkT {xs : List D} {vs : List V} {a : Addr} (h : SqT K G.F a vs) (r : Rps K G xs vs) : WalkD K G xs none (Itt K a) where
  goes := fun i G' S H le sm _ hi => walk_tup.goes i H (by rw [r.length]; exact hi) (SqT.mono (SqT.mono h le.1) sm.fr)
  stops := fun G' S H le sm _ => by rw [← r.length]; exact walk_tup.stops H (SqT.mono (SqT.mono h le.1) sm.fr)
  yields := fun i G' S H x H' d le sm _ hd y => by
    have hi : i < vs.length := by rw [r.length]; exact (List.getElem?_eq_some_iff.mp hd).1
    obtain ⟨rfl, hx⟩ := walk_tup.yields i H x H' hi (SqT.mono (SqT.mono h le.1) sm.fr) y
    obtain ⟨d', h1, h2⟩ := r.get' hx
    rw [hd] at h1
    cases h1
    exact ⟨G', .refl, sm, h2.mono le⟩
theorem walkC {xs : List D} {n : Nat} {a : Addr} (h : G.f n = some a) : WalkD K G xs (some n) (Itl K a) where
  goes := fun i G' S H le sm g hi => by
    obtain ⟨_, vs, h1, r⟩ := sm.addr g (by simp) (le.2 _ _ h)
    exact walk_list.goes i H (by rw [r.length]; exact hi) (SqL.of h1)
  stops := fun G' S H le sm g => by
    obtain ⟨_, vs, h1, r⟩ := sm.addr g (by simp) (le.2 _ _ h)
    rw [← r.length]
    exact walk_list.stops H (SqL.of h1)
  yields := fun i G' S H x H' d le sm g hd y => by
    obtain ⟨_, vs, h1, r⟩ := sm.addr g (by simp) (le.2 _ _ h)
    have hi : i < vs.length := by rw [r.length]; exact (List.getElem?_eq_some_iff.mp hd).1
    obtain ⟨rfl, hx⟩ := walk_list.yields i H x H' hi (SqL.of h1) y
    obtain ⟨d', h1, h2⟩ := r.get' hx
    rw [hd] at h1
    cases h1
    exact ⟨G', .refl, sm, h2⟩
theorem walkR {lo : Int} {n : Nat} : WalkD K G (ups lo n) none (Itr lo n) where
  goes := fun i G' S H le sm _ hi => walk_range.goes i H (by rw [ups_length] at hi; exact hi) trivial
  stops := fun G' S H le sm _ => by rw [ups_length]; exact walk_range.stops H trivial
  yields := fun i G' S H x H' d le sm _ hd y => by
    have hi : i < n := by have := (List.getElem?_eq_some_iff.mp hd).1; rw [ups_length] at this; exact this
    obtain ⟨rfl, rfl⟩ := walk_range.yields i H x H' hi trivial y
    rw [ups_get hd]
    exact ⟨G', .refl, sm, .int _⟩
theorem walkS {z : Str} : WalkD K G (signs z) none (Its z) where
  goes := fun i G' S H le sm _ hi => walk_str.goes i H (by simpa [signs] using hi) trivial
  stops := fun G' S H le sm _ => by
    have e : (signs z).length = z.cps.size := by simp [signs]
    rw [e]
    exact walk_str.stops H trivial
  yields := fun i G' S H x H' d le sm _ hd y => by
    have hi : i < z.cps.size := by have := (List.getElem?_eq_some_iff.mp hd).1; simpa [signs] using this
    obtain ⟨rfl, c, hc, rfl⟩ := walk_str.yields i H x H' hi trivial y
    have e : d = .str ⟨#[c]⟩ := by
      unfold signs at hd
      rw [List.getElem?_map, Array.getElem?_toList, hc] at hd
      exact (Option.some.inj hd).symm
    subst e
    exact ⟨G', .refl, sm, .str _⟩
theorem pair_yield {xs : List D} {o : Option Nat} {G' : Gh} {S : Sto} {H H' : Hp} {T : Addr} {v w : V} {d e : D} (sm : Sm K G' S H) (hT : H T = none) (h : H' = upd H T (.tup [v, w])) (rd : Rp K G' d v) (re : Rp K G' e w) : ∃ G'', Stp G' H G'' H' ∧ Sm K G'' S H' ∧ Rp K G'' (.tup [d, e]) (.ref T) := by
  subst h
  have st := Stp.put (o := .tup [v, w]) sm hT
  exact ⟨_, st, sm.put hT, .tup (SqT.of upd_same) (.cons (rd.mono st.le) (.cons (re.mono st.le) .nil))⟩
theorem walkE {xs : List D} {vs : List V} {a : Addr} (h : SqL K G.F a vs) (r : Rps K G xs vs) : WalkD K G (numbered 0 xs) none (Ite K a) where
  goes := fun i G' S H le sm _ hi => walk_enum.goes i H (by rw [r.length]; rw [numbered_length] at hi; exact hi) (SqL.mono (SqL.mono h le.1) sm.fr)
  stops := fun G' S H le sm _ => by rw [numbered_length, ← r.length]; exact walk_enum.stops H (SqL.mono (SqL.mono h le.1) sm.fr)
  yields := fun i G' S H x H' d le sm _ hd y => by
    have hi : i < vs.length := by rw [r.length]; have := (List.getElem?_eq_some_iff.mp hd).1; rw [numbered_length] at this; exact this
    obtain ⟨T, v, w, rfl, hT, hH, h4, h5⟩ := walk_enum.yields i H x H' hi (SqL.mono (SqL.mono h le.1) sm.fr) y
    obtain ⟨z, h6, rfl⟩ := numbered_get hd
    obtain ⟨d', h7, h8⟩ := r.get' h5
    rw [h6] at h7
    cases h7
    cases h4
    refine pair_yield (xs := []) (o := none) sm hT hH ?_ (h8.mono le)
    rw [Int.zero_add]
    exact .int _
theorem walkET {xs : List D} {vs : List V} {a : Addr} (h : SqT K G.F a vs) (r : Rps K G xs vs) : WalkD K G (numbered 0 xs) none (IteT K a) where
  goes := fun i G' S H le sm _ hi => walk_enumT.goes i H (by rw [r.length]; rw [numbered_length] at hi; exact hi) (SqT.mono (SqT.mono h le.1) sm.fr)
  stops := fun G' S H le sm _ => by rw [numbered_length, ← r.length]; exact walk_enumT.stops H (SqT.mono (SqT.mono h le.1) sm.fr)
  yields := fun i G' S H x H' d le sm _ hd y => by
    have hi : i < vs.length := by rw [r.length]; have := (List.getElem?_eq_some_iff.mp hd).1; rw [numbered_length] at this; exact this
    obtain ⟨T, v, w, rfl, hT, hH, h4, h5⟩ := walk_enumT.yields i H x H' hi (SqT.mono (SqT.mono h le.1) sm.fr) y
    obtain ⟨z, h6, rfl⟩ := numbered_get hd
    obtain ⟨d', h7, h8⟩ := r.get' h5
    rw [h6] at h7
    cases h7
    cases h4
    refine pair_yield (xs := []) (o := none) sm hT hH ?_ (h8.mono le)
    rw [Int.zero_add]
    exact .int _
end
section
variable {X : Cx} {tg e : Expr} {m : ME} {ms : MA} {p pos : Pos}
theorem qi_seq (h : QE X e m) : QI X tg e (iSeq m) := ⟨fun pins s σ H R I ⟨ρ, S, G, sm, re, q⟩ => (PI.or (pi_list h) (PI.or (pi_tup h) (pi_str h))).run pins s σ H R I (by
  match em : m ρ S, q with
  | .ex c fs S', q =>
    refine .inl ⟨ρ, S, G, sm, re, ?_⟩
    rw [em]
    have q' : sat X _ G H ((m ρ S).bind _) _ := q
    rw [em] at q'
    exact q'
  | .no, q =>
    have q' : sat X _ G H ((m ρ S).bind _) _ := q
    rw [em] at q'
    exact q'.elim
  | .ok d S1, q =>
    have q' : sat X _ G H ((m ρ S).bind _) _ := q
    rw [em] at q'
    have q'' : sat X (fun G' (a : List D × Option Nat) (J : It) => WalkD X.K G' a.1 a.2 J) G H (match itemsI S1 d with | some p => .ok p S1 | none => .no) (fun J H' => R J H') := q'
    clear q q'
    match d, q'' with
    | .lst xs, q => refine .inl ⟨ρ, S, G, sm, re, ?_⟩; rw [em]; intro G' H' v le sm' r; cases r with | lst a b => exact ⟨_, rfl, ⟨_, SqL.of (sm'.fr _ _ a)⟩, q G' H' _ le sm' (walkL (SqL.of a) b)⟩
    | .src xs, q => refine .inl ⟨ρ, S, G, sm, re, ?_⟩; rw [em]; intro G' H' v le sm' r; cases r with | src a b => exact ⟨_, rfl, ⟨_, SqL.mono a sm'.fr⟩, q G' H' _ le sm' (walkL a b)⟩
    | .str z, q => refine .inr (.inr ⟨ρ, S, G, sm, re, ?_⟩); rw [em]; intro G' H' v le sm' r; cases r; exact ⟨z, rfl, q G' H' _ le sm' walkS⟩
    | .tup xs, q => refine .inr (.inl ⟨ρ, S, G, sm, re, ?_⟩); rw [em]; intro G' H' v le sm' r; cases r with | tup a b => exact ⟨_, rfl, ⟨_, SqT.mono a sm'.fr⟩, q G' H' _ le sm' (walkT a b)⟩
    | .loc n, q =>
      refine .inl ⟨ρ, S, G, sm, re, ?_⟩
      rw [em]
      intro G' H' v le sm' r
      simp only [itemsI, itemsD] at q
      cases r with
      | loc hf =>
        match hn : S1[n]?, q with
        | some (.lst xs), q =>
          obtain ⟨_, vs, h1, h2⟩ := sm'.addr hn (by simp) hf
          exact ⟨_, rfl, ⟨_, SqL.of h1⟩, q G' H' _ le sm' (walkC hf)⟩
        | some (.ins _ _), q => exact q.elim
        | some .dead, q => exact q.elim
        | none, q => exact q.elim
    | .non, q => exact q.elim
    | .bl _, q => exact q.elim
    | .int _, q => exact q.elim
    | .obj _ _, q => exact q.elim
    | .cls _, q => exact q.elim
    | .fnc _, q => exact q.elim
    | .ty _, q => exact q.elim
    | .dic0, q => exact q.elim
    | .exc _ _, q => exact q.elim
    | .hob _, q => exact q.elim)⟩
theorem qi_sgn (h : QE X e m) : QI X tg e (iSgn m) := ⟨fun pins s σ H R I ⟨ρ, S, G, sm, re, q⟩ => (pi_str h).run pins s σ H R I (by
  refine ⟨ρ, S, G, sm, re, (sat.bind q).imp fun v H1 w => ?_⟩
  obtain ⟨d, S1, G1, le1, sm1, r1, q1⟩ := w
  cases r1 with
  | str z => exact ⟨z, rfl, q1 G1 H1 _ .refl sm1 walkS⟩
  | _ => exact q1.elim)⟩
theorem qi_range1 (hm : X.mg "range" = none) (ha : QA X [e] ms) (hg : Gl X "range" := by rfl) (hs : starEach [e] X.env = [(false, eval e X.env)] := by rfl) : QI X tg (.Call (.Name "range" p) [e] [] pos) (iR1 ms) := ⟨fun pins s σ H R I ⟨ρ, S, G, sm, re, q⟩ => (pi_range1 hg hm ha hs).run pins s σ H R I (by
  refine ⟨ρ, S, G, sm, re, (sat.bind q).imp fun v H1 w => ?_⟩
  obtain ⟨ds, S1, G1, le1, sm1, r1, q1⟩ := w
  split at q1
  · split at q1
    · rename_i c
      obtain ⟨v, rfl, r⟩ := vals1 r1
      cases r
      have c' := of_decide_eq_true c
      exact ⟨_, rfl, c'.1, c'.2, q1 G1 H1 _ .refl sm1 walkR⟩
    · exact q1.elim
  · exact q1.elim)⟩
theorem qi_range2 {e2 : Expr} (hm : X.mg "range" = none) (ha : QA X [e, e2] ms) (hg : Gl X "range" := by rfl) (hs : starEach [e, e2] X.env = [(false, eval e X.env), (false, eval e2 X.env)] := by rfl) (hs2 : starEach [e2] X.env = [(false, eval e2 X.env)] := by rfl) : QI X tg (.Call (.Name "range" p) [e, e2] [] pos) (iR2 ms) := ⟨fun pins s σ H R I ⟨ρ, S, G, sm, re, q⟩ => (pi_range2 hg hm ha hs hs2).run pins s σ H R I (by
  refine ⟨ρ, S, G, sm, re, (sat.bind q).imp fun v H1 w => ?_⟩
  obtain ⟨ds, S1, G1, le1, sm1, r1, q1⟩ := w
  split at q1
  · split at q1
    · rename_i c
      obtain ⟨v, w, rfl, r, r'⟩ := vals2' r1
      cases r; cases r'
      have c1 := of_decide_eq_true c.1
      have c2 := of_decide_eq_true c.2
      exact ⟨_, _, rfl, ⟨c1.1, c1.2, c2.1, c2.2⟩, q1 G1 H1 _ .refl sm1 walkR⟩
    · exact q1.elim
  · exact q1.elim)⟩
theorem qi_enum {elts : List Expr} {kk : Nat} {tpos : Pos} (hm : X.mg "enumerate" = none) (ha : QA X [e] ms) (hg : Gl X "enumerate" := by rfl) (hs : starEach [e] X.env = [(false, eval e X.env)] := by rfl) : QI X (.Tuple elts kk tpos) (.Call (.Name "enumerate" p) [e] [] pos) (iEn ms) := ⟨fun pins s σ H R I ⟨ρ, S, G, sm, re, q⟩ => (PI.or (pi_enum hg hm ha hs) (pi_enumT hg hm ha hs)).run pins s σ H R I (by
  match em : ms ρ S, q with
  | .ex c fs S', q =>
    refine .inl ⟨ρ, S, G, sm, re, ?_⟩
    rw [em]
    have q' : sat X _ G H ((ms ρ S).bind _) _ := q
    rw [em] at q'
    exact q'
  | .no, q =>
    have q' : sat X _ G H ((ms ρ S).bind _) _ := q
    rw [em] at q'
    exact q'.elim
  | .ok ds S1, q =>
    have q' : sat X _ G H ((ms ρ S).bind _) _ := q
    rw [em] at q'
    have q'' : sat X (fun G' (a : List D × Option Nat) (J : It) => WalkD X.K G' a.1 a.2 J) G H (enD ds S1) (fun J H' => R J H') := q'
    clear q q'
    match ds, q'' with
    | [.lst xs], q => refine .inl ⟨ρ, S, G, sm, re, ?_⟩; rw [em]; intro G' H' v le sm' rr; obtain ⟨v, rfl, r⟩ := vals1 rr; cases r with | lst a b => exact ⟨_, _, rfl, SqL.of (sm'.fr _ _ a), q G' H' _ le sm' (walkE (SqL.of a) b)⟩
    | [.src xs], q => refine .inl ⟨ρ, S, G, sm, re, ?_⟩; rw [em]; intro G' H' v le sm' rr; obtain ⟨v, rfl, r⟩ := vals1 rr; cases r with | src a b => exact ⟨_, _, rfl, SqL.mono a sm'.fr, q G' H' _ le sm' (walkE a b)⟩
    | [.tup xs], q => refine .inr ⟨ρ, S, G, sm, re, ?_⟩; rw [em]; intro G' H' v le sm' rr; obtain ⟨v, rfl, r⟩ := vals1 rr; cases r with | tup a b => exact ⟨_, _, rfl, SqT.mono a sm'.fr, q G' H' _ le sm' (walkET a b)⟩
    | [.loc n], q =>
      simp only [enD, itemsD] at q
      match hn : S1[n]?, q with
      | some (.lst xs), q => exact q.elim
      | some (.ins _ _), q => exact q.elim
      | some .dead, q => exact q.elim
      | none, q => exact q.elim
    | [.non], q => exact q.elim
    | [.bl _], q => exact q.elim
    | [.int _], q => exact q.elim
    | [.str _], q => exact q.elim
    | [.obj _ _], q => exact q.elim
    | [.cls _], q => exact q.elim
    | [.fnc _], q => exact q.elim
    | [.ty _], q => exact q.elim
    | [.dic0], q => exact q.elim
    | [.hob _], q => exact q.elim
    | [.exc _ _], q => exact q.elim
    | [], q => exact q.elim
    | _ :: _ :: _, q => exact q.elim)⟩
end
end PV
set_option Elab.async false
set_option linter.all false
set_option maxRecDepth 100000
set_option maxHeartbeats 4000000
namespace PV
open PySem PySem.Spec PyProof.Rows L2 ZL
/-! ### for -/
open Classical in
noncomputable def forL (T : Tg) (b : MS) (o : Option Nat) (all : List D) : List D → Ev → Sto → Out Fl
  | [], ρ, S => if Gd o all S then .ok (.nx ρ) S else .no
  | x :: xs, ρ, S => if Gd o all S then match setT T x ρ with
      | some ρ1 => (b ρ1 S).bind fun f S1 => match f with
        | .nx ρ' => forL T b o all xs ρ' S1
        | .ct ρ' => forL T b o all xs ρ' S1
        | .bk ρ' => .ok (.nx ρ') S1
        | .rt d => .ok (.rt d) S1
      | none => .no
    else .no
noncomputable def sFor (T : Tg) (i : MI) (b : MS) : MS := fun ρ S => (i ρ S).bind fun p S1 => forL T b p.2 p.1 p.1 ρ S1
theorem drop_cons {α : Type} {xs : List α} {i : Nat} {x : α} (h : xs[i]? = some x) : xs.drop i = x :: xs.drop (i + 1) := by
  obtain ⟨h1, h2⟩ := List.getElem?_eq_some_iff.mp h
  rw [List.drop_eq_getElem_cons h1, h2]
theorem qs_for {X : Cx} {tg iter : Expr} {body : List Stmt} {T : Tg} {mi : MI} {mb : MS} {pos : Pos} (hp : PassesOwn (model X.prog X.w) X.A X.env X.xe) (hc : X.calm = true) (hi : QI X tg iter mi) (hg : QG X tg T) (hb : QSs X body mb)
    (hs : ∀ x, foldedSetIterable iter X.env x = pure x := by intro _; rfl) : QS X (.For tg iter body [] pos) (sFor T mi mb) := qs_of (ps_for hp hc hi hg hb hs) fun ρ0 S0 G0 σ0 H0 D sm0 re0 h => by
  classical
  refine ⟨ρ0, S0, G0, sm0, re0, (satS.bind (R := fun G' a (J : It) => WalkD X.K G' a.1 a.2 J) h).imp fun J H1 w => ?_⟩
  obtain ⟨⟨xs, o⟩, S1, G1, le1, sm1, wd, q1⟩ := w
  refine ⟨fun i m σ H => m = xs.length - i ∧ i ≤ xs.length ∧ ∃ ρ S G', G1.le G' ∧ Sm X.K G' S H ∧ Re X.K G' ρ σ ∧ satS X G' H (forL T mb o xs (xs.drop i) ρ S) D,
    ⟨xs.length, rfl, Nat.zero_le _, ρ0, S1, G1, .refl, sm1, re0.mono le1.le, q1⟩, ?_⟩
  rintro i m σ H ⟨rfl, hi', ρ, S, G', le, sm, re, q⟩
  by_cases hlt : i < xs.length
  · obtain ⟨x, hx⟩ : ∃ x, xs[i]? = some x := ⟨_, List.getElem?_eq_getElem hlt⟩
    rw [drop_cons hx] at q
    unfold forL at q
    split at q
    · rename_i gd
      refine .inr ⟨wd.goes i G' S H le sm gd hlt, fun σ' H' => ∃ ρ' S' G'', G1.le G'' ∧ Sm X.K G'' S' H' ∧ Re X.K G'' ρ' σ' ∧ satS X G'' H' (forL T mb o xs (xs.drop (i + 1)) ρ' S') D, fun σ' H' z => ⟨xs.length - (i + 1), by omega, rfl, hlt, z⟩, fun v H' y => ?_⟩
      obtain ⟨G'', st, sm', rv⟩ := wd.yields i G' S H v H' x le sm gd hx y
      split at q
      · rename_i ρ1 hset
        refine ⟨x, ρ, ρ1, G'', sm'.fr, re.mono st.le, rv, hset, fun σ2 re2 _ => ⟨ρ1, S, G'', sm', re2, ?_⟩⟩
        have q2 := q.mono st
        clear q
        match mb ρ1 S, q2 with
        | .ok (.nx ρ') S', q2 => exact fun G3 H3 σ3 st3 sm3 re3 => ⟨ρ', S', G3, le.trans (st.le.trans st3.le), sm3, re3, q2.mono st3⟩
        | .ok (.ct ρ') S', q2 => exact fun G3 H3 σ3 st3 sm3 re3 => ⟨ρ', S', G3, le.trans (st.le.trans st3.le), sm3, re3, q2.mono st3⟩
        | .ok (.bk ρ') S', q2 => exact q2
        | .ok (.rt d) S', q2 => exact q2
        | .ex _ _ _, q2 => exact q2
        | .no, q2 => exact q2
      · exact q.elim
    · exact q.elim
  · have e : i = xs.length := by omega
    subst e
    rw [List.drop_length] at q
    unfold forL at q
    split at q
    · rename_i gd
      exact .inl ⟨wd.stops G' S H le sm gd, q G' H σ .refl sm re⟩
    · exact q.elim
theorem forL_nil {T : Tg} {b : MS} {all : List D} {ρ : Ev} {S : Sto} : forL T b none all [] ρ S = .ok (.nx ρ) S := by
  unfold forL
  rw [if_pos (show Gd none all S from trivial)]
theorem forL_cons {T : Tg} {b : MS} {all : List D} {ρ : Ev} {S : Sto} {x : D} {xs : List D} : forL T b none all (x :: xs) ρ S = match setT T x ρ with
      | some ρ1 => (b ρ1 S).bind fun f S1 => match f with
        | .nx ρ' => forL T b none all xs ρ' S1
        | .ct ρ' => forL T b none all xs ρ' S1
        | .bk ρ' => .ok (.nx ρ') S1
        | .rt d => .ok (.rt d) S1
      | none => .no := by
  conv => lhs; unfold forL
  rw [if_pos (show Gd none all S from trivial)]
/-! ### list comprehensions -/
def wipeD (ρ : Ev) : List Nat → Ev
  | [] => ρ
  | v :: vs => (wipeD ρ vs).set v none
theorem Re.wipe {K : PySem.W.Frag} {G : Gh} {ρ : Ev} {σ : L2.St} (h : Re K G ρ σ) : ∀ vs : List Nat, Re K G (wipeD ρ vs) (L2.wipe σ vs)
  | [] => h
  | v :: vs => (Re.wipe h vs).forget v none
def tYs : MT := fun _ S => .ok true S
open Classical in
noncomputable def lcL (T : Tg) (t : MT) (e : ME) (o : Option Nat) (all : List D) (ρ : Ev) : List D → Sto → Out (List D)
  | [], S => if Gd o all S then .ok [] S else .no
  | x :: xs, S => if Gd o all S then match setT T x ρ with
      | some ρ1 => match t ρ1 S with
        | .ok true S1 => match e ρ1 S1 with
          | .ok d S2 => match lcL T t e o all ρ xs S2 with
            | .ok ds S3 => .ok (d :: ds) S3
            | _ => .no
          | _ => .no
        | .ok false S1 => lcL T t e o all ρ xs S1
        | _ => .no
      | none => .no
    else .no
noncomputable def lcO (T : Tg) (i : MI) (t : MT) (e : ME) : MA := fun ρ S => (i ρ S).bind fun p S1 => if p.1.length ≤ 1000 then lcL T t e p.2 p.1 (wipeD ρ T.slots) p.1 S1 else .no
noncomputable def lcE (T : Tg) (i : MI) (t : MT) (e : ME) : ME := fun ρ S => (lcO T i t e ρ S).bind fun ds S1 => .ok (.lst ds) S1
noncomputable def lcM (T : Tg) (i : MI) (t : MT) (e : ME) : ME := fun ρ S => (lcO T i t e ρ S).bind fun ds S1 => .ok (.loc S1.length) (S1 ++ [.lst ds])
/-- nothing is raised -/
def satN {α β : Type} (K : PySem.W.Frag) (R : Gh → α → β → Prop) (G : Gh) (H : Hp) (o : Out α) (Q : β → Hp → Prop) : Prop := match o with
  | .ok a S' => ∀ G' H' b, Stp G H G' H' → Sm K G' S' H' → R G' a b → Q b H'
  | _ => False
theorem satN.sat {α β : Type} {X : Cx} {R : Gh → α → β → Prop} {G : Gh} {H : Hp} {o : Out α} {Q : β → Hp → Prop} (h : satN X.K R G H o Q) : sat X R G H o Q := by
  match o, h with
  | .ok _ _, h => exact h
def tEn (K : PySem.W.Frag) (m : ME) : TE := fun σ H Q => ∃ ρ S G, Sm K G S H ∧ Re K G ρ σ ∧ satN K (Rp K) G H (m ρ S) Q
def tTn (K : PySem.W.Frag) (m : MT) : TT := fun σ H Q => ∃ ρ S G, Sm K G S H ∧ Re K G ρ σ ∧ satN K (fun _ a b => a = b) G H (m ρ S) Q
theorem QE.n {X : Cx} {e : Expr} {m : ME} (h : QE X e m) : PE X e (tEn X.K m) := ⟨fun pins s σ H Q I ⟨ρ, S, G, sm, re, q⟩ => h.run pins s σ H Q I ⟨ρ, S, G, sm, re, q.sat⟩⟩
theorem QT.n {X : Cx} {e : Expr} {m : MT} (h : QT X e m) : PT X e (tTn X.K m) := ⟨fun pins s σ H Q I ⟨ρ, S, G, sm, re, q⟩ => h.run pins s σ H Q I ⟨ρ, S, G, sm, re, q.sat⟩⟩
theorem pts_yes {X : Cx} : PTs X [] (tTn X.K tYs) := ⟨fun pins s σ H Q I ⟨ρ, S, G, sm, re, q⟩ => pts_nil.run pins s σ H Q I (q G H true .refl sm rfl)⟩
/-- the reading of a comprehension -/
theorem lc_rd {X : Cx} {T : Tg} {mi : MI} {mt : MT} {me : ME} {K : PySem.W.Frag} (hK : X.K = K) {ρ0 : Ev} {S0 : Sto} {G0 : Gh} {σ0 : L2.St} {H0 : Hp} {Q : VK} {fz : Bool} (sm0 : Sm X.K G0 S0 H0) (re0 : Re X.K G0 ρ0 σ0)
    (h : sat X (Rp X.K) G0 H0 ((lcO T mi mt me ρ0 S0).bind fun ds S1 => if fz = true then .ok (.lst ds) S1 else .ok (.loc S1.length) (S1 ++ [.lst ds])) Q) :
    tLc (tI X mi) (fun v σ H Q => ∃ d ρ ρ' G, (∀ a o, G.F a = some o → H a = some o) ∧ Re K G ρ σ ∧ Rp K G d v ∧ setT T d ρ = some ρ' ∧ ∀ σ', Re K G ρ' σ' → (∀ vs, (∀ i ∈ T.slots, i ∈ vs) → wipe σ' vs = wipe σ vs) → Q σ' H) (tTn K mt) (tEn K me) T.slots σ0 H0 Q := by
  classical
  subst hK
  have h' : sat X (Rp X.K) G0 H0 ((mi ρ0 S0).bind fun p S1 => (if p.1.length ≤ 1000 then lcL T mt me p.2 p.1 (wipeD ρ0 T.slots) p.1 S1 else .no).bind fun ds S1 => if fz = true then .ok (.lst ds) S1 else .ok (.loc S1.length) (S1 ++ [.lst ds])) Q := by
    have e : ∀ (o : Out (List D × Option Nat)) (f : List D × Option Nat → Sto → Out (List D)) (g : List D → Sto → Out D), (o.bind f).bind g = o.bind fun p S => (f p S).bind g := fun o f g => by cases o <;> rfl
    have h2 := h
    unfold lcO at h2
    rw [e] at h2
    exact h2
  refine ⟨ρ0, S0, G0, sm0, re0, (sat.bind (R := fun G' a (J : It) => WalkD X.K G' a.1 a.2 J) h').imp fun J H1 w => ?_⟩
  obtain ⟨⟨xs, o⟩, S1, G1, st1, sm1, wd, q1⟩ := w
  intro p hp
  have q1' : sat X (Rp X.K) G1 H1 ((if xs.length ≤ 1000 then lcL T mt me o xs (wipeD ρ0 T.slots) xs S1 else .no).bind fun ds S1 => if fz = true then .ok (.lst ds) S1 else .ok (.loc S1.length) (S1 ++ [.lst ds])) Q := q1
  by_cases hlen : xs.length ≤ 1000
  · rw [if_pos hlen] at q1'
    have re1 := (re0.mono st1.le).wipe T.slots
    -- the invariant
    refine ⟨fun i m H => m = xs.length - i ∧ i ≤ xs.length ∧ ∃ S G' acc vs, Stp G1 H1 G' H ∧ Sm X.K G' S H ∧ H p = some (.lst vs) ∧ G'.F p = none ∧ (∀ n, G'.f n ≠ some p) ∧ Rps X.K G' acc vs ∧ acc.length ≤ i ∧
      sat X (Rp X.K) G1 H1 ((match lcL T mt me o xs (wipeD ρ0 T.slots) (xs.drop i) S with | .ok ds S3 => .ok (acc ++ ds) S3 | _ => .no : Out (List D)).bind fun ds S1 => if fz = true then .ok (.lst ds) S1 else .ok (.loc S1.length) (S1 ++ [.lst ds])) Q,
      ⟨xs.length, rfl, Nat.zero_le _, S1, G1, [], [], Stp.refl.at hp, sm1.other (sm1.free hp) (fun n e => by obtain ⟨u, hu, _⟩ := sm1.dn n p e; rw [hp] at hu; cases hu) (fun u hu => by rw [hp] at hu; cases hu), upd_same, sm1.free hp, (fun n e => by obtain ⟨u, hu, _⟩ := sm1.dn n p e; rw [hp] at hu; cases hu), .nil, Nat.le_refl _, ?_⟩, ?_⟩
    · rw [List.drop_zero]
      match hl : lcL T mt me o xs (wipeD ρ0 T.slots) xs S1, q1' with
      | .ok ds S3, q => exact q
      | .ex _ _ _, q =>
        exfalso
        have never : ∀ (ys : List D) (S : Sto) c fs S', lcL T mt me o xs (wipeD ρ0 T.slots) ys S ≠ .ex c fs S' := by
          intro ys
          induction ys with
          | nil => intro S c fs S'; unfold lcL; split <;> simp
          | cons y ys ih =>
            intro S c fs S'
            unfold lcL
            split
            · split
              · split
                · split
                  · split <;> simp
                  · simp
                · exact ih _ _ _ _
                · simp
              · simp
            · simp
        exact never _ _ _ _ _ hl
      | .no, q => exact q.elim
    rintro i m H ⟨rfl, hi, S, G', acc, vs, st, sm, hH, hF, hn, ra, hacc, q⟩
    by_cases hlt : i < xs.length
    · obtain ⟨x, hx⟩ : ∃ x, xs[i]? = some x := ⟨_, List.getElem?_eq_getElem hlt⟩
      rw [drop_cons hx] at q
      unfold lcL at q
      split at q
      rotate_left
      · exact q.elim
      rename_i ds' S3' hl
      split at hl
      · rename_i gd
        refine .inr ⟨wd.goes i G' S H st.le sm gd hlt, fun H' => ∃ S G' acc vs, Stp G1 H1 G' H' ∧ Sm X.K G' S H' ∧ H' p = some (.lst vs) ∧ G'.F p = none ∧ (∀ n, G'.f n ≠ some p) ∧ Rps X.K G' acc vs ∧ acc.length ≤ i + 1 ∧
          sat X (Rp X.K) G1 H1 ((match lcL T mt me o xs (wipeD ρ0 T.slots) (xs.drop (i + 1)) S with | .ok ds S3 => .ok (acc ++ ds) S3 | _ => .no : Out (List D)).bind fun ds S1 => if fz = true then .ok (.lst ds) S1 else .ok (.loc S1.length) (S1 ++ [.lst ds])) Q, fun H' z => ⟨xs.length - (i + 1), by omega, rfl, hlt, z⟩, fun v H' y => ?_⟩
        obtain ⟨G2, st2, sm2, rv⟩ := wd.yields i G' S H v H' x st.le sm gd hx y
        split at hl
        · rename_i ρ1 hset
          refine ⟨x, wipeD ρ0 T.slots, ρ1, G2, sm2.fr, (re1.mono st.le).mono st2.le, rv, hset, fun σ2 re2 hw => ⟨?_, ?_⟩⟩
          · rw [hw T.slots fun _ z => z]
            have idem : ∀ (us vs : List Nat), (∀ i ∈ us, i ∈ vs) → wipe (wipe σ0 us) vs = wipe σ0 vs := by
              intro us
              induction us with
              | nil => intro vs _; rfl
              | cons u us ih =>
                intro vs hv
                show wipe ((wipe σ0 us).set u none) vs = _
                rw [wipe_set (hv u List.mem_cons_self)]
                exact ih vs fun k hk => hv k (List.mem_cons_of_mem _ hk)
            exact idem _ _ fun _ z => z
          · refine ⟨ρ1, S, G2, sm2, re2, ?_⟩
            have hp2 : H' p = some (.lst vs) := st2.frm p _ hH (fun _ z => by cases z) hn
            have keep : ∀ {G3 : Gh} {H3 : Hp}, Stp G2 H' G3 H3 → H3 p = some (.lst vs) ∧ G3.F p = none ∧ ∀ n, G3.f n ≠ some p := fun {G3 H3} s3 => by
              have s := st2.trans s3
              refine ⟨s.frm p _ hH (fun _ z => by cases z) hn, ?_, fun n e => ?_⟩
              · cases e : G3.F p with
                | none => rfl
                | some u =>
                  rcases s.fro p u e with z | z | ⟨n, z⟩
                  · rw [hF] at z; cases z
                  · exact (fr0_not z hH (fun _ z => by cases z)).elim
                  · exact absurd z (hn n)
              · rcases s.new n p e with z | z
                · exact hn n z
                · exact fr0_not z hH (fun _ z => by cases z)
            split at hl
            · rename_i S4 ht
              rw [ht]
              intro G3 H3 b s3 sm3 eb
              subst eb
              refine ⟨ρ1, S4, G3, sm3, re2.mono s3.le, ?_⟩
              split at hl
              · rename_i d S5 he
                rw [he]
                intro G4 H4 w s4 sm4 rw4
                obtain ⟨k1, k2, k3⟩ := keep (s3.trans s4)
                refine ⟨vs, k1, ?_, S5, G4, acc ++ [d], vs ++ [w], ((st.trans st2).trans (s3.trans s4)).at hp, sm4.other k2 k3 (fun u hu => by rw [k1] at hu; cases hu; exact ⟨(fun _ z => by cases z), (fun _ z => by cases z)⟩), upd_same, k2, k3, ?_, ?_, ?_⟩
                · rw [ra.length, sizeLine_eq]; omega
                · exact (((ra.mono st2.le).mono s3.le).mono s4.le).append (.cons rw4 .nil)
                · simp; omega
                · split at hl
                  · rename_i ds2 S6 hl2
                    cases hl
                    have e2 : acc ++ [d] ++ ds2 = acc ++ d :: ds2 := by simp
                    simp only [e2]
                    exact q
                  · cases hl
              · cases hl
            · rename_i S4 ht
              rw [ht]
              intro G3 H3 b s3 sm3 eb
              subst eb
              obtain ⟨k1, k2, k3⟩ := keep s3
              refine ⟨S4, G3, acc, vs, (st.trans st2).trans s3, sm3, k1, k2, k3, (ra.mono st2.le).mono s3.le, by omega, ?_⟩
              rw [hl]
              exact q
            · cases hl
        · cases hl
      · cases hl
    · have e : i = xs.length := by omega
      subst e
      rw [List.drop_length] at q
      unfold lcL at q
      by_cases gd : Gd o xs S
      · rw [if_pos gd] at q
        refine .inl ⟨wd.stops G' S H st.le sm gd, ?_⟩
        have q2 : sat X (Rp X.K) G1 H1 (if fz = true then .ok (.lst (acc ++ [])) S else .ok (.loc S.length) (S ++ [.lst (acc ++ [])])) Q := q
        rw [List.append_nil] at q2
        cases fz with
        | true =>
          have q3 : sat X (Rp X.K) G1 H1 (.ok (.lst acc) S) Q := q2
          exact q3 (G'.put p (.lst vs)) H _ (st.add hp hF) (sm.tell hH hn) (.lst upd_same (ra.mono (Gh.put_le hF)))
        | false =>
          have q3 : sat X (Rp X.K) G1 H1 (.ok (.loc S.length) (S ++ [.lst acc])) Q := q2
          have hnl : G'.le (G'.new S.length p) := sm.new_le
          refine q3 (G'.new S.length p) H _ ⟨st.le.trans hnl, st.dom, st.frm, fun n a h => ?_, st.fro⟩ ?_ (.loc Gh.new_at)
          · have h' : (if n = S.length then some p else G'.f n) = some a := h
            by_cases z : n = S.length
            · rw [if_pos z] at h'
              cases h'
              exact .inr (fr0_none hp)
            · rw [if_neg z] at h'
              exact st.new n a h'
          · exact sm.adopt hH hF hn ⟨vs, hH, ra.mono hnl⟩
      · rw [if_neg gd] at q
        exact q.elim
  · rw [if_neg hlen] at q1'
    exact q1'.elim
end PV
set_option Elab.async false
set_option linter.all false
set_option maxRecDepth 100000
set_option maxHeartbeats 4000000
namespace PV
open PySem PySem.Spec PyProof.Rows L2 ZL
section
variable {X : Cx} {elt tg iter : Expr} {ifs : List Expr} {scope : Scope} {own : List (Str × Nat)} {pos : Pos} {mi : MI} {T : Tg} {mt : MT} {me : ME}
theorem qe_lc (T : Tg) (hown : own.map (·.2) = T.slots) (hc : X.calm = true) (hN : X.N.Nodup) (hi : QI X tg iter mi) (ok : BlkOk X.N X.env.scope scope own)
    (hg : ∀ (s : Shared) (H : Hp) (C : Addr) (cl : List (Str × Addr)) (fp : List Addr), QG (X.blk s H scope (compEnvC scope cl C X.env) fp) tg T)
    (ht : ∀ (s : Shared) (H : Hp) (C : Addr) (cl : List (Str × Addr)) (fp : List Addr), PTs (X.blk s H scope (compEnvC scope cl C X.env) fp) ifs (tTn X.K mt))
    (he : ∀ (s : Shared) (H : Hp) (C : Addr) (cl : List (Str × Addr)) (fp : List Addr), QE (X.blk s H scope (compEnvC scope cl C X.env) fp) elt me) (hs : ∀ x, foldedSetIterable iter X.env x = pure x := by intro _; rfl) :
    QE X (.ListComp elt [⟨tg, iter, ifs, 0⟩] scope pos) (lcE T mi mt me) :=
  qe_of (pe_lc hc hN hi ok hg ht (fun s H C cl fp => (he s H C cl fp).n) hs) fun ρ S G σ H Q sm re h => by
    rw [hown]
    exact lc_rd (fz := true) rfl sm re h
theorem qe_lcM (T : Tg) (hown : own.map (·.2) = T.slots) (hc : X.calm = true) (hN : X.N.Nodup) (hi : QI X tg iter mi) (ok : BlkOk X.N X.env.scope scope own)
    (hg : ∀ (s : Shared) (H : Hp) (C : Addr) (cl : List (Str × Addr)) (fp : List Addr), QG (X.blk s H scope (compEnvC scope cl C X.env) fp) tg T)
    (ht : ∀ (s : Shared) (H : Hp) (C : Addr) (cl : List (Str × Addr)) (fp : List Addr), PTs (X.blk s H scope (compEnvC scope cl C X.env) fp) ifs (tTn X.K mt))
    (he : ∀ (s : Shared) (H : Hp) (C : Addr) (cl : List (Str × Addr)) (fp : List Addr), QE (X.blk s H scope (compEnvC scope cl C X.env) fp) elt me) (hs : ∀ x, foldedSetIterable iter X.env x = pure x := by intro _; rfl) :
    QE X (.ListComp elt [⟨tg, iter, ifs, 0⟩] scope pos) (lcM T mi mt me) :=
  qe_of (pe_lc hc hN hi ok hg ht (fun s H C cl fp => (he s H C cl fp).n) hs) fun ρ S G σ H Q sm re h => by
    rw [hown]
    exact lc_rd (fz := false) rfl sm re h
/-- y = [..] on one row -/
theorem qs_setLc (i : Nat) {y : Str} {py spos : Pos} (T : Tg) (hown : own.map (·.2) = T.slots) (hc : X.calm = true) (hN : X.N.Nodup) (hi : QI X tg iter mi) (ok : BlkOk X.N X.env.scope scope own)
    (hg : ∀ (s : Shared) (H : Hp) (C : Addr) (cl : List (Str × Addr)) (fp : List Addr), QG (X.blk s H scope (compEnvC scope cl C X.env) fp) tg T)
    (ht : ∀ (s : Shared) (H : Hp) (C : Addr) (cl : List (Str × Addr)) (fp : List Addr), PTs (X.blk s H scope (compEnvC scope cl C X.env) fp) ifs (tTn X.K mt))
    (he : ∀ (s : Shared) (H : Hp) (C : Addr) (cl : List (Str × Addr)) (fp : List Addr), QE (X.blk s H scope (compEnvC scope cl C X.env) fp) elt me)
    (hy : X.N[i]? = some y := by rfl) (hyl : X.env.scope.names.lookup y = some .local := by rfl)
    (hsw : swapsWith (.ListComp elt [⟨tg, iter, ifs, 0⟩] scope pos) (some (.Name y py)) spos.line X.env = pure true := by rfl) (hs : ∀ x, foldedSetIterable iter X.env x = pure x := by intro _; rfl) :
    QS X (.Assign [.Name y py] (.ListComp elt [⟨tg, iter, ifs, 0⟩] scope pos) spos) (sSet i (lcE T mi mt me)) :=
  qs_of (ps_setLc (te := tEn X.K me) hc hN hy hyl hsw hi ok hg ht (fun s H C cl fp => (he s H C cl fp).n) hs) fun ρ S G σ H D sm re h => by
    rw [hown]
    refine lc_rd (fz := true) rfl sm re ?_
    have z := satS.bind (R := Rp X.K) h
    exact z.imp fun x H1 w => by
      obtain ⟨d, S1, G1, le1, sm1, r1, q1⟩ := w
      exact q1 G1 H1 _ .refl sm1 ((re.mono le1.le).set i r1)
theorem qs_setLcM (i : Nat) {y : Str} {py spos : Pos} (T : Tg) (hown : own.map (·.2) = T.slots) (hc : X.calm = true) (hN : X.N.Nodup) (hi : QI X tg iter mi) (ok : BlkOk X.N X.env.scope scope own)
    (hg : ∀ (s : Shared) (H : Hp) (C : Addr) (cl : List (Str × Addr)) (fp : List Addr), QG (X.blk s H scope (compEnvC scope cl C X.env) fp) tg T)
    (ht : ∀ (s : Shared) (H : Hp) (C : Addr) (cl : List (Str × Addr)) (fp : List Addr), PTs (X.blk s H scope (compEnvC scope cl C X.env) fp) ifs (tTn X.K mt))
    (he : ∀ (s : Shared) (H : Hp) (C : Addr) (cl : List (Str × Addr)) (fp : List Addr), QE (X.blk s H scope (compEnvC scope cl C X.env) fp) elt me)
    (hy : X.N[i]? = some y := by rfl) (hyl : X.env.scope.names.lookup y = some .local := by rfl)
    (hsw : swapsWith (.ListComp elt [⟨tg, iter, ifs, 0⟩] scope pos) (some (.Name y py)) spos.line X.env = pure true := by rfl) (hs : ∀ x, foldedSetIterable iter X.env x = pure x := by intro _; rfl) :
    QS X (.Assign [.Name y py] (.ListComp elt [⟨tg, iter, ifs, 0⟩] scope pos) spos) (sSet i (lcM T mi mt me)) :=
  qs_of (ps_setLc (te := tEn X.K me) hc hN hy hyl hsw hi ok hg ht (fun s H C cl fp => (he s H C cl fp).n) hs) fun ρ S G σ H D sm re h => by
    rw [hown]
    refine lc_rd (fz := false) rfl sm re ?_
    have z := satS.bind (R := Rp X.K) h
    exact z.imp fun x H1 w => by
      obtain ⟨d, S1, G1, le1, sm1, r1, q1⟩ := w
      exact q1 G1 H1 _ .refl sm1 ((re.mono le1.le).set i r1)
theorem qts_one {c : Expr} {t : MT} (h : QT X c t) : PTs X [c] (tTn X.K t) := pts_one h.n
end
/-! ### targets of assignments -/
def sAsg (T : Tg) (m : ME) : MS := fun ρ S => (m ρ S).bind fun d S1 => match setT T d ρ with
  | some ρ' => .ok (.nx ρ') S1
  | none => .no
/-- a, b = x, y: both local names -/
def sPar (i j : Nat) (ms : MA) : MS := fun ρ S => (ms ρ S).bind fun ds S1 => match ds with
  | [d, e] => .ok (.nx ((ρ.set i (some d)).set j (some e))) S1
  | _ => .no
/-- o[i] = e -/
def sSub (o i m : ME) : MS := fun ρ S => (m ρ S).bind fun y S1 => (o ρ S1).bind fun x S2 => (i ρ S2).bind fun k S3 => match x, k with
  | .loc n, .int k => match S3[n]? with
    | some (.lst xs) => match ixN xs.length k with
      | some j => .ok (.nx ρ) (S3.set n (.lst (xs.set j y)))
      | none => .no
    | _ => .no
  | _, _ => .no
section
variable {X : Cx} {e tg : Expr} {m : ME} {pos : Pos}
theorem qs_asg {T : Tg} (h : QE X e m) (hg : QG X tg T) (hs : swapsWithSole [tg] e pos.line X.env = pure false := by rfl) (hw : swappedStores [tg] e X.env = pure none := by rfl)
    (h1 : (assignEach [tg] X.env).map (·.2) = [assign tg X.env] := by rfl) : QS X (.Assign [tg] e pos) (sAsg T m) := qs_of (ps_asg h hg hs hw h1) fun ρ S G σ H D sm re z => by
  refine ⟨ρ, S, G, sm, re, (satS.bind z).imp fun x H1 w => ?_⟩
  obtain ⟨d, S1, G1, le1, sm1, r1, q1⟩ := w
  match hs : setT T d ρ, q1 with
  | some ρ', q1 =>
    refine ⟨d, ρ, ρ', G1, sm1.fr, re.mono le1.le, r1, hs, fun σ' re' _ => ?_⟩
    exact q1 G1 H1 σ' .refl sm1 re'
  | none, q1 => exact q1.elim
theorem qs_par (i j : Nat) {x y : Str} {a b : Expr} {ms : MA} {px py pt : Pos} {kt k2 pt2} (hc : X.calm = true) (ha : QA X [a, b] ms) (hN : X.N.Nodup) (hi : X.N[i]? = some x := by rfl) (hj : X.N[j]? = some y := by rfl) (hij : i ≠ j := by decide)
    (hx : X.env.scope.names.lookup x = some .local := by rfl) (hy : X.env.scope.names.lookup y = some .local := by rfl)
    (hw : swappedStores [.Tuple [.Name x px, .Name y py] kt pt] (.Tuple [a, b] k2 pt2) X.env = pure (some [x, y]) := by rfl)
    (hs : swapsWithSole [.Tuple [.Name x px, .Name y py] kt pt] (.Tuple [a, b] k2 pt2) pos.line X.env = pure false := by rfl) :
    QS X (.Assign [.Tuple [.Name x px, .Name y py] kt pt] (.Tuple [a, b] k2 pt2) pos) (sPar i j ms) := qs_of (ps_par hc hN hi hj hij hx hy ha hw hs) fun ρ S G σ H D sm re z => by
  refine ⟨ρ, S, G, sm, re, (satS.bind z).imp fun vs H1 w => ?_⟩
  obtain ⟨ds, S1, G1, le1, sm1, r1, q1⟩ := w
  match ds, r1, q1 with
  | [d, e], r1, q1 =>
    obtain ⟨v, w, rfl, rv, rw'⟩ := vals2' r1
    exact ⟨v, w, rfl, q1 G1 H1 _ .refl sm1 (((re.mono le1.le).set i rv).set j rw')⟩
  | [], _, q1 => exact q1.elim
  | [_], _, q1 => exact q1.elim
  | _ :: _ :: _ :: _, _, q1 => exact q1.elim
theorem qs_sub {o i : Expr} {mo mi : ME} {p : Pos} (ho : QE X o mo) (hi : QE X i mi) (h : QE X e m)
    (ha : ∀ v, assign (.Subscript o i p) X.env v = (do
      let ov ← holding [v] (eval o X.env)
      let iv ← holding [v, ov] (eval i X.env)
      standAt p
      holding [v, ov, iv] (setItem ov iv v)
      release [v, ov, iv] []) := by intro _; rfl)
    (hs : swapsWithSole [.Subscript o i p] e pos.line X.env = pure false := by rfl) (hw : swappedStores [.Subscript o i p] e X.env = pure none := by rfl)
    (h1 : (assignEach [.Subscript o i p] X.env).map (·.2) = [assign (.Subscript o i p) X.env] := by rfl) : QS X (.Assign [.Subscript o i p] e pos) (sSub mo mi m) := qs_of (ps_asg h (pg_sub ho hi set_list ha) hs hw h1) fun ρ S G σ H D sm re z => by
  refine ⟨ρ, S, G, sm, re, (satS.bind z).imp fun v H1 w => ?_⟩
  obtain ⟨y, S1, G1, le1, sm1, r1, q1⟩ := w
  refine ⟨ρ, S1, G1, sm1, re.mono le1.le, (satS.bind q1).imp fun v2 H2 w => ?_⟩
  obtain ⟨x, S2, G2, le2, sm2, r2, q2⟩ := w
  refine ⟨ρ, S2, G2, sm2, (re.mono le1.le).mono le2.le, (satS.bind q2).imp fun v3 H3 w => ?_⟩
  obtain ⟨k, S3, G3, le3, sm3, r3, q3⟩ := w
  split at q3
  · cases r3
    split at q3
    · rename_i xs hl
      split at q3
      · rename_i j hj
        obtain ⟨a, vs, rfl, hf, ha', rr⟩ := sm3.list hl (r2.mono le3.le)
        refine ⟨a, vs, _, j, rfl, rfl, ha', by rw [rr.length]; exact hj, ?_⟩
        exact q3 G3 _ σ (Stp.write hf) (sm3.write hl (by simp) hf ⟨_, upd_same, rr.set j ((r1.mono le2.le).mono le3.le)⟩) (((re.mono le1.le).mono le2.le).mono le3.le)
      · exact q3.elim
    · exact q3.elim
  · exact q3.elim
end
/-! ### methods of lists -/
def appG (x : D) (ds : List D) (S : Sto) : Out D := match x, ds with
  | .loc n, [y] => match S[n]? with
    | some (.lst xs) => if xs.length ≤ 1000 then .ok .non (S.set n (.lst (xs ++ [y]))) else .no
    | _ => .no
  | _, _ => .no
def extG (x : D) (ds : List D) (S : Sto) : Out D := match x, ds with
  | .loc n, [.lst ys] => match S[n]? with
    | some (.lst xs) => if xs.length + ys.length ≤ 1000 then .ok .non (S.set n (.lst (xs ++ ys))) else .no
    | _ => .no
  | _, _ => .no
def mth (g : D → List D → Sto → Out D) (o : ME) (ms : MA) : ME := fun ρ S => (o ρ S).bind fun x S1 => (ms ρ S1).bind fun ds S2 => g x ds S2
section
variable {X : Cx} {o e : Expr} {es : List Expr} {mo : ME} {ms : MA} {apos cpos : Pos}
def MtF (X : Cx) (id : String) (g : D → List D → Sto → Out D) : Prop := MtR X id (fun v vs H Q => ∃ x ds S G, Sm X.K G S H ∧ Rp X.K G x v ∧ Rps X.K G ds vs ∧ sat X (Rp X.K) G H (g x ds S) Q)
theorem mf_append : MtF X "list.append" appG := fun pins s σ H v vs u us Q I rv rs ⟨x, ds, S, G, sm, rx, rd, h⟩ => by
  unfold appG at h
  split at h
  · split at h
    · rename_i n y xs hl
      split at h
      · rename_i hz
        obtain ⟨a, ws, rfl, hf, ha, rr⟩ := sm.list hl rx
        obtain ⟨z, rfl, rz⟩ := vals1 rd
        refine mt_append pins s σ H _ _ u us Q I rv rs ⟨a, ws, z, rfl, rfl, ha, by rw [rr.length, sizeLine_eq]; omega, ?_⟩
        exact h G _ _ (Stp.write hf) (sm.write hl (by simp) hf ⟨_, upd_same, rr.append (.cons rz .nil)⟩) .non
      · exact h.elim
    · exact h.elim
  · exact h.elim
theorem mf_extend : MtF X "list.extend" extG := fun pins s σ H v vs u us Q I rv rs ⟨x, ds, S, G, sm, rx, rd, h⟩ => by
  unfold extG at h
  split at h
  · split at h
    · rename_i n y xs hl
      split at h
      · rename_i hz
        obtain ⟨a, ws, rfl, hf, ha, rr⟩ := sm.list hl rx
        obtain ⟨z, rfl, rz⟩ := vals1 rd
        cases rz with
        | lst h1 r1 =>
          refine mt_extend pins s σ H _ _ u us Q I rv rs ⟨a, _, ws, _, rfl, rfl, ha, sm.fr _ _ h1, by rw [rr.length, r1.length, sizeLine_eq]; omega, ?_⟩
          exact h G _ _ (Stp.write hf) (sm.write hl (by simp) hf ⟨_, upd_same, rr.append r1⟩) .non
      · exact h.elim
    · exact h.elim
  · exact h.elim
/-- o.m(..) of a list that may be written -/
def isLoc (S : Sto) : D → Bool
  | .loc n => match S[n]? with
    | some (.lst _) => true
    | _ => false
  | _ => false
def mthL (g : D → List D → Sto → Out D) (o : ME) (ms : MA) : ME := fun ρ S => (o ρ S).bind fun x S1 => if isLoc S1 x = true then (ms ρ S1).bind fun ds S2 => g x ds S2 else .no
theorem qe_mthL {id : String} {name : Str} {g : D → List D → Sto → Out D} (slot : Slot "list" name id) (hty : typeOf (.builtin id) = pure (.type "method_descriptor")) (hm : MtF X id g) (ho : QE X o mo) (ha : QA X (e :: es) ms)
    (hbase : attributeBase o name X.env (eval o X.env) = eval o X.env := by rfl)
    (hfew : ((backTo cpos (starEach (e :: es) X.env)).all (fun x => !x.1) && (backToKw cpos (keywordEach [] X.env)).all (fun x => x.1.isSome) && decide ((e :: es).length + ([] : List Keyword).length + (if ([] : List Keyword).isEmpty then 0 else 1) < 30)) = true := by rfl)
    (hline : (apos.endLine == cpos.line) = true := by rfl) (hs : starEach (e :: es) X.env = (false, eval e X.env) :: starEach es X.env := by rfl) (hplain : (backTo cpos (starEach es X.env)).any (·.1) = false := by rfl) :
    QE X (.Call (.Attribute o name apos) (e :: es) [] cpos) (mthL g mo ms) := qe_of (pe_bm PySem.F.plainAttrs_list slot hty hm ho ha hbase hfew hline hs hplain) fun ρ S G σ H Q sm re h => by
  refine ⟨ρ, S, G, sm, re, (sat.bind h).imp fun v H1 w => ?_⟩
  obtain ⟨x, S1, G1, le1, sm1, r1, q1⟩ := w
  split at q1
  · rename_i hl
    match x, hl with
    | .loc n, hl =>
      have hl : (match S1[n]? with | some (.lst _) => true | _ => false) = true := hl
      match hn : S1[n]?, hl with
      | some (.lst xs), hl =>
        obtain ⟨a, vs, rfl, hf, ha', rr⟩ := sm1.list hn r1
        refine ⟨.inl ⟨rfl, _, SqL.of ha'⟩, ρ, S1, G1, sm1, re.mono le1.le, (sat.bind q1).imp fun us H2 w => ?_⟩
        obtain ⟨ds, S2, G2, le2, sm2, r2, q2⟩ := w
        exact ⟨.loc n, ds, S2, G2, sm2, r1.mono le2.le, r2, q2⟩
      | some (.ins _ _), hl => simp [hn] at hl
      | some .dead, hl => simp [hn] at hl
      | none, hl => simp [hn] at hl
  · exact q1.elim
end
/-! ### methods of texts -/
def isStr : D → Bool
  | .str _ => true
  | _ => false
def mthS (g : D → D → Sto → Out D) (o m : ME) : ME := fun ρ S => (o ρ S).bind fun x S1 => if isStr x = true then (m ρ S1).bind fun y S2 => g x y S2 else .no
def joinG : G2 := fun x y S => match x with
  | .str a => match y with
    | .lst ys => match asStrs ys with
      | some zs => if (zs.map (·.length)).sum + zs.length * a.length ≤ 16777216 then .ok (.str (Txt.join a zs)) S else .no
      | none => .no
    | .tup ys => match asStrs ys with
      | some zs => if (zs.map (·.length)).sum + zs.length * a.length ≤ 16777216 then .ok (.str (Txt.join a zs)) S else .no
      | none => .no
    | .loc n => match S[n]? with
      | some (.lst ys) => match asStrs ys with
        | some zs => if (zs.map (·.length)).sum + zs.length * a.length ≤ 16777216 then .ok (.str (Txt.join a zs)) S else .no
        | none => .no
      | _ => .no
    | _ => .no
  | _ => .no
def splitG : G2 := fun x y S => match x, y with
  | .str a, .str b => if (b.length == 0) = false ∧ a.length + 2 ≤ sizeLine then .ok (.lst ((Txt.split a b).map .str)) S else .no
  | _, _ => .no
theorem Rps.strs {K : PySem.W.Frag} {G : Gh} : ∀ ys : List Str, Rps K G (ys.map .str) (ys.map V.str)
  | [] => .nil
  | y :: ys => .cons (.str y) (Rps.strs ys)
theorem Rps.ints {K : PySem.W.Frag} {G : Gh} : ∀ ys : List Int, Rps K G (ys.map .int) (ys.map V.int)
  | [] => .nil
  | y :: ys => .cons (.int y) (Rps.ints ys)
section
variable {X : Cx} {o e : Expr} {mo m : ME} {apos pos : Pos}
def Mt1 (X : Cx) (id : String) (g : G2) : Prop := MtR X id (fun v vs H Q => ∃ x y w S G, Sm X.K G S H ∧ Rp X.K G x v ∧ vs = [w] ∧ Rp X.K G y w ∧ sat X (Rp X.K) G H (g x y S) Q)
theorem qe_mthS {id : String} {name : Str} {g : G2} (slot : Slot "str" name id) (ty : typeOf (.builtin id) = pure (.type "method_descriptor")) (rule : Mt1 X id g) (ho : QE X o mo) (he : QE X e m)
    (hs : starEach [e] X.env = [(false, eval e X.env)] := by rfl) (hbase : attributeBase o name X.env (eval o X.env) = eval o X.env := by rfl) (hline : (apos.endLine == pos.line) = true := by rfl) :
    QE X (.Call (.Attribute o name apos) [e] [] pos) (mthS g mo m) := qe_of (pe_m1 slot ty rule ho he hs hbase hline) fun ρ S G σ H Q sm re h => by
  refine ⟨ρ, S, G, sm, re, (sat.bind h).imp fun v H1 w => ?_⟩
  obtain ⟨x, S1, G1, le1, sm1, r1, q1⟩ := w
  split at q1
  · rename_i hl
    cases r1 with
    | str z =>
      refine ⟨⟨z, rfl⟩, ρ, S1, G1, sm1, re.mono le1.le, (sat.bind q1).imp fun u H2 w => ?_⟩
      obtain ⟨y, S2, G2, le2, sm2, r2, q2⟩ := w
      exact ⟨.str z, y, u, S2, G2, sm2, .str z, rfl, r2, q2⟩
    | _ => cases hl
  · exact q1.elim
theorem mf_join : Mt1 X "str.join" joinG := fun pins s σ H v vs u us Q I rv rs ⟨x, y, w, S, G, sm, rx, ev, ry, h⟩ => by
  subst ev
  unfold joinG at h
  split at h
  · cases rx
    split at h
    · split at h
      · rename_i zs hz
        split at h
        · rename_i hc
          cases ry with
          | lst h1 r1 =>
            rw [asStrs_rp hz r1] at h1
            exact mt_join pins s σ H _ _ u us Q I rv rs ⟨_, _, zs, rfl, rfl, .inl (SqL.of (sm.fr _ _ h1)), hc, h G H _ .refl sm (.str _)⟩
        · exact h.elim
      · exact h.elim
    · split at h
      · rename_i zs hz
        split at h
        · rename_i hc
          cases ry with
          | tup h1 r1 =>
            rw [asStrs_rp hz r1] at h1
            exact mt_join pins s σ H _ _ u us Q I rv rs ⟨_, _, zs, rfl, rfl, .inr (SqT.mono h1 sm.fr), hc, h G H _ .refl sm (.str _)⟩
        · exact h.elim
      · exact h.elim
    · split at h
      · rename_i n ys hl
        split at h
        · rename_i zs hz
          split at h
          · rename_i hc
            obtain ⟨a, ws, rfl, hf, ha, rr⟩ := sm.list hl ry
            rw [asStrs_rp hz rr] at ha
            exact mt_join pins s σ H _ _ u us Q I rv rs ⟨_, _, zs, rfl, rfl, .inl (SqL.of ha), hc, h G H _ .refl sm (.str _)⟩
          · exact h.elim
        · exact h.elim
      · exact h.elim
    · exact h.elim
  · exact h.elim
theorem mf_split : Mt1 X "str.split" splitG := fun pins s σ H v vs u us Q I rv rs ⟨x, y, w, S, G, sm, rx, ev, ry, h⟩ => by
  subst ev
  unfold splitG at h
  split at h
  · split at h
    · rename_i hc
      cases rx; cases ry
      exact mt_split pins s σ H _ _ u us Q I rv rs ⟨_, _, rfl, rfl, hc.1, hc.2, fun p hp => new_lst sm hp (Rps.strs _) h⟩
    · exact h.elim
  · exact h.elim
theorem qe_join (ho : QE X o mo) (he : QE X e m) (hs : starEach [e] X.env = [(false, eval e X.env)] := by rfl) (hbase : attributeBase o "join" X.env (eval o X.env) = eval o X.env := by rfl) (hline : (apos.endLine == pos.line) = true := by rfl) :
    QE X (.Call (.Attribute o "join" apos) [e] [] pos) (mthS joinG mo m) := qe_mthS F.slot_str_join F.type_str_join mf_join ho he hs hbase hline
theorem qe_split (ho : QE X o mo) (he : QE X e m) (hs : starEach [e] X.env = [(false, eval e X.env)] := by rfl) (hbase : attributeBase o "split" X.env (eval o X.env) = eval o X.env := by rfl) (hline : (apos.endLine == pos.line) = true := by rfl) :
    QE X (.Call (.Attribute o "split" apos) [e] [] pos) (mthS splitG mo m) := qe_mthS F.slot_str_split F.type_str_split mf_split ho he hs hbase hline
end
/-! ### x op= e -/
def sAug (i : Nat) (g : G2) (m : ME) : MS := fun ρ S => match ρ[i]? with
  | some (some x) => (m ρ S).bind fun y S1 => (g x y S1).bind fun z S2 => .ok (.nx (ρ.set i (some z))) S2
  | _ => .no
def IpF (X : Cx) (op : Operator) (g : G2) : Prop := PIp X op (fun v w H Q => ∃ x y S G, Sm X.K G S H ∧ Rp X.K G x v ∧ Rp X.K G y w ∧ sat X (Rp X.K) G H (g x y S) Q)
section
variable {X : Cx} {e : Expr} {m : ME} {pos : Pos}
theorem qs_aug (i : Nat) {x : Str} {op : Operator} {g : G2} {pos' : Pos} (ho : IpF X op g) (h : QE X e m) (hN : X.N.Nodup) (hi : X.N[i]? = some x := by rfl) (hx : Loc X.env.scope x := by first | exact .inl rfl | exact .inr rfl) (hf : X.fn x = true ∨ X.env.scope.names.lookup x = some .local := by first | exact .inl rfl | exact .inr rfl) :
    QS X (.AugAssign (.Name x pos') op e pos) (sAug i g m) := qs_of (ps_aug (i := i) hN hi hx h ho hf) fun ρ S G σ H D sm re z => by
  unfold sAug at z
  match hr : ρ[i]?, z with
  | some (some d), z =>
    obtain ⟨v, h1, h2⟩ := re.get hr
    refine ⟨v, h1, ρ, S, G, sm, re, (satS.bind z).imp fun w H1 k => ?_⟩
    obtain ⟨y, S1, G1, le1, sm1, r1, q1⟩ := k
    refine ⟨d, y, S1, G1, sm1, h2.mono le1.le, r1, (satS.bind q1).imp fun u H2 k => ?_⟩
    obtain ⟨t, S2, G2, le2, sm2, r2, q2⟩ := k
    exact q2 G2 H2 _ .refl sm2 (((re.mono le1.le).mono le2.le).set i r2)
  | some none, z => exact z.elim
  | none, z => exact z.elim
def addI : G2 := fun x y S => match x, y with
  | .int i, .int j => .ok (.int (i + j)) S
  | _, _ => .no
theorem if_add : IpF X .Add addI := fun pins s σ H v w u u' Q I rv rw' ⟨x, y, S, G, sm, rx, ry, h⟩ => by
  unfold addI at h
  split at h
  · cases rx; cases ry; exact iop_add pins s σ H _ _ u u' Q I rv rw' ⟨_, _, rfl, rfl, h G H _ .refl sm (.int _)⟩
  · exact h.elim
end
end PV
set_option Elab.async false
set_option linter.all false
set_option maxRecDepth 100000
set_option maxHeartbeats 4000000
namespace ZL
open PySem PySem.Spec PyProof.Rows L2
theorem int_mul_inst (a : Int) (t : Tok) (l C dx : Addr) :
    Meets (Builtin.«int.__mul__» ⟨[.int a t, .ref l], []⟩) (fun _ R s => s.heap.get? l = some (PySem.W.instObj C dx) ∧ R (.ok (.ret Value.notImplemented)) s) :=
  .of_wp fun prog w A R s h => by obtain ⟨hp, g, d, tk, os⟩ := s; obtain ⟨hl, h⟩ := h; wp_walk; exact ⟨_, rfl, h⟩
theorem int_add_inst (a : Int) (t : Tok) (l C dx : Addr) :
    Meets (Builtin.«int.__add__» ⟨[.int a t, .ref l], []⟩) (fun _ R s => s.heap.get? l = some (PySem.W.instObj C dx) ∧ R (.ok (.ret Value.notImplemented)) s) :=
  .of_wp fun prog w A R s h => by obtain ⟨hp, g, d, tk, os⟩ := s; obtain ⟨hl, h⟩ := h; wp_walk; exact ⟨_, rfl, h⟩
theorem int_sub_inst (a : Int) (t : Tok) (l C dx : Addr) :
    Meets (Builtin.«int.__sub__» ⟨[.int a t, .ref l], []⟩) (fun _ R s => s.heap.get? l = some (PySem.W.instObj C dx) ∧ R (.ok (.ret Value.notImplemented)) s) :=
  .of_wp fun prog w A R s h => by obtain ⟨hp, g, d, tk, os⟩ := s; obtain ⟨hl, h⟩ := h; wp_walk; exact ⟨_, rfl, h⟩
theorem int_floordiv_inst (a : Int) (t : Tok) (l C dx : Addr) :
    Meets (Builtin.«int.__floordiv__» ⟨[.int a t, .ref l], []⟩) (fun _ R s => s.heap.get? l = some (PySem.W.instObj C dx) ∧ R (.ok (.ret Value.notImplemented)) s) :=
  .of_wp fun prog w A R s h => by obtain ⟨hp, g, d, tk, os⟩ := s; obtain ⟨hl, h⟩ := h; wp_walk; exact ⟨_, rfl, h⟩
theorem int_mod_inst (a : Int) (t : Tok) (l C dx : Addr) :
    Meets (Builtin.«int.__mod__» ⟨[.int a t, .ref l], []⟩) (fun _ R s => s.heap.get? l = some (PySem.W.instObj C dx) ∧ R (.ok (.ret Value.notImplemented)) s) :=
  .of_wp fun prog w A R s h => by obtain ⟨hp, g, d, tk, os⟩ := s; obtain ⟨hl, h⟩ := h; wp_walk; exact ⟨_, rfl, h⟩
section
open PySem.W
variable {prog : Program} {w : World} {A : Around} {E : Value → Shared → Prop} {s : Shared} {K : Frag} {x C f dx : Addr} {od : Option Obj} {nm id : String} {B : Builtin} {i : Int} {t : Tok} {Q : Value → Shared → Prop}
theorem try_ni (slot : Slot "int" (PySem.dunder nm) id) (entry : entryFor table id = some B) (args : argsOk id ⟨[.int i t, .ref x], []⟩) (ni : Meets (B ⟨[.int i t, .ref x], []⟩) (fun _ R s => s.heap.get? x = some (instObj C dx) ∧ R (.ok (.ret .notImplemented)) s))
    (hx : s.heap.get? x = some (instObj C dx)) {Q : Option Value → Shared → Prop} (h : Q none s) : wpAny (model prog w) A (tryMethod (.int i t) (PySem.dunder nm) (.ref x)) Q E s := by
  unfold tryMethod
  refine wpAny_bind (wpAny_callSpecial?_slot (typeIs_int s i t) slot (call_meets slot (typeIs_int s i t) entry args ni ⟨hx, ?_⟩))
  exact wpAny_pure h
/-- an int op x, by x's own reflected method -/
theorem rbin1 (slot : Slot "int" (PySem.dunder nm) id) (entry : entryFor table id = some B) (args : argsOk id ⟨[.int i t, .ref x], []⟩) (ni : Meets (B ⟨[.int i t, .ref x], []⟩) (fun _ R s => s.heap.get? x = some (instObj C dx) ∧ R (.ok (.ret .notImplemented)) s))
    (fills : fillsNumberSlot (.type "int") nm = pure true) (X : K.In s.heap) (I : InstAt s.heap x (instObj C dx) C od) (hx : s.heap.get? x = some (instObj C dx)) (L4 : Looks (model prog w) s.heap (fillsNumberSlot (.ref C) nm) true)
    (hs : findIn K (.ref C) (dunderR nm) = some (some (.ref f))) (hf : isFn K (.ref f) = true) (hsub : subIn K (.ref C) (.type "int") = some false)
    (h : wpAny (model prog w) A (call (.ref f) [.ref x, .int i t]) (PySem.W.CmpBack Q) E s) : wpAny (model prog w) A (binaryOp1 nm (.int i t) (.ref x)) (fun r s' => ∃ v, r = some v ∧ Q v s') E s := by
  have one := ksp_try X I hs hf h
  have L1 : Looks (model prog w) s.heap (typeOf (.int i t)) (.type "int") := Looks.of_pure rfl
  have L2 : Looks (model prog w) s.heap (typeOf (.ref x)) (.ref C) := I.type
  have L3 : Looks (model prog w) s.heap (fillsNumberSlot (.type "int") nm) true := Looks.of_pure fills
  have L5 : Looks (model prog w) s.heap (isSubtype (.ref C) (.type "int")) false := looks_subIn X hsub
  have L6 : Looks (model prog w) s.heap (numberSlotInPython (.type "int") nm) false := Looks.of_pure rfl
  have hne : (Value.type "int" == Value.ref C) = false := Bool.eq_false_iff.mpr fun q => by cases beq_iff_eq.mp q
  have ni' : ∀ {Q : Option Value → Shared → Prop}, Q none s → wpAny (model prog w) A (tryMethod (.int i t) (PySem.dunder nm) (.ref x)) Q E s := fun hq => try_ni slot entry args ni hx hq
  obtain ⟨hh, g, d, tt, os⟩ := s
  unfold binaryOp1
  refine wpAny_bind (L1.at (wpAny_bind (L2.at (wpAny_bind (L3.at ?_)))))
  simp only [hne, Bool.false_eq_true, if_false]
  ksp_lk
  refine ni' ?_
  ksp_lk
  refine wpAny_mono one (fun r s' hr' => ?_) fun _ _ e => e
  obtain ⟨v, rfl, hq⟩ := hr'
  ksp_lk
  exact ⟨v, rfl, hq⟩
theorem after1 {op : Operator} {a b : Value} (h : wpAny (model prog w) A (binaryOp1 op.info.2 a b) (fun r s' => ∃ v, r = some v ∧ Q v s') E s) : wpAny (model prog w) A (binaryOp op a b) Q E s := by
  rcases hi : op.info with ⟨sym, nm'⟩
  rw [hi] at h
  simp only [binaryOp, hi]
  refine wpAny_holding (wpAny_bind (wpAny_mono h (fun r s' z => ?_) fun _ _ e => e))
  obtain ⟨v, rfl, hq⟩ := z
  exact wpAny_pure hq
/-- the same for a type of the text: x op y of one class, x op an int -/
theorem bin1S {b : Value} {cd : ClassData} {rest : List Value} {ox : Obj} (X : K.In s.heap) (I : InstAt s.heap x ox C od) (hb : Looks (model prog w) s.heap (typeOf b) (.ref C)) (hcd : clsIn K C = some cd) (hm : cd.mro = .ref C :: rest)
    (hs : findIn K (.ref C) (PySem.dunder nm) = some (some (.ref f))) (hf : isFn K (.ref f) = true) (h : wpAny (model prog w) A (call (.ref f) [.ref x, b]) (PySem.W.CmpBack Q) E s) :
    wpAny (model prog w) A (binaryOp1 nm (.ref x) b) (fun r s' => ∃ v, r = some v ∧ Q v s') E s := by
  have one := ksp_try X I hs hf h
  have L3 : Looks (model prog w) s.heap (fillsNumberSlot (.ref C) nm) true := fills_K X hcd hm hs
  have L1 := I.type (M := model prog w)
  obtain ⟨hh, g, d, tt, os⟩ := s
  unfold binaryOp1
  refine wpAny_bind (L1.at (wpAny_bind (hb.at (wpAny_bind (L3.at ?_)))))
  simp only [beq_self_eq_true, if_true]
  ksp_lk
  refine wpAny_mono one (fun r s' hr' => ?_) fun _ _ e => e
  obtain ⟨v, rfl, hq⟩ := hr'
  ksp_lk
  exact ⟨v, rfl, hq⟩
theorem noInpl {M : Model} {h : Heap} {cd : ClassData} {add : Bool} (X : K.In h) (hcd : clsIn K C = some cd) (hm : cd.mro = [.ref C, .type "object"]) (h1 : findIn K (.ref C) (dunderI nm) = some none) (h2 : findIn K (.type "object") (dunderI nm) = some none) : Looks M h (fillsInplaceSlot (.ref C) nm add) false := by
  intro A Q E s k q
  have Lm : Looks M h (mroOf (.ref C)) cd.mro := (looks_clsIn X hcd).andThen (f := fun cd => pure cd.mro) .now
  have Lm' := Lm.keeps k
  obtain ⟨hh, g, d, tt, os⟩ := s
  have X' : K.In hh := X.keeps k
  have L1 : Looks M hh (typeLookup (.ref C) (dunderI nm)) none := looks_findIn X' h1
  have L2 : Looks M hh (typeLookup (.type "object") (dunderI nm)) none := looks_findIn X' h2
  unfold fillsInplaceSlot
  refine wpAny_bind (Lm'.at ?_)
  rw [hm, List.anyM_cons]
  refine wpAny_bind ?_
  repeat lk
  exact q
/-- x op= y where the class has no method in place -/
theorem inpl {op : Operator} {b : Value} {cd : ClassData} {ox : Obj} (X : K.In s.heap) (I : InstAt s.heap x ox C od) (hcd : clsIn K C = some cd) (hm : cd.mro = [.ref C, .type "object"]) (h1 : findIn K (.ref C) (dunderI op.info.2) = some none) (h2 : findIn K (.type "object") (dunderI op.info.2) = some none)
    (h : wpAny (model prog w) A (binaryOp1 op.info.2 (.ref x) b) (fun r s' => ∃ v, r = some v ∧ Q v s') E s) : wpAny (model prog w) A (inplaceOp op (.ref x) b) Q E s := by
  have L1 : Looks (model prog w) s.heap (typeOf (.ref x)) (.ref C) := I.type
  have L2 : Looks (model prog w) s.heap (fillsInplaceSlot (.ref C) op.info.2 (op == .Add)) false := noInpl X hcd hm h1 h2
  obtain ⟨hh, g, d, tt, os⟩ := s
  unfold inplaceOp
  refine wpAny_holding (wpAny_bind (L1.at (wpAny_bind (L2.at ?_))))
  simp only [Bool.false_eq_true, if_false]
  refine wpAny_bind (wpAny_mono h (fun r s' z => ?_) fun _ _ e => e)
  obtain ⟨v, rfl, hq⟩ := z
  exact wpAny_pure hq
end
end ZL
set_option Elab.async false
set_option linter.all false
set_option maxRecDepth 100000
set_option maxHeartbeats 4000000
namespace ZL
open PySem PySem.Spec PyProof.Rows L2
section
open PySem.W
variable {prog : Program} {w : World} {A : Around} {E : Value → Shared → Prop} {s : Shared} {K : Frag} {x C f dx : Addr} {od : Option Obj} {nm id : String} {i : Int} {t : Tok} {Q : Value → Shared → Prop}
theorem bin1I {cd : ClassData} {rest : List Value} {ox : Obj} {rc ro : Option Value} (X : K.In s.heap) (I : InstAt s.heap x ox C od) (hcd : clsIn K C = some cd) (hm : cd.mro = .ref C :: rest)
    (hs : findIn K (.ref C) (PySem.dunder nm) = some (some (.ref f))) (hf : isFn K (.ref f) = true) (hr : findIn K (.ref C) (dunderR nm) = some rc) (hp : rc = none ∨ ∃ g : Addr, rc = some (.ref g))
    (fills : fillsNumberSlot (.type "int") nm = pure true) (h2 : findIn K (.type "int") (dunderR nm) = some ro) (hsub : subIn K (.type "int") (.ref C) = some false)
    (h : wpAny (model prog w) A (call (.ref f) [.ref x, .int i t]) (PySem.W.CmpBack Q) E s) : wpAny (model prog w) A (binaryOp1 nm (.ref x) (.int i t)) (fun r s' => ∃ v, r = some v ∧ Q v s') E s := by
  have one := ksp_try X I hs hf h
  have L3 : Looks (model prog w) s.heap (fillsNumberSlot (.ref C) nm) true := fills_K X hcd hm hs
  have L1 := I.type (M := model prog w)
  have L2 : Looks (model prog w) s.heap (typeOf (.int i t)) (.type "int") := Looks.of_pure rfl
  have L4 : Looks (model prog w) s.heap (fillsNumberSlot (.type "int") nm) true := Looks.of_pure fills
  have L5 : Looks (model prog w) s.heap (isSubtype (.type "int") (.ref C)) false := looks_subIn X hsub
  have L6 : Looks (model prog w) s.heap (numberSlotInPython (.ref C) nm) true := ksp_inPy X hs hr hp
  have L7 : Looks (model prog w) s.heap (numberSlotInPython (.type "int") nm) false := Looks.of_pure rfl
  have L8 : Looks (model prog w) s.heap (typeLookup (.type "int") (dunderR nm)) ro := looks_findIn X h2
  have hne : (Value.ref C == Value.type "int") = false := Bool.eq_false_iff.mpr fun q => by cases beq_iff_eq.mp q
  obtain ⟨hh, g, d, tt, os⟩ := s
  unfold binaryOp1
  refine wpAny_bind (L1.at (wpAny_bind (L2.at (wpAny_bind (L3.at ?_)))))
  simp only [hne, Bool.false_eq_true, if_false]
  ksp_lk
  refine wpAny_mono one (fun r s' hr' => ?_) fun _ _ e => e
  obtain ⟨v, rfl, hq⟩ := hr'
  ksp_lk
  exact ⟨v, rfl, hq⟩
end
section
open PySem.W (clsIn findIn subIn)
variable {X : Cx} {CX : CXT} {k : Nat} {f C : Addr} {sp : Sp} {E : XK} {pins : List (Addr × Obj)} {σ : L2.St} {H : Hp} {s : Shared}
def okV (v : V) : Prop := (∃ r, v = .ref r) ∨ ∃ n, v = .int n
theorem cmpBack_ok {Q : VK} {u : Value} {s' : Shared} (h : EP X pins σ (fun v H' => okV v ∧ Q v H') u s') : PySem.W.CmpBack (EP X pins σ Q) u s' := by
  obtain ⟨v, H', I', r, ⟨b, rfl⟩ | ⟨b, rfl⟩, q⟩ := h
  · cases r
    exact ⟨.ref b, H', I', rfl, q⟩
  · obtain ⟨t, rfl⟩ := r
    exact ⟨.int b, H', I', ⟨t, rfl⟩, q⟩
/-- a class of the text below object alone -/
def Plain (K : PySem.W.Frag) (C : Addr) : Prop := ∃ cd, clsIn K C = some cd ∧ cd.mro = [.ref C, .type "object"]
/-- an int op an instance -/
def rRBinI (C : Addr) (sp : Sp) (E : XK) : R2 := fun x y H Q => ∃ i b dy gs, x = .int i ∧ y = .ref b ∧ H b = some (.ins C dy gs) ∧ sp [y, x] H (fun v H' => okV v ∧ Q v H') E
theorem op_rbinI {op : Operator} {id : String} {B : Builtin} (slot : Slot "int" (PySem.dunder op.info.2) id) (entry : entryFor table id = some B) (args : ∀ a b, argsOk id ⟨[a, b], []⟩)
    (ni : ∀ a t l C dx, Meets (B ⟨[.int a t, .ref l], []⟩) (fun _ R s => s.heap.get? l = some (PySem.W.instObj C dx) ∧ R (.ok (.ret .notImplemented)) s)) (fills : fillsNumberSlot (.type "int") op.info.2 = pure true)
    (fC : ∀ h, X.K.In h → PySem.W.Looks (model X.prog X.w) h (fillsNumberSlot (.ref C) op.info.2) true) (o : Own X.K C (dunderR op.info.2) f) (hsub : subIn X.K (.ref C) (.type "int") = some false)
    (F : FnR X.prog X.w X.K X.mg X.base CX k f sp) (hr : Room k X.A) (hx : Passes CX X E) : OpR X (binaryOp op) (rRBinI C sp E) := by
  rintro pins s σ H x y v u Q I rx ry ⟨i, b, dy, gs, rfl, rfl, hb, q⟩
  cases ry
  have rx' := rx
  obtain ⟨t, rfl⟩ := rx'
  obtain ⟨od, J⟩ := inst_at I hb
  exact after1 (rbin1 slot entry (args _ _) (ni i t b C dy) fills I.kIn J J.at_ (fC _ I.kIn) o.at_ o.fn hsub (thn (run_at (vs := [.ref b, .int i]) F hr rfl hx I (.cons rfl (.cons rx .nil)) q) fun u s' z => cmpBack_ok z))
/-- x op= y of one class; x op= an int -/
def rBinOk (C : Addr) (sp : Sp) (E : XK) : V → V → Hp → VK → Prop := fun x y H Q => ∃ a b dx dy fs gs, x = .ref a ∧ y = .ref b ∧ H a = some (.ins C dx fs) ∧ H b = some (.ins C dy gs) ∧ sp [x, y] H (fun v H' => okV v ∧ Q v H') E
def rBinIk (C : Addr) (sp : Sp) (E : XK) : V → V → Hp → VK → Prop := fun x y H Q => ∃ a i dx fs, x = .ref a ∧ y = .int i ∧ H a = some (.ins C dx fs) ∧ sp [x, y] H (fun v H' => okV v ∧ Q v H') E
theorem ip_O {op : Operator} (pl : Plain X.K C) (n1 : findIn X.K (.ref C) (dunderI op.info.2) = some none) (n2 : findIn X.K (.type "object") (dunderI op.info.2) = some none) (o : Own X.K C (PySem.dunder op.info.2) f)
    (F : FnR X.prog X.w X.K X.mg X.base CX k f sp) (hr : Room k X.A) (hx : Passes CX X E) : PIp X op (rBinOk C sp E) := by
  rintro pins s σ H x y v u Q I rx ry ⟨a, b, dx, dy, fs, gs, rfl, rfl, ha, hb, q⟩
  cases rx
  cases ry
  obtain ⟨cd, hcd, hm⟩ := pl
  obtain ⟨od, J⟩ := inst_at I ha
  obtain ⟨od', J'⟩ := inst_at I hb
  exact inpl I.kIn J hcd hm n1 n2 (bin1S I.kIn J J'.type hcd hm o.at_ o.fn (thn (run_at (vs := [.ref a, .ref b]) F hr rfl hx I (.cons rfl (.cons rfl .nil)) q) fun u s' z => cmpBack_ok z))
theorem ip_I {op : Operator} {rc ro : Option Value} (pl : Plain X.K C) (n1 : findIn X.K (.ref C) (dunderI op.info.2) = some none) (n2 : findIn X.K (.type "object") (dunderI op.info.2) = some none) (o : Own X.K C (PySem.dunder op.info.2) f)
    (hR : findIn X.K (.ref C) (dunderR op.info.2) = some rc) (hp : rc = none ∨ ∃ g : Addr, rc = some (.ref g)) (fills : fillsNumberSlot (.type "int") op.info.2 = pure true) (h2 : findIn X.K (.type "int") (dunderR op.info.2) = some ro) (hsub : subIn X.K (.type "int") (.ref C) = some false)
    (F : FnR X.prog X.w X.K X.mg X.base CX k f sp) (hr : Room k X.A) (hx : Passes CX X E) : PIp X op (rBinIk C sp E) := by
  rintro pins s σ H x y v u Q I rx ry ⟨a, i, dx, fs, rfl, rfl, ha, q⟩
  cases rx
  have ry' := ry
  obtain ⟨t, rfl⟩ := ry'
  obtain ⟨cd, hcd, hm⟩ := pl
  obtain ⟨od, J⟩ := inst_at I ha
  exact inpl I.kIn J hcd hm n1 n2 (bin1I I.kIn J hcd hm o.at_ o.fn hR hp fills h2 hsub (thn (run_at (vs := [.ref a, .int i]) F hr rfl hx I (.cons rfl (.cons ry .nil)) q) fun u s' z => cmpBack_ok z))
end
end ZL
set_option Elab.async false
set_option linter.all false
set_option maxRecDepth 100000
set_option maxHeartbeats 4000000
namespace ZL
open PySem PySem.Spec PyProof.Rows L2
section
variable {M : Model} {A : Around} {E : Value → Shared → Prop} {s : Shared}
theorem evalArgs_two {f : Value} {x y : Bool × Sem Value} {rest : List (Bool × Sem Value)} {Q : Args → Shared → Prop}
    (h : wpAny M A (spliced (x :: y :: rest)) (fun vs s' => Q ⟨vs, []⟩ s') E s) : wpAny M A (evalArgs f true (x :: y :: rest) []) Q E s := by
  obtain ⟨b, x⟩ := x
  unfold evalArgs
  cases b with
  | true =>
    show wpAny M A (spliced ((true, x) :: y :: rest) >>= _) Q E s
    refine wpAny_bind (wpAny_mono h (fun vs s' h' => ?_) fun _ _ x => x)
    refine wpAny_holding ?_
    exact wpAny_bind (wpAny_pure (wpAny_bind (wpAny_pure (wpAny_pure h'))))
  | false =>
    show wpAny M A (spliced ((false, x) :: y :: rest) >>= _) Q E s
    refine wpAny_bind (wpAny_mono h (fun vs s' h' => ?_) fun _ _ x => x)
    refine wpAny_holding ?_
    exact wpAny_bind (wpAny_pure (wpAny_bind (wpAny_pure (wpAny_pure h'))))
end
section
variable {X : Cx} {CX : CXT} {k : Nat} {f C : Addr} {sp : Sp} {E : XK}
/-- C(*e, ..) of at least two arguments, the first of them starred -/
theorem pe_makeSN {x : Str} {e e2 : Expr} {es : List Expr} {t : TA} {p pos sp_ : Pos} {y : Bool × Sem Value} {ys : List (Bool × Sem Value)} (M : Mk X.K C f) (F : FnR X.prog X.w X.K X.mg X.base CX k f sp) (hr : Room (k + 1) X.A) (hg : Gl X x) (hm : X.mg x = some (.ref C)) (hx : Passes CX X E) (ha : PA X (.Starred e sp_ :: e2 :: es) t)
    (hst : backTo pos (starEach (.Starred e sp_ :: e2 :: es) X.env) = (true, (do let v ← eval e X.env; standAt pos; pure v)) :: y :: ys := by rfl) (hd : (x == ("__debug__" : Str)) = false := by decide) :
    PE X (.Call (.Name x p) (.Starred e sp_ :: e2 :: es) [] pos) (StX.tMakeR C sp E t) := by
  refine ⟨fun pins s σ H Q I h => ?_⟩
  refine wpAny_Call_Name_kw (ld_glob I hg hm ?_ hd)
  have z := ha.run pos pins s σ H _ I h
  rw [hst] at z ⊢
  refine PySem.W.ks_call (P := fun h => X.K.In h) rfl (PySem.W.keeps_K M.kp) (evalArgs_two (thn z fun us s1 ⟨vs, H1, I1, r, q⟩ => ⟨I1.kIn, ?_⟩))
  exact StX.run_makeR M F hr hx I1 r q
end
end ZL
set_option Elab.async false
set_option linter.all false
set_option maxRecDepth 100000
set_option maxHeartbeats 4000000
namespace PV
open PySem PySem.Spec PyProof.Rows L2 ZL
/-- the address of a class -/
abbrev gaS (K : PySem.W.Frag) (c : String) : Addr := He.ga K (Str.ofString c)
theorem spO.mono {K : PySem.W.Frag} {G G1 : Gh} {H H1 : Hp} {o : Out D} {Q : VK} {E : XK} (h : spO K G H o Q E) (st : Stp G H G1 H1) : spO K G1 H1 o Q E := by
  match o, h with
  | .ok _ _, h => exact fun G' H' v s => h G' H' v (st.trans s)
  | .ex _ _ _, h => exact fun cls dd H' w => h cls dd H' (w.anti st)
  | .no, h => exact h
theorem spO.imp {K : PySem.W.Frag} {G : Gh} {H : Hp} {o : Out D} {Q Q' : VK} {E : XK} (h : spO K G H o Q E) (i : ∀ v H', Q v H' → Q' v H') : spO K G H o Q' E := by
  match o, h with
  | .ok _ _, h => exact fun G' H' v s m r => i _ _ (h G' H' v s m r)
  | .ex _ _ _, h => exact h
  | .no, h => exact h
/-! ### defs with *rest -/
noncomputable def dfnV (np n : Nat) (b : MS) : Fn := fun ds S => if np ≤ ds.length ∧ ds.length ≤ 1000 then dfn (np + 1) n b (ds.take np ++ [.tup (ds.drop np)]) S else .no
section
variable {P : Program} {w : World} {K : PySem.W.Frag} {mg : Str → Option Value} {base : Heap} {x qual : Str} {st : Stmt} {kws : List (Str × V)} {f : Addr} {fd : FuncData} {N ps : List Str} {j : Nat} {b : MS}
theorem okFV {np n : Nat} {pv : Str} (F : FunD K x qual (defArgs st) (defBody st) (defScope st) [] kws f fd) (S : FnScope N (ps ++ [pv]) (defScope st)) (hn : ps.length = np) (hN : N.length = n)
    (hb : ∀ (kV doc pm : Value) (an : Option Addr) (cdv ct : Value) (us rest : List Value), us.length = ps.length → bindArgs (PySem.W.fnOf x qual (defArgs st) (defBody st) (defScope st) .none kV doc pm an cdv ct) ⟨us ++ rest, []⟩ = (newTuple rest >>= fun t => pure (ps.zip us ++ [(pv, t)])))
    (hbody : ∀ (cdv : Value) (A : Around) (outer : List Env) (s : Shared) (H : Hp) (E : XK), Room j (A.deeper (envOfC qual (defScope st) s.heap.objs.size f cdv)) →
      QSs (cxOf (L2.CX P w) P w K mg base N qual (defScope st) f cdv A outer s H E) (defBody st) b) : FnF P w K mg base (j + 1) f (dfnV np n b) := by
  obtain ⟨oc, od, dV, kV, doc, pm, an, cdv, ct, osl, e, lk, hcd, hD, -⟩ := F.ex
  have dN : dV = .none := by
    rcases hD with ⟨_, q⟩ | ⟨q, _⟩
    · exact q
    · exact absurd rfl q
  subst dN
  subst e
  have hn1 : (ps ++ [pv]).length = np + 1 := by simp [hn]
  have R := StX.fn_star (P := P) (w := w) (mg := mg) (base := base) (k := j) (sp := spF K (dfn (np + 1) n b)) lk hcd S StX.cxUp (hb kV doc pm an cdv ct) fun A outer s H vs Q E hr h =>
    ⟨_, hbody cdv A outer s H E hr, body_start rfl (takes_of rfl rfl rfl rfl) hn1 hN h⟩
  refine R.imp fun vs H Q E h => ?_
  obtain ⟨ds, S0, G, sm, r, h⟩ := h
  unfold dfnV at h
  by_cases c : np ≤ ds.length ∧ ds.length ≤ 1000
  · rw [if_pos c] at h
    refine ⟨vs.take np, vs.drop np, (List.take_append_drop ..).symm, ?_, ?_, fun p hp => ?_⟩
    · rw [List.length_take, r.length, hn]
      omega
    · rw [List.length_drop, r.length, sizeLine_eq]
      omega
    · have st := Stp.put (o := .tup (vs.drop np)) sm hp
      exact ⟨_, S0, _, sm.put hp, ((r.take np).mono st.le).append (.cons (.tup (SqT.of upd_same) ((r.drop np).mono st.le)) .nil), h.mono st⟩
  · rw [if_neg c] at h
    exact h.elim
end
/-! ### C(..) -/
theorem sat_gc {X : Cx} {G : Gh} {S : Sto} {H : Hp} {o : Out D} {Q : VK} (sm : Sm X.K G S H) (h : sat X (Rp X.K) G H (gcO S o) Q) : sat X (Rp X.K) G H o Q := by
  classical
  match o, h with
  | .ok d S', h =>
    intro G' H' v le sm' r
    by_cases c : d.und S.length = true ∧ Kept S S'
    · have e : gcO S (.ok d S') = .ok d (S'.take S.length) := if_pos c
      rw [e] at h
      exact h _ H' v (sm.cut_le le) (sm.cut sm' c.2) (r.cut c.1)
    · have e : gcO S (.ok d S') = .ok d S' := if_neg c
      rw [e] at h
      exact h G' H' v le sm' r
  | .ex x fs S', h =>
    by_cases c : belowf S.length fs = true ∧ Kept S S'
    · have e : gcO S (.ex x fs S') = .ex x fs (S'.take S.length) := if_pos c
      rw [e] at h
      exact Takes.imp h fun cls dd _ H' w => by
        obtain ⟨G', le, sm', r⟩ := w
        exact ⟨_, sm.cut_le le, sm.cut sm' c.2, r.cut c.1⟩
    · have e : gcO S (.ex x fs S') = .ex x fs S' := if_neg c
      rw [e] at h
      exact h
  | .no, h => exact h
/-- a new instance that is never written behind its __init__ -/
noncomputable def mkF (c : String) (F : Fn) : Fn := fun ds S => match F (.loc S.length :: ds) (S ++ [.ins c []]) with
  | .ok .non S2 => match S2[S.length]? with
    | some (.ins c' fs) => if c' = c then gcO S (.ok (.obj c fs) (S2.set S.length .dead)) else .no
    | _ => .no
  | .ex x fs S2 => gcO S (.ex x fs S2)
  | _ => .no
/-- one that may be written -/
noncomputable def mkM (c : String) (F : Fn) : Fn := fun ds S => match F (.loc S.length :: ds) (S ++ [.ins c []]) with
  | .ok .non S2 => .ok (.loc S.length) S2
  | .ex x fs S2 => gcO S (.ex x fs S2)
  | _ => .no
section
variable {X : Cx} {c : String} {F : Fn}
theorem new_ins {G : Gh} {S : Sto} {H : Hp} {x dx : Addr} (sm : Sm X.K G S H) (hx : H x = none) (hd : H dx = none) (ne : dx ≠ x) :
    Sm X.K (G.new S.length x) (S ++ [.ins c []]) (upd (upd H dx (.own x)) x (.ins (gaS X.K c) dx [])) ∧ Stp G H (G.new S.length x) (upd (upd H dx (.own x)) x (.ins (gaS X.K c) dx [])) := by
  have sm1 := sm.ext (Ext.upd (o := .own x) hd)
  have hx1 : upd H dx (.own x) x = none := by rw [upd_ne (Ne.symm ne)]; exact hx
  exact ⟨sm1.new hx1 ⟨dx, [], upd_same, .nil⟩, (Stp.ext (Ext.upd hd)).trans (Stp.cell sm1 hx1)⟩
theorem mk_rd {G : Gh} {S : Sto} {H : Hp} {ds : List D} {vs : List V} {Q : VK} (sm : Sm X.K G S H) (r : Rps X.K G ds vs) (h : sat X (Rp X.K) G H (mkF c F ds S) Q) (x dx : Addr) (hx : H x = none) (hd : H dx = none) (ne : dx ≠ x) :
    spF X.K F (V.ref x :: vs) (upd (upd H dx (.own x)) x (.ins (gaS X.K c) dx [])) (fun v H2 => v = .non ∧ Q (.ref x) H2) (Est X) := by
  obtain ⟨sm1, st1⟩ := new_ins (c := c) sm hx hd ne
  refine ⟨.loc S.length :: ds, _, _, sm1, .cons (.loc Gh.new_at) (r.mono st1.le), ?_⟩
  unfold mkF at h
  generalize F (.loc S.length :: ds) (S ++ [.ins c []]) = oF at h ⊢
  match oF, h with
  | .ok .non S2, h =>
    intro G2 H2 v st2 sm2 rv
    cases rv
    refine ⟨rfl, ?_⟩
    simp only at h
    split at h
    · rename_i c' fs hl
      split at h
      · rename_i hc
        subst hc
        have hf : G2.f S.length = some x := st2.le.2 _ _ Gh.new_at
        obtain ⟨hF0, dx', ws, ha, rf⟩ := sm2.addr hl (by simp) hf
        have z := sat_gc sm h
        have st3 := (st1.trans st2).trans (Stp.freeze (o := .ins (gaS X.K c') dx' ws) hf hF0)
        exact z _ H2 _ st3 (sm2.freeze hl (by simp) hf ha) (.obj upd_same (rf.mono (Gh.put_le hF0)))
      · exact h.elim
    · exact h.elim
  | .ex y fs S2, h =>
    have z := sat_sp (sat_gc sm h)
    exact fun cls dd H' w => z cls dd H' (w.anti st1)
  | .no, h => exact h.elim
  | .ok (.bl _) _, h => exact h.elim
  | .ok (.int _) _, h => exact h.elim
  | .ok (.str _) _, h => exact h.elim
  | .ok (.tup _) _, h => exact h.elim
  | .ok (.lst _) _, h => exact h.elim
  | .ok (.obj _ _) _, h => exact h.elim
  | .ok (.loc _) _, h => exact h.elim
  | .ok (.cls _) _, h => exact h.elim
  | .ok (.fnc _) _, h => exact h.elim
  | .ok (.ty _) _, h => exact h.elim
  | .ok (.src _) _, h => exact h.elim
  | .ok .dic0 _, h => exact h.elim
  | .ok (.hob _) _, h => exact h.elim
  | .ok (.exc _ _) _, h => exact h.elim
theorem mkM_rd {G : Gh} {S : Sto} {H : Hp} {ds : List D} {vs : List V} {Q : VK} (sm : Sm X.K G S H) (r : Rps X.K G ds vs) (h : sat X (Rp X.K) G H (mkM c F ds S) Q) (x dx : Addr) (hx : H x = none) (hd : H dx = none) (ne : dx ≠ x) :
    spF X.K F (V.ref x :: vs) (upd (upd H dx (.own x)) x (.ins (gaS X.K c) dx [])) (fun v H2 => v = .non ∧ Q (.ref x) H2) (Est X) := by
  obtain ⟨sm1, st1⟩ := new_ins (c := c) sm hx hd ne
  refine ⟨.loc S.length :: ds, _, _, sm1, .cons (.loc Gh.new_at) (r.mono st1.le), ?_⟩
  unfold mkM at h
  generalize F (.loc S.length :: ds) (S ++ [.ins c []]) = oF at h ⊢
  match oF, h with
  | .ok .non S2, h =>
    intro G2 H2 v st2 sm2 rv
    cases rv
    have hf : G2.f S.length = some x := st2.le.2 _ _ Gh.new_at
    exact ⟨rfl, h G2 H2 _ (st1.trans st2) sm2 (.loc hf)⟩
  | .ex y fs S2, h =>
    have z := sat_sp (sat_gc sm h)
    exact fun cls dd H' w => z cls dd H' (w.anti st1)
  | .no, h => exact h.elim
  | .ok (.bl _) _, h => exact h.elim
  | .ok (.int _) _, h => exact h.elim
  | .ok (.str _) _, h => exact h.elim
  | .ok (.tup _) _, h => exact h.elim
  | .ok (.lst _) _, h => exact h.elim
  | .ok (.obj _ _) _, h => exact h.elim
  | .ok (.loc _) _, h => exact h.elim
  | .ok (.cls _) _, h => exact h.elim
  | .ok (.fnc _) _, h => exact h.elim
  | .ok (.ty _) _, h => exact h.elim
  | .ok (.src _) _, h => exact h.elim
  | .ok .dic0 _, h => exact h.elim
  | .ok (.hob _) _, h => exact h.elim
  | .ok (.exc _ _) _, h => exact h.elim
end
section
variable {X : Cx} {c : String} {F : Fn} {j : Nat} {f : Addr} {e e2 : Expr} {es : List Expr} {ms : MA} {m : ME} {p pos sp_ : Pos}
/-- a class whose calls are told by g: C(..) with its __init__ -/
def MkRd (X : Cx) (c : String) (F g : Fn) : Prop := ∀ {G : Gh} {S : Sto} {H : Hp} {ds : List D} {vs : List V} {Q : VK}, Sm X.K G S H → Rps X.K G ds vs → sat X (Rp X.K) G H (g ds S) Q → ∀ (x dx : Addr), H x = none → H dx = none → dx ≠ x →
    spF X.K F (V.ref x :: vs) (upd (upd H dx (.own x)) x (.ins (gaS X.K c) dx [])) (fun v H2 => v = .non ∧ Q (.ref x) H2) (Est X)
theorem mk_frozen : MkRd X c F (mkF c F) := fun sm r h => mk_rd sm r h
theorem mk_open : MkRd X c F (mkM c F) := fun sm r h => mkM_rd sm r h
theorem qe_mk {g : Fn} (hg : MkRd X c F g) (M : Mk X.K (gaS X.K c) f) (Ff : FnF X.prog X.w X.K X.mg X.base j f F) (hr : Room (j + 1) X.A) (hm : X.mg (Str.ofString c) = some (.ref (gaS X.K c))) (ha : QA X (e :: es) ms) (hgl : Gl X (Str.ofString c) := by rfl) (hdb : (Str.ofString c == ("__debug__" : Str)) = false := by decide)
    (he : starEach (e :: es) X.env = (false, eval e X.env) :: starEach es X.env := by rfl) (hpl : (backTo pos (starEach es X.env)).any (·.1) = false := by rfl) : QE X (.Call (.Name (Str.ofString c) p) (e :: es) [] pos) (cal g ms) :=
  qe_of (StX.pe_makeR M Ff hr hgl hm passE ha hdb he hpl) fun ρ S G σ H Q sm re h => by
    refine ⟨ρ, S, G, sm, re, (sat.bind h).imp fun vs H1 w => ?_⟩
    obtain ⟨ds, S1, G1, le1, sm1, r1, q1⟩ := w
    exact hg sm1 r1 q1
theorem qe_mk0 {g : Fn} (hg : MkRd X c F g) (M : Mk X.K (gaS X.K c) f) (Ff : FnF X.prog X.w X.K X.mg X.base j f F) (hr : Room (j + 1) X.A) (hm : X.mg (Str.ofString c) = some (.ref (gaS X.K c))) (hgl : Gl X (Str.ofString c) := by rfl) (hdb : (Str.ofString c == ("__debug__" : Str)) = false := by decide) :
    QE X (.Call (.Name (Str.ofString c) p) [] [] pos) (cal g aNil) :=
  qe_of (pe_makeR0 M Ff hr hgl hm passE hdb) fun ρ S G σ H Q sm re h => hg sm .nil h
/-- C(*e) -/
def itemsF (g : Fn) (m : ME) : ME := fun ρ S => (m ρ S).bind fun d S1 => match d with
  | .lst xs => g xs S1
  | .tup xs => g xs S1
  | .loc n => match S1[n]? with
    | some (.lst xs) => g xs S1
    | _ => .no
  | _ => .no
theorem qe_mkS {g : Fn} (hg : MkRd X c F g) (M : Mk X.K (gaS X.K c) f) (Ff : FnF X.prog X.w X.K X.mg X.base j f F) (hr : Room (j + 1) X.A) (hm : X.mg (Str.ofString c) = some (.ref (gaS X.K c))) (h : QE X e m) (hgl : Gl X (Str.ofString c) := by rfl) (hdb : (Str.ofString c == ("__debug__" : Str)) = false := by decide)
    (hst : starEach [.Starred e sp_] X.env = [(true, eval e X.env)] := by rfl) : QE X (.Call (.Name (Str.ofString c) p) [.Starred e sp_] [] pos) (itemsF g m) :=
  qe_of (pe_makeS1 M Ff hr hgl hm passE h hdb hst) fun ρ S G σ H Q sm re h => by
    refine ⟨ρ, S, G, sm, re, (sat.bind h).imp fun v H1 w => ?_⟩
    obtain ⟨d, S1, G1, le1, sm1, r1, q1⟩ := w
    cases r1 with
    | lst a b => exact ⟨_, _, rfl, .inr (SqL.of (sm1.fr _ _ a)), hg sm1 b q1⟩
    | tup a b => exact ⟨_, _, rfl, .inl (SqT.mono a sm1.fr), hg sm1 b q1⟩
    | loc hf =>
      rename_i n a
      have q1 : sat X (Rp X.K) G1 H1 (match S1[n]? with | some (.lst xs) => g xs S1 | _ => .no) Q := q1
      match hn : S1[n]?, q1 with
      | some (.lst xs), q1 =>
        obtain ⟨a', h1, h2, ws, h3, h4⟩ := sm1.cel n _ hn (by intro z; cases z)
        rw [hf] at h1
        cases h1
        exact ⟨_, _, rfl, .inr (SqL.of h3), hg sm1 h4 q1⟩
      | some (.ins _ _), q1 => exact q1.elim
      | some .dead, q1 => exact q1.elim
      | none, q1 => exact q1.elim
    | _ => exact q1.elim
/-- arguments with stars -/
theorem qe_mkN {g : Fn} {y : Bool × Sem Value} {ys : List (Bool × Sem Value)} (hg : MkRd X c F g) (M : Mk X.K (gaS X.K c) f) (Ff : FnF X.prog X.w X.K X.mg X.base j f F) (hr : Room (j + 1) X.A) (hm : X.mg (Str.ofString c) = some (.ref (gaS X.K c))) (ha : QA X (.Starred e sp_ :: e2 :: es) ms)
    (hst : backTo pos (starEach (.Starred e sp_ :: e2 :: es) X.env) = (true, (do let v ← eval e X.env; standAt pos; pure v)) :: y :: ys := by rfl) (hgl : Gl X (Str.ofString c) := by rfl) (hdb : (Str.ofString c == ("__debug__" : Str)) = false := by decide) :
    QE X (.Call (.Name (Str.ofString c) p) (.Starred e sp_ :: e2 :: es) [] pos) (cal g ms) :=
  qe_of (pe_makeSN M Ff hr hgl hm passE ha hst hdb) fun ρ S G σ H Q sm re h => by
    refine ⟨ρ, S, G, sm, re, (sat.bind h).imp fun vs H1 w => ?_⟩
    obtain ⟨ds, S1, G1, le1, sm1, r1, q1⟩ := w
    exact hg sm1 r1 q1
end
/-! ### C.m(..) of a class -/
def cmE (c : String) (F : Fn) (o : ME) (ms : MA) : ME := fun ρ S => (o ρ S).bind fun x S1 => if isCl c x = true then (ms ρ S1).bind fun ds S2 => F (x :: ds) S2 else .no
section
variable {X : Cx} {c : String} {F : Fn} {j : Nat} {o e : Expr} {es : List Expr} {mo : ME} {ms : MA} {apos pos : Pos} {m : Str} {p g : Addr} {mc : Value} {pl : Sem Bool}
theorem isCl_rp {K : PySem.W.Frag} {G : Gh} {x : D} {v : V} (h : isCl c x = true) (r : Rp K G x v) : x = .cls c ∧ v = .ref (gaS K c) := by
  cases r <;> simp [isCl] at h
  subst h
  exact ⟨rfl, rfl⟩
theorem qe_cm (hrd : ClX.CRead X.K (gaS X.K c) mc) (hcm : ClX.CMet X.K (gaS X.K c) mc m p g) (Ff : FnF X.prog X.w X.K X.mg X.base j g F) (hr : Room j X.A) (ho : QE X o mo) (ha : QA X (e :: es) ms)
    (hst : starEach (e :: es) X.env = (false, eval e X.env) :: starEach es X.env := by rfl) (hpl : (backTo pos (starEach es X.env)).any (·.1) = false := by rfl)
    (ht : eval (.Call (.Attribute o m apos) (e :: es) [] pos) X.env = (do
      let ov ← eval o X.env
      standAt apos.atName
      let (f, first) ← holding [ov] (getMethod ov m pl)
      callWith pos f first (backTo pos (starEach (e :: es) X.env)) (backToKw pos (keywordEach [] X.env))) := by rfl) :
    QE X (.Call (.Attribute o m apos) (e :: es) [] pos) (cmE c F mo ms) :=
  qe_of (ClX.pe_cmeth ho hrd hcm Ff hr passE ha hst hpl ht) fun ρ S G σ H Q sm re h => by
    refine ⟨ρ, S, G, sm, re, (sat.bind h).imp fun v H1 w => ?_⟩
    obtain ⟨x, S1, G1, le1, sm1, r1, q1⟩ := w
    split at q1
    · rename_i hc
      obtain ⟨rfl, rfl⟩ := isCl_rp hc r1
      refine ⟨rfl, ρ, S1, G1, sm1, re.mono le1.le, (sat.bind q1).imp fun vs H2 w => ?_⟩
      obtain ⟨ds, S2, G2, le2, sm2, r2, q2⟩ := w
      exact ⟨.cls c :: ds, S2, G2, sm2, .cons (.cls c) r2, sat_sp q2⟩
    · exact q1.elim
/-! ### o.m(..) of an instance -/
def mtO (τ : List (String × Fn)) (n : String) (o : ME) (ms : MA) : ME := fun ρ S => (o ρ S).bind fun x S1 => match insOf S1 x with
  | some (c, fs) => match τ.lookup c with
    | some F => match fs.lookup n with
      | none => (ms ρ S1).bind fun ds S2 => F (x :: ds) S2
      | some _ => .no
    | none => .no
  | none => .no
/-- what is known of a method of some classes -/
def Mths (X : Cx) (j : Nat) (n : String) (τ : List (String × Fn)) : Prop := ∀ c F, τ.lookup c = some F → Cls X.K (gaS X.K c) ∧ ∃ f, Meth X.K (gaS X.K c) (Str.ofString n) f ∧ FnF X.prog X.w X.K X.mg X.base j f F
theorem qe_mt {n : String} {τ : List (String × Fn)} (hτ : Mths X j n τ) (hr : Room j X.A) (ho : QE X o mo) (ha : QA X (e :: es) ms)
    (hst : starEach (e :: es) X.env = (false, eval e X.env) :: starEach es X.env := by rfl) (hpl : (backTo pos (starEach es X.env)).any (·.1) = false := by rfl)
    (ht : eval (.Call (.Attribute o (Str.ofString n) apos) (e :: es) [] pos) X.env = (do
      let ov ← eval o X.env
      standAt apos.atName
      let (f, first) ← holding [ov] (getMethod ov (Str.ofString n) pl)
      callWith pos f first (backTo pos (starEach (e :: es) X.env)) (backToKw pos (keywordEach [] X.env))) := by rfl) :
    QE X (.Call (.Attribute o (Str.ofString n) apos) (e :: es) [] pos) (mtO τ n mo ms) := by
  refine ⟨fun pins s σ H Q I z => ?_⟩
  obtain ⟨ρ, S, G, sm, re, h⟩ := z
  refine PySem.W.methodCall_KW (pl := pl) (thn (ho.run pins s σ H _ I ⟨ρ, S, G, sm, re, sat.bind h⟩) fun u s1 k => ?_) ht
  obtain ⟨v, H1, I1, rv, x, S1, G1, le1, sm1, r1, q1⟩ := k
  split at q1
  · rename_i c fs hi
    split at q1
    · rename_i F hF
      split at q1
      · rename_i hl
        obtain ⟨a, dx, ws, rfl, hA, rf⟩ := sm1.ins hi r1
        obtain ⟨hcl, f, hmt, Ff⟩ := hτ c F hF
        obtain rfl : u = Value.ref a := rv
        refine getmeth_ok I1 hA hcl hmt (rf.gone hl) ?_
        refine PySem.W.callWith_K (first := [.ref a]) (h₀ := X.base) I.ok.mod.kin hmt.kp (thn (ha.run pos pins s1 σ H1 _ I1 ⟨ρ, S1, G1, sm1, re.mono le1.le, sat.bind q1⟩) fun us s2 w => ?_) hst hpl
        obtain ⟨vs, H2, I2, rs, ds, S2, G2, le2, sm2, r2, q2⟩ := w
        refine ⟨I2.kIn, wpAny_call (run_fnR (us := .ref a :: us) (vs := .ref a :: vs) Ff hr passE I2 (.cons rfl rs) ?_)⟩
        exact ⟨x :: ds, S2, G2, sm2, .cons (r1.mono le2.le) r2, sat_sp q2⟩
      · exact q1.elim
    · exact q1.elim
  · exact q1.elim
theorem qe_mt0 {n : String} {τ : List (String × Fn)} (hτ : Mths X j n τ) (hr : Room j X.A) (ho : QE X o mo)
    (ht : eval (.Call (.Attribute o (Str.ofString n) apos) [] [] pos) X.env = (do
      let ov ← eval o X.env
      standAt apos.atName
      let (f, first) ← holding [ov] (getMethod ov (Str.ofString n) pl)
      callWith pos f first (backTo pos (starEach [] X.env)) (backToKw pos (keywordEach [] X.env))) := by rfl) :
    QE X (.Call (.Attribute o (Str.ofString n) apos) [] [] pos) (mtO τ n mo aNil) := by
  refine ⟨fun pins s σ H Q I z => ?_⟩
  obtain ⟨ρ, S, G, sm, re, h⟩ := z
  refine PySem.W.methodCall_KW (pl := pl) (thn (ho.run pins s σ H _ I ⟨ρ, S, G, sm, re, sat.bind h⟩) fun u s1 k => ?_) ht
  obtain ⟨v, H1, I1, rv, x, S1, G1, le1, sm1, r1, q1⟩ := k
  split at q1
  · rename_i c fs hi
    split at q1
    · rename_i F hF
      split at q1
      · rename_i hl
        obtain ⟨a, dx, ws, rfl, hA, rf⟩ := sm1.ins hi r1
        obtain ⟨hcl, f, hmt, Ff⟩ := hτ c F hF
        obtain rfl : u = Value.ref a := rv
        refine getmeth_ok I1 hA hcl hmt (rf.gone hl) ?_
        refine PySem.W.callWith_K0 I1.kIn hmt.kp (wpAny_call (run_fnR (us := [.ref a]) (vs := [.ref a]) Ff hr passE I1 (.cons rfl .nil) ?_))
        exact ⟨[x], S1, G1, sm1, .cons r1 .nil, sat_sp q1⟩
      · exact q1.elim
    · exact q1.elim
  · exact q1.elim
end
end PV
set_option Elab.async false
set_option linter.all false
set_option maxRecDepth 100000
set_option maxHeartbeats 4000000
namespace PV
open PySem PySem.Spec PyProof.Rows L2 ZL
/-! ### starred arguments -/
def aStar (m : ME) (ms : MA) : MA := fun ρ S => (m ρ S).bind fun d S1 => match d with
  | .lst xs => (ms ρ S1).bind fun ds S2 => .ok (xs ++ ds) S2
  | .tup xs => (ms ρ S1).bind fun ds S2 => .ok (xs ++ ds) S2
  | .loc n => match S1[n]? with
    | some (.lst xs) => (ms ρ S1).bind fun ds S2 => .ok (xs ++ ds) S2
    | _ => .no
  | _ => .no
section
variable {X : Cx} {e : Expr} {es : List Expr} {m : ME} {ms : MA} {p pos : Pos}
theorem qa_star (h : QE X e m) (hs : QA X es ms) (hst : starEach (.Starred e p :: es) X.env = (true, eval e X.env) :: starEach es X.env := by rfl) : QA X (.Starred e p :: es) (aStar m ms) :=
  ⟨fun pos pins s σ H Q I z => (StX.pa_star h hs hst).run pos pins s σ H Q I (by
    obtain ⟨ρ, S, G, sm, re, q⟩ := z
    refine ⟨ρ, S, G, sm, re, (sat.bind q).imp fun x H1 w => ?_⟩
    obtain ⟨d, S1, G1, le1, sm1, r1, q1⟩ := w
    cases r1 with
    | lst a b =>
      refine ⟨_, _, rfl, .inr (SqL.of (sm1.fr _ _ a)), ρ, S1, G1, sm1, re.mono le1.le, (sat.bind q1).imp fun xs H2 w => ?_⟩
      obtain ⟨ds, S2, G2, le2, sm2, r2, q2⟩ := w
      exact q2 G2 H2 _ .refl sm2 ((b.mono le2.le).append r2)
    | tup a b =>
      refine ⟨_, _, rfl, .inl (SqT.mono a sm1.fr), ρ, S1, G1, sm1, re.mono le1.le, (sat.bind q1).imp fun xs H2 w => ?_⟩
      obtain ⟨ds, S2, G2, le2, sm2, r2, q2⟩ := w
      exact q2 G2 H2 _ .refl sm2 ((b.mono le2.le).append r2)
    | loc hf =>
      rename_i n a
      have q1 : sat X (Rps X.K) G1 H1 (match S1[n]? with | some (.lst xs) => (ms ρ S1).bind fun ds S2 => .ok (xs ++ ds) S2 | _ => .no) Q := q1
      match hn : S1[n]?, q1 with
      | some (.lst xs), q1 =>
        obtain ⟨_, vs, h1, b⟩ := sm1.addr hn (by simp) hf
        refine ⟨_, _, rfl, .inr (SqL.of h1), ρ, S1, G1, sm1, re.mono le1.le, (sat.bind q1).imp fun xs H2 w => ?_⟩
        obtain ⟨ds, S2, G2, le2, sm2, r2, q2⟩ := w
        exact q2 G2 H2 _ .refl sm2 ((b.mono le2.le).append r2)
      | some (.ins _ _), q1 => exact q1.elim
      | some .dead, q1 => exact q1.elim
      | none, q1 => exact q1.elim
    | _ => exact q1.elim)⟩
/-! ### x[::-1] -/
theorem qe_rev {k : Nat} {p1 p2 p3 : Pos} (h : QE X e m) : QE X (.Subscript e (.Slice none none (some (.UnaryOp .USub (.Constant (.int 1) k p1) p2)) p3) pos) (una revG m) := by
  have o : PE X (.Subscript e (.Slice none none (some (.UnaryOp .USub (.Constant (.int 1) k p1) p2)) p3) pos) (fun σ H Q => tRevL X.K (tE X m) σ H Q ∨ tRevT X.K (tE X m) σ H Q) :=
    ⟨fun pins s σ H Q I z => z.elim ((pe_revL h).run pins s σ H Q I) ((pe_revT h).run pins s σ H Q I)⟩
  refine qe_of o fun ρ S G σ H Q sm re z => ?_
  have z' : sat X (Rp X.K) G H ((m ρ S).bind fun x S1 => revG x S1) Q := z
  match em : m ρ S, z' with
  | .ex c fs S', q => exact .inl ⟨ρ, S, G, sm, re, by rw [em]; exact q⟩
  | .no, q => exact q.elim
  | .ok (.lst xs) S1, q => exact .inl ⟨ρ, S, G, sm, re, by
      rw [em]
      intro G' H' v st sm' r
      cases r with
      | lst a b => exact ⟨_, _, rfl, SqL.of (sm'.fr _ _ a), fun l hl => new_lst sm' hl b.rev (sat.mono q st)⟩⟩
  | .ok (.tup xs) S1, q => exact .inr ⟨ρ, S, G, sm, re, by
      rw [em]
      intro G' H' v st sm' r
      cases r with
      | tup a b => exact ⟨_, _, rfl, SqT.mono a sm'.fr, fun l hl => new_tup sm' hl b.rev (sat.mono q st)⟩⟩
  | .ok (.non) _, q => exact q.elim
  | .ok (.bl _) _, q => exact q.elim
  | .ok (.int _) _, q => exact q.elim
  | .ok (.str _) _, q => exact q.elim
  | .ok (.obj _ _) _, q => exact q.elim
  | .ok (.loc _) _, q => exact q.elim
  | .ok (.cls _) _, q => exact q.elim
  | .ok (.fnc _) _, q => exact q.elim
  | .ok (.ty _) _, q => exact q.elim
  | .ok (.src _) _, q => exact q.elim
  | .ok .dic0 _, q => exact q.elim
  | .ok (.hob _) _, q => exact q.elim
  | .ok (.exc _ _) _, q => exact q.elim
/-! ### {} -/
def dicE : ME := fun _ S => .ok .dic0 S
theorem qe_dic0 : QE X (.Dict [] [] pos) dicE := qe_of pe_dnewK fun ρ S G σ H Q sm re z => fun d hd => z _ _ _ (Stp.put sm hd) (sm.put hd) (.dic0 upd_same)
end
/-! ### own operators -/
/-- the kind of a value as the machine sees it -/
theorem looksTy {X : Cx} {pins : List (Addr × Obj)} {σ : L2.St} {H : Hp} {s : Shared} {G : Gh} {S : Sto} {d : D} {v : V} {u : Value} {t : Ty} (I : Inv X pins σ H s) (sm : Sm X.K G S H) (r : Rp X.K G d v) (rv : RelV v u) (e : tyD S d = some t) :
    PySem.W.Looks (model X.prog X.w) s.heap (typeOf u) (tyV' X.K t) := by
  have ofObj : ∀ {a : Addr} {o : Obj}, s.heap.get? a = some o → o.cls = tyV' X.K t → PySem.W.Looks (model X.prog X.w) s.heap (typeOf (.ref a)) (tyV' X.K t) := fun {a o} h c A Q E s' k q => wpAny_typeOf_ref (k _ _ h) (by rw [c]; exact q)
  have ofL : ∀ {a : Addr} {xs : List V}, H a = some (.lst xs) → t = .b "list" → PySem.W.Looks (model X.prog X.w) s.heap (typeOf (.ref a)) (tyV' X.K t) := fun {a xs} h c => by
    obtain ⟨_, its, n, _, h1⟩ := (show ObjOk X.prog X.w H s.heap a (.lst xs) from I.hok a _ h)
    exact ofObj h1 (by rw [c]; rfl)
  have ofI : ∀ {a dx : Addr} {c : String} {ws : List (Str × V)}, H a = some (.ins (gaS X.K c) dx ws) → t = .c c → PySem.W.Looks (model X.prog X.w) s.heap (typeOf (.ref a)) (tyV' X.K t) := fun {a dx c ws} h ec => by
    obtain ⟨od, J⟩ := inst_at I h
    rw [ec]
    exact J.type
  cases r with
  | non => cases rv; cases e; exact PySem.W.Looks.of_pure rfl
  | bl b => cases rv; cases e; exact PySem.W.Looks.of_pure rfl
  | int i => obtain ⟨t', rfl⟩ := rv; cases e; exact PySem.W.Looks.of_pure rfl
  | str x => obtain ⟨t', rfl⟩ := rv; cases e; exact PySem.W.Looks.of_pure rfl
  | tup h r =>
    cases rv
    cases e
    obtain ⟨its, _, ⟨o, h1, h2, _⟩, _⟩ := I.tuple (SqT.mono h sm.fr)
    exact ofObj h1 h2
  | lst h r => cases rv; cases e; exact ofL (sm.fr _ _ h) rfl
  | obj h r => cases rv; cases e; exact ofI (sm.fr _ _ h) rfl
  | @loc n a h =>
    cases rv
    unfold tyD at e
    simp only at e
    split at e
    · rename_i xs q
      cases e
      obtain ⟨_, vs, h1, _⟩ := sm.addr q (by simp) h
      exact ofL h1 rfl
    · rename_i c fs q
      cases e
      obtain ⟨_, dx, ws, h1, _⟩ := sm.addr q (by simp) h
      exact ofI h1 rfl
    · cases e
  | dic0 h =>
    cases rv
    cases e
    obtain ⟨_, _, vs, _, o, es, ep, h1, h2, _⟩ := (show ObjOk X.prog X.w H s.heap _ (.dK []) from I.hok _ _ (sm.fr _ _ h))
    exact ofObj h1 h2.1
  | @hob o a h =>
    cases rv
    cases o with
    | dK kvs =>
      cases e
      obtain ⟨_, _, vs, _, o, es, ep, h1, h2, _⟩ := (show ObjOk X.prog X.w H s.heap _ (.dK kvs) from I.hok _ _ (sm.fr _ _ h))
      exact ofObj h1 h2.1
    | _ => cases e
  | _ => cases e
/-- y may stand behind an instance -/
def okTy (cs : List String) : Ty → Bool
  | .b _ => true
  | .c n => cs.contains n
def onlyB (o : Out D) : Out D := o.bind fun d S => match d with
  | .bl b => .ok (.bl b) S
  | _ => .no
/-- x op y by an own method of x's class, else as g says -/
def cmpO (τ : List (String × Fn)) (cs : List String) (g : G2) : G2 := fun x y S => match insOf S x with
  | some (c, _) => match τ.lookup c with
    | some F => match tyD S y with
      | some t => if okTy cs t = true then onlyB (F [x, y] S) else .no
      | none => .no
    | none => .no
  | none => g x y S
theorem spO_onlyB {K : PySem.W.Frag} {X : Cx} {G : Gh} {H : Hp} {o : Out D} {Q : VK} (h : sat X (Rp X.K) G H (onlyB o) Q) : spO X.K G H o (fun v H' => (∃ b, v = .bl b) ∧ Q v H') (Est X) := by
  match o, h with
  | .ok (.bl b) S, h => exact fun G' H' v st sm r => by cases r; exact ⟨⟨b, rfl⟩, h G' H' _ st sm (.bl b)⟩
  | .ok .non _, h => exact h.elim
  | .ok (.int _) _, h => exact h.elim
  | .ok (.str _) _, h => exact h.elim
  | .ok (.tup _) _, h => exact h.elim
  | .ok (.lst _) _, h => exact h.elim
  | .ok (.obj _ _) _, h => exact h.elim
  | .ok (.loc _) _, h => exact h.elim
  | .ok (.cls _) _, h => exact h.elim
  | .ok (.fnc _) _, h => exact h.elim
  | .ok (.ty _) _, h => exact h.elim
  | .ok (.src _) _, h => exact h.elim
  | .ok .dic0 _, h => exact h.elim
  | .ok (.hob _) _, h => exact h.elim
  | .ok (.exc _ _) _, h => exact h.elim
  | .ex c fs S', h => exact fun cls dd H' w => ⟨G, H, c, fs, S', h, w⟩
  | .no, h => exact h.elim
/-- what is known of an own comparison of some classes -/
def Cmps (X : Cx) (j : Nat) (n : Str) (τ : List (String × Fn)) (cs : List String) : Prop := ∀ c F, τ.lookup c = some F → (∀ t, (∀ m, t = .b m → m ∈ six) → okTy cs t = true → PySem.W.notFirst X.K (gaS X.K c) (tyV' X.K t) = true) ∧ ∃ f, Own X.K (gaS X.K c) n f ∧ FnF X.prog X.w X.K X.mg X.base j f F
theorem of_cmpO {X : Cx} {j : Nat} {op : CmpOp} {τ : List (String × Fn)} {cs : List String} {g : G2} (hop : compareOp op = richCompare op) (hτ : Cmps X j (cmpInfo op).2.1 τ cs) (hr : Room j X.A) (hg : OpF X (compareOp op) g) : OpF X (compareOp op) (cmpO τ cs g) := fun pins s σ H v w u u' Q I rv rw' ⟨x, y, S, G, sm, rx, ry, h⟩ => by
  unfold cmpO at h
  split at h
  · rename_i c fs hi
    split at h
    · rename_i F hF
      split at h
      · rename_i t ht
        split at h
        · rename_i ho
          obtain ⟨a, dx, ws, rfl, hA, rf⟩ := sm.ins hi rx
          obtain ⟨hn, f, hown, Ff⟩ := hτ c F hF
          obtain rfl : u = Value.ref a := rv
          obtain ⟨od, J⟩ := inst_at I hA
          obtain ⟨m, hFr⟩ := I.fr
          rw [hop]
          refine PySem.W.cmp_K hr.units0 hFr I.ok.mod.kin J (looksTy I sm ry rw' ht) (hn t (fun m e => by subst e; exact tyD_six ht) ho) hown.at_ hown.fn (thn (run_at (vs := [.ref a, w]) Ff hr rfl passE I (.cons rfl (.cons rw' .nil)) ?_) fun u s' z => cmpBack_bl z)
          exact ⟨[x, y], S, G, sm, .cons rx (.cons ry .nil), spO_onlyB (K := X.K) h⟩
        · exact h.elim
      · exact h.elim
    · exact h.elim
  · exact hg pins s σ H v w u u' Q I rv rw' ⟨x, y, S, G, sm, rx, ry, h⟩
/-- x != y by an own == alone -/
def notB (o : Out D) : Out D := o.bind fun d S => match d with
  | .bl b => .ok (.bl (!b)) S
  | _ => .no
def neO (τ : List (String × Fn)) (cs : List String) (g : G2) : G2 := fun x y S => match insOf S x with
  | some (c, _) => match τ.lookup c with
    | some F => match tyD S y with
      | some t => if okTy cs t = true then notB (F [x, y] S) else .no
      | none => .no
    | none => .no
  | none => g x y S
theorem spO_notB {X : Cx} {G : Gh} {H : Hp} {o : Out D} {Q : VK} (h : sat X (Rp X.K) G H (notB o) Q) : spO X.K G H o (fun v H' => ∃ r, v = .bl r ∧ Q (.bl (!r)) H') (Est X) := by
  match o, h with
  | .ok (.bl b) S, h => exact fun G' H' v st sm r => by cases r; exact ⟨b, rfl, h G' H' _ st sm (.bl _)⟩
  | .ok .non _, h => exact h.elim
  | .ok (.int _) _, h => exact h.elim
  | .ok (.str _) _, h => exact h.elim
  | .ok (.tup _) _, h => exact h.elim
  | .ok (.lst _) _, h => exact h.elim
  | .ok (.obj _ _) _, h => exact h.elim
  | .ok (.loc _) _, h => exact h.elim
  | .ok (.cls _) _, h => exact h.elim
  | .ok (.fnc _) _, h => exact h.elim
  | .ok (.ty _) _, h => exact h.elim
  | .ok (.src _) _, h => exact h.elim
  | .ok .dic0 _, h => exact h.elim
  | .ok (.hob _) _, h => exact h.elim
  | .ok (.exc _ _) _, h => exact h.elim
  | .ex c fs S', h => exact fun cls dd H' w => ⟨G, H, c, fs, S', h, w⟩
  | .no, h => exact h.elim
theorem of_neO {X : Cx} {j : Nat} {τ : List (String × Fn)} {cs : List String} {g : G2} (hne : ∀ c F, τ.lookup c = some F → OwnNe X.K (gaS X.K c)) (hτ : Cmps X j "__eq__" τ cs) (hr : Room (j + 1) X.A) (hg : OpF X (compareOp .NotEq) g) : OpF X (compareOp .NotEq) (neO τ cs g) := fun pins s σ H v w u u' Q I rv rw' ⟨x, y, S, G, sm, rx, ry, h⟩ => by
  unfold neO at h
  split at h
  · rename_i c fs hi
    split at h
    · rename_i F hF
      split at h
      · rename_i t ht
        split at h
        · rename_i ho
          obtain ⟨a, dx, ws, rfl, hA, rf⟩ := sm.ins hi rx
          obtain ⟨hn, f, hown, Ff⟩ := hτ c F hF
          obtain rfl : u = Value.ref a := rv
          obtain ⟨od, J⟩ := inst_at I hA
          show wpAny (model X.prog X.w) X.A (richCompare .NotEq (.ref a) u') (EP X pins σ Q) X.xe s
          refine ne_rc (hne c F hF) hown (by have := hr.un; omega) I.kIn J (looksTy I sm ry rw' ht) (hn t (fun m e => by subst e; exact tyD_six ht) ho) (thn (run_at (A := X.A.in1) (vs := [.ref a, w]) Ff hr.in1 rfl passE I (.cons rfl (.cons rw' .nil)) ⟨[x, y], S, G, sm, .cons rx (.cons ry .nil), spO_notB h⟩) fun u s' z => ?_)
          obtain ⟨v, H', I', r, b', rfl, q'⟩ := z
          cases r
          exact ⟨b', rfl, .bl (!b'), H', I', rfl, q'⟩
        · exact h.elim
      · exact h.elim
    · exact h.elim
  · exact hg pins s σ H v w u u' Q I rv rw' ⟨x, y, S, G, sm, rx, ry, h⟩
/-! ### len, str, in by own methods -/
def okLen (o : Out D) : Out D := o.bind fun d S => match d with
  | .int n => if 0 ≤ n ∧ n < 2 ^ 63 then .ok (.int n) S else .no
  | _ => .no
def lenO (τ : List (String × Fn)) (g : Fn) : Fn := fun ds S => match ds with
  | [x] => match insOf S x with
    | some (c, _) => match τ.lookup c with
      | some F => okLen (F [x] S)
      | none => .no
    | none => g [x] S
  | ds => g ds S
def okStr (o : Out D) : Out D := o.bind fun d S => match d with
  | .str z => .ok (.str z) S
  | _ => .no
def strO (τ : List (String × Fn)) (g : Fn) : Fn := fun ds S => match ds with
  | [x] => match insOf S x with
    | some (c, _) => match τ.lookup c with
      | some F => okStr (F [x] S)
      | none => .no
    | none => g [x] S
  | ds => g ds S
def Owns (X : Cx) (j : Nat) (n : Str) (τ : List (String × Fn)) : Prop := ∀ c F, τ.lookup c = some F → ∃ f, Own X.K (gaS X.K c) n f ∧ FnF X.prog X.w X.K X.mg X.base j f F
theorem spO_okLen {X : Cx} {G : Gh} {H : Hp} {o : Out D} {Q : VK} (h : sat X (Rp X.K) G H (okLen o) Q) : spO X.K G H o (fun v H' => ∃ n, v = .int n ∧ (0 ≤ n ∧ n < 2 ^ 63) ∧ Q v H') (Est X) := by
  match o, h with
  | .ok (.int n) S, h =>
    have h' : sat X (Rp X.K) G H (if 0 ≤ n ∧ n < 2 ^ 63 then .ok (.int n) S else .no) Q := h
    by_cases c : 0 ≤ n ∧ n < 2 ^ 63
    · rw [if_pos c] at h'
      exact fun G' H' v st sm r => by cases r; exact ⟨n, rfl, c, h' G' H' _ st sm (.int n)⟩
    · rw [if_neg c] at h'
      exact h'.elim
  | .ok .non _, h => exact h.elim
  | .ok (.bl _) _, h => exact h.elim
  | .ok (.str _) _, h => exact h.elim
  | .ok (.tup _) _, h => exact h.elim
  | .ok (.lst _) _, h => exact h.elim
  | .ok (.obj _ _) _, h => exact h.elim
  | .ok (.loc _) _, h => exact h.elim
  | .ok (.cls _) _, h => exact h.elim
  | .ok (.fnc _) _, h => exact h.elim
  | .ok (.ty _) _, h => exact h.elim
  | .ok (.src _) _, h => exact h.elim
  | .ok .dic0 _, h => exact h.elim
  | .ok (.hob _) _, h => exact h.elim
  | .ok (.exc _ _) _, h => exact h.elim
  | .ex c fs S', h => exact fun cls dd H' w => ⟨G, H, c, fs, S', h, w⟩
  | .no, h => exact h.elim
theorem spO_okStr {X : Cx} {G : Gh} {H : Hp} {o : Out D} {Q : VK} (h : sat X (Rp X.K) G H (okStr o) Q) : spO X.K G H o (fun v H' => ∃ z, v = .str z ∧ Q v H') (Est X) := by
  match o, h with
  | .ok (.str n) S, h => exact fun G' H' v st sm r => by cases r; exact ⟨n, rfl, h G' H' _ st sm (.str n)⟩
  | .ok .non _, h => exact h.elim
  | .ok (.bl _) _, h => exact h.elim
  | .ok (.int _) _, h => exact h.elim
  | .ok (.tup _) _, h => exact h.elim
  | .ok (.lst _) _, h => exact h.elim
  | .ok (.obj _ _) _, h => exact h.elim
  | .ok (.loc _) _, h => exact h.elim
  | .ok (.cls _) _, h => exact h.elim
  | .ok (.fnc _) _, h => exact h.elim
  | .ok (.ty _) _, h => exact h.elim
  | .ok (.src _) _, h => exact h.elim
  | .ok .dic0 _, h => exact h.elim
  | .ok (.hob _) _, h => exact h.elim
  | .ok (.exc _ _) _, h => exact h.elim
  | .ex c fs S', h => exact fun cls dd H' w => ⟨G, H, c, fs, S', h, w⟩
  | .no, h => exact h.elim
theorem cf_lenO {X : Cx} {j : Nat} {τ : List (String × Fn)} {g : Fn} (hτ : Owns X j "__len__" τ) (hr : Room (j + 1) X.A) (hg : CallF X (.builtin "len") g) : CallF X (.builtin "len") (lenO τ g) := fun pins s σ H vs us Q I rv ⟨ds, S, G, sm, r, h⟩ => by
  unfold lenO at h
  split at h
  · split at h
    · rename_i c fs hi
      split at h
      · rename_i F hF
        obtain ⟨v, rfl, q⟩ := vals1 r
        obtain ⟨a, dx, ws, rfl, hA, rf⟩ := sm.ins hi q
        obtain ⟨f, hown, Ff⟩ := hτ c F hF
        exact call_lenO hown Ff hr passE pins s σ H _ us Q I rv ⟨a, dx, ws, rfl, hA, [_], S, G, sm, .cons q .nil, spO_okLen h⟩
      · exact h.elim
    · exact hg pins s σ H vs us Q I rv ⟨_, S, G, sm, r, h⟩
  · exact hg pins s σ H vs us Q I rv ⟨_, S, G, sm, r, h⟩
theorem cf_strO {X : Cx} {j : Nat} {τ : List (String × Fn)} {g : Fn} (hτ : Owns X j "__str__" τ) (hr : Room (j + 2) X.A) (hg : CallF X (.type "str") g) : CallF X (.type "str") (strO τ g) := fun pins s σ H vs us Q I rv ⟨ds, S, G, sm, r, h⟩ => by
  unfold strO at h
  split at h
  · split at h
    · rename_i c fs hi
      split at h
      · rename_i F hF
        obtain ⟨v, rfl, q⟩ := vals1 r
        obtain ⟨a, dx, ws, rfl, hA, rf⟩ := sm.ins hi q
        obtain ⟨f, hown, Ff⟩ := hτ c F hF
        exact call_strO hown Ff hr passE pins s σ H _ us Q I rv ⟨a, dx, ws, rfl, hA, [_], S, G, sm, .cons q .nil, spO_okStr h⟩
      · exact h.elim
    · exact hg pins s σ H vs us Q I rv ⟨_, S, G, sm, r, h⟩
  · exact hg pins s σ H vs us Q I rv ⟨_, S, G, sm, r, h⟩
/-- y in x, x an instance -/
def inO (τ : List (String × Fn)) (g : G2) : G2 := fun y x S => match insOf S x with
  | some (c, _) => match τ.lookup c with
    | some F => onlyB (F [x, y] S)
    | none => .no
  | none => g y x S
theorem of_inO {X : Cx} {j : Nat} {τ : List (String × Fn)} {g : G2} (hτ : Owns X j "__contains__" τ) (hr : Room j X.A) (hg : OpF X (compareOp .In) g) : OpF X (compareOp .In) (inO τ g) := fun pins s σ H v w u u' Q I rv rw' ⟨y, x, S, G, sm, ry, rx, h⟩ => by
  unfold inO at h
  split at h
  · rename_i c fs hi
    split at h
    · rename_i F hF
      obtain ⟨a, dx, ws, rfl, hA, rf⟩ := sm.ins hi rx
      obtain ⟨f, hown, Ff⟩ := hτ c F hF
      refine op_inO hown Ff hr passE pins s σ H v _ u u' Q I rv rw' ⟨a, dx, ws, rfl, hA, [x, y], S, G, sm, .cons rx (.cons ry .nil), (spO_onlyB (K := X.K) h).imp fun v' H' z => ?_⟩
      obtain ⟨⟨b, rfl⟩, q⟩ := z
      exact ⟨b, rfl, by rw [Bool.false_xor]; exact q⟩
    · exact h.elim
  · exact hg pins s σ H v w u u' Q I rv rw' ⟨y, x, S, G, sm, ry, rx, h⟩
/-! ### - x, x[i] by own methods -/
def unO (τ : List (String × Fn)) (g : G1) : G1 := fun x S => match insOf S x with
  | some (c, _) => match τ.lookup c with
    | some F => F [x] S
    | none => .no
  | none => g x S
theorem of_negO {X : Cx} {j : Nat} {τ : List (String × Fn)} {g : G1} (hτ : Owns X j "__neg__" τ) (hr : Room j X.A) (hg : UnF X (unaryOp .USub) g) : UnF X (unaryOp .USub) (unO τ g) := fun pins s σ H v u Q I rv ⟨x, S, G, sm, rx, h⟩ => by
  unfold unO at h
  split at h
  · rename_i c fs hi
    split at h
    · rename_i F hF
      obtain ⟨a, dx, ws, rfl, hA, rf⟩ := sm.ins hi rx
      obtain ⟨f, hown, Ff⟩ := hτ c F hF
      exact un_negO hown Ff hr passE pins s σ H _ u Q I rv ⟨a, dx, ws, rfl, hA, [x], S, G, sm, .cons rx .nil, sat_sp h⟩
    · exact h.elim
  · exact hg pins s σ H v u Q I rv ⟨x, S, G, sm, rx, h⟩
theorem of_invO {X : Cx} {j : Nat} {τ : List (String × Fn)} {g : G1} (hτ : Owns X j "__invert__" τ) (hr : Room j X.A) (hg : UnF X (unaryOp .Invert) g) : UnF X (unaryOp .Invert) (unO τ g) := fun pins s σ H v u Q I rv ⟨x, S, G, sm, rx, h⟩ => by
  unfold unO at h
  split at h
  · rename_i c fs hi
    split at h
    · rename_i F hF
      obtain ⟨a, dx, ws, rfl, hA, rf⟩ := sm.ins hi rx
      obtain ⟨f, hown, Ff⟩ := hτ c F hF
      exact un_invO hown Ff hr passE pins s σ H _ u Q I rv ⟨a, dx, ws, rfl, hA, [x], S, G, sm, .cons rx .nil, sat_sp h⟩
    · exact h.elim
  · exact hg pins s σ H v u Q I rv ⟨x, S, G, sm, rx, h⟩
def noU : G1 := fun _ _ => .no
theorem of_noU {X : Cx} {f : Value → Sem Value} : UnF X f noU := fun _ _ _ _ _ _ _ _ _ ⟨_, _, _, _, _, h⟩ => h.elim
/-- o[i], o an instance of one class -/
def ixO (c : String) (F : Fn) : G2 := fun x y S => match insOf S x with
  | some (c', _) => if c' = c then F [x, y] S else .no
  | none => .no
theorem qe_ixO {X : Cx} {a b : Expr} {ma mb : ME} {pos : Pos} {j : Nat} {c : String} {f : Addr} {F : Fn} (ho : Own X.K (gaS X.K c) "__getitem__" f) (hf : PySem.W.fnIn X.K f = true) (Ff : FnF X.prog X.w X.K X.mg X.base j f F) (hr : Room (j + 1) X.A) (ha : QE X a ma) (hb : QE X b mb)
    (hs : ∀ x i, subscripted b true (.ref x) i = runValue (.builtin "lifetime.subscript" ⟨[.ref x, i], []⟩) := by intro _ _; rfl) : QE X (.Subscript a b pos) (bin (ixO c F) ma mb) :=
  qe_of (pe_ixO ho hf Ff hr passE ha hb hs) fun ρ S G σ H Q sm re h => by
    refine ⟨ρ, S, G, sm, re, (sat.bind h).imp fun v H1 w => ?_⟩
    obtain ⟨x, S1, G1, le1, sm1, r1, q1⟩ := w
    refine ⟨ρ, S1, G1, sm1, re.mono le1.le, (sat.bind q1).imp fun v' H2 w => ?_⟩
    obtain ⟨y, S2, G2, le2, sm2, r2, q2⟩ := w
    unfold ixO at q2
    split at q2
    · rename_i c' fs hi
      split at q2
      · rename_i hc
        subst hc
        obtain ⟨a, dx, ws, rfl, hA, rf⟩ := sm2.ins hi (r1.mono le2.le)
        exact ⟨a, dx, ws, rfl, hA, [x, y], S2, G2, sm2, .cons (r1.mono le2.le) (.cons r2 .nil), sat_sp q2⟩
      · exact q2.elim
    · exact q2.elim
/-! ### x + y .. by own methods -/
/-- what may come back: an object, an int -/
def okRes (o : Out D) : Out D := o.bind fun d S => match d with
  | .obj c fs => .ok (.obj c fs) S
  | .tup xs => .ok (.tup xs) S
  | .lst xs => .ok (.lst xs) S
  | .loc n => .ok (.loc n) S
  | _ => .no
theorem spO_okRes {X : Cx} {G : Gh} {H : Hp} {o : Out D} {Q : VK} (h : sat X (Rp X.K) G H (okRes o) Q) : spO X.K G H o (fun v H' => (∃ r, v = .ref r) ∧ Q v H') (Est X) := by
  match o, h with
  | .ok (.obj c fs) S, h => exact fun G' H' v st sm r => by cases r with | obj a b => exact ⟨⟨_, rfl⟩, h G' H' _ st sm (.obj a b)⟩
  | .ok (.tup xs) S, h => exact fun G' H' v st sm r => by cases r with | tup a b => exact ⟨⟨_, rfl⟩, h G' H' _ st sm (.tup a b)⟩
  | .ok (.lst xs) S, h => exact fun G' H' v st sm r => by cases r with | lst a b => exact ⟨⟨_, rfl⟩, h G' H' _ st sm (.lst a b)⟩
  | .ok (.loc n) S, h => exact fun G' H' v st sm r => by cases r with | loc a => exact ⟨⟨_, rfl⟩, h G' H' _ st sm (.loc a)⟩
  | .ok .non _, h => exact h.elim
  | .ok (.bl _) _, h => exact h.elim
  | .ok (.int _) _, h => exact h.elim
  | .ok (.str _) _, h => exact h.elim
  | .ok (.cls _) _, h => exact h.elim
  | .ok (.fnc _) _, h => exact h.elim
  | .ok (.ty _) _, h => exact h.elim
  | .ok (.src _) _, h => exact h.elim
  | .ok .dic0 _, h => exact h.elim
  | .ok (.hob _) _, h => exact h.elim
  | .ok (.exc _ _) _, h => exact h.elim
  | .ex c fs S', h => exact fun cls dd H' w => ⟨G, H, c, fs, S', h, w⟩
  | .no, h => exact h.elim
/-- x op y: x an instance of the class c, y another one or an int -/
def binO (c : String) (F : Fn) (g : G2) : G2 := fun x y S => match insOf S x with
  | some (c1, _) => if c1 = c then match insOf S y with
      | some (c2, _) => if c2 = c then okRes (F [x, y] S) else .no
      | none => match y with
        | .int _ => okRes (F [x, y] S)
        | _ => .no
    else .no
  | none => g x y S
/-- what is known of an own operator -/
structure Bins (X : Cx) (j : Nat) (op : Operator) (c : String) (F : Fn) : Prop where
  sf : PySem.W.selfFirst X.K (gaS X.K c) = true
  fn : ∃ f, Own X.K (gaS X.K c) (PySem.dunder op.info.2) f ∧ FnF X.prog X.w X.K X.mg X.base j f F
  rc : ∃ rc, PySem.W.findIn X.K (.ref (gaS X.K c)) (dunderR op.info.2) = some rc ∧ (rc = none ∨ ∃ g : Addr, rc = some (.ref g))
  i1 : ∃ fo, PySem.W.findIn X.K (.type "int") (PySem.dunder op.info.2) = some fo
  i2 : ∃ ro, PySem.W.findIn X.K (.type "int") (dunderR op.info.2) = some ro
  ns : PySem.W.subIn X.K (.type "int") (.ref (gaS X.K c)) = some false
theorem of_binO {X : Cx} {j : Nat} {op : Operator} {c : String} {F : Fn} {g : G2} (B : Bins X j op c F) (hr : Room j X.A) (hg : OpF X (binaryOp op) g) : OpF X (binaryOp op) (binO c F g) := fun pins s σ H v w u u' Q I rv rw' ⟨x, y, S, G, sm, rx, ry, h⟩ => by
  unfold binO at h
  split at h
  · rename_i c1 fs hi
    split at h
    · rename_i hc
      subst hc
      obtain ⟨a, dx, ws, rfl, hA, rf⟩ := sm.ins hi rx
      obtain ⟨f, hown, Ff⟩ := B.fn
      split at h
      · rename_i c2 gs hi2
        split at h
        · rename_i hc2
          subst hc2
          obtain ⟨b, dy, zs, rfl, hB, rg⟩ := sm.ins hi2 ry
          exact op_binO B.sf hown Ff hr passE pins s σ H _ _ u u' Q I rv rw' ⟨a, b, dx, dy, ws, zs, rfl, rfl, hA, hB, [x, y], S, G, sm, .cons rx (.cons ry .nil), spO_okRes h⟩
        · exact h.elim
      · split at h
        · rename_i i
          cases ry
          obtain ⟨rc, hR, hp⟩ := B.rc
          obtain ⟨fo, h1⟩ := B.i1
          obtain ⟨ro, h2⟩ := B.i2
          exact op_binI B.sf hown hR hp h1 h2 B.ns Ff hr passE pins s σ H _ _ u u' Q I rv rw' ⟨a, _, dx, ws, rfl, rfl, hA, [x, .int _], S, G, sm, .cons rx (.cons (.int _) .nil), spO_okRes h⟩
        · exact h.elim
    · exact h.elim
  · exact hg pins s σ H v w u u' Q I rv rw' ⟨x, y, S, G, sm, rx, ry, h⟩
/-! ### repr -/
def reprOk (p : PyData) : Bool := p.showable && !p.hasDict && decide (p.depth ≤ 60) && decide (p.shown.length ≤ sizeLine)
def reprB : Fn := fun ds S => match ds with
  | [.lst xs] => match toP (.lst xs) with
    | some p => if reprOk p = true then .ok (.str p.shown) S else .no
    | none => .no
  | [.tup xs] => match toP (.tup xs) with
    | some p => if reprOk p = true then .ok (.str p.shown) S else .no
    | none => .no
  | [.loc n] => match S[n]? with
    | some (.lst xs) => match toP (.lst xs) with
      | some p => if reprOk p = true then .ok (.str p.shown) S else .no
      | none => .no
    | _ => .no
  | _ => .no
theorem cf_repr {X : Cx} (hg : X.A.guards = some []) (hu : X.A.units + 64 < cLine) : CallF X (.builtin "repr") reprB := fun pins s σ H vs us Q I rv ⟨ds, S, G, sm, r, h⟩ => by
  have go : ∀ {a : Addr} {p : PyData}, Dp X.K H (.ref a) p → sat X (Rp X.K) G H (if reprOk p = true then .ok (.str p.shown) S else .no) Q → vs = [.ref a] → wpAny (model X.prog X.w) X.A (call (.builtin "repr") us) (EP X pins σ Q) X.xe s := fun {a p} dp h ev => by
    subst ev
    by_cases c : reprOk p = true
    · rw [if_pos c] at h
      unfold reprOk at c
      simp only [Bool.and_eq_true, decide_eq_true_eq, Bool.not_eq_true'] at c
      exact call_reprD hg hu pins s σ H _ us Q I rv ⟨a, p, rfl, dp, c.1.1.1, c.1.1.2, c.1.2, c.2, h G H _ .refl sm (.str _)⟩
    · rw [if_neg c] at h
      exact h.elim
  unfold reprB at h
  split at h
  · split at h
    · rename_i p hp
      obtain ⟨v, rfl, q⟩ := vals1 r
      have dp := Rp.dp sm.fr _ _ _ q hp
      cases q with
      | lst a b => exact go dp h rfl
    · exact h.elim
  · split at h
    · rename_i p hp
      obtain ⟨v, rfl, q⟩ := vals1 r
      have dp := Rp.dp sm.fr _ _ _ q hp
      cases q with
      | tup a b => exact go dp h rfl
    · exact h.elim
  · split at h
    · rename_i xs hl
      split at h
      · rename_i p hp
        obtain ⟨v, rfl, q⟩ := vals1 r
        obtain ⟨a, ws, rfl, hf, ha, rr⟩ := sm.list hl q
        unfold toP at hp
        match hq : toPs xs, hp with
        | some ps, hp => cases hp; exact go (.lst (SqL.of ha) (Rps.dp sm.fr xs _ ps rr hq)) h rfl
        | none, hp => cases hp
      · exact h.elim
    · exact h.elim
  · exact h.elim
/-! ### isinstance(x, (A, B)) of built-in classes -/
def isiA (Ts : List String) (cs : List String) (m : ME) : ME := fun ρ S => (m ρ S).bind fun x S1 => match tyD S1 x with
  | some (.b n) => .ok (.bl (Ts.any fun T => subT n T)) S1
  | some (.c n) => if cs.contains n = true then .ok (.bl false) S1 else .no
  | none => .no
section
variable {X : Cx} {e : Expr} {m : ME} {p p1 p2 p3 pos : Pos} {x1}
theorem kitAny2 {K : PySem.W.Frag} {t : Value} {T U : String} {b c : Bool} (h1 : PySem.W.kitOne K t (.type T) = some b) (h2 : PySem.W.kitOne K t (.type U) = some c) : PySem.W.kitAny K t [.type T, .type U] = some (b || c) := by
  refine kitAny_cons h1 (fun hb => kitAny_cons (r := b || c) h2 (fun hc => ?_) (fun hc => ?_)) (fun hb => ?_)
  · subst hb; subst hc; rfl
  · subst hc; simp
  · subst hb; rfl
theorem qe_isi2 {T U : String} {xT xU : Str} {cs : List String} (hT : T ∈ six) (hU : U ∈ six) (hc : ∀ c ∈ cs, CF X.K c ∧ PySem.W.kitOne X.K (.ref (gaS X.K c)) (.type T) = some false ∧ PySem.W.kitOne X.K (.ref (gaS X.K c)) (.type U) = some false)
    (hmi : X.mg "isinstance" = none) (hmT : X.mg xT = none) (hmU : X.mg xU = none) (h : QE X e m) (hvT : bootBuiltins xT = some (.type T) := by decide +kernel) (hvU : bootBuiltins xU = some (.type U) := by decide +kernel) (hgi : Gl X "isinstance" := by rfl) (hgT : Gl X xT := by rfl) (hgU : Gl X xU := by rfl)
    (hnT : xT ≠ "__name__" := by decide) (hdT : (xT == ("__debug__" : Str)) = false := by decide) (hnU : xU ≠ "__name__" := by decide) (hdU : (xU == ("__debug__" : Str)) = false := by decide)
    (he : starEach [e, .Tuple [.Name xT p1, .Name xU p2] x1 p3] X.env = (false, eval e X.env) :: starEach [.Tuple [.Name xT p1, .Name xU p2] x1 p3] X.env := by rfl) (hpl : (backTo pos (starEach [.Tuple [.Name xT p1, .Name xU p2] x1 p3] X.env)).any (·.1) = false := by rfl) :
    QE X (.Call (.Name "isinstance" p) [e, .Tuple [.Name xT p1, .Name xU p2] x1 p3] [] pos) (isiA [T, U] cs m) :=
  qe_of (pe_callB call_isiT hgi hmi (by decide +kernel) (pa_cons h (pa_cons (pe_tup (pa_cons (pe_bltn (v := .ty T) hgT hmT hvT rfl hnT hdT) (pa_cons (pe_bltn (v := .ty U) hgU hmU hvU rfl hnU hdU) pa_nil))) pa_nil) he) (by decide) (by decide) he hpl) fun ρ S G σ H Q sm re z => by
    refine ⟨ρ, S, G, sm, re, (sat.bind z).imp fun v H1 w => ?_⟩
    obtain ⟨x, S1, G1, le1, sm1, r1, q1⟩ := w
    refine ⟨by show 2 ≤ sizeLine; decide, fun q hq => ?_⟩
    have st := Stp.ext (G := G1) (Ext.upd (o := .tup [.ty T, .ty U]) hq)
    have sm2 := sm1.ext (Ext.upd (o := .tup [.ty T, .ty U]) hq)
    split at q1
    · rename_i n ht
      have h6 := tyD_six ht
      refine ⟨v, q, [.ty T, .ty U], _, [.type T, .type U], subT n T || subT n U, rfl, upd_same, .cons (.ty T) (.cons (.ty U) .nil), tyX sm2 ht r1 (fun n e => by cases e), kitAny2 (kit_ty (kit_six n h6 T hT)) (kit_ty (kit_six n h6 U hU)), ?_⟩
      have q2 : sat X (Rp X.K) G1 H1 (.ok (.bl (List.any [T, U] fun T => subT n T)) S1) Q := q1
      have e : (List.any [T, U] fun T => subT n T) = (subT n T || subT n U) := by simp
      rw [e] at q2
      exact q2 G1 _ _ st sm2 (.bl _)
    · rename_i n ht
      split at q1
      · rename_i hm
        have k := hc n (List.contains_iff_mem.mp hm)
        exact ⟨v, q, [.ty T, .ty U], _, [.type T, .type U], false, rfl, upd_same, .cons (.ty T) (.cons (.ty U) .nil), tyX sm2 ht r1 (fun n e => by cases e; exact k.1), kitAny2 k.2.1 k.2.2, q1 G1 _ _ st sm2 (.bl _)⟩
      · exact q1.elim
    · exact q1.elim
end
end PV
set_option Elab.async false
set_option linter.all false
set_option maxRecDepth 100000
set_option maxHeartbeats 4000000
namespace ZL
open PySem PySem.Spec PyProof.Rows L2
theorem tuple_mul_same (l : Addr) (items : Array Value) (n : Nat) (dd : Option Addr) (sl : Array (Option Value)) (x : Int) (u : Tok) (c0 : (decide (x < -(2 ^ 63)) || decide (x ≥ 2 ^ 63)) = false) (c1 : (items.isEmpty || x == 1) = true) :
    Meets (Builtin.«tuple.__mul__» ⟨[.ref l, .int x u], []⟩) (fun _ R s => s.heap.get? l = some { cls := .type "tuple", dict := dd, data := .seq items n, slots := sl } ∧ R (.ok (.ret (Value.ref l))) s) :=
  .of_wp fun prog w A R s h => by
    obtain ⟨hp, g, d, tk, os⟩ := s
    obtain ⟨hl, h⟩ := h
    have f1 := AutoSeq1.idx_int
    wp_walk using wpAny_loadPart' hl
    repeat (first
      | (refine wpAny_ite_false (decide_eq_false (by rw [c0]; exact Bool.false_ne_true)) ?_; wp_walk using wpAny_loadPart' hl)
      | (refine wpAny_ite_true (decide_eq_true c1) ?_; wp_walk using wpAny_loadPart' hl))
    exact ⟨_, rfl, h⟩
theorem tuple_mul_zero (l : Addr) (items : Array Value) (n : Nat) (dd : Option Addr) (sl : Array (Option Value)) (x : Int) (u : Tok) (c0 : (decide (x < -(2 ^ 63)) || decide (x ≥ 2 ^ 63)) = false) (c1 : (items.isEmpty || x == 1) = false) (c2 : (decide (x ≤ 0) || items.isEmpty) = true) :
    Meets (Builtin.«tuple.__mul__» ⟨[.ref l, .int x u], []⟩) (fun _ R s => s.heap.get? l = some { cls := .type "tuple", dict := dd, data := .seq items n, slots := sl } ∧
      R (.ok (.ret (Value.ref s.heap.objs.size))) { s with heap := s.heap.push { cls := Value.type "tuple", data := Data.seq #[] }, toks := s.toks }) :=
  .of_wp fun prog w A R s h => by
    obtain ⟨hp, g, d, tk, os⟩ := s
    obtain ⟨hl, h⟩ := h
    have f1 := AutoSeq1.idx_int
    wp_walk using wpAny_loadPart' hl
    repeat (first
      | (refine wpAny_ite_false (decide_eq_false (by rw [c0]; exact Bool.false_ne_true)) ?_; wp_walk using wpAny_loadPart' hl)
      | (refine wpAny_ite_false (decide_eq_false (by rw [c1]; exact Bool.false_ne_true)) ?_; wp_walk using wpAny_loadPart' hl)
      | (refine wpAny_ite_true (decide_eq_true c2) ?_; wp_walk using wpAny_loadPart' hl))
    exact ⟨_, rfl, h⟩
end ZL
set_option Elab.async false
set_option linter.all false
set_option maxRecDepth 100000
set_option maxHeartbeats 4000000
namespace PV
open PySem PySem.Spec PyProof.Rows L2 ZL
/-! ### a op b op c op d -/
def chn3 (g g' g'' : G2) (a b c d : ME) : ME := fun ρ S => (a ρ S).bind fun x S1 => (b ρ S1).bind fun y S2 => (g x y S2).bind fun z S3 => match z with
  | .bl true => (c ρ S3).bind fun u S4 => (g' y u S4).bind fun z' S5 => match z' with
    | .bl true => (d ρ S5).bind fun t S6 => g'' u t S6
    | .bl false => .ok (.bl false) S5
    | _ => .no
  | .bl false => .ok (.bl false) S3
  | _ => .no
section
variable {X : Cx} {a b c d : Expr} {ma mb mc md : ME} {g g' g'' : G2} {pos : Pos}
theorem qe_chn3 {op op' op'' : CmpOp} (ho : OpF X (compareOp op) g) (ho' : OpF X (compareOp op') g') (ho'' : OpF X (compareOp op'') g'') (ha : QE X a ma) (hb : QE X b mb) (hc : QE X c mc) (hd : QE X d md)
    (hm : lastMarks [op, op', op''] [b, c, d] = false := by with_unfolding_all rfl) : QE X (.Compare a [op, op', op''] [b, c, d] pos) (chn3 g g' g'' ma mb mc md) :=
  qe_of (pe_chain3 ho ho' ho'' ha hb hc hd hm) fun ρ S G σ H Q sm re h => by
    refine ⟨ρ, S, G, sm, re, (sat.bind h).imp fun v H1 w => ?_⟩
    obtain ⟨x, S1, G1, le1, sm1, r1, q1⟩ := w
    refine ⟨ρ, S1, G1, sm1, re.mono le1.le, (sat.bind q1).imp fun v' H2 w => ?_⟩
    obtain ⟨y, S2, G2, le2, sm2, r2, q2⟩ := w
    refine ⟨x, y, S2, G2, sm2, r1.mono le2.le, r2, (sat.bind q2).imp fun v3 H3 w => ?_⟩
    obtain ⟨z, S3, G3, le3, sm3, r3, q3⟩ := w
    have re3 := ((re.mono le1.le).mono le2.le).mono le3.le
    cases r3 with
    | bl k =>
      refine ⟨k, rfl, ?_⟩
      cases k with
      | false => exact q3 G3 H3 _ .refl sm3 (.bl false)
      | true =>
        refine ⟨ρ, S3, G3, sm3, re3, (sat.bind q3).imp fun v4 H4 w => ?_⟩
        obtain ⟨u, S4, G4, le4, sm4, r4, q4⟩ := w
        refine ⟨y, u, S4, G4, sm4, (r2.mono le3.le).mono le4.le, r4, (sat.bind q4).imp fun v5 H5 w => ?_⟩
        obtain ⟨z', S5, G5, le5, sm5, r5, q5⟩ := w
        cases r5 with
        | bl k =>
          refine ⟨k, rfl, ?_⟩
          cases k with
          | false => exact q5 G5 H5 _ .refl sm5 (.bl false)
          | true =>
            refine ⟨ρ, S5, G5, sm5, (re3.mono le4.le).mono le5.le, (sat.bind q5).imp fun v6 H6 w => ?_⟩
            obtain ⟨t, S6, G6, le6, sm6, r6, q6⟩ := w
            exact ⟨u, t, S6, G6, sm6, (r4.mono le5.le).mono le6.le, r6, q6⟩
        | _ => exact q5.elim
    | _ => exact q3.elim
end
/-! ### o[i] of an instance or of anything else -/
def ixB (c : String) (F : Fn) : G2 := fun x y S => match insOf S x with
  | some (c', _) => if c' = c then F [x, y] S else .no
  | none => ixG x y S
theorem qe_ixB {X : Cx} {a b : Expr} {ma mb : ME} {pos : Pos} {j : Nat} {c : String} {f : Addr} {F : Fn} (ho : Own X.K (gaS X.K c) "__getitem__" f) (hf : PySem.W.fnIn X.K f = true) (Ff : FnF X.prog X.w X.K X.mg X.base j f F) (hr : Room (j + 1) X.A) (ha : QE X a ma) (hb : QE X b mb)
    (hs : ∀ x i, subscripted b true (.ref x) i = runValue (.builtin "lifetime.subscript" ⟨[.ref x, i], []⟩) := by intro _ _; rfl) (hs2 : PlainIx b := by exact fun _ _ => rfl) : QE X (.Subscript a b pos) (bin (ixB c F) ma mb) := by
  have o : PE X (.Subscript a b pos) (fun σ H Q => tE X (bin (ixO c F) ma mb) σ H Q ∨ tE X (bin ixG ma mb) σ H Q) :=
    ⟨fun pins s σ H Q I z => z.elim ((qe_ixO ho hf Ff hr ha hb hs).run pins s σ H Q I) ((qe_ix ha hb hs2).run pins s σ H Q I)⟩
  refine qe_of o fun ρ S G σ H Q sm re z => ?_
  have z' : sat X (Rp X.K) G H ((ma ρ S).bind fun x S1 => (mb ρ S1).bind fun y S2 => ixB c F x y S2) Q := z
  match ea : ma ρ S, z' with
  | .ex cc fs S', q => exact .inl ⟨ρ, S, G, sm, re, by unfold bin; rw [ea]; exact q⟩
  | .no, q => exact q.elim
  | .ok x S1, q =>
    have q' : sat X (Rp X.K) G H ((mb ρ S1).bind fun y S2 => ixB c F x y S2) Q := q
    match eb : mb ρ S1, q' with
    | .ex cc fs S', q => exact .inl ⟨ρ, S, G, sm, re, by unfold bin; rw [ea]; show sat X _ G H ((mb ρ S1).bind _) Q; rw [eb]; exact q⟩
    | .no, q => exact q.elim
    | .ok y S2, q =>
      have q2 : sat X (Rp X.K) G H (ixB c F x y S2) Q := q
      unfold ixB at q2
      match ei : insOf S2 x, q2 with
      | some (c', fs), q2 => exact .inl ⟨ρ, S, G, sm, re, by unfold bin; rw [ea]; show sat X _ G H ((mb ρ S1).bind _) Q; rw [eb]; show sat X _ G H (ixO c F x y S2) Q; unfold ixO; rw [ei]; exact q2⟩
      | none, q2 => exact .inr ⟨ρ, S, G, sm, re, by unfold bin; rw [ea]; show sat X _ G H ((mb ρ S1).bind _) Q; rw [eb]; exact q2⟩
/-! ### a constant of a class -/
def ccE (c : String) (d : D) (o : ME) : ME := fun ρ S => (o ρ S).bind fun x S1 => if isCl c x = true then .ok d S1 else .no
theorem qe_cc {X : Cx} {o : Expr} {mo : ME} {c : String} {d : D} {v : V} {u mc : Value} {f : Str} {pos : Pos} (hrd : ClX.CRead X.K (gaS X.K c) mc) (hv : ClX.CVal X.K (gaS X.K c) mc f v u) (rd : ∀ G, Rp X.K G d v) (ho : QE X o mo) (hb : attributeBase o f X.env (eval o X.env) = eval o X.env := by rfl) :
    QE X (.Attribute o f pos) (ccE c d mo) := qe_of (ClX.pe_cval ho hb) fun ρ S G σ H Q sm re h => by
  refine ⟨ρ, S, G, sm, re, (sat.bind h).imp fun v H1 w => ?_⟩
  obtain ⟨x, S1, G1, le1, sm1, r1, q1⟩ := w
  split at q1
  · rename_i hc
    obtain ⟨rfl, rfl⟩ := isCl_rp hc r1
    exact ⟨_, _, _, _, rfl, hrd, hv, q1 G1 H1 _ .refl sm1 (rd G1)⟩
  · exact q1.elim
/-! ### cls(), cls a local name that holds the class -/
def mk0L (c : String) (g : Fn) (i : Nat) : ME := fun ρ S => match ρ[i]? with
  | some (some x) => if isCl c x = true then g [] S else .no
  | _ => .no
theorem qe_mk0L {X : Cx} (i : Nat) {x : Str} {p pos : Pos} {c : String} {F g : Fn} {j : Nat} {f : Addr} (hg : MkRd X c F g) (M : Mk X.K (gaS X.K c) f) (Ff : FnF X.prog X.w X.K X.mg X.base j f F) (hr : Room (j + 1) X.A)
    (hN : X.N[i]? = some x := by rfl) (hv : Vis X.env.scope x := by first | exact .inl rfl | exact .inr (.inl rfl) | exact .inr (.inr rfl)) (hd : (x == ("__debug__" : Str)) = false := by decide) (hcd : (x == ("__classdict__" : Str)) = false := by decide) :
    QE X (.Call (.Name x p) [] [] pos) (mk0L c g i) := ⟨fun pins s σ H Q I z => by
  obtain ⟨ρ, S, G, sm, re, h⟩ := z
  unfold mk0L at h
  match hx : ρ[i]?, h with
  | some (some d), h =>
    simp only at h
    split at h
    · rename_i hc
      obtain ⟨v, h1, h2⟩ := re.get hx
      refine wpAny_Call_Name_kw (thn ((pe_var hN hv hd hcd).run pins s σ H (fun w H' => w = v ∧ H' = H) I ⟨v, h1, rfl, rfl⟩) fun u s1 k => ?_)
      obtain ⟨w, H', I1, rw', rfl, rfl⟩ := k
      obtain ⟨rfl, rfl⟩ := isCl_rp hc h2
      cases rw'
      exact PySem.W.callWith_K0 I1.kIn M.kp (StX.run_makeR M Ff hr passE (I1.tok _) .nil (hg sm .nil h))
    · exact h.elim
  | some none, h => exact h.elim
  | none, h => exact h.elim⟩
/-! ### tuple * int -/
section
variable {X : Cx} {pins : List (Addr × Obj)} {σ : L2.St} {H : Hp} {s : Shared}
theorem rep_same {l : Addr} {xs : List V} {k : Int} {t : Tok} {Q : VK} (I : Inv X pins σ H s) (hT : SqT X.K H l xs) (h1 : -(2 ^ 63) ≤ k) (h2 : k < 2 ^ 63) (hc : xs = [] ∨ k = 1) (q : Q (.ref l) H) : wpAny (model X.prog X.w) X.A (binaryOp .Mult (.ref l) (.int k t)) (EP X pins σ Q) X.xe s := by
  obtain ⟨its, r, ⟨⟨cls, dd, data, sl⟩, ho, hc', n, hd⟩, hs⟩ := I.tuple hT
  simp only at hc' hd
  subst hc' hd
  have c0 : (decide (k < -(2 ^ 63)) || decide (k ≥ 2 ^ 63)) = false := by
    rw [decide_eq_false (by omega), decide_eq_false (by omega)] <;> rfl
  have c1 : (its.toArray.isEmpty || k == 1) = true := by
    rcases hc with e | e
    · subst e
      cases r
      rfl
    · subst e
      simp
  exact wpAny_binaryOp_repeat_ref (T := "tuple") (U := "int") (by decide) ⟨_, ho, rfl⟩ (fun s' => typeIs_int s' k t) noFill_tuple_mul F.fills_int_mul F.slot_int_rmul repeat_tuple F.slot_int_index.lookup
    (call_meets F.slot_int_rmul (typeIs_int s k t) F.entry_int_rmul (F.args_int_rmul_2 _ _) (int_rmul_tuple k t l its.toArray n dd sl)
      ⟨ho, rfl, ⟨_, ho, rfl⟩, call_meets F.slot_tuple_mul ⟨_, ho, rfl⟩ F.entry_tuple_mul (F.args_tuple_mul_2 _ _) (tuple_mul_same l its.toArray n dd sl k t c0 c1) ⟨ho, ⟨.ref l, H, I, rfl, q⟩⟩⟩)
theorem rep_zero {l : Addr} {xs : List V} {k : Int} {t : Tok} {Q : VK} (I : Inv X pins σ H s) (hT : SqT X.K H l xs) (h1 : -(2 ^ 63) ≤ k) (hk : k ≤ 0) (hne : xs ≠ []) (q : ∀ p, H p = none → Q (.ref p) (upd H p (.tup []))) : wpAny (model X.prog X.w) X.A (binaryOp .Mult (.ref l) (.int k t)) (EP X pins σ Q) X.xe s := by
  obtain ⟨its, r, ⟨⟨cls, dd, data, sl⟩, ho, hc', n, hd⟩, hs⟩ := I.tuple hT
  simp only at hc' hd
  subst hc' hd
  have hi : its.toArray.isEmpty = false := by
    cases r with
    | nil => exact absurd rfl hne
    | cons _ _ => rfl
  have c0 : (decide (k < -(2 ^ 63)) || decide (k ≥ 2 ^ 63)) = false := by
    rw [decide_eq_false (by omega), decide_eq_false (by omega)] <;> rfl
  have c1 : (its.toArray.isEmpty || k == 1) = false := by
    rw [hi, Bool.false_or]
    exact beq_eq_false_iff_ne.mpr (by omega)
  have c2 : (decide (k ≤ 0) || its.toArray.isEmpty) = true := by rw [decide_eq_true hk]; rfl
  refine wpAny_binaryOp_repeat_ref (T := "tuple") (U := "int") (by decide) ⟨_, ho, rfl⟩ (fun s' => typeIs_int s' k t) noFill_tuple_mul F.fills_int_mul F.slot_int_rmul repeat_tuple F.slot_int_index.lookup
    (call_meets F.slot_int_rmul (typeIs_int s k t) F.entry_int_rmul (F.args_int_rmul_2 _ _) (int_rmul_tuple k t l its.toArray n dd sl)
      ⟨ho, rfl, ⟨_, ho, rfl⟩, call_meets F.slot_tuple_mul ⟨_, ho, rfl⟩ F.entry_tuple_mul (F.args_tuple_mul_2 _ _) (tuple_mul_zero l its.toArray n dd sl k t c0 c1 c2) ⟨ho, ?_⟩⟩)
  refine ⟨.ref s.heap.objs.size, _, I.laid (t' := s.toks) (o := .tup []) (fun b ob q => Heap.get?_push_of_some _ q) (Nat.le_refl _) ?_, rfl, q _ (I.hok.fresh (Nat.le_refl _))⟩
  exact ⟨by show 0 ≤ sizeLine; decide, [], .nil, IsTup.new _ _⟩
end
def repOkT (n : Nat) (k : Int) : Bool := decide (-(2 ^ 63) ≤ k) && decide (k ≤ 1000) && decide (n ≤ 1000)
/-- x * y, tuples too -/
def mulT : G2 := fun x y S => match x, y with
  | .tup a, .int k => if repOkT a.length k = true then .ok (.tup (List.replicate k.toNat a).flatten) S else .no
  | x, y => mulG x y S
theorem rep_nil {α : Type} : ∀ n : Nat, (List.replicate n ([] : List α)).flatten = []
  | 0 => rfl
  | n + 1 => by rw [List.replicate_succ, List.flatten_cons, rep_nil n]; rfl
theorem of_mulT {X : Cx} : OpF X (binaryOp .Mult) mulT := fun pins s σ H v w u u' Q I rv rw' ⟨x, y, S, G, sm, rx, ry, h⟩ => by
  unfold mulT at h
  split at h
  · rename_i a k
    split at h
    · rename_i c
      unfold repOkT at c
      simp only [Bool.and_eq_true, decide_eq_true_eq] at c
      cases ry
      cases rx with
      | @tup _ l vs h1 r1 =>
        have hT := SqT.mono h1 sm.fr
        obtain rfl : u = Value.ref l := rv
        obtain ⟨t, rfl⟩ := rw'
        by_cases e1 : a = [] ∨ k = 1
        · have ee : (List.replicate k.toNat a).flatten = a := by
            rcases e1 with e | e
            · subst e
              exact rep_nil _
            · subst e
              simp
          rw [ee] at h
          refine rep_same I hT c.1.1 (by omega) ?_ (h G H _ .refl sm (.tup h1 r1))
          rcases e1 with e | e
          · subst e
            cases r1
            exact .inl rfl
          · exact .inr e
        · have hne : vs ≠ [] := fun e => e1 (.inl (by subst e; cases r1; rfl))
          by_cases e2 : k ≤ 0
          · have ee : (List.replicate k.toNat a).flatten = [] := by
              have : k.toNat = 0 := by omega
              rw [this]
              rfl
            rw [ee] at h
            exact rep_zero I hT c.1.1 e2 hne fun p hp => new_tup sm hp .nil h
          · have k2 : 2 ≤ k := by
              have : k ≠ 1 := fun e => e1 (.inr e)
              omega
            exact op_repT pins s σ H (.ref l) (.int k) _ _ Q I rfl ⟨t, rfl⟩ ⟨l, k, vs, rfl, rfl, hT, hne, k2, c.1.2, by rw [r1.length]; exact c.2, fun p hp => new_tup sm hp (r1.flat _) h⟩
    · exact h.elim
  · exact of_mul pins s σ H v w u u' Q I rv rw' ⟨_, _, S, G, sm, rx, ry, h⟩
/-! ### int * x of an own class; x op= y -/
theorem spO_ok {X : Cx} {G : Gh} {H : Hp} {o : Out D} {Q : VK} (h : sat X (Rp X.K) G H (okRes o) Q) : spO X.K G H o (fun v H' => okV v ∧ Q v H') (Est X) := (spO_okRes h).imp fun _ _ z => ⟨.inl z.1, z.2⟩
def rbinO (c : String) (F : Fn) (g : G2) : G2 := fun x y S => match x with
  | .int i => match insOf S y with
    | some (c', _) => if c' = c then okRes (F [y, .int i] S) else .no
    | none => g (.int i) y S
  | x => g x y S
theorem of_rmulO {X : Cx} {j : Nat} {c : String} {f f' : Addr} {F : Fn} {g : G2} (pl : Plain X.K (gaS X.K c)) (om : Own X.K (gaS X.K c) "__mul__" f') (o : Own X.K (gaS X.K c) "__rmul__" f) (hsub : PySem.W.subIn X.K (.ref (gaS X.K c)) (.type "int") = some false)
    (Ff : FnF X.prog X.w X.K X.mg X.base j f F) (hr : Room j X.A) (hg : OpF X (binaryOp .Mult) g) : OpF X (binaryOp .Mult) (rbinO c F g) := fun pins s σ H v w u u' Q I rv rw' ⟨x, y, S, G, sm, rx, ry, h⟩ => by
  unfold rbinO at h
  split at h
  · split at h
    · rename_i c' fs hi
      split at h
      · rename_i hc
        subst hc
        cases rx
        obtain ⟨b, dy, ws, rfl, hB, rf⟩ := sm.ins hi ry
        obtain ⟨cd, hcd, hm⟩ := pl
        exact op_rbinI (op := .Mult) PySem.F.slot_int_mul PySem.F.entry_int_mul (fun a b => PySem.F.args_int_mul_2 a b) int_mul_inst PySem.F.fills_int_mul (fun h k => PySem.W.fills_K k hcd hm om.at_) o hsub Ff hr passE pins s σ H _ _ u u' Q I rv rw' ⟨_, b, dy, ws, rfl, rfl, hB, [y, .int _], S, G, sm, .cons ry (.cons (.int _) .nil), spO_ok h⟩
      · exact h.elim
    · exact hg pins s σ H v w u u' Q I rv rw' ⟨_, _, S, G, sm, rx, ry, h⟩
  · exact hg pins s σ H v w u u' Q I rv rw' ⟨_, _, S, G, sm, rx, ry, h⟩
/-- what is known of x op= y where there is no method in place -/
structure Ips (X : Cx) (j : Nat) (op : Operator) (c : String) (F : Fn) : Prop where
  pl : Plain X.K (gaS X.K c)
  n1 : PySem.W.findIn X.K (.ref (gaS X.K c)) (dunderI op.info.2) = some none
  n2 : PySem.W.findIn X.K (.type "object") (dunderI op.info.2) = some none
  fn : ∃ f, Own X.K (gaS X.K c) (PySem.dunder op.info.2) f ∧ FnF X.prog X.w X.K X.mg X.base j f F
  rc : ∃ rc, PySem.W.findIn X.K (.ref (gaS X.K c)) (dunderR op.info.2) = some rc ∧ (rc = none ∨ ∃ g : Addr, rc = some (.ref g))
  i2 : ∃ ro, PySem.W.findIn X.K (.type "int") (dunderR op.info.2) = some ro
  ns : PySem.W.subIn X.K (.type "int") (.ref (gaS X.K c)) = some false
  fi : fillsNumberSlot (.type "int") op.info.2 = pure true
def ipO (c : String) (F : Fn) (g : G2) : G2 := binO c F g
theorem if_ipO {X : Cx} {j : Nat} {op : Operator} {c : String} {F : Fn} {g : G2} (B : Ips X j op c F) (hr : Room j X.A) (hg : IpF X op g) : IpF X op (ipO c F g) := fun pins s σ H v w u u' Q I rv rw' ⟨x, y, S, G, sm, rx, ry, h⟩ => by
  unfold ipO binO at h
  split at h
  · rename_i c1 fs hi
    split at h
    · rename_i hc
      subst hc
      obtain ⟨a, dx, ws, rfl, hA, rf⟩ := sm.ins hi rx
      obtain ⟨f, hown, Ff⟩ := B.fn
      split at h
      · rename_i c2 gs hi2
        split at h
        · rename_i hc2
          subst hc2
          obtain ⟨b, dy, zs, rfl, hB, rg⟩ := sm.ins hi2 ry
          exact ip_O B.pl B.n1 B.n2 hown Ff hr passE pins s σ H _ _ u u' Q I rv rw' ⟨a, b, dx, dy, ws, zs, rfl, rfl, hA, hB, [x, y], S, G, sm, .cons rx (.cons ry .nil), spO_ok h⟩
        · exact h.elim
      · split at h
        · cases ry
          obtain ⟨rc, hR, hp⟩ := B.rc
          obtain ⟨ro, h2⟩ := B.i2
          exact ip_I B.pl B.n1 B.n2 hown hR hp B.fi h2 B.ns Ff hr passE pins s σ H _ _ u u' Q I rv rw' ⟨a, _, dx, ws, rfl, rfl, hA, [x, .int _], S, G, sm, .cons rx (.cons (.int _) .nil), spO_ok h⟩
        · exact h.elim
    · exact h.elim
  · exact hg pins s σ H v w u u' Q I rv rw' ⟨x, y, S, G, sm, rx, ry, h⟩
def noG2 : G2 := fun _ _ _ => .no
theorem if_no {X : Cx} {op : Operator} : IpF X op noG2 := fun _ _ _ _ _ _ _ _ _ _ _ _ ⟨_, _, _, _, _, _, _, h⟩ => h.elim
theorem of_no {X : Cx} {f : Value → Value → Sem Value} : OpF X f noG2 := fun _ _ _ _ _ _ _ _ _ _ _ _ ⟨_, _, _, _, _, _, _, h⟩ => h.elim
/-! ### repr of an int -/
def reprI (g : Fn) : Fn := fun ds S => match ds with
  | [.int i] => if i.natAbs.log2 < 1920 then .ok (.str (strOf i)) S else .no
  | ds => g ds S
theorem cf_reprI {X : Cx} {g : Fn} (hg : CallF X (.builtin "repr") g) : CallF X (.builtin "repr") (reprI g) := fun pins s σ H vs us Q I rv ⟨ds, S, G, sm, r, h⟩ => by
  unfold reprI at h
  split at h
  · split at h
    · rename_i c
      obtain ⟨v, rfl, q⟩ := vals1 r
      cases q
      exact SkE.call_repr_int pins s σ H _ us Q I rv ⟨_, rfl, c, h G H _ .refl sm (.str _)⟩
    · exact h.elim
  · exact hg pins s σ H vs us Q I rv ⟨_, S, G, sm, r, h⟩
theorem cval_of {K : PySem.W.Frag} {C : Addr} {f : Str} {i : Int} (h : (match PySem.W.findCls K (.ref C) (.type "type") f with | some (.val (.int j _)) => decide (j = i) | _ => false) = true) : ∃ u, ClX.CVal K C (.type "type") f (.int i) u := by
  split at h
  · rename_i j t e
    have := of_decide_eq_true h
    subst this
    exact ⟨_, e, ⟨_, rfl⟩⟩
  · cases h
theorem memLk {β : Type} {c : String} {b : β} : ∀ {l : List (String × β)}, l.lookup c = some b → (c, b) ∈ l
  | [], h => by cases h
  | (k, v) :: l, h => by
    by_cases e : c = k
    · subst e
      simp at h
      subst h
      exact List.mem_cons_self
    · have e' : (c == k) = false := by simpa using e
      rw [List.lookup_cons, e'] at h
      exact List.mem_cons_of_mem _ (memLk h)
theorem u65 {j : Nat} {A : Around} (r : Room j A) : A.units + 65 < cLine := by have := r.un; omega
end PV
set_option Elab.async false
set_option linter.all false
set_option maxRecDepth 100000
set_option maxHeartbeats 4000000
/-! while -/
namespace PV
open PySem PySem.Spec PyProof.Rows L2 ZL
def whL (t : MT) (b : MS) : Nat → Ev → Sto → Out Fl
  | 0, _, _ => .no
  | n + 1, ρ, S => (t ρ S).bind fun c S1 => if c = true then (b ρ S1).bind fun f S2 => match f with
      | .nx ρ' => whL t b n ρ' S2
      | .ct ρ' => whL t b n ρ' S2
      | .bk ρ' => .ok (.nx ρ') S2
      | .rt d => .ok (.rt d) S2
    else .ok (.nx ρ) S1
theorem whL_up {t : MT} {b : MS} : ∀ {n m : Nat} {ρ : Ev} {S : Sto}, n ≤ m → whL t b n ρ S ≠ .no → whL t b m ρ S = whL t b n ρ S
  | 0, _, _, _, _, h => absurd rfl h
  | n + 1, 0, _, _, h, _ => absurd h (by omega)
  | n + 1, m + 1, ρ, S, hm, h => by
    unfold whL at h ⊢
    match et : t ρ S, h with
    | .ok false S1, _ => rfl
    | .ex _ _ _, _ => rfl
    | .no, _ => rfl
    | .ok true S1, h =>
      have h : (b ρ S1).bind (fun f S2 => match f with
        | .nx ρ' => whL t b n ρ' S2
        | .ct ρ' => whL t b n ρ' S2
        | .bk ρ' => .ok (.nx ρ') S2
        | .rt d => .ok (.rt d) S2) ≠ .no := h
      show (b ρ S1).bind (fun f S2 => match f with
        | .nx ρ' => whL t b m ρ' S2
        | .ct ρ' => whL t b m ρ' S2
        | .bk ρ' => .ok (.nx ρ') S2
        | .rt d => .ok (.rt d) S2) = (b ρ S1).bind (fun f S2 => match f with
        | .nx ρ' => whL t b n ρ' S2
        | .ct ρ' => whL t b n ρ' S2
        | .bk ρ' => .ok (.nx ρ') S2
        | .rt d => .ok (.rt d) S2)
      match eb : b ρ S1, h with
      | .ok (.nx ρ') S2, h => exact whL_up (by omega) h
      | .ok (.ct ρ') S2, h => exact whL_up (by omega) h
      | .ok (.bk ρ') S2, _ => rfl
      | .ok (.rt d) S2, _ => rfl
      | .ex _ _ _, _ => rfl
      | .no, _ => rfl
open Classical in
noncomputable def sWhl (t : MT) (b : MS) : MS := fun ρ S => if h : ∃ n, whL t b n ρ S ≠ .no then whL t b h.choose ρ S else .no
theorem whl_ok {t : MT} {b : MS} {n : Nat} {ρ : Ev} {S : Sto} {o : Out Fl} (h : whL t b n ρ S = o) (ho : o ≠ .no) : sWhl t b ρ S = o := by
  have hx : ∃ n, whL t b n ρ S ≠ .no := ⟨n, by rw [h]; exact ho⟩
  unfold sWhl
  rw [dif_pos hx]
  have h1 := hx.choose_spec
  rcases Nat.le_total n hx.choose with c | c
  · rw [whL_up c (by rw [h]; exact ho), h]
  · rw [← whL_up c h1, h]
theorem qs_whl {X : Cx} {c : Expr} {body : List Stmt} {mt : MT} {mb : MS} {pos : Pos} (hp : PassesOwn (model X.prog X.w) X.A X.env X.xe) (hc : QT X c mt) (hb : QSs X body mb) : QS X (.While c body [] pos) (sWhl mt mb) := qs_of (ps_while hp hc hb) fun ρ0 S0 G0 σ0 H0 D sm0 re0 h => by
  classical
  unfold sWhl at h
  split at h
  · rename_i hx
    refine ⟨fun m σ H => ∃ ρ S G, Sm X.K G S H ∧ Re X.K G ρ σ ∧ satS X G H (whL mt mb m ρ S) D, ⟨hx.choose, ρ0, S0, G0, sm0, re0, h⟩, ?_⟩
    rintro m σ H ⟨ρ, S, G, sm, re, q⟩
    match m, q with
    | 0, q => exact q.elim
    | m + 1, q =>
      unfold whL at q
      refine ⟨ρ, S, G, sm, re, (satS.bind (R := fun _ a b => a = b) q).imp fun b H1 w => ?_⟩
      obtain ⟨b', S1, G1, le1, sm1, rfl, q1⟩ := w
      cases b' with
      | false => exact q1 G1 H1 σ .refl sm1 (re.mono le1.le)
      | true =>
        refine ⟨fun σ' H' => ∃ ρ S G, Sm X.K G S H' ∧ Re X.K G ρ σ' ∧ satS X G H' (whL mt mb m ρ S) D, fun σ' H' z => ⟨m, by omega, z⟩, ρ, S1, G1, sm1, re.mono le1.le, ?_⟩
        have q2 : satS X G1 H1 ((mb ρ S1).bind fun f S2 => match f with
          | .nx ρ' => whL mt mb m ρ' S2
          | .ct ρ' => whL mt mb m ρ' S2
          | .bk ρ' => .ok (.nx ρ') S2
          | .rt d => .ok (.rt d) S2) D := q1
        match mb ρ S1, q2 with
        | .ok (.nx ρ') S', q2 => exact fun G3 H3 σ3 st3 sm3 re3 => ⟨ρ', S', G3, sm3, re3, q2.mono st3⟩
        | .ok (.ct ρ') S', q2 => exact fun G3 H3 σ3 st3 sm3 re3 => ⟨ρ', S', G3, sm3, re3, q2.mono st3⟩
        | .ok (.bk ρ') S', q2 => exact q2
        | .ok (.rt d) S', q2 => exact q2
        | .ex _ _ _, q2 => exact q2
        | .no, q2 => exact q2
  · exact h.elim
end PV
set_option Elab.async false
set_option linter.all false
set_option maxRecDepth 100000
set_option maxHeartbeats 1000000
/-! zip of a tuple and a list, either way round -/
namespace ZL
open PySem PySem.Spec PyProof.Rows L2 RZ
/-- the items of a tuple (true) or of a list -/
def AtSq : Bool → Heap → Addr → Array Value → Prop
  | true, g, a, m => g.IsTuple a m
  | false, g, a, m => g.IsList a m
def AtIt : Bool → Heap → Addr → Addr → Nat → Prop
  | true, g, c, a, k => g.IsTupleIter c a k
  | false, g, c, a, k => g.IsListIter c a k
theorem AtIt.has {t : Bool} {g : Heap} {c a : Addr} {k : Nat} (h : AtIt t g c a k) : ∃ o, g.get? c = some o ∧ ∀ v, o.data ≠ .cell v := by
  cases t with
  | true =>
    obtain ⟨o, e, _, d⟩ := h
    exact ⟨o, e, fun v z => by rw [d] at z; cases z⟩
  | false =>
    obtain ⟨o, e, _, d⟩ := h
    exact ⟨o, e, fun v z => by rw [d] at z; cases z⟩
theorem AtIt.move {t : Bool} {g g' : Heap} {c a : Addr} {k : Nat} (h : AtIt t g c a k) (e : ∀ o, g.get? c = some o → g'.get? c = some o) : AtIt t g' c a k := by
  cases t with
  | true => exact Heap.IsTupleIter.at h e
  | false => exact Heap.IsListIter.at h e
theorem AtSq.move {t : Bool} {g g' : Heap} {a : Addr} {m : Array Value} (h : AtSq t g a m) (e : ∀ o, g.get? a = some o → g'.get? a = some o) : AtSq t g' a m := by
  cases t with
  | true =>
    obtain ⟨o, h1, h2⟩ := id h
    exact ⟨o, e o h1, h2⟩
  | false => exact Heap.IsList.at h e
theorem AtSq.has {t : Bool} {g : Heap} {a : Addr} {m : Array Value} (h : AtSq t g a m) : ∃ o, g.get? a = some o := by
  cases t with
  | true => exact let ⟨o, e, _⟩ := id h; ⟨o, e⟩
  | false => exact let ⟨o, e, _⟩ := id h; ⟨o, e⟩
theorem draws_sq {P : Program} {w : World} {A : Around} (hh : A.handled = none) (t : Bool) (c a : Addr) (ne : a ≠ c) (m : Array Value) :
    Draws P w A c [c, a] m.size (fun i v => m[i]? = some v) (fun i g => AtIt t g c a i ∧ AtSq t g a m) := by
  cases t with
  | false => exact Draws.list hh c a ne m
  | true =>
    exact {
      live := fun _ _ st => let ⟨o, e, _⟩ := st.1.has; ⟨o, e⟩
      frame := fun _ _ _ st k => ⟨st.1.move fun o e => k c (by simp) o e, st.2.move fun o e => k a (by simp) o e⟩
      item := fun i s Q E hi st hQ => by
        refine nextOf_tuple_item (show s.heap.IsTupleIter c a i from st.1) (show s.heap.IsTuple a m from st.2) (x := m[i]) (by simp [hi]) fun g it sb => ?_
        exact hQ _ g s.toks (by simp [hi]) ⟨it, st.2.move fun o e => sb.extBut _ _ ne e⟩ sb
      done := fun s Q E st hE => nextOf_tuple_end hh (show s.heap.IsTupleIter c a _ from st.1) (show s.heap.IsTuple a m from st.2) (by simp) hE }
/-- the abstract sequence -/
def SqA (K : PySem.W.Frag) : Bool → Hp → Addr → List V → Prop
  | true, H, a, xs => SqT K H a xs
  | false, H, a, xs => SqL K H a xs
theorem SqA.at {X : Cx} {pins : List (Addr × Obj)} {σ : L2.St} {H : Hp} {s : Shared} {t : Bool} {a : Addr} {xs : List V} (I : Inv X pins σ H s) (h : SqA X.K t H a xs) : ∃ its : List Value, Vals xs its ∧ AtSq t s.heap a its.toArray := by
  cases t with
  | true =>
    obtain ⟨its, rv, p, _⟩ := I.tuple (show SqT X.K H a xs from h)
    exact ⟨its, rv, p⟩
  | false =>
    obtain ⟨its, rv, p, _⟩ := I.list (show SqL X.K H a xs from h)
    exact ⟨its, rv, p.isList⟩
theorem SqA.one {X : Cx} {pins : List (Addr × Obj)} {σ : L2.St} {H : Hp} {s : Shared} {t : Bool} {a : Addr} {xs ys : List V} (I : Inv X pins σ H s) (h : SqA X.K t H a xs) (h' : SqA X.K t H a ys) : xs = ys := by
  cases t with
  | true => exact I.tuple_inj h h'
  | false => exact I.list_inj h h'
def ItzM (K : PySem.W.Frag) (t u : Bool) (a b : Addr) : It :=
  ⟨fun i H => ∃ (xs ys : List V) (x y : V), SqA K t H a xs ∧ SqA K u H b ys ∧ xs[i]? = some x ∧ ys[i]? = some y,
    fun i H v H' => ∃ T x y, v = .ref T ∧ H T = none ∧ H' = upd H T (.tup [x, y]) ∧ (∀ xs, SqA K t H a xs → xs[i]? = some x) ∧ ∀ ys, SqA K u H b ys → ys[i]? = some y,
    fun i H => ∃ xs ys : List V, SqA K t H a xs ∧ SqA K u H b ys ∧ i ≤ xs.length ∧ i ≤ ys.length ∧ (xs.length = i ∨ ys.length = i)⟩
theorem turn_zipM {P : Program} {w : World} {K : PySem.W.Frag} {elts : List Expr} {kk : Nat} {tpos : Pos} {t u : Bool} {a b z TI TO i1 i2 : Addr} (D : ZipApart z TI TO i1 i2 a b) :
    Turn P w K (.Tuple elts kk tpos) (ItzM K t u a b) [z, TI, TO, i1, i2] z (fun i g => IsZip g z TI TO .none ∧ IsPair g TI (.ref i1) (.ref i2) ∧ (∃ x y, IsPair g TO x y) ∧ AtIt t g i1 a i ∧ AtIt u g i2 b i) where
  mem := by simp
  obj := fun i g st c hc => by
    obtain ⟨hz, hTI, ⟨x, y, hTO⟩, m1, m2⟩ := st
    simp only [List.mem_cons, List.not_mem_nil, or_false] at hc
    rcases hc with q | q | q | q | q
    · subst q; exact ⟨_, hz, fun v q => nomatch q⟩
    · subst q; exact ⟨_, hTI, fun v q => nomatch q⟩
    · subst q; exact ⟨_, hTO, fun v q => nomatch q⟩
    · subst q; exact m1.has
    · subst q; exact m2.has
  keep := fun i g g' st k => by
    obtain ⟨hz, hTI, ⟨x, y, hTO⟩, m1, m2⟩ := st
    exact ⟨k z (by simp) _ hz, k TI (by simp) _ hTI, ⟨x, y, k TO (by simp) _ hTO⟩, m1.move fun o q => k i1 (by simp) o q, m2.move fun o q => k i2 (by simp) o q⟩
  item := by
    intro X hP hw hK hc i pins s σ H E I hf st hg
    subst hP hw hK
    obtain ⟨hz, hTI, ⟨x0, y0, hTO⟩, m1, m2⟩ := st
    obtain ⟨xs, ys, x, y, hqx, hqy, hx, hy⟩ := hg
    obtain ⟨its, rv, p⟩ := SqA.at I hqx
    obtain ⟨its2, rv2, p2⟩ := SqA.at I hqy
    obtain ⟨v, hv, ru⟩ := rv.get hx
    obtain ⟨v2, hv2, ru2⟩ := rv2.get hy
    have hzl : z < s.heap.objs.size := Heap.lt_size hz
    have hd : X.A.in1.handled = none := I.ok.hd hc
    refine wpAny_pyNext_zipD2_item (S := ⟨D.TIz, D.TOz, D.TITO, D.TIi1, by simp, by simp [D.i1z.symm, D.l1z.symm], by simp [D.TOi1, D.l1TO.symm], D.TIi2, by simp, by simp [D.i2z.symm, D.l2z.symm], by simp [D.TOi2, D.l2TO.symm], by simp [D.i12, D.l2i1.symm], by simp [D.i12.symm, D.l1i2.symm]⟩)
      (D1 := draws_sq hd t i1 a D.l1i1 its.toArray) (D2 := draws_sq hd u i2 b D.l2i2 its2.toArray) (i := i) hz hTI hTO ⟨m1, p⟩ ⟨m2, p2⟩ (by simpa using (List.getElem?_eq_some_iff.mp hv).1) (by simpa using (List.getElem?_eq_some_iff.mp hv2).1)
      fun w1 w2 h' tk e1 e2 z' TO' n1 n2 hT hsz hk => ?_
    have ew : w1 = v := by simpa [hv] using e1.symm
    have ew2 : w2 = v2 := by simpa [hv2] using e2.symm
    subst ew ew2
    refine ⟨_, rfl, wpAny_letOwnedTupleGo_zip (s := { s with heap := h', toks := tk }) z' fun h'' z'' sb => ?_⟩
    have hT2 : h''.get? s.heap.objs.size = some { cls := .type "tuple", data := .seq #[w1, w2] } := (sb.2 _ (Nat.ne_of_gt hzl)).trans hT
    have new : ObjOk X.prog X.w (upd H s.heap.objs.size (.tup [x, y])) h'' s.heap.objs.size (.tup [x, y]) :=
      ⟨by show 2 ≤ sizeLine; decide, [w1, w2], .cons ru (.cons ru2 .nil), ⟨_, hT2, rfl, _, rfl⟩⟩
    have I1 : Inv X pins σ (upd H s.heap.objs.size (.tup [x, y])) { s with heap := h'', toks := tk } :=
      I.turnedNew (t' := tk) (ch := [z, TI, TO, i1, i2]) (fun c o hb q => by
        have nz : c ≠ z ∧ c ≠ TI ∧ c ≠ TO ∧ c ≠ i1 ∧ c ≠ i2 := by simpa [List.mem_cons] using hb
        exact (sb.2 c nz.1).trans (hk c o nz.1 nz.2.2.1 nz.2.2.2.1 nz.2.2.2.2 q)) hf (Nat.le_refl _) new
    refine ⟨.ref s.heap.objs.size, _, I1, rfl, ⟨_, x, y, rfl, I.hok.fresh (Nat.le_refl _), rfl, fun l hl => by rw [SqA.one I hl hqx]; exact hx, fun l hl => by rw [SqA.one I hl hqy]; exact hy⟩, ⟨z'', ?_, ⟨w1, w2, ?_⟩, ?_, ?_⟩, fun c hcm => ?_⟩
    · exact (sb.2 _ D.TIz).trans (hk _ _ D.TIz D.TITO D.TIi1 D.TIi2 hTI)
    · exact (sb.2 _ D.TOz).trans TO'
    · exact n1.1.move fun o q => (sb.2 _ D.i1z).trans q
    · exact n2.1.move fun o q => (sb.2 _ D.i2z).trans q
    · have hlt : c < s.heap.objs.size := by
        simp only [List.mem_cons, List.not_mem_nil, or_false] at hcm
        rcases hcm with q | q | q | q | q
        · rw [q]; exact hzl
        · rw [q]; exact Heap.lt_size hTI
        · rw [q]; exact Heap.lt_size hTO
        · rw [q]; exact let ⟨_, e, _⟩ := m1.has; Heap.lt_size e
        · rw [q]; exact let ⟨_, e, _⟩ := m2.has; Heap.lt_size e
      rw [upd_ne (Nat.ne_of_lt hlt)]
      exact (hf c hcm).1
  done := by
    intro X hP hw hK hc i pins s σ H E I hf st hg
    subst hP hw hK
    obtain ⟨hz, hTI, ⟨x0, y0, hTO⟩, m1, m2⟩ := st
    obtain ⟨xs, ys, hqx, hqy, le1, le2, hend⟩ := hg
    obtain ⟨its, rv, p⟩ := SqA.at I hqx
    obtain ⟨its2, rv2, p2⟩ := SqA.at I hqy
    have l1 := rv.length
    have l2 := rv2.length
    have hd : X.A.in1.handled = none := I.ok.hd hc
    refine wpAny_pyNext_zipD2_end (S := ⟨D.TIz, D.TOz, D.TITO, D.TIi1, by simp, by simp [D.i1z.symm, D.l1z.symm], by simp [D.TOi1, D.l1TO.symm], D.TIi2, by simp, by simp [D.i2z.symm, D.l2z.symm], by simp [D.TOi2, D.l2TO.symm], by simp [D.i12, D.l2i1.symm], by simp [D.i12.symm, D.l1i2.symm]⟩)
      (D1 := draws_sq hd t i1 a D.l1i1 its.toArray) (D2 := draws_sq hd u i2 b D.l2i2 its2.toArray) (i := i) hz hTI hTO ⟨m1, p⟩ ⟨m2, p2⟩ (by simp; omega) (by simp; omega) (by simp; omega)
      fun h' tk hk => ⟨rfl, I.turnedL (t' := tk) (ch := [z, TI, TO, i1, i2]) (fun c o hb q => by
        have nz : c ≠ z ∧ c ≠ TI ∧ c ≠ TO ∧ c ≠ i1 ∧ c ≠ i2 := by simpa [List.mem_cons] using hb
        exact hk c o nz.1 nz.2.2.1 nz.2.2.2.1 nz.2.2.2.2 q) hf⟩
  self := fun A i s Q E st h => wpAny_pyIter_zip st.1 h
abbrev hpA (g : Heap) (c1 : String) (l1 : Addr) : Heap := g.push { cls := .type c1, data := .fields #[.ref l1, .int 0 0] }
abbrev hpB (g : Heap) (c1 c2 : String) (l1 l2 : Addr) : Heap := (hpA g c1 l1).push { cls := .type c2, data := .fields #[.ref l2, .int 0 0] }
abbrev hpC (g : Heap) (c1 c2 : String) (l1 l2 : Addr) : Heap := (hpB g c1 c2 l1 l2).push { cls := .type "tuple", data := .seq #[.ref g.objs.size, .ref (hpA g c1 l1).objs.size] }
abbrev hpD (g : Heap) (c1 c2 : String) (l1 l2 : Addr) : Heap := (hpC g c1 c2 l1 l2).push { cls := .type "tuple", data := .seq #[.none, .none] }
abbrev hpE (g : Heap) (c1 c2 : String) (l1 l2 : Addr) : Heap := (hpD g c1 c2 l1 l2).push { cls := .type "zip", data := .fields #[.none, .bool false, .bool false, .ref (hpB g c1 c2 l1 l2).objs.size, .ref (hpC g c1 c2 l1 l2).objs.size] }

theorem meets_tl (l1 l2 : Addr) (m n : Array Value) :
    Meets (Builtin.«zip.__new__» ⟨[.type "zip", .ref l1, .ref l2], []⟩) (fun _ R s => s.heap.IsTuple l1 m ∧ s.heap.IsList l2 n ∧
      R (.ok (.ret (.ref (hpD s.heap "tuple_iterator" "list_iterator" l1 l2).objs.size))) { s with heap := hpE s.heap "tuple_iterator" "list_iterator" l1 l2 }) :=
  .of_wp fun prog w A R s h => by
    obtain ⟨hp, g, d, tk, os⟩ := s
    obtain ⟨hl1, hl2, h⟩ := h
    have hsub := sub_zip
    have hL1 : Heap.IsTuple (Shared.heap ⟨hp, g, d, tk, os⟩) l1 m := hl1
    have hL2 : Heap.IsList (Shared.heap ⟨hpA hp "tuple_iterator" l1, g, d, tk, os⟩) l2 n := Heap.IsList.push hl2 _
    wp_walk using wpAny_pyIter_tuple hL1, wpAny_pyIter_list hL2
    exact ⟨_, rfl, h⟩

theorem meets_lt (l1 l2 : Addr) (m n : Array Value) :
    Meets (Builtin.«zip.__new__» ⟨[.type "zip", .ref l1, .ref l2], []⟩) (fun _ R s => s.heap.IsList l1 m ∧ s.heap.IsTuple l2 n ∧
      R (.ok (.ret (.ref (hpD s.heap "list_iterator" "tuple_iterator" l1 l2).objs.size))) { s with heap := hpE s.heap "list_iterator" "tuple_iterator" l1 l2 }) :=
  .of_wp fun prog w A R s h => by
    obtain ⟨hp, g, d, tk, os⟩ := s
    obtain ⟨hl1, hl2, h⟩ := h
    have hsub := sub_zip
    have hL1 : Heap.IsList (Shared.heap ⟨hp, g, d, tk, os⟩) l1 m := hl1
    have hL2 : Heap.IsTuple (Shared.heap ⟨hpA hp "list_iterator" l1, g, d, tk, os⟩) l2 n := Heap.IsTuple.push hl2 _
    wp_walk using wpAny_pyIter_list hL1, wpAny_pyIter_tuple hL2
    exact ⟨_, rfl, h⟩

def itC : Bool → String
  | true => "tuple_iterator"
  | false => "list_iterator"
theorem call_zipM {prog : Program} {w : World} {A : Around} {E : Value → Shared → Prop} {s : Shared} {t : Bool} {l1 l2 : Addr} {m n : Array Value} {Q : Value → Shared → Prop} (hl1 : AtSq t s.heap l1 m) (hl2 : AtSq (!t) s.heap l2 n)
    (h : ∀ g, IsZip g (s.heap.objs.size + 4) (s.heap.objs.size + 2) (s.heap.objs.size + 3) .none → IsPair g (s.heap.objs.size + 2) (.ref s.heap.objs.size) (.ref (s.heap.objs.size + 1)) →
      IsPair g (s.heap.objs.size + 3) .none .none → AtIt t g s.heap.objs.size l1 0 → AtIt (!t) g (s.heap.objs.size + 1) l2 0 →
      (∀ c o, s.heap.get? c = some o → g.get? c = some o) → Q (.ref (s.heap.objs.size + 4)) { s with heap := g }) :
    wpAny (model prog w) A (call (.type "zip") [.ref l1, .ref l2]) Q E s := by
  have all : ∀ c1 c2 : String, (∀ i1 k, AtIt t (hpE s.heap c1 c2 l1 l2) i1 l1 k = (∃ o, (hpE s.heap c1 c2 l1 l2).get? i1 = some o ∧ o.cls = .type c1 ∧ o.data = .fields #[.ref l1, .int k 0])) →
      (∀ i2 k, AtIt (!t) (hpE s.heap c1 c2 l1 l2) i2 l2 k = (∃ o, (hpE s.heap c1 c2 l1 l2).get? i2 = some o ∧ o.cls = .type c2 ∧ o.data = .fields #[.ref l2, .int k 0])) →
      (∃ o, (hpE s.heap c1 c2 l1 l2).get? (s.heap.objs.size + 4) = some o ∧ o.cls = .type "zip") ∧ Q (.ref (hpD s.heap c1 c2 l1 l2).objs.size) { s with heap := hpE s.heap c1 c2 l1 l2 } := fun c1 c2 a1 a2 => by
    have z1 : (hpA s.heap c1 l1).objs.size = s.heap.objs.size + 1 := Heap.size_push ..
    have z2 : (hpB s.heap c1 c2 l1 l2).objs.size = s.heap.objs.size + 2 := by rw [Heap.size_push, z1]
    have z3 : (hpC s.heap c1 c2 l1 l2).objs.size = s.heap.objs.size + 3 := by rw [Heap.size_push, z2]
    have z4 : (hpD s.heap c1 c2 l1 l2).objs.size = s.heap.objs.size + 4 := by rw [Heap.size_push, z3]
    have w5 : (hpE s.heap c1 c2 l1 l2).get? (hpD s.heap c1 c2 l1 l2).objs.size = some _ := Heap.get?_push_size _ rfl
    have w4 : (hpE s.heap c1 c2 l1 l2).get? (hpC s.heap c1 c2 l1 l2).objs.size = some _ := Heap.get?_push_of_some _ (Heap.get?_push_size _ rfl)
    have w3 : (hpE s.heap c1 c2 l1 l2).get? (hpB s.heap c1 c2 l1 l2).objs.size = some _ := Heap.get?_push_of_some _ (Heap.get?_push_of_some _ (Heap.get?_push_size _ rfl))
    have w2 : (hpE s.heap c1 c2 l1 l2).get? (hpA s.heap c1 l1).objs.size = some _ := Heap.get?_push_of_some _ (Heap.get?_push_of_some _ (Heap.get?_push_of_some _ (Heap.get?_push_size _ rfl)))
    have w1 : (hpE s.heap c1 c2 l1 l2).get? s.heap.objs.size = some _ := Heap.get?_push_of_some _ (Heap.get?_push_of_some _ (Heap.get?_push_of_some _ (Heap.get?_push_of_some _ (Heap.get?_push_size _ rfl))))
    rw [z2, z3, z4] at w5
    rw [z1, z2] at w3
    rw [z3] at w4
    rw [z1] at w2
    rw [z4]
    exact ⟨⟨_, w5, rfl⟩, h _ w5 w3 w4 (by rw [a1]; exact ⟨_, w1, rfl, rfl⟩) (by rw [a2]; exact ⟨_, w2, rfl, rfl⟩) fun c o x =>
      Heap.get?_push_of_some _ (Heap.get?_push_of_some _ (Heap.get?_push_of_some _ (Heap.get?_push_of_some _ (Heap.get?_push_of_some _ x))))⟩
  cases t with
  | true =>
    refine callType_new F.called_zip (by decide) (F.typeCall_zip_2 _ _) (F.newCall_zip_2 _ _) (fun obj => F.args_object_init_3 obj _ _) F.entry_zip_new (meets_tl l1 l2 m n) ⟨hl1, hl2, ?_⟩
    have := all "tuple_iterator" "list_iterator" (fun _ _ => rfl) fun _ _ => rfl
    refine ⟨?_, this.2⟩
    have e : (hpD s.heap "tuple_iterator" "list_iterator" l1 l2).objs.size = s.heap.objs.size + 4 := by simp [Heap.size_push]
    rw [← e] at this
    exact this.1
  | false =>
    refine callType_new F.called_zip (by decide) (F.typeCall_zip_2 _ _) (F.newCall_zip_2 _ _) (fun obj => F.args_object_init_3 obj _ _) F.entry_zip_new (meets_lt l1 l2 m n) ⟨hl1, hl2, ?_⟩
    have := all "list_iterator" "tuple_iterator" (fun _ _ => rfl) fun _ _ => rfl
    refine ⟨?_, this.2⟩
    have e : (hpD s.heap "list_iterator" "tuple_iterator" l1 l2).objs.size = s.heap.objs.size + 4 := by simp [Heap.size_push]
    rw [← e] at this
    exact this.1
/-- zip of two sequences of any two of the kinds -/
def iZipM (K : PySem.W.Frag) (ta : TA) : TI := fun σ H R => ta σ H fun vs H1 => ∃ a b xs ys, vs = [.ref a, .ref b] ∧
  ((SqL K H1 a xs ∧ SqL K H1 b ys ∧ R (Itz K a b) H1) ∨ (SqT K H1 a xs ∧ SqT K H1 b ys ∧ R (ItzT K a b) H1) ∨ ∃ t, SqA K t H1 a xs ∧ SqA K (!t) H1 b ys ∧ R (ItzM K t (!t) a b) H1)
theorem pi_zipM {X : Cx} {e e2 : Expr} {ta : TA} {p pos tpos : Pos} {elts : List Expr} {kk : Nat} (hg : Gl X "zip") (hm : X.mg "zip" = none) (ha : PA X [e, e2] ta)
    (hs : starEach [e, e2] X.env = (false, eval e X.env) :: starEach [e2] X.env := by rfl) (hpl : (backTo pos (starEach [e2] X.env)).any (·.1) = false := by rfl) :
    PI X (.Tuple elts kk tpos) (.Call (.Name "zip" p) [e, e2] [] pos) (iZipM X.K ta) := by
  refine ⟨fun pins s σ H R I h => ?_⟩
  refine Call_ (ld_blt I hg hm PyProof.Rows.boot_zip (PyProof.Rows.callWith_type1 (thn (ha.run pos pins s σ H _ I h) fun us s1 ⟨vs, H1, I1, r1, q1⟩ => ?_) hs hpl))
  obtain ⟨a, b, xs, ys, ex, q1⟩ := q1
  subst ex
  cases r1 with
  | cons r rr =>
    cases rr with
    | cons r' rr =>
      cases rr
      cases r
      cases r'
      have fresh5 : ∀ c, c ∈ [s1.heap.objs.size + 4, s1.heap.objs.size + 2, s1.heap.objs.size + 3, s1.heap.objs.size, s1.heap.objs.size + 1] → FpOk X pins H1 c := fun c hcm => by
        have hle : s1.heap.objs.size ≤ c := by
          simp only [List.mem_cons, List.not_mem_nil, or_false] at hcm
          omega
        exact I1.fpOk hle (I1.hok.fresh hle)
      rcases q1 with ⟨hqx, hqy, q⟩ | ⟨hqx, hqy, q⟩ | ⟨t, hqx, hqy, q⟩
      · obtain ⟨its, rv, p1, _⟩ := I1.list hqx
        obtain ⟨its2, rv2, p2, _⟩ := I1.list hqy
        refine call_zip_2 p1.isList p2.isList fun g hz hTI hTO m1 m2 hsz hk => wpAny_pyIter_zip hz ?_
        exact ⟨s1.heap.objs.size + 4, [s1.heap.objs.size + 4, s1.heap.objs.size + 2, s1.heap.objs.size + 3, s1.heap.objs.size, s1.heap.objs.size + 1], _, _, H1, rfl, I1.kept (t' := s1.toks) hk, turn_zip (PySem.W.ktu_apart s1.heap.objs.size a b p1.lt p2.lt), ⟨hz, hTI, ⟨_, _, hTO⟩, m1, m2⟩, fresh5, q⟩
      · obtain ⟨its, rv, p1, _⟩ := I1.tuple hqx
        obtain ⟨its2, rv2, p2, _⟩ := I1.tuple hqy
        obtain ⟨o1, ho1, _⟩ := id p1
        obtain ⟨o2, ho2, _⟩ := id p2
        refine call_zipT (show s1.heap.IsTuple a its.toArray from p1) (show s1.heap.IsTuple b its2.toArray from p2) fun g hz hTI hTO m1 m2 hsz hk => wpAny_pyIter_zip hz ?_
        exact ⟨s1.heap.objs.size + 4, [s1.heap.objs.size + 4, s1.heap.objs.size + 2, s1.heap.objs.size + 3, s1.heap.objs.size, s1.heap.objs.size + 1], _, _, H1, rfl, I1.kept (t' := s1.toks) hk, turn_zipT (PySem.W.ktu_apart s1.heap.objs.size a b (Heap.lt_size ho1) (Heap.lt_size ho2)), ⟨hz, hTI, ⟨_, _, hTO⟩, m1, m2⟩, fresh5, q⟩
      · obtain ⟨its, rv, p1⟩ := SqA.at I1 hqx
        obtain ⟨its2, rv2, p2⟩ := SqA.at I1 hqy
        obtain ⟨o1, ho1⟩ := p1.has
        obtain ⟨o2, ho2⟩ := p2.has
        refine call_zipM p1 p2 fun g hz hTI hTO m1 m2 hk => wpAny_pyIter_zip hz ?_
        exact ⟨s1.heap.objs.size + 4, [s1.heap.objs.size + 4, s1.heap.objs.size + 2, s1.heap.objs.size + 3, s1.heap.objs.size, s1.heap.objs.size + 1], _, _, H1, rfl, I1.kept (t' := s1.toks) hk, turn_zipM (PySem.W.ktu_apart s1.heap.objs.size a b (Heap.lt_size ho1) (Heap.lt_size ho2)), ⟨hz, hTI, ⟨_, _, hTO⟩, m1, m2⟩, fresh5, q⟩
end ZL
set_option Elab.async false
set_option linter.all false
set_option maxRecDepth 100000
set_option maxHeartbeats 4000000
/-! zip of two lists, of two tuples -/
namespace PV
open PySem PySem.Spec PyProof.Rows L2 ZL RZ
def zipD (xs ys : List D) : List D := (xs.zip ys).map fun p => .tup [p.1, p.2]
theorem zipD_length (xs ys : List D) : (zipD xs ys).length = min xs.length ys.length := by simp [zipD]
theorem zipD_get {xs ys : List D} {i : Nat} {d : D} (h : (zipD xs ys)[i]? = some d) : ∃ x y, xs[i]? = some x ∧ ys[i]? = some y ∧ d = .tup [x, y] := by
  unfold zipD at h
  rw [List.getElem?_map] at h
  obtain ⟨⟨x, y⟩, hp, rfl⟩ := Option.map_eq_some_iff.mp h
  have := List.getElem?_zip_eq_some.mp hp
  exact ⟨x, y, this.1, this.2, rfl⟩
theorem SqA.up {K : PySem.W.Frag} {G G' : Gh} {S : Sto} {H : Hp} {t : Bool} {a : Addr} {vs : List V} (h : SqA K t G.F a vs) (le : G.le G') (sm : Sm K G' S H) : SqA K t H a vs := by
  cases t with
  | true => exact SqT.mono (SqT.mono h le.1) sm.fr
  | false => exact SqL.mono (SqL.mono h le.1) sm.fr
section
variable {K : PySem.W.Frag} {G : Gh}
theorem walkZ {xs ys : List D} {vs ws : List V} {a b : Addr} (h : SqL K G.F a vs) (h' : SqL K G.F b ws) (r : Rps K G xs vs) (r' : Rps K G ys ws) : WalkD K G (zipD xs ys) none (Itz K a b) where
  goes := fun i G' S H le sm _ hi => (walk_zip rfl).goes i H (by rw [r.length, r'.length]; rw [zipD_length] at hi; exact hi) ⟨SqL.mono (SqL.mono h le.1) sm.fr, SqL.mono (SqL.mono h' le.1) sm.fr⟩
  stops := fun G' S H le sm _ => by
    rw [zipD_length, ← r.length, ← r'.length]
    exact (walk_zip rfl).stops H ⟨SqL.mono (SqL.mono h le.1) sm.fr, SqL.mono (SqL.mono h' le.1) sm.fr⟩
  yields := fun i G' S H x H' d le sm _ hd y => by
    have hi : i < min vs.length ws.length := by rw [r.length, r'.length]; have := (List.getElem?_eq_some_iff.mp hd).1; rw [zipD_length] at this; exact this
    obtain ⟨T, v, w, rfl, hT, hH, h4, h5⟩ := (walk_zip rfl).yields i H x H' hi ⟨SqL.mono (SqL.mono h le.1) sm.fr, SqL.mono (SqL.mono h' le.1) sm.fr⟩ y
    obtain ⟨x, y, h6, h7, rfl⟩ := zipD_get hd
    obtain ⟨d1, h8, h9⟩ := r.get' h4
    rw [h6] at h8
    cases h8
    obtain ⟨d2, h10, h11⟩ := r'.get' h5
    rw [h7] at h10
    cases h10
    exact pair_yield (xs := []) (o := none) sm hT hH (h9.mono le) (h11.mono le)
theorem walkZT {xs ys : List D} {vs ws : List V} {a b : Addr} (h : SqT K G.F a vs) (h' : SqT K G.F b ws) (r : Rps K G xs vs) (r' : Rps K G ys ws) : WalkD K G (zipD xs ys) none (ItzT K a b) where
  goes := fun i G' S H le sm _ hi => by
    rw [zipD_length, ← r.length, ← r'.length] at hi
    have h1 : i < vs.length := by omega
    have h2 : i < ws.length := by omega
    exact ⟨vs, ws, vs[i], ws[i], SqT.mono (SqT.mono h le.1) sm.fr, SqT.mono (SqT.mono h' le.1) sm.fr, by simp [h1], by simp [h2]⟩
  stops := fun G' S H le sm _ => by
    rw [zipD_length, ← r.length, ← r'.length]
    exact ⟨vs, ws, SqT.mono (SqT.mono h le.1) sm.fr, SqT.mono (SqT.mono h' le.1) sm.fr, by omega⟩
  yields := fun i G' S H x H' d le sm _ hd y => by
    obtain ⟨T, v, w, rfl, hT, hH, h4, h5⟩ := y
    have h4 := h4 vs (SqT.mono (SqT.mono h le.1) sm.fr)
    have h5 := h5 ws (SqT.mono (SqT.mono h' le.1) sm.fr)
    obtain ⟨x, y, h6, h7, rfl⟩ := zipD_get hd
    obtain ⟨d1, h8, h9⟩ := r.get' h4
    rw [h6] at h8
    cases h8
    obtain ⟨d2, h10, h11⟩ := r'.get' h5
    rw [h7] at h10
    cases h10
    exact pair_yield (xs := []) (o := none) sm hT hH (h9.mono le) (h11.mono le)
theorem walkZM {xs ys : List D} {vs ws : List V} {t u : Bool} {a b : Addr} (h : SqA K t G.F a vs) (h' : SqA K u G.F b ws) (r : Rps K G xs vs) (r' : Rps K G ys ws) : WalkD K G (zipD xs ys) none (ItzM K t u a b) where
  goes := fun i G' S H le sm _ hi => by
    rw [zipD_length, ← r.length, ← r'.length] at hi
    have h1 : i < vs.length := by omega
    have h2 : i < ws.length := by omega
    exact ⟨vs, ws, vs[i], ws[i], SqA.up h le sm, SqA.up h' le sm, by simp [h1], by simp [h2]⟩
  stops := fun G' S H le sm _ => by
    rw [zipD_length, ← r.length, ← r'.length]
    exact ⟨vs, ws, SqA.up h le sm, SqA.up h' le sm, by omega, by omega, by omega⟩
  yields := fun i G' S H x H' d le sm _ hd y => by
    obtain ⟨T, v, w, rfl, hT, hH, h4, h5⟩ := y
    have h4 := h4 vs (SqA.up h le sm)
    have h5 := h5 ws (SqA.up h' le sm)
    obtain ⟨x, y, h6, h7, rfl⟩ := zipD_get hd
    obtain ⟨d1, h8, h9⟩ := r.get' h4
    rw [h6] at h8
    cases h8
    obtain ⟨d2, h10, h11⟩ := r'.get' h5
    rw [h7] at h10
    cases h10
    exact pair_yield (xs := []) (o := none) sm hT hH (h9.mono le) (h11.mono le)
end
def zpD (ds : List D) (S1 : Sto) : Out (List D × Option Nat) := match ds with
  | [.lst xs, .lst ys] => .ok (zipD xs ys, none) S1
  | [.tup xs, .tup ys] => .ok (zipD xs ys, none) S1
  | [.tup xs, .lst ys] => .ok (zipD xs ys, none) S1
  | [.lst xs, .tup ys] => .ok (zipD xs ys, none) S1
  | _ => .no
def iZp (m : MA) : MI := fun ρ S => (m ρ S).bind zpD
theorem qi_zip {X : Cx} {e e2 : Expr} {ms : MA} {p pos tpos : Pos} {elts : List Expr} {kk : Nat} (hm : X.mg "zip" = none) (ha : QA X [e, e2] ms) (hg : Gl X "zip" := by rfl)
    (hs : starEach [e, e2] X.env = (false, eval e X.env) :: starEach [e2] X.env := by rfl) (hpl : (backTo pos (starEach [e2] X.env)).any (·.1) = false := by rfl) :
    QI X (.Tuple elts kk tpos) (.Call (.Name "zip" p) [e, e2] [] pos) (iZp ms) := ⟨fun pins s σ H R I ⟨ρ, S, G, sm, re, q⟩ => (pi_zipM hg hm ha hs hpl).run pins s σ H R I (by
  have q : sat X (fun G' (a : List D × Option Nat) (J : It) => WalkD X.K G' a.1 a.2 J) G H ((ms ρ S).bind zpD) (fun J H' => R J H') := q
  refine ⟨ρ, S, G, sm, re, (sat.bind (R := Rps X.K) q).imp fun vs H1 w => ?_⟩
  obtain ⟨ds, S1, G1, le1, sm1, r1, q1⟩ := w
  unfold zpD at q1
  split at q1
  · obtain ⟨v, w, rfl, h1, h2⟩ := vals2' r1
    cases h1 with
    | lst a b =>
      cases h2 with
      | lst a' b' => exact ⟨_, _, _, _, rfl, .inl ⟨SqL.of (sm1.fr _ _ a), SqL.of (sm1.fr _ _ a'), q1 G1 H1 _ .refl sm1 (walkZ (SqL.of a) (SqL.of a') b b')⟩⟩
  · obtain ⟨v, w, rfl, h1, h2⟩ := vals2' r1
    cases h1 with
    | tup a b =>
      cases h2 with
      | tup a' b' => exact ⟨_, _, _, _, rfl, .inr (.inl ⟨SqT.mono a sm1.fr, SqT.mono a' sm1.fr, q1 G1 H1 _ .refl sm1 (walkZT a a' b b')⟩)⟩
  · obtain ⟨v, w, rfl, h1, h2⟩ := vals2' r1
    cases h1 with
    | tup a b =>
      cases h2 with
      | lst a' b' => exact ⟨_, _, _, _, rfl, .inr (.inr ⟨true, SqT.mono a sm1.fr, SqL.of (sm1.fr _ _ a'), q1 G1 H1 _ .refl sm1 (walkZM (t := true) (u := false) a (SqL.of a') b b')⟩)⟩
  · obtain ⟨v, w, rfl, h1, h2⟩ := vals2' r1
    cases h1 with
    | lst a b =>
      cases h2 with
      | tup a' b' => exact ⟨_, _, _, _, rfl, .inr (.inr ⟨false, SqL.of (sm1.fr _ _ a), SqT.mono a' sm1.fr, q1 G1 H1 _ .refl sm1 (walkZM (t := false) (u := true) (SqL.of a) a' b b')⟩)⟩
  · exact q1.elim)⟩
end PV
set_option Elab.async false
set_option linter.all false
set_option maxRecDepth 100000
set_option maxHeartbeats 4000000
/-! defs with defaults -/
namespace PV
open PySem PySem.Spec PyProof.Rows L2 ZL
/-- dds: the defaults of the last parameters -/
noncomputable def dfnD (np n : Nat) (b : MS) (dds : List D) : Fn := fun ds S => dfn np n b (ds ++ dds.drop (dds.length - (np - ds.length))) S
theorem runD {np n : Nat} {b : MS} {dds ds : List D} {S : Sto} {o : Out D} (h : dfn np n b (ds ++ dds.drop (dds.length - (np - ds.length))) S = o) : dfnD np n b dds ds S = o := h
section
variable {P : Program} {w : World} {K : PySem.W.Frag} {mg : Str → Option Value} {base : Heap} {x qual : Str} {st : Stmt} {kws : List (Str × V)} {f : Addr} {fd : FuncData} {N ps : List Str} {j : Nat} {b : MS} {dvs : List V} {dds : List D}
theorem okFD {np n : Nat} (F : FunD K x qual (defArgs st) (defBody st) (defScope st) dvs kws f fd) (S : FnScope N ps (defScope st)) (hn : ps.length = np) (hN : N.length = n) (hd : dds.length = dvs.length) (rd : ∀ G, Rps K G dds dvs)
    (hb : ∀ i, i ≤ dvs.length → ∃ ds, Vals (dvs.drop i) ds ∧ Binds K fd ps ds)
    (hbody : ∀ (cdv : Value) (A : Around) (outer : List Env) (s : Shared) (H : Hp) (E : XK), Room j (A.deeper (envOfC qual (defScope st) s.heap.objs.size f cdv)) →
      QSs (cxOf (L2.CX P w) P w K mg base N qual (defScope st) f cdv A outer s H E) (defBody st) b) : FnF P w K mg base (j + 1) f (dfnD np n b dds) := by
  have Fk : FnOk P w K mg base (L2.CX P w) (j + 1) f fd ps (spF K (dfn np n b)) := F.ok S (spF_len hn) fun cdv A outer s H vs Q E hr h =>
    ⟨_, hbody cdv A outer s H E hr, body_start rfl (takes_of rfl rfl rfl rfl) hn hN h⟩
  intro A outer s H us vs Q E hr e0 r h
  obtain ⟨ds, S, G, sm, rr, h⟩ := h
  obtain ⟨dz, rz, hbnd⟩ := hb (dds.length - (np - ds.length)) (by omega)
  have rr2 : Rps K G (ds ++ dds.drop (dds.length - (np - ds.length))) (vs ++ dvs.drop (dds.length - (np - ds.length))) := rr.append ((rd G).drop _)
  have sp2 : spF K (dfn np n b) (vs ++ dvs.drop (dds.length - (np - ds.length))) H Q E := ⟨_, S, G, sm, rr2, h⟩
  have vv := r.append rz
  have hl := Fk.len _ _ _ _ sp2
  exact Fk.run A outer s H ⟨us, []⟩ (us ++ dz) _ Q E hr e0 (hbnd s us (e0.mod.kin.keeps fun b o e => (e0.bs b o e).1) (by rw [← vv.length]; exact hl)) vv sp2
end
end PV
set_option Elab.async false
set_option linter.all false
set_option maxRecDepth 100000
set_option maxHeartbeats 4000000
/-! staticmethods, called through their class -/
namespace PV
open PySem PySem.Spec PyProof.Rows L2 ZL
/-- C.m is a staticmethod: its record at p, its def at g -/
structure SMet (K : PySem.W.Frag) (C : Addr) (mc : Value) (m : Str) (p g : Addr) : Prop where
  at_ : PySem.W.findCls K (.ref C) mc m = some (.get (.builtin "staticmethod.__get__") (.ref p) .none (.ref C))
  rc : ∃ rest, PySem.W.recIn K p "staticmethod" = some (.ref g :: rest)
  kp : PySem.W.keepIn K (.ref g) = true
theorem getsm_ok {X : Cx} {pins : List (Addr × Obj)} {σ : L2.St} {H : Hp} {s : Shared} {C p g : Addr} {mc : Value} {m : Str} {A : Around} {E : Value → Shared → Prop} {pl : Sem Bool} {Q : Value × List Value → Shared → Prop} (I : Inv X pins σ H s) (r : ClX.CRead X.K C mc) (k : SMet X.K C mc m p g)
    (h : ∀ s', Inv X pins σ H s' → Q (.ref g, []) s') : wpAny (model X.prog X.w) A (getMethod (.ref C) m pl) Q E s := by
  obtain ⟨rest, hp⟩ := k.rc
  exact PySem.W.method_cls I.kIn r.ga (PySem.W.cls_bind I.kIn r.rd k.at_ (wpAny_call (PySem.W.sm_get (s := { s with toks := s.toks + 1 }) I.kIn hp (PySem.W.handed_on rfl (h _ (I.tok _))))))
def tSMeth (C : Addr) (sp : Sp) (E : XK) (ta : TE) (t : TA) : TE := fun σ H Q => ta σ H fun x H1 => x = .ref C ∧ t σ H1 fun vs H2 => sp vs H2 Q E
section
variable {X : Cx} {CX : CXT} {k : Nat} {C p g : Addr} {mc : Value} {sp : Sp} {E : XK} {o e : Expr} {es : List Expr} {f m : Str} {pos apos : Pos} {ta : TE} {t : TA} {pl : Sem Bool}
theorem pe_smeth (he : PE X o ta) (r : ClX.CRead X.K C mc) (c : SMet X.K C mc m p g) (F : FnR X.prog X.w X.K X.mg X.base CX k g sp) (hr : Room k X.A) (hx : Passes CX X E) (ha : PA X (e :: es) t)
    (hst : starEach (e :: es) X.env = (false, eval e X.env) :: starEach es X.env := by rfl) (hpl : (backTo pos (starEach es X.env)).any (·.1) = false := by rfl)
    (ht : eval (.Call (.Attribute o m apos) (e :: es) [] pos) X.env = (do
      let ov ← eval o X.env
      standAt apos.atName
      let (f, first) ← holding [ov] (getMethod ov m pl)
      callWith pos f first (backTo pos (starEach (e :: es) X.env)) (backToKw pos (keywordEach [] X.env))) := by rfl) :
    PE X (.Call (.Attribute o m apos) (e :: es) [] pos) (tSMeth C sp E ta t) := by
  refine ⟨fun pins s σ H Q I h => ?_⟩
  refine PySem.W.methodCall_KW (pl := pl) (thn (he.run pins s σ H _ I h) fun u s1 ⟨x, H1, I1, rx, ex, q⟩ => ?_) ht
  subst ex
  obtain rfl : u = Value.ref C := rx
  refine getsm_ok I1 r c fun s2 I2 => ?_
  exact PySem.W.callWith_K (first := []) (h₀ := X.base) I2.ok.mod.kin c.kp (thn (ha.run pos _ s2 σ H1 _ I2 q) fun us s3 ⟨vs, H2, I3, rv, q2⟩ => ⟨I3.kIn, wpAny_call (run_fnR F hr hx I3 rv q2)⟩) hst hpl
end
/-- C.m(..), m a staticmethod -/
def smE (c : String) (F : Fn) (o : ME) (ms : MA) : ME := fun ρ S => (o ρ S).bind fun x S1 => if isCl c x = true then (ms ρ S1).bind fun ds S2 => F ds S2 else .no
theorem sm_ok {c : String} {F : Fn} {o : ME} {a : MA} {ρ : Ev} {S S1 S2 : Sto} {ds : List D} {r : Out D} (h : o ρ S = .ok (.cls c) S1) (h2 : a ρ S1 = .ok ds S2) (h3 : F ds S2 = r) : smE c F o a ρ S = r := by
  unfold smE
  rw [h]
  show (if isCl c (.cls c) = true then _ else _) = _
  rw [if_pos (by simp [isCl]), h2]
  exact h3
section
variable {X : Cx} {c : String} {F : Fn} {j : Nat} {o e : Expr} {es : List Expr} {mo : ME} {ms : MA} {apos pos : Pos} {m : Str} {p g : Addr} {mc : Value} {pl : Sem Bool}
theorem qe_sm (hrd : ClX.CRead X.K (gaS X.K c) mc) (hcm : SMet X.K (gaS X.K c) mc m p g) (Ff : FnF X.prog X.w X.K X.mg X.base j g F) (hr : Room j X.A) (ho : QE X o mo) (ha : QA X (e :: es) ms)
    (hst : starEach (e :: es) X.env = (false, eval e X.env) :: starEach es X.env := by rfl) (hpl : (backTo pos (starEach es X.env)).any (·.1) = false := by rfl)
    (ht : eval (.Call (.Attribute o m apos) (e :: es) [] pos) X.env = (do
      let ov ← eval o X.env
      standAt apos.atName
      let (f, first) ← holding [ov] (getMethod ov m pl)
      callWith pos f first (backTo pos (starEach (e :: es) X.env)) (backToKw pos (keywordEach [] X.env))) := by rfl) :
    QE X (.Call (.Attribute o m apos) (e :: es) [] pos) (smE c F mo ms) :=
  qe_of (pe_smeth ho hrd hcm Ff hr passE ha hst hpl ht) fun ρ S G σ H Q sm re h => by
    refine ⟨ρ, S, G, sm, re, (sat.bind h).imp fun v H1 w => ?_⟩
    obtain ⟨x, S1, G1, le1, sm1, r1, q1⟩ := w
    split at q1
    · rename_i hc
      obtain ⟨rfl, rfl⟩ := isCl_rp hc r1
      refine ⟨rfl, ρ, S1, G1, sm1, re.mono le1.le, (sat.bind q1).imp fun vs H2 w => ?_⟩
      obtain ⟨ds, S2, G2, le2, sm2, r2, q2⟩ := w
      exact ⟨ds, S2, G2, sm2, r2, sat_sp q2⟩
    · exact q1.elim
end
end PV
set_option Elab.async false
set_option linter.all false
set_option maxRecDepth 100000
set_option maxHeartbeats 4000000
/-! calls by names -/
namespace PV
open PySem PySem.Spec PyProof.Rows L2 ZL
/-- the items at some places -/
def pickL {α : Type} (idx : List Nat) (l : List α) : List α := idx.filterMap fun i => l[i]?
theorem vals_at : ∀ {vs : List V} {us : List Value}, Vals vs us → ∀ i : Nat, (vs[i]? = none ∧ us[i]? = none) ∨ ∃ v u, vs[i]? = some v ∧ us[i]? = some u ∧ RelV v u
  | _, _, .nil, _ => .inl ⟨rfl, rfl⟩
  | _, _, .cons a b, 0 => .inr ⟨_, _, rfl, rfl, a⟩
  | _, _, .cons a b, i + 1 => by simpa using vals_at b i
theorem pick_vals {vs : List V} {us : List Value} (h : Vals vs us) : ∀ idx : List Nat, Vals (pickL idx vs) (pickL idx us)
  | [] => .nil
  | i :: idx => by
    have ih := pick_vals h idx
    unfold pickL at ih ⊢
    rw [List.filterMap_cons, List.filterMap_cons]
    rcases vals_at h i with ⟨h1, h2⟩ | ⟨v, u, h1, h2, h3⟩
    · rw [h1, h2]
      exact ih
    · rw [h1, h2]
      exact .cons h3 ih
theorem pick_rps {K : PySem.W.Frag} {G : Gh} {ds : List D} {vs : List V} (h : Rps K G ds vs) : ∀ idx : List Nat, Rps K G (pickL idx ds) (pickL idx vs)
  | [] => .nil
  | i :: idx => by
    have ih := pick_rps h idx
    unfold pickL at ih ⊢
    rw [List.filterMap_cons, List.filterMap_cons]
    cases e : ds[i]? with
    | none =>
      have e2 : vs[i]? = none := by
        cases e2 : vs[i]? with
        | none => rfl
        | some v =>
          obtain ⟨d, h1, _⟩ := h.get' e2
          rw [e] at h1
          cases h1
      rw [e2]
      exact ih
    | some d =>
      obtain ⟨v, h1, h2⟩ := h.get e
      rw [h1]
      exact .cons h2 ih
/-- the call with some values by position, then by name; dds: the defaults -/
def kwF (idx : List Nat) (dds : List D) (F : Fn) : Fn := fun ds S => F (pickL idx (ds ++ dds)) S
/-- what a def promises to calls by names -/
def FnKO (P : Program) (w : World) (K : PySem.W.Frag) (mg : Str → Option Value) (base : Heap) (k : Nat) (f : Addr) (n : Nat) (ks : List Str) (F : Fn) : Prop :=
  ∃ (fd : FuncData) (ps : List Str) (g : List Value → List Value → List Value) (gV : List V → List V → List V) (sp : Sp), FnOk P w K mg base (L2.CX P w) k f fd ps sp ∧ KBn K fd ps n ks g gV ∧
    ∀ vs zs H Q E, spF K F (vs ++ zs) H Q E → sp (gV vs zs) H Q E
section
variable {P : Program} {w : World} {K : PySem.W.Frag} {mg : Str → Option Value} {base : Heap} {x qual : Str} {st : Stmt} {kws : List (Str × V)} {f : Addr} {fd : FuncData} {N ps : List Str} {j : Nat} {b : MS} {dvs : List V} {dds : List D}
/-- no defaults -/
theorem okK0 {np n m : Nat} (ks : List Str) (idx : List Nat) (F : FunD K x qual (defArgs st) (defBody st) (defScope st) [] kws f fd) (S : FnScope N ps (defScope st)) (hn : ps.length = np) (hN : N.length = n)
    (hb : ∀ (kV doc pm : Value) (an : Option Addr) (cdv ct : Value) (us ws : List Value), us.length = m → ws.length = ks.length → bindArgs (PySem.W.fnOf x qual (defArgs st) (defBody st) (defScope st) .none kV doc pm an cdv ct) ⟨us, ks.zip ws⟩ = pure (ps.zip (pickL idx (us ++ ws))))
    (hbody : ∀ (cdv : Value) (A : Around) (outer : List Env) (s : Shared) (H : Hp) (E : XK), Room j (A.deeper (envOfC qual (defScope st) s.heap.objs.size f cdv)) →
      QSs (cxOf (L2.CX P w) P w K mg base N qual (defScope st) f cdv A outer s H E) (defBody st) b) : FnKO P w K mg base (j + 1) f m ks (kwF idx [] (dfn np n b)) := by
  have Fk : FnOk P w K mg base (L2.CX P w) (j + 1) f fd ps (spF K (dfn np n b)) := F.ok S (spF_len hn) fun cdv A outer s H vs Q E hr h =>
    ⟨_, hbody cdv A outer s H E hr, body_start rfl (takes_of rfl rfl rfl rfl) hn hN h⟩
  refine ⟨fd, ps, fun us ws => pickL idx (us ++ ws), fun vs zs => pickL idx (vs ++ zs), _, Fk, ⟨?_, fun r r' => pick_vals (r.append r') idx⟩, ?_⟩
  · obtain ⟨oc, od, dV, kV, doc, pm, an, cdv, ct, osl, rfl, lk, hcd, hD, hK⟩ := F.ex
    intro s us ws _ l1 l2
    rcases hD with ⟨_, rfl⟩ | ⟨e, _⟩
    · exact .of_eq (hb kV doc pm an cdv ct us ws l1 l2)
    · exact absurd rfl e
  · rintro vs zs H Q E ⟨ds, S, G, sm, r, h⟩
    refine ⟨pickL idx ds, S, G, sm, pick_rps r idx, ?_⟩
    have e : kwF idx [] (dfn np n b) ds S = dfn np n b (pickL idx ds) S := by
      unfold kwF
      rw [List.append_nil]
    rw [e] at h
    exact h
/-- with defaults -/
theorem okK1 {np n m : Nat} (ks : List Str) (idx : List Nat) (F : FunD K x qual (defArgs st) (defBody st) (defScope st) dvs kws f fd) (S : FnScope N ps (defScope st)) (hn : ps.length = np) (hN : N.length = n) (hd : dvs ≠ []) (rd : ∀ G, Rps K G dds dvs)
    (hb : ∀ (T : Addr) (kV doc pm : Value) (an : Option Addr) (cdv ct : Value) (us ws its : List Value), us.length = m → ws.length = ks.length → its.length = dvs.length →
      ∃ k, bindArgs (PySem.W.fnOf x qual (defArgs st) (defBody st) (defScope st) (.ref T) kV doc pm an cdv ct) ⟨us, ks.zip ws⟩ = seqItems? (.ref T) >>= k ∧ k (some its.toArray) = pure (ps.zip (pickL idx (us ++ ws ++ its))))
    (hbody : ∀ (cdv : Value) (A : Around) (outer : List Env) (s : Shared) (H : Hp) (E : XK), Room j (A.deeper (envOfC qual (defScope st) s.heap.objs.size f cdv)) →
      QSs (cxOf (L2.CX P w) P w K mg base N qual (defScope st) f cdv A outer s H E) (defBody st) b) : FnKO P w K mg base (j + 1) f m ks (kwF idx dds (dfn np n b)) := by
  have Fk : FnOk P w K mg base (L2.CX P w) (j + 1) f fd ps (spF K (dfn np n b)) := F.ok S (spF_len hn) fun cdv A outer s H vs Q E hr h =>
    ⟨_, hbody cdv A outer s H E hr, body_start rfl (takes_of rfl rfl rfl rfl) hn hN h⟩
  obtain ⟨oc, od, dV, kV, doc, pm, an, cdv, ct, osl, rfl, lk, hcd, hD, hK⟩ := F.ex
  rcases hD with ⟨e, _⟩ | ⟨_, T, o, its, mm, rfl, lT, oT, rT⟩
  · exact absurd e hd
  · refine ⟨_, ps, fun us ws => pickL idx (us ++ ws ++ its), fun vs zs => pickL idx (vs ++ zs ++ dvs), _, Fk, ⟨?_, fun r r' => pick_vals ((r.append r').append rT) idx⟩, ?_⟩
    · intro s us ws X l1 l2
      obtain ⟨k, e1, e2⟩ := hb T kV doc pm an cdv ct us ws its l1 l2 rT.length.symm
      refine BindsTo.of_looks fun M => ?_
      rw [e1]
      exact looks_items X lT oT (.of_pure e2)
    · rintro vs zs H Q E ⟨ds, S, G, sm, r, h⟩
      exact ⟨pickL idx (ds ++ dds), S, G, sm, pick_rps (r.append (rd G)) idx, h⟩
end
/-! ### the values by name -/
abbrev QK (X : Cx) (kws : List Keyword) (m : MA) : Prop := PK X kws (tA X m)
section
variable {X : Cx} {e : Expr} {m : ME} {ms : MA} {kws : List Keyword} {nm : Option Str} {kpos : Pos}
theorem qk_nil : QK X [] aNil := ⟨fun pos pins s σ H Q I h => pk_nil.run pos pins s σ H Q I (by
  obtain ⟨ρ, S, G, sm, re, q⟩ := h
  exact q G H [] .refl sm .nil)⟩
theorem qk_cons (h : QE X e m) (hs : QK X kws ms) : QK X (⟨nm, e, kpos⟩ :: kws) (aCons m ms) :=
  ⟨fun pos pins s σ H Q I z => (pk_cons h hs).run pos pins s σ H Q I (by
    obtain ⟨ρ, S, G, sm, re, q⟩ := z
    refine ⟨ρ, S, G, sm, re, (sat.bind q).imp fun x H1 w => ?_⟩
    obtain ⟨d, S1, G1, le1, sm1, r1, q1⟩ := w
    refine ⟨ρ, S1, G1, sm1, re.mono le1.le, (sat.bind q1).imp fun xs H2 w => ?_⟩
    obtain ⟨ds, S2, G2, le2, sm2, r2, q2⟩ := w
    exact q2 G2 H2 _ .refl sm2 (.cons (r1.mono le2.le) r2))⟩
end
/-- just so many -/
def ofLen (n : Nat) (F : Fn) : Fn := fun ds S => if ds.length = n then F ds S else .no
/-! ### C(k = v, ..) -/
section
variable {X : Cx} {c : String} {F : Fn} {j : Nat} {f : Addr} {ms : MA} {p pos : Pos} {kws : List Keyword} {ks : List Str}
theorem qe_mkK {g : Fn} (hg : MkRd X c F g) (M : Mk X.K (gaS X.K c) f) (Ff : FnKO X.prog X.w X.K X.mg X.base j f 1 ks F) (hr : Room (j + 1) X.A) (hm : X.mg (Str.ofString c) = some (.ref (gaS X.K c))) (ha : QK X kws ms) (hgl : Gl X (Str.ofString c) := by rfl) (hdb : (Str.ofString c == ("__debug__" : Str)) = false := by decide)
    (hall : (backToKw pos (keywordEach kws X.env)).all (·.1.isSome) = true := by rfl) (hks : (backToKw pos (keywordEach kws X.env)).filterMap (·.1) = ks := by rfl)
    (hpl : ((backTo pos (starEach [] X.env)).any (·.1) || (backToKw pos (keywordEach kws X.env)).any (·.1.isNone)) = false := by rfl) :
    QE X (.Call (.Name (Str.ofString c) p) [] kws pos) (cal (ofLen ks.length g) ms) := by
  obtain ⟨fd, ps, gg, gV, sp, Fk, hb, hsp⟩ := Ff
  refine qe_of (pe_makeK0 M Fk hr hgl hm hb passE ha hall hks hdb hpl) fun ρ S G σ H Q sm re h => ?_
  have h : sat X (Rp X.K) G H ((ms ρ S).bind fun ds S1 => ofLen ks.length g ds S1) Q := h
  show tA X ms σ H _
  refine ⟨ρ, S, G, sm, re, (sat.bind (R := Rps X.K) h).imp fun vs H1 w => ?_⟩
  obtain ⟨ds, S1, G1, le1, sm1, r1, q1⟩ := w
  unfold ofLen at q1
  split at q1
  · rename_i hl
    exact ⟨rfl, by rw [r1.length]; exact hl, fun x dx h1 h2 h3 => hsp _ _ _ _ _ (hg sm1 r1 q1 x dx h1 h2 h3)⟩
  · exact q1.elim
end
end PV
set_option Elab.async false
set_option linter.all false
set_option maxRecDepth 100000
set_option maxHeartbeats 4000000
/-! C.m(k = v, ..) of a staticmethod; o.m(k = v, ..) of an instance -/
namespace PV
open PySem PySem.Spec PyProof.Rows L2 ZL
section
variable {X : Cx} {c : String} {F : Fn} {j : Nat} {o : Expr} {mo : ME} {ms : MA} {apos pos : Pos} {m : Str} {p g : Addr} {mc : Value} {pl : Sem Bool} {kws : List Keyword} {ks : List Str}
theorem qe_smK (hrd : ClX.CRead X.K (gaS X.K c) mc) (hcm : SMet X.K (gaS X.K c) mc m p g) (Ff : FnKO X.prog X.w X.K X.mg X.base j g 0 ks F) (hr : Room j X.A) (ho : QE X o mo) (ha : QK X kws ms)
    (hall : (backToKw pos (keywordEach kws X.env)).all (·.1.isSome) = true := by rfl) (hks : (backToKw pos (keywordEach kws X.env)).filterMap (·.1) = ks := by rfl)
    (hpl : ((backTo pos (starEach [] X.env)).any (·.1) || (backToKw pos (keywordEach kws X.env)).any (·.1.isNone)) = false := by rfl)
    (ht : eval (.Call (.Attribute o m apos) [] kws pos) X.env = (do let ov ← eval o X.env; standAt apos.atName; let (f, first) ← holding [ov] (getMethod ov m pl); callWith pos f first (backTo pos (starEach [] X.env)) (backToKw pos (keywordEach kws X.env))) := by rfl) :
    QE X (.Call (.Attribute o m apos) [] kws pos) (smE c (ofLen ks.length F) mo ms) := by
  obtain ⟨fd, ps, gg, gV, sp, Fk, hb, hsp⟩ := Ff
  refine ⟨fun pins s σ H Q I z => ?_⟩
  obtain ⟨ρ, S, G, sm, re, h⟩ := z
  refine PySem.W.methodCall_KW (pl := pl) (thn (ho.run pins s σ H _ I ⟨ρ, S, G, sm, re, sat.bind h⟩) fun u s1 k => ?_) ht
  obtain ⟨v, H1, I1, rv, x, S1, G1, le1, sm1, r1, q1⟩ := k
  split at q1
  · rename_i hc
    obtain ⟨rfl, rfl⟩ := isCl_rp hc r1
    obtain rfl : u = Value.ref (gaS X.K c) := rv
    refine getsm_ok I1 hrd hcm fun s2 I2 => ?_
    refine PySem.W.callWith_KW0 (first := []) (h₀ := X.base) I2.ok.mod.kin hcm.kp hall ?_ hpl
    refine thn (ha.run pos _ s2 σ H1 (fun zs H2 => zs.length = ks.length ∧ spF X.K F zs H2 Q (Est X)) I2 ⟨ρ, S1, G1, sm1, re.mono le1.le, (sat.bind (R := Rps X.K) q1).imp fun vs H2 w => ?_⟩) fun ws s3 ⟨zs, H2, I3, rz, l2, q2⟩ => ⟨I3.kIn, ?_⟩
    · obtain ⟨ds, S2, G2, le2, sm2, r2, q2⟩ := w
      unfold ofLen at q2
      split at q2
      · rename_i hl
        exact ⟨by rw [r2.length]; exact hl, ds, S2, G2, sm2, r2, sat_sp q2⟩
      · exact q2.elim
    · rw [hks]
      exact run_fnN (us := []) (vs := []) Fk hr hb passE I3 .nil rz rfl l2 (hsp [] zs H2 Q _ q2)
  · exact q1.elim
/-- o.m(k = v, ..), o of the class c -/
def mtK (c : String) (n : String) (k : Nat) (F : Fn) (o : ME) (ms : MA) : ME := fun ρ S => (o ρ S).bind fun x S1 => match insOf S1 x with
  | some (c', fs) => if c' = c then match fs.lookup n with
      | none => (ms ρ S1).bind fun ds S2 => if ds.length = k then F (x :: ds) S2 else .no
      | some _ => .no
    else .no
  | none => .no
theorem qe_mtK {n : String} (hC : Cls X.K (gaS X.K c)) (hM : Meth X.K (gaS X.K c) (Str.ofString n) g) (Ff : FnKO X.prog X.w X.K X.mg X.base j g 1 ks F) (hr : Room j X.A) (ho : QE X o mo) (ha : QK X kws ms)
    (hall : (backToKw pos (keywordEach kws X.env)).all (·.1.isSome) = true := by rfl) (hks : (backToKw pos (keywordEach kws X.env)).filterMap (·.1) = ks := by rfl)
    (hpl : ((backTo pos (starEach [] X.env)).any (·.1) || (backToKw pos (keywordEach kws X.env)).any (·.1.isNone)) = false := by rfl)
    (ht : eval (.Call (.Attribute o (Str.ofString n) apos) [] kws pos) X.env = (do let ov ← eval o X.env; standAt apos.atName; let (f, first) ← holding [ov] (getMethod ov (Str.ofString n) pl); callWith pos f first (backTo pos (starEach [] X.env)) (backToKw pos (keywordEach kws X.env))) := by rfl) :
    QE X (.Call (.Attribute o (Str.ofString n) apos) [] kws pos) (mtK c n ks.length F mo ms) := by
  obtain ⟨fd, ps, gg, gV, sp, Fk, hb, hsp⟩ := Ff
  refine ⟨fun pins s σ H Q I z => ?_⟩
  obtain ⟨ρ, S, G, sm, re, h⟩ := z
  refine PySem.W.methodCall_KW (pl := pl) (thn (ho.run pins s σ H _ I ⟨ρ, S, G, sm, re, sat.bind h⟩) fun u s1 k => ?_) ht
  obtain ⟨v, H1, I1, rv, x, S1, G1, le1, sm1, r1, q1⟩ := k
  split at q1
  · rename_i c' fs hi
    split at q1
    · rename_i hc
      subst hc
      split at q1
      · rename_i hl
        obtain ⟨a, dx, ws, rfl, hA, rf⟩ := sm1.ins hi r1
        obtain rfl : u = Value.ref a := rv
        refine getmeth_ok I1 hA hC hM (rf.gone hl) ?_
        refine PySem.W.callWith_KW0 (first := [.ref a]) (h₀ := X.base) I1.ok.mod.kin hM.kp hall ?_ hpl
        refine thn (ha.run pos _ s1 σ H1 (fun zs H2 => zs.length = ks.length ∧ spF X.K F (.ref a :: zs) H2 Q (Est X)) I1 ⟨ρ, S1, G1, sm1, re.mono le1.le, (sat.bind (R := Rps X.K) q1).imp fun vs H2 w => ?_⟩) fun ws s3 ⟨zs, H2, I3, rz, l2, q2⟩ => ⟨I3.kIn, ?_⟩
        · obtain ⟨ds, S2, G2, le2, sm2, r2, q2⟩ := w
          split at q2
          · rename_i hl2
            exact ⟨by rw [r2.length]; exact hl2, x :: ds, S2, G2, sm2, .cons (r1.mono le2.le) r2, sat_sp q2⟩
          · exact q2.elim
        · rw [hks]
          exact run_fnN (us := [.ref a]) (vs := [.ref a]) Fk hr hb passE I3 (.cons rfl .nil) rz rfl l2 (hsp [.ref a] zs H2 Q _ q2)
      · exact q1.elim
    · exact q1.elim
  · exact q1.elim
end
end PV
set_option Elab.async false
set_option linter.all false
set_option maxRecDepth 100000
set_option maxHeartbeats 4000000
/-! int + own, int - own; a staticmethod's facts -/
namespace PV
open PySem PySem.Spec PyProof.Rows L2 ZL
theorem of_raddO {X : Cx} {j : Nat} {c : String} {f f' : Addr} {F : Fn} {g : G2} (pl : Plain X.K (gaS X.K c)) (om : Own X.K (gaS X.K c) "__add__" f') (o : Own X.K (gaS X.K c) "__radd__" f) (hsub : PySem.W.subIn X.K (.ref (gaS X.K c)) (.type "int") = some false)
    (Ff : FnF X.prog X.w X.K X.mg X.base j f F) (hr : Room j X.A) (hg : OpF X (binaryOp .Add) g) : OpF X (binaryOp .Add) (rbinO c F g) := fun pins s σ H v w u u' Q I rv rw' ⟨x, y, S, G, sm, rx, ry, h⟩ => by
  unfold rbinO at h
  split at h
  · split at h
    · rename_i c' fs hi
      split at h
      · rename_i hc
        subst hc
        cases rx
        obtain ⟨b, dy, ws, rfl, hB, rf⟩ := sm.ins hi ry
        obtain ⟨cd, hcd, hm⟩ := pl
        exact op_rbinI (op := .Add) PySem.F.slot_int_add PySem.F.entry_int_add (fun a b => PySem.F.args_int_add_2 a b) int_add_inst PySem.F.fills_int_add (fun h k => PySem.W.fills_K k hcd hm om.at_) o hsub Ff hr passE pins s σ H _ _ u u' Q I rv rw' ⟨_, b, dy, ws, rfl, rfl, hB, [y, .int _], S, G, sm, .cons ry (.cons (.int _) .nil), spO_ok h⟩
      · exact h.elim
    · exact hg pins s σ H v w u u' Q I rv rw' ⟨_, _, S, G, sm, rx, ry, h⟩
  · exact hg pins s σ H v w u u' Q I rv rw' ⟨_, _, S, G, sm, rx, ry, h⟩
theorem of_rsubO {X : Cx} {j : Nat} {c : String} {f f' : Addr} {F : Fn} {g : G2} (pl : Plain X.K (gaS X.K c)) (om : Own X.K (gaS X.K c) "__sub__" f') (o : Own X.K (gaS X.K c) "__rsub__" f) (hsub : PySem.W.subIn X.K (.ref (gaS X.K c)) (.type "int") = some false)
    (Ff : FnF X.prog X.w X.K X.mg X.base j f F) (hr : Room j X.A) (hg : OpF X (binaryOp .Sub) g) : OpF X (binaryOp .Sub) (rbinO c F g) := fun pins s σ H v w u u' Q I rv rw' ⟨x, y, S, G, sm, rx, ry, h⟩ => by
  unfold rbinO at h
  split at h
  · split at h
    · rename_i c' fs hi
      split at h
      · rename_i hc
        subst hc
        cases rx
        obtain ⟨b, dy, ws, rfl, hB, rf⟩ := sm.ins hi ry
        obtain ⟨cd, hcd, hm⟩ := pl
        exact op_rbinI (op := .Sub) PySem.F.slot_int_sub PySem.F.entry_int_sub (fun a b => PySem.F.args_int_sub_2 a b) int_sub_inst PySem.F.fills_int_sub (fun h k => PySem.W.fills_K k hcd hm om.at_) o hsub Ff hr passE pins s σ H _ _ u u' Q I rv rw' ⟨_, b, dy, ws, rfl, rfl, hB, [y, .int _], S, G, sm, .cons ry (.cons (.int _) .nil), spO_ok h⟩
      · exact h.elim
    · exact hg pins s σ H v w u u' Q I rv rw' ⟨_, _, S, G, sm, rx, ry, h⟩
  · exact hg pins s σ H v w u u' Q I rv rw' ⟨_, _, S, G, sm, rx, ry, h⟩
theorem smet_of {K : PySem.W.Frag} {C : Addr} {m : Str} (h : He5.wrapB K C "staticmethod" "staticmethod.__get__" m = true) (hf : PySem.W.keepIn K (.ref (He5.wf K C "staticmethod" m)) = true) : SMet K C (.type "type") m (He.ma K C m) (He5.wf K C "staticmethod" m) := by
  obtain ⟨h1, h2⟩ := He5.wrapB_ok h
  exact ⟨h1, h2, hf⟩
end PV
set_option Elab.async false
set_option linter.all false
set_option maxRecDepth 100000
set_option maxHeartbeats 4000000
/-! sets of unlike texts: len(set(xs)) -/
namespace ZS
open PySem PySem.Spec PyProof.Rows
theorem getD_at {xs : List Str} {i : Nat} (h : i < xs.length) : xs.getD i Str.empty = xs[i] := by
  rw [List.getD_eq_getElem?_getD, List.getElem?_eq_getElem h]
  rfl
theorem fresh_at {xs : List Str} (nd : xs.Nodup) {i : Nat} (h : i < xs.length) : ((xs.take i).any fun z => z == xs[i]) = false := by
  rw [List.any_eq_false]
  intro z hz e
  obtain ⟨j, hj, rfl⟩ := List.mem_iff_getElem.mp hz
  rw [List.length_take] at hj
  rw [List.getElem_take, beq_iff_eq] at e
  exact List.pairwise_iff_getElem.mp nd j i (by omega) h (by omega) e
theorem next_any {xs : List Str} {i : Nat} (h : i < xs.length) (z : Str) : (((xs.take i).any fun y => y == z) || decide (z = xs[i])) = (xs.take (i + 1)).any fun y => y == z := by
  rw [List.take_add_one, List.getElem?_eq_getElem h, List.any_append]
  congr 1
  by_cases e : z = xs[i]
  · subst e; simp
  · rw [decide_eq_false e]
    simp
    exact fun q => e q.symm
/-- how many unlike ones the first i are -/
def dN (xs : List Str) : Nat → Nat
  | 0 => 0
  | i + 1 => if ((xs.take i).any fun z => z == xs.getD i Str.empty) = true then dN xs i else dN xs i + 1
theorem dN_le (xs : List Str) : ∀ i, dN xs i ≤ i
  | 0 => Nat.le_refl _
  | i + 1 => by
    have := dN_le xs i
    unfold dN
    split <;> omega
theorem dN_nodup {xs : List Str} (nd : xs.Nodup) : ∀ i, i ≤ xs.length → dN xs i = i
  | 0, _ => rfl
  | i + 1, h => by
    have lt : i < xs.length := h
    show (if ((xs.take i).any fun z => z == xs.getD i Str.empty) = true then dN xs i else dN xs i + 1) = _
    rw [getD_at lt, if_neg (by rw [fresh_at nd lt]; decide), dN_nodup nd i (by omega)]
section
variable {prog : Program} {w : World} {A : Around} {R : Result → Shared → Prop} {I : Addr} {fp wr : List Addr} {G : Array GenState → Array GenState → Prop} {n : Nat} {P : Nat → Value → Prop} {St : Nat → Shared → Prop}
abbrev SetAt (prog : Program) (w : World) (xs : List Str) (S : Addr) (i : Nat) (h : Heap) : Prop := h.SetOf (PySem.strKind prog w) S (fun z => (xs.take i).any fun y => y == z) (dN xs i)
theorem at_moved {xs : List Str} {S : Addr} {i : Nat} {h h' : Heap} (q : SetAt prog w xs S i h) (k : ∀ o, h.get? S = some o → h'.get? S = some o) : SetAt prog w xs S i h' := by
  obtain ⟨o, es, ep, t, ho, z⟩ := q
  exact ⟨o, es, ep, t, k o ho, z⟩
/-- one more of the texts is put in, till there is none -/
theorem fills (W : WalksS prog w A.in1 I fp wr G n P St) (S : Addr) (out : S ∉ fp) {xs : List Str} (hn : xs.length = n) (few : n < 4000) (at_ : ∀ i v, P i v → ∃ t, v = .str (xs.getD i Str.empty) t) :
    ∀ (k i : Nat) (s : Shared), k = n - i → i ≤ n → St i s → SetAt prog w xs S i s.heap → (∀ s', Moved (S :: wr) G s s' → SetAt prog w xs S n s'.heap → R (.ok (.ret .none)) s') → codeAny (model prog w) A (.builtin "set.update.loop" ⟨[.ref S, .ref I], []⟩) R s
  | 0, i, s, hk, hi, st, q, r => by
    have e : i = n := by omega
    subst e
    have nw : S ∉ wr := fun z => out (W.sub _ z)
    refine codeAny_builtin PyProof.Rows.F.entry_set_update_loop ?_
    rw [Around.under_plainId PyProof.Rows.F.plain_set_update_loop _]
    show wpAny _ A.in1 (pyNext (.ref I) >>= _) _ _ s
    refine wpAny_bind (W.done s _ _ st fun s' mv => ?_)
    show wpAny _ A.in1 (ret Value.none) _ _ s'
    exact wpAny_pure (r s' (mv.mono fun b hb => List.mem_cons_of_mem _ hb) (at_moved q fun o e => mv.heap S _ nw e))
  | k + 1, i, s, hk, hi, st, q, r => by
    have lt : i < n := by omega
    have lt' : i < xs.length := by omega
    have nw : S ∉ wr := fun z => out (W.sub _ z)
    refine codeAny_builtin PyProof.Rows.F.entry_set_update_loop ?_
    rw [Around.under_plainId PyProof.Rows.F.plain_set_update_loop _]
    show wpAny _ A.in1 (pyNext (.ref I) >>= _) _ _ s
    refine wpAny_bind (W.item i s _ _ lt st fun v s1 p st1 mv => ?_)
    obtain ⟨t, rfl⟩ := at_ i v p
    rw [getD_at lt']
    have q1 := at_moved q fun o e => mv.heap S _ nw e
    show wpAny _ A.in1 (holding [Value.str xs[i] t] (setAdd S (.str xs[i] t)) >>= _) _ _ s1
    refine wpAny_bind (wpAny_holding ?_)
    unfold setAdd
    refine wpAny_holding (wpAny_bind ((PySem.strKind prog w).pyHash (k := xs[i]) (strKind_is _ _ _ _) ?_))
    refine wpAny_setAddHashed_of (knd := PySem.strKind prog w) (s := { s1 with toks := s1.toks + 1 }) (strKind_is _ _ _ _) rfl q1 (by have := dN_le xs i; unfold scanBound; omega) fun h' same q2 => ?_
    have q3 : SetAt prog w xs S (i + 1) h' := SetOf_congr q2 (fun z => next_any lt' z) (by show _ = (if ((xs.take i).any fun z => z == xs.getD i Str.empty) = true then dN xs i else dN xs i + 1); rw [getD_at lt'])
    refine wpAny_pure ⟨plainId_quiet PyProof.Rows.F.plain_set_update_loop _, fills W S out hn few at_ k (i + 1) _ (by omega) lt (W.frame _ s1 _ _ st1 (Nat.le_succ _) fun b hb o e => ?_) q3 fun s2 mv2 q4 => ?_⟩
    · have ne : b ≠ S := fun z => out (z ▸ hb)
      rw [same.2 b ne]
      exact e
    · have mv0 := mv.mono (fun b (hb : b ∈ wr) => List.mem_cons_of_mem S hb)
      refine r s2 (Moved.trans W.gtrans (mv0.then_heap (Nat.le_succ _) fun b o hb e => ?_) mv2) q4
      have ne : b ≠ S := fun z => hb (by rw [z]; exact List.mem_cons_self)
      rw [same.2 b ne]
      exact e
end
section
variable {prog : Program} {w : World} {A : Around} {E : Value → Shared → Prop} {s : Shared}
/-- the set of a list of unlike texts -/
theorem set_of_list {l : Addr} {its : Array Value} {xs : List Str} {Q : Value → Shared → Prop} (hh : A.handled = none) (hl : s.heap.IsList l its) (hi : PyProof.Rows.StrsAre its.toList xs) (few : xs.length < 4000)
    (h : ∀ (h' : Heap) (tk : Nat), SetAt prog w xs s.heap.objs.size its.size h' → (∀ b o, b < s.heap.objs.size → s.heap.get? b = some o → h'.get? b = some o) → Q (.ref s.heap.objs.size) { s with heap := h', toks := tk }) :
    wpAny (model prog w) A (call (.type "set") [.ref l]) Q E s := by
  obtain ⟨c, tl, hmro⟩ := PySem.F.called_set.mro
  have f1 := PySem.F.called_set.made
  have f2 := PySem.F.called_set.sub
  refine wpAny_call (codeAny_of_tree ?_)
  show wpAny _ _ (callAny (.type "set") _) _ _ _
  refine wpAny_pure ⟨Code.quiet_builtin _ (by decide +kernel), codeAny_builtin PySem.F.entry_type_call ?_⟩
  rw [Around.under_plain (weight_type_call_type "set" [.ref l] []) rfl]
  have f3 := PySem.F.called_set.notType
  have f4 := PySem.F.called_set.canCreate
  have f5 := PySem.F.typeCall_set_1 (.ref l)
  repeat (any_goals (first | assumption | wp_step))
  refine codeAny_mono (code_set_new_1 (.ref l) (E := E) (Q₁ := fun x s1 => ∃ led : Bool, x = .ref s.heap.objs.size ∧ s1 = { s with heap := s.heap.push { cls := .type "set", dict := none, data := .set #[] 0 (.fresh 0 0 led) } }) fun led => ⟨led, rfl, rfl⟩) fun r s1 hr => ?_
  match r, hr with
  | .error _, hr => exact hr
  | .ok (.ret x), hr =>
    obtain ⟨led, rfl, rfl⟩ := hr
    obtain ⟨N, hN⟩ : ∃ N, N = s.heap.push { cls := .type "set", dict := none, data := .set #[] 0 (.fresh 0 0 led) } := ⟨_, rfl⟩
    have sz : N.objs.size = s.heap.objs.size + 1 := by rw [hN, Heap.size_push]
    have hS : N.get? s.heap.objs.size = some { cls := .type "set", dict := none, data := .set #[] 0 (.fresh 0 0 led) } := by rw [hN]; exact Heap.get?_push_size _ rfl
    have up : ∀ b o, s.heap.get? b = some o → N.get? b = some o := fun b o e => by rw [hN]; exact Heap.get?_push_of_some _ e
    have hT : Shared.TypeIs { s with heap := N } (.ref s.heap.objs.size) "set" := ⟨_, hS, rfl⟩
    rw [← hN]
    have f6 := PySem.F.called_set.init.lookup
    have f7 := PySem.F.called_set.init.bind (.ref s.heap.objs.size)
    repeat (any_goals (first | assumption | wp_step))
    refine codeAny_mono (codeAny_call_builtin (R := wants (fun r s2 => r = .none ∧ ∃ h' tk, s2 = { s with heap := h', toks := tk } ∧ SetAt prog w xs s.heap.objs.size its.size h' ∧ (∀ b o, b < s.heap.objs.size → s.heap.get? b = some o → h'.get? b = some o)) E)
      PySem.F.called_set.init.plain PySem.F.entry_set_init (check_set_init_1 hT ?_)) fun r2 s2 hr2 => ?_
    · have hl1 : N.IsList l its := by rw [hN]; exact hl.push _
      obtain ⟨ol, hol, hcl, nl, hdl⟩ := hl1
      obtain ⟨ocls, odict, odata, oslots⟩ := ol
      simp only at hcl hdl
      subst hcl hdl
      have hl2 : N.IsList l its := ⟨_, hol, rfl, nl, rfl⟩
      have lS : l < s.heap.objs.size := by
        obtain ⟨o2, e2, _⟩ := hl
        exact Heap.lt_size e2
      have g1 := PySem.F.sub_list_set
      have g2 := PySem.F.sub_list_frozenset
      have g3 : (Value.type "list" == Value.type "dict") = false := by decide
      unfold Builtin.«set.__init__» noKeywords Builtin.Frozenset.updateFrom
      generalize hPI : pyIter = PI
      wp_walk
      subst hPI
      refine wpAny_pyIter_list hl2 (wpAny_bind (wpAny_runValue ?_))
      have h3 : A.in1.in1.in1.handled = none := by simp [hh]
      have ne : l ≠ N.objs.size := by
        rw [sz]
        exact Nat.ne_of_lt (Nat.lt_succ_of_lt lS)
      have out : s.heap.objs.size ∉ [N.objs.size, l] := by
        simp only [List.mem_cons, List.not_mem_nil, or_false, not_or]
        rw [sz]
        exact ⟨Nat.ne_of_lt (Nat.lt_succ_self _), Nat.ne_of_gt lS⟩
      have len : xs.length = its.size := by rw [← StrsAre.len_eq hi, Array.length_toList]
      refine fills ((Walks.list h3 _ l ne its).toS) s.heap.objs.size out len (by omega) (fun i v hv => SS.strs_at hi i v (by rw [Array.getElem?_toList]; exact hv)) (its.size - 0) 0 _ rfl (Nat.zero_le _) ⟨⟨_, Heap.get?_push_size _ rfl, rfl, rfl⟩, hl2.push _⟩ ?qstart ?qend
      case qstart =>
        exact SetOf_congr ((PyProof.Rows.setObjOf_fresh (knd := PySem.strKind prog w) led).setOf (Heap.get?_push_of_some _ hS) (by unfold scanBound; omega)) (fun _ => rfl) rfl
      case qend =>
        intro s3 mv q
        obtain ⟨h', g', d', tk', os'⟩ := s3
        have e1 : g' = s.gens := mv.gens
        have e2 : d' = s.drawn := mv.drawn
        have e3 : os' = s.os := mv.os
        subst e1 e2 e3
        refine wpAny_pure (wpAny_pure ⟨rfl, h', tk', rfl, q, fun b o hb e => ?_⟩)
        refine mv.heap b o ?_ (Heap.get?_push_of_some _ (up b o e))
        simp only [List.mem_cons, List.not_mem_nil, or_false, not_or]
        rw [sz]
        exact ⟨Nat.ne_of_lt hb, Nat.ne_of_lt (Nat.lt_succ_of_lt hb)⟩
    · match r2, hr2 with
      | .error _, hr2 => exact hr2
      | .ok (.ret x), hr2 =>
        obtain ⟨rfl, h', tk, rfl, q, k⟩ := hr2
        repeat (any_goals (first | assumption | wp_step))
        exact h _ _ q k
end
end ZS
namespace L2
open PySem PySem.Spec PyProof.Rows
/-- len(set(xs)), xs a list of unlike texts -/
def tLenS (K : PySem.W.Frag) (ta : TE) : TE := fun σ H Q => ta σ H fun x H1 => ∃ l, ∃ xs : List Str, x = .ref l ∧ SqL K H1 l (xs.map V.str) ∧ xs.length < 4000 ∧ Q (.int (ZS.dN xs xs.length)) H1
theorem pe_lenS {X : Cx} {a : Expr} {ta : TE} {p p2 q pos : Pos} (hc : X.calm = true) (hg : Gl X "len") (hm : X.mg "len" = none) (hg2 : Gl X "set") (hm2 : X.mg "set" = none) (ha : PE X a ta)
    (na : starEach [a] X.env = (false, eval a X.env) :: starEach [] X.env := by rfl) : PE X (.Call (.Name "len" p) [.Call (.Name "set" p2) [a] [] q] [] pos) (tLenS X.K ta) := by
  refine ⟨fun pins s σ H Q I h => Call_ (ld_blt I hg hm boot_len (PyProof.Rows.callWith_builtin1 (PyProof.Rows.args_cons (Call_ (ld_blt I hg2 hm2 boot_set ?_)) rfl) rfl rfl))⟩
  refine PyProof.Rows.callWith_type1 (PyProof.Rows.args_cons (thn (ha.run pins s σ H _ I h) fun v s1 ⟨x, H1, I1, r1, z⟩ => PyProof.Rows.args_nil ?_) na) na rfl
  obtain ⟨l, xs, rfl, hq, few, z⟩ := z
  cases r1
  obtain ⟨its, r, pl, hz⟩ := I1.list hq
  refine ZS.set_of_list (I1.ok.hd hc) pl.isList (by simpa using strsAre_of r) few fun h' tk q k => PyProof.Rows.args_nil ?_
  have hl : its.toArray.size = xs.length := by rw [List.size_toArray, ← r.length, List.length_map]
  rw [hl] at q
  obtain ⟨o, es, ep, t, ho, hex, hd, _, _, _, hf, hn⟩ := q
  have I2 : Inv X pins σ H1 { s1 with heap := h', toks := tk } := I1.kept fun b o e => k b o (Heap.lt_size e) e
  exact call_len_set ho hex hd hf (by rw [hn]; have := ZS.dN_le xs xs.length; omega) ⟨.int (ZS.dN xs xs.length), H1, I2.tok _, ⟨_, by rw [hn]⟩, z⟩
end L2
set_option Elab.async false
set_option linter.all false
set_option maxRecDepth 100000
set_option maxHeartbeats 4000000
/-! a head's Hook that tells written dicts too -/
namespace ZH
open PySem PySem.W L2
/-- the dicts of the module, by name, and their keys in order -/
abbrev Dks : Type := List (Str × List Str)
def obsY (chk : Frag → Bool) (fn : List He5.DefA) (ds : Dks) (K : Frag) : He.AlT := (obsZ chk fn K, ds.map fun d => He.dicW K (He.ga K d.1))
def SaysY (chk : Frag → Bool) (fn : List He5.DefA) (ds : Dks) (w : World) (K : Frag) : Prop := obsY chk fn ds K = (He5.valA fn, ds.map fun d => some (He.keysIn w.params d.2))
def obsYG (n : Nat) (chk : Frag → Bool) (fn : List He5.DefA) (ds : Dks) (g : Addr → Option Obj) : He.AlT := obsY chk fn ds (He.frG g (He5.asA g n))
def hookY (n : Nat) (chk : Frag → Bool) (fn : List He5.DefA) (ds : Dks) : PySem.W.Hook where
  α := He.AlT
  obs := fun s => obsYG n chk fn ds s.heap.get?
  val := fun w => ((He5.valA fn, ds.map fun (d : Str × List Str) => some (He.keysIn w.params d.2)) : He.AlT)
  says := fun w h => ∃ K : Frag, K.In h ∧ SaysY chk fn ds w K
  of := fun _ s e => ⟨He.frG s.heap.get? (He5.asA s.heap.get? n), He.frG_in, e⟩
  keeps := fun _ _ _ z k => z.elim fun K q => ⟨K, Frag.In.keeps q.1 k, q.2⟩
theorem obsYG_eq {n : Nat} {chk : Frag → Bool} {fn : List He5.DefA} {ds : Dks} {g : Addr → Option Obj} {s : Shared} (h : ∀ a, g a = s.heap.get? a) : obsYG n chk fn ds g = (hookY n chk fn ds).obs s := by
  rw [show g = s.heap.get? from funext h] <;> rfl
section
variable {chk : Frag → Bool} {fn : List He5.DefA} {ds : Dks} {w : World} {K : Frag}
theorem SaysY.z (c : SaysY chk fn ds w K) : SaysZ chk fn K := congrArg (fun z : He.AlT => z.1) c
theorem SaysY.dict (c : SaysY chk fn ds w K) {x : Str} {ks : List Str} (h : (x, ks) ∈ ds) : ∃ es n, L2.KDict K w (He.ga K x) es n := by
  obtain ⟨i, hi, e⟩ := List.mem_iff_getElem.mp h
  have e1 : ds.map (fun d => He.dicW K (He.ga K d.1)) = ds.map fun d => some (He.keysIn w.params d.2) := congrArg (fun z : He.AlT => z.2) c
  have e2 := congrArg (fun l : List (Option (List (Option (Str × Int)))) => l[i]?) e1
  simp only [List.getElem?_map, List.getElem?_eq_getElem hi, Option.map_some, e] at e2
  exact He.dicW_ok (Option.some.inj e2)
end
end ZH
set_option Elab.async false
set_option linter.all false
set_option maxRecDepth 100000
set_option maxHeartbeats 4000000
/-! texts and dicts: enumerate(text), f'..', s.index, len(set(texts)), {..}, d[k], d.get(k) -/
namespace ZL
open PySem PySem.Spec PyProof.Rows L2
/-! ### enumerate(z) of a text -/
def IteS (x : Str) : It :=
  ⟨fun i _ => i < x.cps.size, fun i H v H' => ∃ T c, v = .ref T ∧ H T = none ∧ H' = upd H T (.tup [.int (i : Nat), .str ⟨#[c]⟩]) ∧ x.cps[i]? = some c, fun i _ => x.cps.size = i⟩
theorem drawsS {prog : Program} {w : World} {A : Around} (hh : A.handled = none) (it : Addr) (x : Str) (t : Tok) {ty : String} (hty : ty = "str_ascii_iterator" ∨ ty = "str_iterator") :
    Draws prog w A it [it] x.cps.size (fun i v => ∃ c u, x.cps[i]? = some c ∧ v = .str ⟨#[c]⟩ u) (fun i h => h.IsStrIter it ty x t i) := by
  rcases hty with e | e
  · rw [e]; exact Draws.strAscii hh it x t
  · rw [e]; exact Draws.strWide hh it x t
theorem turn_enumS {P : Program} {w : World} {K : PySem.W.Frag} {elts : List Expr} {kk : Nat} {tpos : Pos} (x : Str) (t : Tok) {ty : String} (hty : ty = "str_ascii_iterator" ∨ ty = "str_iterator") (e it : Addr) :
    Turn P w K (.Tuple elts kk tpos) (IteS x) [e, it] e (fun i h => (∃ old, IsEnum h e it ((i : Nat) : Int) old) ∧ h.IsStrIter it ty x t i ∧ e ≠ it) where
  mem := by simp
  obj := fun i h st b hb => by
    obtain ⟨⟨old, he⟩, ⟨o, ho, hc, hd⟩, _⟩ := st
    rcases List.mem_cons.mp hb with z | z
    · rw [z]; exact ⟨_, he, fun v q => nomatch q⟩
    · rw [List.mem_singleton.mp z]; exact ⟨o, ho, fun v q => by rw [hd] at q; cases q⟩
  keep := fun i h h' st k => by
    obtain ⟨⟨old, he⟩, ⟨o, ho, r⟩, hne⟩ := st
    exact ⟨⟨old, k e (by simp) _ he⟩, ⟨o, k it (by simp) o ho, r⟩, hne⟩
  item := by
    intro X hP hw hK hc i pins s σ H E I hf st hg
    subst hP hw hK
    obtain ⟨⟨old, he⟩, hit, hne⟩ := st
    have hel : e < s.heap.objs.size := Heap.lt_size he
    have hil : it < s.heap.objs.size := by obtain ⟨_, q, _⟩ := hit; exact Heap.lt_size q
    refine wpAny_pyNext_enum_itemC (drawsS (by exact I.ok.hd hc) it x t hty) he hit hg hne (by simp [hne]) fun y h' tk hP ho hst hT hsz hk => ?_
    obtain ⟨c, u, hcx, rfl⟩ := hP
    refine ⟨_, rfl, wpAny_letOwnedTupleGo_enum (s := { s with heap := h', toks := tk + 1 }) ho fun h'' he' sb => ?_⟩
    have hT2 : h''.get? s.heap.objs.size = some { cls := .type "tuple", data := .seq #[.int i tk, .str ⟨#[c]⟩ u] } := (sb.2 _ (Nat.ne_of_gt hel)).trans hT
    have new : ObjOk X.prog X.w (upd H s.heap.objs.size (.tup [.int (i : Nat), .str ⟨#[c]⟩])) h'' s.heap.objs.size (.tup [.int (i : Nat), .str ⟨#[c]⟩]) :=
      ⟨by show 2 ≤ sizeLine; decide, [.int i tk, .str ⟨#[c]⟩ u], .cons ⟨_, rfl⟩ (.cons ⟨_, rfl⟩ .nil), ⟨_, hT2, rfl, _, rfl⟩⟩
    have I1 : Inv X pins σ (upd H s.heap.objs.size (.tup [.int (i : Nat), .str ⟨#[c]⟩])) { s with heap := h'', toks := tk + 1 } :=
      I.turnedNew (ch := [e, it]) (fun b ob hb q => (sb.2 b (fun z => hb (by simp [z]))).trans (hk b ob (fun z => hb (by simp [z])) (fun z => hb (by simp [z])) q)) hf (Nat.le_refl _) new
    refine ⟨.ref s.heap.objs.size, _, I1, rfl, ⟨_, c, rfl, I.hok.fresh (Nat.le_refl _), rfl, hcx⟩, ⟨⟨.str ⟨#[c]⟩ u, ?_⟩, ?_, hne⟩, fun b hb => ?_⟩
    · rw [show ((i + 1 : Nat) : Int) = (i : Int) + 1 by omega]
      exact he'
    · obtain ⟨o, ho2, r⟩ := hst
      exact ⟨o, (sb.2 it (Ne.symm hne)).trans ho2, r⟩
    · have hb' : b < s.heap.objs.size := by
        rcases List.mem_cons.mp hb with z | z
        · rw [z]; exact hel
        · rw [List.mem_singleton.mp z]; exact hil
      rw [upd_ne (Nat.ne_of_lt hb')]
      exact (hf b hb).1
  done := by
    intro X hP hw hK hc i pins s σ H E I hf st hg
    subst hP hw hK
    obtain ⟨⟨old, he⟩, hit, hne⟩ := st
    obtain ⟨f0, f1, f2, f3, f4, f5⟩ := hf it (by simp)
    have hg : x.cps.size = i := hg
    exact wpAny_pyNext_enum_endD (drawsS (by exact I.ok.hd hc) it x t hty) he (by rw [hg]; exact hit) fun h' eb => ⟨rfl, I.turned (t' := s.toks) (fun b o hb q => eb b o hb q) f0 f1 f3 f4 f5⟩
  self := fun A i s Q E st h => by
    obtain ⟨⟨_, he⟩, _⟩ := st
    exact wpAny_pyIter_enum he h
def iEnumS (ta : TA) : TI := fun σ H R => ta σ H fun vs H1 => ∃ x, vs = [.str x] ∧ R (IteS x) H1
theorem pi_enumS {X : Cx} {e : Expr} {ta : TA} {p pos tpos : Pos} {elts : List Expr} {kk : Nat} (hg : Gl X "enumerate") (hm : X.mg "enumerate" = none) (ha : PA X [e] ta) (hs : starEach [e] X.env = [(false, eval e X.env)] := by rfl) :
    PI X (.Tuple elts kk tpos) (.Call (.Name "enumerate" p) [e] [] pos) (iEnumS ta) := by
  refine ⟨fun pins s σ H R I h => ?_⟩
  refine Call_ (ld_blt I hg hm boot_enumerate (PyProof.Rows.callWith_type1 (thn (ha.run pos pins s σ H _ I h) fun us s1 z => ?_) hs rfl))
  obtain ⟨vs, H1, I1, r1, x, rfl, q⟩ := z
  match us, r1 with
  | [u], .cons r .nil =>
    obtain ⟨t, rfl⟩ := r
    refine call_enumerate_str fun h' he hit hsz hk => wpAny_pyIter_enum he ?_
    have hty : strIterType x = "str_ascii_iterator" ∨ strIterType x = "str_iterator" := by
      unfold strIterType
      cases x.cps.all (· < 128)
      · exact .inr rfl
      · exact .inl rfl
    have I2 : Inv X pins σ H1 { s1 with heap := h' } := I1.kept (t' := s1.toks) hk
    refine ⟨s1.heap.objs.size + 1, [s1.heap.objs.size + 1, s1.heap.objs.size], _, _, H1, rfl, I2, turn_enumS x t hty (s1.heap.objs.size + 1) s1.heap.objs.size, ⟨⟨.none, he⟩, hit, Nat.succ_ne_self _⟩, fun b hb => ?_, q⟩
    have hle : s1.heap.objs.size ≤ b := by
      rcases List.mem_cons.mp hb with z | z
      · rw [z]; exact Nat.le_add_right _ _
      · rw [List.mem_singleton.mp z]; exact Nat.le_refl _
    exact I1.fpOk hle (I1.hok.fresh hle)
end ZL
set_option Elab.async false
set_option linter.all false
set_option maxRecDepth 100000
set_option maxHeartbeats 4000000
/-! the rules for texts and dicts, over plain values -/
namespace PV
open PySem PySem.Spec PyProof.Rows L2 ZL
/-! ### enumerate(text) -/
def ensD (ds : List D) (S1 : Sto) : Out (List D × Option Nat) := match ds with
  | [.str z] => .ok (numbered 0 (signs z), none) S1
  | _ => .no
def iEs (m : MA) : MI := fun ρ S => (m ρ S).bind ensD
theorem signs_at {z : Str} {i : Nat} {d : D} (h : (signs z)[i]? = some d) : ∃ c, z.cps[i]? = some c ∧ d = .str ⟨#[c]⟩ := by
  unfold signs at h
  rw [List.getElem?_map, Array.getElem?_toList] at h
  obtain ⟨c, hc, rfl⟩ := Option.map_eq_some_iff.mp h
  exact ⟨c, hc, rfl⟩
theorem signs_len (z : Str) : (signs z).length = z.cps.size := by simp [signs]
theorem walkES {K : PySem.W.Frag} {G : Gh} {z : Str} : WalkD K G (numbered 0 (signs z)) none (IteS z) where
  goes := fun i G' S H le sm _ hi => by
    rw [numbered_length, signs_len] at hi
    exact hi
  stops := fun G' S H le sm _ => by
    rw [numbered_length, signs_len]
    exact rfl
  yields := fun i G' S H x H' d le sm _ hd y => by
    obtain ⟨T, c, rfl, hT, hH, hc⟩ := y
    obtain ⟨w, h6, rfl⟩ := numbered_get hd
    obtain ⟨c', h7, rfl⟩ := signs_at h6
    rw [hc] at h7
    cases h7
    refine pair_yield (xs := []) (o := none) sm hT hH ?_ (.str _)
    rw [Int.zero_add]
    exact .int _
theorem qi_enumS {X : Cx} {e : Expr} {ms : MA} {p pos tpos : Pos} {elts : List Expr} {kk : Nat} (hm : X.mg "enumerate" = none) (ha : QA X [e] ms) (hg : Gl X "enumerate" := by rfl) (hs : starEach [e] X.env = [(false, eval e X.env)] := by rfl) :
    QI X (.Tuple elts kk tpos) (.Call (.Name "enumerate" p) [e] [] pos) (iEs ms) := ⟨fun pins s σ H R I ⟨ρ, S, G, sm, re, q⟩ => (pi_enumS hg hm ha hs).run pins s σ H R I (by
  have q : sat X (fun G' (a : List D × Option Nat) (J : It) => WalkD X.K G' a.1 a.2 J) G H ((ms ρ S).bind ensD) (fun J H' => R J H') := q
  refine ⟨ρ, S, G, sm, re, (sat.bind (R := Rps X.K) q).imp fun vs H1 w => ?_⟩
  obtain ⟨ds, S1, G1, le1, sm1, r1, q1⟩ := w
  unfold ensD at q1
  split at q1
  · obtain ⟨v, rfl, h1⟩ := vals1 r1
    cases h1
    exact ⟨_, rfl, q1 G1 H1 _ .refl sm1 walkES⟩
  · exact q1.elim)⟩
/-! ### len(set(xs)), xs a list of unlike texts -/
def lnsE (m : ME) : ME := fun ρ S => (m ρ S).bind fun d S1 => match d with
  | .lst xs => match asStrs xs with
    | some ys => if ys.Nodup ∧ ys.length < 4000 then .ok (.int ys.length) S1 else .no
    | none => .no
  | _ => .no
theorem qe_lns {X : Cx} {a : Expr} {m : ME} {p p2 q pos : Pos} (hm : X.mg "len" = none) (hm2 : X.mg "set" = none) (ha : QE X a m) (hc : X.calm = true := by rfl) (hg : Gl X "len" := by rfl) (hg2 : Gl X "set" := by rfl)
    (na : starEach [a] X.env = (false, eval a X.env) :: starEach [] X.env := by rfl) : QE X (.Call (.Name "len" p) [.Call (.Name "set" p2) [a] [] q] [] pos) (lnsE m) := qe_of (pe_lenS hc hg hm hg2 hm2 ha na) fun ρ S G σ H Q sm re h => by
  refine ⟨ρ, S, G, sm, re, (sat.bind h).imp fun v H1 w => ?_⟩
  obtain ⟨d, S1, G1, le1, sm1, r1, q1⟩ := w
  split at q1
  · split at q1
    · rename_i ys hys
      split at q1
      · rename_i hc
        cases r1 with
        | lst h1 r =>
          rw [asStrs_rp hys r] at h1
          exact ⟨_, ys, rfl, SqL.of (sm1.fr _ _ h1), hc.2, by rw [ZS.dN_nodup hc.1 _ (Nat.le_refl _)]; exact q1 G1 H1 _ .refl sm1 (.int _)⟩
      · exact q1.elim
    · exact q1.elim
  · exact q1.elim
/-! ### f'..' -/
def fmE (m : ME) : ME := fun ρ S => (m ρ S).bind fun d S1 => match d with
  | .str y => if y.length ≤ sizeLine then .ok (.str y) S1 else .no
  | .int i => if i.natAbs.log2 < 1920 then .ok (.str (strOf i)) S1 else .no
  | _ => .no
theorem qe_fm {X : Cx} {e : Expr} {m : ME} {pos : Pos} (he : QE X e m) : QE X (.FormattedValue e (-1) none pos) (fmE m) := qe_of (pe_fmt he) fun ρ S G σ H Q sm re h => by
  refine ⟨ρ, S, G, sm, re, (sat.bind h).imp fun v H1 w => ?_⟩
  obtain ⟨d, S1, G1, le1, sm1, r1, q1⟩ := w
  split at q1
  · split at q1
    · rename_i hc
      cases r1
      exact .inl ⟨_, rfl, hc, q1 G1 H1 _ .refl sm1 (.str _)⟩
    · exact q1.elim
  · split at q1
    · rename_i hc
      cases r1
      exact .inr ⟨_, rfl, hc, q1 G1 H1 _ .refl sm1 (.str _)⟩
    · exact q1.elim
  · exact q1.elim
def jsL : List ME → Str → Ev → Sto → Out Str
  | [], acc, _, S => .ok acc S
  | m :: ms, acc, ρ, S => (m ρ S).bind fun d S1 => match d with
    | .str y => if (acc ++ y).length ≤ sizeLine then jsL ms (acc ++ y) ρ S1 else .no
    | _ => .no
def jsE (ms : List ME) : ME := fun ρ S => (jsL ms Str.empty ρ S).bind fun z S1 => .ok (.str z) S1
abbrev QJ (X : Cx) (es : List Expr) (ms : List ME) : Prop := PJ X es (ms.map (tE X))
theorem qj_nil {X : Cx} : QJ X [] [] := .nil
theorem qj_cons {X : Cx} {e : Expr} {m : ME} {es : List Expr} {ms : List ME} (h : QE X e m) (r : QJ X es ms) : QJ X (e :: es) (m :: ms) := .cons h r
theorem js_sat {X : Cx} : ∀ (ms : List ME) (acc : Str) {ρ : Ev} {S : Sto} {G : Gh} {σ : L2.St} {H : Hp} {Q : Str → Hp → Prop}, Sm X.K G S H → Re X.K G ρ σ → sat X (fun _ a b => a = b) G H (jsL ms acc ρ S) Q → tJs (ms.map (tE X)) acc σ H Q
  | [], acc, ρ, S, G, σ, H, Q, sm, re, h => h G H acc .refl sm rfl
  | m :: ms, acc, ρ, S, G, σ, H, Q, sm, re, h => by
    refine ⟨ρ, S, G, sm, re, (sat.bind (R := Rp X.K) h).imp fun v H1 w => ?_⟩
    obtain ⟨d, S1, G1, le1, sm1, r1, q1⟩ := w
    split at q1
    · split at q1
      · rename_i y hc
        cases r1
        exact ⟨y, rfl, hc, js_sat ms _ sm1 (re.mono le1.le) q1⟩
      · exact q1.elim
    · exact q1.elim
theorem qe_js {X : Cx} {e1 e2 : Expr} {es : List Expr} {m1 m2 : ME} {ms : List ME} {pos : Pos} (h : QJ X (e1 :: e2 :: es) (m1 :: m2 :: ms)) : QE X (.JoinedStr (e1 :: e2 :: es) pos) (jsE (m1 :: m2 :: ms)) :=
  qe_of (pe_joined h) fun ρ S G σ H Q sm re z => by
    refine js_sat _ _ sm re ((sat.bind z).imp fun x H1 w => ?_)
    obtain ⟨y, S1, G1, le1, sm1, rfl, q1⟩ := w
    exact q1 G1 H1 _ .refl sm1 (.str _)
/-! ### z.index(y) -/
def indexG : G2 := fun x y S => match x, y with
  | .str a, .str b => match Builtin.Str.occurrences a b 0 a.length 1 with
    | i :: _ => .ok (.int (i : Nat)) S
    | [] => .no
  | _, _ => .no
theorem mf_index {X : Cx} : Mt1 X "str.index" indexG := fun pins s σ H v vs u us Q I rv rs ⟨x, y, w, S, G, sm, rx, ev, ry, h⟩ => by
  subst ev
  unfold indexG at h
  split at h
  · split at h
    · rename_i i rest ho
      cases rx; cases ry
      exact mt_sindex pins s σ H _ _ u us Q I rv rs ⟨_, _, i, rest, rfl, rfl, ho, h G H _ .refl sm (.int _)⟩
    · exact h.elim
  · exact h.elim
theorem qe_index {X : Cx} {o e : Expr} {mo m : ME} {apos pos : Pos} (ho : QE X o mo) (he : QE X e m) (hs : starEach [e] X.env = [(false, eval e X.env)] := by rfl) (hbase : attributeBase o "index" X.env (eval o X.env) = eval o X.env := by rfl) (hline : (apos.endLine == pos.line) = true := by rfl) :
    QE X (.Call (.Attribute o "index" apos) [e] [] pos) (mthS indexG mo m) := qe_mthS F.slot_str_index F.type_str_index mf_index ho he hs hbase hline
/-! ### a written dict of texts, by its name -/
def kdG (c : String) (kvs : List (Str × Str)) : G2 := fun x y S => match x, y with
  | .cls d, .str z => if d = c then match kvs.lookup z with
      | some v => .ok (.str v) S
      | none => .no
    else .no
  | _, _ => .no
theorem lookup_mem {α : Type} {z : Str} {v : α} : ∀ {kvs : List (Str × α)}, kvs.lookup z = some v → (z, v) ∈ kvs
  | [], h => by cases h
  | (k, w) :: r, h => by
    rw [List.lookup_cons] at h
    by_cases e : z = k
    · subst e
      simp at h
      subst h
      exact List.mem_cons_self
    · have : (z == k) = false := by simpa using e
      rw [this] at h
      exact List.mem_cons_of_mem _ (lookup_mem h)
theorem ix_kd {X : Cx} {c : String} {kvs : List (Str × Str)} (D : ∃ es n, KDict X.K X.w (gaS X.K c) es n) (hv : ∀ q ∈ kvs, ∃ t, PySem.W.nsIn X.K (gaS X.K c) q.1 = some (some (.str q.2 t))) :
    IxR X (fun v w H Q => ∃ x y S G, Sm X.K G S H ∧ Rp X.K G x v ∧ Rp X.K G y w ∧ sat X (Rp X.K) G H (kdG c kvs x y S) Q) := fun ea eb pins s σ H v w u u' Q I rv rw' ⟨x, y, S, G, sm, rx, ry, h⟩ hs => by
  unfold kdG at h
  split at h
  · split at h
    · rename_i hc
      subst hc
      split at h
      · rename_i z v' hl
        cases rx; cases ry
        obtain ⟨es, n, kd⟩ := D
        obtain ⟨t, e⟩ := hv _ (lookup_mem hl)
        exact ix_kdict ea eb pins s σ H _ _ u u' Q I rv rw' ⟨_, _, .str v', rfl, rfl, ⟨es, n, _, kd.at_, kd.lit, e, ⟨t, rfl⟩⟩, h G H _ .refl sm (.str _)⟩ hs
      · exact h.elim
    · exact h.elim
  · exact h.elim
theorem qe_ixR {X : Cx} {a b : Expr} {ma mb : ME} {g : G2} {pos : Pos} (hr : IxR X (fun v w H Q => ∃ x y S G, Sm X.K G S H ∧ Rp X.K G x v ∧ Rp X.K G y w ∧ sat X (Rp X.K) G H (g x y S) Q)) (ha : QE X a ma) (hb : QE X b mb) (hs : PlainIx b := by exact fun _ _ => rfl) :
    QE X (.Subscript a b pos) (bin g ma mb) := qe_of (pe_ix hr ha hb hs) fun ρ S G σ H Q sm re h => by
  refine ⟨ρ, S, G, sm, re, (sat.bind h).imp fun v H1 w => ?_⟩
  obtain ⟨x, S1, G1, le1, sm1, r1, q1⟩ := w
  refine ⟨ρ, S1, G1, sm1, re.mono le1.le, (sat.bind q1).imp fun v' H2 w => ?_⟩
  obtain ⟨y, S2, G2, le2, sm2, r2, q2⟩ := w
  exact ⟨x, y, S2, G2, sm2, r1.mono le2.le, r2, q2⟩
/-! ### a dict of one's own, of constants -/
inductive Cst where
  | int (i : Int) | str (z : Str) | bl (b : Bool) | non
def Cst.v : Cst → V
  | .int i => .int i
  | .str z => .str z
  | .bl b => .bl b
  | .non => .non
def Cst.d : Cst → D
  | .int i => .int i
  | .str z => .str z
  | .bl b => .bl b
  | .non => .non
theorem Cst.rp {K : PySem.W.Frag} {G : Gh} : ∀ c : Cst, Rp K G c.d c.v
  | .int i => .int i
  | .str z => .str z
  | .bl b => .bl b
  | .non => .non
def kvV (kvs : List (Str × Cst)) : List (Key × V) := kvs.map fun q => (.inr q.1, q.2.v)
def dcE (kvs : List (Str × Cst)) : ME := fun _ S => .ok (.hob (.dK (mergeK [] (kvV kvs)))) S
inductive PC1 (X : Cx) : Expr → Cst → Prop where
  | int {i : Int} {j : Nat} {p : Pos} : PC1 X (.Constant (.int i) j p) (.int i)
  | str {z : Str} {j : Nat} {p : Pos} : PC1 X (.Constant (.str z) j p) (.str z)
  | bl {b : Bool} {j : Nat} {p : Pos} : PC1 X (.Constant (.bool b) j p) (.bl b)
  | non {j : Nat} {p : Pos} : PC1 X (.Constant .none j p) .non
theorem PC1.pe {X : Cx} {e : Expr} {c : Cst} (h : PC1 X e c) : PE X e (tC c.v) := by
  cases h with
  | int => exact pe_int
  | str => exact pe_str
  | bl => exact pe_bl
  | non => exact pe_non
structure QP (X : Cx) (pos : Pos) (keys : List (Option Expr)) (values : List Expr) (kvs : List (Str × Cst)) : Prop where
  run : ∃ trs, PPs X pos keys values trs ∧ ∀ σ H (Q : List (V × V) → Hp → Prop), Q ((kvV kvs).map fun kv => (kV kv.1, kv.2)) H → tPairs trs σ H Q
theorem qp_nil {X : Cx} {pos : Pos} : QP X pos [] [] [] := ⟨[], pps_nil, fun _ _ _ h => h⟩
theorem qp_cons {X : Cx} {pos kp : Pos} {z : Str} {j : Nat} {e : Expr} {c : Cst} {ks : List (Option Expr)} {vs : List Expr} {kvs : List (Str × Cst)} (h : PC1 X e c) (r : QP X pos ks vs kvs) : QP X pos (some (.Constant (.str z) j kp) :: ks) (e :: vs) ((z, c) :: kvs) := by
  obtain ⟨trs, h1, h2⟩ := r
  exact ⟨_, pps_cons pe_str h.pe h1, fun σ H Q q => h2 σ H _ q⟩
theorem qe_dc {X : Cx} {pos : Pos} {keys : List (Option Expr)} {values : List Expr} {kvs : List (Str × Cst)} (h : QP X pos keys values kvs) (hall : keys.all (·.isSome) = true := by rfl) (hl : keys.length = values.length := by rfl) (h0 : keys ≠ [] := by simp) (h15 : keys.length ≤ 15 := by decide) (hk : kvs.length ≤ 15 := by decide) :
    QE X (.Dict keys values pos) (dcE kvs) := by
  obtain ⟨trs, h1, h2⟩ := h
  refine qe_of (pe_disp h1 hall hl h0 h15) fun ρ S G σ H Q sm re z p hp => h2 _ _ _ ⟨upd_same, kvV kvs, rfl, by simpa [kvV] using hk, ?_⟩
  have e : upd (upd H p (.dK [])) p (.dK (mergeK [] (kvV kvs))) = upd H p (.dK (mergeK [] (kvV kvs))) := by
    funext a
    by_cases q : a = p
    · subst q; rw [upd_same, upd_same]
    · rw [upd_ne q, upd_ne q, upd_ne q]
  rw [e]
  exact z _ _ _ (Stp.put sm hp) (sm.put hp) (.hob upd_same)
def vD : V → Option D
  | .int i => some (.int i)
  | .str z => some (.str z)
  | .bl b => some (.bl b)
  | .non => some .non
  | _ => none
theorem vD_rp {K : PySem.W.Frag} {G : Gh} {v : V} {d : D} (h : vD v = some d) : Rp K G d v := by
  cases v <;> simp [vD] at h <;> subst h
  all_goals first | exact .non | exact .bl _ | exact .int _ | exact .str _
/-- d[k], k a text that is there -/
def dkG : G2 := fun x y S => match x, y with
  | .hob (.dK kvs), .str z => match (valV kvs (.inr z : Key)).bind vD with
    | some d => .ok d S
    | none => .no
  | _, _ => .no
theorem qe_dk {X : Cx} {a b : Expr} {ma mb : ME} {pos : Pos} (hu : X.A.units + 1 < cLine) (ha : QE X a ma) (hb : QE X b mb) (hs : NoSl b := by exact fun _ _ => rfl) : QE X (.Subscript a b pos) (bin dkG ma mb) := qe_of (pe_dget hu ha hb hs) fun ρ S G σ H Q sm re h => by
  refine ⟨ρ, S, G, sm, re, (sat.bind h).imp fun v H1 w => ?_⟩
  obtain ⟨x, S1, G1, le1, sm1, r1, q1⟩ := w
  refine ⟨ρ, S1, G1, sm1, re.mono le1.le, (sat.bind q1).imp fun v' H2 w => ?_⟩
  obtain ⟨y, S2, G2, le2, sm2, r2, q2⟩ := w
  have r1 := r1.mono le2.le
  unfold dkG at q2
  split at q2
  · rename_i kvs z _
    split at q2
    · rename_i d hd
      obtain ⟨u, hu1, hu2⟩ := Option.bind_eq_some_iff.mp hd
      cases r1 with
      | hob h1 =>
        cases r2
        refine ⟨_, u, rfl, ?_, q2 G2 H2 _ .refl sm2 (vD_rp hu2)⟩
        have := DGet.k (k := (.inr z : Key)) (sm2.fr _ _ h1)
        rw [hu1] at this
        exact this
    · exact q2.elim
  · exact q2.elim
/-- d.get(k), k a text -/
def getE (mo m : ME) : ME := fun ρ S => (mo ρ S).bind fun x S1 => match x with
  | .hob (.dK kvs) => (m ρ S1).bind fun y S2 => match y with
    | .str z => match valV kvs (.inr z : Key) with
      | some v => match vD v with
        | some d => .ok d S2
        | none => .no
      | none => .ok .non S2
    | _ => .no
  | _ => .no
theorem qe_get {X : Cx} {o e : Expr} {mo m : ME} {apos cpos : Pos} (hu : X.A.units + 1 < cLine) (ho : QE X o mo) (he : QE X e m) (h1 : attributeBase o "get" X.env (eval o X.env) = eval o X.env := by rfl)
    (h2 : ((backTo cpos (starEach [e] X.env)).all (fun x => !x.1) && (backToKw cpos (keywordEach [] X.env)).all (fun x => x.1.isSome) && decide (([e] : List Expr).length + ([] : List Keyword).length + (if ([] : List Keyword).isEmpty then 0 else 1) < 30)) = true := by rfl)
    (h3 : (apos.endLine == cpos.line) = true := by rfl) (h4 : backTo cpos (starEach [e] X.env) = [(false, eval e X.env)] := by rfl) : QE X (.Call (.Attribute o "get" apos) [e] [] cpos) (getE mo m) :=
  qe_of (pe_dget1 hu ho he ⟨h1, h2, h3, h4⟩) fun ρ S G σ H Q sm re h => by
  refine ⟨ρ, S, G, sm, re, (sat.bind h).imp fun v H1 w => ?_⟩
  obtain ⟨x, S1, G1, le1, sm1, r1, q1⟩ := w
  split at q1
  · rename_i kvs
    cases r1 with
    | hob hx =>
      refine ⟨_, rfl, .inl ⟨kvs, .inl (sm1.fr _ _ hx)⟩, ρ, S1, G1, sm1, re.mono le1.le, (sat.bind q1).imp fun v' H2 w => ?_⟩
      obtain ⟨y, S2, G2, le2, sm2, r2, q2⟩ := w
      split at q2
      · rename_i z
        cases r2
        refine ⟨_, DGet.k (k := (.inr z : Key)) (sm2.fr _ _ (le2.le.1 _ _ hx)), ?_⟩
        split at q2
        · rename_i u hu1
          rw [hu1]
          split at q2
          · rename_i d hd
            exact q2 G2 H2 _ .refl sm2 (vD_rp hd)
          · exact q2.elim
        · rename_i hu1
          rw [hu1]
          exact q2 G2 H2 _ .refl sm2 .non
      · exact q2.elim
  · exact q1.elim
end PV
set_option Elab.async false
set_option linter.all false
set_option maxRecDepth 100000
set_option maxHeartbeats 4000000
/-! repr of None, of truths, of texts; rooms -/
namespace PV
open PySem PySem.Spec PyProof.Rows L2 ZL
def reprN (g : Fn) : Fn := fun ds S => match ds with
  | [.non] => .ok (.str "None") S
  | [.bl b] => .ok (.str (if b = true then "True" else "False")) S
  | [.str z] => if (reprText z).length ≤ sizeLine then .ok (.str (reprText z)) S else .no
  | ds => g ds S
theorem cf_reprN {X : Cx} {g : Fn} (h : CallF X (.builtin "repr") g) : CallF X (.builtin "repr") (reprN g) := fun pins s σ H vs us Q I rv ⟨ds, S, G, sm, r, z⟩ => by
  unfold reprN at z
  split at z
  · obtain ⟨v, rfl, q⟩ := vals1 r
    cases q
    obtain ⟨u, rfl, e⟩ := L2.vals1 rv
    cases e
    exact PySem.P.repr_of_none ⟨.str "None", H, I.tok _, ⟨_, rfl⟩, z G H _ .refl sm (.str _)⟩
  · rename_i b
    obtain ⟨v, rfl, q⟩ := vals1 r
    cases q
    obtain ⟨u, rfl, e⟩ := L2.vals1 rv
    cases e
    exact PySem.P.repr_of_bool ⟨.str (if b = true then "True" else "False"), H, I.tok _, ⟨_, by cases b <;> rfl⟩, z G H _ .refl sm (.str _)⟩
  · split at z
    · rename_i t hc
      obtain ⟨v, rfl, q⟩ := vals1 r
      cases q
      obtain ⟨u, rfl, e⟩ := L2.vals1 rv
      obtain ⟨k, rfl⟩ := e
      exact PySem.P.repr_of_str (hsz := hc) ⟨.str _, H, I.tok _, ⟨_, rfl⟩, z G H _ .refl sm (.str _)⟩
    · exact z.elim
  · exact h pins s σ H vs us Q I rv ⟨_, S, G, sm, r, z⟩
theorem u1 {j : Nat} {A : Around} (r : Room j A) : A.units + 1 < cLine := by have := r.un; omega
theorem dval_of {K : PySem.W.Frag} {a : Addr} {k v : Str} (h : (match PySem.W.nsIn K a k with | some (some (.str y _)) => decide (y = v) | _ => false) = true) : ∃ t, PySem.W.nsIn K a k = some (some (.str v t)) := by
  split at h
  · rename_i y t e
    have := of_decide_eq_true h
    subst this
    exact ⟨t, e⟩
  · cases h
end PV
set_option Elab.async false
set_option linter.all false
set_option maxRecDepth 100000
set_option maxHeartbeats 4000000
/-! xs[i] op= e; a list that is written no more; [x] * n to be written -/
namespace L2
open PySem PySem.Spec PyProof.Rows
/-- xs[i], from the front -/
theorem get_list {X : Cx} : PGet X (fun o i H Q => ∃ (a : Addr) (xs : List V) (k : Int) (x : V), o = .ref a ∧ i = .int k ∧ H a = some (.lst xs) ∧ 0 ≤ k ∧ xs[k.toNat]? = some x ∧ Q x H) := by
  intro pins s σ H o i ov iv Q I ro ri h
  obtain ⟨a, xs, k, x, rfl, rfl, ha, h0, hx, q⟩ := h
  cases ro
  obtain ⟨t, rfl⟩ := ri
  obtain ⟨its, r, pl, hz⟩ := I.list (.inl (.inl ha))
  obtain ⟨u, hu, ru⟩ := r.get hx
  have hl := r.length
  have hk : k.toNat < its.length := (List.getElem?_eq_some_iff.mp hu).1
  have hn := line63
  exact wpAny_getItem_list pl.isList h0 (by omega) (by simpa using hu) ⟨x, H, I, ru, q⟩
end L2
namespace PV
open PySem PySem.Spec PyProof.Rows L2 ZL
/-! ### a list that is written no more -/
def frzE (m : ME) : ME := fun ρ S => (m ρ S).bind fun d S1 => match d with
  | .loc n => match S1[n]? with
    | some (.lst xs) => .ok (.lst xs) (S1.set n .dead)
    | _ => .no
  | _ => .no
theorem qe_frz {X : Cx} {e : Expr} {m : ME} (h : QE X e m) : QE X e (frzE m) := qe_of h fun ρ S G σ H Q sm re z => by
  refine ⟨ρ, S, G, sm, re, ?_⟩
  unfold frzE at z
  match em : m ρ S, z with
  | .ex c fs S', z => exact z
  | .no, z => exact z.elim
  | .ok d S1, z =>
    intro G1 H1 v st sm1 r
    simp only [Out.bind] at z
    split at z
    · split at z
      · rename_i n xs hn
        cases r with
        | loc hf =>
          obtain ⟨hF, vs, ha, rr⟩ := sm1.addr hn (by simp) hf
          have fr := Stp.freeze (H := H1) (o := .lst vs) hf hF
          exact z _ H1 _ (st.trans fr) (sm1.freeze hn (by simp) hf ha) (.lst upd_same (rr.mono fr.le))
      · exact z.elim
    · exact z.elim
/-! ### [x] * n, to be written -/
def mulM : G2 := fun x y S => match x, y with
  | .lst a, .int k => if repOk a.length k = true then .ok (.loc S.length) (S ++ [.lst (List.replicate k.toNat a).flatten]) else .no
  | _, _ => .no
theorem of_mulM {X : Cx} : OpF X (binaryOp .Mult) mulM := fun pins s σ H v w u u' Q I rv rw' ⟨x, y, S, G, sm, rx, ry, h⟩ => by
  unfold mulM at h
  split at h
  · split at h
    · rename_i c
      unfold repOk at c
      rw [Bool.and_eq_true, Bool.and_eq_true] at c
      cases rx with
      | lst h1 r1 =>
        cases ry
        refine op_rep pins s σ H _ _ u u' Q I rv rw' ⟨_, _, _, rfl, rfl, sm.fr _ _ h1, of_decide_eq_true c.1.1, of_decide_eq_true c.1.2, ?_, fun p hp => ?_⟩
        · rw [r1.length]
          exact of_decide_eq_true c.2
        · exact new_cell sm hp (r1.flat _) h
    · exact h.elim
  · exact h.elim
/-! ### o[i] op= e -/
def sAugS (g : G2) (o i m : ME) : MS := fun ρ S => (o ρ S).bind fun x S1 => (i ρ S1).bind fun k S2 => match x, k with
  | .loc n, .int k => match S2[n]? with
    | some (.lst xs) => if 0 ≤ k then match xs[k.toNat]? with
        | some y => (m ρ S2).bind fun z S3 => (g y z S3).bind fun w S4 => match S4[n]? with
          | some (.lst ys) => if k.toNat < ys.length then .ok (.nx ρ) (S4.set n (.lst (ys.set k.toNat w))) else .no
          | _ => .no
        | none => .no
      else .no
    | _ => .no
  | _, _ => .no
theorem qs_augS {X : Cx} {o i e : Expr} {mo mi m : ME} {g : G2} {op : Operator} {tpos pos : Pos} (hg : IpF X op g) (ho : QE X o mo) (hi : QE X i mi) (he : QE X e m)
    (ha : ∀ ov iv new, augStore i ov iv new = (do holding [new, ov, iv] (setItem ov iv new); release [new, ov, iv] []; pure .next) := by intros; rfl) : QS X (.AugAssign (.Subscript o i tpos) op e pos) (sAugS g mo mi m) :=
  qs_of (ps_augS ho hi get_list he hg set_list ha) fun ρ S G σ H D sm re z => by
  refine ⟨ρ, S, G, sm, re, (satS.bind z).imp fun v1 H1 w => ?_⟩
  obtain ⟨x, S1, G1, le1, sm1, r1, q1⟩ := w
  have re1 := re.mono le1.le
  refine ⟨ρ, S1, G1, sm1, re1, (satS.bind q1).imp fun v2 H2 w => ?_⟩
  obtain ⟨k, S2, G2, le2, sm2, r2, q2⟩ := w
  have re2 := re1.mono le2.le
  have r1 := r1.mono le2.le
  split at q2
  · rename_i n k _
    cases r2
    split at q2
    · rename_i xs hn
      split at q2
      · rename_i h0
        split at q2
        · rename_i y hy
          obtain ⟨a, vs, rfl, hf, ha2, rr⟩ := sm2.list hn r1
          obtain ⟨u, hu, ru⟩ := rr.get hy
          refine ⟨a, vs, k, u, rfl, rfl, ha2, h0, hu, ρ, S2, G2, sm2, re2, (satS.bind q2).imp fun v3 H3 w => ?_⟩
          obtain ⟨t, S3, G3, le3, sm3, r3, q3⟩ := w
          refine ⟨y, t, S3, G3, sm3, ru.mono le3.le, r3, (satS.bind q3).imp fun v4 H4 w => ?_⟩
          obtain ⟨z', S4, G4, le4, sm4, r4, q4⟩ := w
          split at q4
          · rename_i ys hn4
            split at q4
            · rename_i hlt
              obtain ⟨b, ws, hb, hf4, ha4, rr4⟩ := sm4.list hn4 (.loc ((le3.le.trans le4.le).2 _ _ hf))
              cases hb
              refine ⟨_, ws, k, k.toNat, rfl, rfl, ha4, ?_, ?_⟩
              · unfold ixN
                rw [if_pos h0, if_pos (by rw [rr4.length]; omega)]
              · exact q4 G4 _ σ (Stp.write hf4) (sm4.write hn4 (by simp) hf4 ⟨_, upd_same, rr4.set k.toNat r4⟩) ((re2.mono le3.le).mono le4.le)
            · exact q4.elim
          · exact q4.elim
        · exact q2.elim
      · exact q2.elim
    · exact q2.elim
  · exact q2.elim
end PV
set_option Elab.async false
set_option linter.all false
set_option maxRecDepth 100000
set_option maxHeartbeats 4000000
/-! range(a, b) of numbers as great as one likes -/
namespace L2
open PySem PySem.Spec PyProof.Rows
theorem turn_rangeL {P : Program} {w : World} {K : PySem.W.Frag} {tg : Expr} (it : Addr) (lo : Int) (n : Nat) : Turn P w K tg (Itr lo n) [it] it (fun i h => IsLongIter h it (lo + (i : Nat) * 1) ((n : Int) - (i : Nat)) 1) where
  mem := by simp
  obj := fun i h st b hb => by
    have e : b = it := by simpa using hb
    subst e
    exact ⟨_, st, fun v z => by
      have z' : Data.fields _ = Data.cell v := z
      cases z'⟩
  keep := fun i h h' st k => k it (by simp) _ st
  item := by
    intro X hP hw hK hc i pins s σ H E I hf st hg
    subst hP hw hK
    obtain ⟨f0, f1, f2, f3, f4, f5⟩ := hf it (by simp)
    have W := Walks.longrange (prog := X.prog) (w := X.w) (I.ok.hd hc) it lo 1 n
    refine W.item i s _ _ hg st fun v h' tk hv st' kk => ?_
    obtain ⟨t, rfl⟩ := hv
    have I1 : Inv X pins σ H { s with heap := h', toks := tk } := I.turned (fun b o hb e => kk b o (by simpa using hb) e) f0 f1 f3 f4 f5
    refine ⟨_, rfl, go_of (s := { s with heap := h', toks := tk }) (n := "longrange_iterator") st' rfl rfl (by decide) ⟨.int (lo + i), H, I1, ⟨t, ?_⟩, ⟨rfl, rfl⟩, st', fun b hb => (hf b hb).1⟩⟩
    rw [Int.mul_one]
  done := by
    intro X hP hw hK hc i pins s σ H E I hf st hg
    subst hP hw hK
    obtain ⟨f0, f1, f2, f3, f4, f5⟩ := hf it (by simp)
    exact wpAny_pyNext_long_end (I.ok.hd hc) st (by have : n ≤ i := hg; omega) fun h' eb => ⟨rfl, I.turned (t' := s.toks) (fun b o hb e => eb b o hb e) f0 f1 f3 f4 f5⟩
  self := fun _ _ _ _ _ st h => wpAny_pyIter_longiter st h
section
variable {X : Cx} {tg : Expr}
theorem range_itL {pins : List (Addr × Obj)} {σ : St} {H : Hp} {s : Shared} {R : It → Hp → Prop} {E : Value → Shared → Prop} {lo hi : Int} {t u v : Tok} {tk : Nat} (I : Inv X pins σ H s)
    (q : R (Itr lo (hi - lo).toNat) H) : wpAny (model X.prog X.w) X.A (pyIter (.ref s.heap.objs.size)) (PIE X pins σ tg R) E { s with heap := s.heap.push { cls := .type "range", data := .fields #[.int lo t, .int hi u, .int 1 v] }, toks := tk } := by
  have I1 : Inv X pins σ H { s with heap := s.heap.push { cls := .type "range", data := .fields #[.int lo t, .int hi u, .int 1 v] }, toks := tk } := I.kept fun b o e => Heap.get?_push_of_some _ e
  have e1 : lo + ((0 : Nat) : Int) * 1 = lo := by simp
  have e2 : (((hi - lo).toNat : Nat) : Int) - ((0 : Nat) : Int) = Builtin.Range.rangeSize lo hi 1 := by rw [rangeSize_one]; split <;> omega
  cases hs : Builtin.Range.small lo hi 1 with
  | true =>
    refine wpAny_pyIter_range (IsRange.new ..) hs ?_
    refine ⟨(s.heap.push { cls := .type "range", data := .fields #[.int lo t, .int hi u, .int 1 v] }).objs.size, [(s.heap.push { cls := .type "range", data := .fields #[.int lo t, .int hi u, .int 1 v] }).objs.size], _, _, H, rfl,
      I1.kept (t' := tk) fun b o e => Heap.get?_push_of_some _ e, turn_range _ lo (hi - lo).toNat, ?_, fun b hb => ?_, q⟩
    · show IsRangeIter _ _ (lo + ((0 : Nat) : Int) * 1) ((((hi - lo).toNat : Nat) : Int) - ((0 : Nat) : Int)) 1
      rw [e1, e2]
      exact Heap.get?_push_size _ rfl
    · have e : b = (s.heap.push { cls := .type "range", data := .fields #[.int lo t, .int hi u, .int 1 v] }).objs.size := by simpa using hb
      subst e
      exact I1.fpOk (Nat.le_refl _) (I1.hok.fresh (Nat.le_refl _))
  | false =>
    refine wpAny_pyIter_longrange (IsRange.new ..) hs ?_
    refine ⟨(s.heap.push { cls := .type "range", data := .fields #[.int lo t, .int hi u, .int 1 v] }).objs.size, [(s.heap.push { cls := .type "range", data := .fields #[.int lo t, .int hi u, .int 1 v] }).objs.size], _, _, H, rfl,
      I1.kept (t' := tk) fun b o e => Heap.get?_push_of_some _ e, turn_rangeL _ lo (hi - lo).toNat, ?_, fun b hb => ?_, q⟩
    · show IsLongIter _ _ (lo + ((0 : Nat) : Int) * 1) ((((hi - lo).toNat : Nat) : Int) - ((0 : Nat) : Int)) 1
      rw [e1, e2]
      exact Heap.get?_push_size _ rfl
    · have e : b = (s.heap.push { cls := .type "range", data := .fields #[.int lo t, .int hi u, .int 1 v] }).objs.size := by simpa using hb
      subst e
      exact I1.fpOk (Nat.le_refl _) (I1.hok.fresh (Nat.le_refl _))
def iRngL (ta : TA) : TI := fun σ H R => ta σ H fun vs H1 => ∃ i j : Int, vs = [.int i, .int j] ∧ R (Itr i (j - i).toNat) H1
theorem pi_rangeL {a b : Expr} {ta : TA} {p pos : Pos} (hg : Gl X "range") (hm : X.mg "range" = none) (ha : PA X [a, b] ta) (hs : starEach [a, b] X.env = [(false, eval a X.env), (false, eval b X.env)] := by rfl) (hs2 : starEach [b] X.env = [(false, eval b X.env)] := by rfl) :
    PI X tg (.Call (.Name "range" p) [a, b] [] pos) (iRngL ta) := by
  refine ⟨fun pins s σ H R I h => ?_⟩
  refine Call_ (ld_blt I hg hm boot_range (PyProof.Rows.callWith_type1 (thn (ha.run pos pins s σ H _ I h) fun us s1 ⟨vs, H1, I1, r1, q1⟩ => ?_) (by rw [hs, hs2]) (by rw [hs2]; rfl)))
  obtain ⟨i, j, e, q⟩ := q1
  subst e
  cases r1 with
  | cons r rr =>
    cases rr with
    | cons r' rr =>
      cases rr
      obtain ⟨t, rfl⟩ := r
      obtain ⟨t', rfl⟩ := r'
      exact call_range_2 (range_itL I1 q)
end
end L2
namespace PV
open PySem PySem.Spec PyProof.Rows L2
def iRL (m : MA) : MI := fun ρ S => (m ρ S).bind fun ds S1 => match ds with
  | [.int i, .int j] => .ok (ups i (j - i).toNat, none) S1
  | _ => .no
section
variable {X : Cx} {tg e : Expr} {ms : MA} {p pos : Pos}
theorem qi_rangeL {e2 : Expr} (hm : X.mg "range" = none) (ha : QA X [e, e2] ms) (hg : Gl X "range" := by rfl) (hs : starEach [e, e2] X.env = [(false, eval e X.env), (false, eval e2 X.env)] := by rfl) (hs2 : starEach [e2] X.env = [(false, eval e2 X.env)] := by rfl) : QI X tg (.Call (.Name "range" p) [e, e2] [] pos) (iRL ms) := ⟨fun pins s σ H R I ⟨ρ, S, G, sm, re, q⟩ => (pi_rangeL hg hm ha hs hs2).run pins s σ H R I (by
  refine ⟨ρ, S, G, sm, re, (sat.bind q).imp fun v H1 w => ?_⟩
  obtain ⟨ds, S1, G1, le1, sm1, r1, q1⟩ := w
  split at q1
  · obtain ⟨v, w, rfl, r, r'⟩ := vals2' r1
    cases r; cases r'
    exact ⟨_, _, rfl, q1 G1 H1 _ .refl sm1 walkR⟩
  · exact q1.elim)⟩
end
end PV
set_option Elab.async false
set_option linter.all false
set_option maxRecDepth 100000
set_option maxHeartbeats 4000000
/-! exceptions: kept as values behind a try, asked for their class and their fields; raised -/
namespace PV
open PySem PySem.Spec PyProof.Rows L2 ZL
section
variable {X : Cx} {pins : List (Addr × Obj)} {σ : L2.St} {H : Hp} {s : Shared}
theorem exV_ok {P : Program} {w : World} {H : Hp} {h : Heap} {a : Addr} {cls : Value} {dd : Option Addr} {oe : Obj} {vs : Array Value} (e : h.get? a = some oe) (z : Zc cls dd oe) (d : oe.data = .fields vs) : ObjOk P w H h a (ExV cls dd a) :=
  ⟨⟨oe, vs, e, z, d⟩, ⟨oe, e⟩, fun _ _ q k => by
    obtain ⟨o, v, q1, q2⟩ := q
    exact ⟨o, v, k _ q1, q2⟩⟩
/-- an object that is there and not told, nor was it there at the entry, is told from now on -/
theorem inv_told {a : Addr} {oe : Obj} {o : HO} (I : Inv X ((a, oe) :: pins) σ H s) (n0 : X.s_0.heap.get? a = none) (np : ∀ p ∈ X.pn ++ pins, p.1 ≠ a) (new : ObjOk X.prog X.w (upd H a o) s.heap a o) : Inv X pins σ (upd H a o) s := by
  obtain ⟨e1, e2, e3, e4, e5⟩ := I.pin (a, oe) (List.mem_append_right _ List.mem_cons_self)
  have ne : ∀ b, H b ≠ none → b ≠ a := fun b hb z => hb (by rw [z]; exact e2)
  have at_ : ∀ b, b ≠ a → upd H a o b = H b := fun b hb => upd_ne hb
  refine ⟨I.ok, I.os, I.bare, ⟨I.base.keep, I.base.slot, fun b u q1 q2 q3 => ?_, I.base.there, fun b xs q => ?_, fun b u v q => ?_, fun b ps q => ?_⟩, I.loc, I.cell, ?_, fun x c q => ?_, fun p hp => ?_, ?_, I.len⟩
  · rw [at_ b fun z => by rw [z, n0] at q1; cases q1]
    exact I.base.free b u q1 q2 q3
  · have y := I.base.tups b xs q
    rw [at_ b (ne b (by rw [y]; simp))]
    exact y
  · have y := I.base.frzs b u v q
    rw [at_ b (ne b (by rw [y]; simp))]
    exact y
  · obtain ⟨m, y⟩ := I.base.tbls b ps q
    exact ⟨m, by rw [at_ b (ne b (by rw [y]; simp))]; exact y⟩
  · rw [at_ _ (Ne.symm e3)]
    exact I.free
  · rw [at_ c fun z => ?_]
    · exact I.freeC x c q
    · obtain ⟨v, oc, h1, h2⟩ := I.cell x c q
      rw [z, e1] at h1
      cases h1
      exact e5 v h2
  · obtain ⟨f1, f2, f3⟩ := I.pin p ((List.mem_append.mp hp).elim (fun z => List.mem_append_left _ z) fun z => List.mem_append_right _ (List.mem_cons_of_mem _ z))
    exact ⟨f1, by rw [at_ _ (np p hp)]; exact f2, f3⟩
  · exact HOk.laidN I.hok (fun _ _ z => z) e2 new
end
/-! ### try: .. / except C as n: y = n -/
/-- behind it: y (slot j) holds the exception, n (slot i) is gone -/
def wKeep (n i j : Nat) (D : Ends) : WX := fun cls dd σ H => σ.length = n → ∀ a, H a = none → D.nx ((σ.set j (some (.ref a))).set i none) (upd H a (ExV cls dd a))
section
variable {X : Cx} {x n y : Str} {c : Value} {i j : Nat} {body : List Stmt} {np p1 p2 p3 pos pos' : Pos} {tb : WX → TS}
theorem ps_try_keep (hs : X.stack = X.env :: X.outer) (hf : X.env.frame = some X.env.locals) (hN : X.N.Nodup) (hi : X.N[i]? = some n) (hj : X.N[j]? = some y) (hij : i ≠ j) (hln : X.env.kindOf n = some .local) (hly : X.env.scope.names.lookup y = some .local) (hc : Names X x c)
    (hexn : ∀ b, b ∉ X.ex) (hdn : (n == ("__debug__" : Str)) = false := by decide) (hcn : (n == ("__classdict__" : Str)) = false := by decide)
    (hsw : swapsWith (.Name n p1) (some (.Name y p2)) p3.line X.env = pure false := by rfl)
    (hb : ∀ (W : WX) (pn : List (Addr × Obj)) (xe : Value → Shared → Prop), Takes (X.tr pn xe) W → PassesOwn (model X.prog X.w) X.A X.env xe → PSs (X.tr pn xe) body (tb W)) :
    PS X (.Try body [.ExceptHandler (some (.Name x np)) (some n) [.Assign [.Name y p2] (.Name n p1) p3] pos'] [] [] pos) (fun D σ H => tb (fun cls dd σ H => PySem.W.exmOne X.K cls c = some true ∧ wKeep X.N.length i j D cls dd σ H) D σ H) := by
  refine ⟨fun pins s σ H D I h => ?_⟩
  have ok := I.ok
  have hA : X.A.frames = some (X.env :: X.outer) := ok.frames.trans (congrArg some hs)
  refine wpAny_Try_except ?_
  refine wpAny_mono ((hb (fun cls dd σ H => PySem.W.exmOne X.K cls c = some true ∧ wKeep X.N.length i j D cls dd σ H) (X.pn ++ pins) (fun e s₁ => wpAny (model X.prog X.w) X.A (noteFrame e X.env) (fun _ s₂ =>
    wpAny (model X.prog X.w) X.A (setFlight e none) (fun _ s₃ => wpAny (model X.prog X.w) X.A (handleBy e X.env [.ExceptHandler (some (.Name x np)) (some n) [.Assign [.Name y p2] (.Name n p1) p3] pos']) (SP X pins D) X.xe s₃) X.xe s₂) X.xe s₁) (fun u s' got => ?_) PassesOwn.looking).run [] s σ H D (I.toTry _) h)
    (fun f s1 g => ?_) fun e s1 g => g
  · obtain ⟨a, B, sI, pins', σ', H', cls, dd, eu, J', nb, up, sky, na, os, ag, hx, hw⟩ := got
    subst eu
    have J : Inv X pins σ' H' sI := J'.ofTry ok
    rw [show (X.tr (X.pn ++ pins) _).stack = X.env :: X.outer from hs] at sky
    show wpAny (model X.prog X.w) X.A (noteFrame (.ref a) X.env) _ _ _
    refine Sky.land Zc.steady hA hf sky fun h3 fl3 up3 => ?_
    have J3 : Inv X pins σ' H' { s' with heap := h3 } := J.landed nb fl3.1 (up.trans up3) os ag
    obtain ⟨oe3, vs3, g3, z3, d3⟩ := fl3.there
    have nfr : a ∉ frs (X.env :: X.outer) := fun hm => by
      obtain ⟨_, o', e', hnf⟩ := fl3.2.2.1.mem hm
      rw [g3] at e'
      exact hnf vs3 ((Option.some.inj e') ▸ d3)
    have nL : a ≠ X.env.locals := fun z => nfr (List.mem_filterMap.mpr ⟨X.env, List.mem_cons_self, hf.trans (congrArg some z.symm)⟩)
    have nF : a ∉ X.fs := fun hm => by
      obtain ⟨e, he, q⟩ := List.mem_filterMap.mp hm
      exact nfr (List.mem_filterMap.mpr ⟨e, List.mem_cons_of_mem _ he, q⟩)
    have nI : sI.heap.get? a = none := by
      cases q : sI.heap.get? a with
      | none => rfl
      | some o =>
        have := nb a o q (by rw [show (X.tr (X.pn ++ pins) _).stack = X.env :: X.outer from hs]; exact nfr)
        rw [fl3.2.1] at this
        cases this
    have n0 : X.s_0.heap.get? a = none := by
      cases q : X.s_0.heap.get? a with
      | none => rfl
      | some o =>
        by_cases hx : a ∈ X.ex
        · exfalso
          exact hexn a hx
        · obtain ⟨o', q'⟩ := J.base.there a o q hx
          rw [nI] at q'
          cases q'
    have npn : ∀ p ∈ X.pn ++ pins, p.1 ≠ a := fun p hp z => by
      have := (J.pin p hp).1
      rw [z, nI] at this
      cases this
    have S3 := J3.suite g3 d3 na nL nF
    refine wpAny_handleBy_cons (codeAny_handlers_test ?_) (by intro q; cases q)
    have LM := PySem.W.exm_one (M := model X.prog X.w) (K := X.K) (e := a) J3.kIn (fun A Q E s k q => wpAny_typeOf_ref (k _ _ g3) (by rw [z3.1]; exact q)) hx
    have test : ∀ {Q : Value → Shared → Prop} {E : Value → Shared → Prop}, Q c { s' with heap := h3 } → wpAny (model X.prog X.w) (X.A.mark (some (.ref a))) (eval (.Name x np) X.env) Q E { s' with heap := h3 } := fun {Q E} q => by
      obtain ⟨k1, k2, k3 | ⟨k3, k4, k5⟩⟩ := hc
      · exact ld_glob (X := X.suite a ((a, oe3) :: (X.pn ++ pins))) S3 k1 k3 q k2
      · exact ld_blt (X := X.suite a ((a, oe3) :: (X.pn ++ pins))) S3 k1 k3 k4 q k5 k2
    refine test (LM.here (codeAny_handlers_suite_as (HandSPX.lands_againZ fl3 fun h4 fl4 up4 => ?_)))
    have J4 : Inv X pins σ' H' { s' with heap := h4 } := J.landed nb fl4.1 ((up.trans up3).trans up4) os ag
    obtain ⟨oe4, vs4, g4, z4, d4⟩ := fl4.there
    refine store_ok (X := X.suite a ((a, oe4) :: (X.pn ++ pins))) (v := .ref a) (J4.suite g4 d4 na nL nF) hN hi (.inl hln) rfl (fun s5 S5 => ?_) (.inr hln)
    have hil : i < σ'.length := by rw [J.len]; exact (List.getElem?_eq_some_iff.mp hi).1
    have Y := pss_one (ps_set (X := X.suite a ((a, oe4) :: (X.pn ++ pins))) (i := j) (pos := p3) (pos' := p2) hN hj (.inl hly) (pe_var (X := X.suite a ((a, oe4) :: (X.pn ++ pins))) (pos := p1) (i := i) hi (.inl hln) hdn hcn) hsw (.inr hly))
    refine wpAny_mono (Y.run [] s5 _ H' { nx := fun σ6 H6 => σ6 = (σ'.set i (some (.ref a))).set j (some (.ref a)) ∧ H6 = H', rt := fun _ _ => False } S5 ⟨.ref a, by rw [List.getElem?_set_self hil], rfl, rfl⟩) (fun f s6 g => ?_) fun _ _ z => z.elim
    cases f with
    | next =>
      obtain ⟨σ6, H6, S6, e6, e7⟩ := g
      subst e6
      subst e7
      have P6 := S6.pin (a, oe4) (List.mem_append_left _ List.mem_cons_self)
      have J6 : Inv X ((a, oe4) :: pins) _ H6 s6 := (S6.unsuite ok).pins_of fun p hp => by
        rcases List.mem_cons.mp hp with e | e
        · rw [e]; exact P6
        · exact (S6.unsuite ok).pin p (List.mem_append_right _ e)
      refine gone_ok J6 hN hi hln fun s7 J7 => ⟨_, _, inv_told J7 n0 npn (exV_ok (J7.pin (a, oe4) (List.mem_append_right _ List.mem_cons_self)).1 z4 d4), ?_⟩
      have e : ((σ'.set i (some (V.ref a))).set j (some (.ref a))).set i none = (σ'.set j (some (.ref a))).set i none := by
        rw [List.set_comm _ _ hij, List.set_set]
      rw [e]
      exact hw J.len a na
    | brk => obtain ⟨_, _, _, z⟩ := g; exact z.elim
    | cont => obtain ⟨_, _, _, z⟩ := g; exact z.elim
    | ret u => obtain ⟨_, _, _, _, _, z⟩ := g; exact z.elim
  · cases f with
    | next => obtain ⟨σ', H', J', q⟩ := g; exact wpAny_execs_nil ⟨σ', H', J'.ofTry ok, q⟩
    | brk => obtain ⟨σ', H', J', q⟩ := g; exact ⟨σ', H', J'.ofTry ok, q⟩
    | cont => obtain ⟨σ', H', J', q⟩ := g; exact ⟨σ', H', J'.ofTry ok, q⟩
    | ret u => obtain ⟨v, σ', H', J', r, q⟩ := g; exact ⟨v, σ', H', J'.ofTry ok, r, q⟩
end
end PV
set_option Elab.async false
set_option linter.all false
set_option maxRecDepth 100000
set_option maxHeartbeats 4000000
namespace PV
open PySem PySem.Spec PyProof.Rows L2 ZL
/-! ### what the head says of a class of errors -/
/-- a class whose __init__ is a def of its own: looked at by the written part -/
def oexB (K : PySem.W.Frag) (C : Addr) : Bool := match K.lookup C with
  | some ⟨.type "type", _, .cls cd, sl⟩ => (match cd.mro, sl.toList with
    | .ref C' :: bm, [_, _, _, _, some (.builtin n), _] => decide (C' = C) && (decide (n = "ValueError.__new__") && (!cd.hasDel && (cd.hasDict && PySem.HandSPX.refsVE bm)))
    | _, _ => false)
  | _ => false
/-- what is asked of an error's class: its instances' fields, kinds, how it is raised -/
def xcB (K : PySem.W.Frag) (C : Addr) : Bool :=
  decide (PySem.W.findIn K (.ref C) "__getattribute__" = some (some (.builtin "BaseException.__getattribute__"))) && (decide (PySem.W.findIn K (.ref C) "__getattr__" = some none) &&
  (decide (PySem.W.subIn K (.ref C) (.type "BaseException") = some true) && (PySem.W.hasDictIn K C && (decide (PySem.W.findIn K (.ref C) "__class__" = some (some (.builtin "object.__class__"))) &&
  (PySem.W.mroIn K C (.type "object") == some true && (decide (PySem.W.typeIn K (.ref C) = some (.type "type")) && (PySem.W.keepIn K (.ref C) && (decide (PySem.W.findIn K (.ref C) "__setattr__" = some (some (.builtin "object.__setattr__")))))))))))
structure XC (K : PySem.W.Frag) (C : Addr) : Prop where
  ga : PySem.W.findIn K (.ref C) "__getattribute__" = some (some (.builtin "BaseException.__getattribute__"))
  gg : PySem.W.findIn K (.ref C) "__getattr__" = some none
  ex : PySem.W.subIn K (.ref C) (.type "BaseException") = some true
  hd : PySem.W.hasDictIn K C = true
  ca : PySem.W.findIn K (.ref C) "__class__" = some (some (.builtin "object.__class__"))
  mo : PySem.W.mroIn K C (.type "object") = some true
  ty : PySem.W.typeIn K (.ref C) = some (.type "type")
  kp : PySem.W.keepIn K (.ref C) = true
  sa : PySem.W.findIn K (.ref C) "__setattr__" = some (some (.builtin "object.__setattr__"))
theorem xc_of {K : PySem.W.Frag} {C : Addr} (h : xcB K C = true) : XC K C := by
  obtain ⟨h1, h⟩ := Bool.and_eq_true_iff.mp h
  obtain ⟨h2, h⟩ := Bool.and_eq_true_iff.mp h
  obtain ⟨h3, h⟩ := Bool.and_eq_true_iff.mp h
  obtain ⟨h4, h⟩ := Bool.and_eq_true_iff.mp h
  obtain ⟨h5, h⟩ := Bool.and_eq_true_iff.mp h
  obtain ⟨h6, h⟩ := Bool.and_eq_true_iff.mp h
  obtain ⟨h7, h⟩ := Bool.and_eq_true_iff.mp h
  obtain ⟨h8, h9⟩ := Bool.and_eq_true_iff.mp h
  exact ⟨of_decide_eq_true h1, of_decide_eq_true h2, of_decide_eq_true h3, h4, of_decide_eq_true h5, by simpa using h6, of_decide_eq_true h7, h8, of_decide_eq_true h9⟩
theorem oex_of {K : PySem.W.Frag} {C : Addr} (x : XC K C) (q : oexB K C = true) : OexC K C := by
  refine ⟨?_, x.sa, x.ex, x.ty, x.kp⟩
  unfold oexB at q
  split at q
  · rename_i dd cd sl ho
    split at q
    · rename_i C' bm k0 k1 k2 k3 n k5 hm hs
      simp only [Bool.and_eq_true, decide_eq_true_eq, Bool.not_eq_true'] at q
      obtain ⟨q1, q2, q3, q4, q5⟩ := q
      obtain ⟨nm, bs, mro, ns, qn, hd, sn, sub, ab, col, del⟩ := cd
      simp only at hm q3 q4
      subst q1 q2 q3 q4 hm
      obtain ⟨l⟩ := sl
      simp only at hs
      subst hs
      exact ⟨nm, qn, ns, bs, bm, sn, sub, ab, col, dd, k0, k1, k2, k3, k5, ho, q5⟩
    · cases q
  · cases q
/-! ### a kept error's kind and fields -/
theorem exV_at {P : Program} {w : World} {H : Hp} {h : Heap} {a : Addr} {cls : Value} {dd : Option Addr} (hok : HOk P w H h) (e : H a = some (ExV cls dd a)) : ∃ (oe : Obj) (vs : Array Value), h.get? a = some oe ∧ Zc cls dd oe ∧ oe.data = .fields vs := by
  have x : ObjOk P w H h a (.ext fun h => ∃ (oe : Obj) (vs : Array Value), h.get? a = some oe ∧ Zc cls dd oe ∧ oe.data = .fields vs) := hok a _ e
  exact x.1
/-- the object of a kept error -/
theorem exc_inst {X : Cx} {pins : List (Addr × Obj)} {σ : L2.St} {H : Hp} {s : Shared} {G : Gh} {S : Sto} (I : Inv X pins σ H s) (sm : Sm X.K G S H) {c : String} {fs : List (String × D)} {v : V} (r : Rp X.K G (.exc c fs) v) :
    ∃ (a : Addr) (ox : Obj) (od : Option Obj), v = .ref a ∧ PySem.W.InstAt s.heap a ox (He.ga X.K (Str.ofString c)) od ∧
      ((fs = [] ∧ od = none) ∨ ∃ ws mA d o, od = some o ∧ s.heap.Ns1 d mA ∧ s.heap.get? d = some o ∧ (∀ f, RelO (ws.lookup f) (mA f)) ∧ Rpf X.K G fs ws) := by
  cases r with
  | @exc0 _ a h =>
    obtain ⟨oe, vs, e1, e2, e3⟩ := exV_at I.hok (sm.fr _ _ h)
    exact ⟨a, oe, none, rfl, ⟨e1, e2.1, by unfold PySem.W.notCls; rw [e3] <;> rfl, by rw [e2.2]; trivial⟩, .inl ⟨rfl, rfl⟩⟩
  | @exc _ _ a d ws h hd r =>
    obtain ⟨oe, vs, e1, e2, e3⟩ := exV_at I.hok (sm.fr _ _ h)
    have hx : ObjOk X.prog X.w H s.heap d (.xd ws) := I.hok d _ (sm.fr _ _ hd)
    obtain ⟨mA, hns, hr⟩ := hx
    obtain ⟨o, es, ep, q1, q2⟩ := id hns
    exact ⟨a, oe, some o, rfl, ⟨e1, e2.1, by unfold PySem.W.notCls; rw [e3] <;> rfl, by rw [e2.2]; exact q1⟩, .inr ⟨ws, mA, d, o, rfl, hns, q1, hr, r⟩⟩
/-- isinstance(x, T): of an error by the table -/
def isiX (τ : List (String × Bool)) (cls : D → Bool) (g : Fn) : Fn := fun ds S => match ds with
  | [.exc c _, w] => if cls w = true then match τ.lookup c with
      | some b => .ok (.bl b) S
      | none => .no
    else .no
  | ds => g ds S
theorem cf_isiX {X : Cx} {τ : List (String × Bool)} {cls : D → Bool} {w : Value} {g : Fn} (hg : CallF X (.builtin "isinstance") g) (hcl : ∀ c, cls c = true → ∀ G v, Rp X.K G c v → ClsV v w)
    (hcg : PySem.W.specialIn X.K (.builtin "object.__class__") "__get__" = some (some (.builtin "getset_descriptor.__get__"))) (hct : PySem.W.takesIn X.K (.builtin "object.__class__") = some true)
    (hτ : ∀ c b, τ.lookup c = some b → XC X.K (He.ga X.K (Str.ofString c)) ∧ PySem.W.kitOne X.K (.ref (He.ga X.K (Str.ofString c))) w = some b) : CallF X (.builtin "isinstance") (isiX τ cls g) := fun pins s σ H vs us Q I rv ⟨ds, S, G, sm, r, h⟩ => by
  unfold isiX at h
  split at h
  · rename_i c fs wd
    split at h
    · rename_i hw
      split at h
      · rename_i b hb
        obtain ⟨v, u, rfl, q, q'⟩ := vals2' r
        obtain ⟨k, kt⟩ := hτ c b hb
        obtain ⟨a, ox, od, rfl, J, _⟩ := exc_inst I sm q
        have cw := hcl wd hw G u q'
        cases rv with
        | cons ra rw1 =>
          cases rw1 with
          | cons rb rn =>
            cases rn
            have ea := ra
            cases ea
            have eb := cw.eq rb
            subst eb
            obtain ⟨cd, hcd, _⟩ := PySem.W.any_some k.hd
            exact PySem.W.kia_one (PySem.W.kitx_exc (by rw [hcd]; rfl) k.ga k.gg k.ex k.ca hcg hct k.mo) I.kIn J kt (fun z => nomatch z) fun tk => ⟨.bl b, H, I.kept (t' := tk) fun _ _ z => z, rfl, h G H _ .refl sm (.bl b)⟩
      · exact h.elim
    · exact h.elim
  · exact hg pins s σ H vs us Q I rv ⟨_, S, G, sm, r, h⟩
/-- e.f of a kept error -/
def fldX (cs : List String) (f : String) (g : G1) : G1 := fun d S => match d with
  | .exc c fs => if cs.contains c = true then match fs.lookup f with
      | some x => .ok x S
      | none => .no
    else .no
  | d => g d S
theorem qe_fldX {X : Cx} {cs : List String} {f : String} {e : Expr} {m : ME} {pos : Pos} (hc : ∀ c ∈ cs, XC X.K (He.ga X.K (Str.ofString c)) ∧ PySem.W.findIn X.K (.ref (He.ga X.K (Str.ofString c))) (Str.ofString f) = some none) (h : QE X e m) (hb : attributeBase e (Str.ofString f) X.env (eval e X.env) = eval e X.env := by rfl) :
    QE X (.Attribute e (Str.ofString f) pos) (una (fldX cs f fun _ _ => .no) m) := ⟨fun pins s σ H Q I ⟨ρ, S, G, sm, re, z⟩ => by
  refine attr_of hb (thn (h.run pins s σ H _ I ⟨ρ, S, G, sm, re, sat.bind z⟩) fun u s1 hh => ?_)
  obtain ⟨x, H1, I1, rx, d, S1, G1, le1, sm1, r1, q1⟩ := hh
  unfold fldX at q1
  split at q1
  · rename_i c fs
    split at q1
    · rename_i hm
      split at q1
      · rename_i y hl
        obtain ⟨k, kn⟩ := hc c (List.contains_iff_mem.mp hm)
        obtain ⟨a, ox, od, rfl, J, hor⟩ := exc_inst I1 sm1 r1
        obtain rfl : u = Value.ref a := rx
        rcases hor with ⟨rfl, _⟩ | ⟨ws, mA, dd, o, rfl, hns, ho, hr, rf⟩
        · cases hl
        · obtain ⟨z, hz, rz⟩ := rf.at hl
          obtain ⟨od, ho2, hl2⟩ := lookIn_ns hns
          rw [ho] at ho2
          cases ho2
          obtain ⟨u2, hu, ru⟩ := RelO.some_of (v := z) (o := mA (Str.ofString f)) (by rw [← hz]; exact hr _)
          exact HandSPX.exc_get I1.kIn J k.ga k.gg k.ex (PySem.W.findObj_own k.hd kn rfl (by rw [hl2, hu])) (handed_of ru) ⟨z, H1, I1.tok _, ru, q1 G1 H1 z .refl sm1 rz⟩
      · exact q1.elim
    · exact q1.elim
  · exact q1.elim⟩
/-! ### raise -/
/-- raise C(..): fl, the fields that C's __init__ stores, in its order -/
def sRai (c : String) (fl : List String) (ms : MA) : MS := fun ρ S => (ms ρ S).bind fun ds S1 => if ds.length = fl.length then .ex c (fl.zip ds).reverse S1 else .no
section
variable {X : Cx} {c : String} {p pos pos' : Pos} {ms : MA}
/-- how a raise is told, whatever makes the error: t, at its arguments' values, ends in the error's class and fields -/
theorem qs_rai_of {fl : List String} {e : Expr} {t : L2.St → Hp → XK → Prop} (hc : X.calm = true) (he : PMk X e t)
    (ht : ∀ ρ S G σ H (W : XK), Sm X.K G S H → Re X.K G ρ σ → sat X (Rps X.K) G H (ms ρ S) (fun vs H1 => ∃ ds S1 G1, Stp G H G1 H1 ∧ Sm X.K G1 S1 H1 ∧ Rps X.K G1 ds vs ∧ ds.length = fl.length ∧ ∀ cls dd H', wEx X.K G1 H1 c (fl.zip ds).reverse S1 cls dd H' → W cls dd H') → t σ H W) :
    QS X (.Raise (some e) none pos') (sRai c fl ms) := ⟨fun pins s σ H D I ⟨ρ, S, G, sm, re, z⟩ => by
  have z2 : satS X G H ((ms ρ S).bind fun ds S1 => if ds.length = fl.length then .ex c (fl.zip ds).reverse S1 else .no) D := z
  cases hm : ms ρ S with
  | no => rw [hm] at z2; exact z2.elim
  | ex c' fs' S' =>
    rw [hm] at z2
    have tk : Takes X (fun cls dd _ H' => wEx X.K G H c' fs' S' cls dd H') := z2
    exact (ps_raise (pos := pos') hc (LamX.takes0 (X := X)) he).run pins s σ H D I (ht ρ S G σ H _ sm re (by rw [hm]; exact tk))
  | ok ds S1 =>
    rw [hm] at z2
    by_cases hl : ds.length = fl.length
    · have tk : Takes X (fun cls dd _ H' => wEx X.K G H c (fl.zip ds).reverse S1 cls dd H') := by
        have z3 : satS X G H (if ds.length = fl.length then .ex c (fl.zip ds).reverse S1 else .no) D := z2
        rw [if_pos hl] at z3
        exact z3
      exact (ps_raise (pos := pos') hc tk he).run pins s σ H D I (ht ρ S G σ H _ sm re (by
        rw [hm]
        exact fun G' H' vs le sm' r => ⟨ds, S1, G', le, sm', r, hl, fun cls dd H2 w => w.anti le⟩))
    · have z3 : satS X G H (if ds.length = fl.length then .ex c (fl.zip ds).reverse S1 else .no) D := z2
      rw [if_neg hl] at z3
      exact z3.elim⟩
/-- the promise of an error's __init__ that stores one value; two -/
def spX1 (C : Addr) (f : Str) : Sp := fun vs H Q _ => ∃ (a : Addr) (y : V), vs = [.ref a, y] ∧ H a = some (exo a C none) ∧ ∀ d, H d = none → d ≠ a → Q .non (upd (upd H d (exd d [(f, y)])) a (exo a C (some d)))
def spX2 (C : Addr) (f g : Str) : Sp := fun vs H Q _ => ∃ (a : Addr) (y z : V), vs = [.ref a, y, z] ∧ H a = some (exo a C none) ∧ ∀ d, H d = none → d ≠ a → Q .non (upd (upd (upd H d (exd d [(f, y)])) a (exo a C (some d))) d (exd d [(g, z), (f, y)]))
end
section
variable {P : Program} {w : World} {K : PySem.W.Frag} {mg : Str → Option Value} {base : Heap} {x qual : Str} {st : Stmt} {kws : List (Str × V)} {fa C : Addr} {fd : FuncData} {u v1 v2 f g : Str} {p1 p2 p3 p4 p5 p6 p7 p8 : Pos}
theorem ok_x1 (F : FunD K x qual (defArgs st) (defBody st) (defScope st) [] kws fa fd) (Sc : FnScope [u, v1] [u, v1] (defScope st)) (hb : defBody st = [.Assign [.Attribute (.Name u p1) f p2] (.Name v1 p3) p4]) (T : OexC K C) (hn : PySem.W.findIn K (.ref C) f = some none)
    (vu : Vis (defScope st) u := by first | exact .inl rfl | exact .inr (.inl rfl)) (vv : Vis (defScope st) v1 := by first | exact .inl rfl | exact .inr (.inl rfl)) (d1 : (u == ("__debug__" : Str)) = false := by decide) (d2 : (u == ("__classdict__" : Str)) = false := by decide) (d3 : (v1 == ("__debug__" : Str)) = false := by decide) (d4 : (v1 == ("__classdict__" : Str)) = false := by decide)
    (hs : ∀ env, swapsWith (.Name v1 p3) (some (.Attribute (.Name u p1) f p2)) p4.line env = pure false := by intro _; rfl) : FnOk P w K mg base (L2.CX P w) 1 fa fd [u, v1] (spX1 C f) := by
  refine F.ok Sc (fun vs H Q E z => by obtain ⟨a, y, rfl, _⟩ := z; rfl) fun cdv A outer s H vs Q E hr z => ?_
  rw [hb]
  refine ⟨_, pss_one (ps_ost (f := f) (pe_var (i := 0) rfl vu d1 d2) (pe_var (i := 1) rfl vv d3 d4) (hs _)), ?_⟩
  obtain ⟨a, y, rfl, h1, h2⟩ := z
  exact ⟨y, rfl, .ref a, rfl, a, C, rfl, T, hn, .inl ⟨h1, h2⟩⟩
theorem ok_x2 (F : FunD K x qual (defArgs st) (defBody st) (defScope st) [] kws fa fd) (Sc : FnScope [u, v1, v2] [u, v1, v2] (defScope st)) (hb : defBody st = [.Assign [.Attribute (.Name u p1) f p2] (.Name v1 p3) p4, .Assign [.Attribute (.Name u p5) g p6] (.Name v2 p7) p8]) (T : OexC K C) (hn : PySem.W.findIn K (.ref C) f = some none) (hn2 : PySem.W.findIn K (.ref C) g = some none)
    (vu : Vis (defScope st) u := by first | exact .inl rfl | exact .inr (.inl rfl)) (vv : Vis (defScope st) v1 := by first | exact .inl rfl | exact .inr (.inl rfl)) (vw : Vis (defScope st) v2 := by first | exact .inl rfl | exact .inr (.inl rfl)) (d1 : (u == ("__debug__" : Str)) = false := by decide) (d2 : (u == ("__classdict__" : Str)) = false := by decide) (d3 : (v1 == ("__debug__" : Str)) = false := by decide) (d4 : (v1 == ("__classdict__" : Str)) = false := by decide) (d5 : (v2 == ("__debug__" : Str)) = false := by decide) (d6 : (v2 == ("__classdict__" : Str)) = false := by decide)
    (hs : ∀ env, swapsWith (.Name v1 p3) (some (.Attribute (.Name u p1) f p2)) p4.line env = pure false := by intro _; rfl) (hs2 : ∀ env, swapsWith (.Name v2 p7) (some (.Attribute (.Name u p5) g p6)) p8.line env = pure false := by intro _; rfl) : FnOk P w K mg base (L2.CX P w) 1 fa fd [u, v1, v2] (spX2 C f g) := by
  refine F.ok Sc (fun vs H Q E z => by obtain ⟨a, y, z, rfl, _⟩ := z; rfl) fun cdv A outer s H vs Q E hr z => ?_
  rw [hb]
  refine ⟨_, pss_cons (ps_ost (f := f) (pe_var (i := 0) rfl vu d1 d2) (pe_var (i := 1) rfl vv d3 d4) (hs _)) (pss_one (ps_ost (f := g) (pe_var (i := 0) rfl vu d1 d2) (pe_var (i := 2) rfl vw d5 d6) (hs2 _))), ?_⟩
  obtain ⟨a, y, z, rfl, h1, h2⟩ := z
  refine ⟨y, rfl, .ref a, rfl, a, C, rfl, T, hn, .inl ⟨h1, fun d hd hda => ?_⟩⟩
  refine ⟨z, rfl, .ref a, rfl, a, C, rfl, T, hn2, .inr ⟨d, [(f, y)], upd_same, by rw [upd_ne hda]; exact upd_same, by simp, h2 d hd hda⟩⟩
end
end PV
set_option Elab.async false
set_option linter.all false
set_option maxRecDepth 100000
set_option maxHeartbeats 4000000
namespace PV
open PySem PySem.Spec PyProof.Rows L2 ZL
section
variable {X : Cx} {c : String} {e : Expr} {es : List Expr} {p pos pos' : Pos} {ms : MA} {fI : Addr} {fd : FuncData} {ps : List Str}
theorem raised_xd {G1 : Gh} {S1 : Sto} {H1 : Hp} {C a d : Addr} {ws : List (Str × V)} {o1 o2 : HO} {G : Gh} (ha : H1 a = none) (hd : upd H1 a o1 d = none) (hda : d ≠ a) (H2 : Hp) (e2 : ∀ b, b ≠ a → b ≠ d → H2 b = H1 b) : upd (L2.del H2 a) d (.xd ws) = upd H1 d (.xd ws) := by
  funext b
  by_cases q : b = d
  · rw [q, upd_same, upd_same]
  · rw [upd_ne q, upd_ne q]
    by_cases q2 : b = a
    · rw [q2, del_same, ha]
    · rw [del_ne q2, e2 b q2 q]
theorem wEx_xd {G1 : Gh} {S1 : Sto} {H1 : Hp} {d : Addr} {ws : List (Str × V)} {fs : List (String × D)} (sm : Sm X.K G1 S1 H1) (hd : H1 d = none) (r : Rpf X.K G1 fs ws) : wEx X.K G1 H1 c fs S1 (.ref (gaS X.K c)) (some d) (upd H1 d (.xd ws)) :=
  ⟨G1.put d (.xd ws), Stp.put sm hd, sm.put hd, rfl, .inr ⟨d, ws, rfl, upd_same, r.mono (Gh.put_le (sm.free hd))⟩⟩
theorem qs_rai1 {f : String} (hc : X.calm = true) (T : OexC X.K (gaS X.K c)) (iC : PySem.W.findIn X.K (.ref (gaS X.K c)) "__init__" = some (some (.ref fI))) (tI : PySem.W.typeIn X.K (.ref fI) = some (.type "function"))
    (F1 : FnOk X.prog X.w X.K X.mg X.base (L2.CX X.prog X.w) 1 fI fd ps (spX1 (gaS X.K c) (Str.ofString f))) (hr : Room 2 X.A) (hb : Binds X.K fd ps []) (hm : X.mg (Str.ofString c) = some (.ref (gaS X.K c))) (ha : QA X (e :: es) ms)
    (hg : Gl X (Str.ofString c) := by rfl) (hdb : (Str.ofString c == ("__debug__" : Str)) = false := by decide) (he : starEach (e :: es) X.env = (false, eval e X.env) :: starEach es X.env := by rfl) (hpl : (backTo pos (starEach es X.env)).any (·.1) = false := by rfl) :
    QS X (.Raise (some (.Call (.Name (Str.ofString c) p) (e :: es) [] pos)) none pos') (sRai c [f] ms) :=
  qs_rai_of hc (pmk_oex T iC tI F1 hr hb .nil (passes_call (LamX.takes0 (X := X)) fun _ _ _ _ z => z) hg hm ha hdb he hpl) fun ρ S G σ H W sm re h => by
    refine ⟨ρ, S, G, sm, re, h.imp fun vs H1 w => ?_⟩
    obtain ⟨ds, S1, G1, le, sm1, r, hl, hw⟩ := w
    match ds, hl, r, hw with
    | [d0], _, .cons (v := v0) r0 .nil, hw =>
      refine ⟨by simp, fun a na => ⟨a, v0, rfl, upd_same, fun d hd hda => ⟨rfl, d, [(Str.ofString f, v0)], upd_same, by rw [upd_ne hda]; exact upd_same, by rw [upd_ne hda] at hd; exact hd, ?_⟩⟩⟩
      rw [raised_xd (G1 := G1) (S1 := S1) (C := 0) (G := G) (o2 := .own 0) na hd hda _ fun b q1 q2 => by rw [upd_ne q1, upd_ne q2, upd_ne q1]]
      rw [upd_ne hda] at hd
      exact hw _ _ _ (wEx_xd sm1 hd (.cons r0 .nil))
theorem qs_rai2 {f g : String} (hc : X.calm = true) (T : OexC X.K (gaS X.K c)) (iC : PySem.W.findIn X.K (.ref (gaS X.K c)) "__init__" = some (some (.ref fI))) (tI : PySem.W.typeIn X.K (.ref fI) = some (.type "function"))
    (F1 : FnOk X.prog X.w X.K X.mg X.base (L2.CX X.prog X.w) 1 fI fd ps (spX2 (gaS X.K c) (Str.ofString f) (Str.ofString g))) (hr : Room 2 X.A) (hb : Binds X.K fd ps []) (hm : X.mg (Str.ofString c) = some (.ref (gaS X.K c))) (ha : QA X (e :: es) ms)
    (hg : Gl X (Str.ofString c) := by rfl) (hdb : (Str.ofString c == ("__debug__" : Str)) = false := by decide) (he : starEach (e :: es) X.env = (false, eval e X.env) :: starEach es X.env := by rfl) (hpl : (backTo pos (starEach es X.env)).any (·.1) = false := by rfl) :
    QS X (.Raise (some (.Call (.Name (Str.ofString c) p) (e :: es) [] pos)) none pos') (sRai c [f, g] ms) :=
  qs_rai_of hc (pmk_oex T iC tI F1 hr hb .nil (passes_call (LamX.takes0 (X := X)) fun _ _ _ _ z => z) hg hm ha hdb he hpl) fun ρ S G σ H W sm re h => by
    refine ⟨ρ, S, G, sm, re, h.imp fun vs H1 w => ?_⟩
    obtain ⟨ds, S1, G1, le, sm1, r, hl, hw⟩ := w
    match ds, hl, r, hw with
    | [d0, d1], _, .cons (v := v0) r0 (.cons (v := v1) r1 .nil), hw =>
      refine ⟨by simp, fun a na => ⟨a, v0, v1, rfl, upd_same, fun d hd hda => ⟨rfl, d, [(Str.ofString g, v1), (Str.ofString f, v0)], by rw [upd_ne (Ne.symm hda)]; exact upd_same, upd_same, by rw [upd_ne hda] at hd; exact hd, ?_⟩⟩⟩
      rw [raised_xd (G1 := G1) (S1 := S1) (C := 0) (G := G) (o2 := .own 0) na hd hda _ fun b q1 q2 => by rw [upd_ne q2, upd_ne q1, upd_ne q2, upd_ne q1]]
      rw [upd_ne hda] at hd
      exact hw _ _ _ (wEx_xd sm1 hd (.cons r1 (.cons r0 .nil)))
/-- X() of an error class without an __init__ -/
theorem pmk_own0 {C : Addr} {bmB : List Value} {B newId initId : String} {x : Str} (F : ExcBaseFacts B newId initId bmB) (q : PySem.W.excIn X.K C bmB newId = true) (gC : X.mg x = some (.ref C)) (kC : PySem.W.keepIn X.K (.ref C) = true) (r : Raises X (.ref C)) (hg : Gl X x) (hdb : (x == ("__debug__" : Str)) = false) :
    PMk X (.Call (.Name x p) [] [] pos) (fun _ H Q => Q (.ref C) none H) := by
  intro pins s σ H Q I h
  refine wpAny_Call_Name_kw (ld_glob I hg gC ?_ hdb)
  refine PySem.W.callWith_K0 (K := X.K) I.kIn kC ?_
  show wpAny _ _ (call (.ref C) []) _ _ _
  obtain ⟨bm, N, nm, qn, bs, hdct, sn, sub, ab, col, dd, k0, k1, k2, k3, k5, mN, hC, hN, hni, T⟩ := exc_obj I.kIn q
  refine wpAny_call_exc_subT F T hC hN hni (fun h' e hm => mk_of I hm r h (I.hok.gone hm.new)) (Nat.zero_le _)
theorem qs_rai0 (hc : X.calm = true) (q : PySem.W.excIn X.K (gaS X.K c) PySem.HandSPX.veTail "ValueError.__new__" = true) (k : XC X.K (gaS X.K c)) (hm : X.mg (Str.ofString c) = some (.ref (gaS X.K c)))
    (hg : Gl X (Str.ofString c) := by rfl) (hdb : (Str.ofString c == ("__debug__" : Str)) = false := by decide) : QS X (.Raise (some (.Call (.Name (Str.ofString c) p) [] [] pos)) none pos') (sRai c [] aNil) :=
  qs_rai_of hc (pmk_own0 F.excBase_ValueError q hm k.kp (raises_own k.ex k.ty) hg hdb) fun ρ S G σ H W sm re h => by
    have h2 : sat X (Rps X.K) G H (.ok [] S) _ := h
    obtain ⟨ds, S1, G1, le, sm1, r, hl, hw⟩ := h2 G H [] .refl sm .nil
    cases r
    exact hw _ _ _ ⟨G1, .refl, sm1, rfl, .inl ⟨rfl, rfl⟩⟩
end
end PV
set_option Elab.async false
set_option linter.all false
set_option maxRecDepth 100000
set_option maxHeartbeats 4000000
/-! a def that is handed a lambda, calls it once, within a try -/
namespace PV
open PySem PySem.Spec PyProof.Rows L2 ZL
abbrev Hrd := Out D → Sto → Out D
/-- x(lambda: m), x the def told by h -/
def lamc (h : Hrd) (m : ME) : ME := fun ρ S => match h (m ρ S) S with
  | .ok d S1 => .ok d S1
  | _ => .no
/-- the three shapes: in the try's body the call is returned in a list, given to slot k, or thrown away -/
noncomputable def hrA (n j : Nat) (errs : List String) (rest : MS) : Hrd := fun o S => match o with
  | .ok d S1 => gcO S (.ok (.lst [d]) S1)
  | .ex c fs S1 => if errs.contains c = true then gcO S (fin (rest ((List.replicate n none).set j (some (.exc c fs))) S1)) else .no
  | .no => .no
noncomputable def hrB (n j k : Nat) (errs : List String) (rest : MS) : Hrd := fun o S => match o with
  | .ok d S1 => gcO S (fin (rest (((List.replicate n none).set j (some .non)).set k (some d)) S1))
  | .ex c fs S1 => if errs.contains c = true then gcO S (fin (rest ((List.replicate n none).set j (some (.exc c fs))) S1)) else .no
  | .no => .no
noncomputable def hrC (n j : Nat) (errs : List String) (rest : MS) : Hrd := fun o S => match o with
  | .ok d S1 => gcO S (fin (rest ((List.replicate n none).set j (some .non)) S1))
  | .ex c fs S1 => if errs.contains c = true then gcO S (fin (rest ((List.replicate n none).set j (some (.exc c fs))) S1)) else .no
  | .no => .no
/-- what such a def makes of what it is handed -/
def TTh (K : PySem.W.Frag) (h : Hrd) : (XK → Hp → VK → Prop) → Hp → VK → Prop := fun tl H Q => ∃ G S o, Sm K G S H ∧ (∀ G' H', Stp G H G' H' → Sm K G' S H' → ∀ Q' E, spO K G' H' o Q' E → tl E H' Q') ∧ spO K G H (h o S) Q fun _ _ _ => False
theorem Re.skips {K : PySem.W.Frag} {G : Gh} : ∀ (σ : L2.St), Re K G (List.replicate σ.length none) σ
  | [] => .nil
  | _ :: σ => .skp (Re.skips σ)
theorem Re.forget' {K : PySem.W.Frag} {G : Gh} {ρ : Ev} {σ : L2.St} (h : Re K G ρ σ) (i : Nat) (e : ρ[i]? = some none ∨ ρ[i]? = none) : Re K G ρ (σ.set i none) := by
  induction h generalizing i with
  | nil => exact .nil
  | skp t ih =>
    cases i with
    | zero => exact .skp t
    | succ i => exact .skp (ih i (by simpa using e))
  | has q t ih =>
    cases i with
    | zero => simp at e
    | succ i => exact .has q (ih i (by simpa using e))
section
variable {X : Cx} {Ng : List Str} {x a n y lx q : Str} {sg : Scope} {g CL : Addr} {cdg : Value} {bg rest : List Stmt} {mr : MS} {errs : List String} {i j k : Nat} {p1 p2 p3 p4 p5 p6 p7 p8 p9 p10 p11 p12 p13 p14 p15 p16 p17 : Pos} {jn jn' : Nat} {kt kt'}
/-- what the frame of such a def tells, at the lambda f -/
abbrev Hfr (X : Cx) (Ng : List Str) (x : Str) (sg : Scope) (g : Addr) (cdg : Value) (s : Shared) (H : Hp) : Cx := (cxOf C8.CX0 X.prog X.w X.K X.mg X.base Ng x sg g cdg X.A X.stack s H C8.E0).nox
/-- what the error that the lambda lets out becomes, and what follows -/
theorem hrd_caught {Z : Cx} {G : Gh} {S S1 : Sto} {H : Hp} {Q : VK} {c : String} {fs : List (String × D)} (sm : Sm Z.K G S H) (hz : mr = mr) (hm : ∀ c ∈ errs, PySem.W.exmOne Z.K (.ref (gaS Z.K c)) (.ref CL) = some true) (hij : i ≠ j) (hjn : j < Z.N.length)
    (h : spO Z.K G H (if errs.contains c = true then gcO S (fin (mr ((List.replicate Z.N.length none).set j (some (.exc c fs))) S1)) else .no) Q fun _ _ _ => False) (cls : Value) (dd : Option Addr) (σ : L2.St) (H' : Hp) (w : wEx Z.K G H c fs S1 cls dd H') :
    PySem.W.exmOne Z.K cls (.ref CL) = some true ∧ wKeep Z.N.length i j { nx := tS Z mr { nx := fun _ H' => Q .non H', rt := Q }, rt := Q } cls dd σ H' := by
  by_cases hc : errs.contains c = true
  · rw [if_pos hc] at h
    obtain ⟨G', st, sm', ec, hd⟩ := w
    subst ec
    refine ⟨hm c (List.contains_iff_mem.mp hc), fun hl b hb => ?_⟩
    have st2 := Stp.put (o := ExV (.ref (gaS Z.K c)) dd b) sm' hb
    have r : Rp Z.K (G'.put b (ExV (.ref (gaS Z.K c)) dd b)) (.exc c fs) (.ref b) := by
      rcases hd with ⟨rfl, rfl⟩ | ⟨d, ws, rfl, h1, h2⟩
      · exact .exc0 upd_same
      · exact .exc upd_same (st2.le.1 _ _ h1) (h2.mono st2.le)
    refine ⟨_, S1, _, sm'.put hb, ?_, sat_body rfl (LamX.takes0 (X := Z)) ((spO_gc sm h).mono (st.trans st2))⟩
    refine Re.forget' ((hl ▸ Re.skips σ).set j r) i ?_
    rw [List.getElem?_set_ne (Ne.symm hij)]
    by_cases hi : i < Z.N.length
    · exact .inl (by simp [hi])
    · exact .inr (by simp [Nat.le_of_not_lt hi])
  · rw [if_neg hc] at h
    exact h.elim
/-- the reading of the try's body: the call, and what follows a value -/
def tAct (f c' : Addr) (q : Str) (tl : XK → Hp → VK → Prop) (after : Ends → L2.St → VK) : WX → TS := fun W D σ H => ∃ Ech : XK, (∀ cls d σ' H', Ech cls d H' → W cls d σ' H') ∧ σ[0]? = some (some (.ref f)) ∧ H c' = some (LamX.CodeO c' q) ∧ tl Ech H (after D σ)
/-- how the whole is answered, when the value's way is -/
theorem hrd_ask {Z : Cx} {f c' : Addr} {q : Str} {tl : XK → Hp → VK → Prop} {after : Ends → L2.St → VK} {σ : L2.St} {H : Hp} {Q : VK} {G : Gh} {S : Sto} {o : Out D} {h : Hrd} {D : Ends} (sm : Sm Z.K G S H) (htl : ∀ Q' E, spO Z.K G H o Q' E → tl E H Q')
    (hD : D = { nx := tS Z mr { nx := fun _ H' => Q .non H', rt := Q }, rt := Q }) (hm : ∀ c ∈ errs, PySem.W.exmOne Z.K (.ref (gaS Z.K c)) (.ref CL) = some true) (hij : i ≠ j) (hjn : j < Z.N.length)
    (hx : ∀ c fs S1, h (.ex c fs S1) S = if errs.contains c = true then gcO S (fin (mr ((List.replicate Z.N.length none).set j (some (.exc c fs))) S1)) else .no) (hn : h .no S = .no)
    (hok : ∀ d S1, o = .ok d S1 → spO Z.K G H (h (.ok d S1) S) Q (fun _ _ _ => False) → ∀ G' H' v, Stp G H G' H' → Sm Z.K G' S1 H' → Rp Z.K G' d v → after D σ v H')
    (h1 : σ[0]? = some (some (.ref f))) (h2 : H c' = some (LamX.CodeO c' q)) (hs : spO Z.K G H (h o S) Q fun _ _ _ => False) :
    tAct f c' q tl after (fun cls dd σ H => PySem.W.exmOne Z.K cls (.ref CL) = some true ∧ wKeep Z.N.length i j D cls dd σ H) D σ H := by
  cases o with
  | no => rw [hn] at hs; exact hs.elim
  | ok d S1 => exact ⟨fun _ _ _ => False, fun _ _ _ _ z => z.elim, h1, h2, htl _ _ (hok d S1 rfl hs)⟩
  | ex c fs S1 =>
    rw [hx] at hs
    refine ⟨fun cls dd H' => wEx Z.K G H c fs S1 cls dd H', fun cls dd σ' H' w => ?_, h1, h2, htl _ _ fun cls dd H' w => w⟩
    rw [hD]
    exact hrd_caught (mr := mr) sm rfl hm hij hjn hs cls dd σ' H' w
variable {Q : VK}
theorem gives_A (hN : Ng.Nodup) (hj : Ng[j]? = some y) (hi : Ng[i]? = some n) (hij : i ≠ j) (hj0 : j ≠ 0) (h0 : ∀ f : Addr, (L2.start Ng [V.ref f])[0]? = some (some (V.ref f))) (hlen : ∀ f : Addr, (L2.start Ng [V.ref f]).length = Ng.length) (hln : sg.names.lookup n = some .local) (hly : sg.names.lookup y = some .local)
    (hlx : sg.names.lookup lx = some .globalImplicit) (hme : X.mg lx = some (.ref CL)) (hde : (lx == ("__debug__" : Str)) = false) (hdn : (n == ("__debug__" : Str)) = false) (hcn : (n == ("__classdict__" : Str)) = false)
    (hm : ∀ c ∈ errs, PySem.W.exmOne X.K (.ref (gaS X.K c)) (.ref CL) = some true) (hrest : ∀ s H, QSs (Hfr X Ng x sg g cdg s H) rest mr)
    (hsw : ∀ env, swapsWith (.Constant .none jn p2) (some (.Name y p1)) p3.line env = pure false) (hsw2 : ∀ env, swapsWith (.Name n p9) (some (.Name y p10)) p11.line env = pure false)
    (hst : ∀ (Z : Cx), starEach [Expr.Call (.Name a p4) [] [] p5] Z.env = [(false, eval (.Call (.Name a p4) [] [] p5) Z.env)]) :
    LamX.GivesTo X Ng x sg g cdg (.Assign [.Name y p1] (.Constant .none jn p2) p3 :: .Try [.Return (some (.List [.Call (.Name a p4) [] [] p5] p6)) p7] [.ExceptHandler (some (.Name lx p12)) (some n) [.Assign [.Name y p10] (.Name n p9) p11] p13] [] [] p8 :: rest) a q (TTh X.K (hrA Ng.length j errs mr)) := by
  intro f c' s H Q tl act hc htt
  obtain ⟨G, S, o, sm, htl, hs⟩ := htt
  have hjl : j < Ng.length := (List.getElem?_eq_some_iff.mp hj).1
  refine ⟨_, pss_cons (ps_set (X := Hfr X Ng x sg g cdg s H) (i := j) hN hj (.inl hly) pe_non (hsw _) (.inl rfl)) (pss_cons (ps_try_keep (X := Hfr X Ng x sg g cdg s H) (i := i) (j := j) (c := .ref CL)
    (tb := tAct f c' q tl fun D σ v H1 => [v].length ≤ sizeLine ∧ ∀ p, H1 p = none → D.rt (.ref p) (upd H1 p (.lst [v])))
    rfl rfl hN hi hj hij hln hly ⟨hlx, hde, .inl hme⟩ (fun b z => nomatch (show b ∈ ([] : List Addr) from z)) hdn hcn (hsw2 _) fun W pn xe tk _ => ?_) (hrest s H)), ?_⟩
  · refine ⟨fun pins s' σ H' D I h' => ?_⟩
    obtain ⟨Ech, hW, h1, h2, h3⟩ := h'
    have hp := act W pn xe Ech p4 p5 tk hW
    exact (pss_one (ps_ret (pos := p7) (pe_lst (pos := p6) (pa_cons hp pa_nil (hst _))))).run pins s' σ H' D I ⟨h1, h2, h3⟩
  · refine hrd_ask (Z := Hfr X Ng x sg g cdg s H) (f := f) (σ := (L2.start Ng [V.ref f]).set j (some V.non)) (after := fun D σ v H1 => [v].length ≤ sizeLine ∧ ∀ p, H1 p = none → D.rt (.ref p) (upd H1 p (.lst [v]))) (mr := mr) (h := hrA Ng.length j errs mr) (i := i) (j := j) (CL := CL) (errs := errs) (Q := Q) (G := G) (S := S) (o := o) sm (htl G H .refl sm) rfl hm hij hjl (fun c fs S1 => rfl) rfl (fun d S1 ho hs G' H' v st sm' r => ?_) ?_ hc hs
    · refine ⟨by rw [sizeLine_eq, List.length_singleton]; decide, fun p hp => ?_⟩
      exact (spO_gc sm (show spO X.K G H (gcO S (.ok (.lst [d]) S1)) Q _ from hs)) (G'.put p (.lst [v])) _ _ (st.trans (Stp.put sm' hp)) (sm'.put hp) (.lst upd_same (.cons (r.mono (Gh.put_le (sm'.free hp))) .nil))
    · show ((L2.start Ng [V.ref f]).set j (some V.non))[0]? = _
      rw [List.getElem?_set_ne hj0]
      exact h0 f
theorem gives_B {z : Str} (hk : Ng[k]? = some z) (hjk : j ≠ k) (hk0 : k ≠ 0) (hlz : sg.names.lookup z = some .local) (hN : Ng.Nodup) (hj : Ng[j]? = some y) (hi : Ng[i]? = some n) (hij : i ≠ j) (hj0 : j ≠ 0) (h0 : ∀ f : Addr, (L2.start Ng [V.ref f])[0]? = some (some (V.ref f))) (hlen : ∀ f : Addr, (L2.start Ng [V.ref f]).length = Ng.length) (hln : sg.names.lookup n = some .local) (hly : sg.names.lookup y = some .local)
    (hlx : sg.names.lookup lx = some .globalImplicit) (hme : X.mg lx = some (.ref CL)) (hde : (lx == ("__debug__" : Str)) = false) (hdn : (n == ("__debug__" : Str)) = false) (hcn : (n == ("__classdict__" : Str)) = false)
    (hm : ∀ c ∈ errs, PySem.W.exmOne X.K (.ref (gaS X.K c)) (.ref CL) = some true) (hrest : ∀ s H, QSs (Hfr X Ng x sg g cdg s H) rest mr)
    (hsw2 : ∀ env, swapsWith (.Name n p9) (some (.Name y p10)) p11.line env = pure false)
    (hsw : ∀ s H, swappedStores [.Tuple [.Name y p1, .Name z p2] kt p3] (.Tuple [.Constant .none jn p6, .Constant .none jn' p14] kt' p15) (Hfr X Ng x sg g cdg s H).env = pure none) (hsw1 : ∀ env, swapsWithSole [.Tuple [.Name y p1, .Name z p2] kt p3] (.Tuple [.Constant .none jn p6, .Constant .none jn' p14] kt' p15) p16.line env = pure false)
    (hsw3 : ∀ env, swapsWith (.Call (.Name a p4) [] [] p5) (some (.Name z p7)) p8.line env = pure false) :
    LamX.GivesTo X Ng x sg g cdg (.Assign [.Tuple [.Name y p1, .Name z p2] kt p3] (.Tuple [.Constant .none jn p6, .Constant .none jn' p14] kt' p15) p16 :: .Try [.Assign [.Name z p7] (.Call (.Name a p4) [] [] p5) p8] [.ExceptHandler (some (.Name lx p12)) (some n) [.Assign [.Name y p10] (.Name n p9) p11] p13] [] [] p17 :: rest) a q (TTh X.K (hrB Ng.length j k errs mr)) := by
  intro f c' s H Q tl act hc htt
  obtain ⟨G, S, o, sm, htl, hs⟩ := htt
  have hjl : j < Ng.length := (List.getElem?_eq_some_iff.mp hj).1
  refine ⟨_, pss_cons (ps_asg (X := Hfr X Ng x sg g cdg s H) (pe_tup (pa_cons pe_non (pa_cons pe_non pa_nil))) (pg_tup rfl (pgs_cons (pg_name hN hj (.inl hly)) (pgs_cons (pg_name hN hk (.inl hlz)) pgs_nil))) (hsw1 _) (hsw s H)) (pss_cons (ps_try_keep (X := Hfr X Ng x sg g cdg s H) (i := i) (j := j) (c := .ref CL)
    (tb := tAct f c' q tl fun D σ v H1 => D.nx (σ.set k (some v)) H1)
    rfl rfl hN hi hj hij hln hly ⟨hlx, hde, .inl hme⟩ (fun b z => nomatch (show b ∈ ([] : List Addr) from z)) hdn hcn (hsw2 _) fun W pn xe tk _ => ?_) (hrest s H)), ?_⟩
  · refine ⟨fun pins s' σ H' D I h' => ?_⟩
    obtain ⟨Ech, hW, h1, h2, h3⟩ := h'
    have hp := act W pn xe Ech p4 p5 tk hW
    exact (pss_one (ps_set (pos := p8) (pos' := p7) (i := k) hN hk (.inl hlz) hp (hsw3 _) (.inl rfl))).run pins s' σ H' D I ⟨h1, h2, h3⟩
  · refine ⟨by rw [sizeLine_eq]; decide, fun pt hpt => ⟨pt, [V.non, V.non], rfl, .inl (.inl upd_same), rfl, V.non, [V.non], rfl, V.non, [], rfl, rfl, ?_⟩⟩
    have stp : Stp G H (G.put pt (.tup [V.non, V.non])) (upd H pt (.tup [V.non, V.non])) := Stp.put sm hpt
    have smp : Sm X.K (G.put pt (.tup [V.non, V.non])) S (upd H pt (.tup [V.non, V.non])) := sm.put hpt
    refine hrd_ask (Z := Hfr X Ng x sg g cdg s H) (f := f) (σ := ((L2.start Ng [V.ref f]).set j (some V.non)).set k (some V.non)) (after := fun D σ v H1 => D.nx (σ.set k (some v)) H1) (mr := mr) (h := hrB Ng.length j k errs mr) (i := i) (j := j) (CL := CL) (errs := errs) (Q := Q) (G := G.put pt (.tup [V.non, V.non])) (S := S) (o := o) smp (htl _ _ stp smp) rfl hm hij hjl (fun c fs S1 => rfl) rfl (fun d S1 ho hs G' H' v st sm' r => ?_) ?_ (by rw [upd_ne (fun e => by rw [e, hpt] at hc; cases hc)]; exact hc) (hs.mono stp)
    · refine ⟨((List.replicate Ng.length none).set j (some D.non)).set k (some d), S1, G', sm', ?_, sat_body rfl (LamX.takes0 (X := Hfr X Ng x sg g cdg s H)) ((spO_gc smp (show spO X.K _ _ (gcO S (fin (mr (((List.replicate Ng.length none).set j (some D.non)).set k (some d)) S1))) Q _ from hs)).mono st)⟩
      rw [List.set_set]
      exact (((hlen f) ▸ Re.skips (L2.start Ng [V.ref f])).set j (d := .non) (v := .non) .non).set k r
    · rw [List.getElem?_set_ne hk0, List.getElem?_set_ne hj0]
      exact h0 f
theorem gives_C (hN : Ng.Nodup) (hj : Ng[j]? = some y) (hi : Ng[i]? = some n) (hij : i ≠ j) (hj0 : j ≠ 0) (h0 : ∀ f : Addr, (L2.start Ng [V.ref f])[0]? = some (some (V.ref f))) (hlen : ∀ f : Addr, (L2.start Ng [V.ref f]).length = Ng.length) (hln : sg.names.lookup n = some .local) (hly : sg.names.lookup y = some .local)
    (hlx : sg.names.lookup lx = some .globalImplicit) (hme : X.mg lx = some (.ref CL)) (hde : (lx == ("__debug__" : Str)) = false) (hdn : (n == ("__debug__" : Str)) = false) (hcn : (n == ("__classdict__" : Str)) = false)
    (hm : ∀ c ∈ errs, PySem.W.exmOne X.K (.ref (gaS X.K c)) (.ref CL) = some true) (hrest : ∀ s H, QSs (Hfr X Ng x sg g cdg s H) rest mr)
    (hsw2 : ∀ env, swapsWith (.Name n p9) (some (.Name y p10)) p11.line env = pure false)
    (hsw : ∀ env, swapsWith (.Constant .none jn p2) (some (.Name y p1)) p3.line env = pure false) (hsw3 : ∀ env, swapsWith (.Call (.Name a p4) [] [] p5) none p6.line env = pure false) :
    LamX.GivesTo X Ng x sg g cdg (.Assign [.Name y p1] (.Constant .none jn p2) p3 :: .Try [.Expr (.Call (.Name a p4) [] [] p5) p6] [.ExceptHandler (some (.Name lx p12)) (some n) [.Assign [.Name y p10] (.Name n p9) p11] p13] [] [] p8 :: rest) a q (TTh X.K (hrC Ng.length j errs mr)) := by
  intro f c' s H Q tl act hc htt
  obtain ⟨G, S, o, sm, htl, hs⟩ := htt
  have hjl : j < Ng.length := (List.getElem?_eq_some_iff.mp hj).1
  refine ⟨_, pss_cons (ps_set (X := Hfr X Ng x sg g cdg s H) (i := j) hN hj (.inl hly) pe_non (hsw _) (.inl rfl)) (pss_cons (ps_try_keep (X := Hfr X Ng x sg g cdg s H) (i := i) (j := j) (c := .ref CL)
    (tb := tAct f c' q tl fun D σ v H1 => D.nx σ H1)
    rfl rfl hN hi hj hij hln hly ⟨hlx, hde, .inl hme⟩ (fun b z => nomatch (show b ∈ ([] : List Addr) from z)) hdn hcn (hsw2 _) fun W pn xe tk _ => ?_) (hrest s H)), ?_⟩
  · refine ⟨fun pins s' σ H' D I h' => ?_⟩
    obtain ⟨Ech, hW, h1, h2, h3⟩ := h'
    have hp := act W pn xe Ech p4 p5 tk hW
    exact (pss_one (ps_expr (pos := p6) hp (hsw3 _))).run pins s' σ H' D I ⟨h1, h2, h3⟩
  · refine hrd_ask (Z := Hfr X Ng x sg g cdg s H) (f := f) (σ := (L2.start Ng [V.ref f]).set j (some V.non)) (after := fun D σ v H1 => D.nx σ H1) (mr := mr) (h := hrC Ng.length j errs mr) (i := i) (j := j) (CL := CL) (errs := errs) (Q := Q) (G := G) (S := S) (o := o) sm (htl G H .refl sm) rfl hm hij hjl (fun c fs S1 => rfl) rfl (fun d S1 ho hs G' H' v st sm' r => ?_) ?_ hc hs
    · refine ⟨(List.replicate Ng.length none).set j (some D.non), S1, G', sm', ?_, sat_body rfl (LamX.takes0 (X := Hfr X Ng x sg g cdg s H)) ((spO_gc sm (show spO X.K G H (gcO S (fin (mr ((List.replicate Ng.length none).set j (some D.non)) S1))) Q _ from hs)).mono st)⟩
      exact ((hlen f) ▸ Re.skips (L2.start Ng [V.ref f])).set j (d := .non) (v := .non) .non
    · rw [List.getElem?_set_ne hj0]
      exact h0 f
end
/-! ### x(lambda: body) -/
/-- tables may have grown -/
theorem Sm.grown {K : PySem.W.Frag} {G : Gh} {S : Sto} {H H1 : Hp} (m : Sm K G S H) (e : LamX.ExtN H H1) (t : LamX.Tabs (tbs K) H1) : Sm K G S H1 where
  fr := fun a o h => e a o (m.fr a o h) (m.nt a o h)
  cel := fun n c h nd => by
    obtain ⟨a, h1, h2, h3⟩ := m.cel n c h nd
    refine ⟨a, h1, h2, h3.mono .refl fun o q => e a o q ?_⟩
    obtain ⟨u, q1, q2, _⟩ := h3.hard nd
    rw [q] at q1
    cases q1
    exact q2
  dom := m.dom
  inj := m.inj
  dn := fun n a h => let ⟨o, z, y⟩ := m.dn n a h; ⟨o, e _ _ z y, y⟩
  nt := m.nt
  tb := t
theorem Stp.grown {G : Gh} {H H1 : Hp} (e : LamX.ExtN H H1) : Stp G H G H1 := ⟨.refl, fun a o h n => ⟨o, e a o h n, n⟩, fun a o h n _ => e a o h n, fun _ _ h => .inl h, fun _ _ h => .inl h⟩
section
variable {X : Cx} {Ng : List Str} {x a : Str} {st : Stmt} {g : Addr} {fd : FuncData} {kws : List (Str × V)} {c P : Addr} {k : Nat} {params : Arguments} {body : Expr} {scope : Scope} {m : ME} {h : Hrd} {p lpos pos : Pos}
theorem qe_lam (hg : Gl X x) (hm : X.mg x = some (.ref g)) (hk : PySem.W.keepIn X.K (.ref g) = true) (F : FunD X.K x x (defArgs st) (defBody st) (defScope st) [] kws g fd) (Sg : FnScope Ng [a] (defScope st))
    (hb : ∀ (kV doc pm : Value) (an : Option Addr) (cdv ct : Value) (us : List Value), us.length = 1 → bindArgs (PySem.W.fnOf x x (defArgs st) (defBody st) (defScope st) .none kV doc pm an cdv ct) ⟨us, []⟩ = pure (([a] : List Str).zip us))
    (hNg : Ng[0]? = some a) (hva : Vis (defScope st) a) (hG : ∀ cdv, LamX.GivesTo X Ng x (defScope st) g cdv (defBody st) a (X.env.qual ++ "<lambda>") (TTh X.K h))
    (TB : LamX.TabB X.base X.mg c P) (hcode : X.env.code = .ref c) (hmT : (P, X.env.qual ++ "<lambda>") ∈ tbs X.K) (hu : ∀ p ∈ tbs X.K, p.1 = P → p.2 = X.env.qual ++ "<lambda>") (hr : Room (k + 2) X.A) (L : LamX.LamS X.env.scope scope) (hdef : defaultsOf params X.env = ([], []))
    (hbind : ∀ (q : Str) (cl : List (Str × Addr)) (pm cv ctv : Value), bindArgs (PySem.W.kla_fn "<lambda>" q params body scope cl pm cv ctv) ⟨[], []⟩ = pure [])
    (hbody : ∀ (A : Around) (outer : List Env) (s : Shared) (H : Hp) (E : XK) (f c' : Addr), Room k (A.deeper (LamX.lamEnv X scope s.heap.objs.size f c')) → QE (LamX.lamCx X A outer s H E scope f c') body m)
    (hdb : (x == ("__debug__" : Str)) = false := by decide) (hd : (a == ("__debug__" : Str)) = false := by decide) (hcd : (a == ("__classdict__" : Str)) = false := by decide) :
    QE X (.Call (.Name x p) [.Lambda params body scope lpos] [] pos) (lamc h m) := by
  obtain ⟨oc, od, dV, kV, doc, pm, an, cdv, ct, osl, e, lk, hcg, hD, -⟩ := id F.ex
  have dN : dV = .none := by
    rcases hD with ⟨_, q⟩ | ⟨q, _⟩
    · exact q
    · exact absurd rfl q
  subst dN
  subst e
  have lam := LamX.pe_lamcall (X := X) (T := tbs X.K) (TT := TTh X.K h) (t := fun E σ H Q' => ∃ ρ S G, Sm X.K G S H ∧ Re X.K G ρ σ ∧ spO X.K G H (m ρ S) Q' E) (p := p) (lpos := lpos) (pos := pos) hg hm hk lk hcg (F.bindsN hb) Sg hNg hva (hG cdv) TB hcode hmT hu hr L hdef hbind
    (fun A outer s H E f c' hr2 => ⟨fun pins s2 σ H2 Q I ⟨ρ, S, G, sm, re, z⟩ => (hbody A outer s H E f c' hr2).run pins s2 σ H2 Q I ⟨ρ, S, G, sm, re, by
      cases q : m ρ S with
      | ok d S1 => rw [q] at z; exact z
      | no => rw [q] at z; exact z.elim
      | ex c1 fs S1 =>
        rw [q] at z
        exact (takes_of (X := LamX.lamCx X A outer s H E scope f c') rfl rfl rfl rfl).imp fun cls dd _ H' w => z cls dd H' w⟩⟩) hdb hd hcd
  exact qe_of lam fun ρ S G σ H Q sm re z => by
    refine ⟨sm.tb, fun H1 e1 t1 => ⟨G, S, m ρ S, sm.grown e1 t1, fun G2 H2 st2 sm2 Q' E w => ⟨ρ, S, G2, sm2, re.mono st2.le, w⟩, ?_⟩⟩
    have z2 : sat X (Rp X.K) G H (match h (m ρ S) S with | .ok d S1 => .ok d S1 | _ => .no) Q := z
    cases q : h (m ρ S) S with
    | ok d S1 =>
      rw [q] at z2
      exact fun G' H' v st sm' r => z2 G' H' v ((Stp.grown e1).trans st) sm' r
    | ex c1 fs S1 => rw [q] at z2; exact z2.elim
    | no => rw [q] at z2; exact z2.elim
end
end PV
set_option Elab.async false
set_option linter.all false
set_option maxRecDepth 100000
set_option maxHeartbeats 4000000
/-! running what the walks tell -/
namespace PV
open PySem PySem.Spec PyProof.Rows L2 ZL
theorem run_ok {np n : Nat} {b : MS} {ds : List D} {S S' : Sto} {d : D} (hl : ds.length = np) (hS : S'.length = S.length) (h : fin (b (ds.map some ++ List.replicate (n - np) none) S) = .ok d S') : dfn np n b ds S = .ok d S' := by
  unfold dfn
  rw [if_pos hl, h, gc_len hS]
theorem run_app {np n : Nat} {b : MS} {ds : List D} {S T : Sto} {d : D} (hl : ds.length = np) (hd : d.und S.length = true) (h : fin (b (ds.map some ++ List.replicate (n - np) none) S) = .ok d (S ++ T)) : dfn np n b ds S = .ok d S := by
  unfold dfn
  rw [if_pos hl, h, gc_app hd]
theorem run_setApp {np n : Nat} {b : MS} {ds : List D} {S T : Sto} {d : D} {m : Nat} {c : Cell} (hl : ds.length = np) (hd : d.und S.length = true) (hc : c.und S.length = true) (h : fin (b (ds.map some ++ List.replicate (n - np) none) S) = .ok d (S.set m c ++ T)) : dfn np n b ds S = .ok d (S.set m c) := by
  unfold dfn
  rw [if_pos hl, h, gc_setApp hd hc]
theorem runV {np n : Nat} {b : MS} {ds : List D} {S : Sto} {o : Out D} (hl : np ≤ ds.length) (hl2 : ds.length ≤ 1000) (h : dfn (np + 1) n b (ds.take np ++ [.tup (ds.drop np)]) S = o) : dfnV np n b ds S = o := by
  unfold dfnV
  rw [if_pos ⟨hl, hl2⟩, h]
/-- a comprehension of one name whose elements leave all as it is -/
theorem lcL_pure {i : Nat} {e : ME} {all : List D} {ρ : Ev} {S : Sto} {f : D → D} : ∀ (xs : List D), (∀ x ∈ xs, e (ρ.set i (some x)) S = .ok (f x) S) → lcL (.nm i) tYs e none all ρ xs S = .ok (xs.map f) S
  | [], _ => by
    unfold lcL
    rw [if_pos (show Gd none all S from trivial)]
    rfl
  | x :: xs, h => by
    unfold lcL
    rw [if_pos (show Gd none all S from trivial)]
    have h1 := h x List.mem_cons_self
    have h2 := lcL_pure (all := all) xs fun y hy => h y (List.mem_cons_of_mem _ hy)
    simp only [setT, tYs, h1, h2, List.map_cons]
theorem lc_pure {i : Nat} {it : MI} {e : ME} {ρ : Ev} {S : Sto} {xs : List D} (f : D → D) (hi : it ρ S = .ok (xs, none) S) (hl : xs.length ≤ 1000) (h : ∀ x ∈ xs, e ((ρ.set i none).set i (some x)) S = .ok (f x) S) : lcE (.nm i) it tYs e ρ S = .ok (.lst (xs.map f)) S := by
  unfold lcE lcO
  rw [hi]
  show (Out.bind (if xs.length ≤ 1000 then lcL (.nm i) tYs e none xs (ρ.set i none) xs S else .no) _) = _
  rw [if_pos hl, lcL_pure (f := f) xs h]
  rfl
/-- .. over ints -/
theorem lc_ints {i : Nat} {it : MI} {e : ME} {ρ : Ev} {S : Sto} {ns : List Int} (f : Int → D) (hi : it ρ S = .ok (ns.map .int, none) S) (hl : ns.length ≤ 1000) (h : ∀ n ∈ ns, e ((ρ.set i none).set i (some (.int n))) S = .ok (f n) S) : lcE (.nm i) it tYs e ρ S = .ok (.lst (ns.map f)) S := by
  have z := lc_pure (e := e) (i := i) (fun d => match d with | .int n => f n | d => d) hi (by simpa using hl) (by
    intro x hx
    obtain ⟨n, hn, rfl⟩ := List.mem_map.mp hx
    exact h n hn)
  rw [z, List.map_map]
  rfl
/-- .. over texts -/
theorem lc_strs {i : Nat} {it : MI} {e : ME} {ρ : Ev} {S : Sto} {ns : List Str} (f : Str → D) (hi : it ρ S = .ok (ns.map .str, none) S) (hl : ns.length ≤ 1000) (h : ∀ n ∈ ns, e ((ρ.set i none).set i (some (.str n))) S = .ok (f n) S) : lcE (.nm i) it tYs e ρ S = .ok (.lst (ns.map f)) S := by
  have z := lc_pure (e := e) (i := i) (fun d => match d with | .str n => f n | d => d) hi (by simpa using hl) (by
    intro x hx
    obtain ⟨n, hn, rfl⟩ := List.mem_map.mp hx
    exact h n hn)
  rw [z, List.map_map]
  rfl
theorem all_true {α : Type} (ns : List α) (S : Sto) : allB [.lst (ns.map fun _ => .bl true)] S = .ok (.bl true) S := by
  have e2 : asBools (ns.map fun _ => D.bl true) = some (List.replicate ns.length true) := by
    rw [← asBools_map]
    congr 1
    induction ns with
    | nil => rfl
    | cons a l ih => simp only [List.map_cons, List.length_cons, List.replicate_succ, ih]
  have e3 : (List.replicate ns.length true).all id = true := by simp
  simp only [allB, e2, e3]
/-- .. with a test -/
theorem lcL_filt {i : Nat} {t : MT} {e : ME} {all : List D} {ρ : Ev} {S : Sto} {f : D → D} {p : D → Bool} : ∀ (xs : List D), (∀ x ∈ xs, t (ρ.set i (some x)) S = .ok (p x) S) → (∀ x ∈ xs, p x = true → e (ρ.set i (some x)) S = .ok (f x) S) → lcL (.nm i) t e none all ρ xs S = .ok ((xs.filter p).map f) S
  | [], _, _ => by
    unfold lcL
    rw [if_pos (show Gd none all S from trivial)]
    rfl
  | x :: xs, h, h' => by
    unfold lcL
    rw [if_pos (show Gd none all S from trivial)]
    have h1 := h x List.mem_cons_self
    have h2 := lcL_filt (all := all) xs (fun y hy => h y (List.mem_cons_of_mem _ hy)) fun y hy => h' y (List.mem_cons_of_mem _ hy)
    cases c : p x with
    | true =>
      have h3 := h' x List.mem_cons_self c
      simp only [setT, h1, h2, h3, c, List.filter_cons, if_true, List.map_cons]
    | false =>
      simp only [setT, h1, h2, c, List.filter_cons]
      rfl
theorem lc_filt {i : Nat} {it : MI} {t : MT} {e : ME} {ρ : Ev} {S : Sto} {xs : List D} (f : D → D) (p : D → Bool) (hi : it ρ S = .ok (xs, none) S) (hl : xs.length ≤ 1000) (ht : ∀ x ∈ xs, t ((ρ.set i none).set i (some x)) S = .ok (p x) S) (h : ∀ x ∈ xs, p x = true → e ((ρ.set i none).set i (some x)) S = .ok (f x) S) :
    lcE (.nm i) it t e ρ S = .ok (.lst ((xs.filter p).map f)) S := by
  unfold lcE lcO
  rw [hi]
  show (Out.bind (if xs.length ≤ 1000 then lcL (.nm i) t e none xs (ρ.set i none) xs S else .no) _) = _
  rw [if_pos hl, lcL_filt (f := f) xs ht h]
  rfl
/-- a comprehension by an invariant: what is made so far and the store -/
theorem lcL_inv {T : Tg} {e : ME} {all : List D} {ρ : Ev} (W : List D → Sto → Prop) : ∀ (xs : List D) (S : Sto) (acc : List D), W acc S → (∀ x ∈ xs, ∀ acc S, W acc S → ∃ ρ1 d S', setT T x ρ = some ρ1 ∧ e ρ1 S = .ok d S' ∧ W (acc ++ [d]) S') → ∃ ds S', lcL T tYs e none all ρ xs S = .ok ds S' ∧ W (acc ++ ds) S'
  | [], S, acc, h, _ => ⟨[], S, by unfold lcL; rw [if_pos (show Gd none all S from trivial)], by rw [List.append_nil]; exact h⟩
  | x :: xs, S, acc, h, hs => by
    obtain ⟨ρ1, d, S', h1, h2, h3⟩ := hs x List.mem_cons_self acc S h
    obtain ⟨ds, S2, h4, h5⟩ := lcL_inv (all := all) W xs S' (acc ++ [d]) h3 fun y hy => hs y (List.mem_cons_of_mem _ hy)
    refine ⟨d :: ds, S2, ?_, by rw [List.append_assoc] at h5; exact h5⟩
    unfold lcL
    rw [if_pos (show Gd none all S from trivial)]
    simp only [h1, show ∀ ρ S, tYs ρ S = .ok true S from fun _ _ => rfl, h2, h4]
theorem lc_inv {T : Tg} {it : MI} {e : ME} {ρ : Ev} {S S1 : Sto} {xs : List D} (W : List D → Sto → Prop) (hi : it ρ S = .ok (xs, none) S1) (hl : xs.length ≤ 1000) (h0 : W [] S1) (hs : ∀ x ∈ xs, ∀ acc S, W acc S → ∃ ρ1 d S', setT T x (wipeD ρ T.slots) = some ρ1 ∧ e ρ1 S = .ok d S' ∧ W (acc ++ [d]) S') :
    ∃ ds S', lcE T it tYs e ρ S = .ok (.lst ds) S' ∧ W ds S' := by
  obtain ⟨ds, S', h1, h2⟩ := lcL_inv (all := xs) (ρ := wipeD ρ T.slots) W xs S1 [] h0 hs
  refine ⟨ds, S', ?_, h2⟩
  unfold lcE lcO
  rw [hi]
  show (Out.bind (if xs.length ≤ 1000 then lcL T tYs e none xs (wipeD ρ T.slots) xs S1 else .no) _) = _
  rw [if_pos hl, h1]
  rfl
/-- a loop by an invariant -/
theorem forL_inv {T : Tg} {b : MS} {all : List D} (W : Nat → Ev → Sto → Prop) : ∀ (xs : List D) (i : Nat) (ρ : Ev) (S : Sto), W i ρ S → (∀ (j : Nat) x ρ S, xs[j]? = some x → W (i + j) ρ S → ∃ ρ1 ρ2 S2, setT T x ρ = some ρ1 ∧ (b ρ1 S = .ok (.nx ρ2) S2 ∨ b ρ1 S = .ok (.ct ρ2) S2) ∧ W (i + j + 1) ρ2 S2) →
    ∃ ρ' S', forL T b none all xs ρ S = .ok (.nx ρ') S' ∧ W (i + xs.length) ρ' S'
  | [], i, ρ, S, h, _ => ⟨ρ, S, forL_nil, h⟩
  | x :: xs, i, ρ, S, h, hs => by
    obtain ⟨ρ1, ρ2, S2, h1, h2, h3⟩ := hs 0 x ρ S rfl h
    obtain ⟨ρ', S', h4, h5⟩ := forL_inv (all := all) W xs (i + 1) ρ2 S2 h3 fun j y ρ S hy hw => by
      have := hs (j + 1) y ρ S (by simpa using hy) (by rw [show i + (j + 1) = i + 1 + j by omega]; exact hw)
      rw [show i + (j + 1) + 1 = i + 1 + j + 1 by omega] at this
      exact this
    refine ⟨ρ', S', ?_, by rw [List.length_cons, show i + (xs.length + 1) = i + 1 + xs.length by omega]; exact h5⟩
    rw [forL_cons, h1]
    rcases h2 with h2 | h2
    · simp only [h2, Out.bind, h4]
    · simp only [h2, Out.bind, h4]
theorem for_inv {T : Tg} {it : MI} {b : MS} {ρ : Ev} {S S1 : Sto} {xs : List D} (W : Nat → Ev → Sto → Prop) (hi : it ρ S = .ok (xs, none) S1) (h0 : W 0 ρ S1) (hs : ∀ (j : Nat) x ρ S, xs[j]? = some x → W j ρ S → ∃ ρ1 ρ2 S2, setT T x ρ = some ρ1 ∧ (b ρ1 S = .ok (.nx ρ2) S2 ∨ b ρ1 S = .ok (.ct ρ2) S2) ∧ W (j + 1) ρ2 S2) :
    ∃ ρ' S', sFor T it b ρ S = .ok (.nx ρ') S' ∧ W xs.length ρ' S' := by
  obtain ⟨ρ', S', h1, h2⟩ := forL_inv (T := T) (b := b) (all := xs) W xs 0 ρ S1 h0 fun j x ρ S hx hw => by
    have := hs j x ρ S hx (by simpa using hw)
    simpa using this
  refine ⟨ρ', S', ?_, by simpa using h2⟩
  unfold sFor
  rw [hi]
  exact h1
/-! ### small facts -/
theorem toPs_ints : ∀ ns : List Int, toPs (ns.map .int) = some (ns.map .int)
  | [] => by rw [List.map_nil, List.map_nil, toPs]
  | n :: ns => by rw [List.map_cons, toPs, toPs_ints ns, toP]; rfl
theorem belows_ints (m : Nat) : ∀ ns : List Int, belows m (ns.map .int) = true
  | [] => rfl
  | n :: ns => by rw [List.map_cons, belows, belows_ints m ns]; rfl
theorem belows_strs (m : Nat) : ∀ ns : List Str, belows m (ns.map .str) = true
  | [] => rfl
  | n :: ns => by rw [List.map_cons, belows, belows_strs m ns]; rfl
theorem belows_bls (m : Nat) : ∀ ns : List Bool, belows m (ns.map .bl) = true
  | [] => rfl
  | n :: ns => by rw [List.map_cons, belows, belows_bls m ns]; rfl
theorem eqvAll_ints : ∀ ns ms : List Int, PyData.eqvAll (ns.map .int) (ms.map .int) = decide (ns = ms)
  | [], [] => by rw [List.map_nil, PyData.eqvAll]; rfl
  | [], _ :: _ => by rw [List.map_nil, List.map_cons, PyData.eqvAll]; rfl
  | _ :: _, [] => by rw [List.map_nil, List.map_cons, PyData.eqvAll]; rfl
  | n :: ns, m :: ms => by
    rw [List.map_cons, List.map_cons, PyData.eqvAll, eqvAll_ints ns ms, PyData.eqv]
    by_cases h : n = m
    · subst h
      by_cases h' : ns = ms
      · subst h'; simp
      · simp [h']
    · simp [h]
theorem any_ints (n : Int) : ∀ ms : List Int, ((ms.map PyData.int).any fun q => PyData.eqv q (.int n)) = decide (n ∈ ms)
  | [] => by simp
  | m :: ms => by
    rw [List.map_cons, List.any_cons, any_ints n ms, PyData.eqv]
    by_cases h : n = m
    · subst h; simp
    · have h' : (m == n) = false := by simpa using fun e => h e.symm
      rw [h']
      simp [h]
theorem flat_ints : ∀ ns : List Int, ((ns.map PyData.int).all inD.flat) = true
  | [] => rfl
  | n :: ns => by rw [List.map_cons, List.all_cons, flat_ints ns]; rfl
end PV
set_option Elab.async false
set_option linter.all false
set_option maxRecDepth 100000
set_option maxHeartbeats 4000000
namespace PV
open PySem PySem.Spec PyProof.Rows L2 ZL
/-! ### plain data of ints -/
theorem lay_ints : ∀ ns : List Int, PyData.canLayAll0 (ns.map PyData.int) = true
  | [] => by simp [PyData.canLayAll0]
  | n :: ns => by simp [PyData.canLayAll0, PyData.canLay0, lay_ints ns]
theorem depth_ints : ∀ ns : List Int, PyData.depthAll (ns.map PyData.int) = 0
  | [] => by simp [PyData.depthAll]
  | n :: ns => by simp [PyData.depthAll, PyData.depth, depth_ints ns]
theorem shaped_lints (ns : List Int) : SeqAt.shaped (.list (ns.map PyData.int)) = true := by simp [SeqAt.shaped, PyData.canLay0, lay_ints, PyData.depth, depth_ints]
theorem shaped_tints (ns : List Int) : SeqAt.shaped (.tuple (ns.map PyData.int)) = true := by simp [SeqAt.shaped, PyData.canLay0, lay_ints, PyData.depth, depth_ints]
theorem shaped_int (n : Int) : SeqAt.shaped (.int n) = true := by simp [SeqAt.shaped, PyData.canLay0, PyData.depth]
theorem eqD_lints (ns ms : List Int) : eqD (.lst (ns.map .int)) (.lst (ms.map .int)) = some (decide (ns = ms)) := by
  simp [eqD, eqP, toP, toPs_ints, shaped_lints, PyData.eqv, eqvAll_ints]
theorem eqD_tints (ns ms : List Int) : eqD (.tup (ns.map .int)) (.tup (ms.map .int)) = some (decide (ns = ms)) := by
  simp [eqD, eqP, toP, toPs_ints, shaped_tints, PyData.eqv, eqvAll_ints]
theorem eqD_lnil (ns : List Int) : eqD (.lst (ns.map .int)) (.lst []) = some (decide (ns = [])) := eqD_lints ns []
theorem eqD_int (n m : Int) : eqD (.int n) (.int m) = some (decide (n = m)) := by
  simp [eqD, eqP, toP, shaped_int, PyData.eqv]
  by_cases h : n = m
  · subst h; simp
  · simp [h]
/-! ### what draws -/
def penC (cs : List Int) (a r : Int) : Cell := .lst [.lst (cs.map .int), .int a, .int r]
def Pen (S : Sto) (p : Nat) (B : Int) : Prop := ∃ cs a r, S[p]? = some (penC cs a r) ∧ cs.length ≤ 63 ∧ 0 ≤ a ∧ a ≤ B
theorem Pen.mono {S : Sto} {p : Nat} {B B' : Int} (h : Pen S p B) (hb : B ≤ B') : Pen S p B' := by
  obtain ⟨cs, a, r, h1, h2, h3, h4⟩ := h
  exact ⟨cs, a, r, h1, h2, h3, by omega⟩
theorem Pen.lt {S : Sto} {p : Nat} {B : Int} (h : Pen S p B) : p < S.length := by
  obtain ⟨cs, a, r, h1, _⟩ := h
  exact (List.getElem?_eq_some_iff.mp h1).1
theorem Pen.app {S T : Sto} {p : Nat} {B : Int} (h : Pen S p B) : Pen (S ++ T) p B := by
  have hl := h.lt
  obtain ⟨cs, a, r, h1, h2⟩ := h
  exact ⟨cs, a, r, by rw [List.getElem?_append_left hl]; exact h1, h2⟩
theorem penC_und (m : Nat) (cs : List Int) (a r : Int) : (penC cs a r).und m = true := by
  simp [penC, Cell.und, belows, D.und, belows_ints]
/-- the same but for the cells of a pen -/
def SamePen (p : Nat) (S S' : Sto) : Prop := ∃ cs a r, S' = S.set p (penC cs a r)
theorem SamePen.refl {p : Nat} {S : Sto} {B : Int} (h : Pen S p B) : SamePen p S S := by
  have hl := h.lt
  obtain ⟨cs, a, r, h1, _⟩ := h
  refine ⟨cs, a, r, ?_⟩
  obtain ⟨_, h2⟩ := List.getElem?_eq_some_iff.mp h1
  rw [← h2]
  simp
theorem SamePen.trans {p : Nat} {S S' S'' : Sto} (h : SamePen p S S') (h' : SamePen p S' S'') : SamePen p S S'' := by
  obtain ⟨cs, a, r, rfl⟩ := h
  obtain ⟨cs', a', r', rfl⟩ := h'
  exact ⟨cs', a', r', by rw [List.set_set]⟩
theorem SamePen.len {p : Nat} {S S' : Sto} (h : SamePen p S S') : S'.length = S.length := by
  obtain ⟨cs, a, r, rfl⟩ := h
  rw [List.length_set]
theorem SamePen.get {p m : Nat} {S S' : Sto} (h : SamePen p S S') (hm : m ≠ p) : S'[m]? = S[m]? := by
  obtain ⟨cs, a, r, rfl⟩ := h
  rw [List.getElem?_set_ne (Ne.symm hm)]
def drawT (c3 c4 c5 c6 c7 : Int) : MS := (sSeq (sIf (tAn (tst (bin (ltG) (v 3) (cal lenB (aCons (bin ixG (v 0) (k (.int 0))) (aNil))))) (tst (bin (geG) (cal absB (aCons (v 4) (aNil))) (bin (powG) (k (.int 10)) (k (.int 18)))))) (sSeq (sSet 5 (bin (addG) (bin (mulG) (k (.int 2)) (bin (subG) (cal absB (aCons (v 4) (aNil))) (bin (powG) (k (.int 10)) (k (.int 18))))) (cal intB (aCons (bin (ltG) (v 4) (k (.int 0))) (aNil))))) (sSeq (sSub (v 0) (k (.int 2)) (bin (fdivG) (cal intB (aCons (v 5) (aNil))) (v 1))) (sSeq (sRet (bin (modG) (cal intB (aCons (v 5) (aNil))) (v 1))) (sNil)))) (sNil)) (sSeq (sSet 6 (bin (modG) (cal intB (aCons (bin (powG) (bin (addG) (bin (addG) (bin (modG) (cal intB (aCons (v 4) (aNil))) (k (.int 2147483549))) (bin (mulG) (k (.int c3)) (v 3))) (k (.int c4))) (k (.int 5))) (aNil))) (k (.int 2147483629)))) (sSeq (sSet 6 (bin (modG) (cal intB (aCons (bin (powG) (bin (addG) (bin (addG) (bin (mulG) (v 6) (bin (addG) (bin (mulG) (k (.int 2)) (v 3)) (k (.int c5)))) (bin (mulG) (bin (mulG) (k (.int c6)) (v 3)) (v 3))) (k (.int c7))) (k (.int 3))) (aNil))) (k (.int 2147483587)))) (sSeq (sRet (bin (modG) (cal intB (aCons (bin (fdivG) (v 6) (k (.int 32))) (aNil))) (v 1))) (sNil)))))
def drawB (c1 c2 c3 c4 c5 c6 c7 : Int) : MS := (sSeq (sIf (tst (bin (gtG) (bin ixG (v 0) (k (.int 2))) (k (.int 0)))) (sSeq (sSet 2 (bin (modG) (cal intB (aCons (bin ixG (v 0) (k (.int 2))) (aNil))) (v 1))) (sSeq (sSub (v 0) (k (.int 2)) (bin (fdivG) (cal intB (aCons (bin ixG (v 0) (k (.int 2))) (aNil))) (v 1))) (sSeq (sRet (v 2)) (sNil)))) (sNil)) (sSeq (sSet 3 (bin ixG (v 0) (k (.int 1)))) (sSeq (sSub (v 0) (k (.int 1)) (bin (addG) (v 3) (k (.int 1)))) (sSeq (sSet 4 (bin (addG) (bin (mulG) (k (.int c1)) (v 3)) (k (.int c2)))) (sSeq (sIf (tst (bin (eqG true) (bin ixG (v 0) (k (.int 0))) (lstE (aNil)))) (sSeq (sSet 4 (bin ixG (bin ixG (v 0) (k (.int 0))) (bin (modG) (cal intB (aCons (v 3) (aNil))) (cal lenB (aCons (bin ixG (v 0) (k (.int 0))) (aNil)))))) (sNil)) (sNil)) (sSeq (sIf (tAn (tst (bin (ltG) (v 3) (cal lenB (aCons (bin ixG (v 0) (k (.int 0))) (aNil))))) (tst (bin (geG) (cal absB (aCons (v 4) (aNil))) (bin (powG) (k (.int 10)) (k (.int 18)))))) (sSeq (sSet 5 (bin (addG) (bin (mulG) (k (.int 2)) (bin (subG) (cal absB (aCons (v 4) (aNil))) (bin (powG) (k (.int 10)) (k (.int 18))))) (cal intB (aCons (bin (ltG) (v 4) (k (.int 0))) (aNil))))) (sSeq (sSub (v 0) (k (.int 2)) (bin (fdivG) (cal intB (aCons (v 5) (aNil))) (v 1))) (sSeq (sRet (bin (modG) (cal intB (aCons (v 5) (aNil))) (v 1))) (sNil)))) (sNil)) (sSeq (sSet 6 (bin (modG) (cal intB (aCons (bin (powG) (bin (addG) (bin (addG) (bin (modG) (cal intB (aCons (v 4) (aNil))) (k (.int 2147483549))) (bin (mulG) (k (.int c3)) (v 3))) (k (.int c4))) (k (.int 5))) (aNil))) (k (.int 2147483629)))) (sSeq (sSet 6 (bin (modG) (cal intB (aCons (bin (powG) (bin (addG) (bin (addG) (bin (mulG) (v 6) (bin (addG) (bin (mulG) (k (.int 2)) (v 3)) (k (.int c5)))) (bin (mulG) (bin (mulG) (k (.int c6)) (v 3)) (v 3))) (k (.int c7))) (k (.int 3))) (aNil))) (k (.int 2147483587)))) (sSeq (sRet (bin (modG) (cal intB (aCons (bin (fdivG) (v 6) (k (.int 32))) (aNil))) (v 1))) (sNil))))))))))
theorem divOk_small {j : Int} (h : 0 < j) (h' : j < 2 ^ 120) : divOk j = true := by
  unfold divOk
  have : j.natAbs.log2 < 120 := PySem.Flt.log2_lt_of (by decide) (by omega)
  simp [h]
  omega
theorem mulOk_l {i j : Int} (h : -(2 ^ 64) < i) (h' : i < 2 ^ 64) : mulOk i j = true := by
  unfold mulOk
  rw [decide_eq_true ⟨h, h'⟩]
  rfl
theorem powOk_of {i j : Int} (h : 0 ≤ j) (h' : j ≤ 1000000) (hi : i.natAbs < 2 ^ 64) : powOk i j = true := by
  unfold powOk
  rw [decide_eq_true h, decide_eq_true h', decide_eq_true hi]
  rfl
theorem pen0 {S : Sto} {p : Nat} {cs : List Int} {a r : Int} (h : S[p]? = some (penC cs a r)) : ixG (.loc p) (.int 0) S = .ok (.lst (cs.map .int)) S := by
  simp only [ixG, h, penC]
  rfl
theorem pen1 {S : Sto} {p : Nat} {cs : List Int} {a r : Int} (h : S[p]? = some (penC cs a r)) : ixG (.loc p) (.int 1) S = .ok (.int a) S := by
  simp only [ixG, h, penC]
  rfl
theorem pen2 {S : Sto} {p : Nat} {cs : List Int} {a r : Int} (h : S[p]? = some (penC cs a r)) : ixG (.loc p) (.int 2) S = .ok (.int r) S := by
  simp only [ixG, h, penC]
  rfl
theorem ix_ints {ns : List Int} {i : Int} {S : Sto} (h0 : 0 ≤ i) (h1 : i < ns.length) : ixG (.lst (ns.map .int)) (.int i) S = .ok (.int (ns.getD i.toNat 0)) S := by
  have e : L2.atI (ns.map D.int) i = some (.int (ns.getD i.toNat 0)) := by
    unfold L2.atI ixN
    rw [List.length_map, if_pos h0]
    have hlt : i.toNat < ns.length := by omega
    rw [if_pos h1]
    simp [hlt]
  simp only [ixG, e]
/-- a draw -/
theorem draw_ok {c1 c2 c3 c4 c5 c6 c7 : Int} {S : Sto} {p : Nat} {B m : Int} (h : Pen S p B) (hB : B ≤ 1000000) (hm : 1 ≤ m) (hm' : m < 2 ^ 110) (k1 : 0 ≤ c1 ∧ c1 < 1000000) (k3 : 0 ≤ c3 ∧ c3 < 1000000) (k4 : 0 ≤ c4 ∧ c4 < 1000000) (k5 : 0 ≤ c5 ∧ c5 < 1000000) (k6 : 0 ≤ c6 ∧ c6 < 1000000) (k7 : 0 ≤ c7 ∧ c7 < 1000000) :
    ∃ r S', dfn 2 7 (drawB c1 c2 c3 c4 c5 c6 c7) [.loc p, .int m] S = .ok (.int r) S' ∧ 0 ≤ r ∧ r < m ∧ SamePen p S S' ∧ Pen S' p (B + 1) := by
  have hlt := h.lt
  obtain ⟨cs, a, r, hS, hc, ha, haB⟩ := h
  have hd : divOk m = true := divOk_small (by omega) (by omega)
  have hm0 : 0 < m := by omega
  have setp : ∀ cs' a' r', (S.set p (penC cs' a' r'))[p]? = some (penC cs' a' r') := fun cs' a' r' => by rw [List.getElem?_set_self hlt]
  by_cases hr : 0 < r
  · refine ⟨r % m, S.set p (penC cs a (r / m)), run_ok rfl (List.length_set ..) ?_, Int.emod_nonneg _ (by omega), Int.emod_lt_of_pos _ hm0, ⟨cs, a, r / m, rfl⟩, cs, a, r / m, setp _ _ _, hc, ha, by omega⟩
    simp [drawB, sSeq, sIf, tst, bin, v, k, isB, Out.bind, pen2 hS, gtG, hr, sSet, cal, aCons, aNil, intB, modG, hm0, sSub, fdivG, hd, sRet, fin, hS, penC, ixN]
  · -- a cell is mixed
    obtain ⟨S1, eS1⟩ : ∃ S1, S1 = S.set p (penC cs (a + 1) r) := ⟨_, rfl⟩
    have hS1 : S1[p]? = some (penC cs (a + 1) r) := by rw [eS1]; exact setp _ _ _
    have hset : S.set p (.lst [.lst (cs.map .int), .int (a + 1), .int r]) = S1 := eS1.symm
    have hpen : Pen S1 p (B + 1) := ⟨cs, a + 1, r, hS1, hc, by omega, by omega⟩
    have hsame : SamePen p S S1 := ⟨cs, a + 1, r, eS1⟩
    have hlen : S1.length = S.length := hsame.len
    have ra : -(2 ^ 64 : Int) < a ∧ a < 2 ^ 64 := by omega
    -- the cell
    obtain ⟨x, hx⟩ : ∃ x : Int, x = if cs = [] then c1 * a + c2 else cs.getD (a % (cs.length : Int)).toNat 0 := ⟨_, rfl⟩
    have pre : ∀ (K : MS), (sSeq (sSet 3 (bin ixG (v 0) (k (.int 1)))) (sSeq (sSub (v 0) (k (.int 1)) (bin (addG) (v 3) (k (.int 1)))) (sSeq (sSet 4 (bin (addG) (bin (mulG) (k (.int c1)) (v 3)) (k (.int c2)))) (sSeq (sIf (tst (bin (eqG true) (bin ixG (v 0) (k (.int 0))) (lstE (aNil)))) (sSeq (sSet 4 (bin ixG (bin ixG (v 0) (k (.int 0))) (bin (modG) (cal intB (aCons (v 3) (aNil))) (cal lenB (aCons (bin ixG (v 0) (k (.int 0))) (aNil)))))) (sNil)) (sNil)) K)))) [some (.loc p), some (.int m), none, none, none, none, none] S = K [some (.loc p), some (.int m), none, some (.int a), some (.int x), none, none] S1 := by
      intro K
      have m1 : mulOk c1 a = true := mulOk_l (by omega) (by omega)
      by_cases hcs : cs = []
      · subst hcs
        rw [if_pos rfl] at hx
        have e0 := eqD_lnil []
        simp only [List.map_nil] at e0
        have p0 := pen0 hS1
        simp only [List.map_nil] at p0 hset
        simp [sSeq, sSet, sSub, sIf, tst, bin, v, k, isB, Out.bind, pen1 hS, addG, hS, penC, ixN, hset, mulG, m1, p0, lstE, aNil, eqG, e0, hx, sNil]
      · rw [if_neg hcs] at hx
        have hl0 : 0 < cs.length := List.length_pos_iff.mpr hcs
        have i0 : 0 ≤ a % (cs.length : Int) := Int.emod_nonneg _ (by omega)
        have i1 : a % (cs.length : Int) < cs.length := Int.emod_lt_of_pos _ (by omega)
        have hne : ¬ (cs = []) := hcs
        simp [sSeq, sSet, sSub, sIf, tst, bin, v, k, isB, Out.bind, pen1 hS, addG, hS, penC, ixN, hset, mulG, m1, pen0 hS1, lstE, aNil, aCons, cal, eqG, eqD_lnil, hne, intB, lenB, modG, hl0, ix_ints i0 i1, hx, sNil]
    have r0 : ¬ (0 < r) := hr
    have st : drawB c1 c2 c3 c4 c5 c6 c7 [some (.loc p), some (.int m), none, none, none, none, none] S = drawT c3 c4 c5 c6 c7 [some (.loc p), some (.int m), none, some (.int a), some (.int x), none, none] S1 := by
      refine Eq.trans ?_ (pre (drawT c3 c4 c5 c6 c7))
      show (Out.bind (sIf _ _ _ _ _) _) = _
      have e1 : (sIf (tst (bin gtG (bin ixG (v 0) (k (.int 2))) (k (.int 0)))) (sSeq (sSet 2 (bin (modG) (cal intB (aCons (bin ixG (v 0) (k (.int 2))) (aNil))) (v 1))) (sSeq (sSub (v 0) (k (.int 2)) (bin (fdivG) (cal intB (aCons (bin ixG (v 0) (k (.int 2))) (aNil))) (v 1))) (sSeq (sRet (v 2)) (sNil)))) sNil) [some (.loc p), some (.int m), none, none, none, none, none] S = .ok (.nx [some (.loc p), some (.int m), none, none, none, none, none]) S := by
        simp [sIf, tst, bin, v, k, isB, Out.bind, pen2 hS, gtG, r0, sNil]
      rw [e1]
      rfl
    have hrun : ∀ {d : D} {S' : Sto}, S'.length = S.length → fin (drawT c3 c4 c5 c6 c7 [some (.loc p), some (.int m), none, some (.int a), some (.int x), none, none] S1) = .ok d S' → dfn 2 7 (drawB c1 c2 c3 c4 c5 c6 c7) [.loc p, .int m] S = .ok d S' := fun {d S'} hl h => run_ok rfl hl (by rw [← h]; exact congrArg fin st)
    have pw : powOk 10 18 = true := by decide
    have ax : absB [.int x] S1 = .ok (.int (if x < 0 then -x else x)) S1 := rfl
    by_cases hg : a < cs.length ∧ 10 ^ 18 ≤ (if x < 0 then -x else x)
    · obtain ⟨y, hy⟩ : ∃ y : Int, y = 2 * ((if x < 0 then -x else x) - 10 ^ 18) + (if x < 0 then 1 else 0) := ⟨_, rfl⟩
      refine ⟨y % m, S1.set p (penC cs (a + 1) (y / m)), hrun (by rw [List.length_set, hlen]) ?_, Int.emod_nonneg _ (by omega), Int.emod_lt_of_pos _ hm0, hsame.trans ⟨cs, a + 1, y / m, rfl⟩, cs, a + 1, y / m, by rw [List.getElem?_set_self (by omega)], hc, by omega, by omega⟩
      have m2 : ∀ z, mulOk 2 z = true := fun z => mulOk_l (by omega) (by omega)
      have hg1 := hg.1
      have hg2 := hg.2
      simp only [Int.reducePow] at hg2 hy
      by_cases hx0 : x < 0
      · simp only [hx0, if_true] at hy hg2
        simp [drawT, sSeq, sIf, tAn, tst, bin, v, k, isB, Out.bind, ltG, cal, aCons, aNil, lenB, pen0 hS1, hg1, geG, powG, pw, hg2, sSet, mulG, m2, subG, addG, intB, hx0, ← hy, sSub, fdivG, hd, hS1, penC, ixN, sRet, modG, hm0, fin, absB]
      · simp only [hx0, if_false] at hy hg2
        simp [drawT, sSeq, sIf, tAn, tst, bin, v, k, isB, Out.bind, ltG, cal, aCons, aNil, lenB, pen0 hS1, hg1, geG, powG, pw, hg2, sSet, mulG, m2, subG, addG, intB, hx0, ← hy, sSub, fdivG, hd, hS1, penC, ixN, sRet, modG, hm0, fin, absB]
    · -- a mixed one
      obtain ⟨b1, hb1⟩ : ∃ b : Int, b = x % 2147483549 + c3 * a + c4 := ⟨_, rfl⟩
      have c3a : 0 ≤ c3 * a ∧ c3 * a ≤ 1000000 * 1000000 := ⟨Int.mul_nonneg k3.1 ha, by
        have h1 : c3 * a ≤ 1000000 * a := Int.mul_le_mul_of_nonneg_right (by omega) ha
        omega⟩
      have x1 : 0 ≤ x % 2147483549 := Int.emod_nonneg _ (by decide)
      have x2 : x % 2147483549 < 2147483549 := Int.emod_lt_of_pos _ (by decide)
      have p1 : powOk b1 5 = true := powOk_of (by decide) (by decide) (by omega)
      obtain ⟨d1, hd1⟩ : ∃ d : Int, d = b1 ^ 5 % 2147483629 := ⟨_, rfl⟩
      have d10 : 0 ≤ d1 := by rw [hd1]; exact Int.emod_nonneg _ (by decide)
      have d11 : d1 < 2147483629 := by rw [hd1]; exact Int.emod_lt_of_pos _ (by decide)
      obtain ⟨b2, hb2⟩ : ∃ b : Int, b = d1 * (2 * a + c5) + c6 * a * a + c7 := ⟨_, rfl⟩
      have q1 : 0 ≤ d1 * (2 * a + c5) ∧ d1 * (2 * a + c5) ≤ 2147483629 * 3000000 := ⟨Int.mul_nonneg d10 (by omega), by
        have h1 : d1 * (2 * a + c5) ≤ 2147483629 * (2 * a + c5) := Int.mul_le_mul_of_nonneg_right (by omega) (by omega)
        omega⟩
      have c6a : 0 ≤ c6 * a ∧ c6 * a ≤ 1000000 * 1000000 := ⟨Int.mul_nonneg k6.1 ha, by
        have h1 : c6 * a ≤ 1000000 * a := Int.mul_le_mul_of_nonneg_right (by omega) ha
        omega⟩
      have q2 : 0 ≤ c6 * a * a ∧ c6 * a * a ≤ 1000000 * 1000000 * 1000000 := ⟨Int.mul_nonneg c6a.1 ha, by
        have h1 : c6 * a * a ≤ 1000000 * 1000000 * a := Int.mul_le_mul_of_nonneg_right c6a.2 ha
        omega⟩
      have p2 : powOk b2 3 = true := powOk_of (by decide) (by decide) (by omega)
      obtain ⟨d2, hd2⟩ : ∃ d : Int, d = b2 ^ 3 % 2147483587 := ⟨_, rfl⟩
      refine ⟨d2 / 32 % m, S1, hrun hlen ?_, Int.emod_nonneg _ (by omega), Int.emod_lt_of_pos _ hm0, hsame, hpen⟩
      have m3 : mulOk c3 a = true := mulOk_l (by omega) (by omega)
      have m4 : mulOk 2 a = true := mulOk_l (by omega) (by omega)
      have m5 : mulOk d1 (2 * a + c5) = true := mulOk_l (by omega) (by omega)
      have m6 : mulOk c6 a = true := mulOk_l (by omega) (by omega)
      have m7 : mulOk (c6 * a) a = true := mulOk_l (by omega) (by omega)
      have d32 : divOk 32 = true := by decide
      have tail : (sSeq (sSet 6 (bin (modG) (cal intB (aCons (bin (powG) (bin (addG) (bin (addG) (bin (modG) (cal intB (aCons (v 4) (aNil))) (k (.int 2147483549))) (bin (mulG) (k (.int c3)) (v 3))) (k (.int c4))) (k (.int 5))) (aNil))) (k (.int 2147483629)))) (sSeq (sSet 6 (bin (modG) (cal intB (aCons (bin (powG) (bin (addG) (bin (addG) (bin (mulG) (v 6) (bin (addG) (bin (mulG) (k (.int 2)) (v 3)) (k (.int c5)))) (bin (mulG) (bin (mulG) (k (.int c6)) (v 3)) (v 3))) (k (.int c7))) (k (.int 3))) (aNil))) (k (.int 2147483587)))) (sSeq (sRet (bin (modG) (cal intB (aCons (bin (fdivG) (v 6) (k (.int 32))) (aNil))) (v 1))) (sNil)))) [some (.loc p), some (.int m), none, some (.int a), some (.int x), none, none] S1 = .ok (.rt (.int (d2 / 32 % m))) S1 := by
        simp [sSeq, sSet, bin, v, k, Out.bind, cal, aCons, aNil, intB, modG, mulG, m3, addG, ← hb1, powG, p1, ← hd1, m4, m5, m6, m7, ← hb2, p2, ← hd2, fdivG, d32, hm0, sRet]
      have test : (tAn (tst (bin (ltG) (v 3) (cal lenB (aCons (bin ixG (v 0) (k (.int 0))) (aNil))))) (tst (bin (geG) (cal absB (aCons (v 4) (aNil))) (bin (powG) (k (.int 10)) (k (.int 18)))))) [some (.loc p), some (.int m), none, some (.int a), some (.int x), none, none] S1 = .ok false S1 := by
        by_cases hg1 : a < cs.length
        · have hg2 : ¬ (1000000000000000000 ≤ if x < 0 then -x else x) := fun z => hg ⟨hg1, z⟩
          simp [tAn, tst, bin, v, k, isB, Out.bind, ltG, cal, aCons, aNil, lenB, pen0 hS1, hg1, geG, powG, pw, absB, hg2]
        · simp [tAn, tst, bin, v, k, isB, Out.bind, ltG, cal, aCons, aNil, lenB, pen0 hS1, hg1]
      show fin (Out.bind (Out.bind (tAn _ _ _ _) _) _) = _
      rw [test]
      show fin (sSeq _ _ _ _) = _
      rw [tail]
      rfl
end PV
set_option Elab.async false
set_option linter.all false
set_option maxRecDepth 100000
set_option maxHeartbeats 4000000
namespace PV
open PySem PySem.Spec PyProof.Rows
/-! ### one statement after the other -/
theorem go_nx {a b : MS} {ρ ρ' : Ev} {S S' : Sto} {o : Out D} (h : a ρ S = .ok (.nx ρ') S') (h2 : fin (b ρ' S') = o) : fin (sSeq a b ρ S) = o := by
  unfold sSeq
  rw [h]
  exact h2
theorem go_rt {a b : MS} {ρ : Ev} {S S' : Sto} {d : D} (h : a ρ S = .ok (.rt d) S') : fin (sSeq a b ρ S) = .ok d S' := by
  unfold sSeq
  rw [h]
  rfl
theorem sq_nx {a b : MS} {ρ ρ' : Ev} {S S' : Sto} {o : Out Fl} (h : a ρ S = .ok (.nx ρ') S') (h2 : b ρ' S' = o) : sSeq a b ρ S = o := by
  unfold sSeq
  rw [h]
  exact h2
theorem if_no' {t : MT} {a b : MS} {ρ : Ev} {S S' : Sto} {o : Out Fl} (h : t ρ S = .ok false S') (h2 : b ρ S' = o) : sIf t a b ρ S = o := by
  unfold sIf
  rw [h]
  exact h2
theorem if_yes {t : MT} {a b : MS} {ρ : Ev} {S S' : Sto} {o : Out Fl} (h : t ρ S = .ok true S') (h2 : a ρ S' = o) : sIf t a b ρ S = o := by
  unfold sIf
  rw [h]
  exact h2
theorem or_no {t u : MT} {ρ : Ev} {S S' : Sto} {o : Out Bool} (h : t ρ S = .ok false S') (h2 : u ρ S' = o) : tOr t u ρ S = o := by
  unfold tOr
  rw [h]
  exact h2
theorem an_yes {t u : MT} {ρ : Ev} {S S' : Sto} {o : Out Bool} (h : t ρ S = .ok true S') (h2 : u ρ S' = o) : tAn t u ρ S = o := by
  unfold tAn
  rw [h]
  exact h2
theorem not_tru {e : ME} {ρ : Ev} {S S' : Sto} {b : Bool} (h : e ρ S = .ok (.bl b) S') : tNo (tru e) ρ S = .ok (!b) S' := by
  unfold tNo tru
  rw [h]
  rfl
theorem bin_ok {g : G2} {a b : ME} {ρ : Ev} {S S1 S2 : Sto} {x y : D} {o : Out D} (h1 : a ρ S = .ok x S1) (h2 : b ρ S1 = .ok y S2) (h3 : g x y S2 = o) : bin g a b ρ S = o := by
  unfold bin
  rw [h1]
  show (b ρ S1).bind _ = _
  rw [h2]
  exact h3
theorem una_ok {g : G1} {a : ME} {ρ : Ev} {S S1 : Sto} {x : D} {o : Out D} (h1 : a ρ S = .ok x S1) (h3 : g x S1 = o) : una g a ρ S = o := by
  unfold una
  rw [h1]
  exact h3
theorem cal_ok {F : Fn} {a : MA} {ρ : Ev} {S S1 : Sto} {ds : List D} {o : Out D} (h1 : a ρ S = .ok ds S1) (h3 : F ds S1 = o) : cal F a ρ S = o := by
  unfold cal
  rw [h1]
  exact h3
theorem cons_ok {e : ME} {a : MA} {ρ : Ev} {S S1 S2 : Sto} {x : D} {ds : List D} (h1 : e ρ S = .ok x S1) (h2 : a ρ S1 = .ok ds S2) : aCons e a ρ S = .ok (x :: ds) S2 := by
  unfold aCons
  rw [h1]
  show (a ρ S1).bind _ = _
  rw [h2]
  rfl
theorem tst_ok {e : ME} {ρ : Ev} {S S' : Sto} {b : Bool} (h : e ρ S = .ok (.bl b) S') : tst e ρ S = .ok b S' := by
  unfold tst
  rw [h]
  rfl
theorem set_ok {i : Nat} {e : ME} {ρ : Ev} {S S' : Sto} {d : D} (h : e ρ S = .ok d S') : sSet i e ρ S = .ok (.nx (ρ.set i (some d))) S' := by
  unfold sSet
  rw [h]
  rfl
theorem ret_ok {e : ME} {ρ : Ev} {S S' : Sto} {d : D} (h : e ρ S = .ok d S') : sRet e ρ S = .ok (.rt d) S' := by
  unfold sRet
  rw [h]
  rfl
/-! ### how long data is shown -/
def near (z : Str) : Bool := PyData.strOk z
theorem near_iff {z : Str} : near z = true ↔ ∀ c ∈ TL.tl z, c < 0x110000 := by
  unfold near PyData.strOk TL.tl
  rw [← Array.all_toList, List.all_eq_true]
  exact ⟨fun h c hc => of_decide_eq_true (h c hc), fun h c hc => decide_eq_true (h c hc)⟩
mutual
def bd : PyData → Nat
  | .none => 4
  | .bool _ => 5
  | .int _ => 1921
  | .str x => 10 * x.length + 2
  | .list xs => 2 + bdAll xs
  | .tuple xs => 3 + bdAll xs
  | .dict _ => 0
def bdAll : List PyData → Nat
  | [] => 0
  | x :: xs => bd x + 2 + bdAll xs
end
mutual
/-- what is shown within bounds: no dict, no far int, no odd sign -/
def neat : PyData → Bool
  | .none => true
  | .bool _ => true
  | .int i => decide (i.natAbs.log2 < 1920)
  | .str x => near x
  | .list xs => neatAll xs
  | .tuple xs => neatAll xs
  | .dict _ => false
def neatAll : List PyData → Bool
  | [] => true
  | x :: xs => neat x && neatAll xs
end
theorem len_listText (ts : List Str) : (listText ts).length ≤ 2 + piled ts := by
  unfold listText
  rw [strLen_append]
  have e : (("]" : String) : Str).length = 1 := rfl
  rw [e]
  cases ts with
  | nil => decide
  | cons t r =>
    have h : (textFrom 1 (("[" : String) ++ (("" : String) : Str) ++ t) r).length = _ := textFrom_length_pos r 1 _ (by decide)
    have h1 : textFrom 0 (("[" : String) : Str) (t :: r) = textFrom 1 ((("[" : String) : Str) ++ (("" : String) : Str) ++ t) r := rfl
    rw [h1, h, piled_cons, strLen_append, strLen_append]
    have e1 : (("[" : String) : Str).length = 1 := rfl
    have e2 : (("" : String) : Str).length = 0 := rfl
    omega
theorem len_tupleText (ts : List Str) : (tupleText ts).length ≤ 3 + piled ts := by
  unfold tupleText
  rw [strLen_append, strLen_append]
  have e1 : (("(" : String) : Str).length = 1 := rfl
  have e3 : (((if ts.length == 1 then ",)" else ")" : String) : Str)).length ≤ 2 := by split <;> decide
  rw [e1]
  by_cases h : ts = []
  · subst h
    have : (Str.join ((", " : String) : Str) []).length = 0 := rfl
    simp only [piled_nil]
    omega
  · have := join_length_add ts h
    omega
mutual
theorem shown_le : ∀ p : PyData, neat p = true → p.shown.length ≤ bd p
  | .none, _ => by simp [PyData.shown, bd]; decide
  | .bool b, _ => by cases b <;> simp [PyData.shown, bd] <;> decide
  | .int i, h => by
    have h' : i.natAbs.log2 < 1920 := by simpa [neat] using h
    simp only [PyData.shown, bd]
    exact int_text_len_1921 h'
  | .str x, h => by
    simp only [PyData.shown, bd]
    exact StrLaws.reprText_len x fun c hc => by
      have h' : near x = true := by simpa [neat] using h
      have := near_iff.mp h' c hc
      omega
  | .list xs, h => by
    have h' : neatAll xs = true := by simpa [neat] using h
    simp only [PyData.shown, bd]
    have := len_listText (PyData.shownAll xs)
    have := shownAll_le xs h'
    omega
  | .tuple xs, h => by
    have h' : neatAll xs = true := by simpa [neat] using h
    simp only [PyData.shown, bd]
    have := len_tupleText (PyData.shownAll xs)
    have := shownAll_le xs h'
    omega
  | .dict _, h => by simp [neat] at h
theorem shownAll_le : ∀ xs : List PyData, neatAll xs = true → piled (PyData.shownAll xs) ≤ bdAll xs
  | [], _ => by simp [PyData.shownAll, bdAll, piled_nil]
  | x :: xs, h => by
    have h' : neat x = true ∧ neatAll xs = true := by simpa [neatAll] using h
    have a := shown_le x h'.1
    have b := shownAll_le xs h'.2
    simp only [PyData.shownAll, bdAll, piled_cons]
    omega
end
mutual
theorem neat_showable : ∀ p : PyData, neat p = true → p.showable = true ∧ p.hasDict = false
  | .none, _ => by simp [PyData.showable, PyData.hasDict]
  | .bool b, _ => by simp [PyData.showable, PyData.hasDict]
  | .int i, h => by
    have h' : i.natAbs.log2 < 1920 := by simpa [neat] using h
    simp [PyData.showable, PyData.hasDict, h']
  | .str x, h => by simp [PyData.showable, PyData.hasDict]
  | .list xs, h => by
    have h' : neatAll xs = true := by simpa [neat] using h
    have := neatAll_showable xs h'
    simp only [PyData.showable, PyData.hasDict]
    exact this
  | .tuple xs, h => by
    have h' : neatAll xs = true := by simpa [neat] using h
    have := neatAll_showable xs h'
    simp only [PyData.showable, PyData.hasDict]
    exact this
  | .dict _, h => by simp [neat] at h
theorem neatAll_showable : ∀ xs : List PyData, neatAll xs = true → PyData.showableAll xs = true ∧ PyData.hasDictAll xs = false
  | [], _ => by simp [PyData.showableAll, PyData.hasDictAll]
  | x :: xs, h => by
    have h' : neat x = true ∧ neatAll xs = true := by simpa [neatAll] using h
    have a := neat_showable x h'.1
    have b := neatAll_showable xs h'.2
    simp [PyData.showableAll, PyData.hasDictAll, a.1, a.2, b.1, b.2]
end
theorem reprOk_of {p : PyData} (h : neat p = true) (hd : p.depth ≤ 60) (hb : bd p ≤ 16777216) : reprOk p = true := by
  have a := neat_showable p h
  have b := shown_le p h
  have e : sizeLine = 16777216 := by decide
  unfold reprOk
  rw [a.1, a.2, decide_eq_true hd, decide_eq_true (by rw [e]; omega)]
  rfl
theorem neat_ints : ∀ ns : List Int, (∀ n ∈ ns, n.natAbs.log2 < 1920) → neatAll (ns.map .int) = true
  | [], _ => by simp [neatAll]
  | n :: ns, h => by
    have a := h n List.mem_cons_self
    have b := neat_ints ns fun m hm => h m (List.mem_cons_of_mem _ hm)
    simp [neatAll, neat, a, b]
theorem bd_ints : ∀ ns : List Int, bdAll (ns.map .int) = 1923 * ns.length
  | [] => by simp [bdAll]
  | n :: ns => by
    have b := bd_ints ns
    simp only [List.map_cons, bdAll, bd, b, List.length_cons]
    omega
theorem neat_bls : ∀ ns : List Bool, neatAll (ns.map .bool) = true
  | [] => by simp [neatAll]
  | n :: ns => by simp [neatAll, neat, neat_bls ns]
theorem bd_bls : ∀ ns : List Bool, bdAll (ns.map .bool) = 7 * ns.length
  | [] => by simp [bdAll]
  | n :: ns => by
    have b := bd_bls ns
    simp only [List.map_cons, bdAll, bd, b, List.length_cons]
    omega
theorem depth_bls : ∀ ns : List Bool, PyData.depthAll (ns.map PyData.bool) = 0
  | [] => by simp [PyData.depthAll]
  | n :: ns => by simp [PyData.depthAll, PyData.depth, depth_bls ns]
theorem toPs_bls : ∀ ns : List Bool, toPs (ns.map .bl) = some (ns.map .bool)
  | [] => by simp [toPs]
  | n :: ns => by simp [toPs, toP, toPs_bls ns]
/-- truths are shown -/
theorem repr_bls (bs : List Bool) (hl : bs.length ≤ 100000) (S : Sto) : reprB [.lst (bs.map .bl)] S = .ok (.str (PyData.list (bs.map .bool)).shown) S := by
  have e : reprOk (.list (bs.map .bool)) = true := reprOk_of (by simp [neat, neat_bls]) (by simp [PyData.depth, depth_bls]) (by simp only [bd, bd_bls]; omega)
  simp only [reprB, toP, toPs_bls, Option.map_some, e, if_true]
/-! ### texts -/
theorem eqD_str (a b : Str) : eqD (.str a) (.str b) = some (decide (a = b)) := rfl
theorem shaped_str {a : Str} (h : near a = true) : SeqAt.shaped (.str a) = true := by
  have h' : PyData.strOk a = true := h
  simp [SeqAt.shaped, PyData.canLay0, PyData.depth, h']
theorem eqD_strs {a b : Str} (ha : near a = true) (hb : near b = true) : eqD (.str a) (.str b) = some (decide (a = b)) := rfl
theorem near_join {y : Str} (hy : near y = true) : ∀ {ps : List Str}, (∀ p ∈ ps, near p = true) → near (Txt.join y ps) = true := by
  intro ps h
  rw [TL.join_eq, near_iff, TL.tl_join]
  have go : ∀ qs : List (List Nat), (∀ q ∈ qs, ∀ c ∈ q, c < 0x110000) → ∀ c ∈ TL.joinL (TL.tl y) qs, c < 0x110000 := by
    intro qs
    induction qs with
    | nil => intro _ c hc; cases hc
    | cons q qs ih =>
      intro hq c hc
      cases qs with
      | nil => exact hq q List.mem_cons_self c hc
      | cons q2 qs =>
        have hc' : c ∈ q ++ (TL.tl y ++ TL.joinL (TL.tl y) (q2 :: qs)) := hc
        rcases List.mem_append.mp hc' with h1 | h1
        · exact hq q List.mem_cons_self c h1
        · rcases List.mem_append.mp h1 with h2 | h2
          · exact near_iff.mp hy c h2
          · exact ih (fun z hz => hq z (List.mem_cons_of_mem _ hz)) c h2
  refine go _ fun q hq => ?_
  obtain ⟨p, hp, rfl⟩ := List.mem_map.mp hq
  exact near_iff.mp (h p hp)
theorem len_join (y : Str) : ∀ ps : List Str, (Txt.join y ps).length ≤ (ps.map (·.length)).sum + ps.length * y.length := by
  intro ps
  rw [TL.join_eq, TL.len_tl, TL.tl_join]
  induction ps with
  | nil => simp [TL.joinL]
  | cons p ps ih =>
    cases ps with
    | nil => simp [TL.joinL, TL.len_tl]
    | cons q qs =>
      have e : TL.joinL (TL.tl y) ((p :: q :: qs).map TL.tl) = TL.tl p ++ (TL.tl y ++ TL.joinL (TL.tl y) ((q :: qs).map TL.tl)) := rfl
      rw [e, List.length_append, List.length_append]
      have l1 := TL.len_tl p
      have l2 := TL.len_tl y
      simp only [List.map_cons, List.sum_cons, List.length_cons] at ih ⊢
      have : (qs.length + 1 + 1) * y.length = (qs.length + 1) * y.length + y.length := Nat.succ_mul ..
      omega
theorem depthAll_cons (x : PyData) (xs : List PyData) : PyData.depthAll (x :: xs) = max x.depth (PyData.depthAll xs) := by simp [PyData.depthAll]
/-! ### digits -/
theorem digit_cases {n : Int} (h0 : 0 ≤ n) (h5 : n ≤ 5) : n = 0 ∨ n = 1 ∨ n = 2 ∨ n = 3 ∨ n = 4 ∨ n = 5 := by omega
theorem str_digit {n : Int} (h : 0 ≤ n ∧ n ≤ 5) (S : Sto) : strB [.int n] S = .ok (.str (strOf n)) S := by
  rcases digit_cases h.1 h.2 with rfl | rfl | rfl | rfl | rfl | rfl <;> rfl
theorem log_digit {n : Int} (h : 0 ≤ n ∧ n ≤ 5) : n.natAbs.log2 < 1920 := by
  rcases digit_cases h.1 h.2 with rfl | rfl | rfl | rfl | rfl | rfl <;> decide
theorem len_digit {n : Int} (h : 0 ≤ n ∧ n ≤ 5) : (strOf n).length = 1 := by
  rcases digit_cases h.1 h.2 with rfl | rfl | rfl | rfl | rfl | rfl <;> decide
theorem near_digit {n : Int} (h : 0 ≤ n ∧ n ≤ 5) : ∀ c ∈ TL.tl (strOf n), c ≠ 32 ∧ c < 256 := by
  rcases digit_cases h.1 h.2 with rfl | rfl | rfl | rfl | rfl | rfl <;> decide
theorem int_digit {n : Int} (h : 0 ≤ n ∧ n ≤ 5) (S : Sto) : intB [.str (strOf n)] S = .ok (.int n) S := by
  have e : PySem.intText? (strOf n) = some n := PySem.W.KIN.num_reads h.1 (by omega)
  have l : (strOf n).length ≤ 640 := by rw [len_digit h]; decide
  simp only [intB, e, l, if_true]
end PV
set_option Elab.async false
set_option linter.all false
set_option maxRecDepth 100000
set_option maxHeartbeats 4000000
namespace PV
open PySem PySem.Spec PyProof.Rows
theorem lst_ok {a : MA} {ρ : Ev} {S S1 : Sto} {ds : List D} (h : a ρ S = .ok ds S1) (hl : ds.length ≤ 1000) : lstE a ρ S = .ok (.lst ds) S1 := by
  unfold lstE
  rw [h]
  show (if ds.length ≤ 1000 then _ else _) = _
  rw [if_pos hl]
theorem tup_ok {a : MA} {ρ : Ev} {S S1 : Sto} {ds : List D} (h : a ρ S = .ok ds S1) (hl : ds.length ≤ 1000) : tupE a ρ S = .ok (.tup ds) S1 := by
  unfold tupE
  rw [h]
  show (if ds.length ≤ 1000 then _ else _) = _
  rw [if_pos hl]
theorem lstM_ok {a : MA} {ρ : Ev} {S S1 : Sto} {ds : List D} (h : a ρ S = .ok ds S1) (hl : ds.length ≤ 1000) : lstM a ρ S = .ok (.loc S1.length) (S1 ++ [.lst ds]) := by
  unfold lstM
  rw [h]
  show (if ds.length ≤ 1000 then _ else _) = _
  rw [if_pos hl]
theorem exp_ok {e : ME} {ρ : Ev} {S S' : Sto} {d : D} (h : e ρ S = .ok d S') : sExp e ρ S = .ok (.nx ρ) S' := by
  unfold sExp
  rw [h]
  rfl
theorem or_yes {t u : MT} {ρ : Ev} {S S' : Sto} (h : t ρ S = .ok true S') : tOr t u ρ S = .ok true S' := by
  unfold tOr
  rw [h]
  rfl
theorem an_no {t u : MT} {ρ : Ev} {S S' : Sto} (h : t ρ S = .ok false S') : tAn t u ρ S = .ok false S' := by
  unfold tAn
  rw [h]
  rfl
theorem no_ok {t : MT} {ρ : Ev} {S S' : Sto} {b : Bool} (h : t ρ S = .ok b S') : tNo t ρ S = .ok (!b) S' := by
  unfold tNo
  rw [h]
  rfl
theorem tru_ok {e : ME} {ρ : Ev} {S S' : Sto} {b : Bool} (h : e ρ S = .ok (.bl b) S') : tru e ρ S = .ok b S' := by
  unfold tru
  rw [h]
  rfl
theorem anE_yes {a b : ME} {ρ : Ev} {S S' : Sto} {o : Out D} (h : a ρ S = .ok (.bl true) S') (h2 : b ρ S' = o) : anE a b ρ S = o := by
  unfold anE
  rw [h]
  exact h2
theorem anE_no {a b : ME} {ρ : Ev} {S S' : Sto} (h : a ρ S = .ok (.bl false) S') : anE a b ρ S = .ok (.bl false) S' := by
  unfold anE
  rw [h]
  rfl
theorem ifE_yes {t : MT} {a b : ME} {ρ : Ev} {S S' : Sto} {o : Out D} (h : t ρ S = .ok true S') (h2 : a ρ S' = o) : ifE t a b ρ S = o := by
  unfold ifE
  rw [h]
  exact h2
theorem ifE_no {t : MT} {a b : ME} {ρ : Ev} {S S' : Sto} {o : Out D} (h : t ρ S = .ok false S') (h2 : b ρ S' = o) : ifE t a b ρ S = o := by
  unfold ifE
  rw [h]
  exact h2
theorem cm_ok {c : String} {F : Fn} {o : ME} {a : MA} {ρ : Ev} {S S1 S2 : Sto} {ds : List D} {r : Out D} (h : o ρ S = .ok (.cls c) S1) (h2 : a ρ S1 = .ok ds S2) (h3 : F (.cls c :: ds) S2 = r) : cmE c F o a ρ S = r := by
  unfold cmE
  rw [h]
  show (if isCl c (.cls c) = true then _ else _) = _
  rw [if_pos (by simp [isCl]), h2]
  exact h3
theorem sli_ok {m : ME} {l h : MO} {ρ : Ev} {S S1 S2 S3 : Sto} {x : D} {lo hi : Option Int} {r : Out D} (h1 : m ρ S = .ok x S1) (h2 : l ρ S1 = .ok lo S2) (h3 : h ρ S2 = .ok hi S3) (h4 : slG x lo hi S3 = r) : sli m l h ρ S = r := by
  unfold sli
  rw [h1]
  show (l ρ S1).bind _ = _
  rw [h2]
  show (h ρ S2).bind _ = _
  rw [h3]
  exact h4
theorem par_ok {i j : Nat} {a : MA} {ρ : Ev} {S S1 : Sto} {x y : D} (h : a ρ S = .ok [x, y] S1) : sPar i j a ρ S = .ok (.nx ((ρ.set i (some x)).set j (some y))) S1 := by
  unfold sPar
  rw [h]
  rfl
theorem asg_ok {T : Tg} {e : ME} {ρ ρ' : Ev} {S S1 : Sto} {d : D} (h : e ρ S = .ok d S1) (h2 : setT T d ρ = some ρ') : sAsg T e ρ S = .ok (.nx ρ') S1 := by
  unfold sAsg
  rw [h]
  simp only [Out.bind, h2]
theorem aug_ok {i : Nat} {g : G2} {m : ME} {ρ : Ev} {S S1 S2 : Sto} {x y z : D} (h : ρ[i]? = some (some x)) (h1 : m ρ S = .ok y S1) (h2 : g x y S1 = .ok z S2) : sAug i g m ρ S = .ok (.nx (ρ.set i (some z))) S2 := by
  unfold sAug
  simp only [h, h1, h2, Out.bind]
def getF (ns : List Int) : D → D
  | .int i => .int (ns.getD i.toNat 0)
  | d => d
theorem okLen_ok {n : Int} {S : Sto} (h0 : 0 ≤ n) (h1 : n < 2 ^ 63) : okLen (.ok (.int n) S) = .ok (.int n) S := if_pos ⟨h0, h1⟩
theorem ups_items (ns : List Int) : (ups 0 ns.length).map (getF ns) = ns.map .int := by
  unfold ups
  rw [List.map_map]
  apply List.ext_getElem
  · simp
  · intro i h1 h2
    have hi : i < ns.length := by simpa using h2
    simp [hi, getF]
theorem ups_mem {lo : Int} {n : Nat} {x : D} (h : x ∈ ups lo n) : ∃ i : Int, x = .int i ∧ lo ≤ i ∧ i < lo + n := by
  unfold ups at h
  obtain ⟨j, hj, rfl⟩ := List.mem_map.mp h
  have := List.mem_range.mp hj
  exact ⟨_, rfl, by omega, by omega⟩
theorem ups_at {lo : Int} {n j : Nat} {x : D} (h : (ups lo n)[j]? = some x) : x = .int (lo + (j : Nat)) ∧ j < n := by
  unfold ups at h
  rw [List.getElem?_map] at h
  obtain ⟨i, hi, rfl⟩ := Option.map_eq_some_iff.mp h
  obtain ⟨h1, h2⟩ := List.getElem?_eq_some_iff.mp hi
  simp at h1 h2
  subst h2
  exact ⟨rfl, h1⟩
theorem ups_len (lo : Int) (n : Nat) : (ups lo n).length = n := by simp [ups]
theorem r1_ok {a : MA} {ρ : Ev} {S S1 : Sto} {j : Int} (h : a ρ S = .ok [.int j] S1) (h2 : near62 j = true) : iR1 a ρ S = .ok (ups 0 j.toNat, none) S1 := by
  unfold iR1
  rw [h]
  show (if near62 j = true then _ else _) = _
  rw [if_pos h2]
theorem r2_ok {a : MA} {ρ : Ev} {S S1 : Sto} {i j : Int} (h : a ρ S = .ok [.int i, .int j] S1) (h2 : near62 i = true) (h3 : near62 j = true) : iR2 a ρ S = .ok (ups i (j - i).toNat, none) S1 := by
  unfold iR2
  rw [h]
  show (if near62 i = true ∧ near62 j = true then _ else _) = _
  rw [if_pos ⟨h2, h3⟩]
theorem near62_of {j : Int} (h : 0 ≤ j) (h2 : j ≤ 1000000) : near62 j = true := by
  unfold near62
  exact decide_eq_true (by omega)
theorem len_lst {α : Type} (f : α → D) (ns : List α) (S : Sto) : lenB [.lst (ns.map f)] S = .ok (.int ns.length) S := by
  show Out.ok (D.int (ns.map f).length) S = _
  rw [List.length_map]
theorem len_tup {α : Type} (f : α → D) (ns : List α) (S : Sto) : lenB [.tup (ns.map f)] S = .ok (.int ns.length) S := by
  show Out.ok (D.int (ns.map f).length) S = _
  rw [List.length_map]
end PV
set_option Elab.async false
set_option linter.all false
set_option maxRecDepth 100000
set_option maxHeartbeats 4000000
namespace PV
open PySem PySem.Spec PyProof.Rows
theorem sq_rt {a b : MS} {ρ : Ev} {S S' : Sto} {d : D} (h : a ρ S = .ok (.rt d) S') : sSeq a b ρ S = .ok (.rt d) S' := by
  unfold sSeq
  rw [h]
  rfl
/-- a comprehension by an invariant that counts -/
theorem lcL_invN {T : Tg} {e : ME} {all : List D} {ρ : Ev} (N : Nat) (W : Nat → List D → Sto → Prop) : ∀ (xs : List D) (S : Sto) (n : Nat) (acc : List D), n + xs.length ≤ N → W n acc S → (∀ x ∈ xs, ∀ n acc S, n < N → W n acc S → ∃ ρ1 d S', setT T x ρ = some ρ1 ∧ e ρ1 S = .ok d S' ∧ W (n + 1) (acc ++ [d]) S') → ∃ ds S', lcL T tYs e none all ρ xs S = .ok ds S' ∧ W (n + xs.length) (acc ++ ds) S'
  | [], S, n, acc, _, h, _ => ⟨[], S, by unfold lcL; rw [if_pos (show Gd none all S from trivial)], by rw [List.append_nil]; exact h⟩
  | x :: xs, S, n, acc, hN, h, hs => by
    rw [List.length_cons] at hN
    obtain ⟨ρ1, d, S', h1, h2, h3⟩ := hs x List.mem_cons_self n acc S (by omega) h
    obtain ⟨ds, S2, h4, h5⟩ := lcL_invN (all := all) N W xs S' (n + 1) (acc ++ [d]) (by omega) h3 fun y hy => hs y (List.mem_cons_of_mem _ hy)
    refine ⟨d :: ds, S2, ?_, ?_⟩
    · unfold lcL
      rw [if_pos (show Gd none all S from trivial)]
      simp only [h1, show ∀ ρ S, tYs ρ S = .ok true S from fun _ _ => rfl, h2, h4]
    · rw [List.append_assoc] at h5
      rw [List.length_cons, show n + (xs.length + 1) = n + 1 + xs.length by omega]
      exact h5
theorem lc_invN {T : Tg} {it : MI} {e : ME} {ρ : Ev} {S S1 : Sto} {xs : List D} (W : Nat → List D → Sto → Prop) (hi : it ρ S = .ok (xs, none) S1) (hl : xs.length ≤ 1000) (h0 : W 0 [] S1) (hs : ∀ x ∈ xs, ∀ n acc S, n < xs.length → W n acc S → ∃ ρ1 d S', setT T x (wipeD ρ T.slots) = some ρ1 ∧ e ρ1 S = .ok d S' ∧ W (n + 1) (acc ++ [d]) S') :
    ∃ ds S', lcE T it tYs e ρ S = .ok (.lst ds) S' ∧ W xs.length ds S' := by
  obtain ⟨ds, S', h1, h2⟩ := lcL_invN (all := xs) (ρ := wipeD ρ T.slots) xs.length W xs S1 0 [] (by simp) h0 hs
  refine ⟨ds, S', ?_, by simpa using h2⟩
  unfold lcE lcO
  rw [hi]
  show (Out.bind (if xs.length ≤ 1000 then lcL T tYs e none xs (wipeD ρ T.slots) xs S1 else .no) _) = _
  rw [if_pos hl, h1]
  rfl
theorem Pen.set {S : Sto} {p m : Nat} {B : Int} {c : Cell} (h : Pen S p B) (hm : m ≠ p) : Pen (S.set m c) p B := by
  obtain ⟨cs, a, r, h1, h2⟩ := h
  exact ⟨cs, a, r, by rw [List.getElem?_set_ne hm]; exact h1, h2⟩
theorem run_nil {np n : Nat} {b : MS} {ds : List D} {S' : Sto} {d : D} (hl : ds.length = np) (hd : d.und 0 = true) (h : fin (b (ds.map some ++ List.replicate (n - np) none) []) = .ok d S') : dfn np n b ds [] = .ok d [] := by
  classical
  unfold dfn
  rw [if_pos hl, h]
  unfold gcO
  simp only
  rw [if_pos ⟨hd, fun i c hi => absurd hi (Nat.not_lt_zero i)⟩]
  rfl
/-- x[:63] of a script -/
theorem cut63 {α : Type} (cs : List α) (h : cs.length ≤ 63) : cutD cs none (some 63) = cs := by
  refine cutD_whole ⟨rfl, ?_⟩
  unfold HT.sIx
  simp only [show ¬ ((63 : Int) < 0) by decide, if_false]
  exact Nat.min_eq_right h
/-- [list(script[:63]), 0, 0] -/
theorem pen_ok {cs : List Int} (h : cs.length ≤ 63) : dfn 1 1 (sSeq (sRet (lstM (aCons (cal listB (aCons (sli (v 0) (oNo) (oSo (k (.int 63)))) (aNil))) (aCons (k (.int 0)) (aCons (k (.int 0)) (aNil)))))) (sNil)) [.src (cs.map .int)] [] = .ok (.loc 0) [penC cs 0 0] := by
  have e : fin (sSeq (sRet (lstM (aCons (cal listB (aCons (sli (v 0) (oNo) (oSo (k (.int 63)))) (aNil))) (aCons (k (.int 0)) (aCons (k (.int 0)) (aNil)))))) (sNil) [some (.src (cs.map .int))] []) = .ok (.loc 0) [penC cs 0 0] :=
    go_rt (ret_ok (lstM_ok (S1 := []) (cons_ok (cal_ok (cons_ok (sli_ok rfl rfl rfl (show slG (.src (cs.map .int)) none (some 63) [] = .ok (.lst (cs.map .int)) [] by
      show Out.ok (D.lst (cutD (cs.map D.int) none (some 63))) [] = _
      rw [cut63 _ (by simpa using h)])) rfl) rfl) (cons_ok rfl (cons_ok rfl rfl))) (by show 3 ≤ 1000; decide)))
  unfold dfn
  rw [if_pos (show [D.src (List.map D.int cs)].length = 1 from rfl)]
  refine (congrArg (gcO []) e).trans ?_
  classical
  unfold gcO
  simp only
  exact if_neg (fun z => by
    have := z.1
    simp [D.und] at this)
theorem max_ok : ∀ {ns : List Int}, ns ≠ [] → greatest ns ∈ ns ∧ ∀ n ∈ ns, n ≤ greatest ns
  | [], h => absurd rfl h
  | [n], _ => by simp [greatest]
  | n :: m :: ns, _ => by
    have ih := max_ok (ns := m :: ns) (by simp)
    unfold greatest
    split
    · rename_i h
      exact ⟨List.mem_cons_of_mem _ ih.1, fun x hx => by
        rcases List.mem_cons.mp hx with rfl | hx
        · omega
        · exact ih.2 x hx⟩
    · rename_i h
      exact ⟨List.mem_cons_self, fun x hx => by
        rcases List.mem_cons.mp hx with rfl | hx
        · omega
        · have := ih.2 x hx
          omega⟩
end PV
set_option Elab.async false
set_option linter.all false
set_option maxRecDepth 100000
set_option maxHeartbeats 4000000
/-! a law's end where tables of code objects grow (lambdas), called where no repr is running -/
namespace ZL
open PySem PySem.Spec PyProof.Rows L2
section
variable {P : Program} {w : World} {K : PySem.W.Frag} {mg mb : Str → Option Value} {k : Nat} {fa a : Addr} {sp : Sp} {s₁ : Shared} {vs : List Value} {ns : List Int} {cs : List (Addr × Addr)} {H : Hp}
/-- the tables among cs -/
abbrev tabsOf (cs : List (Addr × Addr)) : List Addr := cs.map (·.2)
/-- nothing but tables and the script is told -/
def OnlyT (cs : List (Addr × Addr)) (H : Hp) : Prop := ∀ b, H b = none ∨ (b ∈ tabsOf cs ∧ H b = some (.tbl #[])) ∨ ∃ o xs, H b = some (.frz o (.lst xs))
theorem ended_ofT (C : ∀ p ∈ cs, PySem.W.CodeHd s₁.heap p.1 p.2) (hO : OnlyT cs H) (hok : HOk P w H s₁.heap) {r : Except Value Flow} {s' : Shared} (h : CR CX0 [] P w H s₁ (fun v _ => v = .bl true) (fun _ _ _ => False) r s') : ended s₁ r s' := by
  match r, h with
  | .error _, h => exact False.elim h
  | .ok .next, h => exact False.elim h
  | .ok .brk, h => exact False.elim h
  | .ok .cont, h => exact False.elim h
  | .ok (.ret u), h =>
    obtain ⟨v, H', os, bare, un, hok', r', q⟩ := h
    have q' : v = .bl true := q
    subst q'
    have r2 : u = Value.bool true := r'
    have two : ∀ b o, s₁.heap.get? b = some o → s'.heap.get? b = some o ∨ (b ∈ tabsOf cs ∧ o = { cls := .none, data := .fields #[] } ∧ ∃ more : Array Value, s'.heap.get? b = some { cls := .none, data := .fields more }) := fun b o e => by
      rcases hO b with z | ⟨zm, z⟩ | ⟨ob, xs, z⟩
      · exact .inl (un.keep b o e z (fun y => nomatch y) (fun y => nomatch y))
      · have e1 : s₁.heap.get? b = some { cls := .none, data := .fields #[] } := hok b _ z
        rw [e] at e1
        obtain ⟨more, zz⟩ := un.tbls b #[] z
        exact .inr ⟨zm, Option.some.inj e1, _, hok' b _ zz⟩
      · have e1 := (hok b _ z).1
        rw [e] at e1
        exact .inl (by rw [Option.some.inj e1]; exact (hok' b _ (un.frzs b ob _ z)).1)
    refine ⟨by rw [r2], ⟨fun b o e => ?_, fun b o e => ?_⟩, os, bare⟩
    · rcases two b o e with z | ⟨zm, ze, more, z⟩
      · exact .inl z
      · subst ze
        obtain ⟨p, hp, rfl⟩ := List.mem_map.mp zm
        exact .inr (.inl ⟨((C p hp).tab e).isCodeTable, rfl, #[], more, rfl, by rw [Array.empty_append]; exact z⟩)
    · rcases two b o e with z | ⟨_, _, more, z⟩
      · exact ⟨o, z⟩
      · exact ⟨_, z⟩
theorem lawT_core (KX : K.In s₁.heap) (hns : s₁.heap.Ns mainGlobals mg) (hb : s₁.heap.Ns builtinsNs mb) (hbb : ∀ x : Str, x ≠ "__name__" → mb x = bootBuiltins x) (hlim : s₁.heap.NoLimit) (hg : s₁.gens = #[])
    (hbm : ∃ (bm : Addr) (ob : Obj), mg "__builtins__" = some (.ref bm) ∧ bm ≠ builtinsNs ∧ s₁.heap.get? bm = some ob ∧ ob.cls = .type "module" ∧ ob.dict = some builtinsNs ∧ ob.data = .plain) (C : ∀ p ∈ cs, PySem.W.CodeHd s₁.heap p.1 p.2) (hT : ∀ p ∈ cs, s₁.heap.get? p.2 = some { cls := .none, data := .fields #[] })
    (hr : Room k callerA) (F : ∀ base : Heap, K.In base → base.Ns mainGlobals mg → (∀ p ∈ cs, LamX.TabB base mg p.1 p.2) → FnRG P w K mg base CX0 k fa sp) (hO : OnlyT cs H) (hok : HOk P w H s₁.heap)
    (hK : ∀ b o, K.lookup b = some o → H b = none) (hD : ∀ b o es ep, s₁.heap.get? b = some o → o.data = .dict es ep → H b = none) (hC : ∀ b o, s₁.heap.get? b = some o → (o.cls = .type "code" ∨ o.cls = .type "module") → H b = none)
    (h : sp [.ref a] H (fun v _ => v = .bl true) fun _ _ _ => False) : codeAny (model P w) callerA (.call (.ref fa) ⟨[.ref a], []⟩) (ended s₁) s₁ := by
  have nsK : ∀ {b : Addr} {m : Str → Option Value}, s₁.heap.Ns b m → (hidT s₁.heap H).Ns b m := fun {b m} z => by
    obtain ⟨o, es, ep, e, d, r⟩ := z
    exact ⟨o, es, ep, hidT_get e (hD b o es ep e d), d, r⟩
  have hKb : K.In (hidT s₁.heap H) := fun b o e => hidT_get (KX b o e) (hK b o e)
  obtain ⟨mc, l1, l2⟩ := hlim
  have TB : ∀ p ∈ cs, LamX.TabB (hidT s₁.heap H) mg p.1 p.2 := fun p hp => by
    obtain ⟨bm, ob, b1, b2, b3, b4, b5, b6⟩ := id hbm
    obtain ⟨og, esg, epg, eg, dg, _⟩ := id hns
    have tp := hT p hp
    obtain ⟨oc, us, file, tf, flags, tg, inF, text, tt, c1, c2, c3⟩ := C p hp
    refine ⟨⟨oc, us, file, tf, flags, tg, inF, text, tt, hidT_get c1 (hC _ _ c1 (.inl c2)), c2, c3⟩, ⟨bm, ob, b1, b2, fun z => ?_, fun z => ?_, hidT_get b3 (hC _ _ b3 (.inr b4)), b4, b5, b6⟩, fun z => ?_⟩
    · rw [z, eg] at b3
      rw [Option.some.inj b3, b6] at dg
      cases dg
    · rw [z, tp] at b3
      rw [← Option.some.inj b3] at b6
      cases b6
    · rw [z, tp] at eg
      rw [← Option.some.inj eg] at dg
      cases dg
  have e0 : Env0 P w K mg (hidT s₁.heap H) callerA [] s₁ H := ⟨rfl, ⟨hKb, nsK hns, ⟨mb, nsK hb, hbb⟩, ⟨mc, nsK l1, l2⟩⟩, fun b o e => of_hidT e, Nat.le_of_eq (hidT_size _ _), trivial, fun b z => (nomatch (show b ∈ ([] : List Addr) from z)), hok, .of_eq hg⟩
  exact codeAny_mono (F _ hKb (nsK hns) TB callerA [] s₁ H [.ref a] [.ref a] _ _ rfl hr e0 (.cons rfl .nil) h) fun r s' z => ended_ofT C hO hok z
theorem law_callT (KX : K.In s₁.heap) (hns : s₁.heap.Ns mainGlobals mg) (hb : s₁.heap.Ns builtinsNs mb) (hbb : ∀ x : Str, x ≠ "__name__" → mb x = bootBuiltins x) (hlim : s₁.heap.NoLimit) (hg : s₁.gens = #[])
    (hbm : ∃ (bm : Addr) (ob : Obj), mg "__builtins__" = some (.ref bm) ∧ bm ≠ builtinsNs ∧ s₁.heap.get? bm = some ob ∧ ob.cls = .type "module" ∧ ob.dict = some builtinsNs ∧ ob.data = .plain) (C : ∀ p ∈ cs, PySem.W.CodeHd s₁.heap p.1 p.2) (hT : ∀ p ∈ cs, s₁.heap.get? p.2 = some { cls := .none, data := .fields #[] }) (nT : ∀ p ∈ cs, K.lookup p.2 = none)
    (ha : s₁.heap.get? a = some { cls := .type "list", data := .seq vs.toArray }) (hi : IntsAre vs ns) (hl : ns.length ≤ sizeLine) (hr : Room k callerA)
    (F : ∀ base : Heap, K.In base → base.Ns mainGlobals mg → (∀ p ∈ cs, LamX.TabB base mg p.1 p.2) → FnRG P w K mg base CX0 k fa sp)
    (hsp : ∀ H : Hp, (∀ p ∈ cs, H p.2 = some (.tbl #[])) → SqL K H a (ns.map V.int) → sp [.ref a] H (fun v _ => v = .bl true) fun _ _ _ => False) :
    codeAny (model P w) callerA (.call (.ref fa) ⟨[.ref a], []⟩) (ended s₁) s₁ := by
  have rv := vals_ints hi
  have isT : ∀ b ∈ tabsOf cs, s₁.heap.get? b = some { cls := .none, data := .fields #[] } ∧ K.lookup b = none := fun b hb => by
    obtain ⟨p, hp, rfl⟩ := List.mem_map.mp hb
    exact ⟨hT p hp, nT p hp⟩
  have aT : a ∉ tabsOf cs := fun z => by
    have q := (isT a z).1
    rw [ha] at q
    have := congrArg Obj.cls (Option.some.inj q)
    cases this
  let o : Obj := { cls := .type "list", data := .seq vs.toArray }
  -- the script is told or not
  have go : ∀ H : Hp, (∀ b ∈ tabsOf cs, H b = some (.tbl #[])) → (∀ b, b ∉ tabsOf cs → b ≠ a → H b = none) → (H a = none ∨ (H a = some (.frz o (.lst (ns.map V.int))) ∧ K.lookup a = none)) → SqL K H a (ns.map V.int) → codeAny (model P w) callerA (.call (.ref fa) ⟨[.ref a], []⟩) (ended s₁) s₁ := fun H h1 h2 h3 h4 => by
    have off : ∀ b, (∀ u, s₁.heap.get? b = some u → u.cls ≠ .none ∧ (b = a → False)) → (∃ u, s₁.heap.get? b = some u) → H b = none := fun b hb hu => by
      obtain ⟨u, hu⟩ := hu
      refine h2 b (fun z => ?_) fun z => (hb u hu).2 z
      have q := (isT b z).1
      rw [hu] at q
      exact (hb u hu).1 (by rw [Option.some.inj q])
    refine lawT_core (H := H) (cs := cs) KX hns hb hbb hlim hg hbm C hT hr F (fun b => ?_) (fun b u z => ?_) (fun b u z => ?_) (fun b u es ep e d => ?_) (fun b u e d => ?_) (hsp H (fun p hp => h1 _ (List.mem_map.mpr ⟨p, hp, rfl⟩)) h4)
    · by_cases q : b ∈ tabsOf cs
      · exact .inr (.inl ⟨q, h1 b q⟩)
      · by_cases q2 : b = a
        · subst q2
          rcases h3 with z | ⟨z, _⟩
          · exact .inl z
          · exact .inr (.inr ⟨_, _, z⟩)
        · exact .inl (h2 b q q2)
    · by_cases q : b ∈ tabsOf cs
      · rw [h1 b q] at z
        have z' := Option.some.inj z
        subst z'
        exact (isT b q).1
      · by_cases q2 : b = a
        · subst q2
          rcases h3 with y | ⟨y, _⟩
          · rw [y] at z
            cases z
          · rw [y] at z
            have z' := Option.some.inj z
            subst z'
            exact ⟨ha, by rw [List.length_map]; exact hl, vs, _, rv, ha⟩
        · rw [h2 b q q2] at z
          cases z
    · by_cases q : b ∈ tabsOf cs
      · rw [(isT b q).2] at z
        cases z
      · by_cases q2 : b = a
        · subst q2
          rcases h3 with y | ⟨_, y⟩
          · exact y
          · rw [y] at z
            cases z
        · exact h2 b q q2
    · by_cases q : b ∈ tabsOf cs
      · rw [(isT b q).1] at e
        rw [← Option.some.inj e] at d
        cases d
      · refine h2 b q fun z => ?_
        rw [z, ha] at e
        rw [← Option.some.inj e] at d
        cases d
    · by_cases q : b ∈ tabsOf cs
      · rw [(isT b q).1] at e
        rw [← Option.some.inj e] at d
        rcases d with d | d <;> cases d
      · refine h2 b q fun z => ?_
        rw [z, ha] at e
        rw [← Option.some.inj e] at d
        rcases d with d | d <;> simp [o] at d
  cases hk : K.lookup a with
  | some u =>
    have e := KX a u hk
    rw [ha] at e
    have e' := (Option.some.inj e).symm
    subst e'
    refine go (fun b => if b ∈ tabsOf cs then some (.tbl #[]) else none) (fun b q => if_pos q) (fun b q _ => if_neg q) (.inl (if_neg aT)) (.inr ⟨_, vs.toArray, _, hk, rfl, rfl, rfl, ?_, ?_⟩)
    · rw [List.size_toArray, hi.length]
      exact hl
    · simpa using rv
  | none =>
    refine go (fun b => if b = a then some (.frz o (.lst (ns.map V.int))) else if b ∈ tabsOf cs then some (.tbl #[]) else none) (fun b q => ?_) (fun b q1 q2 => ?_) (.inr ⟨if_pos rfl, hk⟩) (.inl (.inr ⟨o, if_pos rfl⟩))
    · exact (if_neg fun z => aT (by rw [← z]; exact q)).trans (if_pos q)
    · exact (if_neg q2).trans (if_neg q1)
/-- a law with lambdas, called where no repr is running -/
theorem walk_ofT {l : PySem.W.OpenLaw} {n k : Nat} {q : Program} {loose : List Str} {XP : (Str → Option Value) → Heap → Prop} {YP : World → Heap → Prop} {d : DefRec}
    (hn : l.most = some n) (hn2 : n ≤ sizeLine) (hdf : d.params.defaults = []) (hr : Room k callerA)
    (F : ∀ (w : World) (mg : Str → Option Value) (fa : Addr) (h : Heap), YP w h → h.Ns mainGlobals mg → mg d.name = some (.ref fa) →
      ∃ (K : PySem.W.Frag) (cs : List (Addr × Addr)) (sp : Sp), K.In h ∧ (∀ p ∈ cs, PySem.W.CodeHd h p.1 p.2 ∧ h.get? p.2 = some { cls := .none, data := .fields #[] } ∧ K.lookup p.2 = none) ∧
        (∀ (H : Hp) (a : Addr) (ns : List Int), ns.length ≤ n → (∀ p ∈ cs, H p.2 = some (.tbl #[])) → SqL K H a (ns.map V.int) → sp [.ref a] H (fun v _ => v = .bl true) fun _ _ _ => False) ∧
        ∀ base : Heap, K.In base → base.Ns mainGlobals mg → (∀ p ∈ cs, LamX.TabB base mg p.1 p.2) → FnRG l.prog w K mg base CX0 k fa sp) :
    PySem.W.WalkO q loose XP YP l.row.toRowW d [] (fun f vs => PySem.call f vs) := by
  refine Att.attach_call hn hdf fun w s₀ s₁ mg mb fa o pm cd doc a vs ns G Y ho hd hcd hmg hobj hi hlen hg => ?_
  obtain ⟨K, cs, sp, KX, hcs, hsp, hF⟩ := F w mg fa _ Y G.T.g hmg
  exact law_callT KX G.T.g G.T.b G.T.builtins G.T.nolimit hg G.T.bmain (fun p hp => (hcs p hp).1) (fun p hp => (hcs p hp).2.1) (fun p hp => (hcs p hp).2.2) hobj hi (Nat.le_trans hlen hn2) hr hF fun H hH hS => hsp H a ns hlen hH hS
end
end ZL
set_option Elab.async false
set_option linter.all false
set_option maxRecDepth 100000
set_option maxHeartbeats 4000000
namespace PV
open PySem PySem.Spec PyProof.Rows L2 ZL
/-- what a law promises: nothing is raised, True comes back -/
def spEnd (K : PySem.W.Frag) (F : Fn) : Sp := fun vs H Q _ => spF K F vs H Q fun _ _ _ => False
theorem end_of {P : Program} {w : World} {K : PySem.W.Frag} {mg : Str → Option Value} {base : Heap} {k : Nat} {f : Addr} {F : Fn} (h : FnFG P w K mg base k f F) : FnRG P w K mg base CX0 k f (spEnd K F) := fun A outer s H us vs Q E hgd hr e0 r z =>
  codeAny_mono (h A outer s H us vs Q (fun _ _ _ => False) hgd hr e0 r z) fun r s' c => by
    match r, c with
    | .ok (.ret u), c => exact c
    | .error e, c =>
      obtain ⟨_, _, _, _, _, _, _, _, _, _, _, _, hE⟩ := c
      exact hE.elim
/-- at a script, in an empty store, with the tables told -/
theorem end_atT {K : PySem.W.Frag} {F : Fn} {H : Hp} {a : Addr} {ns : List Int} {S' : Sto} (hS : SqL K H a (ns.map V.int)) (hT : ∀ p ∈ tbs K, H p.1 = some (.tbl #[])) (h : F [.src (ns.map .int)] [] = .ok (.bl true) S') : spEnd K F [.ref a] H (fun v _ => v = .bl true) fun _ _ _ => False := by
  have hS2 : ∃ F0 : Hp, SqL K F0 a (ns.map V.int) ∧ (∀ b o, F0 b = some o → H b = some o) ∧ ∀ b o, F0 b = some o → NoT o := by
    rcases hS with (q | ⟨o, q⟩) | q
    · exact ⟨upd (fun _ => none) a (.lst _), .inl (.inl upd_same), (fun b o e => by
        by_cases z : b = a
        · rw [z, upd_same] at e; rw [z, q, ← e]
        · rw [upd_ne z] at e; cases e), (fun b o e => by
        by_cases z : b = a
        · rw [z, upd_same] at e; cases e; intro _ y; cases y
        · rw [upd_ne z] at e; cases e)⟩
    · exact ⟨upd (fun _ => none) a (.frz o (.lst _)), .inl (.inr ⟨o, upd_same⟩), (fun b o e => by
        by_cases z : b = a
        · rw [z, upd_same] at e; rw [z, q, ← e]
        · rw [upd_ne z] at e; cases e), (fun b o e => by
        by_cases z : b = a
        · rw [z, upd_same] at e; cases e; intro _ y; cases y
        · rw [upd_ne z] at e; cases e)⟩
    · exact ⟨fun _ => none, .inr q, (fun b o e => by cases e), (fun b o e => by cases e)⟩
  obtain ⟨F0, q1, q2, q3⟩ := hS2
  refine ⟨[.src (ns.map .int)], [], ⟨F0, fun _ => none⟩, ⟨q2, (fun n c h => by simp at h), fun n a h => (by cases h), fun n m a h => (by cases h), fun n a h => (by cases h), q3, fun p hp => LamX.TabS.nil (hT p hp)⟩, .cons (.src q1 (Rps.ints ns)) .nil, ?_⟩
  rw [h]
  intro G' H' v _ _ r
  cases r
  rfl
/-- .. where there is none -/
theorem end_at {K : PySem.W.Frag} {F : Fn} {H : Hp} {a : Addr} {ns : List Int} {S' : Sto} (hS : SqL K H a (ns.map V.int)) (hT : tbs K = []) (h : F [.src (ns.map .int)] [] = .ok (.bl true) S') : spEnd K F [.ref a] H (fun v _ => v = .bl true) fun _ _ _ => False :=
  end_atT hS (fun p hp => by rw [hT] at hp; cases hp) h
end PV
set_option Elab.async false
set_option linter.all false
set_option maxRecDepth 100000
set_option maxHeartbeats 4000000
/-! a head's Hook that leaves the tables of some defs out of the written part; defs that hold lambdas -/
namespace ZH
open PySem PySem.W L2
/-- the code object of the def at f, and its table -/
def codeAt (K : Frag) (f : Addr) : Option (Addr × Addr) := match K.lookup f with
  | some ⟨_, _, .func fd, _⟩ => (match fd.code with
    | .ref c => (match K.lookup c with
      | some ⟨_, _, .fields vs, _⟩ => (match (vs[11]? : Option Value) with
        | some (.ref P) => some (c, P)
        | _ => none)
      | _ => none)
    | _ => none)
  | _ => none
def tabA (K : Frag) (lams : List Str) : List Addr := lams.filterMap fun x => (codeAt K (He.ga K x)).map fun p => p.2
def dropT (lams : List Str) (K : Frag) : Frag := K.filter fun p => !((tabA K lams).contains p.1)
abbrev lamQ (x : Str) : Str := x ++ ".<locals>." ++ "<lambda>"
def tab1 (Ka K : Frag) (x : Str) : Bool := match codeAt K (He.ga K x) with
  | some (c, P) => codeHdIn K c P && ((K.lookup P).isNone && ((match Ka.lookup P with
    | some ⟨.none, none, .fields ⟨[]⟩, ⟨[]⟩⟩ => true
    | _ => false) && ((PV.tbs K).any (fun p => decide (p = (P, lamQ x))) && (PV.tbs K).all fun p => !decide (p.1 = P) || decide (p.2 = lamQ x))))
  | none => false
def tabsB (lams : List Str) (Ka K : Frag) : Bool := lams.all (tab1 Ka K) && (PV.tbs K).all fun p => lams.any fun x => decide ((codeAt K (He.ga K x)).map (fun p => p.2) = some p.1)
def obsL (lams : List Str) (chk : Frag → Bool) (fn : List He5.DefA) (Ka : Frag) : He.AlD × Bool := (obsZ chk fn (dropT lams Ka), tabsB lams Ka (dropT lams Ka))
def SaysL (lams : List Str) (chk : Frag → Bool) (fn : List He5.DefA) (Ka : Frag) : Prop := obsL lams chk fn Ka = (He5.valA fn, true)
def obsLG (n : Nat) (lams : List Str) (chk : Frag → Bool) (fn : List He5.DefA) (g : Addr → Option Obj) : He.AlD × Bool := obsL lams chk fn (He.frG g (He5.asA g n))
def hookL (n : Nat) (lams : List Str) (chk : Frag → Bool) (fn : List He5.DefA) : PySem.W.Hook where
  α := He.AlD × Bool
  obs := fun s => obsLG n lams chk fn s.heap.get?
  val := fun _ => ((He5.valA fn, true) : He.AlD × Bool)
  says := fun _ h => ∃ K : Frag, K.In h ∧ SaysL lams chk fn K
  of := fun _ _ e => ⟨_, He.frG_in, e⟩
  keeps := fun _ _ _ z k => z.elim fun K q => ⟨K, Frag.In.keeps q.1 k, q.2⟩
theorem obsLG_eq {n : Nat} {lams : List Str} {chk : Frag → Bool} {fn : List He5.DefA} {g : Addr → Option Obj} {s : Shared} (h : ∀ a, g a = s.heap.get? a) : obsLG n lams chk fn g = (hookL n lams chk fn).obs s := by
  rw [show g = s.heap.get? from funext h] <;> rfl
section
variable {lams : List Str} {chk : Frag → Bool} {fn : List He5.DefA} {Ka K : Frag} {h : Heap}
theorem SaysL.z (c : SaysL lams chk fn Ka) : SaysZ chk fn (dropT lams Ka) := congrArg (fun z : He.AlD × Bool => z.1) c
theorem SaysL.t (c : SaysL lams chk fn Ka) : tabsB lams Ka (dropT lams Ka) = true := congrArg (fun z : He.AlD × Bool => z.2) c
theorem lookup_filter {f : Addr → Bool} : ∀ {l : Frag} {a : Addr} {o : Obj}, (l.filter fun p => f p.1).lookup a = some o → l.lookup a = some o
  | [], _, _, e => e
  | (b, u) :: l, a, o, e => by
    by_cases hf : f b = true
    · rw [List.filter_cons_of_pos (by exact hf)] at e
      rw [List.lookup_cons] at e ⊢
      cases q : a == b with
      | true => rw [q] at e; exact e
      | false => rw [q] at e; exact lookup_filter e
    · rw [List.filter_cons_of_neg (by exact hf)] at e
      have r := lookup_filter e
      rw [List.lookup_cons]
      split
      · rename_i q
        have ab : a = b := eq_of_beq q
        exfalso
        have : ∀ {l : Frag} {o : Obj}, (l.filter fun p => f p.1).lookup a = some o → f a = true := by
          intro l
          induction l with
          | nil => intro o e; cases e
          | cons p l ih =>
            intro o e
            by_cases hp : f p.1 = true
            · rw [List.filter_cons_of_pos (by exact hp), List.lookup_cons] at e
              split at e
              · rename_i q2; rw [eq_of_beq q2]; exact hp
              · exact ih e
            · rw [List.filter_cons_of_neg (by exact hp)] at e
              exact ih e
        exact hf (ab ▸ this e)
      · exact r
theorem dropT_in (X : Ka.In h) : (dropT lams Ka).In h := fun a o e => X a o (lookup_filter (f := fun a => !((tabA Ka lams).contains a)) e)
/-- what is known of the def x that holds lambdas -/
structure LamAt (K : Frag) (h : Heap) (x : Str) (c P : Addr) : Prop where
  code : codeAt K (He.ga K x) = some (c, P)
  hd : CodeHd h c P
  off : K.lookup P = none
  tab : h.get? P = some { cls := .none, data := .fields #[] }
  mem : (P, lamQ x) ∈ PV.tbs K
  one : ∀ p ∈ PV.tbs K, p.1 = P → p.2 = lamQ x
theorem tabs_at (XK : K.In h) (Xa : Ka.In h) (t : tabsB lams Ka K = true) {x : Str} (hx : x ∈ lams) : ∃ c P, LamAt K h x c P := by
  have z := List.all_eq_true.mp (Bool.and_eq_true_iff.mp t).1 x hx
  unfold tab1 at z
  split at z
  · rename_i c P hc
    obtain ⟨z1, z⟩ := Bool.and_eq_true_iff.mp z
    obtain ⟨z2, z⟩ := Bool.and_eq_true_iff.mp z
    obtain ⟨z3, z⟩ := Bool.and_eq_true_iff.mp z
    obtain ⟨z4, z5⟩ := Bool.and_eq_true_iff.mp z
    refine ⟨c, P, hc, codeHd_of_K XK z1, by simpa using z2, ?_, ?_, fun p hp e => ?_⟩
    · split at z3
      · rename_i q
        exact Xa _ _ q
      · cases z3
    · obtain ⟨p, hp, e⟩ := List.any_eq_true.mp z4
      rw [of_decide_eq_true e] at hp
      exact hp
    · have y := List.all_eq_true.mp z5 p hp
      rw [decide_eq_true e] at y
      exact of_decide_eq_true (by simpa using y)
  · cases z
theorem tabs_all (t : tabsB lams Ka K = true) {p : Addr × Str} (hp : p ∈ PV.tbs K) : ∃ x ∈ lams, ∃ c, codeAt K (He.ga K x) = some (c, p.1) := by
  obtain ⟨x, hx, e⟩ := List.any_eq_true.mp (List.all_eq_true.mp (Bool.and_eq_true_iff.mp t).2 p hp)
  obtain ⟨⟨c, P⟩, e1, e2⟩ := Option.map_eq_some_iff.mp (of_decide_eq_true e)
  have e3 : P = p.1 := e2
  subst e3
  exact ⟨x, hx, c, e1⟩
end
end ZH
namespace PV
open PySem PySem.Spec PyProof.Rows L2 ZL
/-- the defs with lambdas, over a base -/
def LamB (K : PySem.W.Frag) (mg : Str → Option Value) (base : Heap) (lams : List Str) : Prop := ∀ x ∈ lams, ∃ c P, ZH.codeAt K (He.ga K x) = some (c, P) ∧ LamX.TabB base mg c P ∧ (P, ZH.lamQ x) ∈ tbs K ∧ ∀ p ∈ tbs K, p.1 = P → p.2 = ZH.lamQ x
/-- how a def's code is known in its body -/
abbrev CodeIs (K : PySem.W.Frag) (f : Addr) (cdv : Value) : Prop := ∀ c P, ZH.codeAt K f = some (c, P) → cdv = .ref c
theorem codeIs_of {K : PySem.W.Frag} {f : Addr} {oc : Value} {od : Option Addr} {fd : FuncData} {osl : Array (Option Value)} (lk : K.lookup f = some ⟨oc, od, .func fd, osl⟩) : CodeIs K f fd.code := fun c P e => by
  unfold ZH.codeAt at e
  rw [lk] at e
  simp only at e
  split at e
  · rename_i c' hc
    split at e
    · split at e
      · cases e; exact hc
      · cases e
    · cases e
  · cases e
section
variable {P : Program} {w : World} {K : PySem.W.Frag} {mg : Str → Option Value} {base : Heap} {x qual : Str} {st : Stmt} {kws : List (Str × V)} {f : Addr} {fd : FuncData} {N ps : List Str} {j : Nat} {b : MS}
/-- okFG with the def's code known -/
theorem okFGL {np n : Nat} (F : FunD K x qual (defArgs st) (defBody st) (defScope st) [] kws f fd) (S : FnScope N ps (defScope st)) (hn : ps.length = np) (hN : N.length = n)
    (hb : ∀ (kV doc pm : Value) (an : Option Addr) (cdv ct : Value) (us : List Value), us.length = ps.length → bindArgs (PySem.W.fnOf x qual (defArgs st) (defBody st) (defScope st) .none kV doc pm an cdv ct) ⟨us, []⟩ = pure (ps.zip us))
    (hbody : ∀ (cdv : Value) (A : Around) (outer : List Env) (s : Shared) (H : Hp) (E : XK), CodeIs K f cdv → A.guards = some [] → Room j (A.deeper (envOfC qual (defScope st) s.heap.objs.size f cdv)) →
      QSs (cxOf (L2.CX P w) P w K mg base N qual (defScope st) f cdv A outer s H E) (defBody st) b) : FnFG P w K mg base (j + 1) f (dfn np n b) := by
  obtain ⟨oc, od, dV, kV, doc, pm, an, cdv, ct, osl, e, lk, hcd, -, -⟩ := id F.ex
  have hco : CodeIs K f cdv := by
    have q := codeIs_of lk
    rw [e] at q
    exact q
  have bnd := F.bindsN hb
  subst e
  have len := spF_len (K := K) (b := b) hn (n := n)
  have Fk : FnG P w K mg base (L2.CX P w) (j + 1) f (PySem.W.fnOf x qual (defArgs st) (defBody st) (defScope st) dV kV doc pm an cdv ct) ps (spF K (dfn np n b)) := ⟨len, fun A outer s H args us vs Q E hg hr e0 hb r h => by
    refine StX.run_bnd lk hcd S hr e0 (G := fun xs H2 => xs = vs ∧ H2 = H) (fun A' Ex Q' q => hb _ _ _ _ (q s H vs us e0 Un.refl rfl (fun _ _ z => z) r (len _ _ _ _ h) ⟨rfl, rfl⟩)) fun s2 H2 xs e hr' => ?_
    rw [e.1, e.2]
    exact ⟨_, hbody cdv A outer s2 H E hco hg hr', body_start rfl (takes_of rfl rfl rfl rfl) hn hN h⟩⟩
  intro A outer s H us vs Q E hg hr e0 r h
  have hl : us.length = ps.length := r.length ▸ Fk.len _ _ _ _ h
  have bb := bnd s us (e0.mod.kin.keeps fun b o e => (e0.bs b o e).1) (by simpa using hl)
  exact Fk.run A outer s H ⟨us, []⟩ us vs Q E hg hr e0 (by simpa using bb) r h
end
section
variable {X : Cx} {Ng lams : List Str} {x a y : Str} {st : Stmt} {g fy : Addr} {fd : FuncData} {kws : List (Str × V)} {k : Nat} {params : Arguments} {body : Expr} {scope : Scope} {m : ME} {h : Hrd} {p lpos pos : Pos}
/-- x(lambda: body) in the body of the def y -/
theorem qe_lamA (TB : LamB X.K X.mg X.base lams) (hy : y ∈ lams) (hco : CodeIs X.K (He.ga X.K y) X.env.code) (hq : X.env.qual = y ++ ".<locals>.") (hr : Room (k + 2) X.A) (hm : X.mg x = some (.ref g)) (hk : PySem.W.keepIn X.K (.ref g) = true) (F : FunD X.K x x (defArgs st) (defBody st) (defScope st) [] kws g fd) (Sg : FnScope Ng [a] (defScope st))
    (hb : ∀ (kV doc pm : Value) (an : Option Addr) (cdv ct : Value) (us : List Value), us.length = 1 → bindArgs (PySem.W.fnOf x x (defArgs st) (defBody st) (defScope st) .none kV doc pm an cdv ct) ⟨us, []⟩ = pure (([a] : List Str).zip us))
    (hG : ∀ cdv q, LamX.GivesTo X Ng x (defScope st) g cdv (defBody st) a q (TTh X.K h)) (L : LamX.lamSB X.env.scope scope = true)
    (hbody : ∀ (A : Around) (outer : List Env) (s : Shared) (H : Hp) (E : XK) (f c' : Addr), Room k (A.deeper (LamX.lamEnv X scope s.heap.objs.size f c')) → QE (LamX.lamCx X A outer s H E scope f c') body m)
    (hg : Gl X x := by rfl) (hNg : Ng[0]? = some a := by rfl) (hva : Vis (defScope st) a := by first | exact .inl rfl | exact .inr (.inl rfl)) (hdef : defaultsOf params X.env = ([], []) := by rfl)
    (hbind : ∀ (q : Str) (cl : List (Str × Addr)) (pm cv ctv : Value), bindArgs (PySem.W.kla_fn "<lambda>" q params body scope cl pm cv ctv) ⟨[], []⟩ = pure [] := by intro _ _ _ _ _; rfl)
    (hdb : (x == ("__debug__" : Str)) = false := by decide) (hd : (a == ("__debug__" : Str)) = false := by decide) (hcd : (a == ("__classdict__" : Str)) = false := by decide) :
    QE X (.Call (.Name x p) [.Lambda params body scope lpos] [] pos) (lamc h m) := by
  obtain ⟨c, P, e1, e2, e3, e4⟩ := TB y hy
  have eq : X.env.qual ++ "<lambda>" = ZH.lamQ y := by rw [hq]
  exact qe_lam hg hm hk F Sg hb hNg hva (fun cdv => hG cdv _) e2 (hco c P e1) (by rw [eq]; exact e3) (by rw [eq]; exact e4) hr (LamX.lamS_by L) hdef hbind hbody hdb hd hcd
end
end PV
set_option Elab.async false
set_option linter.all false
set_option maxRecDepth 100000
set_option maxHeartbeats 4000000
/-! an int compared with an instance on its right; instances that are called -/
namespace ZL
open PySem PySem.Spec PyProof.Rows L2
theorem int_lt_inst (a : Int) (t : Tok) (l C dx : Addr) :
    Meets (Builtin.«int.__lt__» ⟨[.int a t, .ref l], []⟩) (fun _ R s => s.heap.get? l = some (PySem.W.instObj C dx) ∧ R (.ok (.ret Value.notImplemented)) s) :=
  .of_wp fun prog w A R s h => by obtain ⟨hp, g, d, tk, os⟩ := s; obtain ⟨hl, h⟩ := h; wp_walk; exact ⟨_, rfl, h⟩
theorem int_le_inst (a : Int) (t : Tok) (l C dx : Addr) :
    Meets (Builtin.«int.__le__» ⟨[.int a t, .ref l], []⟩) (fun _ R s => s.heap.get? l = some (PySem.W.instObj C dx) ∧ R (.ok (.ret Value.notImplemented)) s) :=
  .of_wp fun prog w A R s h => by obtain ⟨hp, g, d, tk, os⟩ := s; obtain ⟨hl, h⟩ := h; wp_walk; exact ⟨_, rfl, h⟩
theorem int_gt_inst (a : Int) (t : Tok) (l C dx : Addr) :
    Meets (Builtin.«int.__gt__» ⟨[.int a t, .ref l], []⟩) (fun _ R s => s.heap.get? l = some (PySem.W.instObj C dx) ∧ R (.ok (.ret Value.notImplemented)) s) :=
  .of_wp fun prog w A R s h => by obtain ⟨hp, g, d, tk, os⟩ := s; obtain ⟨hl, h⟩ := h; wp_walk; exact ⟨_, rfl, h⟩
theorem int_ge_inst (a : Int) (t : Tok) (l C dx : Addr) :
    Meets (Builtin.«int.__ge__» ⟨[.int a t, .ref l], []⟩) (fun _ R s => s.heap.get? l = some (PySem.W.instObj C dx) ∧ R (.ok (.ret Value.notImplemented)) s) :=
  .of_wp fun prog w A R s h => by obtain ⟨hp, g, d, tk, os⟩ := s; obtain ⟨hl, h⟩ := h; wp_walk; exact ⟨_, rfl, h⟩
section
open PySem.W
variable {prog : Program} {w : World} {A : Around} {E : Value → Shared → Prop} {s : Shared} {K : Frag} {x C f dx : Addr} {od : Option Obj} {id : String} {B : Builtin} {i : Int} {t : Tok} {Q : Value → Shared → Prop} {op : CmpOp}
/-- an int op x (an order), by x's own method of the turned order -/
theorem rcmp1 (slot : Slot "int" (cmpInfo op).2.1 id) (entry : entryFor table id = some B) (args : argsOk id ⟨[.int i t, .ref x], []⟩) (ni : Meets (B ⟨[.int i t, .ref x], []⟩) (fun _ R s => s.heap.get? x = some (instObj C dx) ∧ R (.ok (.ret .notImplemented)) s))
    (hu : A.units < cLine) (X : K.In s.heap) (I : InstAt s.heap x (instObj C dx) C od) (hx : s.heap.get? x = some (instObj C dx)) (hs : findIn K (.ref C) (cmpInfo op).2.2 = some (some (.ref f))) (hf : isFn K (.ref f) = true) (hsub : subIn K (.ref C) (.type "int") = some false) (ho : ∀ a : Addr, oneThing? op (.int i t) (.ref a) = none)
    (h : wpAny (model prog w) A (call (.ref f) [.ref x, .int i t]) (PySem.W.CmpBack Q) E s) : wpAny (model prog w) A (richCompare op (.int i t) (.ref x)) Q E s := by
  have two : wpAny (model prog w) A (tryCompare (.ref x) (cmpInfo op).2.2 (.int i t)) (fun r s' => ∃ v, r = some v ∧ Q v s') E s := by
    unfold tryCompare
    refine wpAny_bind (ifBound_K X I hs hf (thn h fun v s' hv => ?_))
    cases v <;> first | exact hv.elim | exact wpAny_pure ⟨_, rfl, hv⟩
  have L2 : Looks (model prog w) s.heap (typeOf (.ref x)) (.ref C) := I.type
  have L1 : Looks (model prog w) s.heap (typeOf (.int i t)) (.type "int") := Looks.of_pure rfl
  have L5 : Looks (model prog w) s.heap (isSubtype (.ref C) (.type "int")) false := looks_subIn X hsub
  have hne : (Value.type "int" != Value.ref C) = true := by simp
  unfold richCompare
  simp only [ho]
  refine wpAny_holding (wpAny_bind (wpAny_cRoomFor hu (wpAny_bind (L1.here (wpAny_bind (L2.here ?_))))))
  simp only [hne, if_true]
  refine wpAny_bind (L5.here ?_)
  simp only [Bool.false_eq_true, if_false, Bool.not_false, if_true]
  refine wpAny_bind (m := tryCompare (.int i t) _ (.ref x)) (wpAny_tryCompare_declines (typeIs_int s i t) slot (call_meets slot (typeIs_int s i t) entry args ni ⟨hx, ⟨rfl, ?_⟩⟩))
  refine wpAny_bind (m := tryCompare (.ref x) _ (.int i t)) (thn two fun r s' z => ?_)
  obtain ⟨v, rfl, q⟩ := z
  exact wpAny_pure q
end
end ZL
namespace PV
open PySem PySem.Spec PyProof.Rows L2 ZL
/-- an int op x, x an instance of c, by x's own turned comparison -/
def rcmpO (c : String) (F : Fn) (g : G2) : G2 := fun x y S => match x, insOf S y with
  | .int i, some (d, _) => if d = c then onlyB (F [y, .int i] S) else .no
  | _, _ => g x y S
theorem of_rcmpO {X : Cx} {j : Nat} {op : CmpOp} {c : String} {F : Fn} {g : G2} {f : Addr} {id : String} {B : Builtin} (hop : compareOp op = richCompare op) (slot : Slot "int" (cmpInfo op).2.1 id) (entry : entryFor table id = some B) (args : ∀ a b, argsOk id ⟨[a, b], []⟩)
    (ni : ∀ a t l C dx, Meets (B ⟨[.int a t, .ref l], []⟩) (fun _ R s => s.heap.get? l = some (PySem.W.instObj C dx) ∧ R (.ok (.ret .notImplemented)) s)) (ho : ∀ i t (a : Addr), oneThing? op (.int i t) (.ref a) = none)
    (own : Own X.K (gaS X.K c) (cmpInfo op).2.2 f) (hsub : PySem.W.subIn X.K (.ref (gaS X.K c)) (.type "int") = some false) (Ff : FnF X.prog X.w X.K X.mg X.base j f F) (hr : Room j X.A) (hg : OpF X (compareOp op) g) : OpF X (compareOp op) (rcmpO c F g) := fun pins s σ H v w u u' Q I rv rw' ⟨x, y, S, G, sm, rx, ry, h⟩ => by
  unfold rcmpO at h
  split at h
  · rename_i i d fs hi
    split at h
    · rename_i hd
      subst hd
      obtain ⟨b, dx, ws, rfl, hB, rf⟩ := sm.ins hi ry
      cases rx
      have rv' := rv
      obtain ⟨t, rfl⟩ := rv'
      cases rw'
      obtain ⟨od, J⟩ := inst_at I hB
      rw [hop]
      refine rcmp1 slot entry (args _ _) (ni i t b _ dx) hr.units0 I.kIn J J.at_ own.at_ own.fn hsub (ho i t) (thn (run_at (vs := [.ref b, .int i]) Ff hr rfl passE I (.cons rfl (.cons rv .nil)) ?_) fun u s' z => cmpBack_bl z)
      exact ⟨[y, .int i], S, G, sm, .cons ry (.cons (.int i) .nil), spO_onlyB (K := X.K) h⟩
    · exact h.elim
  · exact hg pins s σ H v w u u' Q I rv rw' ⟨_, y, S, G, sm, rx, ry, h⟩
/-- f(e, ..), f an instance of c whose class is called by F -/
def inE (c : String) (F : Fn) (mf : ME) (ms : MA) : ME := fun ρ S => (mf ρ S).bind fun x S1 => match insOf S1 x with
  | some _ => (ms ρ S1).bind fun ds S2 => match insOf S2 x with
    | some (d, _) => if d = c then F (x :: ds) S2 else .no
    | none => .no
  | none => .no
theorem qe_inE {X : Cx} {j : Nat} {c : String} {F : Fn} {f : Addr} {fe e : Expr} {es : List Expr} {mf : ME} {ms : MA} {pos : Pos} (k : StX.CallO X.K (gaS X.K c) f) (Ff : FnF X.prog X.w X.K X.mg X.base j f F) (hr : Room j X.A) (hf : QE X fe mf) (ha : QA X (e :: es) ms)
    (ht : eval (.Call fe (e :: es) [] pos) X.env = (do callWith pos (← eval fe X.env) [] (backTo pos (starEach (e :: es) X.env)) (backToKw pos (keywordEach [] X.env))) := by rfl)
    (he : starEach (e :: es) X.env = (false, eval e X.env) :: starEach es X.env := by rfl) (hpl : (backTo pos (starEach es X.env)).any (·.1) = false := by rfl) : QE X (.Call fe (e :: es) [] pos) (inE c F mf ms) :=
  qe_of (StX.pe_callO (pos := pos) hf k Ff hr passE ha ht he hpl) fun ρ S G σ H Q sm re h => by
    refine ⟨ρ, S, G, sm, re, (sat.bind h).imp fun v H1 w => ?_⟩
    obtain ⟨x, S1, G1, le1, sm1, r1, q1⟩ := w
    split at q1
    · rename_i cf hi
      obtain ⟨a, dx, ws, rfl, hA, rf⟩ := sm1.ins hi r1
      refine ⟨a, rfl, ρ, S1, G1, sm1, re.mono le1.le, (sat.bind q1).imp fun vs H2 w => ?_⟩
      obtain ⟨ds, S2, G2, le2, sm2, r2, q2⟩ := w
      split at q2
      · rename_i d fs hi2
        split at q2
        · rename_i hd
          subst hd
          obtain ⟨a2, dx2, ws2, e2, hA2, rf2⟩ := sm2.ins hi2 (r1.mono le2.le)
          cases e2
          exact ⟨.inr ⟨dx2, ws2, hA2⟩, x :: ds, S2, G2, sm2, .cons (r1.mono le2.le) r2, sat_sp q2⟩
        · exact q2.elim
      · exact q2.elim
    · exact q1.elim
section
variable {X : Cx} {j : Nat} {c : String} {F : Fn} {g : G2} {f : Addr}
theorem of_rlt (own : Own X.K (gaS X.K c) "__gt__" f) (hsub : PySem.W.subIn X.K (.ref (gaS X.K c)) (.type "int") = some false) (Ff : FnF X.prog X.w X.K X.mg X.base j f F) (hr : Room j X.A) (hg : OpF X (compareOp .Lt) g) : OpF X (compareOp .Lt) (rcmpO c F g) :=
  of_rcmpO rfl PySem.F.slot_int_lt PySem.F.entry_int_lt PySem.F.args_int_lt_2 int_lt_inst (fun _ _ _ => rfl) own hsub Ff hr hg
theorem of_rle (own : Own X.K (gaS X.K c) "__ge__" f) (hsub : PySem.W.subIn X.K (.ref (gaS X.K c)) (.type "int") = some false) (Ff : FnF X.prog X.w X.K X.mg X.base j f F) (hr : Room j X.A) (hg : OpF X (compareOp .LtE) g) : OpF X (compareOp .LtE) (rcmpO c F g) :=
  of_rcmpO rfl PySem.F.slot_int_le PySem.F.entry_int_le PySem.F.args_int_le_2 int_le_inst (fun _ _ _ => rfl) own hsub Ff hr hg
theorem of_rgt (own : Own X.K (gaS X.K c) "__lt__" f) (hsub : PySem.W.subIn X.K (.ref (gaS X.K c)) (.type "int") = some false) (Ff : FnF X.prog X.w X.K X.mg X.base j f F) (hr : Room j X.A) (hg : OpF X (compareOp .Gt) g) : OpF X (compareOp .Gt) (rcmpO c F g) :=
  of_rcmpO rfl PySem.F.slot_int_gt PySem.F.entry_int_gt (fun a b => by unfold argsOk; kernel_rfl) int_gt_inst (fun _ _ _ => rfl) own hsub Ff hr hg
theorem of_rge (own : Own X.K (gaS X.K c) "__le__" f) (hsub : PySem.W.subIn X.K (.ref (gaS X.K c)) (.type "int") = some false) (Ff : FnF X.prog X.w X.K X.mg X.base j f F) (hr : Room j X.A) (hg : OpF X (compareOp .GtE) g) : OpF X (compareOp .GtE) (rcmpO c F g) :=
  of_rcmpO rfl PySem.F.slot_int_ge PySem.F.entry_int_ge (fun a b => by unfold argsOk; kernel_rfl) int_ge_inst (fun _ _ _ => rfl) own hsub Ff hr hg
end
theorem isFn_ty {K : PySem.W.Frag} {v : Value} (h : PySem.W.isFn K v = true) : PySem.W.typeIn K v = some (.type "function") := by
  unfold PySem.W.isFn at h
  simpa using h
/-- a, b, c = x, y, z, plain names -/
def sPar3 (i j l : Nat) (ms : MA) : MS := fun ρ S => (ms ρ S).bind fun ds S1 => match ds with
  | [a, b, c] => .ok (.nx (((ρ.set i (some a)).set j (some b)).set l (some c))) S1
  | _ => .no
theorem qs_par3 {X : Cx} (i j l : Nat) {x y z : Str} {a b c : Expr} {ms : MA} {px py pz pt pos : Pos} {kt k2 pt2} (hc : X.calm = true) (ha : QA X [a, b, c] ms) (hN : X.N.Nodup) (hi : X.N[i]? = some x := by rfl) (hj : X.N[j]? = some y := by rfl) (hl : X.N[l]? = some z := by rfl) (hij : i ≠ j := by decide) (hil : i ≠ l := by decide) (hjl : j ≠ l := by decide)
    (hx : X.env.scope.names.lookup x = some .local := by rfl) (hy : X.env.scope.names.lookup y = some .local := by rfl) (hz : X.env.scope.names.lookup z = some .local := by rfl)
    (hw : swappedStores [.Tuple [.Name x px, .Name y py, .Name z pz] kt pt] (.Tuple [a, b, c] k2 pt2) X.env = pure (some [x, y, z]) := by rfl)
    (hs : swapsWithSole [.Tuple [.Name x px, .Name y py, .Name z pz] kt pt] (.Tuple [a, b, c] k2 pt2) pos.line X.env = pure false := by rfl) :
    QS X (.Assign [.Tuple [.Name x px, .Name y py, .Name z pz] kt pt] (.Tuple [a, b, c] k2 pt2) pos) (sPar3 i j l ms) := qs_of (ps_par3 hc hN hi hj hl hij hil hjl hx hy hz ha hw hs) fun ρ S G σ H D sm re z => by
  refine ⟨ρ, S, G, sm, re, (satS.bind z).imp fun vs H1 w => ?_⟩
  obtain ⟨ds, S1, G1, le1, sm1, r1, q1⟩ := w
  match ds, r1, q1 with
  | [d, e, f], .cons (v := v1) rv (.cons (v := v2) rw' (.cons (v := v3) ru .nil)), q1 => exact ⟨v1, v2, v3, rfl, q1 G1 H1 _ .refl sm1 ((((re.mono le1.le).set i rv).set j rw').set l ru)⟩
  | [], _, q1 => exact q1.elim
  | [_], _, q1 => exact q1.elim
  | [_, _], _, q1 => exact q1.elim
  | _ :: _ :: _ :: _ :: _, _, q1 => exact q1.elim
end PV
set_option Elab.async false
set_option linter.all false
set_option maxRecDepth 100000
set_option maxHeartbeats 4000000
/-! x + y of two lists, to be written -/
namespace PV
open PySem PySem.Spec PyProof.Rows L2 ZL RZ
def addM : G2 := fun x y S => match x, y with
  | .lst a, .lst b => if a.length + b.length ≤ 1000 then .ok (.loc S.length) (S ++ [.lst (a ++ b)]) else .no
  | _, _ => .no
theorem of_addM {X : Cx} : OpF X (binaryOp .Add) addM := fun pins s σ H v w u u' Q I rv rw' ⟨x, y, S, G, sm, rx, ry, h⟩ => by
  unfold addM at h
  split at h
  · split at h
    · rename_i c
      cases rx with
      | lst h1 r1 =>
        cases ry with
        | lst h2 r2 =>
          refine op_cat pins s σ H _ _ u u' Q I rv rw' ⟨_, _, _, _, rfl, rfl, sm.fr _ _ h1, sm.fr _ _ h2, ?_, fun p hp => ?_⟩
          · rw [r1.length, r2.length]
            exact Nat.le_trans c (by decide)
          · exact new_cell sm hp (r1.append r2) h
    · exact h.elim
  · exact h.elim
/-- str(x) of a text or of an integer -/
def strT : Fn := fun ds S => match ds with
  | [.str z] => .ok (.str z) S
  | [.int i] => strB [.int i] S
  | _ => .no
theorem cf_strT {X : Cx} : CallF X (.type "str") strT := fun pins s σ H vs us Q I rv ⟨ds, S, G, sm, r, h⟩ => by
  unfold strT at h
  split at h
  · obtain ⟨v, rfl, q⟩ := vals1 r
    cases q
    exact SkE.call_str_str pins s σ H _ us Q I rv ⟨_, rfl, h G H _ .refl sm (.str _)⟩
  · exact cf_str pins s σ H vs us Q I rv ⟨_, S, G, sm, r, h⟩
  · exact h.elim
end PV
set_option Elab.async false
set_option linter.all false
set_option maxRecDepth 100000
set_option maxHeartbeats 4000000
/-! the tables of the defs that hold lambdas, at a law's end -/
namespace PV
open PySem PySem.Spec PyProof.Rows L2 ZL
def csOf (K : PySem.W.Frag) (lams : List Str) : List (Addr × Addr) := lams.filterMap fun x => ZH.codeAt K (He.ga K x)
section
variable {Ka K : PySem.W.Frag} {lams : List Str} {h : Heap}
theorem csOf_mem {p : Addr × Addr} (hp : p ∈ csOf K lams) : ∃ x ∈ lams, ZH.codeAt K (He.ga K x) = some p := List.mem_filterMap.mp hp
theorem csOf_all (X : K.In h) (Xa : Ka.In h) (t : ZH.tabsB lams Ka K = true) : ∀ p ∈ csOf K lams, PySem.W.CodeHd h p.1 p.2 ∧ h.get? p.2 = some { cls := .none, data := .fields #[] } ∧ K.lookup p.2 = none := fun p hp => by
  obtain ⟨x, hx, e⟩ := csOf_mem hp
  obtain ⟨c, q, L⟩ := ZH.tabs_at X Xa t hx
  have ep : p = (c, q) := Option.some.inj (e.symm.trans L.code)
  subst ep
  exact ⟨L.hd, L.tab, L.off⟩
theorem csOf_told (t : ZH.tabsB lams Ka K = true) {H : Hp} (hH : ∀ p ∈ csOf K lams, H p.2 = some (.tbl #[])) : ∀ p ∈ tbs K, H p.1 = some (.tbl #[]) := fun p hp => by
  obtain ⟨x, hx, c, e⟩ := ZH.tabs_all t hp
  exact hH (c, p.1) (List.mem_filterMap.mpr ⟨x, hx, e⟩)
theorem csOf_lam (X : K.In h) (Xa : Ka.In h) (t : ZH.tabsB lams Ka K = true) {mg : Str → Option Value} {base : Heap} (hB : ∀ p ∈ csOf K lams, LamX.TabB base mg p.1 p.2) : LamB K mg base lams := fun x hx => by
  obtain ⟨c, q, L⟩ := ZH.tabs_at X Xa t hx
  exact ⟨c, q, L.code, hB (c, q) (List.mem_filterMap.mpr ⟨x, hx, L.code⟩), L.mem, L.one⟩
end
end PV
set_option Elab.async false
set_option linter.all false
set_option maxRecDepth 100000
set_option maxHeartbeats 4000000
/-! dicts by texts, to be written: {"x": e, ..}, d["x"], d["x"] = e -/
namespace PV
open PySem PySem.Spec PyProof.Rows L2 ZL RZ
def esG (es : List (Str × D)) (z : Str) : Option D := (es.find? fun p => decide (p.1 = z)).map (·.2)
def esP (es : List (Str × D)) (z : Str) (d : D) : List (Str × D) := if (es.any fun p => decide (p.1 = z)) = true then es.map (fun p => if p.1 = z then (p.1, d) else p) else es ++ [(z, d)]
section
variable {K : PySem.W.Frag} {G : Gh} {es : List (Str × D)} {kvs : List (Key × V)}
theorem Rpk.get (r : Rpk K G es kvs) {z : Str} {d : D} (h : esG es z = some d) : ∃ v, valV kvs (.inr z) = some v ∧ Rp K G d v := by
  induction r with
  | nil => cases h
  | @cons x d' v es kvs hv t ih =>
    unfold esG at h
    rw [List.find?_cons] at h
    by_cases q : x = z
    · rw [decide_eq_true q] at h
      cases h
      exact ⟨v, valV_pos (by rw [q]), hv⟩
    · rw [decide_eq_false q] at h
      obtain ⟨v', h1, h2⟩ := ih h
      refine ⟨v', ?_, h2⟩
      have ne : ¬ ((Sum.inr x : Key) = .inr z) := fun e => q (Sum.inr.inj e)
      unfold valV at h1 ⊢
      rw [List.find?_cons, decide_eq_false ne]
      exact h1
theorem Rpk.any (r : Rpk K G es kvs) (z : Str) : (kvs.any fun kv => decide (kv.1 = (.inr z : Key))) = es.any fun p => decide (p.1 = z) := by
  induction r with
  | nil => rfl
  | @cons x d v es kvs hv t ih =>
    rw [List.any_cons, List.any_cons, ih]
    congr 1
    have : ((Sum.inr x : Key) = .inr z) ↔ x = z := ⟨fun e => Sum.inr.inj e, fun e => by rw [e]⟩
    exact decide_eq_decide.mpr this
theorem Rpk.app (r : Rpk K G es kvs) {z : Str} {d : D} {v : V} (h : Rp K G d v) : Rpk K G (es ++ [(z, d)]) (kvs ++ [(.inr z, v)]) := by
  induction r with
  | nil => exact .cons h .nil
  | cons hv t ih => exact .cons hv ih
theorem Rpk.over (r : Rpk K G es kvs) {z : Str} {d : D} {v : V} (h : Rp K G d v) : Rpk K G (es.map fun p => if p.1 = z then (p.1, d) else p) (kvs.map fun kv => if kv.1 = (.inr z : Key) then (kv.1, v) else kv) := by
  induction r with
  | nil => exact .nil
  | @cons x d' v' es kvs hv t ih =>
    rw [List.map_cons, List.map_cons]
    by_cases q : x = z
    · subst q
      rw [if_pos rfl, if_pos rfl]
      exact .cons h ih
    · rw [if_neg q, if_neg fun e => q (Sum.inr.inj e)]
      exact .cons hv ih
theorem Rpk.put (r : Rpk K G es kvs) {z : Str} {d : D} {v : V} (h : Rp K G d v) : Rpk K G (esP es z d) (putK kvs (.inr z) v) := by
  unfold esP putK
  rw [r.any]
  split
  · exact r.over h
  · exact r.app h
theorem Rpk.keys (r : Rpk K G es kvs) : kvs.map (·.1) = es.map fun p => (.inr p.1 : Key) := by
  induction r with
  | nil => rfl
  | cons hv t ih => rw [List.map_cons, List.map_cons, ih]
theorem Rpk.len (r : Rpk K G es kvs) : kvs.length = es.length := by
  induction r with
  | nil => rfl
  | cons hv t ih => rw [List.length_cons, List.length_cons, ih]
theorem merge_nodup : ∀ (more acc : List (Key × V)), (acc.map (·.1) ++ more.map (·.1)).Nodup → mergeK acc more = acc ++ more
  | [], acc, _ => by simp [mergeK]
  | (k, v) :: more, acc, h => by
    have e : putK acc k v = acc ++ [(k, v)] := by
      unfold putK
      rw [if_neg]
      intro z
      obtain ⟨p, hp, e⟩ := List.any_eq_true.mp z
      rw [List.map_cons, List.nodup_append] at h
      exact h.2.2 p.1 (List.mem_map_of_mem hp) k List.mem_cons_self (of_decide_eq_true e)
    show mergeK (putK acc k v) more = _
    rw [e, merge_nodup more (acc ++ [(k, v)]) (by simpa using h)]
    simp
end
def dicL : List (Str × ME) → Ev → Sto → Out (List (Str × D))
  | [], _, S => .ok [] S
  | (z, m) :: r, ρ, S => (m ρ S).bind fun d S1 => (dicL r ρ S1).bind fun es S2 => .ok ((z, d) :: es) S2
def dicQ (n : Nat) (es : List (Str × D)) (S2 : Sto) : Out D := match S2[n]? with
  | some (.dic []) => if es.length ≤ 15 ∧ (es.map (·.1)).Nodup then .ok (.loc n) (S2.set n (.dic es)) else .no
  | _ => .no
def dicM (kms : List (Str × ME)) : ME := fun ρ S => (dicL kms ρ (S ++ [.dic []])).bind (dicQ S.length)
structure QPM (X : Cx) (pos : Pos) (keys : List (Option Expr)) (values : List Expr) (kms : List (Str × ME)) : Prop where
  run : ∃ trs, PPs X pos keys values trs ∧ ∀ ρ S G σ H (Q : List (V × V) → Hp → Prop), Sm X.K G S H → Re X.K G ρ σ → sat X (Rpk X.K) G H (dicL kms ρ S) (fun kvs H' => Q (kvs.map fun kv => (kV kv.1, kv.2)) H') → tPairs trs σ H Q
section
variable {X : Cx}
theorem qpm_nil {pos : Pos} : QPM X pos [] [] [] := ⟨[], pps_nil, fun ρ S G σ H Q sm re h => h G H [] .refl sm .nil⟩
theorem qpm_cons {pos kp : Pos} {z : Str} {j : Nat} {e : Expr} {m : ME} {ks : List (Option Expr)} {vs : List Expr} {kms : List (Str × ME)} (h : QE X e m) (r : QPM X pos ks vs kms) : QPM X pos (some (.Constant (.str z) j kp) :: ks) (e :: vs) ((z, m) :: kms) := by
  obtain ⟨trs, h1, h2⟩ := r
  refine ⟨_, pps_cons pe_str h h1, fun ρ S G σ H Q sm re q => ?_⟩
  refine ⟨ρ, S, G, sm, re, (sat.bind q).imp fun v H1 w => ?_⟩
  obtain ⟨d, S1, G1, le1, sm1, r1, q1⟩ := w
  refine h2 ρ S1 G1 σ H1 _ sm1 (re.mono le1.le) ((sat.bind q1).imp fun kvs H2 w => ?_)
  obtain ⟨es, S2, G2, le2, sm2, r2, q2⟩ := w
  exact q2 G2 H2 ((.inr z, v) :: kvs) .refl sm2 (.cons (r1.mono le2.le) r2)
theorem qe_dicM {pos : Pos} {keys : List (Option Expr)} {values : List Expr} {kms : List (Str × ME)} (h : QPM X pos keys values kms) (hall : keys.all (·.isSome) = true := by rfl) (hl : keys.length = values.length := by rfl) (h0 : keys ≠ [] := by simp) (h15 : keys.length ≤ 15 := by decide) :
    QE X (.Dict keys values pos) (dicM kms) := by
  obtain ⟨trs, h1, h2⟩ := h
  refine qe_of (pe_disp h1 hall hl h0 h15) fun ρ S G σ H Q sm re z p hp => ?_
  have sm1 : Sm X.K (G.new S.length p) (S ++ [.dic []]) (upd H p (.dK [])) := sm.new hp ⟨[], upd_same, .nil⟩
  have st1 : Stp G H (G.new S.length p) (upd H p (.dK [])) := Stp.cell sm hp
  refine h2 ρ _ _ σ _ _ sm1 (re.mono st1.le) ((sat.bind (z.mono st1)).imp fun kvs H2 w => ?_)
  obtain ⟨es, S2, G2, le2, sm2, r2, q2⟩ := w
  unfold dicQ at q2
  split at q2
  · rename_i hn
    split at q2
    · rename_i nd
      have hf : G2.f S.length = some p := le2.le.2 _ _ Gh.new_at
      obtain ⟨_, kv0, h3, h4⟩ := sm2.addr hn (by simp) hf
      cases h4
      refine ⟨h3, kvs, rfl, ?_, ?_⟩
      · rw [r2.len]
        exact nd.1
      · have em : mergeK [] kvs = kvs := merge_nodup kvs [] (by
          rw [List.map_nil, List.nil_append, r2.keys]
          have := nd.2
          rw [show (es.map fun p => (Sum.inr p.1 : Key)) = (es.map (·.1)).map Sum.inr by simp]
          exact List.Pairwise.map _ (fun a b ne e => ne (Sum.inr.inj e)) this)
        rw [em]
        exact q2 G2 _ _ (Stp.write hf) (sm2.write hn (by simp) hf ⟨kvs, upd_same, r2⟩) (.loc hf)
    · exact q2.elim
  · exact q2.elim
def ddG : G2 := fun x y S => match x with
  | .loc n => match y with
    | .str z => match S[n]? with
      | some (.dic es) => match esG es z with
        | some d => .ok d S
        | none => .no
      | _ => .no
    | _ => .no
  | _ => .no
theorem Sm.dic {K : PySem.W.Frag} {G : Gh} {S : Sto} {H : Hp} (sm : Sm K G S H) {n : Nat} {es : List (Str × D)} (h : S[n]? = some (.dic es)) {v : V} (r : Rp K G (.loc n) v) : ∃ a kvs, v = .ref a ∧ G.f n = some a ∧ H a = some (.dK kvs) ∧ Rpk K G es kvs := by
  cases r with
  | @loc n a hf =>
    obtain ⟨_, kvs, h1, h2⟩ := sm.addr h (by simp) hf
    exact ⟨a, kvs, rfl, hf, h1, h2⟩
theorem qe_dd {o i : Expr} {mo mi : ME} {pos : Pos} (hu : X.A.units + 1 < cLine) (ho : QE X o mo) (hi : QE X i mi) (hs : NoSl i := by exact fun _ _ => rfl) : QE X (.Subscript o i pos) (bin ddG mo mi) :=
  qe_of (pe_dget hu ho hi hs) fun ρ S G σ H Q sm re h => by
    refine ⟨ρ, S, G, sm, re, (sat.bind h).imp fun v H1 w => ?_⟩
    obtain ⟨x, S1, G1, le1, sm1, r1, q1⟩ := w
    refine ⟨ρ, S1, G1, sm1, re.mono le1.le, (sat.bind q1).imp fun v' H2 w => ?_⟩
    obtain ⟨y, S2, G2, le2, sm2, r2, q2⟩ := w
    unfold ddG at q2
    split at q2
    · split at q2
      · split at q2
        · rename_i hn
          split at q2
          · rename_i d hd
            obtain ⟨a, kvs, rfl, hf, ha, rk⟩ := sm2.dic hn (r1.mono le2.le)
            obtain ⟨v2, hv, r3⟩ := rk.get hd
            cases r2
            exact ⟨a, v2, rfl, by rw [← hv]; exact DGet.k (k := .inr _) ha, q2 G2 H2 v2 .refl sm2 r3⟩
          · exact q2.elim
        · exact q2.elim
      · exact q2.elim
    · exact q2.elim
def sDk (o i m : ME) : MS := fun ρ S => (m ρ S).bind fun y S1 => (o ρ S1).bind fun x S2 => (i ρ S2).bind fun k S3 => match x with
  | .loc n => match k with
    | .str z => match S3[n]? with
      | some (.dic es) => if es.length < 1000 then .ok (.nx ρ) (S3.set n (.dic (esP es z y))) else .no
      | _ => .no
    | _ => .no
  | _ => .no
theorem qs_dk {o i e : Expr} {mo mi m : ME} {p pos : Pos} (hu : X.A.units + 1 < cLine) (ho : QE X o mo) (hi : QE X i mi) (h : QE X e m) (hs : swapsWith e (some (.Subscript o i p)) pos.line X.env = pure false := by rfl) :
    QS X (.Assign [.Subscript o i p] e pos) (sDk mo mi m) := qs_of (ps_dput hu ho hi h hs) fun ρ S G σ H D sm re z => by
  refine ⟨ρ, S, G, sm, re, (satS.bind z).imp fun v H1 w => ?_⟩
  obtain ⟨y, S1, G1, le1, sm1, r1, q1⟩ := w
  refine ⟨ρ, S1, G1, sm1, re.mono le1.le, (satS.bind q1).imp fun v2 H2 w => ?_⟩
  obtain ⟨x, S2, G2, le2, sm2, r2, q2⟩ := w
  refine ⟨ρ, S2, G2, sm2, (re.mono le1.le).mono le2.le, (satS.bind q2).imp fun v3 H3 w => ?_⟩
  obtain ⟨k, S3, G3, le3, sm3, r3, q3⟩ := w
  split at q3
  · split at q3
    · split at q3
      · rename_i hn
        split at q3
        · rename_i hl
          obtain ⟨a, kvs, rfl, hf, ha, rk⟩ := sm3.dic hn (r2.mono le3.le)
          cases r3
          exact ⟨a, _, rfl, DPut.k (k := (.inr _ : Key)) ha (by rw [rk.len]; exact Nat.lt_of_lt_of_le hl (by decide)), q3 G3 _ σ (Stp.write hf) (sm3.write hn (by simp) hf ⟨_, upd_same, rk.put ((r1.mono le2.le).mono le3.le)⟩) (((re.mono le1.le).mono le2.le).mono le3.le)⟩
        · exact q3.elim
      · exact q3.elim
    · exact q3.elim
  · exact q3.elim
end
end PV
set_option Elab.async false
set_option linter.all false
set_option maxRecDepth 100000
set_option maxHeartbeats 4000000
/-! own operators beside values of built-in types: x op v, v op x -/
namespace ZL
open PySem PySem.Spec PyProof.Rows L2
section
open PySem.W
variable {prog : Program} {w : World} {A : Around} {E : Value → Shared → Prop} {s : Shared} {K : Frag} {x C f : Addr} {od : Option Obj} {ox : Obj} {nm : String} {Q : Value → Shared → Prop} {u : Value} {T : String} {fo ro : Option Value}
/-- whether a built-in type's values have a number's method of the name -/
def numS (T nm : String) : Option Bool := match fastLookup T (PySem.dunder nm), fastLookup T (dunderR nm) with
  | some fo, some ro => some ((fo.isSome && !isSeqSlot fo) || (ro.isSome && !isSeqSlot ro))
  | _, _ => none
theorem numS_of {b : Bool} (h : numS T nm = some b) : ∃ fo ro, findIn K (.type T) (PySem.dunder nm) = some fo ∧ findIn K (.type T) (dunderR nm) = some ro ∧ ((fo.isSome && !isSeqSlot fo) || (ro.isSome && !isSeqSlot ro)) = b := by
  unfold numS at h
  split at h
  · rename_i fo ro h1 h2
    exact ⟨fo, ro, h1, h2, Option.some.inj h⟩
  · cases h
/-- u op x, u of a type with no such method -/
theorem rbinL (X : K.In s.heap) (J : InstAt s.heap x ox C od) (hu : Looks (model prog w) s.heap (typeOf u) (.type T)) (hn : numS T nm = some false) (hC : Looks (model prog w) s.heap (fillsNumberSlot (.ref C) nm) true)
    (hs : findIn K (.ref C) (dunderR nm) = some (some (.ref f))) (hf : isFn K (.ref f) = true) (h : wpAny (model prog w) A (call (.ref f) [.ref x, u]) (PySem.W.CmpBack Q) E s) :
    wpAny (model prog w) A (binaryOp1 nm u (.ref x)) (fun r s' => ∃ v, r = some v ∧ Q v s') E s := by
  have one := ksp_try X J hs hf h
  obtain ⟨fo, ro, h1, h2, h3⟩ := numS_of (K := K) hn
  have M2 : Looks (model prog w) s.heap (typeOf (.ref x)) (.ref C) := J.type
  have M3 : Looks (model prog w) s.heap (fillsNumberSlot (.type T) nm) false := by
    have := ksp_fillsT (M := model prog w) X h1 h2
    rw [h3] at this
    exact this
  have hne : (Value.type T == Value.ref C) = false := Bool.eq_false_iff.mpr fun q => by cases beq_iff_eq.mp q
  obtain ⟨g0, g, d, tt, os⟩ := s
  unfold binaryOp1
  refine wpAny_bind (hu.at (wpAny_bind (M2.at (wpAny_bind (M3.at ?_)))))
  simp only [hne, Bool.false_eq_true, if_false]
  ksp_lk
  refine wpAny_mono one (fun r s' z => ?_) fun _ _ e => e
  obtain ⟨v, rfl, hq⟩ := z
  ksp_lk
  exact ⟨v, rfl, hq⟩
/-- x op u, u of a built-in type -/
theorem binR {op : Operator} {rc : Option Value} {b : Bool} (X : K.In s.heap) (J : InstAt s.heap x ox C od) (hu : Looks (model prog w) s.heap (typeOf u) (.type T)) (hc : selfFirst K C = true) (hs : findIn K (.ref C) (PySem.dunder op.info.2) = some (some (.ref f))) (hf : isFn K (.ref f) = true)
    (hr : findIn K (.ref C) (dunderR op.info.2) = some rc) (hp : rc = none ∨ ∃ g : Addr, rc = some (.ref g)) (hn : numS T op.info.2 = some b) (hsub : subIn K (.type T) (.ref C) = some false)
    (h : wpAny (model prog w) A (call (.ref f) [.ref x, u]) (PySem.W.CmpBack Q) E s) : wpAny (model prog w) A (binaryOp op (.ref x) u) Q E s := by
  obtain ⟨cd, more, hcd, hm⟩ := ksp_first hc
  rcases hi : op.info with ⟨sym, nn⟩
  rw [hi] at hs hr hn
  dsimp only at hs hr hn
  obtain ⟨fo, ro, h1, h2, h3⟩ := numS_of (K := K) hn
  have one := ksp_try X J hs hf h
  have N1 : Looks (model prog w) s.heap (typeOf (.ref x)) (.ref C) := J.type
  have N3 : Looks (model prog w) s.heap (fillsNumberSlot (.ref C) nn) true := fills_K X hcd hm hs
  have N4 : Looks (model prog w) s.heap (fillsNumberSlot (.type T) nn) b := by
    have := ksp_fillsT (M := model prog w) X h1 h2
    rw [h3] at this
    exact this
  have N5 : Looks (model prog w) s.heap (isSubtype (.type T) (.ref C)) false := looks_subIn X hsub
  have N6 : Looks (model prog w) s.heap (numberSlotInPython (.ref C) nn) true := ksp_inPy X hs hr hp
  have N7 : Looks (model prog w) s.heap (numberSlotInPython (.type T) nn) false := Looks.of_pure rfl
  have N8 : Looks (model prog w) s.heap (typeLookup (.type T) (dunderR nn)) ro := looks_findIn X h2
  have ne : (Value.ref C == Value.type T) = false := Bool.eq_false_iff.mpr fun q => by cases beq_iff_eq.mp q
  obtain ⟨g0, g, d, tt, os⟩ := s
  simp only [binaryOp, hi]
  refine wpAny_holding (wpAny_bind ?_)
  unfold binaryOp1
  refine wpAny_bind (N1.at (wpAny_bind (hu.at (wpAny_bind (N3.at ?_)))))
  simp only [ne, Bool.false_eq_true, if_false]
  cases b <;>
  · ksp_lk
    refine wpAny_mono one (fun r s' z => ?_) fun _ _ e => e
    obtain ⟨v, rfl, hq⟩ := z
    ksp_lk
    exact hq
end
end ZL
namespace PV
open PySem PySem.Spec PyProof.Rows L2 ZL
def numTs : List String := ["NoneType", "bool", "int", "str", "tuple", "list", "dict"]
/-- x op v, v of a built-in type -/
structure BinsA (X : Cx) (j : Nat) (op : Operator) (c : String) (F : Fn) : Prop where
  sf : PySem.W.selfFirst X.K (gaS X.K c) = true
  fn : ∃ f, Own X.K (gaS X.K c) (PySem.dunder op.info.2) f ∧ FnF X.prog X.w X.K X.mg X.base j f F
  rc : ∃ rc, PySem.W.findIn X.K (.ref (gaS X.K c)) (dunderR op.info.2) = some rc ∧ (rc = none ∨ ∃ g : Addr, rc = some (.ref g))
  ns : ∀ T ∈ numTs, PySem.W.subIn X.K (.type T) (.ref (gaS X.K c)) = some false
def numOk (nm : String) : Bool := numTs.all fun T => (numS T nm).isSome
def binA (c : String) (F : Fn) (g : G2) : G2 := fun x y S => match insOf S x with
  | some (c1, _) => if c1 = c then match tyD S y with
      | some (.b T) => if T ∈ numTs then okRes (F [x, y] S) else .no
      | _ => g x y S
    else g x y S
  | none => g x y S
theorem of_binA {X : Cx} {j : Nat} {op : Operator} {c : String} {F : Fn} {g : G2} (hn : numOk op.info.2 = true) (B : BinsA X j op c F) (hr : Room j X.A) (hg : OpF X (binaryOp op) g) : OpF X (binaryOp op) (binA c F g) := fun pins s σ H v w u u' Q I rv rw' ⟨x, y, S, G, sm, rx, ry, h⟩ => by
  unfold binA at h
  split at h
  · rename_i c1 fs hi
    split at h
    · rename_i hc
      subst hc
      split at h
      · rename_i T ht
        split at h
        · rename_i hT
          obtain ⟨a, dx, ws, rfl, hA, rf⟩ := sm.ins hi rx
          obtain ⟨f, hown, Ff⟩ := B.fn
          obtain ⟨rc, hR, hp⟩ := B.rc
          obtain rfl : u = Value.ref a := rv
          obtain ⟨od, J⟩ := inst_at I hA
          have hu := looksTy I sm ry rw' ht
          have hn' : (numS T op.info.2).isSome = true := List.all_eq_true.mp hn T hT
          obtain ⟨b, hb⟩ := Option.isSome_iff_exists.mp hn'
          have q : spF X.K F [.ref a, w] H (fun v H' => (∃ r, v = .ref r) ∧ Q v H') (Est X) := ⟨[x, y], S, G, sm, .cons rx (.cons ry .nil), spO_okRes h⟩
          exact binR I.kIn J hu B.sf hown.at_ hown.fn hR hp hb (B.ns T hT) (thn (run_at (vs := [.ref a, w]) Ff hr rfl passE I (.cons rfl (.cons rw' .nil)) q) fun u2 s' z => cmpBack_ref z)
        · exact h.elim
      · exact hg pins s σ H v w u u' Q I rv rw' ⟨x, y, S, G, sm, rx, ry, h⟩
    · exact hg pins s σ H v w u u' Q I rv rw' ⟨x, y, S, G, sm, rx, ry, h⟩
  · exact hg pins s σ H v w u u' Q I rv rw' ⟨x, y, S, G, sm, rx, ry, h⟩
/-- v op x, v of a built-in type with no such method -/
def rbinA (c : String) (nm : String) (F : Fn) (g : G2) : G2 := fun x y S => match tyD S x with
  | some (.b T) => if numS T nm = some false then match insOf S y with
      | some (c1, _) => if c1 = c then okRes (F [y, x] S) else .no
      | none => g x y S
    else g x y S
  | _ => g x y S
theorem of_rbinA {X : Cx} {j : Nat} {op : Operator} {c : String} {f f' : Addr} {F : Fn} {g : G2} (pl : Plain X.K (gaS X.K c)) (om : Own X.K (gaS X.K c) (PySem.dunder op.info.2) f') (o : Own X.K (gaS X.K c) (dunderR op.info.2) f)
    (Ff : FnF X.prog X.w X.K X.mg X.base j f F) (hr : Room j X.A) (hg : OpF X (binaryOp op) g) : OpF X (binaryOp op) (rbinA c op.info.2 F g) := fun pins s σ H v w u u' Q I rv rw' ⟨x, y, S, G, sm, rx, ry, h⟩ => by
  unfold rbinA at h
  split at h
  · rename_i T ht
    split at h
    · rename_i hT
      split at h
      · rename_i c1 fs hi
        split at h
        · rename_i hc
          subst hc
          obtain ⟨b, dy, ws, rfl, hB, rf⟩ := sm.ins hi ry
          obtain ⟨cd, hcd, hm⟩ := pl
          obtain rfl : u' = Value.ref b := rw'
          obtain ⟨od, J⟩ := inst_at I hB
          have hu := looksTy I sm rx rv ht
          have q : spF X.K F [.ref b, v] H (fun v H' => (∃ r, v = .ref r) ∧ Q v H') (Est X) := ⟨[y, x], S, G, sm, .cons ry (.cons rx .nil), spO_okRes h⟩
          exact after1 (rbinL I.kIn J hu hT (PySem.W.fills_K I.kIn hcd hm om.at_) o.at_ o.fn (thn (run_at (vs := [.ref b, v]) Ff hr rfl passE I (.cons rfl (.cons rv .nil)) q) fun u2 s' z => cmpBack_ref z))
        · exact h.elim
      · exact hg pins s σ H v w u u' Q I rv rw' ⟨x, y, S, G, sm, rx, ry, h⟩
    · exact hg pins s σ H v w u u' Q I rv rw' ⟨x, y, S, G, sm, rx, ry, h⟩
  · exact hg pins s σ H v w u u' Q I rv rw' ⟨x, y, S, G, sm, rx, ry, h⟩
theorem num_mul : numOk "mul" = true := by decide +kernel
theorem num_add : numOk "add" = true := by decide +kernel
theorem num_sub : numOk "sub" = true := by decide +kernel
theorem num_no_mul : (["NoneType", "str", "tuple", "list", "dict"].all fun T => decide (numS T "mul" = some false)) = true := by decide +kernel
theorem num_no_add : (["NoneType", "str", "tuple", "list", "dict"].all fun T => decide (numS T "add" = some false)) = true := by decide +kernel
theorem num_no_sub : (["NoneType", "str", "tuple", "list"].all fun T => decide (numS T "sub" = some false)) = true := by decide +kernel
end PV
set_option Elab.async false
set_option linter.all false
set_option maxRecDepth 100000
set_option maxHeartbeats 4000000
/-! True op x, x of an own class; own operators on all sides -/
namespace ZL
open PySem PySem.Spec PyProof.Rows L2
theorem bool_mul_inst (a : Bool) (l C dx : Addr) : Meets (Builtin.«int.__mul__» ⟨[.bool a, .ref l], []⟩) (fun _ R s => s.heap.get? l = some (PySem.W.instObj C dx) ∧ R (.ok (.ret Value.notImplemented)) s) :=
  .of_wp fun prog w A R s h => by obtain ⟨hp, g, d, tk, os⟩ := s; obtain ⟨hq, h⟩ := h; wp_walk; exact ⟨_, rfl, h⟩
theorem bool_add_inst (a : Bool) (l C dx : Addr) : Meets (Builtin.«int.__add__» ⟨[.bool a, .ref l], []⟩) (fun _ R s => s.heap.get? l = some (PySem.W.instObj C dx) ∧ R (.ok (.ret Value.notImplemented)) s) :=
  .of_wp fun prog w A R s h => by obtain ⟨hp, g, d, tk, os⟩ := s; obtain ⟨hq, h⟩ := h; wp_walk; exact ⟨_, rfl, h⟩
theorem bool_sub_inst (a : Bool) (l C dx : Addr) : Meets (Builtin.«int.__sub__» ⟨[.bool a, .ref l], []⟩) (fun _ R s => s.heap.get? l = some (PySem.W.instObj C dx) ∧ R (.ok (.ret Value.notImplemented)) s) :=
  .of_wp fun prog w A R s h => by obtain ⟨hp, g, d, tk, os⟩ := s; obtain ⟨hq, h⟩ := h; wp_walk; exact ⟨_, rfl, h⟩
section
open PySem.W
variable {prog : Program} {w : World} {A : Around} {E : Value → Shared → Prop} {s : Shared} {K : Frag} {x C f dx : Addr} {od : Option Obj} {nm id : String} {B : Builtin} {y : Bool} {Q : Value → Shared → Prop}
theorem rbinT (slot : Slot "bool" (PySem.dunder nm) id) (entry : entryFor table id = some B) (args : argsOk id ⟨[.bool y, .ref x], []⟩) (ni : Meets (B ⟨[.bool y, .ref x], []⟩) (fun _ R s => s.heap.get? x = some (instObj C dx) ∧ R (.ok (.ret .notImplemented)) s))
    (fills : fillsNumberSlot (.type "bool") nm = pure true) (X : K.In s.heap) (J : InstAt s.heap x (instObj C dx) C od) (hx : s.heap.get? x = some (instObj C dx)) (hC : Looks (model prog w) s.heap (fillsNumberSlot (.ref C) nm) true)
    (hs : findIn K (.ref C) (dunderR nm) = some (some (.ref f))) (hf : isFn K (.ref f) = true) (hsub : subIn K (.ref C) (.type "bool") = some false)
    (h : wpAny (model prog w) A (call (.ref f) [.ref x, .bool y]) (PySem.W.CmpBack Q) E s) : wpAny (model prog w) A (binaryOp1 nm (.bool y) (.ref x)) (fun r s' => ∃ v, r = some v ∧ Q v s') E s := by
  have one := ksp_try X J hs hf h
  have B1 : Looks (model prog w) s.heap (typeOf (.bool y)) (.type "bool") := Looks.of_pure rfl
  have B2 : Looks (model prog w) s.heap (typeOf (.ref x)) (.ref C) := J.type
  have B3 : Looks (model prog w) s.heap (fillsNumberSlot (.type "bool") nm) true := Looks.of_pure fills
  have B5 : Looks (model prog w) s.heap (isSubtype (.ref C) (.type "bool")) false := looks_subIn X hsub
  have B6 : Looks (model prog w) s.heap (numberSlotInPython (.type "bool") nm) false := Looks.of_pure rfl
  have hne : (Value.type "bool" == Value.ref C) = false := Bool.eq_false_iff.mpr fun q => by cases beq_iff_eq.mp q
  have none_ : ∀ {Q : Option Value → Shared → Prop}, Q none s → wpAny (model prog w) A (tryMethod (.bool y) (PySem.dunder nm) (.ref x)) Q E s := fun hq => by
    have ty : s.TypeIs (.bool y) "bool" := rfl
    unfold tryMethod
    exact wpAny_bind (wpAny_callSpecial?_slot ty slot (call_meets slot ty entry args ni ⟨hx, wpAny_pure hq⟩))
  obtain ⟨g0, g, d, tt, os⟩ := s
  unfold binaryOp1
  refine wpAny_bind (B1.at (wpAny_bind (B2.at (wpAny_bind (B3.at ?_)))))
  simp only [hne, Bool.false_eq_true, if_false]
  ksp_lk
  refine none_ ?_
  ksp_lk
  refine wpAny_mono one (fun r s' z => ?_) fun _ _ e => e
  obtain ⟨v, rfl, hq⟩ := z
  ksp_lk
  exact ⟨v, rfl, hq⟩
end
end ZL
namespace PV
open PySem PySem.Spec PyProof.Rows L2 ZL
def rbinBl (c : String) (F : Fn) (g : G2) : G2 := fun x y S => match x with
  | .bl b => match insOf S y with
    | some (c1, _) => if c1 = c then okRes (F [y, .bl b] S) else .no
    | none => g (.bl b) y S
  | x => g x y S
section
variable {X : Cx} {j : Nat} {c : String} {f f' : Addr} {F : Fn} {g : G2}
theorem of_rbinBl {op : Operator} {id : String} {B : Builtin} (slot : Slot "bool" (PySem.dunder op.info.2) id) (entry : entryFor table id = some B) (args : ∀ a b, argsOk id ⟨[a, b], []⟩)
    (ni : ∀ y l C dx, Meets (B ⟨[.bool y, .ref l], []⟩) (fun _ R s => s.heap.get? l = some (PySem.W.instObj C dx) ∧ R (.ok (.ret .notImplemented)) s)) (fills : fillsNumberSlot (.type "bool") op.info.2 = pure true)
    (pl : Plain X.K (gaS X.K c)) (om : Own X.K (gaS X.K c) (PySem.dunder op.info.2) f') (o : Own X.K (gaS X.K c) (dunderR op.info.2) f) (hsub : PySem.W.subIn X.K (.ref (gaS X.K c)) (.type "bool") = some false)
    (Ff : FnF X.prog X.w X.K X.mg X.base j f F) (hr : Room j X.A) (hg : OpF X (binaryOp op) g) : OpF X (binaryOp op) (rbinBl c F g) := fun pins s σ H v w u u' Q I rv rw' ⟨x, y, S, G, sm, rx, ry, h⟩ => by
  unfold rbinBl at h
  split at h
  · rename_i bb
    split at h
    · rename_i c1 fs hi
      split at h
      · rename_i hc
        subst hc
        cases rx
        obtain ⟨b, dy, ws, rfl, hB, rf⟩ := sm.ins hi ry
        obtain ⟨cd, hcd, hm⟩ := pl
        obtain rfl : u' = Value.ref b := rw'
        obtain rfl : u = Value.bool bb := rv
        obtain ⟨od, J⟩ := inst_at I hB
        have q : spF X.K F [.ref b, .bl bb] H (fun v H' => (∃ r, v = .ref r) ∧ Q v H') (Est X) := ⟨[y, .bl bb], S, G, sm, .cons ry (.cons (.bl bb) .nil), spO_okRes h⟩
        exact after1 (rbinT slot entry (args _ _) (ni bb b _ dy) fills I.kIn J J.at_ (PySem.W.fills_K I.kIn hcd hm om.at_) o.at_ o.fn hsub (thn (run_at (vs := [.ref b, .bl bb]) Ff hr rfl passE I (.cons rfl (.cons rfl .nil)) q) fun u2 s' z => cmpBack_ref z))
      · exact h.elim
    · exact hg pins s σ H v w u u' Q I rv rw' ⟨_, _, S, G, sm, rx, ry, h⟩
  · exact hg pins s σ H v w u u' Q I rv rw' ⟨_, _, S, G, sm, rx, ry, h⟩
theorem of_rbinBlM (pl : Plain X.K (gaS X.K c)) (om : Own X.K (gaS X.K c) "__mul__" f') (o : Own X.K (gaS X.K c) "__rmul__" f) (hsub : PySem.W.subIn X.K (.ref (gaS X.K c)) (.type "bool") = some false)
    (Ff : FnF X.prog X.w X.K X.mg X.base j f F) (hr : Room j X.A) (hg : OpF X (binaryOp .Mult) g) : OpF X (binaryOp .Mult) (rbinBl c F g) :=
  of_rbinBl (op := .Mult) PySem.F.slot_bool_mul PySem.F.entry_int_mul (fun a b => PySem.F.args_int_mul_2 a b) bool_mul_inst PySem.F.fills_bool_mul pl om o hsub Ff hr hg
end
end PV
set_option Elab.async false
set_option linter.all false
set_option maxRecDepth 100000
set_option maxHeartbeats 4000000
/-! repr of tuples, and of lists, in which {} may stand -/
namespace PV
open PySem PySem.Spec PyProof.Rows L2 ZL
mutual
def toQ : D → Option PyData
  | .non => some .none
  | .bl b => some (.bool b)
  | .int i => some (.int i)
  | .str x => some (.str x)
  | .tup xs => (toQs xs).map .tuple
  | .dic0 => some (.dict [])
  | .lst _ => none
  | .src _ => none
  | .hob _ => none
  | .exc _ _ => none
  | .obj _ _ => none
  | .loc _ => none
  | .cls _ => none
  | .fnc _ => none
  | .ty _ => none
def toQs : List D → Option (List PyData)
  | [] => some []
  | x :: xs => match toQ x with
    | some p => (toQs xs).map (p :: ·)
    | none => none
end
section
variable {X : Cx} {pins : List (Addr × Obj)} {σ : L2.St} {H : Hp} {s : Shared} {G : Gh}
mutual
theorem reads_q (I : Inv X pins σ H s) (fr : ∀ a o, G.F a = some o → H a = some o) : ∀ (d : D) (v : V) (u : Value) (p : PyData), Rp X.K G d v → RelV v u → toQ d = some p → ∃ as, Reads s.heap u p as ∧ sysModules ∉ as
  | .non, _, _, _, r0, r, h => by
    cases r0
    cases h
    cases r
    exact ⟨[], .none, by simp⟩
  | .bl b, _, _, _, r0, r, h => by
    cases r0
    cases h
    cases r
    exact ⟨[], .bool b, by simp⟩
  | .int i, _, _, _, r0, r, h => by
    cases r0
    cases h
    obtain ⟨t, rfl⟩ := r
    exact ⟨[], .int i t, by simp⟩
  | .str x, _, _, _, r0, r, h => by
    cases r0
    cases h
    obtain ⟨t, rfl⟩ := r
    exact ⟨[], .str x t, by simp⟩
  | .tup xs, _, _, _, r0, r, h => by
    cases r0 with
    | tup hq ha =>
      rw [toQ] at h
      obtain ⟨ps, hp, rfl⟩ := Option.map_eq_some_iff.mp h
      cases r
      obtain ⟨its, rv, ⟨o, ho, hc, n, hd⟩, _⟩ := I.tuple (SqT.mono hq fr)
      obtain ⟨as, q1, q2⟩ := reads_qs I fr xs _ its ps ha rv hp
      exact ⟨as, .tuple ho hc hd q1, q2⟩
  | .dic0, _, _, _, r0, r, h => by
    cases r0 with
    | dic0 hq =>
      cases h
      cases r
      obtain ⟨_, ns, vs, rel, o, es, ep, h1, h2, h3, h4, h5, h6⟩ := dk_of I.hok (fr _ _ hq)
      cases rel
      have e0 : es.toList = [] := by
        cases hl : es.toList with
        | nil => rfl
        | cons a b => rw [hl] at h5; cases h5
      refine ⟨_, .dict h1 h2.1 h3 (by rw [e0]; exact .nil) (by rw [e0]; exact .nil), ?_⟩
      simpa using fun e => (beq_eq_false_iff_ne.mp ns) e.symm
  | .lst _, _, _, _, _, _, h => by cases h
  | .src _, _, _, _, _, _, h => by cases h
  | .hob _, _, _, _, _, _, h => by cases h
  | .exc _ _, _, _, _, _, _, h => by cases h
  | .obj _ _, _, _, _, _, _, h => by cases h
  | .loc _, _, _, _, _, _, h => by cases h
  | .cls _, _, _, _, _, _, h => by cases h
  | .fnc _, _, _, _, _, _, h => by cases h
  | .ty _, _, _, _, _, _, h => by cases h
theorem reads_qs (I : Inv X pins σ H s) (fr : ∀ a o, G.F a = some o → H a = some o) : ∀ (ds : List D) (vs : List V) (us : List Value) (ps : List PyData), Rps X.K G ds vs → Vals vs us → toQs ds = some ps → ∃ as, ReadsAll s.heap us ps as ∧ sysModules ∉ as
  | [], _, _, _, r0, r, h => by
    cases r0
    cases h
    cases r
    exact ⟨[], .nil, by simp⟩
  | d :: ds, _, _, _, r0, r, h => by
    cases r0 with
    | cons h1 h2 =>
      rw [toQs] at h
      split at h
      · rename_i p hp
        obtain ⟨ps, hps, rfl⟩ := Option.map_eq_some_iff.mp h
        cases r with
        | cons r1 r2 =>
          obtain ⟨as, q1, n1⟩ := reads_q I fr d _ _ p h1 r1 hp
          obtain ⟨bs, q2, n2⟩ := reads_qs I fr ds _ _ ps h2 r2 hps
          exact ⟨as ++ bs, .cons q1 q2, by simp [n1, n2]⟩
      · cases h
end
end
def reprT (p : PyData) : Bool := p.showable && decide (p.depth ≤ 60) && decide (p.shown.length ≤ sizeLine)
def reprQ (g : Fn) : Fn := fun ds S => match ds with
  | [.tup xs] => match toQs xs with
    | some ps => if reprT (.tuple ps) = true then .ok (.str (PyData.tuple ps).shown) S else .no
    | none => g [.tup xs] S
  | [.lst (x :: xs)] => match toQs (x :: xs) with
    | some ps => if reprT (.list ps) = true then .ok (.str (PyData.list ps).shown) S else .no
    | none => g [.lst (x :: xs)] S
  | ds => g ds S
theorem cf_reprQ {X : Cx} {g : Fn} (hg : X.A.guards = some []) (hu : X.A.units + 64 < cLine) (hgg : CallF X (.builtin "repr") g) : CallF X (.builtin "repr") (reprQ g) := fun pins s σ H vs us Q I rv ⟨ds, S, G, sm, r, h⟩ => by
  unfold reprQ at h
  split at h
  · split at h
    · rename_i ps hp
      split at h
      · rename_i c
        simp only [reprT, Bool.and_eq_true, decide_eq_true_eq] at c
        obtain ⟨v, rfl, q⟩ := vals1 r
        cases q with
        | tup hq ha =>
          obtain ⟨u, rfl, e⟩ := L2.vals1 rv
          cases e
          obtain ⟨its, rw', ⟨o, ho, hc, n, hd⟩, _⟩ := I.tuple (SqT.mono hq sm.fr)
          obtain ⟨as, q1, q2⟩ := reads_qs I sm.fr _ _ its ps ha rw' hp
          exact repr_of_reads' (Reads.tuple ho hc hd q1) c.1.1 (fun _ => q2) hg (by omega) (fun _ _ z => z) (fun h' u tk hk => ⟨.str _, H, I.kept hk, ⟨u, rfl⟩, h G H _ .refl sm (.str _)⟩) c.2
      · exact h.elim
    · exact hgg pins s σ H vs us Q I rv ⟨_, S, G, sm, r, h⟩
  · split at h
    · rename_i x xs ps hp
      split at h
      · rename_i c
        simp only [reprT, Bool.and_eq_true, decide_eq_true_eq] at c
        obtain ⟨v, rfl, q⟩ := vals1 r
        cases q with
        | lst hq ha =>
          obtain ⟨u, rfl, e⟩ := L2.vals1 rv
          cases e
          obtain ⟨its, rw', ⟨o, n, ho, hc, _, hd⟩, _⟩ := I.list (SqL.of (sm.fr _ _ hq))
          obtain ⟨as, q1, q2⟩ := reads_qs I sm.fr _ _ its ps ha rw' hp
          obtain ⟨⟨cs, hz⟩, hdp⟩ := c
          have hz2 : (listText (PyData.shownAll ps)).length ≤ sizeLine := by simpa only [PyData.shown] using hdp
          have rl := Reads.list ho hc hd q1
          obtain ⟨bs, hb, hk⟩ := ReprAllK.of_readsAll (prog := X.prog) (w := X.w) q1 (by simpa [PyData.showable] using cs) (fun _ => q2) (fun t ht => Nat.le_trans (listText_mem_le ht) hz2)
          have hna := not_mem_of_deeper rl (by simp only [PyData.depth]; omega) hb
          simp only [PyData.depth] at hz
          cases its with
          | nil =>
            exfalso
            cases ha
            cases rw'
          | cons y ys =>
            have hh := hk.length_eq
            refine call_repr_slot (by omega) ⟨o, ho, hc⟩ PySem.F.slot_list_repr.toG ?_
            exact call_list_reprK ho hc (by rw [hd]) hna (by simpa using hh) (fun i y e => hk.item i y (by simpa using e)) hg (fun b _ => Clear.nil b) (by show X.A.units + 1 + _ < cLine; omega) (fun _ _ z => z) (fun h' u tk hk => ⟨_, _, rfl, ⟨.str _, H, I.kept hk, ⟨u, rfl⟩, h G H _ .refl sm (.str _)⟩⟩) hz2
      · exact h.elim
    · exact hgg pins s σ H vs us Q I rv ⟨_, S, G, sm, r, h⟩
  · exact hgg pins s σ H vs us Q I rv ⟨_, S, G, sm, r, h⟩
end PV
set_option Elab.async false
set_option linter.all false
set_option maxRecDepth 100000
set_option maxHeartbeats 4000000
/-! x in (y, z, ..) where items are data of any depth -/
namespace PV
open PySem PySem.Spec PyProof.Rows L2 ZL
def inT (neg : Bool) (g : G2) : G2 := fun x y S => match y with
  | .tup ys => match toP x with
    | some p => match toPs ys with
      | some qs => if SeqAt.shaped p = true ∧ SeqAt.shaped (.tuple qs) = true then .ok (.bl (neg ^^ qs.any fun q => PyData.eqv q p)) S else .no
      | none => g x (.tup ys) S
    | none => g x (.tup ys) S
  | y => g x y S
section
variable {X : Cx} {g : G2}
theorem of_inT (hu : X.A.units + 65 < cLine) (hg : OpF X (compareOp .In) g) : OpF X (compareOp .In) (inT false g) := fun pins s σ H v w u u' Q I rv rw' ⟨x, y, S, G, sm, rx, ry, h⟩ => by
  unfold inT at h
  split at h
  · split at h
    · rename_i p hp
      split at h
      · rename_i qs hq
        split at h
        · rename_i c
          cases ry with
          | tup h1 r =>
            obtain ⟨as, e1⟩ := Dp.reads I p _ _ (Rp.dp sm.fr _ _ _ rx hp) rv
            obtain ⟨bs, e2⟩ := Dp.reads I (.tuple qs) _ _ (.tup (SqT.mono h1 sm.fr) (Rps.dp sm.fr _ _ _ r hq)) rw'
            exact SeqAt.in_tuple_reads e2 e1 (SeqAt.canLay_of_shaped c.2) (SeqAt.canLay_of_shaped c.1) (room_in_shaped c.1 hu) ⟨.bl _, H, I, rfl, h G H _ .refl sm (by rw [Bool.false_xor]; exact .bl _)⟩
        · exact h.elim
      · exact hg pins s σ H v w u u' Q I rv rw' ⟨_, _, S, G, sm, rx, ry, h⟩
    · exact hg pins s σ H v w u u' Q I rv rw' ⟨_, _, S, G, sm, rx, ry, h⟩
  · exact hg pins s σ H v w u u' Q I rv rw' ⟨_, _, S, G, sm, rx, ry, h⟩
theorem of_notinT (hu : X.A.units + 65 < cLine) (hg : OpF X (compareOp .NotIn) g) : OpF X (compareOp .NotIn) (inT true g) := fun pins s σ H v w u u' Q I rv rw' ⟨x, y, S, G, sm, rx, ry, h⟩ => by
  unfold inT at h
  split at h
  · split at h
    · rename_i p hp
      split at h
      · rename_i qs hq
        split at h
        · rename_i c
          cases ry with
          | tup h1 r =>
            obtain ⟨as, e1⟩ := Dp.reads I p _ _ (Rp.dp sm.fr _ _ _ rx hp) rv
            obtain ⟨bs, e2⟩ := Dp.reads I (.tuple qs) _ _ (.tup (SqT.mono h1 sm.fr) (Rps.dp sm.fr _ _ _ r hq)) rw'
            exact SeqAt.notIn_tuple_reads e2 e1 (SeqAt.canLay_of_shaped c.2) (SeqAt.canLay_of_shaped c.1) (room_in_shaped c.1 hu) ⟨.bl _, H, I, rfl, h G H _ .refl sm (by rw [Bool.true_xor]; exact .bl _)⟩
        · exact h.elim
      · exact hg pins s σ H v w u u' Q I rv rw' ⟨_, _, S, G, sm, rx, ry, h⟩
    · exact hg pins s σ H v w u u' Q I rv rw' ⟨_, _, S, G, sm, rx, ry, h⟩
  · exact hg pins s σ H v w u u' Q I rv rw' ⟨_, _, S, G, sm, rx, ry, h⟩
end
end PV
set_option Elab.async false
set_option linter.all false
set_option maxRecDepth 100000
set_option maxHeartbeats 4000000
/-! a head's Hook that tells written dicts, and leaves out the tables of code objects -/
namespace ZH
open PySem PySem.W L2
def obsM (lams : List Str) (chk : Frag → Bool) (fn : List He5.DefA) (ds : Dks) (Ka : Frag) : He.AlT × Bool := (obsY chk fn ds (dropT lams Ka), tabsB lams Ka (dropT lams Ka))
def SaysM (lams : List Str) (chk : Frag → Bool) (fn : List He5.DefA) (ds : Dks) (w : World) (Ka : Frag) : Prop := obsM lams chk fn ds Ka = ((He5.valA fn, ds.map fun d => some (He.keysIn w.params d.2)), true)
def obsMG (n : Nat) (lams : List Str) (chk : Frag → Bool) (fn : List He5.DefA) (ds : Dks) (g : Addr → Option Obj) : He.AlT × Bool := obsM lams chk fn ds (He.frG g (He5.asA g n))
def hookM (n : Nat) (lams : List Str) (chk : Frag → Bool) (fn : List He5.DefA) (ds : Dks) : PySem.W.Hook where
  α := He.AlT × Bool
  obs := fun s => obsMG n lams chk fn ds s.heap.get?
  val := fun w => ((He5.valA fn, ds.map fun (d : Str × List Str) => some (He.keysIn w.params d.2)), true)
  says := fun w h => ∃ K : Frag, K.In h ∧ SaysM lams chk fn ds w K
  of := fun _ _ e => ⟨_, He.frG_in, e⟩
  keeps := fun _ _ _ z k => z.elim fun K q => ⟨K, Frag.In.keeps q.1 k, q.2⟩
theorem obsMG_eq {n : Nat} {lams : List Str} {chk : Frag → Bool} {fn : List He5.DefA} {ds : Dks} {g : Addr → Option Obj} {s : Shared} (h : ∀ a, g a = s.heap.get? a) : obsMG n lams chk fn ds g = (hookM n lams chk fn ds).obs s := by
  rw [show g = s.heap.get? from funext h] <;> rfl
section
variable {lams : List Str} {chk : Frag → Bool} {fn : List He5.DefA} {ds : Dks} {w : World} {Ka : Frag}
theorem SaysM.y (c : SaysM lams chk fn ds w Ka) : SaysY chk fn ds w (dropT lams Ka) := congrArg (fun z : He.AlT × Bool => z.1) c
theorem SaysM.t (c : SaysM lams chk fn ds w Ka) : tabsB lams Ka (dropT lams Ka) = true := congrArg (fun z : He.AlT × Bool => z.2) c
end
end ZH
set_option Elab.async false
set_option linter.all false
set_option maxRecDepth 100000
set_option maxHeartbeats 4000000
/-! cls(e, ..), cls a local name; text.upper(), text.count(text) -/
namespace PV
open PySem PySem.Spec PyProof.Rows L2 ZL
def mkL (c : String) (g : Fn) (i : Nat) (ms : MA) : ME := fun ρ S => match ρ[i]? with
  | some (some x) => if isCl c x = true then (ms ρ S).bind fun ds S1 => g ds S1 else .no
  | _ => .no
theorem qe_mkL {X : Cx} (i : Nat) {x : Str} {p pos : Pos} {c : String} {F g : Fn} {j : Nat} {f : Addr} {e : Expr} {es : List Expr} {ms : MA} (hg : MkRd X c F g) (M : Mk X.K (gaS X.K c) f) (Ff : FnF X.prog X.w X.K X.mg X.base j f F) (hr : Room (j + 1) X.A) (ha : QA X (e :: es) ms)
    (hN : X.N[i]? = some x := by rfl) (hv : Vis X.env.scope x := by first | exact .inl rfl | exact .inr (.inl rfl) | exact .inr (.inr rfl)) (hd : (x == ("__debug__" : Str)) = false := by decide) (hcd : (x == ("__classdict__" : Str)) = false := by decide)
    (he : starEach (e :: es) X.env = (false, eval e X.env) :: starEach es X.env := by rfl) (hpl : (backTo pos (starEach es X.env)).any (·.1) = false := by rfl) :
    QE X (.Call (.Name x p) (e :: es) [] pos) (mkL c g i ms) := ⟨fun pins s σ H Q I z => by
  obtain ⟨ρ, S, G, sm, re, h⟩ := z
  unfold mkL at h
  match hx : ρ[i]?, h with
  | some (some d), h =>
    simp only at h
    split at h
    · rename_i hc
      obtain ⟨v, h1, h2⟩ := re.get hx
      refine wpAny_Call_Name_kw (thn ((pe_var hN hv hd hcd).run pins s σ H (fun w H' => w = v ∧ H' = H) I ⟨v, h1, rfl, rfl⟩) fun u s1 k => ?_)
      obtain ⟨w, H', I1, rw', rfl, rfl⟩ := k
      obtain ⟨rfl, rfl⟩ := isCl_rp hc h2
      cases rw'
      refine PySem.W.callWith_K (h₀ := X.base) I1.ok.mod.kin M.kp (thn (ha.run pos pins _ σ _ _ (I1.tok _) ⟨ρ, S, G, sm, re, (sat.bind h).imp fun vs H2 w => w⟩) fun us s2 ⟨vs, H2, I2, r, q⟩ => ⟨I2.kIn, ?_⟩) he hpl
      obtain ⟨ds, S1, G1, le1, sm1, r1, q1⟩ := q
      exact StX.run_makeR M Ff hr passE I2 r (hg sm1 r1 q1)
    · exact h.elim
  | some none, h => exact h.elim
  | none, h => exact h.elim⟩
section
variable {X : Cx} {o e : Expr} {mo m : ME} {apos pos : Pos}
def uprE (mo : ME) : ME := fun ρ S => (mo ρ S).bind fun x S1 => match x with
  | .str z => if z.length ≤ 5592405 then .ok (.str (Txt.upper z)) S1 else .no
  | _ => .no
theorem qe_upr (ho : QE X o mo) (hbase : attributeBase o "upper" X.env (eval o X.env) = eval o X.env := by rfl) (hline : (apos.endLine == pos.line) = true := by rfl) : QE X (.Call (.Attribute o "upper" apos) [] [] pos) (uprE mo) :=
  qe_of (pe_upper ho hbase hline) fun ρ S G σ H Q sm re h => by
    refine ⟨ρ, S, G, sm, re, (sat.bind h).imp fun v H1 w => ?_⟩
    obtain ⟨x, S1, G1, le1, sm1, r1, q1⟩ := w
    split at q1
    · split at q1
      · rename_i hc
        cases r1
        exact ⟨⟨_, rfl⟩, _, rfl, rfl, hc, q1 G1 H1 _ .refl sm1 (.str _)⟩
      · exact q1.elim
    · exact q1.elim
def countG : G2 := fun x y S => match x, y with
  | .str a, .str b => .ok (.int (Txt.count a b)) S
  | _, _ => .no
theorem mf_count : Mt1 X "str.count" countG := fun pins s σ H v vs u us Q I rv rs ⟨x, y, w, S, G, sm, rx, ev, ry, h⟩ => by
  subst ev
  unfold countG at h
  split at h
  · cases rx; cases ry
    exact mt_count pins s σ H _ _ u us Q I rv rs ⟨_, _, rfl, rfl, h G H _ .refl sm (.int _)⟩
  · exact h.elim
theorem qe_count (ho : QE X o mo) (he : QE X e m) (hs : starEach [e] X.env = [(false, eval e X.env)] := by rfl) (hbase : attributeBase o "count" X.env (eval o X.env) = eval o X.env := by rfl) (hline : (apos.endLine == pos.line) = true := by rfl) :
    QE X (.Call (.Attribute o "count" apos) [e] [] pos) (mthS countG mo m) := qe_mthS F.slot_str_count F.type_str_count mf_count ho he hs hbase hline
end
end PV
namespace PV
open PySem PySem.Spec PyProof.Rows L2 ZL
/-- text * 2 -/
def mulS (g : G2) : G2 := fun x y S => match x, y with
  | .str a, .int k => if k = 2 ∧ a.length ≤ 1000 then .ok (.str (a ++ a)) S else .no
  | x, y => g x y S
theorem twice_str (a : Str) : (⟨(List.replicate (Int.toNat 2) a.cps).foldl (· ++ ·) #[]⟩ : Str) = a ++ a := by
  show (⟨(#[] ++ a.cps) ++ a.cps⟩ : Str) = ⟨a.cps ++ a.cps⟩
  simp
theorem of_mulS {X : Cx} {g : G2} (hg : OpF X (binaryOp .Mult) g) : OpF X (binaryOp .Mult) (mulS g) := fun pins s σ H v w u u' Q I rv rw' ⟨x, y, S, G, sm, rx, ry, h⟩ => by
  unfold mulS at h
  split at h
  · rename_i a k
    split at h
    · rename_i c
      obtain ⟨rfl, hl⟩ := c
      cases rx; cases ry
      obtain ⟨t, rfl⟩ := rv
      obtain ⟨t2, rfl⟩ := rw'
      have q := h G H _ .refl sm (.str (a ++ a))
      refine PySem.P.mul_str (by decide) (fun _ _ => ?_) (fun _ _ => ?_) ?_
      · have e : ((2 : Int) ^ 63 - 1) / 2 = 4611686018427387903 := by decide
        rw [e]
        omega
      · show Builtin.Str.tooLong (a.length * 2) = false
        exact decide_eq_false (by have e : sizeLine = 16777216 := by decide
                                  omega)
      · rw [if_neg (by decide)]
        by_cases c0 : a.length = 0
        · have c1 : ((2 : Int) == 1 || a.length == 0) = true := by rw [c0]; rfl
          rw [if_pos c1]
          have e : a ++ a = a := by
            obtain ⟨z⟩ := a
            have z0 : z = #[] := Array.size_eq_zero_iff.mp c0
            subst z0
            rfl
          rw [e] at q
          exact ⟨.str a, H, I, ⟨t, rfl⟩, q⟩
        · have c1 : ((2 : Int) == 1 || a.length == 0) = false := by
            have : (a.length == 0) = false := beq_eq_false_iff_ne.mpr c0
            rw [this]; rfl
          rw [if_neg (by rw [c1]; decide), twice_str]
          refine ⟨?_, ⟨.str (a ++ a), H, I.tok _, ⟨_, rfl⟩, q⟩⟩
          have e : sizeLine = 16777216 := by decide
          have e2 : (a ++ a).length = a.length + a.length := by
            show (a.cps ++ a.cps).size = _
            rw [Array.size_append]
            rfl
          first | omega | exact decide_eq_false (by omega) | (show ¬ _; omega)
    · exact h.elim
  · exact hg pins s σ H v w u u' Q I rv rw' ⟨_, _, S, G, sm, rx, ry, h⟩
end PV
set_option Elab.async false
set_option linter.all false
set_option maxRecDepth 100000
set_option maxHeartbeats 4000000
/-! C.m(k = v, ..) of a classmethod -/
namespace PV
open PySem PySem.Spec PyProof.Rows L2 ZL
section
variable {X : Cx} {c : String} {F : Fn} {j : Nat} {o : Expr} {mo : ME} {ms : MA} {apos pos : Pos} {m : Str} {p g : Addr} {mc : Value} {pl : Sem Bool} {kws : List Keyword} {ks : List Str}
theorem qe_cmK (hrd : ClX.CRead X.K (gaS X.K c) mc) (hcm : ClX.CMet X.K (gaS X.K c) mc m p g) (Ff : FnKO X.prog X.w X.K X.mg X.base j g 1 ks F) (hr : Room j X.A) (ho : QE X o mo) (ha : QK X kws ms)
    (hall : (backToKw pos (keywordEach kws X.env)).all (·.1.isSome) = true := by rfl) (hks : (backToKw pos (keywordEach kws X.env)).filterMap (·.1) = ks := by rfl)
    (hpl : ((backTo pos (starEach [] X.env)).any (·.1) || (backToKw pos (keywordEach kws X.env)).any (·.1.isNone)) = false := by rfl)
    (ht : eval (.Call (.Attribute o m apos) [] kws pos) X.env = (do let ov ← eval o X.env; standAt apos.atName; let (f, first) ← holding [ov] (getMethod ov m pl); callWith pos f first (backTo pos (starEach [] X.env)) (backToKw pos (keywordEach kws X.env))) := by rfl) :
    QE X (.Call (.Attribute o m apos) [] kws pos) (cmE c (ofLen (ks.length + 1) F) mo ms) := by
  obtain ⟨fd, ps, gg, gV, sp, Fk, hb, hsp⟩ := Ff
  refine ⟨fun pins s σ H Q I z => ?_⟩
  obtain ⟨ρ, S, G, sm, re, h⟩ := z
  refine PySem.W.methodCall_KW (pl := pl) (thn (ho.run pins s σ H _ I ⟨ρ, S, G, sm, re, sat.bind h⟩) fun u s1 k => ?_) ht
  obtain ⟨v, H1, I1, rv, x, S1, G1, le1, sm1, r1, q1⟩ := k
  split at q1
  · rename_i hc
    obtain ⟨rfl, rfl⟩ := isCl_rp hc r1
    obtain rfl : u = Value.ref (gaS X.K c) := rv
    refine ClX.getmethcm_ok I1 hrd hcm fun s2 I2 => ?_
    refine PySem.W.callWith_of (P := fun h => PySem.W.MethP X.K s1.heap.objs.size g (.ref (gaS X.K c)) h) hpl (fun h X' => PySem.W.keeps_M hcm.fi h X') (PyProof.Rows.evalArgs_kw2_nil hall ?_)
    refine thn (ha.run pos _ s2 σ H1 (fun zs H2 => zs.length = ks.length ∧ spF X.K F (.ref (gaS X.K c) :: zs) H2 Q (Est X)) I2 ⟨ρ, S1, G1, sm1, re.mono le1.le, (sat.bind (R := Rps X.K) q1).imp fun vs H2 w => ?_⟩) fun ws s3 ⟨zs, H2, I3, rz, l2, q2⟩ => ⟨⟨ClX.pin_at I3, I3.kIn⟩, ?_⟩
    · obtain ⟨ds, S2, G2, le2, sm2, r2, q2⟩ := w
      unfold ofLen at q2
      split at q2
      · rename_i hl
        exact ⟨by rw [r2.length]; simpa using hl, .cls c :: ds, S2, G2, sm2, .cons (.cls c) r2, sat_sp q2⟩
      · exact q2.elim
    · rw [hks]
      have hq := hsp [.ref (gaS X.K c)] zs H2 Q _ q2
      have r2 := hb.rel (vs := [V.ref (gaS X.K c)]) (us := [Value.ref (gaS X.K c)]) (.cons rfl .nil) rz
      have z : wpAny (model X.prog X.w) X.A (call (.ref s1.heap.objs.size) [] (ks.zip ws)) (EP X ((s1.heap.objs.size, PySem.W.methodObj (.ref g) (.ref (gaS X.K c))) :: pins) σ Q) X.xe s3 :=
        wpAny_call (PySem.W.method_call (ClX.pin_at I3) (codeAny_mono (Fk.run X.A X.stack s3 H2 ⟨[.ref (gaS X.K c)], ks.zip ws⟩ (gg [.ref (gaS X.K c)] ws) (gV [.ref (gaS X.K c)] zs) Q _ hr I3.env0 (hb.to s3 [.ref (gaS X.K c)] ws I3.kIn rfl (rz.length.symm.trans l2)) r2 hq) fun r s' hq => by
          cases r with
          | error e => exact passE _ σ H2 s3 e s' I3 hq
          | ok fl =>
            cases fl with
            | ret u => exact I3.after hq
            | next => exact False.elim hq
            | brk => exact False.elim hq
            | cont => exact False.elim hq))
      exact thn z fun _ _ y => ClX.unpinE y
  · exact q1.elim
end
end PV
set_option Elab.async false
set_option linter.all false
set_option maxRecDepth 100000
set_option maxHeartbeats 4000000
/-! len(set(xs)) of any texts -/
namespace PV
open PySem PySem.Spec PyProof.Rows L2 ZL
def lnsF (m : ME) : ME := fun ρ S => (m ρ S).bind fun d S1 => match d with
  | .lst xs => match asStrs xs with
    | some ys => if ys.length < 4000 then .ok (.int (ZS.dN ys ys.length)) S1 else .no
    | none => .no
  | _ => .no
theorem qe_lnsF {X : Cx} {a : Expr} {m : ME} {p p2 q pos : Pos} (hm : X.mg "len" = none) (hm2 : X.mg "set" = none) (ha : QE X a m) (hc : X.calm = true := by rfl) (hg : Gl X "len" := by rfl) (hg2 : Gl X "set" := by rfl)
    (na : starEach [a] X.env = (false, eval a X.env) :: starEach [] X.env := by rfl) : QE X (.Call (.Name "len" p) [.Call (.Name "set" p2) [a] [] q] [] pos) (lnsF m) :=
  qe_of (pe_lenS hc hg hm hg2 hm2 ha na) fun ρ S G σ H Q sm re h => by
  refine ⟨ρ, S, G, sm, re, (sat.bind h).imp fun v H1 w => ?_⟩
  obtain ⟨x, S1, G1, le1, sm1, r1, q1⟩ := w
  split at q1
  · split at q1
    · rename_i xs ys hys
      split at q1
      · rename_i hc
        cases r1 with
        | lst h1 r =>
          rw [asStrs_rp hys r] at h1
          exact ⟨_, ys, rfl, SqL.of (sm1.fr _ _ h1), hc, q1 G1 H1 _ .refl sm1 (.int _)⟩
      · exact q1.elim
    · exact q1.elim
  · exact q1.elim
end PV
set_option Elab.async false
set_option linter.all false
set_option maxRecDepth 100000
set_option maxHeartbeats 4000000
/-! repr of a list whose items are each with {} or with lists -/
namespace PV
open PySem PySem.Spec PyProof.Rows L2 ZL
def toM (d : D) : Option PyData := match toQ d with
  | some p => some p
  | none => match toP d with
    | some p => if p.hasDict = false then some p else none
    | none => none
def toMs : List D → Option (List PyData)
  | [] => some []
  | x :: xs => match toM x with
    | some p => (toMs xs).map (p :: ·)
    | none => none
section
variable {X : Cx} {pins : List (Addr × Obj)} {σ : L2.St} {H : Hp} {s : Shared} {G : Gh}
theorem reads_m (I : Inv X pins σ H s) (fr : ∀ a o, G.F a = some o → H a = some o) : ∀ (ds : List D) (vs : List V) (us : List Value) (ps : List PyData), Rps X.K G ds vs → Vals vs us → toMs ds = some ps → PyData.showableAll ps = true → (∀ t ∈ PyData.shownAll ps, t.length ≤ sizeLine) →
    ∃ as bs, ReadsAll s.heap us ps as ∧ ReadAtMost s.heap (PyData.depthAll ps) bs ∧ ReprAllK X.prog X.w bs s.heap (PyData.depthAll ps) us (PyData.shownAll ps)
  | [], _, _, _, r0, r, h, _, _ => by
    cases r0
    cases h
    cases r
    exact ⟨[], [], .nil, (fun _ h => nomatch h), by simp only [PyData.shownAll]; exact .nil⟩
  | d :: ds, _, _, _, r0, r, h, hs, hz => by
    cases r0 with
    | cons h1 h2 =>
      rw [toMs] at h
      split at h
      · rename_i p hp
        obtain ⟨ps, hps, rfl⟩ := Option.map_eq_some_iff.mp h
        cases r with
        | cons r1 r2 =>
          have hs' : p.showable = true ∧ PyData.showableAll ps = true := by simpa [PyData.showableAll] using hs
          obtain ⟨as, q1, n1⟩ : ∃ as, Reads s.heap _ p as ∧ (p.hasDict = true → sysModules ∉ as) := by
            unfold toM at hp
            split at hp
            · rename_i p' hq
              cases hp
              obtain ⟨as, q1, n1⟩ := reads_q I fr d _ _ p h1 r1 hq
              exact ⟨as, q1, fun _ => n1⟩
            · split at hp
              · rename_i p' hq
                split at hp
                · rename_i hd
                  cases hp
                  obtain ⟨as, q1⟩ := Dp.reads I p _ _ (Rp.dp fr d _ p h1 hq) r1
                  exact ⟨as, q1, fun z => by rw [hd] at z; cases z⟩
                · cases hp
              · cases hp
          obtain ⟨b1, hb1, k1⟩ := ReprK.of_reads (prog := X.prog) (w := X.w) q1 hs'.1 n1 (hz _ (by simp only [PyData.shownAll]; exact List.mem_cons_self ..))
          obtain ⟨bs, b2, q2, hb2, k2⟩ := reads_m I fr ds _ _ ps h2 r2 hps hs'.2 (fun t ht => hz t (by simp only [PyData.shownAll]; exact List.mem_cons_of_mem _ ht))
          refine ⟨as ++ bs, b1 ++ b2, .cons q1 q2, ?_, ?_⟩
          · intro b hm
            simp only [PyData.depthAll]
            rcases List.mem_append.mp hm with hm | hm
            · obtain ⟨d', as', r', hd'⟩ := hb1 b hm
              exact ⟨d', as', r', Nat.le_trans hd' (Nat.le_max_left _ _)⟩
            · obtain ⟨d', as', r', hd'⟩ := hb2 b hm
              exact ⟨d', as', r', Nat.le_trans hd' (Nat.le_max_right _ _)⟩
          · simp only [PyData.depthAll, PyData.shownAll]
            exact .cons ((k1.more fun b hb => List.mem_append_left _ hb).level_le (Nat.le_max_left _ _)) (k2.more_le (fun b hb => List.mem_append_right _ hb) (Nat.le_max_right _ _))
      · cases h
end
def reprM (g : Fn) : Fn := fun ds S => match ds with
  | [.lst (x :: xs)] => match toMs (x :: xs) with
    | some ps => if reprT (.list ps) = true then .ok (.str (PyData.list ps).shown) S else .no
    | none => g [.lst (x :: xs)] S
  | ds => g ds S
theorem cf_reprM {X : Cx} {g : Fn} (hg : X.A.guards = some []) (hu : X.A.units + 64 < cLine) (hgg : CallF X (.builtin "repr") g) : CallF X (.builtin "repr") (reprM g) := fun pins s σ H vs us Q I rv ⟨ds, S, G, sm, r, h⟩ => by
  unfold reprM at h
  split at h
  · split at h
    · rename_i x xs ps hp
      split at h
      · rename_i c
        simp only [reprT, Bool.and_eq_true, decide_eq_true_eq] at c
        obtain ⟨v, rfl, q⟩ := vals1 r
        cases q with
        | lst hq ha =>
          obtain ⟨u, rfl, e⟩ := L2.vals1 rv
          cases e
          obtain ⟨its, rw', ⟨o, n, ho, hc, _, hd⟩, _⟩ := I.list (SqL.of (sm.fr _ _ hq))
          obtain ⟨⟨cs, hz⟩, hdp⟩ := c
          have hz2 : (listText (PyData.shownAll ps)).length ≤ sizeLine := by simpa only [PyData.shown] using hdp
          obtain ⟨as, bs, q1, hb, hk⟩ := reads_m I sm.fr _ _ its ps ha rw' hp (by simpa [PyData.showable] using cs) (fun t ht => Nat.le_trans (listText_mem_le ht) hz2)
          have rl := Reads.list ho hc hd q1
          have hna := not_mem_of_deeper rl (by simp only [PyData.depth]; omega) hb
          simp only [PyData.depth] at hz
          cases its with
          | nil =>
            exfalso
            cases ha
            cases rw'
          | cons y ys =>
            have hh := hk.length_eq
            refine call_repr_slot (by omega) ⟨o, ho, hc⟩ PySem.F.slot_list_repr.toG ?_
            exact call_list_reprK ho hc (by rw [hd]) hna (by simpa using hh) (fun i y e => hk.item i y (by simpa using e)) hg (fun b _ => Clear.nil b) (by show X.A.units + 1 + _ < cLine; omega) (fun _ _ z => z) (fun h' u tk hk => ⟨_, _, rfl, ⟨.str _, H, I.kept hk, ⟨u, rfl⟩, h G H _ .refl sm (.str _)⟩⟩) hz2
      · exact h.elim
    · exact hgg pins s σ H vs us Q I rv ⟨_, S, G, sm, r, h⟩
  · exact hgg pins s σ H vs us Q I rv ⟨_, S, G, sm, r, h⟩
end PV
set_option Elab.async false
set_option linter.all false
set_option maxRecDepth 100000
set_option maxHeartbeats 0
namespace K05
open PySem PySem.W L2
def top (i : Nat) : Stmt := PySem.Challenge.pw_lapseeds_k05_rings_refused_and_read.main.body.getD i (.Pass ⟨0, 0, 0, 0⟩)
abbrev s_is_whole : Stmt := top 3
abbrev s_is_between : Stmt := top 4
abbrev s_are_signs : Stmt := top 19
abbrev s_RingD_initD : Stmt := inClass (top 21) 1
abbrev s_number_in : Stmt := top 5
abbrev s_Ring_read : Stmt := inClass (top 21) 2
abbrev s_RingD_eqD : Stmt := inClass (top 21) 11
abbrev s_RingD_strD : Stmt := inClass (top 21) 12
abbrev s_law_bag : Stmt := top 23
abbrev s_law_draw : Stmt := top 24
abbrev s_law_pick : Stmt := top 25
abbrev s_law_signs : Stmt := top 26
abbrev s_law_heard : Stmt := top 27
abbrev s_law_is_text : Stmt := top 28
abbrev s_law_bent : Stmt := top 29
abbrev s_law_made_wrong : Stmt := top 30
abbrev s_Ring_need_pit : Stmt := inClass (top 21) 3
abbrev s_Ring_player_of : Stmt := inClass (top 21) 4
abbrev s_need_player : Stmt := top 20
abbrev s_Ring_store_of : Stmt := inClass (top 21) 5
abbrev s_Ring_opposite : Stmt := inClass (top 21) 6
abbrev s_Ring_pits_of : Stmt := inClass (top 21) 7
abbrev s_law_asked_wrong : Stmt := top 31
abbrev s_law : Stmt := top 32
abbrev s_BadPitD_initD : Stmt := inClass (top 10) 0
abbrev s_BadPlayerD_initD : Stmt := inClass (top 9) 0
abbrev s_BadRingD_initD : Stmt := inClass (top 8) 0
abbrev s_BadTextD_initD : Stmt := inClass (top 11) 0
def gD (x : Str) (st : Stmt) : He5.DefA := ⟨fun K => He.ga K x, x, x, defArgs st, defBody st, defScope st, [], []⟩
def mD (c m q : Str) (st : Stmt) : He5.DefA := ⟨fun K => He.ma K (He.ga K c) m, m, q, defArgs st, defBody st, defScope st, [], []⟩
def cD (c m q : Str) (st : Stmt) : He5.DefA := ⟨fun K => He5.wf K (He.ga K c) "classmethod" m, m, q, defArgs st, defBody st, defScope st, [], []⟩
def uD (c m q : Str) (st : Stmt) : He5.DefA := ⟨fun K => He5.wf K (He.ga K c) "staticmethod" m, m, q, defArgs st, defBody st, defScope st, [], []⟩
def fn : List He5.DefA := [gD "is_whole" s_is_whole, gD "is_between" s_is_between, gD "are_signs" s_are_signs, { mD "Ring" "__init__" "Ring.__init__" s_RingD_initD with dfl := [.non] }, gD "number_in" s_number_in, cD "Ring" "read" "Ring.read" s_Ring_read, mD "Ring" "__eq__" "Ring.__eq__" s_RingD_eqD, mD "Ring" "__str__" "Ring.__str__" s_RingD_strD, gD "_law_bag" s_law_bag, gD "_law_draw" s_law_draw, gD "_law_pick" s_law_pick, gD "_law_signs" s_law_signs, gD "_law_heard" s_law_heard, gD "_law_is_text" s_law_is_text, gD "_law_bent" s_law_bent, gD "_law_made_wrong" s_law_made_wrong, mD "Ring" "need_pit" "Ring.need_pit" s_Ring_need_pit, mD "Ring" "player_of" "Ring.player_of" s_Ring_player_of, gD "need_player" s_need_player, mD "Ring" "store_of" "Ring.store_of" s_Ring_store_of, mD "Ring" "opposite" "Ring.opposite" s_Ring_opposite, mD "Ring" "pits_of" "Ring.pits_of" s_Ring_pits_of, gD "_law_asked_wrong" s_law_asked_wrong, gD "law" s_law, mD "BadPit" "__init__" "BadPit.__init__" s_BadPitD_initD, mD "BadPlayer" "__init__" "BadPlayer.__init__" s_BadPlayerD_initD, mD "BadRing" "__init__" "BadRing.__init__" s_BadRingD_initD, mD "BadText" "__init__" "BadText.__init__" s_BadTextD_initD]
abbrev mO (K : Frag) (c m : Str) : Addr := He.ma K (He.ga K c) m
abbrev uO (K : Frag) (c m : Str) : Addr := He5.wf K (He.ga K c) "staticmethod" m
abbrev wO (K : Frag) (c m : Str) : Addr := He5.wf K (He.ga K c) "classmethod" m
def glos : List Str := ["BadPit", "BadPlayer", "BadRing", "BadText", "LapError", "Ring", "_law_asked_wrong", "_law_bag", "_law_bent", "_law_draw", "_law_heard", "_law_is_text", "_law_made_wrong", "_law_pick", "_law_signs", "are_signs", "is_between", "is_whole", "law", "need_player", "number_in"]
def frees : List Str := ["abs", "all", "bool", "enumerate", "int", "isinstance", "len", "list", "range", "repr", "set", "str", "tuple"]
def meths : List (Str × Str) := [("BadPit", "__init__"), ("BadPlayer", "__init__"), ("BadRing", "__init__"), ("BadText", "__init__"), ("Ring", "__eq__"), ("Ring", "__str__"), ("Ring", "need_pit"), ("Ring", "opposite"), ("Ring", "pits_of"), ("Ring", "player_of"), ("Ring", "store_of")]
def intcs : List (Str × Int) := [("LEAST_SIZE", 2), ("MOST_SIZE", 6)]
def strcs : List (Str × Str) := [("FIGURES", "0123456789"), ("PITS", "ab"), ("SIGNS", "abABo"), ("STORES", "AB")]
def clss : List Str := ["Ring"]
def mkrs : List Str := ["Ring"]
def noats : List (Str × Str) := [("Ring", "across"), ("Ring", "signs")]
def cms : List (Str × Str) := [("Ring", "read")]
def sms : List (Str × Str) := []
def crds : List Str := ["Ring"]
def nes : List Str := ["Ring"]
def gis : List (Str × Str) := []
def selfs : List Str := []
def nofs : List (Str × Str) := [("BadPit", "value"), ("BadPlayer", "value"), ("BadRing", "part"), ("BadText", "line"), ("BadText", "word")]
def tys : List (String × Str × String) := []
def subs : List (String × Str) := [("NoneType", "Ring"), ("bool", "Ring"), ("dict", "Ring"), ("int", "Ring"), ("list", "Ring"), ("str", "Ring"), ("tuple", "Ring")]
def pls : List Str := []
def subc : List (Str × String) := []
def onos : List Str := []
def subx : List (Str × Str) := []
def dvs : List (Str × Str × Str) := []
def kits : List (String × Str) := ([("NoneType", "BadPit"), ("NoneType", "BadPlayer"), ("NoneType", "BadRing"), ("NoneType", "BadText"), ("NoneType", "Ring"), ("bool", "BadPit"), ("bool", "BadPlayer"), ("bool", "BadRing"), ("bool", "BadText"), ("bool", "Ring"), ("dict", "BadPit"), ("dict", "BadPlayer"), ("dict", "BadRing"), ("dict", "BadText"), ("dict", "Ring"), ("int", "BadPit"), ("int", "BadPlayer"), ("int", "BadRing"), ("int", "BadText"), ("int", "Ring"), ("list", "BadPit"), ("list", "BadPlayer"), ("list", "BadRing"), ("list", "BadText"), ("list", "Ring"), ("str", "BadPit"), ("str", "BadPlayer"), ("str", "BadRing"), ("str", "BadText"), ("str", "Ring")] : List (String × Str)) ++ ([("tuple", "BadPit"), ("tuple", "BadPlayer"), ("tuple", "BadRing"), ("tuple", "BadText"), ("tuple", "Ring")] : List (String × Str))
def kitcs : List (Str × String) := [("Ring", "bool"), ("Ring", "int"), ("Ring", "list"), ("Ring", "str")]
def kitos : List (Str × Str × Bool) := [("BadPit", "BadPit", true), ("BadPit", "BadPlayer", false), ("BadPit", "BadRing", false), ("BadPit", "BadText", false), ("BadPlayer", "BadPit", false), ("BadPlayer", "BadPlayer", true), ("BadPlayer", "BadRing", false), ("BadPlayer", "BadText", false), ("BadRing", "BadPit", false), ("BadRing", "BadPlayer", false), ("BadRing", "BadRing", true), ("BadRing", "BadText", false), ("BadText", "BadPit", false), ("BadText", "BadPlayer", false), ("BadText", "BadRing", false), ("BadText", "BadText", true), ("Ring", "BadPit", false), ("Ring", "BadPlayer", false), ("Ring", "BadRing", false), ("Ring", "BadText", false), ("Ring", "Ring", true)]
def ccs : List (Str × Str × Int) := []
def xcs : List Str := ["BadPit", "BadPlayer", "BadRing", "BadText"]
def xis : List Str := ["BadPit", "BadPlayer", "BadRing", "BadText"]
def xns : List Str := []
def xms : List (Str × Str) := [("BadPit", "LapError"), ("BadPlayer", "LapError"), ("BadRing", "LapError"), ("BadText", "LapError")]
def kvs : List Str := []
def lams : List Str := ["_law_made_wrong", "_law_asked_wrong", "law"]
def chk (K : Frag) : Bool := ((xcs.all fun c => PV.xcB K (He.ga K c)) && ((xis.all fun c => PV.oexB K (He.ga K c)) && ((xns.all fun c => excIn K (He.ga K c) PySem.HandSPX.veTail "ValueError.__new__") && ((xms.all fun p => decide (exmOne K (.ref (He.ga K p.1)) (.ref (He.ga K p.2)) = some true)) && ((kvs.all fun c => decide (kitOne K (.ref (He.ga K c)) (.type "ValueError") = some true)) && ((dvs.all fun p => (match nsIn K (He.ga K p.1) p.2.1 with | some (some (.str y _)) => decide (y = p.2.2) | _ => false)) && ((glos.all fun x => (He.Fa.glo x).ok K) && ((frees.all fun x => (He.Fa.free x).ok K) && ((meths.all fun p => (He.Fa.meth p.1 p.2).ok K) && ((intcs.all fun p => (He.Fa.int p.1 p.2).ok K) && ((strcs.all fun p => (He.Fa.str p.1 p.2).ok K) && ((clss.all fun c => (He.Fa.cls c).ok K) && ((mkrs.all fun c => (He.Fa.mkr c).ok K) && ((noats.all fun p => (He.Fa.noat p.1 p.2).ok K) && ((cms.all fun p => He5.wrapB K (He.ga K p.1) "classmethod" "classmethod.__get__" p.2 && fnIn K (wO K p.1 p.2)) && ((sms.all fun p => He5.wrapB K (He.ga K p.1) "staticmethod" "staticmethod.__get__" p.2 && keepIn K (.ref (uO K p.1 p.2))) && ((crds.all fun c => readsIn K (He.ga K c) (.type "type") && He.eqO (specialIn K (.ref (He.ga K c)) "__getattribute__") (some (some (.builtin "type.__getattribute__")))) && ((nes.all fun c => He.eqO (findIn K (.ref (He.ga K c)) "__ne__") (some (some (.builtin "object.__ne__"))) && decide (mroIn K (He.ga K c) (.type "object") = some true)) && ((gis.all fun p => fnIn K (mO K p.1 p.2)) && ((selfs.all fun c => selfFirst K (He.ga K c)) && ((nofs.all fun p => He.eqO (findIn K (.ref (He.ga K p.1)) p.2) (some none)) && ((tys.all fun p => He.eqO (findIn K (.type p.1) p.2.1) (some (some (.builtin p.2.2)))) && ((subs.all fun p => decide (subIn K (.type p.1) (.ref (He.ga K p.2)) = some false)) && ((pls.all fun c => decide ((clsIn K (He.ga K c)).map (fun cd => cd.mro) = some [.ref (He.ga K c), .type "object"])) && ((subc.all fun p => decide (subIn K (.ref (He.ga K p.1)) (.type p.2) = some false)) && ((onos.all fun m => He.eqO (findIn K (.type "object") m) (some none)) && ((subx.all fun p => decide (subIn K (.ref (He.ga K p.1)) (.ref (He.ga K p.2)) = some false)) && ((kits.all fun p => decide (kitOne K (.type p.1) (.ref (He.ga K p.2)) = some false)) && ((kitcs.all fun p => decide (kitOne K (.ref (He.ga K p.1)) (.type p.2) = some false)) && ((kitos.all fun p => decide (kitOne K (.ref (He.ga K p.1)) (.ref (He.ga K p.2.1)) = some p.2.2)) && ((ccs.all fun p => match findCls K (.ref (He.ga K p.1)) (.type "type") p.2.1 with | some (.val (.int i _)) => decide (i = p.2.2) | _ => false) && ((clss.all fun c => He.eqO (findIn K (.ref (He.ga K c)) "__class__") (some (some (.builtin "object.__class__")))) && ((clss.all fun c => decide (mroIn K (He.ga K c) (.type "object") = some true)) && ((He.eqO (specialIn K (.builtin "object.__class__") "__get__") (some (some (.builtin "getset_descriptor.__get__")))) && (decide (takesIn K (.builtin "object.__class__") = some true))))))))))))))))))))))))))))))))))))
structure TX (K : Frag) (mg : Str → Option Value) : Prop where
  says : ZH.SaysZ chk fn K
  xc : ∀ c ∈ xcs, PV.XC K (He.ga K c)
  xi : ∀ c ∈ xis, PV.oexB K (He.ga K c) = true
  xn : ∀ c ∈ xns, excIn K (He.ga K c) PySem.HandSPX.veTail "ValueError.__new__" = true
  xm : ∀ c d, (c, d) ∈ xms → exmOne K (.ref (He.ga K c)) (.ref (He.ga K d)) = some true
  kv : ∀ c ∈ kvs, kitOne K (.ref (He.ga K c)) (.type "ValueError") = some true
  dv : ∀ x k v, (x, k, v) ∈ dvs → ∃ t, nsIn K (He.ga K x) k = some (some (.str v t))
  glo : ∀ x ∈ glos, mg x = some (.ref (He.ga K x))
  free : ∀ x ∈ frees, mg x = none
  meth : ∀ c m, (c, m) ∈ meths → Meth K (He.ga K c) m (mO K c m)
  intc : ∀ x i, (x, i) ∈ intcs → ∃ t, mg x = some (.int i t)
  strc : ∀ x z, (x, z) ∈ strcs → ∃ t, mg x = some (.str z t)
  cl : ∀ c ∈ clss, Cls K (He.ga K c)
  mkr : ∀ c ∈ mkrs, Mk K (He.ga K c) (mO K c "__init__")
  na : ∀ c f, (c, f) ∈ noats → NoAttr K (He.ga K c) f
  cm : ∀ c m, (c, m) ∈ cms → ClX.CMet K (He.ga K c) (.type "type") m (mO K c m) (wO K c m)
  sm : ∀ c m, (c, m) ∈ sms → PV.SMet K (He.ga K c) (.type "type") m (mO K c m) (uO K c m)
  rd : ∀ c ∈ crds, ClX.CRead K (He.ga K c) (.type "type")
  ne : ∀ c ∈ nes, ZL.OwnNe K (He.ga K c)
  gi : ∀ c m, (c, m) ∈ gis → fnIn K (mO K c m) = true
  sf : ∀ c ∈ selfs, selfFirst K (He.ga K c) = true
  nf : ∀ c m, (c, m) ∈ nofs → findIn K (.ref (He.ga K c)) m = some none
  ty : ∀ T m i, (T, m, i) ∈ tys → findIn K (.type T) m = some (some (.builtin i))
  sb : ∀ T c, (T, c) ∈ subs → subIn K (.type T) (.ref (He.ga K c)) = some false
  pl : ∀ c ∈ pls, ZL.Plain K (He.ga K c)
  sc : ∀ c T, (c, T) ∈ subc → subIn K (.ref (He.ga K c)) (.type T) = some false
  on : ∀ m ∈ onos, findIn K (.type "object") m = some none
  sx : ∀ c d, (c, d) ∈ subx → subIn K (.ref (He.ga K c)) (.ref (He.ga K d)) = some false
  kt : ∀ T c, (T, c) ∈ kits → kitOne K (.type T) (.ref (He.ga K c)) = some false
  kc : ∀ c T, (c, T) ∈ kitcs → kitOne K (.ref (He.ga K c)) (.type T) = some false
  ko : ∀ c d b, (c, d, b) ∈ kitos → kitOne K (.ref (He.ga K c)) (.ref (He.ga K d)) = some b
  cc : ∀ c f i, (c, f, i) ∈ ccs → ∃ u, ClX.CVal K (He.ga K c) (.type "type") f (.int i) u
  ca : ∀ c ∈ clss, findIn K (.ref (He.ga K c)) "__class__" = some (some (.builtin "object.__class__"))
  ob : ∀ c ∈ clss, mroIn K (He.ga K c) (.type "object") = some true
  cg : specialIn K (.builtin "object.__class__") "__get__" = some (some (.builtin "getset_descriptor.__get__"))
  ct : takesIn K (.builtin "object.__class__") = some true
theorem tx {K : Frag} {mg : Str → Option Value} {h : Heap} (X : K.In h) (G : h.Ns mainGlobals mg) (c : ZH.SaysZ chk fn K) : TX K mg := by
  have z := c.fact
  obtain ⟨z0, z⟩ := He.ba z
  obtain ⟨z1, z⟩ := He.ba z
  obtain ⟨z2, z⟩ := He.ba z
  obtain ⟨z3, z⟩ := He.ba z
  obtain ⟨z4, z⟩ := He.ba z
  obtain ⟨z5, z⟩ := He.ba z
  obtain ⟨z6, z⟩ := He.ba z
  obtain ⟨z7, z⟩ := He.ba z
  obtain ⟨z8, z⟩ := He.ba z
  obtain ⟨z9, z⟩ := He.ba z
  obtain ⟨z10, z⟩ := He.ba z
  obtain ⟨z11, z⟩ := He.ba z
  obtain ⟨z12, z⟩ := He.ba z
  obtain ⟨z13, z⟩ := He.ba z
  obtain ⟨z14, z⟩ := He.ba z
  obtain ⟨z15, z⟩ := He.ba z
  obtain ⟨z16, z⟩ := He.ba z
  obtain ⟨z17, z⟩ := He.ba z
  obtain ⟨z18, z⟩ := He.ba z
  obtain ⟨z19, z⟩ := He.ba z
  obtain ⟨z20, z⟩ := He.ba z
  obtain ⟨z21, z⟩ := He.ba z
  obtain ⟨z22, z⟩ := He.ba z
  obtain ⟨z23, z⟩ := He.ba z
  obtain ⟨z24, z⟩ := He.ba z
  obtain ⟨z25, z⟩ := He.ba z
  obtain ⟨z26, z⟩ := He.ba z
  obtain ⟨z27, z⟩ := He.ba z
  obtain ⟨z28, z⟩ := He.ba z
  obtain ⟨z29, z⟩ := He.ba z
  obtain ⟨z30, z⟩ := He.ba z
  obtain ⟨z31, z⟩ := He.ba z
  obtain ⟨z32, z⟩ := He.ba z
  obtain ⟨z33, z34⟩ := He.ba z
  exact { says := c, xc := (fun c hc => PV.xc_of (List.all_eq_true.mp z0 c hc)), xi := (fun c hc => List.all_eq_true.mp z1 c hc), xn := (fun c hc => List.all_eq_true.mp z2 c hc), xm := (fun c d hp => of_decide_eq_true (List.all_eq_true.mp z3 (c, d) hp)), kv := (fun c hc => of_decide_eq_true (List.all_eq_true.mp z4 c hc)), dv := (fun x k v hp => PV.dval_of (List.all_eq_true.mp z5 (x, k, v) hp)), glo := (fun x hx => He.glo_ok X G (List.all_eq_true.mp z6 x hx)), free := (fun x hx => He.free_ok X G (List.all_eq_true.mp z7 x hx)), meth := (fun c m hp => He.meth_ok (List.all_eq_true.mp z8 (c, m) hp)), intc := (fun x i hp => He.int_ok X G (List.all_eq_true.mp z9 (x, i) hp)), strc := (fun x i hp => He.str_ok X G (List.all_eq_true.mp z10 (x, i) hp)), cl := (fun c hc => He.cls_ok (List.all_eq_true.mp z11 c hc)), mkr := (fun c hc => He.mkr_ok (List.all_eq_true.mp z12 c hc)), na := (fun c f hp => He.noat_ok (List.all_eq_true.mp z13 (c, f) hp)), cm := (fun c m hp => He5.cmet_of (He.ba (List.all_eq_true.mp z14 (c, m) hp)).1 (He.ba (List.all_eq_true.mp z14 (c, m) hp)).2), sm := (fun c m hp => PV.smet_of (He.ba (List.all_eq_true.mp z15 (c, m) hp)).1 (He.ba (List.all_eq_true.mp z15 (c, m) hp)).2), rd := (fun c hc => ⟨(He.ba (List.all_eq_true.mp z16 c hc)).1, He.eqO_ok (He.ba (List.all_eq_true.mp z16 c hc)).2⟩), ne := (fun c hc => ⟨He.eqO_ok (He.ba (List.all_eq_true.mp z17 c hc)).1, of_decide_eq_true (He.ba (List.all_eq_true.mp z17 c hc)).2⟩), gi := (fun c m hp => List.all_eq_true.mp z18 (c, m) hp), sf := (fun c hc => List.all_eq_true.mp z19 c hc), nf := (fun c m hp => He.eqO_ok (List.all_eq_true.mp z20 (c, m) hp)), ty := (fun T m i hp => He.eqO_ok (List.all_eq_true.mp z21 (T, m, i) hp)), sb := (fun T c hp => of_decide_eq_true (List.all_eq_true.mp z22 (T, c) hp)), pl := (fun c hc => Option.map_eq_some_iff.mp (of_decide_eq_true (List.all_eq_true.mp z23 c hc))), sc := (fun c T hp => of_decide_eq_true (List.all_eq_true.mp z24 (c, T) hp)), on := (fun m hm => He.eqO_ok (List.all_eq_true.mp z25 m hm)), sx := (fun c d hp => of_decide_eq_true (List.all_eq_true.mp z26 (c, d) hp)), kt := (fun T c hp => of_decide_eq_true (List.all_eq_true.mp z27 (T, c) hp)), kc := (fun c T hp => of_decide_eq_true (List.all_eq_true.mp z28 (c, T) hp)), ko := (fun c d b hp => of_decide_eq_true (List.all_eq_true.mp z29 (c, d, b) hp)), cc := (fun c f i hp => PV.cval_of (List.all_eq_true.mp z30 (c, f, i) hp)), ca := (fun c hc => He.eqO_ok (List.all_eq_true.mp z31 c hc)), ob := (fun c hc => of_decide_eq_true (List.all_eq_true.mp z32 c hc)), cg := (He.eqO_ok z33), ct := (of_decide_eq_true z34) }
abbrev R : PySem.W.OpenRow := PySem.W.OpenLaw.row PySem.Challenge.rw_lapseeds_k05_rings_refused_and_read
abbrev hk : PySem.W.Hook := ZH.hookL 7 lams chk fn
def ob (s : PySem.W.SharedT) : He.AlD × Bool := ZH.obsLG 7 lams chk fn (HandSHeadRun.getT s)
theorem ob_eq (s : PySem.W.SharedT) : ob s = hk.obs s.abs := ZH.obsLG_eq (HandSHeadRun.getT_eq s)
def loose : List Str := ["_wall", "FIGURES", "is_whole", "is_between", "number_in", "LapError", "BadRing", "BadPlayer", "BadPit", "BadText", "LEAST_SIZE", "MOST_SIZE", "SIGNS", "PITS", "STORES", "EXCHANGED", "are_signs", "need_player", "Ring", "_law_bag", "_law_draw", "_law_pick", "_law_signs", "_law_heard", "_law_is_text", "_law_bent", "_law_made_wrong", "_law_asked_wrong"]
end K05
namespace K05
open PySem PySem.Spec PyProof.Rows L2 ZL PV
theorem kp_is_whole {K : PySem.W.Frag} {mg : Str → Option Value} (T : TX K mg) : PySem.W.keepIn K (.ref (He.ga K "is_whole")) = true := (T.says.def_ 0).choose_spec.kp
theorem kp_is_between {K : PySem.W.Frag} {mg : Str → Option Value} (T : TX K mg) : PySem.W.keepIn K (.ref (He.ga K "is_between")) = true := (T.says.def_ 1).choose_spec.kp
theorem kp_are_signs {K : PySem.W.Frag} {mg : Str → Option Value} (T : TX K mg) : PySem.W.keepIn K (.ref (He.ga K "are_signs")) = true := (T.says.def_ 2).choose_spec.kp
theorem kp_number_in {K : PySem.W.Frag} {mg : Str → Option Value} (T : TX K mg) : PySem.W.keepIn K (.ref (He.ga K "number_in")) = true := (T.says.def_ 4).choose_spec.kp
theorem kp_law_bag {K : PySem.W.Frag} {mg : Str → Option Value} (T : TX K mg) : PySem.W.keepIn K (.ref (He.ga K "_law_bag")) = true := (T.says.def_ 8).choose_spec.kp
theorem kp_law_draw {K : PySem.W.Frag} {mg : Str → Option Value} (T : TX K mg) : PySem.W.keepIn K (.ref (He.ga K "_law_draw")) = true := (T.says.def_ 9).choose_spec.kp
theorem kp_law_pick {K : PySem.W.Frag} {mg : Str → Option Value} (T : TX K mg) : PySem.W.keepIn K (.ref (He.ga K "_law_pick")) = true := (T.says.def_ 10).choose_spec.kp
theorem kp_law_signs {K : PySem.W.Frag} {mg : Str → Option Value} (T : TX K mg) : PySem.W.keepIn K (.ref (He.ga K "_law_signs")) = true := (T.says.def_ 11).choose_spec.kp
theorem kp_law_heard {K : PySem.W.Frag} {mg : Str → Option Value} (T : TX K mg) : PySem.W.keepIn K (.ref (He.ga K "_law_heard")) = true := (T.says.def_ 12).choose_spec.kp
theorem kp_law_is_text {K : PySem.W.Frag} {mg : Str → Option Value} (T : TX K mg) : PySem.W.keepIn K (.ref (He.ga K "_law_is_text")) = true := (T.says.def_ 13).choose_spec.kp
theorem kp_law_bent {K : PySem.W.Frag} {mg : Str → Option Value} (T : TX K mg) : PySem.W.keepIn K (.ref (He.ga K "_law_bent")) = true := (T.says.def_ 14).choose_spec.kp
theorem kp_law_made_wrong {K : PySem.W.Frag} {mg : Str → Option Value} (T : TX K mg) : PySem.W.keepIn K (.ref (He.ga K "_law_made_wrong")) = true := (T.says.def_ 15).choose_spec.kp
theorem kp_need_player {K : PySem.W.Frag} {mg : Str → Option Value} (T : TX K mg) : PySem.W.keepIn K (.ref (He.ga K "need_player")) = true := (T.says.def_ 18).choose_spec.kp
theorem kp_law_asked_wrong {K : PySem.W.Frag} {mg : Str → Option Value} (T : TX K mg) : PySem.W.keepIn K (.ref (He.ga K "_law_asked_wrong")) = true := (T.says.def_ 22).choose_spec.kp
theorem kp_law {K : PySem.W.Frag} {mg : Str → Option Value} (T : TX K mg) : PySem.W.keepIn K (.ref (He.ga K "law")) = true := (T.says.def_ 23).choose_spec.kp
theorem cf_ {K : PySem.W.Frag} {mg : Str → Option Value} (T : TX K mg) (c : String) (h : Str.ofString c ∈ clss) : CF K c := ⟨T.cl _ h, T.ca _ h, T.cg, T.ct, T.ob _ h⟩
theorem nf_six {K : PySem.W.Frag} {mg : Str → Option Value} (T : TX K mg) (c : String) (h : (six.all fun t => decide ((t, Str.ofString c) ∈ subs)) = true) (n : String) (hn : n ∈ six) : PySem.W.notFirst K (gaS K c) (tyV' K (.b n)) = true := by
  have z := T.sb n (Str.ofString c) (of_decide_eq_true (List.all_eq_true.mp h n hn))
  show (_ || _) = true
  rw [show PySem.W.subIn K (tyV' K (.b n)) (.ref (gaS K c)) = some false from z]
  simp
theorem nf_cls {K : PySem.W.Frag} {mg : Str → Option Value} (T : TX K mg) (c d : String) (h : (Str.ofString c, Str.ofString d) ∈ subx) : PySem.W.notFirst K (gaS K d) (tyV' K (.c c)) = true := by
  have z := T.sx _ _ h
  show (_ || _) = true
  rw [show PySem.W.subIn K (tyV' K (.c c)) (.ref (gaS K d)) = some false from z]
  simp
theorem kt_six {K : PySem.W.Frag} {mg : Str → Option Value} (T : TX K mg) (c : String) (h : (six.all fun t => decide ((t, Str.ofString c) ∈ kits)) = true) (n : String) (hn : n ∈ six) : PySem.W.kitOne K (.type n) (.ref (gaS K c)) = some false := T.kt n (Str.ofString c) (of_decide_eq_true (List.all_eq_true.mp h n hn))
theorem fF_law_heard {K : PySem.W.Frag} {mg : Str → Option Value} (T : TX K mg) : FunD K "_law_heard" "_law_heard" (defArgs s_law_heard) (defBody s_law_heard) (defScope s_law_heard) [] [] (He.ga K "_law_heard") (T.says.def_ 12).choose := (T.says.def_ 12).choose_spec
theorem sc_BadPitD_initD : FnScope ["self", "value"] ["self", "value"] (defScope s_BadPitD_initD) := ⟨rfl, rfl, rfl, by decide +kernel, rfl, by decide +kernel, by decide +kernel⟩
noncomputable def xd_BadPit {K : PySem.W.Frag} {mg : Str → Option Value} (T : TX K mg) : FuncData := (T.says.def_ 24).choose
theorem x_BadPit {P : Program} {w : World} {K : PySem.W.Frag} {mg : Str → Option Value} {base : Heap} (T : TX K mg) : FnOk P w K mg base (L2.CX P w) 1 (mO K "BadPit" "__init__") (xd_BadPit T) ["self", "value"] (spX1 (gaS K "BadPit") (Str.ofString "value")) := ok_x1 (st := s_BadPitD_initD) (T.says.def_ 24).choose_spec sc_BadPitD_initD rfl (oex_of (T.xc "BadPit" (by decide +kernel)) (T.xi "BadPit" (by decide +kernel))) (T.nf "BadPit" "value" (by decide +kernel))
theorem xb_BadPit {K : PySem.W.Frag} {mg : Str → Option Value} (T : TX K mg) : Binds K (xd_BadPit T) ["self", "value"] [] := (T.says.def_ 24).choose_spec.bindsN (fun _ _ _ _ _ _ us hl => match us, hl with | [_, _], _ => rfl)
theorem sc_BadPlayerD_initD : FnScope ["self", "value"] ["self", "value"] (defScope s_BadPlayerD_initD) := ⟨rfl, rfl, rfl, by decide +kernel, rfl, by decide +kernel, by decide +kernel⟩
noncomputable def xd_BadPlayer {K : PySem.W.Frag} {mg : Str → Option Value} (T : TX K mg) : FuncData := (T.says.def_ 25).choose
theorem x_BadPlayer {P : Program} {w : World} {K : PySem.W.Frag} {mg : Str → Option Value} {base : Heap} (T : TX K mg) : FnOk P w K mg base (L2.CX P w) 1 (mO K "BadPlayer" "__init__") (xd_BadPlayer T) ["self", "value"] (spX1 (gaS K "BadPlayer") (Str.ofString "value")) := ok_x1 (st := s_BadPlayerD_initD) (T.says.def_ 25).choose_spec sc_BadPlayerD_initD rfl (oex_of (T.xc "BadPlayer" (by decide +kernel)) (T.xi "BadPlayer" (by decide +kernel))) (T.nf "BadPlayer" "value" (by decide +kernel))
theorem xb_BadPlayer {K : PySem.W.Frag} {mg : Str → Option Value} (T : TX K mg) : Binds K (xd_BadPlayer T) ["self", "value"] [] := (T.says.def_ 25).choose_spec.bindsN (fun _ _ _ _ _ _ us hl => match us, hl with | [_, _], _ => rfl)
theorem sc_BadRingD_initD : FnScope ["self", "part"] ["self", "part"] (defScope s_BadRingD_initD) := ⟨rfl, rfl, rfl, by decide +kernel, rfl, by decide +kernel, by decide +kernel⟩
noncomputable def xd_BadRing {K : PySem.W.Frag} {mg : Str → Option Value} (T : TX K mg) : FuncData := (T.says.def_ 26).choose
theorem x_BadRing {P : Program} {w : World} {K : PySem.W.Frag} {mg : Str → Option Value} {base : Heap} (T : TX K mg) : FnOk P w K mg base (L2.CX P w) 1 (mO K "BadRing" "__init__") (xd_BadRing T) ["self", "part"] (spX1 (gaS K "BadRing") (Str.ofString "part")) := ok_x1 (st := s_BadRingD_initD) (T.says.def_ 26).choose_spec sc_BadRingD_initD rfl (oex_of (T.xc "BadRing" (by decide +kernel)) (T.xi "BadRing" (by decide +kernel))) (T.nf "BadRing" "part" (by decide +kernel))
theorem xb_BadRing {K : PySem.W.Frag} {mg : Str → Option Value} (T : TX K mg) : Binds K (xd_BadRing T) ["self", "part"] [] := (T.says.def_ 26).choose_spec.bindsN (fun _ _ _ _ _ _ us hl => match us, hl with | [_, _], _ => rfl)
theorem sc_BadTextD_initD : FnScope ["self", "line", "word"] ["self", "line", "word"] (defScope s_BadTextD_initD) := ⟨rfl, rfl, rfl, by decide +kernel, rfl, by decide +kernel, by decide +kernel⟩
noncomputable def xd_BadText {K : PySem.W.Frag} {mg : Str → Option Value} (T : TX K mg) : FuncData := (T.says.def_ 27).choose
theorem x_BadText {P : Program} {w : World} {K : PySem.W.Frag} {mg : Str → Option Value} {base : Heap} (T : TX K mg) : FnOk P w K mg base (L2.CX P w) 1 (mO K "BadText" "__init__") (xd_BadText T) ["self", "line", "word"] (spX2 (gaS K "BadText") (Str.ofString "line") (Str.ofString "word")) := ok_x2 (st := s_BadTextD_initD) (T.says.def_ 27).choose_spec sc_BadTextD_initD rfl (oex_of (T.xc "BadText" (by decide +kernel)) (T.xi "BadText" (by decide +kernel))) (T.nf "BadText" "line" (by decide +kernel)) (T.nf "BadText" "word" (by decide +kernel))
theorem xb_BadText {K : PySem.W.Frag} {mg : Str → Option Value} (T : TX K mg) : Binds K (xd_BadText T) ["self", "line", "word"] [] := (T.says.def_ 27).choose_spec.bindsN (fun _ _ _ _ _ _ us hl => match us, hl with | [_, _, _], _ => rfl)
end K05
set_option Elab.async false
set_option linter.all false
set_option maxRecDepth 100000
set_option maxHeartbeats 4000000
namespace K05
open PySem PySem.Spec PyProof.Rows L2 ZL PV
section
variable {P : Program} {w : World} {K : PySem.W.Frag} {mg : Str → Option Value} {base : Heap}
/-! is_whole -/
theorem ct_int {X : Cx} (T : TX X.K X.mg) : ∀ c ∈ ["Ring"], CF X.K c ∧ PySem.W.kitOne X.K (.ref (gaS X.K c)) (.type "int") = some false := by
  intro c h
  simp only [List.mem_cons, List.not_mem_nil, or_false] at h
  rcases h with rfl
  · exact ⟨cf_ T "Ring" (by decide +kernel), T.kc "Ring" "int" (by decide +kernel)⟩
theorem ct_bool {X : Cx} (T : TX X.K X.mg) : ∀ c ∈ ["Ring"], CF X.K c ∧ PySem.W.kitOne X.K (.ref (gaS X.K c)) (.type "bool") = some false := by
  intro c h
  simp only [List.mem_cons, List.not_mem_nil, or_false] at h
  rcases h with rfl
  · exact ⟨cf_ T "Ring" (by decide +kernel), T.kc "Ring" "bool" (by decide +kernel)⟩
abbrev N_is_whole : List Str := ["value"]
theorem sc_is_whole : FnScope N_is_whole ["value"] (defScope s_is_whole) := ⟨rfl, rfl, rfl, by decide +kernel, rfl, by decide +kernel, by decide +kernel⟩
noncomputable def F_is_whole : Fn := dfn 1 1 (sSeq (sRet (anE (cal (isiF (isiB "int" ["Ring"]) (isTy "int")) (aCons (v 0) (aCons (k (.ty "int")) aNil))) (noE (cal (isiF (isiB "bool" ["Ring"]) (isTy "bool")) (aCons (v 0) (aCons (k (.ty "bool")) aNil)))))) (sNil))
theorem w_is_whole (T : TX K mg) : FnF P w K mg base 1 (He.ga K "is_whole") F_is_whole := by
  obtain ⟨fd, F⟩ := T.says.def_ 0
  exact okF (j := 0) (st := s_is_whole) F sc_is_whole rfl rfl (fun _ _ _ _ _ _ us hl => match us, hl with | [_], _ => rfl) (fun cdv A outer s H E hr => qs_cons (qs_ret (qe_and (qe_blt (cf_isiB (by decide) (ct_int T)) (T.free "isinstance" (by decide +kernel)) (qa_cons (qv 0) (qa_cons (qg_ty (T.free "int" (by decide +kernel)) (by decide +kernel)) qa_nil))) (qe_one (qe_not (qe_blt (cf_isiB (by decide) (ct_bool T)) (T.free "isinstance" (by decide +kernel)) (qa_cons (qv 0) (qa_cons (qg_ty (T.free "bool" (by decide +kernel)) (by decide +kernel)) qa_nil))))))) (qs_nil))
/-! is_between -/
abbrev N_is_between : List Str := ["value", "low", "high"]
theorem sc_is_between : FnScope N_is_between ["value", "low", "high"] (defScope s_is_between) := ⟨rfl, rfl, rfl, by decide +kernel, rfl, by decide +kernel, by decide +kernel⟩
noncomputable def F_is_between : Fn := dfn 3 3 (sSeq (sRet (anE (cal F_is_whole (aCons (v 0) (aNil))) (chn (leG) (leG) (v 1) (v 0) (v 2)))) (sNil))
theorem w_is_between (T : TX K mg) : FnF P w K mg base 2 (He.ga K "is_between") F_is_between := by
  obtain ⟨fd, F⟩ := T.says.def_ 1
  exact okF (j := 1) (st := s_is_between) F sc_is_between rfl rfl (fun _ _ _ _ _ _ us hl => match us, hl with | [_, _, _], _ => rfl) (fun cdv A outer s H E hr => qs_cons (qs_ret (qe_and (qe_call (w_is_whole T) (hr.mono (by decide)) (T.glo "is_whole" (by decide +kernel)) (kp_is_whole T) (qa_cons (qv 0) (qa_nil))) (qe_one (qe_chn (of_le) (of_le) (qv 1) (qv 0) (qv 2))))) (qs_nil))
/-! are_signs -/
theorem ct_str {X : Cx} (T : TX X.K X.mg) : ∀ c ∈ ["Ring"], CF X.K c ∧ PySem.W.kitOne X.K (.ref (gaS X.K c)) (.type "str") = some false := by
  intro c h
  simp only [List.mem_cons, List.not_mem_nil, or_false] at h
  rcases h with rfl
  · exact ⟨cf_ T "Ring" (by decide +kernel), T.kc "Ring" "str" (by decide +kernel)⟩
abbrev N_are_signs : List Str := ["signs", "stores", "sign"]
theorem sc_are_signs : FnScope N_are_signs ["signs"] (defScope s_are_signs) := ⟨rfl, rfl, rfl, by decide +kernel, rfl, by decide +kernel, by decide +kernel⟩
noncomputable def F_are_signs : Fn := dfn 1 3 (sSeq (sIf (tOr (tNo (tru (cal (isiF (isiB "str" ["Ring"]) (isTy "str")) (aCons (v 0) (aCons (k (.ty "str")) aNil))))) (tNo (tst (chn (leG) (leG) (k (.int 2)) (cal lenB (aCons (v 0) (aNil))) (k (.int 6)))))) (sSeq (sRet (k (.bl false))) (sNil)) (sNil)) (sSeq (sSet 1 (lcE (.nm 2) (iSeq (v 0)) (tst (bin (inG false) (v 2) (k (.str "AB")))) (v 2))) (sSeq (sRet (anE (cal allB (aCons (lcE (.nm 2) (iSeq (v 0)) (tYs) (bin (inG false) (v 2) (k (.str "abABo")))) (aNil))) (bin (eqG false) (cal lenB (aCons (v 1) (aNil))) (lnsF (v 1))))) (sNil))))
theorem w_are_signs (T : TX K mg) : FnF P w K mg base 1 (He.ga K "are_signs") F_are_signs := by
  obtain ⟨fd, F⟩ := T.says.def_ 2
  exact okF (j := 0) (st := s_are_signs) F sc_are_signs rfl rfl (fun _ _ _ _ _ _ us hl => match us, hl with | [_], _ => rfl) (fun cdv A outer s H E hr => qs_cons (qs_if (qt_w (qw_or (qt_not (qt_tru (qe_blt (cf_isiB (by decide) (ct_str T)) (T.free "isinstance" (by decide +kernel)) (qa_cons (qv 0) (qa_cons (qg_ty (T.free "str" (by decide +kernel)) (by decide +kernel)) qa_nil))))) (qw_or1 (qt_not (qt_chn (of_le) (of_le) (qg_int (T.intc "LEAST_SIZE" 2 (by decide +kernel))) (qe_blt cf_len (T.free "len" (by decide +kernel)) (qa_cons (qv 0) (qa_nil))) (qg_int (T.intc "MOST_SIZE" 6 (by decide +kernel)))))))) (qs_cons (qs_ret (qk_bl)) (qs_nil)) (qs_nil)) (qs_cons (qs_setLc 1 (own := [("sign", 2)]) (.nm 2) rfl rfl sc_are_signs.nd (qi_seq (qv 0)) (blkOk_by (N := N_are_signs) (sc := defScope s_are_signs) (by decide +kernel)) (fun _ _ _ _ _ => qg_name 2 sc_are_signs.nd) (fun _ _ _ _ _ => qts_one (qt_cmp (of_in (u65 hr)) (qv 2) (qg_str (T.strc "STORES" "AB" (by decide +kernel))))) (fun _ _ _ _ _ => qv 2)) (qs_cons (qs_ret (qe_and (qe_blt (cf_all rfl) (T.free "all" (by decide +kernel)) (qa_cons (qe_lc (own := [("sign", 2)]) (.nm 2) rfl rfl sc_are_signs.nd (qi_seq (qv 0)) (blkOk_by (N := N_are_signs) (sc := defScope s_are_signs) (by decide +kernel)) (fun _ _ _ _ _ => qg_name 2 sc_are_signs.nd) (fun _ _ _ _ _ => pts_yes) (fun _ _ _ _ _ => qe_cmp (of_in (u65 hr)) (qv 2) (qg_str (T.strc "SIGNS" "abABo" (by decide +kernel))))) (qa_nil))) (qe_one (qe_cmp (of_eq hr.units) (qe_blt cf_len (T.free "len" (by decide +kernel)) (qa_cons (qv 1) (qa_nil))) (qe_lnsF (T.free "len" (by decide +kernel)) (T.free "set" (by decide +kernel)) (qv 1)))))) (qs_nil))))
/-! Ring.__init__ -/
theorem fl_across {X : Cx} (T : TX X.K X.mg) : ∀ c ∈ ["Ring"], Cls X.K (He.ga X.K (Str.ofString c)) ∧ NoAttr X.K (He.ga X.K (Str.ofString c)) (Str.ofString "across") := by
  intro c h
  simp only [List.mem_cons, List.not_mem_nil, or_false] at h
  rcases h with rfl
  · exact ⟨T.cl "Ring" (by decide +kernel), T.na "Ring" "across" (by decide +kernel)⟩
theorem fl_signs {X : Cx} (T : TX X.K X.mg) : ∀ c ∈ ["Ring"], Cls X.K (He.ga X.K (Str.ofString c)) ∧ NoAttr X.K (He.ga X.K (Str.ofString c)) (Str.ofString "signs") := by
  intro c h
  simp only [List.mem_cons, List.not_mem_nil, or_false] at h
  rcases h with rfl
  · exact ⟨T.cl "Ring" (by decide +kernel), T.na "Ring" "signs" (by decide +kernel)⟩
abbrev N_RingD_initD : List Str := ["self", "signs", "across"]
theorem sc_RingD_initD : FnScope N_RingD_initD ["self", "signs", "across"] (defScope s_RingD_initD) := ⟨rfl, rfl, rfl, by decide +kernel, rfl, by decide +kernel, by decide +kernel⟩
noncomputable def B_RingD_initD : MS := sSeq (sIf (tNo (tru (cal F_are_signs (aCons (v 1) (aNil))))) (sSeq (sRai "BadRing" ["part"] (aCons (k (.str "signs")) (aNil))) (sNil)) (sNil)) (sSeq (sIf (tAn (tst (bin (isG true) (v 2) (k .non))) (tNo (tru (cal F_is_between (aCons (v 2) (aCons (k (.int 0)) (aCons (bin (subG) (cal lenB (aCons (v 1) (aNil))) (k (.int 1))) (aNil)))))))) (sSeq (sRai "BadRing" ["part"] (aCons (k (.str "across")) (aNil))) (sNil)) (sNil)) (sSeq (sFldS ["Ring"] "signs" (v 0) (v 1)) (sSeq (sFldS ["Ring"] "across" (v 0) (ifE (tst (bin (isG false) (v 2) (k .non))) (bin (subG) (cal lenB (aCons (v 1) (aNil))) (k (.int 2))) (v 2))) (sNil))))
theorem b_RingD_initD (T : TX K mg) : ∀ (cdv : Value) (A : Around) (outer : List Env) (s : Shared) (H : Hp) (E : XK), Room 2 (A.deeper (envOfC "Ring.__init__" (defScope s_RingD_initD) s.heap.objs.size (mO K "Ring" "__init__") cdv)) → QSs (cxOf (L2.CX P w) P w K mg base N_RingD_initD "Ring.__init__" (defScope s_RingD_initD) (mO K "Ring" "__init__") cdv A outer s H E) (defBody s_RingD_initD) B_RingD_initD := fun cdv A outer s H E hr => qs_cons (qs_if (qt_not (qt_tru (qe_call (w_are_signs T) (hr.mono (by decide)) (T.glo "are_signs" (by decide +kernel)) (kp_are_signs T) (qa_cons (qv 1) (qa_nil))))) (qs_cons (qs_rai1 rfl (oex_of (T.xc "BadRing" (by decide +kernel)) (T.xi "BadRing" (by decide +kernel))) (T.meth "BadRing" "__init__" (by decide +kernel)).at_ (isFn_ty (T.meth "BadRing" "__init__" (by decide +kernel)).fn) (x_BadRing T) (hr.mono (by decide)) (xb_BadRing T) (T.glo "BadRing" (by decide +kernel)) (qa_cons (qk_str) (qa_nil))) (qs_nil)) (qs_nil)) (qs_cons (qs_if (qt_w (qw_and (qt_cmp (of_isnot) (qv 2) (qk_non)) (qw_and1 (qt_not (qt_tru (qe_call (w_is_between T) (hr.mono (by decide)) (T.glo "is_between" (by decide +kernel)) (kp_is_between T) (qa_cons (qv 2) (qa_cons (qk_int) (qa_cons (qe_bin (of_sub) (qe_blt cf_len (T.free "len" (by decide +kernel)) (qa_cons (qv 1) (qa_nil))) (qk_int)) (qa_nil)))))))))) (qs_cons (qs_rai1 rfl (oex_of (T.xc "BadRing" (by decide +kernel)) (T.xi "BadRing" (by decide +kernel))) (T.meth "BadRing" "__init__" (by decide +kernel)).at_ (isFn_ty (T.meth "BadRing" "__init__" (by decide +kernel)).fn) (x_BadRing T) (hr.mono (by decide)) (xb_BadRing T) (T.glo "BadRing" (by decide +kernel)) (qa_cons (qk_str) (qa_nil))) (qs_nil)) (qs_nil)) (qs_cons (qs_fld (fl_signs T) (qv 0) (qv 1)) (qs_cons (qs_fld (fl_across T) (qv 0) (qe_if (qt_cmp (of_is) (qv 2) (qk_non)) (qe_bin (of_sub) (qe_blt cf_len (T.free "len" (by decide +kernel)) (qa_cons (qv 1) (qa_nil))) (qk_int)) (qv 2))) (qs_nil))))
theorem rd_RingD_initD : ∀ G, Rps K G [.non] (He5.DefA.dvs K (fn.getD 3 (gD "" (.Pass ⟨0, 0, 0, 0⟩)))) := fun G => .cons .non (.nil)
noncomputable def F_RingD_initD : Fn := dfnD 3 3 B_RingD_initD [.non]
theorem w_RingD_initD (T : TX K mg) : FnF P w K mg base 3 (mO K "Ring" "__init__") F_RingD_initD := by
  obtain ⟨fd, F⟩ := T.says.def_ 3
  exact okFD (j := 2) (st := s_RingD_initD) F sc_RingD_initD rfl rfl rfl rd_RingD_initD (fun i hi => match i, hi with | 0, _ => F.binds1 2 0 (by simp [He5.DefA.dvs]) rfl (fun _ _ _ _ _ _ _ us its h1 h2 => match us, its, h1, h2 with | [_, _], [_], _, _ => ⟨_, rfl, rfl⟩) | 1, _ => F.binds1 3 1 (by simp [He5.DefA.dvs]) rfl (fun _ _ _ _ _ _ _ us its h1 h2 => match us, its, h1, h2 with | [_, _, _], [_], _, _ => ⟨_, rfl, rfl⟩)) (b_RingD_initD T)
/-! number_in -/
abbrev N_number_in : List Str := ["word", "figures", "sign"]
theorem sc_number_in : FnScope N_number_in ["word", "figures"] (defScope s_number_in) := ⟨rfl, rfl, rfl, by decide +kernel, rfl, by decide +kernel, by decide +kernel⟩
noncomputable def F_number_in : Fn := dfn 2 3 (sSeq (sIf (tOr (tNo (tst (chn (leG) (leG) (k (.int 1)) (cal lenB (aCons (v 0) (aNil))) (v 1)))) (tNo (tru (cal allB (aCons (lcE (.nm 2) (iSeq (v 0)) (tYs) (bin (inG false) (v 2) (k (.str "0123456789")))) (aNil)))))) (sSeq (sRet (k .non)) (sNil)) (sNil)) (sSeq (sRet (ifE (tOr (tst (bin (eqG false) (v 0) (k (.str "0")))) (tst (bin (eqG true) (bin ixG (v 0) (k (.int 0))) (k (.str "0"))))) (cal intB (aCons (v 0) (aNil))) (k .non))) (sNil)))
theorem w_number_in (T : TX K mg) : FnF P w K mg base 1 (He.ga K "number_in") F_number_in := by
  obtain ⟨fd, F⟩ := T.says.def_ 4
  exact okF (j := 0) (st := s_number_in) F sc_number_in rfl rfl (fun _ _ _ _ _ _ us hl => match us, hl with | [_, _], _ => rfl) (fun cdv A outer s H E hr => qs_cons (qs_if (qt_w (qw_or (qt_not (qt_chn (of_le) (of_le) (qk_int) (qe_blt cf_len (T.free "len" (by decide +kernel)) (qa_cons (qv 0) (qa_nil))) (qv 1))) (qw_or1 (qt_not (qt_tru (qe_blt (cf_all rfl) (T.free "all" (by decide +kernel)) (qa_cons (qe_lc (own := [("sign", 2)]) (.nm 2) rfl rfl sc_number_in.nd (qi_seq (qv 0)) (blkOk_by (N := N_number_in) (sc := defScope s_number_in) (by decide +kernel)) (fun _ _ _ _ _ => qg_name 2 sc_number_in.nd) (fun _ _ _ _ _ => pts_yes) (fun _ _ _ _ _ => qe_cmp (of_in (u65 hr)) (qv 2) (qg_str (T.strc "FIGURES" "0123456789" (by decide +kernel))))) (qa_nil)))))))) (qs_cons (qs_ret (qk_non)) (qs_nil)) (qs_nil)) (qs_cons (qs_ret (qe_if (qt_w (qw_or (qt_cmp (of_eq hr.units) (qv 0) (qk_str)) (qw_or1 (qt_cmp (of_ne hr.units) (qe_ix (qv 0) (qk_int)) (qk_str))))) (qe_typ cf_int (T.free "int" (by decide +kernel)) (qa_cons (qv 0) (qa_nil))) (qk_non))) (qs_nil)))
/-! Ring.read -/
abbrev N_Ring_read : List Str := ["cls", "text", "words", "across"]
theorem sc_Ring_read : FnScope N_Ring_read ["cls", "text"] (defScope s_Ring_read) := ⟨rfl, rfl, rfl, by decide +kernel, rfl, by decide +kernel, by decide +kernel⟩
noncomputable def B_Ring_read : MS := sSeq (sSet 2 (ifE (tru (cal (isiF (isiB "str" ["Ring"]) (isTy "str")) (aCons (v 1) (aCons (k (.ty "str")) aNil)))) (mthS splitG (v 1) (k (.str " "))) (lstE (aNil)))) (sSeq (sIf (tOr (tst (bin (eqG true) (cal lenB (aCons (v 2) (aNil))) (k (.int 2)))) (tNo (tru (cal F_are_signs (aCons (bin ixG (v 2) (k (.int 0))) (aNil)))))) (sSeq (sRai "BadText" ["line", "word"] (aCons (k (.int 0)) (aCons (k (.int 0)) (aNil)))) (sNil)) (sNil)) (sSeq (sSet 3 (cal F_number_in (aCons (bin ixG (v 2) (k (.int 1))) (aCons (k (.int 1)) (aNil))))) (sSeq (sIf (tOr (tst (bin (isG false) (v 3) (k .non))) (tst (bin (geG) (v 3) (cal lenB (aCons (bin ixG (v 2) (k (.int 0))) (aNil)))))) (sSeq (sRai "BadText" ["line", "word"] (aCons (k (.int 0)) (aCons (k (.int 0)) (aNil)))) (sNil)) (sNil)) (sSeq (sRet (mkL "Ring" (mkF "Ring" F_RingD_initD) 0 (aCons (bin ixG (v 2) (k (.int 0))) (aCons (v 3) (aNil))))) (sNil)))))
theorem b_Ring_read (T : TX K mg) : ∀ (cdv : Value) (A : Around) (outer : List Env) (s : Shared) (H : Hp) (E : XK), Room 4 (A.deeper (envOfC "Ring.read" (defScope s_Ring_read) s.heap.objs.size (wO K "Ring" "read") cdv)) → QSs (cxOf (L2.CX P w) P w K mg base N_Ring_read "Ring.read" (defScope s_Ring_read) (wO K "Ring" "read") cdv A outer s H E) (defBody s_Ring_read) B_Ring_read := fun cdv A outer s H E hr => qs_cons (qs_set 2 (qe_if (qt_tru (qe_blt (cf_isiB (by decide) (ct_str T)) (T.free "isinstance" (by decide +kernel)) (qa_cons (qv 1) (qa_cons (qg_ty (T.free "str" (by decide +kernel)) (by decide +kernel)) qa_nil)))) (qe_split (qv 1) (qk_str)) (qe_lst (qa_nil))) sc_Ring_read.nd) (qs_cons (qs_if (qt_w (qw_or (qt_cmp (of_ne hr.units) (qe_blt cf_len (T.free "len" (by decide +kernel)) (qa_cons (qv 2) (qa_nil))) (qk_int)) (qw_or1 (qt_not (qt_tru (qe_call (w_are_signs T) (hr.mono (by decide)) (T.glo "are_signs" (by decide +kernel)) (kp_are_signs T) (qa_cons (qe_ix (qv 2) (qk_int)) (qa_nil)))))))) (qs_cons (qs_rai2 rfl (oex_of (T.xc "BadText" (by decide +kernel)) (T.xi "BadText" (by decide +kernel))) (T.meth "BadText" "__init__" (by decide +kernel)).at_ (isFn_ty (T.meth "BadText" "__init__" (by decide +kernel)).fn) (x_BadText T) (hr.mono (by decide)) (xb_BadText T) (T.glo "BadText" (by decide +kernel)) (qa_cons (qk_int) (qa_cons (qk_int) (qa_nil)))) (qs_nil)) (qs_nil)) (qs_cons (qs_set 3 (qe_call (w_number_in T) (hr.mono (by decide)) (T.glo "number_in" (by decide +kernel)) (kp_number_in T) (qa_cons (qe_ix (qv 2) (qk_int)) (qa_cons (qk_int) (qa_nil)))) sc_Ring_read.nd) (qs_cons (qs_if (qt_w (qw_or (qt_cmp (of_is) (qv 3) (qk_non)) (qw_or1 (qt_cmp (of_ge) (qv 3) (qe_blt cf_len (T.free "len" (by decide +kernel)) (qa_cons (qe_ix (qv 2) (qk_int)) (qa_nil))))))) (qs_cons (qs_rai2 rfl (oex_of (T.xc "BadText" (by decide +kernel)) (T.xi "BadText" (by decide +kernel))) (T.meth "BadText" "__init__" (by decide +kernel)).at_ (isFn_ty (T.meth "BadText" "__init__" (by decide +kernel)).fn) (x_BadText T) (hr.mono (by decide)) (xb_BadText T) (T.glo "BadText" (by decide +kernel)) (qa_cons (qk_int) (qa_cons (qk_int) (qa_nil)))) (qs_nil)) (qs_nil)) (qs_cons (qs_ret (qe_mkL 0 mk_frozen (T.mkr "Ring" (by decide +kernel)) (w_RingD_initD T) (hr.mono (by decide)) (qa_cons (qe_ix (qv 2) (qk_int)) (qa_cons (qv 3) (qa_nil))))) (qs_nil)))))
noncomputable def F_Ring_read : Fn := dfn 2 4 B_Ring_read
theorem w_Ring_read (T : TX K mg) : FnF P w K mg base 5 (wO K "Ring" "read") F_Ring_read := by
  obtain ⟨fd, F⟩ := T.says.def_ 5
  exact okF (j := 4) (st := s_Ring_read) F sc_Ring_read rfl rfl (fun _ _ _ _ _ _ us hl => match us, hl with | [_, _], _ => rfl) (b_Ring_read T)
/-! Ring.__eq__ -/
theorem cc_Ring {X : Cx} (T : TX X.K X.mg) : CallF X (.builtin "isinstance") (isiF (isiC [("Ring", true)]) (isCl "Ring")) := by
  refine cf_isiC (fun n h => kt_six T "Ring" (by decide +kernel) n h) fun c b h => ?_
  have h := memLk h
  simp only [List.mem_cons, List.not_mem_nil, or_false, Prod.mk.injEq] at h
  rcases h with ⟨rfl, rfl⟩
  · exact ⟨cf_ T "Ring" (by decide +kernel), T.ko "Ring" "Ring" true (by decide +kernel)⟩
abbrev N_RingD_eqD : List Str := ["self", "other"]
theorem sc_RingD_eqD : FnScope N_RingD_eqD ["self", "other"] (defScope s_RingD_eqD) := ⟨rfl, rfl, rfl, by decide +kernel, rfl, by decide +kernel, by decide +kernel⟩
noncomputable def F_RingD_eqD : Fn := dfn 2 2 (sSeq (sRet (anE (cal (isiF (isiC [("Ring", true)]) (isCl "Ring")) (aCons (v 1) (aCons (k (.cls "Ring")) aNil))) (anE (bin (eqG false) (una (fldG ["Ring"] "signs") (v 0)) (una (fldG ["Ring"] "signs") (v 1))) (bin (eqG false) (una (fldG ["Ring"] "across") (v 0)) (una (fldG ["Ring"] "across") (v 1)))))) (sNil))
theorem w_RingD_eqD (T : TX K mg) : FnF P w K mg base 1 (mO K "Ring" "__eq__") F_RingD_eqD := by
  obtain ⟨fd, F⟩ := T.says.def_ 6
  exact okF (j := 0) (st := s_RingD_eqD) F sc_RingD_eqD rfl rfl (fun _ _ _ _ _ _ us hl => match us, hl with | [_, _], _ => rfl) (fun cdv A outer s H E hr => qs_cons (qs_ret (qe_and (qe_blt (cc_Ring T) (T.free "isinstance" (by decide +kernel)) (qa_cons (qv 1) (qa_cons (qg_cls (T.glo "Ring" (by decide +kernel))) qa_nil))) (qe_and (qe_cmp (of_eq hr.units) (qe_fld (fl_signs T) (qv 0)) (qe_fld (fl_signs T) (qv 1))) (qe_one (qe_cmp (of_eq hr.units) (qe_fld (fl_across T) (qv 0)) (qe_fld (fl_across T) (qv 1))))))) (qs_nil))
/-! Ring.__str__ -/
abbrev N_RingD_strD : List Str := ["self"]
theorem sc_RingD_strD : FnScope N_RingD_strD ["self"] (defScope s_RingD_strD) := ⟨rfl, rfl, rfl, by decide +kernel, rfl, by decide +kernel, by decide +kernel⟩
noncomputable def F_RingD_strD : Fn := dfn 1 1 (sSeq (sRet (jsE [fmE (una (fldG ["Ring"] "signs") (v 0)), k (.str " "), fmE (una (fldG ["Ring"] "across") (v 0))])) (sNil))
theorem w_RingD_strD (T : TX K mg) : FnF P w K mg base 1 (mO K "Ring" "__str__") F_RingD_strD := by
  obtain ⟨fd, F⟩ := T.says.def_ 7
  exact okF (j := 0) (st := s_RingD_strD) F sc_RingD_strD rfl rfl (fun _ _ _ _ _ _ us hl => match us, hl with | [_], _ => rfl) (fun cdv A outer s H E hr => qs_cons (qs_ret (qe_js (qj_cons (qe_fm (qe_fld (fl_signs T) (qv 0))) (qj_cons (qk_str) (qj_cons (qe_fm (qe_fld (fl_across T) (qv 0))) (qj_nil)))))) (qs_nil))
/-! _law_bag -/
abbrev N_law_bag : List Str := ["_law_script", "_law_state", "_law_cell"]
theorem sc_law_bag : FnScope N_law_bag ["_law_script"] (defScope s_law_bag) := ⟨rfl, rfl, rfl, by decide +kernel, rfl, by decide +kernel, by decide +kernel⟩
noncomputable def F_law_bag : Fn := dfn 1 3 (sSeq (sSet 1 (k (.int 23))) (sSeq (sFor (.nm 2) (iSeq (sli (v 0) (oNo) (oSo (k (.int 63))))) (sSeq (sSet 1 (bin (modG) (cal intB (aCons (bin (addG) (bin (addG) (bin (mulG) (v 1) (k (.int 62089911))) (bin (modG) (cal absB (aCons (v 2) (aNil))) (k (.int 2147483629)))) (k (.int 41))) (aNil))) (k (.int 2147483647)))) (sNil))) (sSeq (sRet (dicM [("cells", cal listB (aCons (sli (v 0) (oNo) (oSo (k (.int 63)))) (aNil))), ("at", k (.int 0)), ("rest", k (.int 0)), ("state", v 1)])) (sNil))))
theorem w_law_bag (T : TX K mg) : FnF P w K mg base 1 (He.ga K "_law_bag") F_law_bag := by
  obtain ⟨fd, F⟩ := T.says.def_ 8
  exact okF (j := 0) (st := s_law_bag) F sc_law_bag rfl rfl (fun _ _ _ _ _ _ us hl => match us, hl with | [_], _ => rfl) (fun cdv A outer s H E hr => qs_cons (qs_set 1 (qk_int) sc_law_bag.nd) (qs_cons (qs_for (passes_of rfl) rfl (qi_seq (qe_sli (qv 0) (qo_none) (qo_some (qk_int)))) (qg_name 2 sc_law_bag.nd) (qs_cons (qs_set 1 (qe_bin (of_mod) (qe_typ cf_int (T.free "int" (by decide +kernel)) (qa_cons (qe_bin (of_add) (qe_bin (of_add) (qe_bin (of_mul) (qv 1) (qk_int)) (qe_bin (of_mod) (qe_blt cf_abs (T.free "abs" (by decide +kernel)) (qa_cons (qv 2) (qa_nil))) (qk_int))) (qk_int)) (qa_nil))) (qk_int)) sc_law_bag.nd) (qs_nil))) (qs_cons (qs_ret (qe_dicM (qpm_cons (qe_typ cf_list (T.free "list" (by decide +kernel)) (qa_cons (qe_sli (qv 0) (qo_none) (qo_some (qk_int))) (qa_nil))) (qpm_cons (qk_int) (qpm_cons (qk_int) (qpm_cons (qv 1) (qpm_nil))))))) (qs_nil))))
/-! _law_draw -/
abbrev N_law_draw : List Str := ["_law_bag_here", "_law_limit", "_law_cell", "_law_mixed", "_law_found"]
theorem sc_law_draw : FnScope N_law_draw ["_law_bag_here", "_law_limit"] (defScope s_law_draw) := ⟨rfl, rfl, rfl, by decide +kernel, rfl, by decide +kernel, by decide +kernel⟩
noncomputable def F_law_draw : Fn := dfn 2 5 (sSeq (sWhl (tAn (tst (bin (ltG) (bin ddG (v 0) (k (.str "rest"))) (k (.int 2)))) (tst (bin (ltG) (bin ddG (v 0) (k (.str "at"))) (cal lenB (aCons (bin ddG (v 0) (k (.str "cells"))) (aNil)))))) (sSeq (sSet 2 (cal absB (aCons (bin ixG (bin ddG (v 0) (k (.str "cells"))) (bin ddG (v 0) (k (.str "at")))) (aNil)))) (sSeq (sDk (v 0) (k (.str "at")) (bin (addG) (bin ddG (v 0) (k (.str "at"))) (k (.int 1)))) (sSeq (sIf (tst (bin (ltG) (v 2) (bin (powG) (k (.int 10)) (k (.int 18))))) (sSeq (sSet 3 (bin (modG) (cal intB (aCons (bin (addG) (bin (powG) (bin (addG) (v 2) (k (.int 13))) (k (.int 3))) (bin (mulG) (bin ddG (v 0) (k (.str "state"))) (bin (addG) (bin ddG (v 0) (k (.str "at"))) (k (.int 1))))) (aNil))) (k (.int 2147483629)))) (sSeq (sRet (bin (modG) (v 3) (v 1))) (sNil))) (sNil)) (sSeq (sDk (v 0) (k (.str "rest")) (v 2)) (sNil)))))) (sSeq (sIf (tst (bin (geG) (bin ddG (v 0) (k (.str "rest"))) (k (.int 2)))) (sSeq (sSet 4 (bin (modG) (cal intB (aCons (bin ddG (v 0) (k (.str "rest"))) (aNil))) (v 1))) (sSeq (sDk (v 0) (k (.str "rest")) (bin (fdivG) (bin ddG (v 0) (k (.str "rest"))) (v 1))) (sSeq (sRet (v 4)) (sNil)))) (sNil)) (sSeq (sDk (v 0) (k (.str "state")) (bin (modG) (cal intB (aCons (bin (addG) (bin (mulG) (bin ddG (v 0) (k (.str "state"))) (k (.int 62089911))) (k (.int 41))) (aNil))) (k (.int 2147483647)))) (sSeq (sRet (bin (modG) (bin (modG) (cal intB (aCons (bin (powG) (bin ddG (v 0) (k (.str "state"))) (k (.int 5))) (aNil))) (k (.int 2147483629))) (v 1))) (sNil)))))
theorem w_law_draw (T : TX K mg) : FnF P w K mg base 1 (He.ga K "_law_draw") F_law_draw := by
  obtain ⟨fd, F⟩ := T.says.def_ 9
  exact okF (j := 0) (st := s_law_draw) F sc_law_draw rfl rfl (fun _ _ _ _ _ _ us hl => match us, hl with | [_, _], _ => rfl) (fun cdv A outer s H E hr => qs_cons (qs_whl (passes_of rfl) (qt_w (qw_and (qt_cmp (of_lt) (qe_dd (u1 hr) (qv 0) (qk_str)) (qk_int)) (qw_and1 (qt_cmp (of_lt) (qe_dd (u1 hr) (qv 0) (qk_str)) (qe_blt cf_len (T.free "len" (by decide +kernel)) (qa_cons (qe_dd (u1 hr) (qv 0) (qk_str)) (qa_nil))))))) (qs_cons (qs_set 2 (qe_blt cf_abs (T.free "abs" (by decide +kernel)) (qa_cons (qe_ix (qe_dd (u1 hr) (qv 0) (qk_str)) (qe_dd (u1 hr) (qv 0) (qk_str))) (qa_nil))) sc_law_draw.nd) (qs_cons (qs_dk (u1 hr) (qv 0) (qk_str) (qe_bin (of_add) (qe_dd (u1 hr) (qv 0) (qk_str)) (qk_int))) (qs_cons (qs_if (qt_cmp (of_lt) (qv 2) (qe_bin (of_pow) (qk_int) (qk_int))) (qs_cons (qs_set 3 (qe_bin (of_mod) (qe_typ cf_int (T.free "int" (by decide +kernel)) (qa_cons (qe_bin (of_add) (qe_bin (of_pow) (qe_bin (of_add) (qv 2) (qk_int)) (qk_int)) (qe_bin (of_mul) (qe_dd (u1 hr) (qv 0) (qk_str)) (qe_bin (of_add) (qe_dd (u1 hr) (qv 0) (qk_str)) (qk_int)))) (qa_nil))) (qk_int)) sc_law_draw.nd) (qs_cons (qs_ret (qe_bin (of_mod) (qv 3) (qv 1))) (qs_nil))) (qs_nil)) (qs_cons (qs_dk (u1 hr) (qv 0) (qk_str) (qv 2)) (qs_nil)))))) (qs_cons (qs_if (qt_cmp (of_ge) (qe_dd (u1 hr) (qv 0) (qk_str)) (qk_int)) (qs_cons (qs_set 4 (qe_bin (of_mod) (qe_typ cf_int (T.free "int" (by decide +kernel)) (qa_cons (qe_dd (u1 hr) (qv 0) (qk_str)) (qa_nil))) (qv 1)) sc_law_draw.nd) (qs_cons (qs_dk (u1 hr) (qv 0) (qk_str) (qe_bin (of_fdiv) (qe_dd (u1 hr) (qv 0) (qk_str)) (qv 1))) (qs_cons (qs_ret (qv 4)) (qs_nil)))) (qs_nil)) (qs_cons (qs_dk (u1 hr) (qv 0) (qk_str) (qe_bin (of_mod) (qe_typ cf_int (T.free "int" (by decide +kernel)) (qa_cons (qe_bin (of_add) (qe_bin (of_mul) (qe_dd (u1 hr) (qv 0) (qk_str)) (qk_int)) (qk_int)) (qa_nil))) (qk_int))) (qs_cons (qs_ret (qe_bin (of_mod) (qe_bin (of_mod) (qe_typ cf_int (T.free "int" (by decide +kernel)) (qa_cons (qe_bin (of_pow) (qe_dd (u1 hr) (qv 0) (qk_str)) (qk_int)) (qa_nil))) (qk_int)) (qv 1))) (qs_nil)))))
/-! _law_pick -/
abbrev N_law_pick : List Str := ["_law_bag_here", "_law_some"]
theorem sc_law_pick : FnScope N_law_pick ["_law_bag_here", "_law_some"] (defScope s_law_pick) := ⟨rfl, rfl, rfl, by decide +kernel, rfl, by decide +kernel, by decide +kernel⟩
noncomputable def F_law_pick : Fn := dfn 2 2 (sSeq (sRet (bin ixG (v 1) (cal F_law_draw (aCons (v 0) (aCons (cal lenB (aCons (v 1) (aNil))) (aNil)))))) (sNil))
theorem w_law_pick (T : TX K mg) : FnF P w K mg base 2 (He.ga K "_law_pick") F_law_pick := by
  obtain ⟨fd, F⟩ := T.says.def_ 10
  exact okF (j := 1) (st := s_law_pick) F sc_law_pick rfl rfl (fun _ _ _ _ _ _ us hl => match us, hl with | [_, _], _ => rfl) (fun cdv A outer s H E hr => qs_cons (qs_ret (qe_ix (qv 1) (qe_call (w_law_draw T) (hr.mono (by decide)) (T.glo "_law_draw" (by decide +kernel)) (kp_law_draw T) (qa_cons (qv 0) (qa_cons (qe_blt cf_len (T.free "len" (by decide +kernel)) (qa_cons (qv 1) (qa_nil))) (qa_nil)))))) (qs_nil))
/-! _law_signs -/
abbrev N_law_signs : List Str := ["_law_bag_here", "_law_found", "_law_k", "_law_sign"]
theorem sc_law_signs : FnScope N_law_signs ["_law_bag_here"] (defScope s_law_signs) := ⟨rfl, rfl, rfl, by decide +kernel, rfl, by decide +kernel, by decide +kernel⟩
noncomputable def F_law_signs : Fn := dfn 1 4 (sSeq (sSet 1 (k (.str ""))) (sSeq (sFor (.nm 2) (iR1 (aCons (bin (addG) (k (.int 2)) (cal F_law_draw (aCons (v 0) (aCons (k (.int 5)) (aNil))))) (aNil))) (sSeq (sSet 1 (bin (addG) (v 1) (cal F_law_pick (aCons (v 0) (aCons (lcE (.nm 3) (iSeq (k (.str "aabbABo"))) (tOr (tst (bin (inG false) (v 3) (k (.str "abo")))) (tst (bin (inG true) (v 3) (v 1)))) (v 3)) (aNil)))))) (sNil))) (sSeq (sRet (v 1)) (sNil))))
theorem w_law_signs (T : TX K mg) : FnF P w K mg base 3 (He.ga K "_law_signs") F_law_signs := by
  obtain ⟨fd, F⟩ := T.says.def_ 11
  exact okF (j := 2) (st := s_law_signs) F sc_law_signs rfl rfl (fun _ _ _ _ _ _ us hl => match us, hl with | [_], _ => rfl) (fun cdv A outer s H E hr => qs_cons (qs_set 1 (qk_str) sc_law_signs.nd) (qs_cons (qs_for (passes_of rfl) rfl (qi_range1 (T.free "range" (by decide +kernel)) (qa_cons (qe_bin (of_add) (qk_int) (qe_call (w_law_draw T) (hr.mono (by decide)) (T.glo "_law_draw" (by decide +kernel)) (kp_law_draw T) (qa_cons (qv 0) (qa_cons (qk_int) (qa_nil))))) (qa_nil))) (qg_name 2 sc_law_signs.nd) (qs_cons (qs_set 1 (qe_bin (of_add) (qv 1) (qe_call (w_law_pick T) (hr.mono (by decide)) (T.glo "_law_pick" (by decide +kernel)) (kp_law_pick T) (qa_cons (qv 0) (qa_cons (qe_lc (own := [("_law_sign", 3)]) (.nm 3) rfl rfl sc_law_signs.nd (qi_seq (qk_str)) (blkOk_by (N := N_law_signs) (sc := defScope s_law_signs) (by decide +kernel)) (fun _ _ _ _ _ => qg_name 3 sc_law_signs.nd) (fun _ _ _ _ _ => qts_one (qt_w (qw_or (qt_cmp (of_in (u65 hr)) (qv 3) (qk_str)) (qw_or1 (qt_cmp (of_notin (u65 hr)) (qv 3) (qv 1)))))) (fun _ _ _ _ _ => qv 3)) (qa_nil))))) sc_law_signs.nd) (qs_nil))) (qs_cons (qs_ret (qv 1)) (qs_nil))))
/-! _law_heard -/
theorem cc_BadPlayer {X : Cx} (T : TX X.K X.mg) : CallF X (.builtin "isinstance") (isiF (isiC [("Ring", false)]) (isCl "BadPlayer")) := by
  refine cf_isiC (fun n h => kt_six T "BadPlayer" (by decide +kernel) n h) fun c b h => ?_
  have h := memLk h
  simp only [List.mem_cons, List.not_mem_nil, or_false, Prod.mk.injEq] at h
  rcases h with ⟨rfl, rfl⟩
  · exact ⟨cf_ T "Ring" (by decide +kernel), T.ko "Ring" "BadPlayer" false (by decide +kernel)⟩
theorem ix_BadPlayer {X : Cx} (T : TX X.K X.mg) : CallF X (.builtin "isinstance") (isiX [("BadPit", false), ("BadPlayer", true), ("BadRing", false), ("BadText", false)] (isCl "BadPlayer") (isiF (isiC [("Ring", false)]) (isCl "BadPlayer"))) := by
  refine cf_isiX (cc_BadPlayer T) (fun c h G v r => by cases r <;> simp [isCl] at h; subst h; exact .own _) T.cg T.ct fun c b h => ?_
  have h := memLk h
  simp only [List.mem_cons, List.not_mem_nil, or_false, Prod.mk.injEq] at h
  rcases h with ⟨rfl, rfl⟩ | ⟨rfl, rfl⟩ | ⟨rfl, rfl⟩ | ⟨rfl, rfl⟩
  · exact ⟨T.xc "BadPit" (by decide +kernel), T.ko "BadPit" "BadPlayer" false (by decide +kernel)⟩
  · exact ⟨T.xc "BadPlayer" (by decide +kernel), T.ko "BadPlayer" "BadPlayer" true (by decide +kernel)⟩
  · exact ⟨T.xc "BadRing" (by decide +kernel), T.ko "BadRing" "BadPlayer" false (by decide +kernel)⟩
  · exact ⟨T.xc "BadText" (by decide +kernel), T.ko "BadText" "BadPlayer" false (by decide +kernel)⟩
theorem xf_value {X : Cx} (T : TX X.K X.mg) : ∀ c ∈ ["BadPit", "BadPlayer"], XC X.K (He.ga X.K (Str.ofString c)) ∧ PySem.W.findIn X.K (.ref (He.ga X.K (Str.ofString c))) (Str.ofString "value") = some none := by
  intro c h
  simp only [List.mem_cons, List.not_mem_nil, or_false] at h
  rcases h with rfl | rfl
  · exact ⟨T.xc "BadPit" (by decide +kernel), T.nf "BadPit" "value" (by decide +kernel)⟩
  · exact ⟨T.xc "BadPlayer" (by decide +kernel), T.nf "BadPlayer" "value" (by decide +kernel)⟩
theorem cc_BadPit {X : Cx} (T : TX X.K X.mg) : CallF X (.builtin "isinstance") (isiF (isiC [("Ring", false)]) (isCl "BadPit")) := by
  refine cf_isiC (fun n h => kt_six T "BadPit" (by decide +kernel) n h) fun c b h => ?_
  have h := memLk h
  simp only [List.mem_cons, List.not_mem_nil, or_false, Prod.mk.injEq] at h
  rcases h with ⟨rfl, rfl⟩
  · exact ⟨cf_ T "Ring" (by decide +kernel), T.ko "Ring" "BadPit" false (by decide +kernel)⟩
theorem ix_BadPit {X : Cx} (T : TX X.K X.mg) : CallF X (.builtin "isinstance") (isiX [("BadPit", true), ("BadPlayer", false), ("BadRing", false), ("BadText", false)] (isCl "BadPit") (isiF (isiC [("Ring", false)]) (isCl "BadPit"))) := by
  refine cf_isiX (cc_BadPit T) (fun c h G v r => by cases r <;> simp [isCl] at h; subst h; exact .own _) T.cg T.ct fun c b h => ?_
  have h := memLk h
  simp only [List.mem_cons, List.not_mem_nil, or_false, Prod.mk.injEq] at h
  rcases h with ⟨rfl, rfl⟩ | ⟨rfl, rfl⟩ | ⟨rfl, rfl⟩ | ⟨rfl, rfl⟩
  · exact ⟨T.xc "BadPit" (by decide +kernel), T.ko "BadPit" "BadPit" true (by decide +kernel)⟩
  · exact ⟨T.xc "BadPlayer" (by decide +kernel), T.ko "BadPlayer" "BadPit" false (by decide +kernel)⟩
  · exact ⟨T.xc "BadRing" (by decide +kernel), T.ko "BadRing" "BadPit" false (by decide +kernel)⟩
  · exact ⟨T.xc "BadText" (by decide +kernel), T.ko "BadText" "BadPit" false (by decide +kernel)⟩
theorem cc_BadRing {X : Cx} (T : TX X.K X.mg) : CallF X (.builtin "isinstance") (isiF (isiC [("Ring", false)]) (isCl "BadRing")) := by
  refine cf_isiC (fun n h => kt_six T "BadRing" (by decide +kernel) n h) fun c b h => ?_
  have h := memLk h
  simp only [List.mem_cons, List.not_mem_nil, or_false, Prod.mk.injEq] at h
  rcases h with ⟨rfl, rfl⟩
  · exact ⟨cf_ T "Ring" (by decide +kernel), T.ko "Ring" "BadRing" false (by decide +kernel)⟩
theorem ix_BadRing {X : Cx} (T : TX X.K X.mg) : CallF X (.builtin "isinstance") (isiX [("BadPit", false), ("BadPlayer", false), ("BadRing", true), ("BadText", false)] (isCl "BadRing") (isiF (isiC [("Ring", false)]) (isCl "BadRing"))) := by
  refine cf_isiX (cc_BadRing T) (fun c h G v r => by cases r <;> simp [isCl] at h; subst h; exact .own _) T.cg T.ct fun c b h => ?_
  have h := memLk h
  simp only [List.mem_cons, List.not_mem_nil, or_false, Prod.mk.injEq] at h
  rcases h with ⟨rfl, rfl⟩ | ⟨rfl, rfl⟩ | ⟨rfl, rfl⟩ | ⟨rfl, rfl⟩
  · exact ⟨T.xc "BadPit" (by decide +kernel), T.ko "BadPit" "BadRing" false (by decide +kernel)⟩
  · exact ⟨T.xc "BadPlayer" (by decide +kernel), T.ko "BadPlayer" "BadRing" false (by decide +kernel)⟩
  · exact ⟨T.xc "BadRing" (by decide +kernel), T.ko "BadRing" "BadRing" true (by decide +kernel)⟩
  · exact ⟨T.xc "BadText" (by decide +kernel), T.ko "BadText" "BadRing" false (by decide +kernel)⟩
theorem xf_part {X : Cx} (T : TX X.K X.mg) : ∀ c ∈ ["BadRing"], XC X.K (He.ga X.K (Str.ofString c)) ∧ PySem.W.findIn X.K (.ref (He.ga X.K (Str.ofString c))) (Str.ofString "part") = some none := by
  intro c h
  simp only [List.mem_cons, List.not_mem_nil, or_false] at h
  rcases h with rfl
  · exact ⟨T.xc "BadRing" (by decide +kernel), T.nf "BadRing" "part" (by decide +kernel)⟩
theorem cc_BadText {X : Cx} (T : TX X.K X.mg) : CallF X (.builtin "isinstance") (isiF (isiC [("Ring", false)]) (isCl "BadText")) := by
  refine cf_isiC (fun n h => kt_six T "BadText" (by decide +kernel) n h) fun c b h => ?_
  have h := memLk h
  simp only [List.mem_cons, List.not_mem_nil, or_false, Prod.mk.injEq] at h
  rcases h with ⟨rfl, rfl⟩
  · exact ⟨cf_ T "Ring" (by decide +kernel), T.ko "Ring" "BadText" false (by decide +kernel)⟩
theorem ix_BadText {X : Cx} (T : TX X.K X.mg) : CallF X (.builtin "isinstance") (isiX [("BadPit", false), ("BadPlayer", false), ("BadRing", false), ("BadText", true)] (isCl "BadText") (isiF (isiC [("Ring", false)]) (isCl "BadText"))) := by
  refine cf_isiX (cc_BadText T) (fun c h G v r => by cases r <;> simp [isCl] at h; subst h; exact .own _) T.cg T.ct fun c b h => ?_
  have h := memLk h
  simp only [List.mem_cons, List.not_mem_nil, or_false, Prod.mk.injEq] at h
  rcases h with ⟨rfl, rfl⟩ | ⟨rfl, rfl⟩ | ⟨rfl, rfl⟩ | ⟨rfl, rfl⟩
  · exact ⟨T.xc "BadPit" (by decide +kernel), T.ko "BadPit" "BadText" false (by decide +kernel)⟩
  · exact ⟨T.xc "BadPlayer" (by decide +kernel), T.ko "BadPlayer" "BadText" false (by decide +kernel)⟩
  · exact ⟨T.xc "BadRing" (by decide +kernel), T.ko "BadRing" "BadText" false (by decide +kernel)⟩
  · exact ⟨T.xc "BadText" (by decide +kernel), T.ko "BadText" "BadText" true (by decide +kernel)⟩
theorem xf_word {X : Cx} (T : TX X.K X.mg) : ∀ c ∈ ["BadText"], XC X.K (He.ga X.K (Str.ofString c)) ∧ PySem.W.findIn X.K (.ref (He.ga X.K (Str.ofString c))) (Str.ofString "word") = some none := by
  intro c h
  simp only [List.mem_cons, List.not_mem_nil, or_false] at h
  rcases h with rfl
  · exact ⟨T.xc "BadText" (by decide +kernel), T.nf "BadText" "word" (by decide +kernel)⟩
theorem xf_line {X : Cx} (T : TX X.K X.mg) : ∀ c ∈ ["BadText"], XC X.K (He.ga X.K (Str.ofString c)) ∧ PySem.W.findIn X.K (.ref (He.ga X.K (Str.ofString c))) (Str.ofString "line") = some none := by
  intro c h
  simp only [List.mem_cons, List.not_mem_nil, or_false] at h
  rcases h with rfl
  · exact ⟨T.xc "BadText" (by decide +kernel), T.nf "BadText" "line" (by decide +kernel)⟩
abbrev N_law_heard : List Str := ["_law_ask", "_law_caught", "error"]
theorem sc_law_heard : FnScope N_law_heard ["_law_ask"] (defScope s_law_heard) := ⟨rfl, rfl, rfl, by decide +kernel, rfl, by decide +kernel, by decide +kernel⟩
noncomputable def R_law_heard : MS := sSeq (sIf (tru (cal (isiX [("BadPit", false), ("BadPlayer", false), ("BadRing", false), ("BadText", true)] (isCl "BadText") (isiF (isiC [("Ring", false)]) (isCl "BadText"))) (aCons (v 1) (aCons (k (.cls "BadText")) aNil)))) (sSeq (sRet (tupE (aCons (k (.str "text")) (aCons (una (fldX ["BadText"] "line" fun _ _ => .no) (v 1)) (aCons (una (fldX ["BadText"] "word" fun _ _ => .no) (v 1)) (aNil)))))) (sNil)) (sNil)) (sSeq (sIf (tru (cal (isiX [("BadPit", false), ("BadPlayer", false), ("BadRing", true), ("BadText", false)] (isCl "BadRing") (isiF (isiC [("Ring", false)]) (isCl "BadRing"))) (aCons (v 1) (aCons (k (.cls "BadRing")) aNil)))) (sSeq (sRet (tupE (aCons (k (.str "ring")) (aCons (una (fldX ["BadRing"] "part" fun _ _ => .no) (v 1)) (aNil))))) (sNil)) (sNil)) (sSeq (sIf (tru (cal (isiX [("BadPit", true), ("BadPlayer", false), ("BadRing", false), ("BadText", false)] (isCl "BadPit") (isiF (isiC [("Ring", false)]) (isCl "BadPit"))) (aCons (v 1) (aCons (k (.cls "BadPit")) aNil)))) (sSeq (sRet (tupE (aCons (k (.str "pit")) (aCons (una (fldX ["BadPit", "BadPlayer"] "value" fun _ _ => .no) (v 1)) (aNil))))) (sNil)) (sNil)) (sSeq (sRet (ifE (tru (cal (isiX [("BadPit", false), ("BadPlayer", true), ("BadRing", false), ("BadText", false)] (isCl "BadPlayer") (isiF (isiC [("Ring", false)]) (isCl "BadPlayer"))) (aCons (v 1) (aCons (k (.cls "BadPlayer")) aNil)))) (tupE (aCons (k (.str "player")) (aCons (una (fldX ["BadPit", "BadPlayer"] "value" fun _ _ => .no) (v 1)) (aNil)))) (tupE (aCons (k (.str "odd")) (aCons (k .non) (aNil)))))) (sNil))))
noncomputable def F_law_heard : Hrd := hrA 3 1 ["BadPit", "BadPlayer", "BadRing", "BadText"] R_law_heard
theorem hm_law_heard (T : TX K mg) : ∀ c ∈ ["BadPit", "BadPlayer", "BadRing", "BadText"], PySem.W.exmOne K (.ref (gaS K c)) (.ref (He.ga K "LapError")) = some true := by
  intro c h
  simp only [List.mem_cons, List.not_mem_nil, or_false] at h
  rcases h with rfl | rfl | rfl | rfl
  · exact T.xm "BadPit" "LapError" (by decide +kernel)
  · exact T.xm "BadPlayer" "LapError" (by decide +kernel)
  · exact T.xm "BadRing" "LapError" (by decide +kernel)
  · exact T.xm "BadText" "LapError" (by decide +kernel)
theorem g_law_heard {X : Cx} (T : TX X.K X.mg) (hr0 : Room 1 X.A) (cdv : Value) (qq : Str) : LamX.GivesTo X N_law_heard "_law_heard" (defScope s_law_heard) (He.ga X.K "_law_heard") cdv (defBody s_law_heard) "_law_ask" qq (TTh X.K F_law_heard) :=
  gives_A (i := 2) (j := 1) sc_law_heard.nd rfl rfl (by decide) (by decide) (fun _ => rfl) (fun _ => rfl) rfl rfl rfl (T.glo "LapError" (by decide +kernel)) (by decide) (by decide) (by decide) (hm_law_heard T) (fun s H => have hr := hr0.deeper (envOfC "_law_heard" (defScope s_law_heard) s.heap.objs.size (He.ga X.K "_law_heard") cdv); qs_cons (qs_if (qt_tru (qe_blt (ix_BadText T) (T.free "isinstance" (by decide +kernel)) (qa_cons (qv 1) (qa_cons (qg_cls (T.glo "BadText" (by decide +kernel))) qa_nil)))) (qs_cons (qs_ret (qe_tup (qa_cons (qk_str) (qa_cons (qe_fldX (xf_line T) (qv 1)) (qa_cons (qe_fldX (xf_word T) (qv 1)) (qa_nil)))))) (qs_nil)) (qs_nil)) (qs_cons (qs_if (qt_tru (qe_blt (ix_BadRing T) (T.free "isinstance" (by decide +kernel)) (qa_cons (qv 1) (qa_cons (qg_cls (T.glo "BadRing" (by decide +kernel))) qa_nil)))) (qs_cons (qs_ret (qe_tup (qa_cons (qk_str) (qa_cons (qe_fldX (xf_part T) (qv 1)) (qa_nil))))) (qs_nil)) (qs_nil)) (qs_cons (qs_if (qt_tru (qe_blt (ix_BadPit T) (T.free "isinstance" (by decide +kernel)) (qa_cons (qv 1) (qa_cons (qg_cls (T.glo "BadPit" (by decide +kernel))) qa_nil)))) (qs_cons (qs_ret (qe_tup (qa_cons (qk_str) (qa_cons (qe_fldX (xf_value T) (qv 1)) (qa_nil))))) (qs_nil)) (qs_nil)) (qs_cons (qs_ret (qe_if (qt_tru (qe_blt (ix_BadPlayer T) (T.free "isinstance" (by decide +kernel)) (qa_cons (qv 1) (qa_cons (qg_cls (T.glo "BadPlayer" (by decide +kernel))) qa_nil)))) (qe_tup (qa_cons (qk_str) (qa_cons (qe_fldX (xf_value T) (qv 1)) (qa_nil)))) (qe_tup (qa_cons (qk_str) (qa_cons (qk_non) (qa_nil)))))) (qs_nil))))) (fun _ => rfl) (fun _ => rfl) (fun _ => rfl)
/-! _law_is_text -/
abbrev N_law_is_text : List Str := ["_law_line", "_law_words", "_law_sign", "_law_k"]
theorem sc_law_is_text : FnScope N_law_is_text ["_law_line"] (defScope s_law_is_text) := ⟨rfl, rfl, rfl, by decide +kernel, rfl, by decide +kernel, by decide +kernel⟩
noncomputable def F_law_is_text : Fn := dfn 1 4 (sSeq (sSet 1 (mthS splitG (v 0) (k (.str " ")))) (sSeq (sIf (tOr (tst (bin (eqG true) (cal lenB (aCons (v 1) (aNil))) (k (.int 2)))) (tOr (tNo (tst (chn (leG) (leG) (k (.int 2)) (cal lenB (aCons (bin ixG (v 1) (k (.int 0))) (aNil))) (k (.int 6))))) (tst (bin (eqG true) (lcE (.nm 2) (iSeq (bin ixG (v 1) (k (.int 0)))) (tst (bin (inG true) (v 2) (k (.str "abABo")))) (v 2)) (lstE (aNil)))))) (sSeq (sRet (k (.bl false))) (sNil)) (sNil)) (sSeq (sIf (tOr (tst (bin (gtG) (mthS countG (bin ixG (v 1) (k (.int 0))) (k (.str "A"))) (k (.int 1)))) (tst (bin (gtG) (mthS countG (bin ixG (v 1) (k (.int 0))) (k (.str "B"))) (k (.int 1))))) (sSeq (sRet (k (.bl false))) (sNil)) (sNil)) (sSeq (sRet (bin (inG false) (bin ixG (v 1) (k (.int 1))) (lcE (.nm 3) (iR1 (aCons (cal lenB (aCons (bin ixG (v 1) (k (.int 0))) (aNil))) (aNil))) (tYs) (cal strB (aCons (v 3) (aNil)))))) (sNil)))))
theorem w_law_is_text (T : TX K mg) : FnF P w K mg base 1 (He.ga K "_law_is_text") F_law_is_text := by
  obtain ⟨fd, F⟩ := T.says.def_ 13
  exact okF (j := 0) (st := s_law_is_text) F sc_law_is_text rfl rfl (fun _ _ _ _ _ _ us hl => match us, hl with | [_], _ => rfl) (fun cdv A outer s H E hr => qs_cons (qs_set 1 (qe_split (qv 0) (qk_str)) sc_law_is_text.nd) (qs_cons (qs_if (qt_w (qw_or (qt_cmp (of_ne hr.units) (qe_blt cf_len (T.free "len" (by decide +kernel)) (qa_cons (qv 1) (qa_nil))) (qk_int)) (qw_or (qt_not (qt_chn (of_le) (of_le) (qk_int) (qe_blt cf_len (T.free "len" (by decide +kernel)) (qa_cons (qe_ix (qv 1) (qk_int)) (qa_nil))) (qk_int))) (qw_or1 (qt_cmp (of_ne hr.units) (qe_lc (own := [("_law_sign", 2)]) (.nm 2) rfl rfl sc_law_is_text.nd (qi_seq (qe_ix (qv 1) (qk_int))) (blkOk_by (N := N_law_is_text) (sc := defScope s_law_is_text) (by decide +kernel)) (fun _ _ _ _ _ => qg_name 2 sc_law_is_text.nd) (fun _ _ _ _ _ => qts_one (qt_cmp (of_notin (u65 hr)) (qv 2) (qk_str))) (fun _ _ _ _ _ => qv 2)) (qe_lst (qa_nil))))))) (qs_cons (qs_ret (qk_bl)) (qs_nil)) (qs_nil)) (qs_cons (qs_if (qt_w (qw_or (qt_cmp (of_gt) (qe_count (qe_ix (qv 1) (qk_int)) (qk_str)) (qk_int)) (qw_or1 (qt_cmp (of_gt) (qe_count (qe_ix (qv 1) (qk_int)) (qk_str)) (qk_int))))) (qs_cons (qs_ret (qk_bl)) (qs_nil)) (qs_nil)) (qs_cons (qs_ret (qe_cmp (of_in (u65 hr)) (qe_ix (qv 1) (qk_int)) (qe_lc (own := [("_law_k", 3)]) (.nm 3) rfl rfl sc_law_is_text.nd (qi_range1 (T.free "range" (by decide +kernel)) (qa_cons (qe_blt cf_len (T.free "len" (by decide +kernel)) (qa_cons (qe_ix (qv 1) (qk_int)) (qa_nil))) (qa_nil))) (blkOk_by (N := N_law_is_text) (sc := defScope s_law_is_text) (by decide +kernel)) (fun _ _ _ _ _ => qg_name 3 sc_law_is_text.nd) (fun _ _ _ _ _ => pts_yes) (fun _ _ _ _ _ => qe_typ cf_str (T.free "str" (by decide +kernel)) (qa_cons (qv 3) (qa_nil)))))) (qs_nil)))))
/-! _law_bent -/
abbrev N_law_bent : List Str := ["_law_bag_here", "_law_line", "_law_at", "_law_sign", "_law_words", "_law_some"]
theorem sc_law_bent : FnScope N_law_bent ["_law_bag_here", "_law_line"] (defScope s_law_bent) := ⟨rfl, rfl, rfl, by decide +kernel, rfl, by decide +kernel, by decide +kernel⟩
noncomputable def F_law_bent : Fn := dfn 2 6 (sSeq (sPar 2 3 (aCons (cal F_law_draw (aCons (v 0) (aCons (bin (addG) (cal lenB (aCons (v 1) (aNil))) (k (.int 1))) (aNil)))) (aCons (cal F_law_pick (aCons (v 0) (aCons (lstE (aCons (k (.str " ")) (aCons (k (.str "0")) (aCons (k (.str "5")) (aCons (k (.str "6")) (aCons (k (.str "a")) (aCons (k (.str "A")) (aCons (k (.str "B")) (aCons (k (.str "o")) (aCons (k (.str "O")) (aCons (k (.str "-")) (aCons (k (.str "\n")) (aNil))))))))))))) (aNil)))) (aNil)))) (sSeq (sSet 4 (mthS splitG (v 1) (k (.str " ")))) (sSeq (sSet 5 (lstE (aCons (bin (addG) (bin (addG) (sli (v 1) (oNo) (oSo (v 2))) (v 3)) (sli (v 1) (oSo (v 2)) (oNo))) (aCons (bin (addG) (sli (v 1) (oNo) (oSo (v 2))) (sli (v 1) (oSo (bin (addG) (v 2) (k (.int 1)))) (oNo))) (aCons (mthS joinG (k (.str " ")) (una revG (v 4))) (aCons (bin (addG) (v 1) (k (.str " 0"))) (aCons (bin ixG (v 4) (k (.int 0))) (aNil)))))))) (sSeq (sSet 5 (bin (addG) (v 5) (lstE (aCons (bin (addG) (bin (addG) (bin ixG (v 4) (k (.int 0))) (k (.str " 0"))) (bin ixG (v 4) (una negG (k (.int 1))))) (aCons (bin (addG) (bin (addG) (bin ixG (v 4) (k (.int 0))) (k (.str "  "))) (bin ixG (v 4) (una negG (k (.int 1))))) (aCons (bin (addG) (k (.str " ")) (v 1)) (aCons (bin (addG) (v 1) (k (.str " "))) (aCons (uprE (v 1)) (aNil))))))))) (sSeq (sRet (cal F_law_pick (aCons (v 0) (aCons (bin (addG) (v 5) (lstE (aCons (bin (addG) (bin ixG (v 4) (k (.int 0))) (k (.str " +1"))) (aCons (bin (addG) (bin (mulS (mulG)) (bin ixG (v 4) (k (.int 0))) (k (.int 2))) (k (.str " 1"))) (aCons (bin (addG) (bin ixG (v 4) (k (.int 0))) (k (.str " -1"))) (aCons (k (.str "a 0")) (aCons (v 1) (aNil)))))))) (aNil))))) (sNil))))))
theorem w_law_bent (T : TX K mg) : FnF P w K mg base 3 (He.ga K "_law_bent") F_law_bent := by
  obtain ⟨fd, F⟩ := T.says.def_ 14
  exact okF (j := 2) (st := s_law_bent) F sc_law_bent rfl rfl (fun _ _ _ _ _ _ us hl => match us, hl with | [_, _], _ => rfl) (fun cdv A outer s H E hr => qs_cons (qs_par 2 3 rfl (qa_cons (qe_call (w_law_draw T) (hr.mono (by decide)) (T.glo "_law_draw" (by decide +kernel)) (kp_law_draw T) (qa_cons (qv 0) (qa_cons (qe_bin (of_add) (qe_blt cf_len (T.free "len" (by decide +kernel)) (qa_cons (qv 1) (qa_nil))) (qk_int)) (qa_nil)))) (qa_cons (qe_call (w_law_pick T) (hr.mono (by decide)) (T.glo "_law_pick" (by decide +kernel)) (kp_law_pick T) (qa_cons (qv 0) (qa_cons (qe_lst (qa_cons (qk_str) (qa_cons (qk_str) (qa_cons (qk_str) (qa_cons (qk_str) (qa_cons (qk_str) (qa_cons (qk_str) (qa_cons (qk_str) (qa_cons (qk_str) (qa_cons (qk_str) (qa_cons (qk_str) (qa_cons (qk_str) (qa_nil))))))))))))) (qa_nil)))) (qa_nil))) sc_law_bent.nd) (qs_cons (qs_set 4 (qe_split (qv 1) (qk_str)) sc_law_bent.nd) (qs_cons (qs_set 5 (qe_lst (qa_cons (qe_bin (of_add) (qe_bin (of_add) (qe_sli (qv 1) (qo_none) (qo_some (qv 2))) (qv 3)) (qe_sli (qv 1) (qo_some (qv 2)) (qo_none))) (qa_cons (qe_bin (of_add) (qe_sli (qv 1) (qo_none) (qo_some (qv 2))) (qe_sli (qv 1) (qo_some (qe_bin (of_add) (qv 2) (qk_int))) (qo_none))) (qa_cons (qe_join (qk_str) (qe_rev (qv 4))) (qa_cons (qe_bin (of_add) (qv 1) (qk_str)) (qa_cons (qe_ix (qv 4) (qk_int)) (qa_nil))))))) sc_law_bent.nd) (qs_cons (qs_set 5 (qe_bin (of_add) (qv 5) (qe_lst (qa_cons (qe_bin (of_add) (qe_bin (of_add) (qe_ix (qv 4) (qk_int)) (qk_str)) (qe_ix (qv 4) (qe_un of_neg (qk_int)))) (qa_cons (qe_bin (of_add) (qe_bin (of_add) (qe_ix (qv 4) (qk_int)) (qk_str)) (qe_ix (qv 4) (qe_un of_neg (qk_int)))) (qa_cons (qe_bin (of_add) (qk_str) (qv 1)) (qa_cons (qe_bin (of_add) (qv 1) (qk_str)) (qa_cons (qe_upr (qv 1)) (qa_nil)))))))) sc_law_bent.nd) (qs_cons (qs_ret (qe_call (w_law_pick T) (hr.mono (by decide)) (T.glo "_law_pick" (by decide +kernel)) (kp_law_pick T) (qa_cons (qv 0) (qa_cons (qe_bin (of_add) (qv 5) (qe_lst (qa_cons (qe_bin (of_add) (qe_ix (qv 4) (qk_int)) (qk_str)) (qa_cons (qe_bin (of_add) (qe_bin (of_mulS (of_mul)) (qe_ix (qv 4) (qk_int)) (qk_int)) (qk_str)) (qa_cons (qe_bin (of_add) (qe_ix (qv 4) (qk_int)) (qk_str)) (qa_cons (qk_str) (qa_cons (qv 1) (qa_nil)))))))) (qa_nil))))) (qs_nil))))))
/-! _law_made_wrong -/
abbrev N_law_made_wrong : List Str := ["_law_bag_here", "_law_signs_here", "_law_odd", "_law_number", "_law_heard_here"]
theorem sc_law_made_wrong : FnScope N_law_made_wrong ["_law_bag_here", "_law_signs_here"] (defScope s_law_made_wrong) := ⟨rfl, rfl, rfl, by decide +kernel, rfl, by decide +kernel, by decide +kernel⟩
noncomputable def F_law_made_wrong : Fn := dfn 2 5 (sSeq (sSet 2 (cal F_law_pick (aCons (v 0) (aCons (lstE (aCons (k (.str "a")) (aCons (k (.str "")) (aCons (k (.str "aaaaaaa")) (aCons (k (.str "AA")) (aCons (k (.str "bBBa")) (aCons (k (.str "axb")) (aCons (k (.str "a b")) (aCons (k .non) (aCons (k (.int 4)) (aCons (lstE (aCons (k (.str "a")) (aCons (k (.str "b")) (aNil)))) (aCons (tupE (aCons (k (.str "a")) (aCons (k (.str "A")) (aNil)))) (aCons (k (.bl true)) (aCons (dicE) (aNil))))))))))))))) (aNil))))) (sSeq (sSet 3 (cal F_law_pick (aCons (v 0) (aCons (lstE (aCons (cal lenB (aCons (v 1) (aNil))) (aCons (una negG (k (.int 1))) (aCons (k (.bl true)) (aCons (k (.bl false)) (aCons (k (.str "0")) (aCons (bin (powG) (k (.int 10)) (k (.int 30))) (aCons (tupE (aCons (k (.int 0)) (aNil))) (aCons (lstE (aNil)) (aCons (dicE) (aNil))))))))))) (aNil))))) (sSeq (sSet 4 (lstM (aCons (lamc F_law_heard (cal (mkF "Ring" F_RingD_initD) (aCons (v 2) (aNil)))) (aNil)))) (sSeq (sExp (mthL appG (v 4) (aCons (lamc F_law_heard (cal (mkF "Ring" F_RingD_initD) (aCons (v 2) (aCons (v 3) (aNil))))) (aNil)))) (sSeq (sExp (mthL appG (v 4) (aCons (lamc F_law_heard (cal (mkF "Ring" F_RingD_initD) (aCons (v 1) (aCons (v 3) (aNil))))) (aNil)))) (sSeq (sRet (bin (eqG false) (frzE (v 4)) (lstE (aCons (tupE (aCons (k (.str "ring")) (aCons (k (.str "signs")) (aNil)))) (aCons (tupE (aCons (k (.str "ring")) (aCons (k (.str "signs")) (aNil)))) (aCons (tupE (aCons (k (.str "ring")) (aCons (k (.str "across")) (aNil)))) (aNil))))))) (sNil)))))))
theorem w_law_made_wrong (T : TX K mg) (TB : LamB K mg base lams) : FnFG P w K mg base 7 (He.ga K "_law_made_wrong") F_law_made_wrong := by
  obtain ⟨fd, F⟩ := T.says.def_ 15
  exact okFGL (j := 6) (st := s_law_made_wrong) F sc_law_made_wrong rfl rfl (fun _ _ _ _ _ _ us hl => match us, hl with | [_, _], _ => rfl) (fun cdv A outer s H E hco hgd hr => qs_cons (qs_set 2 (qe_call (w_law_pick T) (hr.mono (by decide)) (T.glo "_law_pick" (by decide +kernel)) (kp_law_pick T) (qa_cons (qv 0) (qa_cons (qe_lst (qa_cons (qk_str) (qa_cons (qk_str) (qa_cons (qk_str) (qa_cons (qk_str) (qa_cons (qk_str) (qa_cons (qk_str) (qa_cons (qk_str) (qa_cons (qk_non) (qa_cons (qk_int) (qa_cons (qe_lst (qa_cons (qk_str) (qa_cons (qk_str) (qa_nil)))) (qa_cons (qe_tup (qa_cons (qk_str) (qa_cons (qk_str) (qa_nil)))) (qa_cons (qk_bl) (qa_cons (qe_dic0) (qa_nil))))))))))))))) (qa_nil)))) sc_law_made_wrong.nd) (qs_cons (qs_set 3 (qe_call (w_law_pick T) (hr.mono (by decide)) (T.glo "_law_pick" (by decide +kernel)) (kp_law_pick T) (qa_cons (qv 0) (qa_cons (qe_lst (qa_cons (qe_blt cf_len (T.free "len" (by decide +kernel)) (qa_cons (qv 1) (qa_nil))) (qa_cons (qe_un of_neg (qk_int)) (qa_cons (qk_bl) (qa_cons (qk_bl) (qa_cons (qk_str) (qa_cons (qe_bin (of_pow) (qk_int) (qk_int)) (qa_cons (qe_tup (qa_cons (qk_int) (qa_nil))) (qa_cons (qe_lst (qa_nil)) (qa_cons (qe_dic0) (qa_nil))))))))))) (qa_nil)))) sc_law_made_wrong.nd) (qs_cons (qs_set 4 (qe_lstM (qa_cons (qe_lamA (lams := lams) (y := "_law_made_wrong") (Ng := N_law_heard) (st := s_law_heard) (k := 4) TB (by decide +kernel) hco rfl (hr.mono (by decide)) (T.glo "_law_heard" (by decide +kernel)) (kp_law_heard T) (fF_law_heard T) sc_law_heard (fun _ _ _ _ _ _ us hl => match us, hl with | [_], _ => rfl) (fun cdv qq => g_law_heard T (hr.mono (by decide)) cdv qq) (by show LamX.lamSB (defScope s_law_made_wrong) _ = true; decide +kernel) (fun A outer s H E f c' hr => qe_mk mk_frozen (T.mkr "Ring" (by decide +kernel)) (w_RingD_initD T) (hr.mono (by decide)) (T.glo "Ring" (by decide +kernel)) (qa_cons (qv 2) (qa_nil)))) (qa_nil))) sc_law_made_wrong.nd) (qs_cons (qs_exp (qe_mthL PySem.F.slot_list_append PySem.F.type_list_append mf_append (qv 4) (qa_cons (qe_lamA (lams := lams) (y := "_law_made_wrong") (Ng := N_law_heard) (st := s_law_heard) (k := 4) TB (by decide +kernel) hco rfl (hr.mono (by decide)) (T.glo "_law_heard" (by decide +kernel)) (kp_law_heard T) (fF_law_heard T) sc_law_heard (fun _ _ _ _ _ _ us hl => match us, hl with | [_], _ => rfl) (fun cdv qq => g_law_heard T (hr.mono (by decide)) cdv qq) (by show LamX.lamSB (defScope s_law_made_wrong) _ = true; decide +kernel) (fun A outer s H E f c' hr => qe_mk mk_frozen (T.mkr "Ring" (by decide +kernel)) (w_RingD_initD T) (hr.mono (by decide)) (T.glo "Ring" (by decide +kernel)) (qa_cons (qv 2) (qa_cons (qv 3) (qa_nil))))) (qa_nil)))) (qs_cons (qs_exp (qe_mthL PySem.F.slot_list_append PySem.F.type_list_append mf_append (qv 4) (qa_cons (qe_lamA (lams := lams) (y := "_law_made_wrong") (Ng := N_law_heard) (st := s_law_heard) (k := 4) TB (by decide +kernel) hco rfl (hr.mono (by decide)) (T.glo "_law_heard" (by decide +kernel)) (kp_law_heard T) (fF_law_heard T) sc_law_heard (fun _ _ _ _ _ _ us hl => match us, hl with | [_], _ => rfl) (fun cdv qq => g_law_heard T (hr.mono (by decide)) cdv qq) (by show LamX.lamSB (defScope s_law_made_wrong) _ = true; decide +kernel) (fun A outer s H E f c' hr => qe_mk mk_frozen (T.mkr "Ring" (by decide +kernel)) (w_RingD_initD T) (hr.mono (by decide)) (T.glo "Ring" (by decide +kernel)) (qa_cons (qv 1) (qa_cons (qv 3) (qa_nil))))) (qa_nil)))) (qs_cons (qs_ret (qe_cmp (of_eq hr.units) (qe_frz (qv 4)) (qe_lst (qa_cons (qe_tup (qa_cons (qk_str) (qa_cons (qk_str) (qa_nil)))) (qa_cons (qe_tup (qa_cons (qk_str) (qa_cons (qk_str) (qa_nil)))) (qa_cons (qe_tup (qa_cons (qk_str) (qa_cons (qk_str) (qa_nil)))) (qa_nil))))))) (qs_nil)))))))
/-! Ring.need_pit -/
abbrev N_Ring_need_pit : List Str := ["self", "pit"]
theorem sc_Ring_need_pit : FnScope N_Ring_need_pit ["self", "pit"] (defScope s_Ring_need_pit) := ⟨rfl, rfl, rfl, by decide +kernel, rfl, by decide +kernel, by decide +kernel⟩
noncomputable def F_Ring_need_pit : Fn := dfn 2 2 (sSeq (sIf (tNo (tru (cal F_is_between (aCons (v 1) (aCons (k (.int 0)) (aCons (bin (subG) (cal lenB (aCons (una (fldG ["Ring"] "signs") (v 0)) (aNil))) (k (.int 1))) (aNil))))))) (sSeq (sRai "BadPit" ["value"] (aCons (v 1) (aNil))) (sNil)) (sNil)) (sNil))
theorem w_Ring_need_pit (T : TX K mg) : FnF P w K mg base 3 (mO K "Ring" "need_pit") F_Ring_need_pit := by
  obtain ⟨fd, F⟩ := T.says.def_ 16
  exact okF (j := 2) (st := s_Ring_need_pit) F sc_Ring_need_pit rfl rfl (fun _ _ _ _ _ _ us hl => match us, hl with | [_, _], _ => rfl) (fun cdv A outer s H E hr => qs_cons (qs_if (qt_not (qt_tru (qe_call (w_is_between T) (hr.mono (by decide)) (T.glo "is_between" (by decide +kernel)) (kp_is_between T) (qa_cons (qv 1) (qa_cons (qk_int) (qa_cons (qe_bin (of_sub) (qe_blt cf_len (T.free "len" (by decide +kernel)) (qa_cons (qe_fld (fl_signs T) (qv 0)) (qa_nil))) (qk_int)) (qa_nil))))))) (qs_cons (qs_rai1 rfl (oex_of (T.xc "BadPit" (by decide +kernel)) (T.xi "BadPit" (by decide +kernel))) (T.meth "BadPit" "__init__" (by decide +kernel)).at_ (isFn_ty (T.meth "BadPit" "__init__" (by decide +kernel)).fn) (x_BadPit T) (hr.mono (by decide)) (xb_BadPit T) (T.glo "BadPit" (by decide +kernel)) (qa_cons (qv 1) (qa_nil))) (qs_nil)) (qs_nil)) (qs_nil))
/-! Ring.player_of -/
theorem mt_Ring_player_of_need_pit_18 {X : Cx} (T : TX X.K X.mg) : Mths X 3 "need_pit" [("Ring", F_Ring_need_pit)] := by
  intro c F h
  have h := memLk h
  simp only [List.mem_cons, List.not_mem_nil, or_false, Prod.mk.injEq] at h
  rcases h with ⟨rfl, rfl⟩
  · exact ⟨T.cl "Ring" (by decide +kernel), _, T.meth "Ring" "need_pit" (by decide +kernel), (w_Ring_need_pit T).mono (by decide)⟩
abbrev N_Ring_player_of : List Str := ["self", "pit"]
theorem sc_Ring_player_of : FnScope N_Ring_player_of ["self", "pit"] (defScope s_Ring_player_of) := ⟨rfl, rfl, rfl, by decide +kernel, rfl, by decide +kernel, by decide +kernel⟩
noncomputable def F_Ring_player_of : Fn := dfn 2 2 (sSeq (sExp (mtO [("Ring", F_Ring_need_pit)] "need_pit" (v 0) (aCons (v 1) (aNil)))) (sSeq (sRet (ifE (tst (bin (inG false) (bin ixG (una (fldG ["Ring"] "signs") (v 0)) (v 1)) (k (.str "ab")))) (mthS indexG (k (.str "ab")) (bin ixG (una (fldG ["Ring"] "signs") (v 0)) (v 1))) (k .non))) (sNil)))
theorem w_Ring_player_of (T : TX K mg) : FnF P w K mg base 4 (mO K "Ring" "player_of") F_Ring_player_of := by
  obtain ⟨fd, F⟩ := T.says.def_ 17
  exact okF (j := 3) (st := s_Ring_player_of) F sc_Ring_player_of rfl rfl (fun _ _ _ _ _ _ us hl => match us, hl with | [_, _], _ => rfl) (fun cdv A outer s H E hr => qs_cons (qs_exp (qe_mt (mt_Ring_player_of_need_pit_18 T) (hr.mono (by decide)) (qv 0) (qa_cons (qv 1) (qa_nil)))) (qs_cons (qs_ret (qe_if (qt_cmp (of_in (u65 hr)) (qe_ix (qe_fld (fl_signs T) (qv 0)) (qv 1)) (qg_str (T.strc "PITS" "ab" (by decide +kernel)))) (qe_index (qg_str (T.strc "PITS" "ab" (by decide +kernel))) (qe_ix (qe_fld (fl_signs T) (qv 0)) (qv 1))) (qk_non))) (qs_nil)))
/-! need_player -/
abbrev N_need_player : List Str := ["player"]
theorem sc_need_player : FnScope N_need_player ["player"] (defScope s_need_player) := ⟨rfl, rfl, rfl, by decide +kernel, rfl, by decide +kernel, by decide +kernel⟩
noncomputable def F_need_player : Fn := dfn 1 1 (sSeq (sIf (tNo (tru (cal F_is_between (aCons (v 0) (aCons (k (.int 0)) (aCons (k (.int 1)) (aNil))))))) (sSeq (sRai "BadPlayer" ["value"] (aCons (v 0) (aNil))) (sNil)) (sNil)) (sNil))
theorem w_need_player (T : TX K mg) : FnF P w K mg base 3 (He.ga K "need_player") F_need_player := by
  obtain ⟨fd, F⟩ := T.says.def_ 18
  exact okF (j := 2) (st := s_need_player) F sc_need_player rfl rfl (fun _ _ _ _ _ _ us hl => match us, hl with | [_], _ => rfl) (fun cdv A outer s H E hr => qs_cons (qs_if (qt_not (qt_tru (qe_call (w_is_between T) (hr.mono (by decide)) (T.glo "is_between" (by decide +kernel)) (kp_is_between T) (qa_cons (qv 0) (qa_cons (qk_int) (qa_cons (qk_int) (qa_nil))))))) (qs_cons (qs_rai1 rfl (oex_of (T.xc "BadPlayer" (by decide +kernel)) (T.xi "BadPlayer" (by decide +kernel))) (T.meth "BadPlayer" "__init__" (by decide +kernel)).at_ (isFn_ty (T.meth "BadPlayer" "__init__" (by decide +kernel)).fn) (x_BadPlayer T) (hr.mono (by decide)) (xb_BadPlayer T) (T.glo "BadPlayer" (by decide +kernel)) (qa_cons (qv 0) (qa_nil))) (qs_nil)) (qs_nil)) (qs_nil))
/-! Ring.store_of -/
abbrev N_Ring_store_of : List Str := ["self", "player"]
theorem sc_Ring_store_of : FnScope N_Ring_store_of ["self", "player"] (defScope s_Ring_store_of) := ⟨rfl, rfl, rfl, by decide +kernel, rfl, by decide +kernel, by decide +kernel⟩
noncomputable def F_Ring_store_of : Fn := dfn 2 2 (sSeq (sExp (cal F_need_player (aCons (v 1) (aNil)))) (sSeq (sRet (ifE (tst (bin (inG false) (bin ixG (k (.str "AB")) (v 1)) (una (fldG ["Ring"] "signs") (v 0)))) (mthS indexG (una (fldG ["Ring"] "signs") (v 0)) (bin ixG (k (.str "AB")) (v 1))) (k .non))) (sNil)))
theorem w_Ring_store_of (T : TX K mg) : FnF P w K mg base 4 (mO K "Ring" "store_of") F_Ring_store_of := by
  obtain ⟨fd, F⟩ := T.says.def_ 19
  exact okF (j := 3) (st := s_Ring_store_of) F sc_Ring_store_of rfl rfl (fun _ _ _ _ _ _ us hl => match us, hl with | [_, _], _ => rfl) (fun cdv A outer s H E hr => qs_cons (qs_exp (qe_call (w_need_player T) (hr.mono (by decide)) (T.glo "need_player" (by decide +kernel)) (kp_need_player T) (qa_cons (qv 1) (qa_nil)))) (qs_cons (qs_ret (qe_if (qt_cmp (of_in (u65 hr)) (qe_ix (qg_str (T.strc "STORES" "AB" (by decide +kernel))) (qv 1)) (qe_fld (fl_signs T) (qv 0))) (qe_index (qe_fld (fl_signs T) (qv 0)) (qe_ix (qg_str (T.strc "STORES" "AB" (by decide +kernel))) (qv 1))) (qk_non))) (qs_nil)))
/-! Ring.opposite -/
abbrev N_Ring_opposite : List Str := ["self", "pit"]
theorem sc_Ring_opposite : FnScope N_Ring_opposite ["self", "pit"] (defScope s_Ring_opposite) := ⟨rfl, rfl, rfl, by decide +kernel, rfl, by decide +kernel, by decide +kernel⟩
noncomputable def F_Ring_opposite : Fn := dfn 2 2 (sSeq (sExp (mtO [("Ring", F_Ring_need_pit)] "need_pit" (v 0) (aCons (v 1) (aNil)))) (sSeq (sRet (bin (modG) (bin (subG) (una (fldG ["Ring"] "across") (v 0)) (v 1)) (cal lenB (aCons (una (fldG ["Ring"] "signs") (v 0)) (aNil))))) (sNil)))
theorem w_Ring_opposite (T : TX K mg) : FnF P w K mg base 4 (mO K "Ring" "opposite") F_Ring_opposite := by
  obtain ⟨fd, F⟩ := T.says.def_ 20
  exact okF (j := 3) (st := s_Ring_opposite) F sc_Ring_opposite rfl rfl (fun _ _ _ _ _ _ us hl => match us, hl with | [_, _], _ => rfl) (fun cdv A outer s H E hr => qs_cons (qs_exp (qe_mt (mt_Ring_player_of_need_pit_18 T) (hr.mono (by decide)) (qv 0) (qa_cons (qv 1) (qa_nil)))) (qs_cons (qs_ret (qe_bin (of_mod) (qe_bin (of_sub) (qe_fld (fl_across T) (qv 0)) (qv 1)) (qe_blt cf_len (T.free "len" (by decide +kernel)) (qa_cons (qe_fld (fl_signs T) (qv 0)) (qa_nil))))) (qs_nil)))
/-! Ring.pits_of -/
abbrev N_Ring_pits_of : List Str := ["self", "player", "pit", "sign"]
theorem sc_Ring_pits_of : FnScope N_Ring_pits_of ["self", "player"] (defScope s_Ring_pits_of) := ⟨rfl, rfl, rfl, by decide +kernel, rfl, by decide +kernel, by decide +kernel⟩
noncomputable def F_Ring_pits_of : Fn := dfn 2 4 (sSeq (sExp (cal F_need_player (aCons (v 1) (aNil)))) (sSeq (sRet (cal tupB (aCons (lcE (.tp [2, 3]) (iEs (aCons (una (fldG ["Ring"] "signs") (v 0)) (aNil))) (tst (bin (eqG false) (v 3) (bin ixG (k (.str "ab")) (v 1)))) (v 2)) (aNil)))) (sNil)))
theorem w_Ring_pits_of (T : TX K mg) : FnF P w K mg base 4 (mO K "Ring" "pits_of") F_Ring_pits_of := by
  obtain ⟨fd, F⟩ := T.says.def_ 21
  exact okF (j := 3) (st := s_Ring_pits_of) F sc_Ring_pits_of rfl rfl (fun _ _ _ _ _ _ us hl => match us, hl with | [_, _], _ => rfl) (fun cdv A outer s H E hr => qs_cons (qs_exp (qe_call (w_need_player T) (hr.mono (by decide)) (T.glo "need_player" (by decide +kernel)) (kp_need_player T) (qa_cons (qv 1) (qa_nil)))) (qs_cons (qs_ret (qe_typ cf_tup (T.free "tuple" (by decide +kernel)) (qa_cons (qe_lc (own := [("pit", 2), ("sign", 3)]) (.tp [2, 3]) rfl rfl sc_Ring_pits_of.nd (qi_enumS (T.free "enumerate" (by decide +kernel)) (qa_cons (qe_fld (fl_signs T) (qv 0)) (qa_nil))) (blkOk_by (N := N_Ring_pits_of) (sc := defScope s_Ring_pits_of) (by decide +kernel)) (fun _ _ _ _ _ => qg_tup rfl (qgs_cons 2 (qgs_cons 3 (qgs_nil) sc_Ring_pits_of.nd) sc_Ring_pits_of.nd) rfl) (fun _ _ _ _ _ => qts_one (qt_cmp (of_eq hr.units) (qv 3) (qe_ix (qg_str (T.strc "PITS" "ab" (by decide +kernel))) (qv 1)))) (fun _ _ _ _ _ => qv 2)) (qa_nil)))) (qs_nil)))
/-! _law_asked_wrong -/
theorem mt_law_asked_wrong_pits_of_19 {X : Cx} (T : TX X.K X.mg) : Mths X 4 "pits_of" [("Ring", F_Ring_pits_of)] := by
  intro c F h
  have h := memLk h
  simp only [List.mem_cons, List.not_mem_nil, or_false, Prod.mk.injEq] at h
  rcases h with ⟨rfl, rfl⟩
  · exact ⟨T.cl "Ring" (by decide +kernel), _, T.meth "Ring" "pits_of" (by decide +kernel), (w_Ring_pits_of T).mono (by decide)⟩
theorem mt_law_asked_wrong_store_of_20 {X : Cx} (T : TX X.K X.mg) : Mths X 4 "store_of" [("Ring", F_Ring_store_of)] := by
  intro c F h
  have h := memLk h
  simp only [List.mem_cons, List.not_mem_nil, or_false, Prod.mk.injEq] at h
  rcases h with ⟨rfl, rfl⟩
  · exact ⟨T.cl "Ring" (by decide +kernel), _, T.meth "Ring" "store_of" (by decide +kernel), (w_Ring_store_of T).mono (by decide)⟩
theorem mt_law_asked_wrong_opposite_21 {X : Cx} (T : TX X.K X.mg) : Mths X 4 "opposite" [("Ring", F_Ring_opposite)] := by
  intro c F h
  have h := memLk h
  simp only [List.mem_cons, List.not_mem_nil, or_false, Prod.mk.injEq] at h
  rcases h with ⟨rfl, rfl⟩
  · exact ⟨T.cl "Ring" (by decide +kernel), _, T.meth "Ring" "opposite" (by decide +kernel), (w_Ring_opposite T).mono (by decide)⟩
theorem mt_law_asked_wrong_player_of_22 {X : Cx} (T : TX X.K X.mg) : Mths X 4 "player_of" [("Ring", F_Ring_player_of)] := by
  intro c F h
  have h := memLk h
  simp only [List.mem_cons, List.not_mem_nil, or_false, Prod.mk.injEq] at h
  rcases h with ⟨rfl, rfl⟩
  · exact ⟨T.cl "Ring" (by decide +kernel), _, T.meth "Ring" "player_of" (by decide +kernel), (w_Ring_player_of T).mono (by decide)⟩
abbrev N_law_asked_wrong : List Str := ["_law_bag_here", "_law_signs_here", "_law_made", "_law_size", "_law_pit_so", "_law_who", "_law_heard_here"]
theorem sc_law_asked_wrong : FnScope N_law_asked_wrong ["_law_bag_here", "_law_signs_here"] (defScope s_law_asked_wrong) := ⟨rfl, rfl, rfl, by decide +kernel, rfl, by decide +kernel, by decide +kernel⟩
noncomputable def F_law_asked_wrong : Fn := dfn 2 7 (sSeq (sAsg (.tp [2, 3]) (tupE (aCons (cal (mkF "Ring" F_RingD_initD) (aCons (v 1) (aNil))) (aCons (cal lenB (aCons (v 1) (aNil))) (aNil))))) (sSeq (sSet 4 (cal F_law_pick (aCons (v 0) (aCons (lstE (aCons (v 3) (aCons (una negG (k (.int 1))) (aCons (k .non) (aCons (k (.bl true)) (aCons (k (.str "0")) (aCons (tupE (aCons (k (.int 0)) (aNil))) (aCons (lstE (aCons (k (.int 1)) (aNil))) (aCons (dicE) (aCons (bin (powG) (k (.int 10)) (k (.int 20))) (aNil))))))))))) (aNil))))) (sSeq (sSet 5 (cal F_law_pick (aCons (v 0) (aCons (lstE (aCons (k (.int 2)) (aCons (una negG (k (.int 1))) (aCons (k .non) (aCons (k (.bl true)) (aCons (k (.bl false)) (aCons (k (.str "a")) (aCons (tupE (aCons (k (.int 0)) (aNil))) (aCons (lstE (aCons (k (.int 1)) (aNil))) (aCons (dicE) (aCons (bin (powG) (k (.int 10)) (k (.int 20))) (aNil)))))))))))) (aNil))))) (sSeq (sSet 6 (lstM (aCons (lamc F_law_heard (mtO [("Ring", F_Ring_player_of)] "player_of" (v 2) (aCons (v 4) (aNil)))) (aNil)))) (sSeq (sExp (mthL appG (v 6) (aCons (lamc F_law_heard (mtO [("Ring", F_Ring_opposite)] "opposite" (v 2) (aCons (v 4) (aNil)))) (aNil)))) (sSeq (sExp (mthL appG (v 6) (aCons (lamc F_law_heard (mtO [("Ring", F_Ring_store_of)] "store_of" (v 2) (aCons (v 5) (aNil)))) (aNil)))) (sSeq (sExp (mthL appG (v 6) (aCons (lamc F_law_heard (mtO [("Ring", F_Ring_pits_of)] "pits_of" (v 2) (aCons (v 5) (aNil)))) (aNil)))) (sSeq (sRet (bin (eqG false) (cal (reprM (reprI reprB)) (aCons (frzE (v 6)) (aNil))) (cal (reprM (reprI reprB)) (aCons (bin (addG) (bin (mulG) (lstE (aCons (tupE (aCons (k (.str "pit")) (aCons (v 4) (aNil)))) (aNil))) (k (.int 2))) (bin (mulG) (lstE (aCons (tupE (aCons (k (.str "player")) (aCons (v 5) (aNil)))) (aNil))) (k (.int 2)))) (aNil))))) (sNil)))))))))
theorem w_law_asked_wrong (T : TX K mg) (TB : LamB K mg base lams) : FnFG P w K mg base 7 (He.ga K "_law_asked_wrong") F_law_asked_wrong := by
  obtain ⟨fd, F⟩ := T.says.def_ 22
  exact okFGL (j := 6) (st := s_law_asked_wrong) F sc_law_asked_wrong rfl rfl (fun _ _ _ _ _ _ us hl => match us, hl with | [_, _], _ => rfl) (fun cdv A outer s H E hco hgd hr => qs_cons (qs_asg (qe_tup (qa_cons (qe_mk mk_frozen (T.mkr "Ring" (by decide +kernel)) (w_RingD_initD T) (hr.mono (by decide)) (T.glo "Ring" (by decide +kernel)) (qa_cons (qv 1) (qa_nil))) (qa_cons (qe_blt cf_len (T.free "len" (by decide +kernel)) (qa_cons (qv 1) (qa_nil))) (qa_nil)))) (qg_tup rfl (qgs_cons 2 (qgs_cons 3 (qgs_nil) sc_law_asked_wrong.nd) sc_law_asked_wrong.nd) rfl)) (qs_cons (qs_set 4 (qe_call (w_law_pick T) (hr.mono (by decide)) (T.glo "_law_pick" (by decide +kernel)) (kp_law_pick T) (qa_cons (qv 0) (qa_cons (qe_lst (qa_cons (qv 3) (qa_cons (qe_un of_neg (qk_int)) (qa_cons (qk_non) (qa_cons (qk_bl) (qa_cons (qk_str) (qa_cons (qe_tup (qa_cons (qk_int) (qa_nil))) (qa_cons (qe_lst (qa_cons (qk_int) (qa_nil))) (qa_cons (qe_dic0) (qa_cons (qe_bin (of_pow) (qk_int) (qk_int)) (qa_nil))))))))))) (qa_nil)))) sc_law_asked_wrong.nd) (qs_cons (qs_set 5 (qe_call (w_law_pick T) (hr.mono (by decide)) (T.glo "_law_pick" (by decide +kernel)) (kp_law_pick T) (qa_cons (qv 0) (qa_cons (qe_lst (qa_cons (qk_int) (qa_cons (qe_un of_neg (qk_int)) (qa_cons (qk_non) (qa_cons (qk_bl) (qa_cons (qk_bl) (qa_cons (qk_str) (qa_cons (qe_tup (qa_cons (qk_int) (qa_nil))) (qa_cons (qe_lst (qa_cons (qk_int) (qa_nil))) (qa_cons (qe_dic0) (qa_cons (qe_bin (of_pow) (qk_int) (qk_int)) (qa_nil)))))))))))) (qa_nil)))) sc_law_asked_wrong.nd) (qs_cons (qs_set 6 (qe_lstM (qa_cons (qe_lamA (lams := lams) (y := "_law_asked_wrong") (Ng := N_law_heard) (st := s_law_heard) (k := 4) TB (by decide +kernel) hco rfl (hr.mono (by decide)) (T.glo "_law_heard" (by decide +kernel)) (kp_law_heard T) (fF_law_heard T) sc_law_heard (fun _ _ _ _ _ _ us hl => match us, hl with | [_], _ => rfl) (fun cdv qq => g_law_heard T (hr.mono (by decide)) cdv qq) (by show LamX.lamSB (defScope s_law_asked_wrong) _ = true; decide +kernel) (fun A outer s H E f c' hr => qe_mt (mt_law_asked_wrong_player_of_22 T) (hr.mono (by decide)) (qv 2) (qa_cons (qv 4) (qa_nil)))) (qa_nil))) sc_law_asked_wrong.nd) (qs_cons (qs_exp (qe_mthL PySem.F.slot_list_append PySem.F.type_list_append mf_append (qv 6) (qa_cons (qe_lamA (lams := lams) (y := "_law_asked_wrong") (Ng := N_law_heard) (st := s_law_heard) (k := 4) TB (by decide +kernel) hco rfl (hr.mono (by decide)) (T.glo "_law_heard" (by decide +kernel)) (kp_law_heard T) (fF_law_heard T) sc_law_heard (fun _ _ _ _ _ _ us hl => match us, hl with | [_], _ => rfl) (fun cdv qq => g_law_heard T (hr.mono (by decide)) cdv qq) (by show LamX.lamSB (defScope s_law_asked_wrong) _ = true; decide +kernel) (fun A outer s H E f c' hr => qe_mt (mt_law_asked_wrong_opposite_21 T) (hr.mono (by decide)) (qv 2) (qa_cons (qv 4) (qa_nil)))) (qa_nil)))) (qs_cons (qs_exp (qe_mthL PySem.F.slot_list_append PySem.F.type_list_append mf_append (qv 6) (qa_cons (qe_lamA (lams := lams) (y := "_law_asked_wrong") (Ng := N_law_heard) (st := s_law_heard) (k := 4) TB (by decide +kernel) hco rfl (hr.mono (by decide)) (T.glo "_law_heard" (by decide +kernel)) (kp_law_heard T) (fF_law_heard T) sc_law_heard (fun _ _ _ _ _ _ us hl => match us, hl with | [_], _ => rfl) (fun cdv qq => g_law_heard T (hr.mono (by decide)) cdv qq) (by show LamX.lamSB (defScope s_law_asked_wrong) _ = true; decide +kernel) (fun A outer s H E f c' hr => qe_mt (mt_law_asked_wrong_store_of_20 T) (hr.mono (by decide)) (qv 2) (qa_cons (qv 5) (qa_nil)))) (qa_nil)))) (qs_cons (qs_exp (qe_mthL PySem.F.slot_list_append PySem.F.type_list_append mf_append (qv 6) (qa_cons (qe_lamA (lams := lams) (y := "_law_asked_wrong") (Ng := N_law_heard) (st := s_law_heard) (k := 4) TB (by decide +kernel) hco rfl (hr.mono (by decide)) (T.glo "_law_heard" (by decide +kernel)) (kp_law_heard T) (fF_law_heard T) sc_law_heard (fun _ _ _ _ _ _ us hl => match us, hl with | [_], _ => rfl) (fun cdv qq => g_law_heard T (hr.mono (by decide)) cdv qq) (by show LamX.lamSB (defScope s_law_asked_wrong) _ = true; decide +kernel) (fun A outer s H E f c' hr => qe_mt (mt_law_asked_wrong_pits_of_19 T) (hr.mono (by decide)) (qv 2) (qa_cons (qv 5) (qa_nil)))) (qa_nil)))) (qs_cons (qs_ret (qe_cmp (of_eq hr.units) (qe_blt (cf_reprM hgd hr.units (cf_reprI (cf_repr hgd hr.units))) (T.free "repr" (by decide +kernel)) (qa_cons (qe_frz (qv 6)) (qa_nil))) (qe_blt (cf_reprM hgd hr.units (cf_reprI (cf_repr hgd hr.units))) (T.free "repr" (by decide +kernel)) (qa_cons (qe_bin (of_add) (qe_bin (of_mul) (qe_lst (qa_cons (qe_tup (qa_cons (qk_str) (qa_cons (qv 4) (qa_nil)))) (qa_nil))) (qk_int)) (qe_bin (of_mul) (qe_lst (qa_cons (qe_tup (qa_cons (qk_str) (qa_cons (qv 5) (qa_nil)))) (qa_nil))) (qk_int))) (qa_nil))))) (qs_nil)))))))))
/-! law -/
theorem cm_law_eq_23 {X : Cx} (T : TX X.K X.mg) : Cmps X 1 "__eq__" [("Ring", F_RingD_eqD)] ["Ring"] := by
  intro c F h
  have h := memLk h
  simp only [List.mem_cons, List.not_mem_nil, or_false, Prod.mk.injEq] at h
  rcases h with ⟨rfl, rfl⟩
  · refine ⟨fun t h6 ho => ?_, _, Own.of (T.meth "Ring" "__eq__" (by decide +kernel)), (w_RingD_eqD T).mono (by decide)⟩
    match t, h6, ho with
    | .b n, h6, _ => exact nf_six T "Ring" (by decide +kernel) n (h6 n rfl)
    | .c n, _, ho =>
      have ho := List.contains_iff_mem.mp ho
      simp only [List.mem_cons, List.not_mem_nil, or_false] at ho
      rcases ho with rfl
      · simp [PySem.W.notFirst, tyV']
theorem hn_law_24 {X : Cx} (T : TX X.K X.mg) : ∀ c F, List.lookup c ([("Ring", F_RingD_eqD)] : List (String × Fn)) = some F → OwnNe X.K (gaS X.K c) := by
  intro c F h
  have h := memLk h
  simp only [List.mem_cons, List.not_mem_nil, or_false, Prod.mk.injEq] at h
  rcases h with ⟨rfl, rfl⟩
  · exact T.ne "Ring" (by decide +kernel)
theorem ct_list {X : Cx} (T : TX X.K X.mg) : ∀ c ∈ ["Ring"], CF X.K c ∧ PySem.W.kitOne X.K (.ref (gaS X.K c)) (.type "list") = some false := by
  intro c h
  simp only [List.mem_cons, List.not_mem_nil, or_false] at h
  rcases h with rfl
  · exact ⟨cf_ T "Ring" (by decide +kernel), T.kc "Ring" "list" (by decide +kernel)⟩
theorem ow_law_str_26 {X : Cx} (T : TX X.K X.mg) : Owns X 1 "__str__" [("Ring", F_RingD_strD)] := by
  intro c F h
  have h := memLk h
  simp only [List.mem_cons, List.not_mem_nil, or_false, Prod.mk.injEq] at h
  rcases h with ⟨rfl, rfl⟩
  · exact ⟨_, Own.of (T.meth "Ring" "__str__" (by decide +kernel)), (w_RingD_strD T).mono (by decide)⟩
theorem wk_Ring_read_1_text (T : TX K mg) : FnKO P w K mg base 5 (wO K "Ring" "read") 1 ["text"] (kwF [0, 1] [] (dfn 2 4 B_Ring_read)) := by
  obtain ⟨fd, F⟩ := T.says.def_ 5
  exact okK0 (j := 4) (st := s_Ring_read) (m := 1) ["text"] [0, 1] F sc_Ring_read rfl rfl (fun _ _ _ _ _ _ us ws h1 h2 => match us, ws, h1, h2 with | [_], [_], _, _ => rfl) (b_Ring_read T)
abbrev N_law : List Str := ["_law_script", "_law_bag_here", "_law_turn", "_law_signs_here", "_law_made", "_law_again", "_law_bent_here", "_law_heard_here", "_law_odd"]
theorem sc_law : FnScope N_law ["_law_script"] (defScope s_law) := ⟨rfl, rfl, rfl, by decide +kernel, rfl, by decide +kernel, by decide +kernel⟩
noncomputable def F_law : Fn := dfn 1 9 (sSeq (sSet 1 (cal F_law_bag (aCons (v 0) (aNil)))) (sSeq (sFor (.nm 2) (iR1 (aCons (k (.int 6)) (aNil))) (sSeq (sSet 3 (cal F_law_signs (aCons (v 1) (aNil)))) (sSeq (sSet 4 (cal (mkF "Ring" F_RingD_initD) (aCons (v 3) (aCons (cal F_law_draw (aCons (v 1) (aCons (cal lenB (aCons (v 3) (aNil))) (aNil)))) (aNil))))) (sSeq (sIf (tOr (tst (bin (neO [("Ring", F_RingD_eqD)] ["Ring"] (eqG true)) (cmE "Ring" F_Ring_read (k (.cls "Ring")) (aCons (cal (strO [("Ring", F_RingD_strD)] strB) (aCons (v 4) (aNil))) (aNil))) (v 4))) (tst (bin (neO [("Ring", F_RingD_eqD)] ["Ring"] (eqG true)) (cmE "Ring" (ofLen 2 (kwF [0, 1] [] (dfn 2 4 B_Ring_read))) (k (.cls "Ring")) (aCons (cal (strO [("Ring", F_RingD_strD)] strB) (aCons (v 4) (aNil))) (aNil))) (v 4)))) (sSeq (sRet (k (.bl false))) (sNil)) (sNil)) (sSeq (sFor (.nm 5) (iR1 (aCons (k (.int 4)) (aNil))) (sSeq (sSet 6 (cal F_law_bent (aCons (v 1) (aCons (cal (strO [("Ring", F_RingD_strD)] strB) (aCons (v 4) (aNil))) (aNil))))) (sSeq (sSet 7 (lamc F_law_heard (cmE "Ring" F_Ring_read (k (.cls "Ring")) (aCons (v 6) (aNil))))) (sSeq (sIf (tru (cal F_law_is_text (aCons (v 6) (aNil)))) (sSeq (sIf (tOr (tNo (tru (cal (isiF (isiB "list" ["Ring"]) (isTy "list")) (aCons (v 7) (aCons (k (.ty "list")) aNil))))) (tst (bin (neO [("Ring", F_RingD_eqD)] ["Ring"] (eqG true)) (cal (strO [("Ring", F_RingD_strD)] strB) (aCons (bin ixG (v 7) (k (.int 0))) (aNil))) (v 6)))) (sSeq (sRet (k (.bl false))) (sNil)) (sNil)) (sNil)) (sSeq (sIf (tst (bin (neO [("Ring", F_RingD_eqD)] ["Ring"] (eqG true)) (v 7) (tupE (aCons (k (.str "text")) (aCons (k (.int 0)) (aCons (k (.int 0)) (aNil))))))) (sSeq (sRet (k (.bl false))) (sNil)) (sNil)) (sNil))) (sNil))))) (sSeq (sSet 8 (cal F_law_pick (aCons (v 1) (aCons (lstE (aCons (k .non) (aCons (k (.int 0)) (aCons (k (.bl true)) (aCons (lstE (aCons (v 3) (aNil))) (aCons (tupE (aCons (v 3) (aCons (k (.int 0)) (aNil)))) (aCons (dicE) (aCons (k (.str "")) (aCons (k (.str " ")) (aCons (v 4) (aNil))))))))))) (aNil))))) (sSeq (sIf (tst (bin (neO [("Ring", F_RingD_eqD)] ["Ring"] (eqG true)) (lamc F_law_heard (cmE "Ring" F_Ring_read (k (.cls "Ring")) (aCons (v 8) (aNil)))) (tupE (aCons (k (.str "text")) (aCons (k (.int 0)) (aCons (k (.int 0)) (aNil))))))) (sSeq (sRet (k (.bl false))) (sNil)) (sNil)) (sSeq (sIf (tOr (tNo (tru (cal F_law_made_wrong (aCons (v 1) (aCons (v 3) (aNil)))))) (tNo (tru (cal F_law_asked_wrong (aCons (v 1) (aCons (v 3) (aNil))))))) (sSeq (sRet (k (.bl false))) (sNil)) (sNil)) (sNil))))))))) (sSeq (sRet (k (.bl true))) (sNil))))
theorem w_law (T : TX K mg) (TB : LamB K mg base lams) : FnFG P w K mg base 8 (He.ga K "law") F_law := by
  obtain ⟨fd, F⟩ := T.says.def_ 23
  exact okFGL (j := 7) (st := s_law) F sc_law rfl rfl (fun _ _ _ _ _ _ us hl => match us, hl with | [_], _ => rfl) (fun cdv A outer s H E hco hgd hr => qs_cons (qs_set 1 (qe_call (w_law_bag T) (hr.mono (by decide)) (T.glo "_law_bag" (by decide +kernel)) (kp_law_bag T) (qa_cons (qv 0) (qa_nil))) sc_law.nd) (qs_cons (qs_for (passes_of rfl) rfl (qi_range1 (T.free "range" (by decide +kernel)) (qa_cons (qk_int) (qa_nil))) (qg_name 2 sc_law.nd) (qs_cons (qs_set 3 (qe_call (w_law_signs T) (hr.mono (by decide)) (T.glo "_law_signs" (by decide +kernel)) (kp_law_signs T) (qa_cons (qv 1) (qa_nil))) sc_law.nd) (qs_cons (qs_set 4 (qe_mk mk_frozen (T.mkr "Ring" (by decide +kernel)) (w_RingD_initD T) (hr.mono (by decide)) (T.glo "Ring" (by decide +kernel)) (qa_cons (qv 3) (qa_cons (qe_call (w_law_draw T) (hr.mono (by decide)) (T.glo "_law_draw" (by decide +kernel)) (kp_law_draw T) (qa_cons (qv 1) (qa_cons (qe_blt cf_len (T.free "len" (by decide +kernel)) (qa_cons (qv 3) (qa_nil))) (qa_nil)))) (qa_nil)))) sc_law.nd) (qs_cons (qs_if (qt_w (qw_or (qt_cmp (of_neO (hn_law_24 T) (cm_law_eq_23 T) (hr.mono (by decide)) (of_ne hr.units)) (qe_cm (T.rd "Ring" (by decide +kernel)) (T.cm "Ring" "read" (by decide +kernel)) (w_Ring_read T) (hr.mono (by decide)) (qg_cls (T.glo "Ring" (by decide +kernel))) (qa_cons (qe_typ (cf_strO (ow_law_str_26 T) (hr.mono (by decide)) cf_str) (T.free "str" (by decide +kernel)) (qa_cons (qv 4) (qa_nil))) (qa_nil))) (qv 4)) (qw_or1 (qt_cmp (of_neO (hn_law_24 T) (cm_law_eq_23 T) (hr.mono (by decide)) (of_ne hr.units)) (qe_cmK (T.rd "Ring" (by decide +kernel)) (T.cm "Ring" "read" (by decide +kernel)) (wk_Ring_read_1_text T) (hr.mono (by decide)) (qg_cls (T.glo "Ring" (by decide +kernel))) (qk_cons (qe_typ (cf_strO (ow_law_str_26 T) (hr.mono (by decide)) cf_str) (T.free "str" (by decide +kernel)) (qa_cons (qv 4) (qa_nil))) (qk_nil))) (qv 4))))) (qs_cons (qs_ret (qk_bl)) (qs_nil)) (qs_nil)) (qs_cons (qs_for (passes_of rfl) rfl (qi_range1 (T.free "range" (by decide +kernel)) (qa_cons (qk_int) (qa_nil))) (qg_name 5 sc_law.nd) (qs_cons (qs_set 6 (qe_call (w_law_bent T) (hr.mono (by decide)) (T.glo "_law_bent" (by decide +kernel)) (kp_law_bent T) (qa_cons (qv 1) (qa_cons (qe_typ (cf_strO (ow_law_str_26 T) (hr.mono (by decide)) cf_str) (T.free "str" (by decide +kernel)) (qa_cons (qv 4) (qa_nil))) (qa_nil)))) sc_law.nd) (qs_cons (qs_set 7 (qe_lamA (lams := lams) (y := "law") (Ng := N_law_heard) (st := s_law_heard) (k := 5) TB (by decide +kernel) hco rfl (hr.mono (by decide)) (T.glo "_law_heard" (by decide +kernel)) (kp_law_heard T) (fF_law_heard T) sc_law_heard (fun _ _ _ _ _ _ us hl => match us, hl with | [_], _ => rfl) (fun cdv qq => g_law_heard T (hr.mono (by decide)) cdv qq) (by show LamX.lamSB (defScope s_law) _ = true; decide +kernel) (fun A outer s H E f c' hr => qe_cm (T.rd "Ring" (by decide +kernel)) (T.cm "Ring" "read" (by decide +kernel)) (w_Ring_read T) (hr.mono (by decide)) (qg_cls (T.glo "Ring" (by decide +kernel))) (qa_cons (qv 6) (qa_nil)))) sc_law.nd) (qs_cons (qs_if (qt_tru (qe_call (w_law_is_text T) (hr.mono (by decide)) (T.glo "_law_is_text" (by decide +kernel)) (kp_law_is_text T) (qa_cons (qv 6) (qa_nil)))) (qs_cons (qs_if (qt_w (qw_or (qt_not (qt_tru (qe_blt (cf_isiB (by decide) (ct_list T)) (T.free "isinstance" (by decide +kernel)) (qa_cons (qv 7) (qa_cons (qg_ty (T.free "list" (by decide +kernel)) (by decide +kernel)) qa_nil))))) (qw_or1 (qt_cmp (of_neO (hn_law_24 T) (cm_law_eq_23 T) (hr.mono (by decide)) (of_ne hr.units)) (qe_typ (cf_strO (ow_law_str_26 T) (hr.mono (by decide)) cf_str) (T.free "str" (by decide +kernel)) (qa_cons (qe_ix (qv 7) (qk_int)) (qa_nil))) (qv 6))))) (qs_cons (qs_ret (qk_bl)) (qs_nil)) (qs_nil)) (qs_nil)) (qs_cons (qs_if (qt_cmp (of_neO (hn_law_24 T) (cm_law_eq_23 T) (hr.mono (by decide)) (of_ne hr.units)) (qv 7) (qe_tup (qa_cons (qk_str) (qa_cons (qk_int) (qa_cons (qk_int) (qa_nil)))))) (qs_cons (qs_ret (qk_bl)) (qs_nil)) (qs_nil)) (qs_nil))) (qs_nil))))) (qs_cons (qs_set 8 (qe_call (w_law_pick T) (hr.mono (by decide)) (T.glo "_law_pick" (by decide +kernel)) (kp_law_pick T) (qa_cons (qv 1) (qa_cons (qe_lst (qa_cons (qk_non) (qa_cons (qk_int) (qa_cons (qk_bl) (qa_cons (qe_lst (qa_cons (qv 3) (qa_nil))) (qa_cons (qe_tup (qa_cons (qv 3) (qa_cons (qk_int) (qa_nil)))) (qa_cons (qe_dic0) (qa_cons (qk_str) (qa_cons (qk_str) (qa_cons (qv 4) (qa_nil))))))))))) (qa_nil)))) sc_law.nd) (qs_cons (qs_if (qt_cmp (of_neO (hn_law_24 T) (cm_law_eq_23 T) (hr.mono (by decide)) (of_ne hr.units)) (qe_lamA (lams := lams) (y := "law") (Ng := N_law_heard) (st := s_law_heard) (k := 5) TB (by decide +kernel) hco rfl (hr.mono (by decide)) (T.glo "_law_heard" (by decide +kernel)) (kp_law_heard T) (fF_law_heard T) sc_law_heard (fun _ _ _ _ _ _ us hl => match us, hl with | [_], _ => rfl) (fun cdv qq => g_law_heard T (hr.mono (by decide)) cdv qq) (by show LamX.lamSB (defScope s_law) _ = true; decide +kernel) (fun A outer s H E f c' hr => qe_cm (T.rd "Ring" (by decide +kernel)) (T.cm "Ring" "read" (by decide +kernel)) (w_Ring_read T) (hr.mono (by decide)) (qg_cls (T.glo "Ring" (by decide +kernel))) (qa_cons (qv 8) (qa_nil)))) (qe_tup (qa_cons (qk_str) (qa_cons (qk_int) (qa_cons (qk_int) (qa_nil)))))) (qs_cons (qs_ret (qk_bl)) (qs_nil)) (qs_nil)) (qs_cons (qs_if (qt_w (qw_or (qt_not (qt_tru (qe_callG (w_law_made_wrong T TB) hgd (hr.mono (by decide)) (T.glo "_law_made_wrong" (by decide +kernel)) (kp_law_made_wrong T) (qa_cons (qv 1) (qa_cons (qv 3) (qa_nil)))))) (qw_or1 (qt_not (qt_tru (qe_callG (w_law_asked_wrong T TB) hgd (hr.mono (by decide)) (T.glo "_law_asked_wrong" (by decide +kernel)) (kp_law_asked_wrong T) (qa_cons (qv 1) (qa_cons (qv 3) (qa_nil))))))))) (qs_cons (qs_ret (qk_bl)) (qs_nil)) (qs_nil)) (qs_nil))))))))) (qs_cons (qs_ret (qk_bl)) (qs_nil))))
end
end K05
set_option Elab.async false
set_option linter.all false
set_option maxRecDepth 100000
set_option maxHeartbeats 4000000
/-! plain runs, by what is asked behind: goals of one piece, stepped one after the other -/
namespace PVZ
open PySem PV
abbrev _root_.PV.XQ := String → List (String × D) → Sto → Prop
/-- what it speaks of is not rewritten -/
inductive _root_.PV.Tag {α : Type} (a : α) : Type where
  | mk
def Wp {α : Type} (o : Out α) (Q : α → Sto → Prop) (E : XQ) (_ : Tag (Q, E) := .mk) : Prop := match o with
  | .ok a S => Q a S
  | .ex c fs S => E c fs S
  | .no => False
/-- code: it goes on, returns, breaks, continues, raises -/
def Ws (o : Out Fl) (N : Ev → Sto → Prop) (R : D → Sto → Prop) (B C : Ev → Sto → Prop) (E : XQ) (_ : Tag (N, R, B, C, E) := .mk) : Prop := match o with
  | .ok (.nx ρ) S => N ρ S
  | .ok (.rt d) S => R d S
  | .ok (.bk ρ) S => B ρ S
  | .ok (.ct ρ) S => C ρ S
  | .ex c fs S => E c fs S
  | .no => False
section
variable {α β : Type} {o : Out α} {Q Q' : α → Sto → Prop} {E E' : XQ}
theorem Wp.imp (h : Wp o Q E) (i : ∀ a S, Q a S → Q' a S) (j : ∀ c fs S, E c fs S → E' c fs S) : Wp o Q' E' := by
  match o, h with
  | .ok a S, h => exact i a S h
  | .ex c fs S, h => exact j c fs S h
  | .no, h => exact h
theorem wp_ok {a : α} {S : Sto} (h : Q a S) : Wp (.ok a S) Q E := h
theorem wp_ex {c : String} {fs : List (String × D)} {S : Sto} (h : E c fs S) : Wp (.ex c fs S) Q E := h
theorem wp_eq {a : α} {S : Sto} (e : o = .ok a S) (h : Q a S) : Wp o Q E := by rw [e]; exact h
theorem wp_exq {c : String} {fs : List (String × D)} {S : Sto} (e : o = .ex c fs S) (h : E c fs S) : Wp o Q E := by rw [e]; exact h
theorem Wp.of {o : Out α} (h : Wp o Q fun _ _ _ => False) : ∃ a S, o = .ok a S ∧ Q a S := by
  match o, h with
  | .ok a S, h => exact ⟨a, S, rfl, h⟩
theorem wp_bind {k : α → Sto → Out β} {R : β → Sto → Prop} (h : Wp o (fun a S => Wp (k a S) R E) E) : Wp (o.bind k) R E := by
  match o, h with
  | .ok a S, h => exact h
  | .ex c fs S, h => exact h
  | .no, h => exact h
theorem ws_bind {k : α → Sto → Out Fl} {N : Ev → Sto → Prop} {R : D → Sto → Prop} {B C : Ev → Sto → Prop} (h : Wp o (fun a S => Ws (k a S) N R B C E) E) : Ws (o.bind k) N R B C E := by
  match o, h with
  | .ok a S, h => exact h
  | .ex c fs S, h => exact h
  | .no, h => exact h
theorem Ws.imp {o : Out Fl} {N N' : Ev → Sto → Prop} {R R' : D → Sto → Prop} {B B' C C' : Ev → Sto → Prop} (h : Ws o N R B C E) (i : ∀ ρ S, N ρ S → N' ρ S) (j : ∀ d S, R d S → R' d S) (b : ∀ ρ S, B ρ S → B' ρ S) (c : ∀ ρ S, C ρ S → C' ρ S) (e : ∀ c fs S, E c fs S → E' c fs S) : Ws o N' R' B' C' E' := by
  match o, h with
  | .ok (.nx _) _, h => exact i _ _ h
  | .ok (.rt _) _, h => exact j _ _ h
  | .ok (.bk _) _, h => exact b _ _ h
  | .ok (.ct _) _, h => exact c _ _ h
  | .ex _ _ _, h => exact e _ _ _ h
  | .no, h => exact h
end
/-! ### steps of what is asked -/
theorem ex1 {α : Type} {p q : α → Prop} {a : α} (h : p a) (h2 : q a) : ∃ a, p a ∧ q a := ⟨a, h, h2⟩
theorem ex2 {α β : Type} {p q : α → β → Prop} {a : α} {b : β} (h : p a b) (h2 : q a b) : ∃ a b, p a b ∧ q a b := ⟨a, b, h, h2⟩
theorem ex3 {α β γ : Type} {p q : α → β → γ → Prop} {a : α} {b : β} {c : γ} (h : p a b c) (h2 : q a b c) : ∃ a b c, p a b c ∧ q a b c := ⟨a, b, c, h, h2⟩
theorem ex4 {α β γ δ : Type} {p q : α → β → γ → δ → Prop} {a : α} {b : β} {c : γ} {d : δ} (h : p a b c d) (h2 : q a b c d) : ∃ a b c d, p a b c d ∧ q a b c d := ⟨a, b, c, d, h, h2⟩
/-! ### expressions -/
section
variable {ρ : Ev} {S : Sto} {Q : D → Sto → Prop} {E : XQ} {a b c : ME} {d : D}
theorem wp_v {i : Nat} (h : ρ[i]? = some (some d)) (q : Q d S) : Wp (v i ρ S) Q E := by
  unfold v
  rw [h]
  exact q
theorem wp_k (q : Q d S) : Wp (k d ρ S) Q E := q
theorem wp_bin {g : G2} (h : Wp (a ρ S) (fun x S1 => Wp (b ρ S1) (fun y S2 => Wp (g x y S2) Q E) E) E) : Wp (bin g a b ρ S) Q E := wp_bind (h.imp (fun _ _ q => wp_bind q) fun _ _ _ q => q)
theorem wp_una {g : G1} (h : Wp (a ρ S) (fun x S1 => Wp (g x S1) Q E) E) : Wp (una g a ρ S) Q E := wp_bind h
theorem wp_cal {F : Fn} {ms : MA} (h : Wp (ms ρ S) (fun ds S1 => Wp (F ds S1) Q E) E) : Wp (cal F ms ρ S) Q E := wp_bind h
theorem wp_nil {Q : List D → Sto → Prop} (q : Q [] S) : Wp (aNil ρ S) Q E := q
theorem wp_cons {Q : List D → Sto → Prop} {ms : MA} (h : Wp (a ρ S) (fun x S1 => Wp (ms ρ S1) (fun ds S2 => Q (x :: ds) S2) E) E) : Wp (aCons a ms ρ S) Q E := wp_bind (h.imp (fun _ _ q => wp_bind q) fun _ _ _ q => q)
theorem wp_star {Q : List D → Sto → Prop} {ms : MA} (h : Wp (a ρ S) (fun x S1 => ∃ xs, (x = .lst xs ∨ x = .tup xs ∨ ∃ n, x = .loc n ∧ S1[n]? = some (.lst xs)) ∧ Wp (ms ρ S1) (fun ds S2 => Q (xs ++ ds) S2) E) E) : Wp (aStar a ms ρ S) Q E := wp_bind (h.imp (fun x S1 q => by
  obtain ⟨xs, rfl | rfl | ⟨n, rfl, hn⟩, q⟩ := q
  · exact wp_bind q
  · exact wp_bind q
  · simp only [hn]
    exact wp_bind q) fun _ _ _ q => q)
/-! tests -/
theorem wp_tst {Q : Bool → Sto → Prop} (h : Wp (a ρ S) (fun x S1 => ∃ b, x = .bl b ∧ Q b S1) E) : Wp (tst a ρ S) Q E := wp_bind (h.imp (fun x S1 q => by
  obtain ⟨b, rfl, q⟩ := q
  exact q) fun _ _ _ q => q)
theorem wp_tru {Q : Bool → Sto → Prop} (h : Wp (a ρ S) (fun x S1 => ∃ b, truD x = some b ∧ Q b S1) E) : Wp (tru a ρ S) Q E := wp_bind (h.imp (fun x S1 q => by
  obtain ⟨b, e, q⟩ := q
  rw [e]
  exact q) fun _ _ _ q => q)
variable {t u : MT}
theorem wp_no {Q : Bool → Sto → Prop} (h : Wp (t ρ S) (fun c S1 => Q (!c) S1) E) : Wp (tNo t ρ S) Q E := wp_bind h
theorem wp_an {Q : Bool → Sto → Prop} (h : Wp (t ρ S) (fun c S1 => Wp (if c = true then u ρ S1 else .ok false S1) Q E) E) : Wp (tAn t u ρ S) Q E := wp_bind h
theorem wp_or {Q : Bool → Sto → Prop} (h : Wp (t ρ S) (fun c S1 => Wp (if c = true then .ok true S1 else u ρ S1) Q E) E) : Wp (tOr t u ρ S) Q E := wp_bind h
theorem wp_ifE (h : Wp (t ρ S) (fun c S1 => Wp (if c = true then a ρ S1 else b ρ S1) Q E) E) : Wp (ifE t a b ρ S) Q E := wp_bind h
theorem wp_anE (h : Wp (a ρ S) (fun d S1 => ∃ c, d = .bl c ∧ Wp (if c = true then b ρ S1 else .ok (.bl false) S1) Q E) E) : Wp (anE a b ρ S) Q E := wp_bind (h.imp (fun x S1 q => by
  obtain ⟨b, rfl, q⟩ := q
  cases b <;> exact q) fun _ _ _ q => q)
theorem wp_orE (h : Wp (a ρ S) (fun d S1 => ∃ c, d = .bl c ∧ Wp (if c = true then .ok (.bl true) S1 else b ρ S1) Q E) E) : Wp (orE a b ρ S) Q E := wp_bind (h.imp (fun x S1 q => by
  obtain ⟨b, rfl, q⟩ := q
  cases b <;> exact q) fun _ _ _ q => q)
theorem wp_noE (h : Wp (a ρ S) (fun d S1 => ∃ c, d = .bl c ∧ Q (.bl (!c)) S1) E) : Wp (noE a ρ S) Q E := wp_bind (h.imp (fun x S1 q => by
  obtain ⟨b, rfl, q⟩ := q
  exact q) fun _ _ _ q => q)
theorem wp_chn {g g' : G2} (h : Wp (a ρ S) (fun x S1 => Wp (b ρ S1) (fun y S2 => Wp (g x y S2) (fun z S3 => ∃ t, z = .bl t ∧ Wp (if t = true then (c ρ S3).bind fun u S4 => g' y u S4 else .ok (.bl false) S3) Q E) E) E) E) : Wp (chn g g' a b c ρ S) Q E :=
  wp_bind (h.imp (fun _ _ q => wp_bind (q.imp (fun _ _ q => wp_bind (q.imp (fun z S3 q => by
    obtain ⟨t, rfl, q⟩ := q
    cases t <;> exact q) fun _ _ _ q => q)) fun _ _ _ q => q)) fun _ _ _ q => q)
theorem wp_t {α : Type} {x : Bool} {o o' : Out α} {Q : α → Sto → Prop} (h : x = true) (q : Wp o Q E) : Wp (if x = true then o else o') Q E := by rw [if_pos h]; exact q
theorem wp_f {α : Type} {x : Bool} {o o' : Out α} {Q : α → Sto → Prop} (h : x = false) (q : Wp o' Q E) : Wp (if x = true then o else o') Q E := by rw [if_neg (by rw [h]; decide)]; exact q
/-! displays -/
theorem wp_tup {ms : MA} (h : Wp (ms ρ S) (fun ds S1 => ds.length ≤ 1000 ∧ Q (.tup ds) S1) E) : Wp (tupE ms ρ S) Q E := wp_bind (h.imp (fun ds S1 q => by rw [if_pos q.1]; exact q.2) fun _ _ _ q => q)
theorem wp_lst {ms : MA} (h : Wp (ms ρ S) (fun ds S1 => ds.length ≤ 1000 ∧ Q (.lst ds) S1) E) : Wp (lstE ms ρ S) Q E := wp_bind (h.imp (fun ds S1 q => by rw [if_pos q.1]; exact q.2) fun _ _ _ q => q)
theorem wp_lstM {ms : MA} (h : Wp (ms ρ S) (fun ds S1 => ds.length ≤ 1000 ∧ Q (.loc S1.length) (S1 ++ [.lst ds])) E) : Wp (lstM ms ρ S) Q E := wp_bind (h.imp (fun ds S1 q => by rw [if_pos q.1]; exact q.2) fun _ _ _ q => q)
/-! methods -/
theorem wp_cm {c : String} {F : Fn} {ms : MA} (h : Wp (a ρ S) (fun x S1 => x = .cls c ∧ Wp (ms ρ S1) (fun ds S2 => Wp (F (x :: ds) S2) Q E) E) E) : Wp (cmE c F a ms ρ S) Q E := wp_bind (h.imp (fun x S1 q => by
  obtain ⟨rfl, q⟩ := q
  rw [if_pos (by simp [isCl])]
  exact wp_bind q) fun _ _ _ q => q)
theorem wp_sm {c : String} {F : Fn} {ms : MA} (h : Wp (a ρ S) (fun x S1 => x = .cls c ∧ Wp (ms ρ S1) (fun ds S2 => Wp (F ds S2) Q E) E) E) : Wp (smE c F a ms ρ S) Q E := wp_bind (h.imp (fun x S1 q => by
  obtain ⟨rfl, q⟩ := q
  rw [if_pos (by simp [isCl])]
  exact wp_bind q) fun _ _ _ q => q)
theorem wp_mt {τ : List (String × Fn)} {n : String} {ms : MA} (h : Wp (a ρ S) (fun x S1 => ∃ c fs F, insOf S1 x = some (c, fs) ∧ τ.lookup c = some F ∧ fs.lookup n = none ∧ Wp (ms ρ S1) (fun ds S2 => Wp (F (x :: ds) S2) Q E) E) E) : Wp (mtO τ n a ms ρ S) Q E := wp_bind (h.imp (fun x S1 q => by
  obtain ⟨c, fs, F, e1, e2, e3, q⟩ := q
  simp only [e1, e2, e3]
  exact wp_bind q) fun _ _ _ q => q)
theorem wp_mtK {c : String} {n : String} {m : Nat} {F : Fn} {ms : MA} (h : Wp (a ρ S) (fun x S1 => ∃ fs, insOf S1 x = some (c, fs) ∧ fs.lookup n = none ∧ Wp (ms ρ S1) (fun ds S2 => ds.length = m ∧ Wp (F (x :: ds) S2) Q E) E) E) : Wp (mtK c n m F a ms ρ S) Q E := wp_bind (h.imp (fun x S1 q => by
  obtain ⟨fs, e1, e3, q⟩ := q
  simp only [e1, e3, if_true]
  exact wp_bind (q.imp (fun ds S2 q => by rw [if_pos q.1]; exact q.2) fun _ _ _ q => q)) fun _ _ _ q => q)
theorem wp_mthL {g : D → List D → Sto → Out D} {ms : MA} (h : Wp (a ρ S) (fun x S1 => isLoc S1 x = true ∧ Wp (ms ρ S1) (fun ds S2 => Wp (g x ds S2) Q E) E) E) : Wp (mthL g a ms ρ S) Q E := wp_bind (h.imp (fun x S1 q => by
  rw [if_pos q.1]
  exact wp_bind q.2) fun _ _ _ q => q)
theorem wp_mthS {g : G2} (h : Wp (a ρ S) (fun x S1 => isStr x = true ∧ Wp (b ρ S1) (fun y S2 => Wp (g x y S2) Q E) E) E) : Wp (mthS g a b ρ S) Q E := wp_bind (h.imp (fun x S1 q => by
  rw [if_pos q.1]
  exact wp_bind q.2) fun _ _ _ q => q)
theorem wp_ofLen {n : Nat} {F : Fn} {ds : List D} (h : ds.length = n) (q : Wp (F ds S) Q E) : Wp (ofLen n F ds S) Q E := by
  unfold ofLen
  rw [if_pos h]
  exact q
theorem wp_kw {idx : List Nat} {dds ds es : List D} {F : Fn} (h : pickL idx (ds ++ dds) = es) (q : Wp (F es S) Q E) : Wp (kwF idx dds F ds S) Q E := by
  unfold kwF
  rw [h]
  exact q
/-! slices -/
theorem wp_sli {l m : MO} (h : Wp (a ρ S) (fun x S1 => Wp (l ρ S1) (fun lo S2 => Wp (m ρ S2) (fun hi S3 => Wp (slG x lo hi S3) Q E) E) E) E) : Wp (sli a l m ρ S) Q E := wp_bind (h.imp (fun _ _ q => wp_bind (q.imp (fun _ _ q => wp_bind q) fun _ _ _ q => q)) fun _ _ _ q => q)
theorem wp_oNo {Q : Option Int → Sto → Prop} (q : Q none S) : Wp (oNo ρ S) Q E := q
theorem wp_oSo {Q : Option Int → Sto → Prop} (h : Wp (a ρ S) (fun x S1 => ∃ i, x = .int i ∧ Q (some i) S1) E) : Wp (oSo a ρ S) Q E := wp_bind (h.imp (fun x S1 q => by
  obtain ⟨i, rfl, q⟩ := q
  exact q) fun _ _ _ q => q)
/-! numbers -/
theorem wp_add {i j : Int} (q : Q (.int (i + j)) S) : Wp (addG (.int i) (.int j) S) Q E := q
theorem wp_addI {i j : Int} (q : Q (.int (i + j)) S) : Wp (addI (.int i) (.int j) S) Q E := q
theorem wp_sub {i j : Int} (q : Q (.int (i - j)) S) : Wp (subG (.int i) (.int j) S) Q E := q
theorem wp_neg {i : Int} (q : Q (.int (-i)) S) : Wp (negG (.int i) S) Q E := q
theorem wp_mul {i j : Int} (h : mulOk i j = true) (q : Q (.int (i * j)) S) : Wp (mulG (.int i) (.int j) S) Q E := by
  have e : mulG (.int i) (.int j) S = .ok (.int (i * j)) S := if_pos h
  rw [e]
  exact q
theorem wp_mulT {i j : Int} (h : mulOk i j = true) (q : Q (.int (i * j)) S) : Wp (mulT (.int i) (.int j) S) Q E := wp_mul h q
theorem wp_fdiv {i j : Int} (h : divOk j = true) (q : Q (.int (i / j)) S) : Wp (fdivG (.int i) (.int j) S) Q E := by
  have e : fdivG (.int i) (.int j) S = .ok (.int (i / j)) S := if_pos h
  rw [e]
  exact q
theorem wp_mod {i j : Int} (h : 0 < j) (q : Q (.int (i % j)) S) : Wp (modG (.int i) (.int j) S) Q E := by
  have e : modG (.int i) (.int j) S = .ok (.int (i % j)) S := if_pos h
  rw [e]
  exact q
theorem wp_pow {i j : Int} (h : powOk i j = true) (q : Q (.int (i ^ j.toNat)) S) : Wp (powG (.int i) (.int j) S) Q E := by
  have e : powG (.int i) (.int j) S = .ok (.int (i ^ j.toNat)) S := if_pos h
  rw [e]
  exact q
theorem wp_eqI {i j : Int} (q : Q (.bl (decide (i = j))) S) : Wp (eqG false (.int i) (.int j) S) Q E := by
  unfold eqG
  rw [eqD_int]
  simpa [Wp] using q
theorem wp_neI {i j : Int} (q : Q (.bl (!decide (i = j))) S) : Wp (eqG true (.int i) (.int j) S) Q E := by
  unfold eqG
  rw [eqD_int]
  simpa [Wp] using q
theorem wp_eqv {x y : D} {e n : Bool} (h : eqD x y = some e) (q : Q (.bl (n ^^ e)) S) : Wp (eqG n x y S) Q E := by
  unfold eqG
  rw [h]
  exact q
theorem wp_lt {i j : Int} (q : Q (.bl (decide (i < j))) S) : Wp (ltG (.int i) (.int j) S) Q E := q
theorem wp_le {i j : Int} (q : Q (.bl (decide (i ≤ j))) S) : Wp (leG (.int i) (.int j) S) Q E := q
theorem wp_gt {i j : Int} (q : Q (.bl (decide (j < i))) S) : Wp (gtG (.int i) (.int j) S) Q E := q
theorem wp_ge {i j : Int} (q : Q (.bl (decide (j ≤ i))) S) : Wp (geG (.int i) (.int j) S) Q E := q
theorem wp_isN {x : D} {n : Bool} (q : Q (.bl (n ^^ isNon x)) S) : Wp (isG n x .non S) Q E := q
theorem wp_int {i : Int} (q : Q (.int i) S) : Wp (intB [.int i] S) Q E := q
theorem wp_intb {b : Bool} (q : Q (.int (if b = true then 1 else 0)) S) : Wp (intB [.bl b] S) Q E := q
theorem wp_abs {i : Int} (q : Q (.int (if i < 0 then -i else i)) S) : Wp (absB [.int i] S) Q E := q
theorem wp_ixl {xs : List D} {i : Int} {x : D} (h : L2.atI xs i = some x) (q : Q x S) : Wp (ixG (.lst xs) (.int i) S) Q E := by
  unfold ixG
  simp only [h]
  exact q
theorem wp_ixt {xs : List D} {i : Int} {x : D} (h : L2.atI xs i = some x) (q : Q x S) : Wp (ixG (.tup xs) (.int i) S) Q E := by
  unfold ixG
  simp only [h]
  exact q
theorem wp_lenl {xs : List D} (q : Q (.int xs.length) S) : Wp (lenB [.lst xs] S) Q E := q
theorem wp_lent {xs : List D} (q : Q (.int xs.length) S) : Wp (lenB [.tup xs] S) Q E := q
theorem wp_tupl {xs : List D} (q : Q (.tup xs) S) : Wp (tupB [.lst xs] S) Q E := q
theorem wp_tupt {xs : List D} (q : Q (.tup xs) S) : Wp (tupB [.tup xs] S) Q E := q
theorem wp_listt {xs : List D} (q : Q (.lst xs) S) : Wp (listB [.tup xs] S) Q E := q
theorem wp_listl {xs : List D} (q : Q (.lst xs) S) : Wp (listB [.lst xs] S) Q E := q
/-! instances -/
theorem wp_fld {cs : List String} {f : String} {x y : D} {c : String} {fs : List (String × D)} (h1 : insOf S x = some (c, fs)) (h2 : cs.contains c = true) (h3 : fs.lookup f = some y) (q : Q y S) : Wp (fldG cs f x S) Q E := by
  unfold fldG
  simp only [h1, h2, h3, if_true]
  exact q
theorem wp_mkF {c : String} {F : Fn} {ds : List D} (h : Wp (F (.loc S.length :: ds) (S ++ [.ins c []])) (fun d S2 => d = .non ∧ ∃ fs, S2[S.length]? = some (.ins c fs) ∧ Wp (gcO S (.ok (.obj c fs) (S2.set S.length .dead))) Q E) (fun x fs S2 => Wp (gcO S (.ex x fs S2)) Q E)) : Wp (mkF c F ds S) Q E := by
  unfold mkF
  generalize F (.loc S.length :: ds) (S ++ [Cell.ins c []]) = o at h ⊢
  match o, h with
  | .ok d S2, h =>
    obtain ⟨rfl, fs, h1, h2⟩ := h
    simp only [h1, if_true]
    exact h2
  | .ex _ _ _, h => exact h
/-- an __init__ that writes the new instance alone -/
theorem gc_new {c : String} {d : D} {T : Sto} (hd : d.und S.length = true) (q : Q d S) : Wp (gcO S (.ok d ((S ++ [Cell.ins c []]).set S.length Cell.dead ++ T))) Q E := by
  have e : (S ++ [Cell.ins c []]).set S.length Cell.dead ++ T = S ++ ([Cell.dead] ++ T) := by simp
  rw [e, gc_app hd]
  exact q
theorem wp_mkF_of {c : String} {F : Fn} {ds : List D} {fs : List (String × D)} (hF : F (.loc S.length :: ds) (S ++ [Cell.ins c []]) = .ok .non ((S ++ [Cell.ins c []]).set S.length (Cell.ins c fs))) (hd : belowf S.length fs = true) (q : Q (.obj c fs) S) : Wp (mkF c F ds S) Q E := by
  refine wp_mkF (wp_eq hF ⟨rfl, fs, by simp, ?_⟩)
  have e : ((S ++ [Cell.ins c []]).set S.length (Cell.ins c fs)).set S.length Cell.dead = S ++ [Cell.dead] := by simp
  rw [e, gc_app (by simpa [D.und] using hd)]
  exact q
theorem mkF_of {c : String} {F : Fn} {ds : List D} {fs : List (String × D)} (hF : F (.loc S.length :: ds) (S ++ [Cell.ins c []]) = .ok .non ((S ++ [Cell.ins c []]).set S.length (Cell.ins c fs))) (hd : belowf S.length fs = true) : mkF c F ds S = .ok (.obj c fs) S := by
  obtain ⟨a, S', e, rfl, rfl⟩ := Wp.of (wp_mkF_of (Q := fun d S' => d = .obj c fs ∧ S' = S) hF hd ⟨rfl, rfl⟩)
  exact e
theorem wp_isi {ans : Ty → Option Bool} {cls : D → Bool} {ds : List D} {b : Bool} (h : isiF ans cls ds S = .ok (.bl b) S) (q : Q (.bl b) S) : Wp (isiF ans cls ds S) Q E := wp_eq h q
theorem wp_isiA {Ts cs : List String} (h : Wp (a ρ S) (fun x S1 => ∃ t, tyD S1 x = some t ∧ (match t with | .b n => Q (.bl (Ts.any fun T => subT n T)) S1 | .c n => cs.contains n = true ∧ Q (.bl false) S1)) E) : Wp (isiA Ts cs a ρ S) Q E := wp_bind (h.imp (fun x S1 q => by
  obtain ⟨t, e, q⟩ := q
  rw [e]
  match t, q with
  | .b n, q => exact q
  | .c n, q =>
    simp only [q.1, if_true]
    exact q.2) fun _ _ _ q => q)
theorem wp_onlyB {o : Out D} (h : Wp o (fun d S => ∃ b, d = .bl b ∧ Q (.bl b) S) E) : Wp (onlyB o) Q E := wp_bind (h.imp (fun x S1 q => by
  obtain ⟨i, rfl, q⟩ := q
  exact q) fun _ _ _ q => q)
theorem wp_notB {o : Out D} (h : Wp o (fun d S => ∃ b, d = .bl b ∧ Q (.bl (!b)) S) E) : Wp (notB o) Q E := wp_bind (h.imp (fun x S1 q => by
  obtain ⟨i, rfl, q⟩ := q
  exact q) fun _ _ _ q => q)
end
/-! ### code -/
section
variable {ρ : Ev} {S : Sto} {N : Ev → Sto → Prop} {R : D → Sto → Prop} {B C : Ev → Sto → Prop} {E : XQ} {a b : MS} {m o : ME} {t : MT}
theorem ws_seq (h : Ws (a ρ S) (fun ρ' S' => Ws (b ρ' S') N R B C E) R B C E) : Ws (sSeq a b ρ S) N R B C E := by
  unfold sSeq
  match a ρ S, h with
  | .ok (.nx _) _, h => exact h
  | .ok (.rt _) _, h => exact h
  | .ok (.bk _) _, h => exact h
  | .ok (.ct _) _, h => exact h
  | .ex _ _ _, h => exact h
  | .no, h => exact h.elim
theorem ws_nil (q : N ρ S) : Ws (sNil ρ S) N R B C E := q
theorem ws_ret (h : Wp (m ρ S) R E) : Ws (sRet m ρ S) N R B C E := ws_bind h
theorem ws_retN (h : R .non S) : Ws (sRetN ρ S) N R B C E := h
theorem ws_exp (h : Wp (m ρ S) (fun _ S1 => N ρ S1) E) : Ws (sExp m ρ S) N R B C E := ws_bind h
theorem ws_set {i : Nat} (h : Wp (m ρ S) (fun d S1 => N (ρ.set i (some d)) S1) E) : Ws (sSet i m ρ S) N R B C E := ws_bind h
theorem ws_if (h : Wp (t ρ S) (fun c S1 => Ws (if c = true then a ρ S1 else b ρ S1) N R B C E) E) : Ws (sIf t a b ρ S) N R B C E := ws_bind h
theorem ws_brk (q : B ρ S) : Ws (sBrk ρ S) N R B C E := q
theorem ws_cnt (q : C ρ S) : Ws (sCnt ρ S) N R B C E := q
theorem ws_t {x : Bool} {o o' : Out Fl} (h : x = true) (q : Ws o N R B C E) : Ws (if x = true then o else o') N R B C E := by rw [if_pos h]; exact q
theorem ws_f {x : Bool} {o o' : Out Fl} (h : x = false) (q : Ws o' N R B C E) : Ws (if x = true then o else o') N R B C E := by rw [if_neg (by rw [h]; decide)]; exact q
theorem ws_par {i j : Nat} {ms : MA} (h : Wp (ms ρ S) (fun ds S1 => ∃ x y, ds = [x, y] ∧ N ((ρ.set i (some x)).set j (some y)) S1) E) : Ws (sPar i j ms ρ S) N R B C E := ws_bind (h.imp (fun ds S1 q => by
  obtain ⟨x, y, rfl, q⟩ := q
  exact q) fun _ _ _ q => q)
theorem ws_asg {T : Tg} (h : Wp (m ρ S) (fun d S1 => ∃ ρ', setT T d ρ = some ρ' ∧ N ρ' S1) E) : Ws (sAsg T m ρ S) N R B C E := ws_bind (h.imp (fun ds S1 q => by
  obtain ⟨x, e, q⟩ := q
  simp only [e]
  exact q) fun _ _ _ q => q)
theorem ws_aug {i : Nat} {g : G2} {x : D} (h0 : ρ[i]? = some (some x)) (h : Wp (m ρ S) (fun y S1 => Wp (g x y S1) (fun z S2 => N (ρ.set i (some z)) S2) E) E) : Ws (sAug i g m ρ S) N R B C E := by
  unfold sAug
  rw [h0]
  exact ws_bind (h.imp (fun _ _ q => ws_bind q) fun _ _ _ q => q)
theorem ws_fld {cs : List String} {f : String} (h : Wp (m ρ S) (fun y S1 => Wp (o ρ S1) (fun x S2 => ∃ n c fs, x = .loc n ∧ S2[n]? = some (.ins c fs) ∧ (cs.contains c = true ∧ fs.length < 1000) ∧ N ρ (S2.set n (.ins c (putD f y fs)))) E) E) : Ws (sFldS cs f o m ρ S) N R B C E := ws_bind (h.imp (fun y S1 q => ws_bind (q.imp (fun x S2 q => by
  obtain ⟨n, c, fs, rfl, e1, e2, q⟩ := q
  simp only [e1]
  rw [if_pos e2]
  exact q) fun _ _ _ q => q)) fun _ _ _ q => q)
theorem ws_sub {i : ME} (h : Wp (m ρ S) (fun y S1 => Wp (o ρ S1) (fun x S2 => Wp (i ρ S2) (fun k S3 => ∃ n j xs l, x = .loc n ∧ k = .int j ∧ S3[n]? = some (.lst xs) ∧ L2.ixN xs.length j = some l ∧ N ρ (S3.set n (.lst (xs.set l y)))) E) E) E) : Ws (sSub o i m ρ S) N R B C E := ws_bind (h.imp (fun y S1 q => ws_bind (q.imp (fun x S2 q => ws_bind (q.imp (fun k S3 q => by
  obtain ⟨n, j, xs, l, rfl, rfl, e1, e2, q⟩ := q
  simp only [e1, e2]
  exact q) fun _ _ _ q => q)) fun _ _ _ q => q)) fun _ _ _ q => q)
/-! loops, by what stands at each turn -/
theorem ws_forL {T : Tg} {g : Option Nat} {all : List D} (I : Nat → Ev → Sto → Prop) (hg : ∀ j ρ S, I j ρ S → Gd g all S) : ∀ (xs : List D) (i : Nat) (ρ : Ev) (S : Sto), (∀ j x, xs[j]? = some x → ∀ ρ S, I (i + j) ρ S → ∃ ρ1, setT T x ρ = some ρ1 ∧ Ws (b ρ1 S) (I (i + j + 1)) R N (I (i + j + 1)) E) → (∀ ρ S, I (i + xs.length) ρ S → N ρ S) → I i ρ S → Ws (forL T b g all xs ρ S) N R B C E
  | [], i, ρ, S, _, hN, h => by
    unfold forL
    rw [if_pos (hg _ _ _ h)]
    exact hN _ _ h
  | x :: xs, i, ρ, S, hs, hN, h => by
    unfold forL
    rw [if_pos (hg _ _ _ h)]
    obtain ⟨ρ1, e, q⟩ := hs 0 x rfl ρ S h
    simp only [e]
    have ih : ∀ ρ' S', I (i + 1) ρ' S' → Ws (forL T b g all xs ρ' S') N R B C E := fun ρ' S' h' => ws_forL I hg xs (i + 1) ρ' S' (fun j y hy ρ S z => by
      have := hs (j + 1) y (by simpa using hy) ρ S (by rw [show i + (j + 1) = i + 1 + j by omega]; exact z)
      rw [show i + (j + 1) = i + 1 + j by omega] at this
      exact this) (fun ρ S z => hN ρ S (by rw [List.length_cons, show i + (xs.length + 1) = i + 1 + xs.length by omega]; exact z)) h'
    match b ρ1 S, q with
    | .ok (.nx _) _, q => exact ih _ _ q
    | .ok (.rt _) _, q => exact q
    | .ok (.bk _) _, q => exact q
    | .ok (.ct _) _, q => exact ih _ _ q
    | .ex _ _ _, q => exact q
    | .no, q => exact q.elim
theorem ws_for {T : Tg} {it : MI} (I : Nat → Ev → Sto → Prop) (h : Wp (it ρ S) (fun p S1 => (∀ j ρ S, I j ρ S → Gd p.2 p.1 S) ∧ I 0 ρ S1 ∧ (∀ j x, p.1[j]? = some x → ∀ ρ S, I j ρ S → ∃ ρ1, setT T x ρ = some ρ1 ∧ Ws (b ρ1 S) (I (j + 1)) R N (I (j + 1)) E) ∧ (∀ ρ S, I p.1.length ρ S → N ρ S)) E) : Ws (sFor T it b ρ S) N R B C E :=
  ws_bind (h.imp (fun p S1 q => by
    obtain ⟨h1, h2, h3, h4⟩ := q
    refine ws_forL I h1 p.1 0 ρ S1 (fun j x hx => ?_) (fun ρ S z => h4 ρ S (by simpa using z)) h2
    rw [Nat.zero_add]
    exact h3 j x hx) fun _ _ _ q => q)
theorem ws_whl (I : Nat → Ev → Sto → Prop) (n : Nat) (h0 : I n ρ S) (hs : ∀ m ρ S, I m ρ S → Wp (t ρ S) (fun c S1 => (c = true → Ws (b ρ S1) (fun ρ' S' => ∃ m', m' < m ∧ I m' ρ' S') R N (fun ρ' S' => ∃ m', m' < m ∧ I m' ρ' S') E) ∧ (c = false → N ρ S1)) E) : Ws (sWhl t b ρ S) N R B C E := by
  have main : ∀ m ρ S, I m ρ S → ∃ n, Ws (whL t b n ρ S) N R B C E := by
    intro m
    induction m using Nat.strongRecOn with
    | ind m ih =>
      intro ρ S h
      have q := hs m ρ S h
      match et : t ρ S, q with
      | .ok false S1, q => exact ⟨1, by unfold whL; rw [et]; exact q.2 rfl⟩
      | .ex _ _ _, q => exact ⟨1, by unfold whL; rw [et]; exact q⟩
      | .no, q => exact q.elim
      | .ok true S1, q =>
        have q := q.1 rfl
        match eb : b ρ S1, q with
        | .ok (.nx ρ') S2, ⟨m', hm, q⟩ =>
          obtain ⟨n, hn⟩ := ih m' hm ρ' S2 q
          exact ⟨n + 1, by unfold whL; rw [et]; show Ws ((b ρ S1).bind _) _ _ _ _ _; rw [eb]; exact hn⟩
        | .ok (.ct ρ') S2, ⟨m', hm, q⟩ =>
          obtain ⟨n, hn⟩ := ih m' hm ρ' S2 q
          exact ⟨n + 1, by unfold whL; rw [et]; show Ws ((b ρ S1).bind _) _ _ _ _ _; rw [eb]; exact hn⟩
        | .ok (.rt d) S2, q => exact ⟨1, by unfold whL; rw [et]; show Ws ((b ρ S1).bind _) _ _ _ _ _; rw [eb]; exact q⟩
        | .ok (.bk ρ') S2, q => exact ⟨1, by unfold whL; rw [et]; show Ws ((b ρ S1).bind _) _ _ _ _ _; rw [eb]; exact q⟩
        | .ex c fs S2, q => exact ⟨1, by unfold whL; rw [et]; show Ws ((b ρ S1).bind _) _ _ _ _ _; rw [eb]; exact q⟩
        | .no, q => exact q.elim
  obtain ⟨n, hn⟩ := main n ρ S h0
  have ne : whL t b n ρ S ≠ .no := fun e => by rw [e] at hn; exact hn
  rw [whl_ok rfl ne]
  exact hn
theorem wp_lcL {T : Tg} {e : ME} {g : Option Nat} {all : List D} (I : Nat → List D → Sto → Prop) (hg : ∀ j acc S, I j acc S → Gd g all S) : ∀ (xs : List D) (i : Nat) (acc : List D) (S : Sto), (∀ j x, xs[j]? = some x → ∀ acc S, I (i + j) acc S → ∃ ρ1, setT T x ρ = some ρ1 ∧ Wp (t ρ1 S) (fun c S1 => (c = true → Wp (e ρ1 S1) (fun d S2 => I (i + j + 1) (acc ++ [d]) S2) fun _ _ _ => False) ∧ (c = false → I (i + j + 1) acc S1)) fun _ _ _ => False) → I i acc S → ∃ ds S', lcL T t e g all ρ xs S = .ok ds S' ∧ I (i + xs.length) (acc ++ ds) S'
  | [], i, acc, S, _, h => by
    refine ⟨[], S, ?_, by simpa using h⟩
    unfold lcL
    rw [if_pos (hg _ _ _ h)]
  | x :: xs, i, acc, S, hs, h => by
    obtain ⟨ρ1, e1, q⟩ := hs 0 x rfl acc S h
    have nxt : ∀ acc' S', I (i + 1) acc' S' → ∃ ds S'', lcL T t e g all ρ xs S' = .ok ds S'' ∧ I (i + (x :: xs).length) (acc' ++ ds) S'' := fun acc' S' h' => by
      have := wp_lcL I hg xs (i + 1) acc' S' (fun j y hy acc S z => by
        have := hs (j + 1) y (by simpa using hy) acc S (by rw [show i + (j + 1) = i + 1 + j by omega]; exact z)
        rw [show i + (j + 1) = i + 1 + j by omega] at this
        exact this) h'
      rw [List.length_cons, show i + (xs.length + 1) = i + 1 + xs.length by omega]
      exact this
    match et : t ρ1 S, q with
    | .ok true S1, q =>
      obtain ⟨d, S2, ed, q⟩ := Wp.of (q.1 rfl)
      obtain ⟨ds, S3, el, q⟩ := nxt _ _ q
      refine ⟨d :: ds, S3, ?_, by simpa using q⟩
      unfold lcL
      rw [if_pos (hg _ _ _ h)]
      simp only [e1, et, ed, el]
    | .ok false S1, q =>
      obtain ⟨ds, S3, el, q⟩ := nxt _ _ (q.2 rfl)
      refine ⟨ds, S3, ?_, by simpa using q⟩
      unfold lcL
      rw [if_pos (hg _ _ _ h)]
      simp only [e1, et, el]
theorem wp_lcO {T : Tg} {it : MI} {e : ME} {Q : List D → Sto → Prop} (I : Nat → List D → Sto → Prop) (h : Wp (it ρ S) (fun p S1 => p.1.length ≤ 1000 ∧ (∀ j acc S, I j acc S → Gd p.2 p.1 S) ∧ I 0 [] S1 ∧ (∀ j x, p.1[j]? = some x → ∀ acc S, I j acc S → ∃ ρ1, setT T x (wipeD ρ T.slots) = some ρ1 ∧ Wp (t ρ1 S) (fun c S1 => (c = true → Wp (e ρ1 S1) (fun d S2 => I (j + 1) (acc ++ [d]) S2) fun _ _ _ => False) ∧ (c = false → I (j + 1) acc S1)) fun _ _ _ => False) ∧ ∀ ds S, I p.1.length ds S → Q ds S) E) : Wp (lcO T it t e ρ S) Q E :=
  wp_bind (h.imp (fun p S1 q => by
    obtain ⟨h0, h1, h2, h3, h4⟩ := q
    rw [if_pos h0]
    obtain ⟨ds, S', e, q⟩ := wp_lcL (T := T) (t := t) (e := e) (ρ := wipeD ρ T.slots) I h1 p.1 0 [] S1 (fun j x hx => by rw [Nat.zero_add]; exact h3 j x hx) h2
    exact wp_eq e (h4 _ _ (by simpa using q))) fun _ _ _ q => q)
theorem wp_lcE {T : Tg} {it : MI} {e : ME} {Q : D → Sto → Prop} (h : Wp (lcO T it t e ρ S) (fun ds S1 => Q (.lst ds) S1) E) : Wp (lcE T it t e ρ S) Q E := wp_bind h
theorem wp_lcM {T : Tg} {it : MI} {e : ME} {Q : D → Sto → Prop} (h : Wp (lcO T it t e ρ S) (fun ds S1 => Q (.loc S1.length) (S1 ++ [.lst ds])) E) : Wp (lcM T it t e ρ S) Q E := wp_bind h
/-! what is walked -/
theorem wp_iSeq {Q : List D × Option Nat → Sto → Prop} (h : Wp (m ρ S) (fun d S1 => ∃ p, itemsI S1 d = some p ∧ Q p S1) E) : Wp (iSeq m ρ S) Q E := wp_bind (h.imp (fun d S1 q => by
  obtain ⟨p, e, q⟩ := q
  rw [e]
  exact q) fun _ _ _ q => q)
theorem wp_iSgn {Q : List D × Option Nat → Sto → Prop} (h : Wp (m ρ S) (fun d S1 => ∃ z, d = .str z ∧ Q (signs z, none) S1) E) : Wp (iSgn m ρ S) Q E := wp_bind (h.imp (fun d S1 q => by
  obtain ⟨p, rfl, q⟩ := q
  exact q) fun _ _ _ q => q)
theorem wp_iR1 {ms : MA} {Q : List D × Option Nat → Sto → Prop} (h : Wp (ms ρ S) (fun ds S1 => ∃ j, ds = [.int j] ∧ near62 j = true ∧ Q (ups 0 j.toNat, none) S1) E) : Wp (iR1 ms ρ S) Q E := wp_bind (h.imp (fun d S1 q => by
  obtain ⟨p, rfl, e, q⟩ := q
  simp only [e, if_true]
  exact q) fun _ _ _ q => q)
theorem wp_iR2 {ms : MA} {Q : List D × Option Nat → Sto → Prop} (h : Wp (ms ρ S) (fun ds S1 => ∃ i j, ds = [.int i, .int j] ∧ near62 i = true ∧ near62 j = true ∧ Q (ups i (j - i).toNat, none) S1) E) : Wp (iR2 ms ρ S) Q E := wp_bind (h.imp (fun d S1 q => by
  obtain ⟨i, j, rfl, e1, e2, q⟩ := q
  simp only [e1, e2, and_self, if_true]
  exact q) fun _ _ _ q => q)
theorem wp_zpl {xs ys : List D} {Q : List D × Option Nat → Sto → Prop} (q : Q (zipD xs ys, none) S) : Wp (zpD [.lst xs, .lst ys] S) Q E := q
theorem wp_zpt {xs ys : List D} {Q : List D × Option Nat → Sto → Prop} (q : Q (zipD xs ys, none) S) : Wp (zpD [.tup xs, .tup ys] S) Q E := q
theorem wp_iEn {ms : MA} {Q : List D × Option Nat → Sto → Prop} (h : Wp (ms ρ S) (fun ds S1 => Wp (enD ds S1) Q E) E) : Wp (iEn ms ρ S) Q E := wp_bind h
theorem wp_iZp {ms : MA} {Q : List D × Option Nat → Sto → Prop} (h : Wp (ms ρ S) (fun ds S1 => Wp (zpD ds S1) Q E) E) : Wp (iZp ms ρ S) Q E := wp_bind h
end
/-! ### defs -/
section
variable {S : Sto} {Q : D → Sto → Prop} {E : XQ}
/-- what is asked of a def's end, behind the gc -/
def Gq (S : Sto) (Q : D → Sto → Prop) (E : XQ) (d : D) (S' : Sto) : Prop := Wp (gcO S (.ok d S')) Q E
def Gx (S : Sto) (Q : D → Sto → Prop) (E : XQ) : XQ := fun c fs S' => Wp (gcO S (.ex c fs S')) Q E
theorem gq_len {d : D} {S' : Sto} (h : S'.length = S.length) (q : Q d S') : Gq S Q E d S' := by
  unfold Gq
  rw [gc_len h]
  exact q
theorem gq_same {d : D} (q : Q d S) : Gq S Q E d S := gq_len rfl q
theorem gq_app {d : D} {T : Sto} (h : d.und S.length = true) (q : Q d S) : Gq S Q E d (S ++ T) := by
  unfold Gq
  rw [gc_app h]
  exact q
theorem gx_same {c : String} {fs : List (String × D)} (q : E c fs S) : Gx S Q E c fs S := by
  unfold Gx
  rw [gc_samex]
  exact q
theorem gx_len {c : String} {fs : List (String × D)} {S' : Sto} (h : S'.length = S.length) (q : E c fs S') : Gx S Q E c fs S' := by
  unfold Gx
  rw [gc_lenx h]
  exact q
theorem gx_app {c : String} {fs : List (String × D)} {T : Sto} (h : belowf S.length fs = true) (q : E c fs S) : Gx S Q E c fs (S ++ T) := by
  unfold Gx
  rw [gc_appx h]
  exact q
theorem wp_dfn {np n : Nat} {b : MS} {ds : List D} (hl : ds.length = np) (h : Ws (b (ds.map some ++ List.replicate (n - np) none) S) (fun _ S' => Gq S Q E .non S') (Gq S Q E) (fun _ _ => False) (fun _ _ => False) (Gx S Q E)) : Wp (dfn np n b ds S) Q E := by
  unfold dfn
  rw [if_pos hl]
  match b (ds.map some ++ List.replicate (n - np) none) S, h with
  | .ok (.nx _) _, h => exact h
  | .ok (.rt _) _, h => exact h
  | .ex _ _ _, h => exact h
theorem wp_dfnD {np n : Nat} {b : MS} {dds ds : List D} (h : Wp (dfn np n b (ds ++ dds.drop (dds.length - (np - ds.length))) S) Q E) : Wp (dfnD np n b dds ds S) Q E := h
theorem wp_dfnV {np n : Nat} {b : MS} {ds : List D} (hl : np ≤ ds.length) (hl2 : ds.length ≤ 1000) (h : Wp (dfn (np + 1) n b (ds.take np ++ [.tup (ds.drop np)]) S) Q E) : Wp (dfnV np n b ds S) Q E := by
  unfold dfnV
  rw [if_pos ⟨hl, hl2⟩]
  exact h
theorem wp_itemsF {g : Fn} {m : ME} {ρ : Ev} (h : Wp (m ρ S) (fun d S1 => ∃ xs, (d = .lst xs ∨ d = .tup xs ∨ ∃ n, d = .loc n ∧ S1[n]? = some (.lst xs)) ∧ Wp (g xs S1) Q E) E) : Wp (itemsF g m ρ S) Q E := wp_bind (h.imp (fun d S1 q => by
  obtain ⟨xs, rfl | rfl | ⟨n, rfl, hn⟩, q⟩ := q
  · exact q
  · exact q
  · simp only [hn]
    exact q) fun _ _ _ q => q)
end
end PVZ
set_option Elab.async false
set_option linter.all false
set_option maxRecDepth 100000
set_option maxHeartbeats 4000000
/-! the steps of Q0 as equations -/
namespace PVZ
open PySem PV
theorem Wp_Q {α : Type} {o : Out α} {Q Q' : α → Sto → Prop} {E : XQ} (h : ∀ a S, Q a S = Q' a S) : Wp o Q E = Wp o Q' E := by
  have e : Q = Q' := funext fun a => funext fun S => h a S
  subst e
  rfl
section
variable {α β : Type} {E : XQ} {S : Sto} {ρ : Ev}
theorem Q_bind {o : Out α} {k : α → Sto → Out β} {Q : β → Sto → Prop} : Wp (o.bind k) Q E = Wp o (fun a S => Wp (k a S) Q E) E := by cases o <;> rfl
theorem Q_sbind {o : Out α} {k : α → Sto → Out Fl} {N : Ev → Sto → Prop} {R : D → Sto → Prop} {B C : Ev → Sto → Prop} : Ws (o.bind k) N R B C E = Wp o (fun a S => Ws (k a S) N R B C E) E := by cases o <;> rfl
theorem Q_ok {a : α} {Q : α → Sto → Prop} : Wp (.ok a S) Q E = Q a S := rfl
theorem Q_ex {c : String} {fs : List (String × D)} {Q : α → Sto → Prop} : Wp (.ex c fs S) Q E = E c fs S := rfl
variable {Q : D → Sto → Prop} {d x : D} {o : Option D} {a b c m : ME} {ms : MA} {t u : MT}
theorem Q_v0 : Wp (v 0 (some d :: ρ) S) Q E = Q d S := rfl
theorem Q_vs {n : Nat} : Wp (v (n + 1) (o :: ρ) S) Q E = Wp (v n ρ S) Q E := by
  unfold v
  rw [List.getElem?_cons_succ]
theorem Q_k : Wp (k d ρ S) Q E = Q d S := rfl
theorem Q_bin {g : G2} : Wp (bin g a b ρ S) Q E = Wp (a ρ S) (fun x S1 => Wp (b ρ S1) (fun y S2 => Wp (g x y S2) Q E) E) E := by
  unfold bin
  rw [Q_bind]
  exact Wp_Q fun _ _ => Q_bind
theorem Q_una {g : G1} : Wp (una g a ρ S) Q E = Wp (a ρ S) (fun x S1 => Wp (g x S1) Q E) E := Q_bind
theorem Q_cal {F : Fn} : Wp (cal F ms ρ S) Q E = Wp (ms ρ S) (fun ds S1 => Wp (F ds S1) Q E) E := Q_bind
theorem Q_nil {Q : List D → Sto → Prop} : Wp (aNil ρ S) Q E = Q [] S := rfl
theorem Q_cons {Q : List D → Sto → Prop} : Wp (aCons a ms ρ S) Q E = Wp (a ρ S) (fun x S1 => Wp (ms ρ S1) (fun ds S2 => Q (x :: ds) S2) E) E := by
  unfold aCons
  rw [Q_bind]
  exact Wp_Q fun _ _ => Q_bind
theorem Q_star {Q : List D → Sto → Prop} : Wp (aStar a ms ρ S) Q E = Wp (a ρ S) (fun x S1 => Wp (match x with
  | .lst xs => (ms ρ S1).bind fun ds S2 => .ok (xs ++ ds) S2
  | .tup xs => (ms ρ S1).bind fun ds S2 => .ok (xs ++ ds) S2
  | .loc n => match S1[n]? with
    | some (.lst xs) => (ms ρ S1).bind fun ds S2 => .ok (xs ++ ds) S2
    | _ => .no
  | _ => .no) Q E) E := Q_bind
/-! tests -/
variable {P : Bool → Sto → Prop}
theorem Q_tst : Wp (tst a ρ S) P E = Wp (a ρ S) (fun d S1 => Wp (match d with | .bl b => Out.ok b S1 | _ => .no) P E) E := Q_bind
theorem Q_tru : Wp (tru a ρ S) P E = Wp (a ρ S) (fun d S1 => Wp (match truD d with | some b => Out.ok b S1 | none => .no) P E) E := Q_bind
theorem Q_no : Wp (tNo t ρ S) P E = Wp (t ρ S) (fun c S1 => P (!c) S1) E := Q_bind
theorem Q_an : Wp (tAn t u ρ S) P E = Wp (t ρ S) (fun c S1 => Wp (if c = true then u ρ S1 else .ok false S1) P E) E := Q_bind
theorem Q_or : Wp (tOr t u ρ S) P E = Wp (t ρ S) (fun c S1 => Wp (if c = true then .ok true S1 else u ρ S1) P E) E := Q_bind
theorem Q_ifE : Wp (ifE t a b ρ S) Q E = Wp (t ρ S) (fun c S1 => Wp (if c = true then a ρ S1 else b ρ S1) Q E) E := Q_bind
def _root_.PV.anD (b : ME) (ρ : Ev) (d : D) (S1 : Sto) : Out D := match d with
  | .bl c => if c = true then b ρ S1 else .ok (.bl false) S1
  | _ => .no
def _root_.PV.orD (b : ME) (ρ : Ev) (d : D) (S1 : Sto) : Out D := match d with
  | .bl c => if c = true then .ok (.bl true) S1 else b ρ S1
  | _ => .no
theorem Q_anE : Wp (anE a b ρ S) Q E = Wp (a ρ S) (fun d S1 => Wp (anD b ρ d S1) Q E) E := by
  unfold anE
  rw [Q_bind]
  refine Wp_Q fun d S1 => ?_
  cases d with
  | bl c => cases c <;> rfl
  | _ => rfl
theorem Q_orE : Wp (orE a b ρ S) Q E = Wp (a ρ S) (fun d S1 => Wp (orD b ρ d S1) Q E) E := by
  unfold orE
  rw [Q_bind]
  refine Wp_Q fun d S1 => ?_
  cases d with
  | bl c => cases c <;> rfl
  | _ => rfl
theorem Q_anD {c : Bool} : Wp (anD b ρ (.bl c) S) Q E = Wp (if c = true then b ρ S else .ok (.bl false) S) Q E := rfl
theorem Q_orD {c : Bool} : Wp (orD b ρ (.bl c) S) Q E = Wp (if c = true then .ok (.bl true) S else b ρ S) Q E := rfl
theorem Q_noE : Wp (noE a ρ S) Q E = Wp (a ρ S) (fun d S1 => Wp (match d with | .bl b => .ok (.bl (!b)) S1 | _ => .no) Q E) E := Q_bind
def _root_.PV.chD (g' : G2) (y : D) (c : ME) (ρ : Ev) (z : D) (S3 : Sto) : Out D := match z with
  | .bl t => if t = true then (c ρ S3).bind fun u S4 => g' y u S4 else .ok (.bl false) S3
  | _ => .no
theorem Q_chn {g g' : G2} : Wp (chn g g' a b c ρ S) Q E = Wp (a ρ S) (fun x S1 => Wp (b ρ S1) (fun y S2 => Wp (g x y S2) (fun z S3 => Wp (chD g' y c ρ z S3) Q E) E) E) E := by
  unfold chn
  rw [Q_bind]
  refine Wp_Q fun x S1 => Q_bind.trans (Wp_Q fun y S2 => Q_bind.trans (Wp_Q fun z S3 => ?_))
  cases z with
  | bl c => cases c <;> rfl
  | _ => rfl
theorem Q_chD {g' : G2} {y : D} {t : Bool} : Wp (chD g' y c ρ (.bl t) S) Q E = Wp (if t = true then (c ρ S).bind fun u S4 => g' y u S4 else .ok (.bl false) S) Q E := rfl
theorem Q_t {o o' : Out α} {Q : α → Sto → Prop} : Wp (if true = true then o else o') Q E = Wp o Q E := rfl
theorem Q_f {o o' : Out α} {Q : α → Sto → Prop} : Wp (if false = true then o else o') Q E = Wp o' Q E := rfl
theorem Q_T {h : Decidable True} {o o' : Out α} {Q : α → Sto → Prop} : Wp (@ite _ True h o o') Q E = Wp o Q E := by rw [if_pos trivial]
theorem Q_F {h : Decidable False} {o o' : Out α} {Q : α → Sto → Prop} : Wp (@ite _ False h o o') Q E = Wp o' Q E := by rw [if_neg not_false]
theorem wp_pos {p : Prop} [Decidable p] {o o' : Out α} {Q : α → Sto → Prop} (h : p) (q : Wp o Q E) : Wp (if p then o else o') Q E := by rw [if_pos h]; exact q
theorem wp_neg_ {p : Prop} [Decidable p] {o o' : Out α} {Q : α → Sto → Prop} (h : ¬ p) (q : Wp o' Q E) : Wp (if p then o else o') Q E := by rw [if_neg h]; exact q
theorem wp_dt {p : Prop} [Decidable p] {o o' : Out α} {Q : α → Sto → Prop} (h : p) (q : Wp o Q E) : Wp (if decide p = true then o else o') Q E := wp_t (decide_eq_true h) q
theorem wp_df {p : Prop} [Decidable p] {o o' : Out α} {Q : α → Sto → Prop} (h : ¬ p) (q : Wp o' Q E) : Wp (if decide p = true then o else o') Q E := wp_f (decide_eq_false h) q
theorem wp_nt {p : Prop} [Decidable p] {o o' : Out α} {Q : α → Sto → Prop} (h : ¬ p) (q : Wp o Q E) : Wp (if (!decide p) = true then o else o') Q E := wp_t (by rw [decide_eq_false h]; rfl) q
theorem wp_nf {p : Prop} [Decidable p] {o o' : Out α} {Q : α → Sto → Prop} (h : p) (q : Wp o' Q E) : Wp (if (!decide p) = true then o else o') Q E := wp_f (by rw [decide_eq_true h]; rfl) q
/-! displays, methods -/
def _root_.PV.tupQ (ds : List D) (S1 : Sto) : Out D := if ds.length ≤ 1000 then .ok (.tup ds) S1 else .no
def _root_.PV.lstQ (ds : List D) (S1 : Sto) : Out D := if ds.length ≤ 1000 then .ok (.lst ds) S1 else .no
def _root_.PV.lstMQ (ds : List D) (S1 : Sto) : Out D := if ds.length ≤ 1000 then .ok (.loc S1.length) (S1 ++ [.lst ds]) else .no
theorem Q_tup : Wp (tupE ms ρ S) Q E = Wp (ms ρ S) (fun ds S1 => Wp (tupQ ds S1) Q E) E := Q_bind
theorem Q_lst : Wp (lstE ms ρ S) Q E = Wp (ms ρ S) (fun ds S1 => Wp (lstQ ds S1) Q E) E := Q_bind
theorem Q_lstM : Wp (lstM ms ρ S) Q E = Wp (ms ρ S) (fun ds S1 => Wp (lstMQ ds S1) Q E) E := Q_bind
theorem wp_tupQ {ds : List D} (h : ds.length ≤ 1000) (q : Q (.tup ds) S) : Wp (tupQ ds S) Q E := by unfold tupQ; rw [if_pos h]; exact q
theorem wp_lstQ {ds : List D} (h : ds.length ≤ 1000) (q : Q (.lst ds) S) : Wp (lstQ ds S) Q E := by unfold lstQ; rw [if_pos h]; exact q
theorem wp_lstMQ {ds : List D} (h : ds.length ≤ 1000) (q : Q (.loc S.length) (S ++ [.lst ds])) : Wp (lstMQ ds S) Q E := by unfold lstMQ; rw [if_pos h]; exact q
theorem Q_cm {C : String} {F : Fn} : Wp (cmE C F (k (.cls C)) ms ρ S) Q E = Wp (ms ρ S) (fun ds S2 => Wp (F (.cls C :: ds) S2) Q E) E := by
  show Wp (if isCl C (.cls C) = true then (ms ρ S).bind fun ds S2 => F (.cls C :: ds) S2 else .no) Q E = _
  rw [if_pos (by simp [isCl]), Q_bind]
theorem Q_sm {C : String} {F : Fn} : Wp (smE C F (k (.cls C)) ms ρ S) Q E = Wp (ms ρ S) (fun ds S2 => Wp (F ds S2) Q E) E := by
  show Wp (if isCl C (.cls C) = true then (ms ρ S).bind fun ds S2 => F ds S2 else .no) Q E = _
  rw [if_pos (by simp [isCl]), Q_bind]
def _root_.PV.mtQ (τ : List (String × Fn)) (n : String) (ms : MA) (ρ : Ev) (x : D) (S1 : Sto) : Out D := match insOf S1 x with
  | some (c, fs) => match τ.lookup c with
    | some F => match fs.lookup n with
      | none => (ms ρ S1).bind fun ds S2 => F (x :: ds) S2
      | some _ => .no
    | none => .no
  | none => .no
theorem Q_mt {τ : List (String × Fn)} {n : String} : Wp (mtO τ n a ms ρ S) Q E = Wp (a ρ S) (fun x S1 => Wp (mtQ τ n ms ρ x S1) Q E) E := Q_bind
theorem wp_mtQ {τ : List (String × Fn)} {n C : String} {fs : List (String × D)} {F : Fn} (e1 : insOf S x = some (C, fs)) (e2 : τ.lookup C = some F) (e3 : fs.lookup n = none) (q : Wp (ms ρ S) (fun ds S2 => Wp (F (x :: ds) S2) Q E) E) : Wp (mtQ τ n ms ρ x S) Q E := by
  unfold mtQ
  simp only [e1, e2, e3]
  rw [Q_bind]
  exact q
def _root_.PV.mtKQ (C : String) (n : String) (l : Nat) (F : Fn) (ms : MA) (ρ : Ev) (x : D) (S1 : Sto) : Out D := match insOf S1 x with
  | some (c', fs) => if c' = C then match fs.lookup n with
      | none => (ms ρ S1).bind fun ds S2 => if ds.length = l then F (x :: ds) S2 else .no
      | some _ => .no
    else .no
  | none => .no
theorem Q_mtK {C n : String} {l : Nat} {F : Fn} : Wp (mtK C n l F a ms ρ S) Q E = Wp (a ρ S) (fun x S1 => Wp (mtKQ C n l F ms ρ x S1) Q E) E := Q_bind
theorem wp_mtKQ {n C : String} {l : Nat} {fs : List (String × D)} {F : Fn} (e1 : insOf S x = some (C, fs)) (e3 : fs.lookup n = none) (q : Wp (ms ρ S) (fun ds S2 => ds.length = l ∧ Wp (F (x :: ds) S2) Q E) E) : Wp (mtKQ C n l F ms ρ x S) Q E := by
  unfold mtKQ
  simp only [e1, e3, if_true]
  exact wp_bind (q.imp (fun ds S2 q => by rw [if_pos q.1]; exact q.2) fun _ _ _ q => q)
def _root_.PV.mthQ (g : D → List D → Sto → Out D) (ms : MA) (ρ : Ev) (x : D) (S1 : Sto) : Out D := if isLoc S1 x = true then (ms ρ S1).bind fun ds S2 => g x ds S2 else .no
theorem Q_mthL {g : D → List D → Sto → Out D} : Wp (mthL g a ms ρ S) Q E = Wp (a ρ S) (fun x S1 => Wp (mthQ g ms ρ x S1) Q E) E := Q_bind
theorem wp_mthQ {g : D → List D → Sto → Out D} {n : Nat} {xs : List D} (h : S[n]? = some (.lst xs)) (q : Wp (ms ρ S) (fun ds S2 => Wp (g (.loc n) ds S2) Q E) E) : Wp (mthQ g ms ρ (.loc n) S) Q E := by
  unfold mthQ
  rw [if_pos (by simp [isLoc, h]), Q_bind]
  exact q
theorem Q_mthS {g : G2} : Wp (mthS g a b ρ S) Q E = Wp (a ρ S) (fun x S1 => Wp (if isStr x = true then (b ρ S1).bind fun y S2 => g x y S2 else .no) Q E) E := Q_bind
theorem Q_isStr {z : Str} {o o' : Out D} : Wp (if isStr (.str z) = true then o else o') Q E = Wp o Q E := rfl
theorem Q_itemsF {g : Fn} : Wp (itemsF g m ρ S) Q E = Wp (m ρ S) (fun d S1 => Wp (match d with
  | .lst xs => g xs S1
  | .tup xs => g xs S1
  | .loc n => match S1[n]? with
    | some (.lst xs) => g xs S1
    | _ => .no
  | _ => .no) Q E) E := Q_bind
/-! slices -/
theorem Q_sli {l h : MO} : Wp (sli m l h ρ S) Q E = Wp (m ρ S) (fun x S1 => Wp (l ρ S1) (fun lo S2 => Wp (h ρ S2) (fun hi S3 => Wp (slG x lo hi S3) Q E) E) E) E := by
  unfold sli
  rw [Q_bind]
  exact Wp_Q fun _ _ => Q_bind.trans (Wp_Q fun _ _ => Q_bind)
theorem Q_oNo {Q : Option Int → Sto → Prop} : Wp (oNo ρ S) Q E = Q none S := rfl
theorem Q_oSo {Q : Option Int → Sto → Prop} : Wp (oSo m ρ S) Q E = Wp (m ρ S) (fun d S1 => Wp (match d with | .int i => Out.ok (some i) S1 | _ => .no) Q E) E := Q_bind
/-! numbers -/
variable {i j : Int}
theorem Q_add : Wp (addG (.int i) (.int j) S) Q E = Q (.int (i + j)) S := rfl
theorem Q_addI : Wp (addI (.int i) (.int j) S) Q E = Q (.int (i + j)) S := rfl
theorem Q_sub : Wp (subG (.int i) (.int j) S) Q E = Q (.int (i - j)) S := rfl
theorem Q_neg : Wp (negG (.int i) S) Q E = Q (.int (-i)) S := rfl
theorem Q_eqI : Wp (eqG false (.int i) (.int j) S) Q E = Q (.bl (decide (i = j))) S := by
  unfold eqG
  rw [eqD_int]
  simp [Q_ok]
theorem Q_neI : Wp (eqG true (.int i) (.int j) S) Q E = Q (.bl (!decide (i = j))) S := by
  unfold eqG
  rw [eqD_int]
  simp [Q_ok]
theorem Q_lt : Wp (ltG (.int i) (.int j) S) Q E = Q (.bl (decide (i < j))) S := rfl
theorem Q_le : Wp (leG (.int i) (.int j) S) Q E = Q (.bl (decide (i ≤ j))) S := rfl
theorem Q_gt : Wp (gtG (.int i) (.int j) S) Q E = Q (.bl (decide (j < i))) S := rfl
theorem Q_ge : Wp (geG (.int i) (.int j) S) Q E = Q (.bl (decide (j ≤ i))) S := rfl
theorem Q_isN {n : Bool} : Wp (isG n x .non S) Q E = Q (.bl (n ^^ isNon x)) S := rfl
theorem Q_int : Wp (intB [.int i] S) Q E = Q (.int i) S := rfl
theorem Q_intb {b : Bool} : Wp (intB [.bl b] S) Q E = Q (.int (if b = true then 1 else 0)) S := rfl
theorem Q_abs : Wp (absB [.int i] S) Q E = Q (.int (if i < 0 then -i else i)) S := rfl
variable {xs ys : List D}
theorem Q_lenl : Wp (lenB [.lst xs] S) Q E = Q (.int xs.length) S := rfl
theorem Q_lent : Wp (lenB [.tup xs] S) Q E = Q (.int xs.length) S := rfl
theorem Q_tupl : Wp (tupB [.lst xs] S) Q E = Q (.tup xs) S := rfl
theorem Q_tupt : Wp (tupB [.tup xs] S) Q E = Q (.tup xs) S := rfl
theorem Q_listl : Wp (listB [.lst xs] S) Q E = Q (.lst xs) S := rfl
theorem Q_listt : Wp (listB [.tup xs] S) Q E = Q (.lst xs) S := rfl
theorem Q_onlyB {o : Out D} : Wp (onlyB o) Q E = Wp o (fun d S1 => Wp (match d with | .bl b => .ok (.bl b) S1 | _ => .no) Q E) E := Q_bind
theorem Q_notB {o : Out D} : Wp (notB o) Q E = Wp o (fun d S1 => Wp (match d with | .bl b => .ok (.bl (!b)) S1 | _ => .no) Q E) E := Q_bind
end
section
variable {S : Sto} {E : XQ} {Q : D → Sto → Prop}
theorem Q_ixt0 {a : D} {xs : List D} : Wp (ixG (.tup (a :: xs)) (.int 0) S) Q E = Q a S := by
  have e : L2.atI (a :: xs) 0 = some a := by rw [L2.atI, L2.ixN, List.length_cons, if_pos (by decide), if_pos (by first | omega | (simp only [List.length_cons]; omega))]; rfl
  unfold ixG
  simp only [e]
  rfl
theorem Q_ixt1 {a b : D} {xs : List D} : Wp (ixG (.tup (a :: b :: xs)) (.int 1) S) Q E = Q b S := by
  have e : L2.atI (a :: b :: xs) 1 = some b := by rw [L2.atI, L2.ixN, List.length_cons, if_pos (by decide), if_pos (by first | omega | (simp only [List.length_cons]; omega))]; rfl
  unfold ixG
  simp only [e]
  rfl
theorem Q_ixt2 {a b c : D} {xs : List D} : Wp (ixG (.tup (a :: b :: c :: xs)) (.int 2) S) Q E = Q c S := by
  have e : L2.atI (a :: b :: c :: xs) 2 = some c := by rw [L2.atI, L2.ixN, List.length_cons, if_pos (by decide), if_pos (by first | omega | (simp only [List.length_cons]; omega))]; rfl
  unfold ixG
  simp only [e]
  rfl
theorem Q_ixt3 {a b c d : D} {xs : List D} : Wp (ixG (.tup (a :: b :: c :: d :: xs)) (.int 3) S) Q E = Q d S := by
  have e : L2.atI (a :: b :: c :: d :: xs) 3 = some d := by rw [L2.atI, L2.ixN, List.length_cons, if_pos (by decide), if_pos (by first | omega | (simp only [List.length_cons]; omega))]; rfl
  unfold ixG
  simp only [e]
  rfl
theorem Q_ixl0 {a : D} {xs : List D} : Wp (ixG (.lst (a :: xs)) (.int 0) S) Q E = Q a S := by
  have e : L2.atI (a :: xs) 0 = some a := by rw [L2.atI, L2.ixN, List.length_cons, if_pos (by decide), if_pos (by first | omega | (simp only [List.length_cons]; omega))]; rfl
  unfold ixG
  simp only [e]
  rfl
theorem Q_ixl1 {a b : D} {xs : List D} : Wp (ixG (.lst (a :: b :: xs)) (.int 1) S) Q E = Q b S := by
  have e : L2.atI (a :: b :: xs) 1 = some b := by rw [L2.atI, L2.ixN, List.length_cons, if_pos (by decide), if_pos (by first | omega | (simp only [List.length_cons]; omega))]; rfl
  unfold ixG
  simp only [e]
  rfl
theorem Q_ixl2 {a b c : D} {xs : List D} : Wp (ixG (.lst (a :: b :: c :: xs)) (.int 2) S) Q E = Q c S := by
  have e : L2.atI (a :: b :: c :: xs) 2 = some c := by rw [L2.atI, L2.ixN, List.length_cons, if_pos (by decide), if_pos (by first | omega | (simp only [List.length_cons]; omega))]; rfl
  unfold ixG
  simp only [e]
  rfl
theorem Q_ixl3 {a b c d : D} {xs : List D} : Wp (ixG (.lst (a :: b :: c :: d :: xs)) (.int 3) S) Q E = Q d S := by
  have e : L2.atI (a :: b :: c :: d :: xs) 3 = some d := by rw [L2.atI, L2.ixN, List.length_cons, if_pos (by decide), if_pos (by first | omega | (simp only [List.length_cons]; omega))]; rfl
  unfold ixG
  simp only [e]
  rfl
end
section
variable {ρ : Ev} {S : Sto} {N : Ev → Sto → Prop} {R : D → Sto → Prop} {B C : Ev → Sto → Prop} {E : XQ} {a b : MS} {m o : ME} {t : MT} {ms : MA}
theorem Q_seq : Ws (sSeq a b ρ S) N R B C E = Ws (a ρ S) (fun ρ' S' => Ws (b ρ' S') N R B C E) R B C E := by
  unfold sSeq
  match a ρ S with
  | .ok (.nx _) _ => rfl
  | .ok (.rt _) _ => rfl
  | .ok (.bk _) _ => rfl
  | .ok (.ct _) _ => rfl
  | .ex _ _ _ => rfl
  | .no => rfl
theorem Q_sNil : Ws (sNil ρ S) N R B C E = N ρ S := rfl
theorem Q_ret : Ws (sRet m ρ S) N R B C E = Wp (m ρ S) R E := Q_sbind
theorem Q_retN : Ws (sRetN ρ S) N R B C E = R .non S := rfl
theorem Q_exp : Ws (sExp m ρ S) N R B C E = Wp (m ρ S) (fun _ S1 => N ρ S1) E := Q_sbind
theorem Q_set {i : Nat} : Ws (sSet i m ρ S) N R B C E = Wp (m ρ S) (fun d S1 => N (ρ.set i (some d)) S1) E := Q_sbind
theorem Q_if : Ws (sIf t a b ρ S) N R B C E = Wp (t ρ S) (fun c S1 => Ws (if c = true then a ρ S1 else b ρ S1) N R B C E) E := Q_sbind
theorem Q_brk : Ws (sBrk ρ S) N R B C E = B ρ S := rfl
theorem Q_cnt : Ws (sCnt ρ S) N R B C E = C ρ S := rfl
theorem Q_st {o o' : Out Fl} : Ws (if true = true then o else o') N R B C E = Ws o N R B C E := rfl
theorem Q_sf {o o' : Out Fl} : Ws (if false = true then o else o') N R B C E = Ws o' N R B C E := rfl
theorem Q_nx : Ws (.ok (.nx ρ) S) N R B C E = N ρ S := rfl
theorem Q_sT {h : Decidable True} {o o' : Out Fl} : Ws (@ite _ True h o o') N R B C E = Ws o N R B C E := by rw [if_pos trivial]
theorem Q_sF {h : Decidable False} {o o' : Out Fl} : Ws (@ite _ False h o o') N R B C E = Ws o' N R B C E := by rw [if_neg not_false]
theorem ws_dt {p : Prop} [Decidable p] {o o' : Out Fl} (h : p) (q : Ws o N R B C E) : Ws (if decide p = true then o else o') N R B C E := ws_t (decide_eq_true h) q
theorem ws_df {p : Prop} [Decidable p] {o o' : Out Fl} (h : ¬ p) (q : Ws o' N R B C E) : Ws (if decide p = true then o else o') N R B C E := ws_f (decide_eq_false h) q
theorem ws_nt {p : Prop} [Decidable p] {o o' : Out Fl} (h : ¬ p) (q : Ws o N R B C E) : Ws (if (!decide p) = true then o else o') N R B C E := ws_t (by rw [decide_eq_false h]; rfl) q
theorem ws_nf {p : Prop} [Decidable p] {o o' : Out Fl} (h : p) (q : Ws o' N R B C E) : Ws (if (!decide p) = true then o else o') N R B C E := ws_f (by rw [decide_eq_true h]; rfl) q
def _root_.PV.parQ (i j : Nat) (ρ : Ev) (ds : List D) (S1 : Sto) : Out Fl := match ds with
  | [d, e] => .ok (.nx ((ρ.set i (some d)).set j (some e))) S1
  | _ => .no
theorem Q_par {i j : Nat} : Ws (sPar i j ms ρ S) N R B C E = Wp (ms ρ S) (fun ds S1 => Ws (parQ i j ρ ds S1) N R B C E) E := Q_sbind
theorem Q_parQ {i j : Nat} {d e : D} : Ws (parQ i j ρ [d, e] S) N R B C E = N ((ρ.set i (some d)).set j (some e)) S := rfl
def _root_.PV.asgQ (T : Tg) (d : D) (ρ : Ev) (S1 : Sto) : Out Fl := match setT T d ρ with
  | some ρ' => .ok (.nx ρ') S1
  | none => .no
theorem Q_asg {T : Tg} : Ws (sAsg T m ρ S) N R B C E = Wp (m ρ S) (fun d S1 => Ws (asgQ T d ρ S1) N R B C E) E := Q_sbind
theorem Q_asgN {i : Nat} {d : D} : Ws (asgQ (.nm i) d ρ S) N R B C E = N (ρ.set i (some d)) S := rfl
theorem Q_asg2 {i j : Nat} {d e : D} : Ws (asgQ (.tp [i, j]) (.tup [d, e]) ρ S) N R B C E = N ((ρ.set i (some d)).set j (some e)) S := rfl
theorem Q_asg3 {i j l : Nat} {d e f : D} : Ws (asgQ (.tp [i, j, l]) (.tup [d, e, f]) ρ S) N R B C E = N (((ρ.set i (some d)).set j (some e)).set l (some f)) S := rfl
theorem Q_asg4 {i j l n : Nat} {d e f g : D} : Ws (asgQ (.tp [i, j, l, n]) (.tup [d, e, f, g]) ρ S) N R B C E = N ((((ρ.set i (some d)).set j (some e)).set l (some f)).set n (some g)) S := rfl
theorem ws_asgQ {T : Tg} {d : D} {ρ' : Ev} (e : setT T d ρ = some ρ') (q : N ρ' S) : Ws (asgQ T d ρ S) N R B C E := by
  unfold asgQ
  rw [e]
  exact q
def _root_.PV.augQ (i : Nat) (g : G2) (m : ME) (ρ : Ev) (x : D) (S : Sto) : Out Fl := (m ρ S).bind fun y S1 => (g x y S1).bind fun z S2 => .ok (.nx (ρ.set i (some z))) S2
theorem Q_aug {i : Nat} {g : G2} : Ws (sAug i g m ρ S) N R B C E = Wp (v i ρ S) (fun x S' => Ws (augQ i g m ρ x S') N R B C E) E := by
  unfold sAug v
  match ρ[i]? with
  | some (some x) => rfl
  | some none => rfl
  | none => rfl
theorem Q_augQ {i : Nat} {g : G2} {x : D} : Ws (augQ i g m ρ x S) N R B C E = Wp (m ρ S) (fun y S1 => Wp (g x y S1) (fun z S2 => N (ρ.set i (some z)) S2) E) E := by
  unfold augQ
  rw [Q_sbind]
  exact Wp_Q fun _ _ => Q_sbind
/-! walks -/
variable {Q : List D × Option Nat → Sto → Prop} {d : D}
def _root_.PV.seqQ (d : D) (S1 : Sto) : Out (List D × Option Nat) := match itemsI S1 d with
  | some p => .ok p S1
  | none => .no
theorem Q_iSeq : Wp (iSeq m ρ S) Q E = Wp (m ρ S) (fun d S1 => Wp (seqQ d S1) Q E) E := Q_bind
theorem Q_seqL {xs : List D} : Wp (seqQ (.lst xs) S) Q E = Q (xs, none) S := rfl
theorem Q_seqT {xs : List D} : Wp (seqQ (.tup xs) S) Q E = Q (xs, none) S := rfl
theorem Q_seqS {z : Str} : Wp (seqQ (.str z) S) Q E = Q (signs z, none) S := rfl
def _root_.PV.r1Q (ds : List D) (S1 : Sto) : Out (List D × Option Nat) := match ds with
  | [.int j] => if near62 j = true then .ok (ups 0 j.toNat, none) S1 else .no
  | _ => .no
def _root_.PV.r2Q (ds : List D) (S1 : Sto) : Out (List D × Option Nat) := match ds with
  | [.int i, .int j] => if near62 i = true ∧ near62 j = true then .ok (ups i (j - i).toNat, none) S1 else .no
  | _ => .no
theorem Q_iR1 : Wp (iR1 ms ρ S) Q E = Wp (ms ρ S) (fun ds S1 => Wp (r1Q ds S1) Q E) E := Q_bind
theorem Q_iR2 : Wp (iR2 ms ρ S) Q E = Wp (ms ρ S) (fun ds S1 => Wp (r2Q ds S1) Q E) E := Q_bind
theorem wp_r1Q {j : Int} (h : near62 j = true) (q : Q (ups 0 j.toNat, none) S) : Wp (r1Q [.int j] S) Q E := by
  unfold r1Q
  simp only [h, if_true]
  exact q
theorem wp_r2Q {i j : Int} (h : near62 i = true) (h' : near62 j = true) (q : Q (ups i (j - i).toNat, none) S) : Wp (r2Q [.int i, .int j] S) Q E := by
  unfold r2Q
  simp only [h, h', and_self, if_true]
  exact q
theorem Q_iEn : Wp (iEn ms ρ S) Q E = Wp (ms ρ S) (fun ds S1 => Wp (enD ds S1) Q E) E := Q_bind
theorem Q_iZp : Wp (iZp ms ρ S) Q E = Wp (ms ρ S) (fun ds S1 => Wp (zpD ds S1) Q E) E := Q_bind
theorem Q_zpl {xs ys : List D} : Wp (zpD [.lst xs, .lst ys] S) Q E = Q (zipD xs ys, none) S := rfl
theorem Q_zpt {xs ys : List D} : Wp (zpD [.tup xs, .tup ys] S) Q E = Q (zipD xs ys, none) S := rfl
end
section
variable {α : Type} {E : XQ} {S : Sto} {ρ : Ev} {Q : D → Sto → Prop} {m : ME} {ms : MA}
def _root_.PV.frzQ (d : D) (S1 : Sto) : Out D := match d with
  | .loc n => match S1[n]? with
    | some (.lst xs) => .ok (.lst xs) (S1.set n .dead)
    | _ => .no
  | _ => .no
theorem Q_frz : Wp (frzE m ρ S) Q E = Wp (m ρ S) (fun d S1 => Wp (frzQ d S1) Q E) E := Q_bind
theorem wp_frzQ {n : Nat} {xs : List D} (h : S[n]? = some (.lst xs)) (q : Q (.lst xs) (S.set n .dead)) : Wp (frzQ (.loc n) S) Q E := by
  unfold frzQ
  simp only [h]
  exact q
def _root_.PV.lnsQ (d : D) (S1 : Sto) : Out D := match d with
  | .lst xs => match asStrs xs with
    | some ys => if ys.Nodup ∧ ys.length < 4000 then .ok (.int ys.length) S1 else .no
    | none => .no
  | _ => .no
theorem Q_lns : Wp (lnsE m ρ S) Q E = Wp (m ρ S) (fun d S1 => Wp (lnsQ d S1) Q E) E := Q_bind
theorem wp_lnsQ {ys : List Str} (h : ys.Nodup) (h2 : ys.length < 4000) (q : Q (.int ys.length) S) : Wp (lnsQ (.lst (ys.map .str)) S) Q E := by
  unfold lnsQ
  simp only [asStrs_map]
  rw [if_pos ⟨h, h2⟩]
  exact q
theorem wp_kd {c : String} {kvs : List (Str × Str)} {z v : Str} (h : kvs.lookup z = some v) (q : Q (.str v) S) : Wp (kdG c kvs (.cls c) (.str z) S) Q E := by
  unfold kdG
  simp only [h, if_true]
  exact q
theorem Q_dc {kvs : List (Str × Cst)} : Wp (dcE kvs ρ S) Q E = Q (.hob (.dK (L2.mergeK [] (kvV kvs)))) S := rfl
theorem Q_iEs {Q : List D × Option Nat → Sto → Prop} : Wp (iEs ms ρ S) Q E = Wp (ms ρ S) (fun ds S1 => Wp (ensD ds S1) Q E) E := Q_bind
theorem Q_ens {Q : List D × Option Nat → Sto → Prop} {z : Str} : Wp (ensD [.str z] S) Q E = Q (numbered 0 (signs z), none) S := rfl
theorem Q_enl {Q : List D × Option Nat → Sto → Prop} {xs : List D} : Wp (enD [.lst xs] S) Q E = Q (numbered 0 xs, none) S := rfl
theorem Q_ent {Q : List D × Option Nat → Sto → Prop} {xs : List D} : Wp (enD [.tup xs] S) Q E = Q (numbered 0 xs, none) S := rfl
end
section
variable {ρ : Ev} {S : Sto} {N : Ev → Sto → Prop} {R : D → Sto → Prop} {B C : Ev → Sto → Prop} {E : XQ} {m o i : ME}
theorem ws_augS {g : G2} (h : Wp (o ρ S) (fun x S1 => Wp (i ρ S1) (fun k S2 => ∃ n j xs y, x = .loc n ∧ k = .int (j : Nat) ∧ S2[n]? = some (.lst xs) ∧ xs[j]? = some y ∧ Wp (m ρ S2) (fun z S3 => Wp (g y z S3) (fun w S4 => ∃ ys, S4[n]? = some (.lst ys) ∧ j < ys.length ∧ N ρ (S4.set n (.lst (ys.set j w)))) E) E) E) E) : Ws (sAugS g o i m ρ S) N R B C E := by
  refine ws_bind (h.imp (fun x S1 q => ws_bind (q.imp (fun k S2 q => ?_) fun _ _ _ q => q)) fun _ _ _ q => q)
  obtain ⟨n, j, xs, y, rfl, rfl, h1, h2, q⟩ := q
  simp only [h1, Int.natCast_nonneg, if_true, Int.toNat_natCast, h2]
  refine ws_bind (q.imp (fun z S3 q => ws_bind (q.imp (fun w S4 q => ?_) fun _ _ _ q => q)) fun _ _ _ q => q)
  obtain ⟨ys, h3, h4, q⟩ := q
  simp only [h3, h4, if_true]
  exact q
end
end PVZ
set_option Elab.async false
set_option linter.all false
set_option maxRecDepth 100000
set_option maxHeartbeats 4000000
/-! the rules of Q0 and Q1, over words that are not unfolded -/
namespace PV
open PySem
@[irreducible] def Wp {α : Type} (o : Out α) (Q : α → Sto → Prop) (E : XQ) (t : Tag (Q, E) := .mk) : Prop := PVZ.Wp o Q E t
@[irreducible] def Ws (o : Out Fl) (N : Ev → Sto → Prop) (R : D → Sto → Prop) (B C : Ev → Sto → Prop) (E : XQ) (t : Tag (N, R, B, C, E) := .mk) : Prop := PVZ.Ws o N R B C E t
section
variable {α β : Type} {o : Out α} {Q Q' : α → Sto → Prop} {E E' : XQ}
theorem Wp.imp (h : Wp o Q E) (i : ∀ a S, Q a S → Q' a S) (j : ∀ c fs S, E c fs S → E' c fs S) : Wp o Q' E' := by with_unfolding_all exact PVZ.Wp.imp h i j
theorem wp_ok {a : α} {S : Sto} (h : Q a S) : Wp (.ok a S) Q E := by with_unfolding_all exact PVZ.wp_ok h
theorem wp_ex {c : String} {fs : List (String × D)} {S : Sto} (h : E c fs S) : Wp (.ex c fs S) Q E := by with_unfolding_all exact PVZ.wp_ex h
theorem wp_eq {a : α} {S : Sto} (e : o = .ok a S) (h : Q a S) : Wp o Q E := by with_unfolding_all exact PVZ.wp_eq e h
theorem wp_exq {c : String} {fs : List (String × D)} {S : Sto} (e : o = .ex c fs S) (h : E c fs S) : Wp o Q E := by with_unfolding_all exact PVZ.wp_exq e h
theorem Wp.of {o : Out α} (h : Wp o Q fun _ _ _ => False) : ∃ a S, o = .ok a S ∧ Q a S := by with_unfolding_all exact PVZ.Wp.of h
theorem wp_bind {k : α → Sto → Out β} {R : β → Sto → Prop} (h : Wp o (fun a S => Wp (k a S) R E) E) : Wp (o.bind k) R E := by with_unfolding_all exact PVZ.wp_bind h
theorem ws_bind {k : α → Sto → Out Fl} {N : Ev → Sto → Prop} {R : D → Sto → Prop} {B C : Ev → Sto → Prop} (h : Wp o (fun a S => Ws (k a S) N R B C E) E) : Ws (o.bind k) N R B C E := by with_unfolding_all exact PVZ.ws_bind h
theorem Ws.imp {o : Out Fl} {N N' : Ev → Sto → Prop} {R R' : D → Sto → Prop} {B B' C C' : Ev → Sto → Prop} (h : Ws o N R B C E) (i : ∀ ρ S, N ρ S → N' ρ S) (j : ∀ d S, R d S → R' d S) (b : ∀ ρ S, B ρ S → B' ρ S) (c : ∀ ρ S, C ρ S → C' ρ S) (e : ∀ c fs S, E c fs S → E' c fs S) : Ws o N' R' B' C' E' := by with_unfolding_all exact PVZ.Ws.imp h i j b c e
end
theorem ex1 {α : Type} {p q : α → Prop} {a : α} (h : p a) (h2 : q a) : ∃ a, p a ∧ q a := by with_unfolding_all exact PVZ.ex1 h h2
theorem ex2 {α β : Type} {p q : α → β → Prop} {a : α} {b : β} (h : p a b) (h2 : q a b) : ∃ a b, p a b ∧ q a b := by with_unfolding_all exact PVZ.ex2 h h2
theorem ex3 {α β γ : Type} {p q : α → β → γ → Prop} {a : α} {b : β} {c : γ} (h : p a b c) (h2 : q a b c) : ∃ a b c, p a b c ∧ q a b c := by with_unfolding_all exact PVZ.ex3 h h2
theorem ex4 {α β γ δ : Type} {p q : α → β → γ → δ → Prop} {a : α} {b : β} {c : γ} {d : δ} (h : p a b c d) (h2 : q a b c d) : ∃ a b c d, p a b c d ∧ q a b c d := by with_unfolding_all exact PVZ.ex4 h h2
section
variable {ρ : Ev} {S : Sto} {Q : D → Sto → Prop} {E : XQ} {a b c : ME} {d : D}
theorem wp_v {i : Nat} (h : ρ[i]? = some (some d)) (q : Q d S) : Wp (v i ρ S) Q E := by with_unfolding_all exact PVZ.wp_v h q
theorem wp_k (q : Q d S) : Wp (k d ρ S) Q E := by with_unfolding_all exact PVZ.wp_k q
theorem wp_bin {g : G2} (h : Wp (a ρ S) (fun x S1 => Wp (b ρ S1) (fun y S2 => Wp (g x y S2) Q E) E) E) : Wp (bin g a b ρ S) Q E := by with_unfolding_all exact PVZ.wp_bin h
theorem wp_una {g : G1} (h : Wp (a ρ S) (fun x S1 => Wp (g x S1) Q E) E) : Wp (una g a ρ S) Q E := by with_unfolding_all exact PVZ.wp_una h
theorem wp_cal {F : Fn} {ms : MA} (h : Wp (ms ρ S) (fun ds S1 => Wp (F ds S1) Q E) E) : Wp (cal F ms ρ S) Q E := by with_unfolding_all exact PVZ.wp_cal h
theorem wp_nil {Q : List D → Sto → Prop} (q : Q [] S) : Wp (aNil ρ S) Q E := by with_unfolding_all exact PVZ.wp_nil q
theorem wp_cons {Q : List D → Sto → Prop} {ms : MA} (h : Wp (a ρ S) (fun x S1 => Wp (ms ρ S1) (fun ds S2 => Q (x :: ds) S2) E) E) : Wp (aCons a ms ρ S) Q E := by with_unfolding_all exact PVZ.wp_cons h
theorem wp_star {Q : List D → Sto → Prop} {ms : MA} (h : Wp (a ρ S) (fun x S1 => ∃ xs, (x = .lst xs ∨ x = .tup xs ∨ ∃ n, x = .loc n ∧ S1[n]? = some (.lst xs)) ∧ Wp (ms ρ S1) (fun ds S2 => Q (xs ++ ds) S2) E) E) : Wp (aStar a ms ρ S) Q E := by with_unfolding_all exact PVZ.wp_star h
theorem wp_tst {Q : Bool → Sto → Prop} (h : Wp (a ρ S) (fun x S1 => ∃ b, x = .bl b ∧ Q b S1) E) : Wp (tst a ρ S) Q E := by with_unfolding_all exact PVZ.wp_tst h
theorem wp_tru {Q : Bool → Sto → Prop} (h : Wp (a ρ S) (fun x S1 => ∃ b, truD x = some b ∧ Q b S1) E) : Wp (tru a ρ S) Q E := by with_unfolding_all exact PVZ.wp_tru h
variable {t u : MT}
theorem wp_no {Q : Bool → Sto → Prop} (h : Wp (t ρ S) (fun c S1 => Q (!c) S1) E) : Wp (tNo t ρ S) Q E := by with_unfolding_all exact PVZ.wp_no h
theorem wp_an {Q : Bool → Sto → Prop} (h : Wp (t ρ S) (fun c S1 => Wp (if c = true then u ρ S1 else .ok false S1) Q E) E) : Wp (tAn t u ρ S) Q E := by with_unfolding_all exact PVZ.wp_an h
theorem wp_or {Q : Bool → Sto → Prop} (h : Wp (t ρ S) (fun c S1 => Wp (if c = true then .ok true S1 else u ρ S1) Q E) E) : Wp (tOr t u ρ S) Q E := by with_unfolding_all exact PVZ.wp_or h
theorem wp_ifE (h : Wp (t ρ S) (fun c S1 => Wp (if c = true then a ρ S1 else b ρ S1) Q E) E) : Wp (ifE t a b ρ S) Q E := by with_unfolding_all exact PVZ.wp_ifE h
theorem wp_anE (h : Wp (a ρ S) (fun d S1 => ∃ c, d = .bl c ∧ Wp (if c = true then b ρ S1 else .ok (.bl false) S1) Q E) E) : Wp (anE a b ρ S) Q E := by with_unfolding_all exact PVZ.wp_anE h
theorem wp_orE (h : Wp (a ρ S) (fun d S1 => ∃ c, d = .bl c ∧ Wp (if c = true then .ok (.bl true) S1 else b ρ S1) Q E) E) : Wp (orE a b ρ S) Q E := by with_unfolding_all exact PVZ.wp_orE h
theorem wp_noE (h : Wp (a ρ S) (fun d S1 => ∃ c, d = .bl c ∧ Q (.bl (!c)) S1) E) : Wp (noE a ρ S) Q E := by with_unfolding_all exact PVZ.wp_noE h
theorem wp_chn {g g' : G2} (h : Wp (a ρ S) (fun x S1 => Wp (b ρ S1) (fun y S2 => Wp (g x y S2) (fun z S3 => ∃ t, z = .bl t ∧ Wp (if t = true then (c ρ S3).bind fun u S4 => g' y u S4 else .ok (.bl false) S3) Q E) E) E) E) : Wp (chn g g' a b c ρ S) Q E := by with_unfolding_all exact PVZ.wp_chn h
theorem wp_t {α : Type} {x : Bool} {o o' : Out α} {Q : α → Sto → Prop} (h : x = true) (q : Wp o Q E) : Wp (if x = true then o else o') Q E := by with_unfolding_all exact PVZ.wp_t h q
theorem wp_f {α : Type} {x : Bool} {o o' : Out α} {Q : α → Sto → Prop} (h : x = false) (q : Wp o' Q E) : Wp (if x = true then o else o') Q E := by with_unfolding_all exact PVZ.wp_f h q
theorem wp_tup {ms : MA} (h : Wp (ms ρ S) (fun ds S1 => ds.length ≤ 1000 ∧ Q (.tup ds) S1) E) : Wp (tupE ms ρ S) Q E := by with_unfolding_all exact PVZ.wp_tup h
theorem wp_lst {ms : MA} (h : Wp (ms ρ S) (fun ds S1 => ds.length ≤ 1000 ∧ Q (.lst ds) S1) E) : Wp (lstE ms ρ S) Q E := by with_unfolding_all exact PVZ.wp_lst h
theorem wp_lstM {ms : MA} (h : Wp (ms ρ S) (fun ds S1 => ds.length ≤ 1000 ∧ Q (.loc S1.length) (S1 ++ [.lst ds])) E) : Wp (lstM ms ρ S) Q E := by with_unfolding_all exact PVZ.wp_lstM h
theorem wp_cm {c : String} {F : Fn} {ms : MA} (h : Wp (a ρ S) (fun x S1 => x = .cls c ∧ Wp (ms ρ S1) (fun ds S2 => Wp (F (x :: ds) S2) Q E) E) E) : Wp (cmE c F a ms ρ S) Q E := by with_unfolding_all exact PVZ.wp_cm h
theorem wp_sm {c : String} {F : Fn} {ms : MA} (h : Wp (a ρ S) (fun x S1 => x = .cls c ∧ Wp (ms ρ S1) (fun ds S2 => Wp (F ds S2) Q E) E) E) : Wp (smE c F a ms ρ S) Q E := by with_unfolding_all exact PVZ.wp_sm h
theorem wp_mt {τ : List (String × Fn)} {n : String} {ms : MA} (h : Wp (a ρ S) (fun x S1 => ∃ c fs F, insOf S1 x = some (c, fs) ∧ τ.lookup c = some F ∧ fs.lookup n = none ∧ Wp (ms ρ S1) (fun ds S2 => Wp (F (x :: ds) S2) Q E) E) E) : Wp (mtO τ n a ms ρ S) Q E := by with_unfolding_all exact PVZ.wp_mt h
theorem wp_mtK {c : String} {n : String} {m : Nat} {F : Fn} {ms : MA} (h : Wp (a ρ S) (fun x S1 => ∃ fs, insOf S1 x = some (c, fs) ∧ fs.lookup n = none ∧ Wp (ms ρ S1) (fun ds S2 => ds.length = m ∧ Wp (F (x :: ds) S2) Q E) E) E) : Wp (mtK c n m F a ms ρ S) Q E := by with_unfolding_all exact PVZ.wp_mtK h
theorem wp_mthL {g : D → List D → Sto → Out D} {ms : MA} (h : Wp (a ρ S) (fun x S1 => isLoc S1 x = true ∧ Wp (ms ρ S1) (fun ds S2 => Wp (g x ds S2) Q E) E) E) : Wp (mthL g a ms ρ S) Q E := by with_unfolding_all exact PVZ.wp_mthL h
theorem wp_mthS {g : G2} (h : Wp (a ρ S) (fun x S1 => isStr x = true ∧ Wp (b ρ S1) (fun y S2 => Wp (g x y S2) Q E) E) E) : Wp (mthS g a b ρ S) Q E := by with_unfolding_all exact PVZ.wp_mthS h
theorem wp_ofLen {n : Nat} {F : Fn} {ds : List D} (h : ds.length = n) (q : Wp (F ds S) Q E) : Wp (ofLen n F ds S) Q E := by with_unfolding_all exact PVZ.wp_ofLen h q
theorem wp_kw {idx : List Nat} {dds ds es : List D} {F : Fn} (h : pickL idx (ds ++ dds) = es) (q : Wp (F es S) Q E) : Wp (kwF idx dds F ds S) Q E := by with_unfolding_all exact PVZ.wp_kw h q
theorem wp_sli {l m : MO} (h : Wp (a ρ S) (fun x S1 => Wp (l ρ S1) (fun lo S2 => Wp (m ρ S2) (fun hi S3 => Wp (slG x lo hi S3) Q E) E) E) E) : Wp (sli a l m ρ S) Q E := by with_unfolding_all exact PVZ.wp_sli h
theorem wp_oNo {Q : Option Int → Sto → Prop} (q : Q none S) : Wp (oNo ρ S) Q E := by with_unfolding_all exact PVZ.wp_oNo q
theorem wp_oSo {Q : Option Int → Sto → Prop} (h : Wp (a ρ S) (fun x S1 => ∃ i, x = .int i ∧ Q (some i) S1) E) : Wp (oSo a ρ S) Q E := by with_unfolding_all exact PVZ.wp_oSo h
theorem wp_add {i j : Int} (q : Q (.int (i + j)) S) : Wp (addG (.int i) (.int j) S) Q E := by with_unfolding_all exact PVZ.wp_add q
theorem wp_addI {i j : Int} (q : Q (.int (i + j)) S) : Wp (addI (.int i) (.int j) S) Q E := by with_unfolding_all exact PVZ.wp_addI q
theorem wp_sub {i j : Int} (q : Q (.int (i - j)) S) : Wp (subG (.int i) (.int j) S) Q E := by with_unfolding_all exact PVZ.wp_sub q
theorem wp_neg {i : Int} (q : Q (.int (-i)) S) : Wp (negG (.int i) S) Q E := by with_unfolding_all exact PVZ.wp_neg q
theorem wp_mul {i j : Int} (h : mulOk i j = true) (q : Q (.int (i * j)) S) : Wp (mulG (.int i) (.int j) S) Q E := by with_unfolding_all exact PVZ.wp_mul h q
theorem wp_mulT {i j : Int} (h : mulOk i j = true) (q : Q (.int (i * j)) S) : Wp (mulT (.int i) (.int j) S) Q E := by with_unfolding_all exact PVZ.wp_mulT h q
theorem wp_fdiv {i j : Int} (h : divOk j = true) (q : Q (.int (i / j)) S) : Wp (fdivG (.int i) (.int j) S) Q E := by with_unfolding_all exact PVZ.wp_fdiv h q
theorem wp_mod {i j : Int} (h : 0 < j) (q : Q (.int (i % j)) S) : Wp (modG (.int i) (.int j) S) Q E := by with_unfolding_all exact PVZ.wp_mod h q
theorem wp_pow {i j : Int} (h : powOk i j = true) (q : Q (.int (i ^ j.toNat)) S) : Wp (powG (.int i) (.int j) S) Q E := by with_unfolding_all exact PVZ.wp_pow h q
theorem wp_eqI {i j : Int} (q : Q (.bl (decide (i = j))) S) : Wp (eqG false (.int i) (.int j) S) Q E := by with_unfolding_all exact PVZ.wp_eqI q
theorem wp_neI {i j : Int} (q : Q (.bl (!decide (i = j))) S) : Wp (eqG true (.int i) (.int j) S) Q E := by with_unfolding_all exact PVZ.wp_neI q
theorem wp_eqv {x y : D} {e n : Bool} (h : eqD x y = some e) (q : Q (.bl (n ^^ e)) S) : Wp (eqG n x y S) Q E := by with_unfolding_all exact PVZ.wp_eqv h q
theorem wp_lt {i j : Int} (q : Q (.bl (decide (i < j))) S) : Wp (ltG (.int i) (.int j) S) Q E := by with_unfolding_all exact PVZ.wp_lt q
theorem wp_le {i j : Int} (q : Q (.bl (decide (i ≤ j))) S) : Wp (leG (.int i) (.int j) S) Q E := by with_unfolding_all exact PVZ.wp_le q
theorem wp_gt {i j : Int} (q : Q (.bl (decide (j < i))) S) : Wp (gtG (.int i) (.int j) S) Q E := by with_unfolding_all exact PVZ.wp_gt q
theorem wp_ge {i j : Int} (q : Q (.bl (decide (j ≤ i))) S) : Wp (geG (.int i) (.int j) S) Q E := by with_unfolding_all exact PVZ.wp_ge q
theorem wp_isN {x : D} {n : Bool} (q : Q (.bl (n ^^ isNon x)) S) : Wp (isG n x .non S) Q E := by with_unfolding_all exact PVZ.wp_isN q
theorem wp_int {i : Int} (q : Q (.int i) S) : Wp (intB [.int i] S) Q E := by with_unfolding_all exact PVZ.wp_int q
theorem wp_intb {b : Bool} (q : Q (.int (if b = true then 1 else 0)) S) : Wp (intB [.bl b] S) Q E := by with_unfolding_all exact PVZ.wp_intb q
theorem wp_abs {i : Int} (q : Q (.int (if i < 0 then -i else i)) S) : Wp (absB [.int i] S) Q E := by with_unfolding_all exact PVZ.wp_abs q
theorem wp_ixl {xs : List D} {i : Int} {x : D} (h : L2.atI xs i = some x) (q : Q x S) : Wp (ixG (.lst xs) (.int i) S) Q E := by with_unfolding_all exact PVZ.wp_ixl h q
theorem wp_ixt {xs : List D} {i : Int} {x : D} (h : L2.atI xs i = some x) (q : Q x S) : Wp (ixG (.tup xs) (.int i) S) Q E := by with_unfolding_all exact PVZ.wp_ixt h q
theorem wp_lenl {xs : List D} (q : Q (.int xs.length) S) : Wp (lenB [.lst xs] S) Q E := by with_unfolding_all exact PVZ.wp_lenl q
theorem wp_lent {xs : List D} (q : Q (.int xs.length) S) : Wp (lenB [.tup xs] S) Q E := by with_unfolding_all exact PVZ.wp_lent q
theorem wp_tupl {xs : List D} (q : Q (.tup xs) S) : Wp (tupB [.lst xs] S) Q E := by with_unfolding_all exact PVZ.wp_tupl q
theorem wp_tupt {xs : List D} (q : Q (.tup xs) S) : Wp (tupB [.tup xs] S) Q E := by with_unfolding_all exact PVZ.wp_tupt q
theorem wp_listt {xs : List D} (q : Q (.lst xs) S) : Wp (listB [.tup xs] S) Q E := by with_unfolding_all exact PVZ.wp_listt q
theorem wp_listl {xs : List D} (q : Q (.lst xs) S) : Wp (listB [.lst xs] S) Q E := by with_unfolding_all exact PVZ.wp_listl q
theorem wp_fld {cs : List String} {f : String} {x y : D} {c : String} {fs : List (String × D)} (h1 : insOf S x = some (c, fs)) (h2 : cs.contains c = true) (h3 : fs.lookup f = some y) (q : Q y S) : Wp (fldG cs f x S) Q E := by with_unfolding_all exact PVZ.wp_fld h1 h2 h3 q
theorem wp_mkF {c : String} {F : Fn} {ds : List D} (h : Wp (F (.loc S.length :: ds) (S ++ [.ins c []])) (fun d S2 => d = .non ∧ ∃ fs, S2[S.length]? = some (.ins c fs) ∧ Wp (gcO S (.ok (.obj c fs) (S2.set S.length .dead))) Q E) (fun x fs S2 => Wp (gcO S (.ex x fs S2)) Q E)) : Wp (mkF c F ds S) Q E := by with_unfolding_all exact PVZ.wp_mkF h
theorem gc_new {c : String} {d : D} {T : Sto} (hd : d.und S.length = true) (q : Q d S) : Wp (gcO S (.ok d ((S ++ [Cell.ins c []]).set S.length Cell.dead ++ T))) Q E := by with_unfolding_all exact PVZ.gc_new hd q
theorem wp_mkF_of {c : String} {F : Fn} {ds : List D} {fs : List (String × D)} (hF : F (.loc S.length :: ds) (S ++ [Cell.ins c []]) = .ok .non ((S ++ [Cell.ins c []]).set S.length (Cell.ins c fs))) (hd : belowf S.length fs = true) (q : Q (.obj c fs) S) : Wp (mkF c F ds S) Q E := by with_unfolding_all exact PVZ.wp_mkF_of hF hd q
theorem mkF_of {c : String} {F : Fn} {ds : List D} {fs : List (String × D)} (hF : F (.loc S.length :: ds) (S ++ [Cell.ins c []]) = .ok .non ((S ++ [Cell.ins c []]).set S.length (Cell.ins c fs))) (hd : belowf S.length fs = true) : mkF c F ds S = .ok (.obj c fs) S := by with_unfolding_all exact PVZ.mkF_of hF hd
theorem wp_isi {ans : Ty → Option Bool} {cls : D → Bool} {ds : List D} {b : Bool} (h : isiF ans cls ds S = .ok (.bl b) S) (q : Q (.bl b) S) : Wp (isiF ans cls ds S) Q E := by with_unfolding_all exact PVZ.wp_isi h q
theorem wp_isiA {Ts cs : List String} (h : Wp (a ρ S) (fun x S1 => ∃ t, tyD S1 x = some t ∧ (match t with | .b n => Q (.bl (Ts.any fun T => subT n T)) S1 | .c n => cs.contains n = true ∧ Q (.bl false) S1)) E) : Wp (isiA Ts cs a ρ S) Q E := by with_unfolding_all exact PVZ.wp_isiA h
theorem wp_onlyB {o : Out D} (h : Wp o (fun d S => ∃ b, d = .bl b ∧ Q (.bl b) S) E) : Wp (onlyB o) Q E := by with_unfolding_all exact PVZ.wp_onlyB h
theorem wp_notB {o : Out D} (h : Wp o (fun d S => ∃ b, d = .bl b ∧ Q (.bl (!b)) S) E) : Wp (notB o) Q E := by with_unfolding_all exact PVZ.wp_notB h
end
section
variable {ρ : Ev} {S : Sto} {N : Ev → Sto → Prop} {R : D → Sto → Prop} {B C : Ev → Sto → Prop} {E : XQ} {a b : MS} {m o : ME} {t : MT}
theorem ws_seq (h : Ws (a ρ S) (fun ρ' S' => Ws (b ρ' S') N R B C E) R B C E) : Ws (sSeq a b ρ S) N R B C E := by with_unfolding_all exact PVZ.ws_seq h
theorem ws_nil (q : N ρ S) : Ws (sNil ρ S) N R B C E := by with_unfolding_all exact PVZ.ws_nil q
theorem ws_ret (h : Wp (m ρ S) R E) : Ws (sRet m ρ S) N R B C E := by with_unfolding_all exact PVZ.ws_ret h
theorem ws_retN (h : R .non S) : Ws (sRetN ρ S) N R B C E := by with_unfolding_all exact PVZ.ws_retN h
theorem ws_exp (h : Wp (m ρ S) (fun _ S1 => N ρ S1) E) : Ws (sExp m ρ S) N R B C E := by with_unfolding_all exact PVZ.ws_exp h
theorem ws_set {i : Nat} (h : Wp (m ρ S) (fun d S1 => N (ρ.set i (some d)) S1) E) : Ws (sSet i m ρ S) N R B C E := by with_unfolding_all exact PVZ.ws_set h
theorem ws_if (h : Wp (t ρ S) (fun c S1 => Ws (if c = true then a ρ S1 else b ρ S1) N R B C E) E) : Ws (sIf t a b ρ S) N R B C E := by with_unfolding_all exact PVZ.ws_if h
theorem ws_brk (q : B ρ S) : Ws (sBrk ρ S) N R B C E := by with_unfolding_all exact PVZ.ws_brk q
theorem ws_cnt (q : C ρ S) : Ws (sCnt ρ S) N R B C E := by with_unfolding_all exact PVZ.ws_cnt q
theorem ws_t {x : Bool} {o o' : Out Fl} (h : x = true) (q : Ws o N R B C E) : Ws (if x = true then o else o') N R B C E := by with_unfolding_all exact PVZ.ws_t h q
theorem ws_f {x : Bool} {o o' : Out Fl} (h : x = false) (q : Ws o' N R B C E) : Ws (if x = true then o else o') N R B C E := by with_unfolding_all exact PVZ.ws_f h q
theorem ws_par {i j : Nat} {ms : MA} (h : Wp (ms ρ S) (fun ds S1 => ∃ x y, ds = [x, y] ∧ N ((ρ.set i (some x)).set j (some y)) S1) E) : Ws (sPar i j ms ρ S) N R B C E := by with_unfolding_all exact PVZ.ws_par h
theorem ws_asg {T : Tg} (h : Wp (m ρ S) (fun d S1 => ∃ ρ', setT T d ρ = some ρ' ∧ N ρ' S1) E) : Ws (sAsg T m ρ S) N R B C E := by with_unfolding_all exact PVZ.ws_asg h
theorem ws_aug {i : Nat} {g : G2} {x : D} (h0 : ρ[i]? = some (some x)) (h : Wp (m ρ S) (fun y S1 => Wp (g x y S1) (fun z S2 => N (ρ.set i (some z)) S2) E) E) : Ws (sAug i g m ρ S) N R B C E := by with_unfolding_all exact PVZ.ws_aug h0 h
theorem ws_fld {cs : List String} {f : String} (h : Wp (m ρ S) (fun y S1 => Wp (o ρ S1) (fun x S2 => ∃ n c fs, x = .loc n ∧ S2[n]? = some (.ins c fs) ∧ (cs.contains c = true ∧ fs.length < 1000) ∧ N ρ (S2.set n (.ins c (putD f y fs)))) E) E) : Ws (sFldS cs f o m ρ S) N R B C E := by with_unfolding_all exact PVZ.ws_fld h
theorem ws_sub {i : ME} (h : Wp (m ρ S) (fun y S1 => Wp (o ρ S1) (fun x S2 => Wp (i ρ S2) (fun k S3 => ∃ n j xs l, x = .loc n ∧ k = .int j ∧ S3[n]? = some (.lst xs) ∧ L2.ixN xs.length j = some l ∧ N ρ (S3.set n (.lst (xs.set l y)))) E) E) E) : Ws (sSub o i m ρ S) N R B C E := by with_unfolding_all exact PVZ.ws_sub h
theorem ws_forL {T : Tg} {g : Option Nat} {all : List D} (I : Nat → Ev → Sto → Prop) (hg : ∀ j ρ S, I j ρ S → Gd g all S) : ∀ (xs : List D) (i : Nat) (ρ : Ev) (S : Sto), (∀ j x, xs[j]? = some x → ∀ ρ S, I (i + j) ρ S → ∃ ρ1, setT T x ρ = some ρ1 ∧ Ws (b ρ1 S) (I (i + j + 1)) R N (I (i + j + 1)) E) → (∀ ρ S, I (i + xs.length) ρ S → N ρ S) → I i ρ S → Ws (forL T b g all xs ρ S) N R B C E := by with_unfolding_all exact PVZ.ws_forL I hg
theorem ws_for {T : Tg} {it : MI} (I : Nat → Ev → Sto → Prop) (h : Wp (it ρ S) (fun p S1 => (∀ j ρ S, I j ρ S → Gd p.2 p.1 S) ∧ I 0 ρ S1 ∧ (∀ j x, p.1[j]? = some x → ∀ ρ S, I j ρ S → ∃ ρ1, setT T x ρ = some ρ1 ∧ Ws (b ρ1 S) (I (j + 1)) R N (I (j + 1)) E) ∧ (∀ ρ S, I p.1.length ρ S → N ρ S)) E) : Ws (sFor T it b ρ S) N R B C E := by with_unfolding_all exact PVZ.ws_for I h
theorem ws_whl (I : Nat → Ev → Sto → Prop) (n : Nat) (h0 : I n ρ S) (hs : ∀ m ρ S, I m ρ S → Wp (t ρ S) (fun c S1 => (c = true → Ws (b ρ S1) (fun ρ' S' => ∃ m', m' < m ∧ I m' ρ' S') R N (fun ρ' S' => ∃ m', m' < m ∧ I m' ρ' S') E) ∧ (c = false → N ρ S1)) E) : Ws (sWhl t b ρ S) N R B C E := by with_unfolding_all exact PVZ.ws_whl I n h0 hs
theorem wp_lcL {T : Tg} {e : ME} {g : Option Nat} {all : List D} (I : Nat → List D → Sto → Prop) (hg : ∀ j acc S, I j acc S → Gd g all S) : ∀ (xs : List D) (i : Nat) (acc : List D) (S : Sto), (∀ j x, xs[j]? = some x → ∀ acc S, I (i + j) acc S → ∃ ρ1, setT T x ρ = some ρ1 ∧ Wp (t ρ1 S) (fun c S1 => (c = true → Wp (e ρ1 S1) (fun d S2 => I (i + j + 1) (acc ++ [d]) S2) fun _ _ _ => False) ∧ (c = false → I (i + j + 1) acc S1)) fun _ _ _ => False) → I i acc S → ∃ ds S', lcL T t e g all ρ xs S = .ok ds S' ∧ I (i + xs.length) (acc ++ ds) S' := by with_unfolding_all exact PVZ.wp_lcL I hg
theorem wp_lcO {T : Tg} {it : MI} {e : ME} {Q : List D → Sto → Prop} (I : Nat → List D → Sto → Prop) (h : Wp (it ρ S) (fun p S1 => p.1.length ≤ 1000 ∧ (∀ j acc S, I j acc S → Gd p.2 p.1 S) ∧ I 0 [] S1 ∧ (∀ j x, p.1[j]? = some x → ∀ acc S, I j acc S → ∃ ρ1, setT T x (wipeD ρ T.slots) = some ρ1 ∧ Wp (t ρ1 S) (fun c S1 => (c = true → Wp (e ρ1 S1) (fun d S2 => I (j + 1) (acc ++ [d]) S2) fun _ _ _ => False) ∧ (c = false → I (j + 1) acc S1)) fun _ _ _ => False) ∧ ∀ ds S, I p.1.length ds S → Q ds S) E) : Wp (lcO T it t e ρ S) Q E := by with_unfolding_all exact PVZ.wp_lcO I h
theorem wp_lcE {T : Tg} {it : MI} {e : ME} {Q : D → Sto → Prop} (h : Wp (lcO T it t e ρ S) (fun ds S1 => Q (.lst ds) S1) E) : Wp (lcE T it t e ρ S) Q E := by with_unfolding_all exact PVZ.wp_lcE h
theorem wp_lcM {T : Tg} {it : MI} {e : ME} {Q : D → Sto → Prop} (h : Wp (lcO T it t e ρ S) (fun ds S1 => Q (.loc S1.length) (S1 ++ [.lst ds])) E) : Wp (lcM T it t e ρ S) Q E := by with_unfolding_all exact PVZ.wp_lcM h
theorem wp_iSeq {Q : List D × Option Nat → Sto → Prop} (h : Wp (m ρ S) (fun d S1 => ∃ p, itemsI S1 d = some p ∧ Q p S1) E) : Wp (iSeq m ρ S) Q E := by with_unfolding_all exact PVZ.wp_iSeq h
theorem wp_iSgn {Q : List D × Option Nat → Sto → Prop} (h : Wp (m ρ S) (fun d S1 => ∃ z, d = .str z ∧ Q (signs z, none) S1) E) : Wp (iSgn m ρ S) Q E := by with_unfolding_all exact PVZ.wp_iSgn h
theorem wp_iR1 {ms : MA} {Q : List D × Option Nat → Sto → Prop} (h : Wp (ms ρ S) (fun ds S1 => ∃ j, ds = [.int j] ∧ near62 j = true ∧ Q (ups 0 j.toNat, none) S1) E) : Wp (iR1 ms ρ S) Q E := by with_unfolding_all exact PVZ.wp_iR1 h
theorem wp_iR2 {ms : MA} {Q : List D × Option Nat → Sto → Prop} (h : Wp (ms ρ S) (fun ds S1 => ∃ i j, ds = [.int i, .int j] ∧ near62 i = true ∧ near62 j = true ∧ Q (ups i (j - i).toNat, none) S1) E) : Wp (iR2 ms ρ S) Q E := by with_unfolding_all exact PVZ.wp_iR2 h
theorem wp_zpl {xs ys : List D} {Q : List D × Option Nat → Sto → Prop} (q : Q (zipD xs ys, none) S) : Wp (zpD [.lst xs, .lst ys] S) Q E := by with_unfolding_all exact PVZ.wp_zpl q
theorem wp_zpt {xs ys : List D} {Q : List D × Option Nat → Sto → Prop} (q : Q (zipD xs ys, none) S) : Wp (zpD [.tup xs, .tup ys] S) Q E := by with_unfolding_all exact PVZ.wp_zpt q
theorem wp_iEn {ms : MA} {Q : List D × Option Nat → Sto → Prop} (h : Wp (ms ρ S) (fun ds S1 => Wp (enD ds S1) Q E) E) : Wp (iEn ms ρ S) Q E := by with_unfolding_all exact PVZ.wp_iEn h
theorem wp_iZp {ms : MA} {Q : List D × Option Nat → Sto → Prop} (h : Wp (ms ρ S) (fun ds S1 => Wp (zpD ds S1) Q E) E) : Wp (iZp ms ρ S) Q E := by with_unfolding_all exact PVZ.wp_iZp h
end
section
variable {S : Sto} {Q : D → Sto → Prop} {E : XQ}
def Gq (S : Sto) (Q : D → Sto → Prop) (E : XQ) (d : D) (S' : Sto) : Prop := Wp (gcO S (.ok d S')) Q E
def Gx (S : Sto) (Q : D → Sto → Prop) (E : XQ) : XQ := fun c fs S' => Wp (gcO S (.ex c fs S')) Q E
theorem gq_len {d : D} {S' : Sto} (h : S'.length = S.length) (q : Q d S') : Gq S Q E d S' := by with_unfolding_all exact PVZ.gq_len h q
theorem gq_same {d : D} (q : Q d S) : Gq S Q E d S := by with_unfolding_all exact PVZ.gq_same q
theorem gq_app {d : D} {T : Sto} (h : d.und S.length = true) (q : Q d S) : Gq S Q E d (S ++ T) := by with_unfolding_all exact PVZ.gq_app h q
theorem gx_same {c : String} {fs : List (String × D)} (q : E c fs S) : Gx S Q E c fs S := by with_unfolding_all exact PVZ.gx_same q
theorem gx_len {c : String} {fs : List (String × D)} {S' : Sto} (h : S'.length = S.length) (q : E c fs S') : Gx S Q E c fs S' := by with_unfolding_all exact PVZ.gx_len h q
theorem gx_app {c : String} {fs : List (String × D)} {T : Sto} (h : belowf S.length fs = true) (q : E c fs S) : Gx S Q E c fs (S ++ T) := by with_unfolding_all exact PVZ.gx_app h q
theorem wp_dfn {np n : Nat} {b : MS} {ds : List D} (hl : ds.length = np) (h : Ws (b (ds.map some ++ List.replicate (n - np) none) S) (fun _ S' => Gq S Q E .non S') (Gq S Q E) (fun _ _ => False) (fun _ _ => False) (Gx S Q E)) : Wp (dfn np n b ds S) Q E := by with_unfolding_all exact PVZ.wp_dfn hl h
theorem wp_dfnD {np n : Nat} {b : MS} {dds ds : List D} (h : Wp (dfn np n b (ds ++ dds.drop (dds.length - (np - ds.length))) S) Q E) : Wp (dfnD np n b dds ds S) Q E := by with_unfolding_all exact PVZ.wp_dfnD h
theorem wp_dfnV {np n : Nat} {b : MS} {ds : List D} (hl : np ≤ ds.length) (hl2 : ds.length ≤ 1000) (h : Wp (dfn (np + 1) n b (ds.take np ++ [.tup (ds.drop np)]) S) Q E) : Wp (dfnV np n b ds S) Q E := by with_unfolding_all exact PVZ.wp_dfnV hl hl2 h
theorem wp_itemsF {g : Fn} {m : ME} {ρ : Ev} (h : Wp (m ρ S) (fun d S1 => ∃ xs, (d = .lst xs ∨ d = .tup xs ∨ ∃ n, d = .loc n ∧ S1[n]? = some (.lst xs)) ∧ Wp (g xs S1) Q E) E) : Wp (itemsF g m ρ S) Q E := by with_unfolding_all exact PVZ.wp_itemsF h
end
theorem Wp_Q {α : Type} {o : Out α} {Q Q' : α → Sto → Prop} {E : XQ} (h : ∀ a S, Q a S = Q' a S) : Wp o Q E = Wp o Q' E := by with_unfolding_all exact PVZ.Wp_Q h
section
variable {α β : Type} {E : XQ} {S : Sto} {ρ : Ev}
theorem Q_bind {o : Out α} {k : α → Sto → Out β} {Q : β → Sto → Prop} : Wp (o.bind k) Q E = Wp o (fun a S => Wp (k a S) Q E) E := by with_unfolding_all exact PVZ.Q_bind
theorem Q_sbind {o : Out α} {k : α → Sto → Out Fl} {N : Ev → Sto → Prop} {R : D → Sto → Prop} {B C : Ev → Sto → Prop} : Ws (o.bind k) N R B C E = Wp o (fun a S => Ws (k a S) N R B C E) E := by with_unfolding_all exact PVZ.Q_sbind
theorem Q_ok {a : α} {Q : α → Sto → Prop} : Wp (.ok a S) Q E = Q a S := by with_unfolding_all exact PVZ.Q_ok
theorem Q_ex {c : String} {fs : List (String × D)} {Q : α → Sto → Prop} : Wp (.ex c fs S) Q E = E c fs S := by with_unfolding_all exact PVZ.Q_ex
variable {Q : D → Sto → Prop} {d x : D} {o : Option D} {a b c m : ME} {ms : MA} {t u : MT}
theorem Q_v0 : Wp (v 0 (some d :: ρ) S) Q E = Q d S := by with_unfolding_all exact PVZ.Q_v0
theorem Q_vs {n : Nat} : Wp (v (n + 1) (o :: ρ) S) Q E = Wp (v n ρ S) Q E := by with_unfolding_all exact PVZ.Q_vs
theorem Q_k : Wp (k d ρ S) Q E = Q d S := by with_unfolding_all exact PVZ.Q_k
theorem Q_bin {g : G2} : Wp (bin g a b ρ S) Q E = Wp (a ρ S) (fun x S1 => Wp (b ρ S1) (fun y S2 => Wp (g x y S2) Q E) E) E := by with_unfolding_all exact PVZ.Q_bin
theorem Q_una {g : G1} : Wp (una g a ρ S) Q E = Wp (a ρ S) (fun x S1 => Wp (g x S1) Q E) E := by with_unfolding_all exact PVZ.Q_una
theorem Q_cal {F : Fn} : Wp (cal F ms ρ S) Q E = Wp (ms ρ S) (fun ds S1 => Wp (F ds S1) Q E) E := by with_unfolding_all exact PVZ.Q_cal
theorem Q_nil {Q : List D → Sto → Prop} : Wp (aNil ρ S) Q E = Q [] S := by with_unfolding_all exact PVZ.Q_nil
theorem Q_cons {Q : List D → Sto → Prop} : Wp (aCons a ms ρ S) Q E = Wp (a ρ S) (fun x S1 => Wp (ms ρ S1) (fun ds S2 => Q (x :: ds) S2) E) E := by with_unfolding_all exact PVZ.Q_cons
theorem Q_star {Q : List D → Sto → Prop} : Wp (aStar a ms ρ S) Q E = Wp (a ρ S) (fun x S1 => Wp (match x with
  | .lst xs => (ms ρ S1).bind fun ds S2 => .ok (xs ++ ds) S2
  | .tup xs => (ms ρ S1).bind fun ds S2 => .ok (xs ++ ds) S2
  | .loc n => match S1[n]? with
    | some (.lst xs) => (ms ρ S1).bind fun ds S2 => .ok (xs ++ ds) S2
    | _ => .no
  | _ => .no) Q E) E := by with_unfolding_all exact PVZ.Q_star
variable {P : Bool → Sto → Prop}
theorem Q_tst : Wp (tst a ρ S) P E = Wp (a ρ S) (fun d S1 => Wp (match d with | .bl b => Out.ok b S1 | _ => .no) P E) E := by with_unfolding_all exact PVZ.Q_tst
theorem Q_tru : Wp (tru a ρ S) P E = Wp (a ρ S) (fun d S1 => Wp (match truD d with | some b => Out.ok b S1 | none => .no) P E) E := by with_unfolding_all exact PVZ.Q_tru
theorem Q_no : Wp (tNo t ρ S) P E = Wp (t ρ S) (fun c S1 => P (!c) S1) E := by with_unfolding_all exact PVZ.Q_no
theorem Q_an : Wp (tAn t u ρ S) P E = Wp (t ρ S) (fun c S1 => Wp (if c = true then u ρ S1 else .ok false S1) P E) E := by with_unfolding_all exact PVZ.Q_an
theorem Q_or : Wp (tOr t u ρ S) P E = Wp (t ρ S) (fun c S1 => Wp (if c = true then .ok true S1 else u ρ S1) P E) E := by with_unfolding_all exact PVZ.Q_or
theorem Q_ifE : Wp (ifE t a b ρ S) Q E = Wp (t ρ S) (fun c S1 => Wp (if c = true then a ρ S1 else b ρ S1) Q E) E := by with_unfolding_all exact PVZ.Q_ifE
theorem Q_anE : Wp (anE a b ρ S) Q E = Wp (a ρ S) (fun d S1 => Wp (anD b ρ d S1) Q E) E := by with_unfolding_all exact PVZ.Q_anE
theorem Q_orE : Wp (orE a b ρ S) Q E = Wp (a ρ S) (fun d S1 => Wp (orD b ρ d S1) Q E) E := by with_unfolding_all exact PVZ.Q_orE
theorem Q_anD {c : Bool} : Wp (anD b ρ (.bl c) S) Q E = Wp (if c = true then b ρ S else .ok (.bl false) S) Q E := by with_unfolding_all exact PVZ.Q_anD
theorem Q_orD {c : Bool} : Wp (orD b ρ (.bl c) S) Q E = Wp (if c = true then .ok (.bl true) S else b ρ S) Q E := by with_unfolding_all exact PVZ.Q_orD
theorem Q_noE : Wp (noE a ρ S) Q E = Wp (a ρ S) (fun d S1 => Wp (match d with | .bl b => .ok (.bl (!b)) S1 | _ => .no) Q E) E := by with_unfolding_all exact PVZ.Q_noE
theorem Q_chn {g g' : G2} : Wp (chn g g' a b c ρ S) Q E = Wp (a ρ S) (fun x S1 => Wp (b ρ S1) (fun y S2 => Wp (g x y S2) (fun z S3 => Wp (chD g' y c ρ z S3) Q E) E) E) E := by with_unfolding_all exact PVZ.Q_chn
theorem Q_chD {g' : G2} {y : D} {t : Bool} : Wp (chD g' y c ρ (.bl t) S) Q E = Wp (if t = true then (c ρ S).bind fun u S4 => g' y u S4 else .ok (.bl false) S) Q E := by with_unfolding_all exact PVZ.Q_chD
theorem Q_t {o o' : Out α} {Q : α → Sto → Prop} : Wp (if true = true then o else o') Q E = Wp o Q E := by with_unfolding_all exact PVZ.Q_t
theorem Q_f {o o' : Out α} {Q : α → Sto → Prop} : Wp (if false = true then o else o') Q E = Wp o' Q E := by with_unfolding_all exact PVZ.Q_f
theorem Q_T {h : Decidable True} {o o' : Out α} {Q : α → Sto → Prop} : Wp (@ite _ True h o o') Q E = Wp o Q E := by with_unfolding_all exact PVZ.Q_T
theorem Q_F {h : Decidable False} {o o' : Out α} {Q : α → Sto → Prop} : Wp (@ite _ False h o o') Q E = Wp o' Q E := by with_unfolding_all exact PVZ.Q_F
theorem wp_pos {p : Prop} [Decidable p] {o o' : Out α} {Q : α → Sto → Prop} (h : p) (q : Wp o Q E) : Wp (if p then o else o') Q E := by with_unfolding_all exact PVZ.wp_pos h q
theorem wp_neg_ {p : Prop} [Decidable p] {o o' : Out α} {Q : α → Sto → Prop} (h : ¬ p) (q : Wp o' Q E) : Wp (if p then o else o') Q E := by with_unfolding_all exact PVZ.wp_neg_ h q
theorem wp_dt {p : Prop} [Decidable p] {o o' : Out α} {Q : α → Sto → Prop} (h : p) (q : Wp o Q E) : Wp (if decide p = true then o else o') Q E := by with_unfolding_all exact PVZ.wp_dt h q
theorem wp_df {p : Prop} [Decidable p] {o o' : Out α} {Q : α → Sto → Prop} (h : ¬ p) (q : Wp o' Q E) : Wp (if decide p = true then o else o') Q E := by with_unfolding_all exact PVZ.wp_df h q
theorem wp_nt {p : Prop} [Decidable p] {o o' : Out α} {Q : α → Sto → Prop} (h : ¬ p) (q : Wp o Q E) : Wp (if (!decide p) = true then o else o') Q E := by with_unfolding_all exact PVZ.wp_nt h q
theorem wp_nf {p : Prop} [Decidable p] {o o' : Out α} {Q : α → Sto → Prop} (h : p) (q : Wp o' Q E) : Wp (if (!decide p) = true then o else o') Q E := by with_unfolding_all exact PVZ.wp_nf h q
theorem Q_tup : Wp (tupE ms ρ S) Q E = Wp (ms ρ S) (fun ds S1 => Wp (tupQ ds S1) Q E) E := by with_unfolding_all exact PVZ.Q_tup
theorem Q_lst : Wp (lstE ms ρ S) Q E = Wp (ms ρ S) (fun ds S1 => Wp (lstQ ds S1) Q E) E := by with_unfolding_all exact PVZ.Q_lst
theorem Q_lstM : Wp (lstM ms ρ S) Q E = Wp (ms ρ S) (fun ds S1 => Wp (lstMQ ds S1) Q E) E := by with_unfolding_all exact PVZ.Q_lstM
theorem wp_tupQ {ds : List D} (h : ds.length ≤ 1000) (q : Q (.tup ds) S) : Wp (tupQ ds S) Q E := by with_unfolding_all exact PVZ.wp_tupQ h q
theorem wp_lstQ {ds : List D} (h : ds.length ≤ 1000) (q : Q (.lst ds) S) : Wp (lstQ ds S) Q E := by with_unfolding_all exact PVZ.wp_lstQ h q
theorem wp_lstMQ {ds : List D} (h : ds.length ≤ 1000) (q : Q (.loc S.length) (S ++ [.lst ds])) : Wp (lstMQ ds S) Q E := by with_unfolding_all exact PVZ.wp_lstMQ h q
theorem Q_cm {C : String} {F : Fn} : Wp (cmE C F (k (.cls C)) ms ρ S) Q E = Wp (ms ρ S) (fun ds S2 => Wp (F (.cls C :: ds) S2) Q E) E := by with_unfolding_all exact PVZ.Q_cm
theorem Q_sm {C : String} {F : Fn} : Wp (smE C F (k (.cls C)) ms ρ S) Q E = Wp (ms ρ S) (fun ds S2 => Wp (F ds S2) Q E) E := by with_unfolding_all exact PVZ.Q_sm
theorem Q_mt {τ : List (String × Fn)} {n : String} : Wp (mtO τ n a ms ρ S) Q E = Wp (a ρ S) (fun x S1 => Wp (mtQ τ n ms ρ x S1) Q E) E := by with_unfolding_all exact PVZ.Q_mt
theorem wp_mtQ {τ : List (String × Fn)} {n C : String} {fs : List (String × D)} {F : Fn} (e1 : insOf S x = some (C, fs)) (e2 : τ.lookup C = some F) (e3 : fs.lookup n = none) (q : Wp (ms ρ S) (fun ds S2 => Wp (F (x :: ds) S2) Q E) E) : Wp (mtQ τ n ms ρ x S) Q E := by with_unfolding_all exact PVZ.wp_mtQ e1 e2 e3 q
theorem Q_mtK {C n : String} {l : Nat} {F : Fn} : Wp (mtK C n l F a ms ρ S) Q E = Wp (a ρ S) (fun x S1 => Wp (mtKQ C n l F ms ρ x S1) Q E) E := by with_unfolding_all exact PVZ.Q_mtK
theorem wp_mtKQ {n C : String} {l : Nat} {fs : List (String × D)} {F : Fn} (e1 : insOf S x = some (C, fs)) (e3 : fs.lookup n = none) (q : Wp (ms ρ S) (fun ds S2 => ds.length = l ∧ Wp (F (x :: ds) S2) Q E) E) : Wp (mtKQ C n l F ms ρ x S) Q E := by with_unfolding_all exact PVZ.wp_mtKQ e1 e3 q
theorem Q_mthL {g : D → List D → Sto → Out D} : Wp (mthL g a ms ρ S) Q E = Wp (a ρ S) (fun x S1 => Wp (mthQ g ms ρ x S1) Q E) E := by with_unfolding_all exact PVZ.Q_mthL
theorem wp_mthQ {g : D → List D → Sto → Out D} {n : Nat} {xs : List D} (h : S[n]? = some (.lst xs)) (q : Wp (ms ρ S) (fun ds S2 => Wp (g (.loc n) ds S2) Q E) E) : Wp (mthQ g ms ρ (.loc n) S) Q E := by with_unfolding_all exact PVZ.wp_mthQ h q
theorem Q_mthS {g : G2} : Wp (mthS g a b ρ S) Q E = Wp (a ρ S) (fun x S1 => Wp (if isStr x = true then (b ρ S1).bind fun y S2 => g x y S2 else .no) Q E) E := by with_unfolding_all exact PVZ.Q_mthS
theorem Q_isStr {z : Str} {o o' : Out D} : Wp (if isStr (.str z) = true then o else o') Q E = Wp o Q E := by with_unfolding_all exact PVZ.Q_isStr
theorem Q_itemsF {g : Fn} : Wp (itemsF g m ρ S) Q E = Wp (m ρ S) (fun d S1 => Wp (match d with
  | .lst xs => g xs S1
  | .tup xs => g xs S1
  | .loc n => match S1[n]? with
    | some (.lst xs) => g xs S1
    | _ => .no
  | _ => .no) Q E) E := by with_unfolding_all exact PVZ.Q_itemsF
theorem Q_sli {l h : MO} : Wp (sli m l h ρ S) Q E = Wp (m ρ S) (fun x S1 => Wp (l ρ S1) (fun lo S2 => Wp (h ρ S2) (fun hi S3 => Wp (slG x lo hi S3) Q E) E) E) E := by with_unfolding_all exact PVZ.Q_sli
theorem Q_oNo {Q : Option Int → Sto → Prop} : Wp (oNo ρ S) Q E = Q none S := by with_unfolding_all exact PVZ.Q_oNo
theorem Q_oSo {Q : Option Int → Sto → Prop} : Wp (oSo m ρ S) Q E = Wp (m ρ S) (fun d S1 => Wp (match d with | .int i => Out.ok (some i) S1 | _ => .no) Q E) E := by with_unfolding_all exact PVZ.Q_oSo
variable {i j : Int}
theorem Q_add : Wp (addG (.int i) (.int j) S) Q E = Q (.int (i + j)) S := by with_unfolding_all exact PVZ.Q_add
theorem Q_addI : Wp (addI (.int i) (.int j) S) Q E = Q (.int (i + j)) S := by with_unfolding_all exact PVZ.Q_addI
theorem Q_sub : Wp (subG (.int i) (.int j) S) Q E = Q (.int (i - j)) S := by with_unfolding_all exact PVZ.Q_sub
theorem Q_neg : Wp (negG (.int i) S) Q E = Q (.int (-i)) S := by with_unfolding_all exact PVZ.Q_neg
theorem Q_eqI : Wp (eqG false (.int i) (.int j) S) Q E = Q (.bl (decide (i = j))) S := by with_unfolding_all exact PVZ.Q_eqI
theorem Q_neI : Wp (eqG true (.int i) (.int j) S) Q E = Q (.bl (!decide (i = j))) S := by with_unfolding_all exact PVZ.Q_neI
theorem Q_lt : Wp (ltG (.int i) (.int j) S) Q E = Q (.bl (decide (i < j))) S := by with_unfolding_all exact PVZ.Q_lt
theorem Q_le : Wp (leG (.int i) (.int j) S) Q E = Q (.bl (decide (i ≤ j))) S := by with_unfolding_all exact PVZ.Q_le
theorem Q_gt : Wp (gtG (.int i) (.int j) S) Q E = Q (.bl (decide (j < i))) S := by with_unfolding_all exact PVZ.Q_gt
theorem Q_ge : Wp (geG (.int i) (.int j) S) Q E = Q (.bl (decide (j ≤ i))) S := by with_unfolding_all exact PVZ.Q_ge
theorem Q_isN {n : Bool} : Wp (isG n x .non S) Q E = Q (.bl (n ^^ isNon x)) S := by with_unfolding_all exact PVZ.Q_isN
theorem Q_int : Wp (intB [.int i] S) Q E = Q (.int i) S := by with_unfolding_all exact PVZ.Q_int
theorem Q_intb {b : Bool} : Wp (intB [.bl b] S) Q E = Q (.int (if b = true then 1 else 0)) S := by with_unfolding_all exact PVZ.Q_intb
theorem Q_abs : Wp (absB [.int i] S) Q E = Q (.int (if i < 0 then -i else i)) S := by with_unfolding_all exact PVZ.Q_abs
variable {xs ys : List D}
theorem Q_lenl : Wp (lenB [.lst xs] S) Q E = Q (.int xs.length) S := by with_unfolding_all exact PVZ.Q_lenl
theorem Q_lent : Wp (lenB [.tup xs] S) Q E = Q (.int xs.length) S := by with_unfolding_all exact PVZ.Q_lent
theorem Q_tupl : Wp (tupB [.lst xs] S) Q E = Q (.tup xs) S := by with_unfolding_all exact PVZ.Q_tupl
theorem Q_tupt : Wp (tupB [.tup xs] S) Q E = Q (.tup xs) S := by with_unfolding_all exact PVZ.Q_tupt
theorem Q_listl : Wp (listB [.lst xs] S) Q E = Q (.lst xs) S := by with_unfolding_all exact PVZ.Q_listl
theorem Q_listt : Wp (listB [.tup xs] S) Q E = Q (.lst xs) S := by with_unfolding_all exact PVZ.Q_listt
theorem Q_onlyB {o : Out D} : Wp (onlyB o) Q E = Wp o (fun d S1 => Wp (match d with | .bl b => .ok (.bl b) S1 | _ => .no) Q E) E := by with_unfolding_all exact PVZ.Q_onlyB
theorem Q_notB {o : Out D} : Wp (notB o) Q E = Wp o (fun d S1 => Wp (match d with | .bl b => .ok (.bl (!b)) S1 | _ => .no) Q E) E := by with_unfolding_all exact PVZ.Q_notB
end
section
variable {S : Sto} {E : XQ} {Q : D → Sto → Prop}
theorem Q_ixt0 {a : D} {xs : List D} : Wp (ixG (.tup (a :: xs)) (.int 0) S) Q E = Q a S := by with_unfolding_all exact PVZ.Q_ixt0
theorem Q_ixt1 {a b : D} {xs : List D} : Wp (ixG (.tup (a :: b :: xs)) (.int 1) S) Q E = Q b S := by with_unfolding_all exact PVZ.Q_ixt1
theorem Q_ixt2 {a b c : D} {xs : List D} : Wp (ixG (.tup (a :: b :: c :: xs)) (.int 2) S) Q E = Q c S := by with_unfolding_all exact PVZ.Q_ixt2
theorem Q_ixt3 {a b c d : D} {xs : List D} : Wp (ixG (.tup (a :: b :: c :: d :: xs)) (.int 3) S) Q E = Q d S := by with_unfolding_all exact PVZ.Q_ixt3
theorem Q_ixl0 {a : D} {xs : List D} : Wp (ixG (.lst (a :: xs)) (.int 0) S) Q E = Q a S := by with_unfolding_all exact PVZ.Q_ixl0
theorem Q_ixl1 {a b : D} {xs : List D} : Wp (ixG (.lst (a :: b :: xs)) (.int 1) S) Q E = Q b S := by with_unfolding_all exact PVZ.Q_ixl1
theorem Q_ixl2 {a b c : D} {xs : List D} : Wp (ixG (.lst (a :: b :: c :: xs)) (.int 2) S) Q E = Q c S := by with_unfolding_all exact PVZ.Q_ixl2
theorem Q_ixl3 {a b c d : D} {xs : List D} : Wp (ixG (.lst (a :: b :: c :: d :: xs)) (.int 3) S) Q E = Q d S := by with_unfolding_all exact PVZ.Q_ixl3
end
section
variable {ρ : Ev} {S : Sto} {N : Ev → Sto → Prop} {R : D → Sto → Prop} {B C : Ev → Sto → Prop} {E : XQ} {a b : MS} {m o : ME} {t : MT} {ms : MA}
theorem Q_seq : Ws (sSeq a b ρ S) N R B C E = Ws (a ρ S) (fun ρ' S' => Ws (b ρ' S') N R B C E) R B C E := by with_unfolding_all exact PVZ.Q_seq
theorem Q_sNil : Ws (sNil ρ S) N R B C E = N ρ S := by with_unfolding_all exact PVZ.Q_sNil
theorem Q_ret : Ws (sRet m ρ S) N R B C E = Wp (m ρ S) R E := by with_unfolding_all exact PVZ.Q_ret
theorem Q_retN : Ws (sRetN ρ S) N R B C E = R .non S := by with_unfolding_all exact PVZ.Q_retN
theorem Q_exp : Ws (sExp m ρ S) N R B C E = Wp (m ρ S) (fun _ S1 => N ρ S1) E := by with_unfolding_all exact PVZ.Q_exp
theorem Q_set {i : Nat} : Ws (sSet i m ρ S) N R B C E = Wp (m ρ S) (fun d S1 => N (ρ.set i (some d)) S1) E := by with_unfolding_all exact PVZ.Q_set
theorem Q_if : Ws (sIf t a b ρ S) N R B C E = Wp (t ρ S) (fun c S1 => Ws (if c = true then a ρ S1 else b ρ S1) N R B C E) E := by with_unfolding_all exact PVZ.Q_if
theorem Q_brk : Ws (sBrk ρ S) N R B C E = B ρ S := by with_unfolding_all exact PVZ.Q_brk
theorem Q_cnt : Ws (sCnt ρ S) N R B C E = C ρ S := by with_unfolding_all exact PVZ.Q_cnt
theorem Q_st {o o' : Out Fl} : Ws (if true = true then o else o') N R B C E = Ws o N R B C E := by with_unfolding_all exact PVZ.Q_st
theorem Q_sf {o o' : Out Fl} : Ws (if false = true then o else o') N R B C E = Ws o' N R B C E := by with_unfolding_all exact PVZ.Q_sf
theorem Q_nx : Ws (.ok (.nx ρ) S) N R B C E = N ρ S := by with_unfolding_all exact PVZ.Q_nx
theorem Q_sT {h : Decidable True} {o o' : Out Fl} : Ws (@ite _ True h o o') N R B C E = Ws o N R B C E := by with_unfolding_all exact PVZ.Q_sT
theorem Q_sF {h : Decidable False} {o o' : Out Fl} : Ws (@ite _ False h o o') N R B C E = Ws o' N R B C E := by with_unfolding_all exact PVZ.Q_sF
theorem ws_dt {p : Prop} [Decidable p] {o o' : Out Fl} (h : p) (q : Ws o N R B C E) : Ws (if decide p = true then o else o') N R B C E := by with_unfolding_all exact PVZ.ws_dt h q
theorem ws_df {p : Prop} [Decidable p] {o o' : Out Fl} (h : ¬ p) (q : Ws o' N R B C E) : Ws (if decide p = true then o else o') N R B C E := by with_unfolding_all exact PVZ.ws_df h q
theorem ws_nt {p : Prop} [Decidable p] {o o' : Out Fl} (h : ¬ p) (q : Ws o N R B C E) : Ws (if (!decide p) = true then o else o') N R B C E := by with_unfolding_all exact PVZ.ws_nt h q
theorem ws_nf {p : Prop} [Decidable p] {o o' : Out Fl} (h : p) (q : Ws o' N R B C E) : Ws (if (!decide p) = true then o else o') N R B C E := by with_unfolding_all exact PVZ.ws_nf h q
theorem Q_par {i j : Nat} : Ws (sPar i j ms ρ S) N R B C E = Wp (ms ρ S) (fun ds S1 => Ws (parQ i j ρ ds S1) N R B C E) E := by with_unfolding_all exact PVZ.Q_par
theorem Q_parQ {i j : Nat} {d e : D} : Ws (parQ i j ρ [d, e] S) N R B C E = N ((ρ.set i (some d)).set j (some e)) S := by with_unfolding_all exact PVZ.Q_parQ
theorem Q_asg {T : Tg} : Ws (sAsg T m ρ S) N R B C E = Wp (m ρ S) (fun d S1 => Ws (asgQ T d ρ S1) N R B C E) E := by with_unfolding_all exact PVZ.Q_asg
theorem Q_asgN {i : Nat} {d : D} : Ws (asgQ (.nm i) d ρ S) N R B C E = N (ρ.set i (some d)) S := by with_unfolding_all exact PVZ.Q_asgN
theorem Q_asg2 {i j : Nat} {d e : D} : Ws (asgQ (.tp [i, j]) (.tup [d, e]) ρ S) N R B C E = N ((ρ.set i (some d)).set j (some e)) S := by with_unfolding_all exact PVZ.Q_asg2
theorem Q_asg3 {i j l : Nat} {d e f : D} : Ws (asgQ (.tp [i, j, l]) (.tup [d, e, f]) ρ S) N R B C E = N (((ρ.set i (some d)).set j (some e)).set l (some f)) S := by with_unfolding_all exact PVZ.Q_asg3
theorem Q_asg4 {i j l n : Nat} {d e f g : D} : Ws (asgQ (.tp [i, j, l, n]) (.tup [d, e, f, g]) ρ S) N R B C E = N ((((ρ.set i (some d)).set j (some e)).set l (some f)).set n (some g)) S := by with_unfolding_all exact PVZ.Q_asg4
theorem ws_asgQ {T : Tg} {d : D} {ρ' : Ev} (e : setT T d ρ = some ρ') (q : N ρ' S) : Ws (asgQ T d ρ S) N R B C E := by with_unfolding_all exact PVZ.ws_asgQ e q
theorem Q_aug {i : Nat} {g : G2} : Ws (sAug i g m ρ S) N R B C E = Wp (v i ρ S) (fun x S' => Ws (augQ i g m ρ x S') N R B C E) E := by with_unfolding_all exact PVZ.Q_aug
theorem Q_augQ {i : Nat} {g : G2} {x : D} : Ws (augQ i g m ρ x S) N R B C E = Wp (m ρ S) (fun y S1 => Wp (g x y S1) (fun z S2 => N (ρ.set i (some z)) S2) E) E := by with_unfolding_all exact PVZ.Q_augQ
variable {Q : List D × Option Nat → Sto → Prop} {d : D}
theorem Q_iSeq : Wp (iSeq m ρ S) Q E = Wp (m ρ S) (fun d S1 => Wp (seqQ d S1) Q E) E := by with_unfolding_all exact PVZ.Q_iSeq
theorem Q_seqL {xs : List D} : Wp (seqQ (.lst xs) S) Q E = Q (xs, none) S := by with_unfolding_all exact PVZ.Q_seqL
theorem Q_seqT {xs : List D} : Wp (seqQ (.tup xs) S) Q E = Q (xs, none) S := by with_unfolding_all exact PVZ.Q_seqT
theorem Q_seqS {z : Str} : Wp (seqQ (.str z) S) Q E = Q (signs z, none) S := by with_unfolding_all exact PVZ.Q_seqS
theorem Q_iR1 : Wp (iR1 ms ρ S) Q E = Wp (ms ρ S) (fun ds S1 => Wp (r1Q ds S1) Q E) E := by with_unfolding_all exact PVZ.Q_iR1
theorem Q_iR2 : Wp (iR2 ms ρ S) Q E = Wp (ms ρ S) (fun ds S1 => Wp (r2Q ds S1) Q E) E := by with_unfolding_all exact PVZ.Q_iR2
theorem wp_r1Q {j : Int} (h : near62 j = true) (q : Q (ups 0 j.toNat, none) S) : Wp (r1Q [.int j] S) Q E := by with_unfolding_all exact PVZ.wp_r1Q h q
theorem wp_r2Q {i j : Int} (h : near62 i = true) (h' : near62 j = true) (q : Q (ups i (j - i).toNat, none) S) : Wp (r2Q [.int i, .int j] S) Q E := by with_unfolding_all exact PVZ.wp_r2Q h h' q
theorem Q_iEn : Wp (iEn ms ρ S) Q E = Wp (ms ρ S) (fun ds S1 => Wp (enD ds S1) Q E) E := by with_unfolding_all exact PVZ.Q_iEn
theorem Q_iZp : Wp (iZp ms ρ S) Q E = Wp (ms ρ S) (fun ds S1 => Wp (zpD ds S1) Q E) E := by with_unfolding_all exact PVZ.Q_iZp
theorem Q_zpl {xs ys : List D} : Wp (zpD [.lst xs, .lst ys] S) Q E = Q (zipD xs ys, none) S := by with_unfolding_all exact PVZ.Q_zpl
theorem Q_zpt {xs ys : List D} : Wp (zpD [.tup xs, .tup ys] S) Q E = Q (zipD xs ys, none) S := by with_unfolding_all exact PVZ.Q_zpt
end
section
variable {α : Type} {E : XQ} {S : Sto} {ρ : Ev} {Q : D → Sto → Prop} {m : ME} {ms : MA}
theorem Q_frz : Wp (frzE m ρ S) Q E = Wp (m ρ S) (fun d S1 => Wp (frzQ d S1) Q E) E := by with_unfolding_all exact PVZ.Q_frz
theorem wp_frzQ {n : Nat} {xs : List D} (h : S[n]? = some (.lst xs)) (q : Q (.lst xs) (S.set n .dead)) : Wp (frzQ (.loc n) S) Q E := by with_unfolding_all exact PVZ.wp_frzQ h q
theorem Q_lns : Wp (lnsE m ρ S) Q E = Wp (m ρ S) (fun d S1 => Wp (lnsQ d S1) Q E) E := by with_unfolding_all exact PVZ.Q_lns
theorem wp_lnsQ {ys : List Str} (h : ys.Nodup) (h2 : ys.length < 4000) (q : Q (.int ys.length) S) : Wp (lnsQ (.lst (ys.map .str)) S) Q E := by with_unfolding_all exact PVZ.wp_lnsQ h h2 q
theorem wp_kd {c : String} {kvs : List (Str × Str)} {z v : Str} (h : kvs.lookup z = some v) (q : Q (.str v) S) : Wp (kdG c kvs (.cls c) (.str z) S) Q E := by with_unfolding_all exact PVZ.wp_kd h q
theorem Q_dc {kvs : List (Str × Cst)} : Wp (dcE kvs ρ S) Q E = Q (.hob (.dK (L2.mergeK [] (kvV kvs)))) S := by with_unfolding_all exact PVZ.Q_dc
theorem Q_iEs {Q : List D × Option Nat → Sto → Prop} : Wp (iEs ms ρ S) Q E = Wp (ms ρ S) (fun ds S1 => Wp (ensD ds S1) Q E) E := by with_unfolding_all exact PVZ.Q_iEs
theorem Q_ens {Q : List D × Option Nat → Sto → Prop} {z : Str} : Wp (ensD [.str z] S) Q E = Q (numbered 0 (signs z), none) S := by with_unfolding_all exact PVZ.Q_ens
theorem Q_enl {Q : List D × Option Nat → Sto → Prop} {xs : List D} : Wp (enD [.lst xs] S) Q E = Q (numbered 0 xs, none) S := by with_unfolding_all exact PVZ.Q_enl
theorem Q_ent {Q : List D × Option Nat → Sto → Prop} {xs : List D} : Wp (enD [.tup xs] S) Q E = Q (numbered 0 xs, none) S := by with_unfolding_all exact PVZ.Q_ent
end
section
variable {ρ : Ev} {S : Sto} {N : Ev → Sto → Prop} {R : D → Sto → Prop} {B C : Ev → Sto → Prop} {E : XQ} {m o i : ME}
theorem ws_augS {g : G2} (h : Wp (o ρ S) (fun x S1 => Wp (i ρ S1) (fun k S2 => ∃ n j xs y, x = .loc n ∧ k = .int (j : Nat) ∧ S2[n]? = some (.lst xs) ∧ xs[j]? = some y ∧ Wp (m ρ S2) (fun z S3 => Wp (g y z S3) (fun w S4 => ∃ ys, S4[n]? = some (.lst ys) ∧ j < ys.length ∧ N ρ (S4.set n (.lst (ys.set j w)))) E) E) E) E) : Ws (sAugS g o i m ρ S) N R B C E := by with_unfolding_all exact PVZ.ws_augS h
end
end PV
set_option Elab.async false
set_option linter.all false
set_option maxRecDepth 100000
set_option maxHeartbeats 4000000
namespace PV
open PySem
abbrev nX : XQ := fun _ _ _ => False
theorem eq_of_wp {α : Type} {o : Out α} {d : α} {S : Sto} (h : Wp o (fun d' S' => d' = d ∧ S' = S) nX) : o = .ok d S := by
  obtain ⟨a, S', e, rfl, rfl⟩ := Wp.of h
  exact e
theorem wp_lc_ints {i : Nat} {it : MI} {e : ME} {ρ : Ev} {S : Sto} {ns : List Int} {Q : D → Sto → Prop} {E : XQ} (f : Int → D) (hi : it ρ S = .ok (ns.map .int, none) S) (hl : ns.length ≤ 1000) (h : ∀ n ∈ ns, Wp (e ((ρ.set i none).set i (some (.int n))) S) (fun d S' => d = f n ∧ S' = S) nX) (q : Q (.lst (ns.map f)) S) : Wp (lcE (.nm i) it tYs e ρ S) Q E :=
  wp_eq (lc_ints f hi hl fun n hn => eq_of_wp (h n hn)) q
theorem zipD_ints (f : Int → Int → D) : ∀ (xs ys : List Int), zipD (xs.map .int) (ys.map .int) = List.zipWith (fun a b => .tup [.int a, .int b]) xs ys
  | [], _ => by simp [zipD]
  | _ :: _, [] => by simp [zipD]
  | x :: xs, y :: ys => by
    have := zipD_ints f xs ys
    unfold zipD at this ⊢
    simp [this]
theorem wp_lc_zip {i j : Nat} {it : MI} {e : ME} {ρ : Ev} {S : Sto} {xs ys : List Int} {Q : D → Sto → Prop} {E : XQ} (f : Int → Int → D) (hi : Wp (it ρ S) (fun p S' => p = (zipD (xs.map .int) (ys.map .int), none) ∧ S' = S) nX) (hl : xs.length ≤ 1000) (h : ∀ a ∈ xs, ∀ b ∈ ys, Wp (e ((((ρ.set j none).set i none).set i (some (.int a))).set j (some (.int b))) S) (fun d S' => d = f a b ∧ S' = S) nX) (q : Q (.lst (List.zipWith f xs ys)) S) : Wp (lcE (.tp [i, j]) it tYs e ρ S) Q E := by
  refine wp_lcE (wp_lcO (fun n acc S' => S' = S ∧ acc = (List.zipWith f xs ys).take n) (wp_eq (eq_of_wp hi) ⟨?_, fun _ _ _ _ => trivial, ⟨rfl, rfl⟩, ?_, ?_⟩))
  · show (zipD _ _).length ≤ 1000
    rw [zipD_length, List.length_map, List.length_map]
    omega
  · rintro n x hx acc S' ⟨rfl, rfl⟩
    have hx : (zipD (xs.map .int) (ys.map .int))[n]? = some x := hx
    rw [zipD_ints f, List.getElem?_zipWith] at hx
    cases ha : xs[n]? with
    | none => simp [ha] at hx
    | some a =>
      cases hb : ys[n]? with
      | none => simp [ha, hb] at hx
      | some b =>
        simp [ha, hb] at hx
        subst hx
        refine ⟨_, rfl, wp_ok ⟨fun _ => (h a (List.mem_of_getElem? ha) b (List.mem_of_getElem? hb)).imp ?_ fun _ _ _ q => q, fun c => by cases c⟩⟩
        rintro d S2 ⟨rfl, rfl⟩
        refine ⟨rfl, ?_⟩
        rw [List.take_add_one]
        simp [List.getElem?_zipWith, ha, hb]
  · rintro acc S' ⟨rfl, e⟩
    rw [List.take_of_length_le (by show _ ≤ (zipD _ _).length; rw [zipD_length]; simp)] at e
    subst e
    exact q
theorem add_lists {ns ms : List Int} {S : Sto} {Q : D → Sto → Prop} {E : XQ} (h : ns.length ≤ 10) (h' : ms.length ≤ 10) (q : Q (.lst ((ns ++ ms).map .int)) S) : Wp (addG (.lst (ns.map .int)) (.lst (ms.map .int)) S) Q E := by
  show Wp (if fits (ns.map D.int).length (ms.map D.int).length = true then Out.ok (D.lst (ns.map D.int ++ ms.map D.int)) S else .no) Q E
  rw [if_pos, ← List.map_append]
  · exact wp_ok q
  · unfold fits
    have e : sizeLine = 16777216 := by decide
    rw [List.length_map, List.length_map, e]
    exact decide_eq_true (by omega)

/-! ### drawing -/
theorem atI_ok {xs : List D} {r : Int} (h0 : 0 ≤ r) (h1 : r < xs.length) : ∃ x, L2.atI xs r = some x ∧ xs[r.toNat]? = some x := by
  have h2 : r.toNat < xs.length := by omega
  refine ⟨xs[r.toNat], ?_, by rw [List.getElem?_eq_getElem h2]⟩
  unfold L2.atI L2.ixN
  rw [if_pos h0, if_pos h1]
  exact List.getElem?_eq_getElem h2
/-- what a law's own draw promises -/
def DrawS (F : Fn) : Prop := ∀ {S : Sto} {p : Nat} {B m : Int} {Q : D → Sto → Prop} {E : XQ}, Pen S p B → B ≤ 1000000 → 1 ≤ m → m < 2 ^ 110 → (∀ r S', 0 ≤ r → r < m → SamePen p S S' → Pen S' p (B + 1) → Q (.int r) S') → Wp (F [.loc p, .int m] S) Q E
theorem drawS_of {c1 c2 c3 c4 c5 c6 c7 : Int} (k1 : 0 ≤ c1 ∧ c1 < 1000000) (k3 : 0 ≤ c3 ∧ c3 < 1000000) (k4 : 0 ≤ c4 ∧ c4 < 1000000) (k5 : 0 ≤ c5 ∧ c5 < 1000000) (k6 : 0 ≤ c6 ∧ c6 < 1000000) (k7 : 0 ≤ c7 ∧ c7 < 1000000) : DrawS (dfn 2 7 (drawB c1 c2 c3 c4 c5 c6 c7)) := by
  intro S p B m Q E h hB hm hm' q
  obtain ⟨r, S', e, h0, h1, h2, h3⟩ := draw_ok (c1 := c1) (c2 := c2) (c3 := c3) (c4 := c4) (c5 := c5) (c6 := c6) (c7 := c7) h hB hm hm' k1 k3 k4 k5 k6 k7
  exact wp_eq e (q r S' h0 h1 h2 h3)
/-- .. its own pick -/
def PickS (F : Fn) : Prop := ∀ {S : Sto} {p : Nat} {B : Int} {xs : List D} {Q : D → Sto → Prop} {E : XQ}, Pen S p B → B ≤ 1000000 → 1 ≤ xs.length → xs.length ≤ 1000 → (∀ (i : Nat) x S', xs[i]? = some x → SamePen p S S' → Pen S' p (B + 1) → Q x S') → Wp (F [.loc p, .lst xs] S) Q E
theorem pickS_of {F : Fn} (hF : DrawS F) : PickS (dfn 2 2 (sSeq (sRet (bin ixG (v 1) (cal F (aCons (v 0) (aCons (cal lenB (aCons (v 1) (aNil))) (aNil)))))) (sNil))) := by
  intro S p B xs Q E h hB h0 h1 q
  refine wp_dfn rfl ?_
  (repeat (first | simp -dsimp -implicitDefEqProofs only [Q_ok, Q_ex, Q_v0, Q_vs, Q_k, Q_bin, Q_una, Q_cal, Q_nil, Q_cons, Q_star, Q_tst, Q_tru, Q_no, Q_an, Q_or, Q_ifE, Q_anE, Q_orE, Q_anD, Q_orD, Q_noE, Q_chn, Q_chD, Q_t, Q_f, Q_T, Q_F, Q_tup, Q_lst, Q_lstM, Q_cm, Q_sm, Q_mt, Q_mtK, Q_mthL, Q_mthS, Q_isStr, Q_itemsF, Q_sli, Q_oNo, Q_oSo, Q_add, Q_addI, Q_sub, Q_neg, Q_eqI, Q_neI, Q_lt, Q_le, Q_gt, Q_ge, Q_isN, Q_int, Q_intb, Q_abs, Q_lenl, Q_lent, Q_tupl, Q_tupt, Q_listl, Q_listt, Q_onlyB, Q_notB, Q_ixt0, Q_ixt1, Q_ixt2, Q_ixt3, Q_ixl0, Q_ixl1, Q_ixl2, Q_ixl3, Q_seq, Q_sNil, Q_ret, Q_retN, Q_exp, Q_set, Q_if, Q_brk, Q_cnt, Q_st, Q_sf, Q_nx, Q_sT, Q_sF, Q_par, Q_parQ, Q_asg, Q_asgN, Q_asg2, Q_asg3, Q_asg4, Q_aug, Q_augQ, Q_iSeq, Q_seqL, Q_seqT, Q_seqS, Q_iR1, Q_iR2, Q_iEn, Q_iZp, Q_zpl, Q_zpt, Q_bind, Q_sbind, truD, List.map_cons, List.map_nil, List.cons_append, List.nil_append, Nat.reduceSub, List.reduceReplicate, List.set_cons_zero, List.set_cons_succ, Bool.not_true, Bool.not_false, Bool.not_not, Bool.false_xor, Bool.true_xor, Bool.false_eq_true, and_self, true_and, and_true, wipeD, Tg.slots] | ((with_reducible apply wp_fld); (focus rfl); (focus rfl); (focus rfl)) | ((with_reducible apply wp_isi); (focus rfl)) | ((with_reducible apply wp_isiA); (focus rfl)) | ((with_reducible apply wp_lstQ); (focus exact Nat.le_of_ble_eq_true rfl)) | ((with_reducible apply wp_tupQ); (focus exact Nat.le_of_ble_eq_true rfl)) | ((with_reducible apply wp_lstMQ); (focus exact Nat.le_of_ble_eq_true rfl)) | ((with_reducible apply wp_mtQ); (focus rfl); (focus rfl); (focus rfl)) | ((with_reducible apply wp_mtKQ); (focus rfl); (focus rfl)) | ((with_reducible apply wp_r1Q); (focus exact near62_of (by omega) (by omega))) | ((with_reducible apply wp_r2Q); (focus exact near62_of (by omega) (by omega)); (focus exact near62_of (by omega) (by omega))) | ((with_reducible apply wp_ofLen); (focus rfl)) | ((with_reducible apply wp_kw); (focus rfl)) | ((with_reducible apply ws_asgQ); (focus rfl)) | ((with_reducible apply ex1); (focus rfl)) | ((with_reducible apply And.intro); (focus rfl)) | with_reducible exact gq_same ⟨rfl, rfl⟩ | with_reducible exact ⟨rfl, rfl⟩))
  refine hF h hB (by omega) (by omega) fun r S' r0 r1 s1 p1 => ?_
  obtain ⟨x, e1, e2⟩ := atI_ok (xs := xs) r0 r1
  refine wp_ixl e1 ?_
  exact gq_len s1.len (q _ x S' e2 s1 p1)
theorem pick_mem {xs : List D} {i : Nat} {x : D} (h : xs[i]? = some x) : x ∈ xs := List.mem_of_getElem? h
theorem pick_ints {ns : List Int} {i : Nat} {x : D} (h : (ns.map D.int)[i]? = some x) : ∃ n ∈ ns, x = .int n := by
  rw [List.getElem?_map] at h
  obtain ⟨n, hn, rfl⟩ := Option.map_eq_some_iff.mp h
  exact ⟨n, List.mem_of_getElem? hn, rfl⟩
theorem pow_wp {i : Int} {j : Nat} {S : Sto} {Q : D → Sto → Prop} {E : XQ} (hi : i.natAbs < 2 ^ 64) (hj : j ≤ 1000000) (q : Q (.int (i ^ j)) S) : Wp (powG (.int i) (.int j) S) Q E := wp_pow (powOk_of (by omega) (by omega) hi) (by rw [Int.toNat_natCast]; exact q)
theorem wp_app {n : Nat} {xs : List D} {y : D} {S : Sto} {Q : D → Sto → Prop} {E : XQ} (h : S[n]? = some (.lst xs)) (hl : xs.length ≤ 1000) (q : Q .non (S.set n (.lst (xs ++ [y])))) : Wp (appG (.loc n) [y] S) Q E := by
  have e : appG (.loc n) [y] S = .ok .non (S.set n (.lst (xs ++ [y]))) := by
    unfold appG
    simp only [h, hl, if_true]
  exact wp_eq e q
theorem gq_nil {d : D} {S' : Sto} {Q : D → Sto → Prop} {E : XQ} (h : d.und 0 = true) (q : Q d []) : Gq [] Q E d S' := by
  classical
  have e : gcO [] (.ok d S') = .ok d [] := by
    show (if d.und ([] : Sto).length = true ∧ Kept [] S' then Out.ok d (S'.take ([] : Sto).length) else .ok d S') = _
    rw [if_pos ⟨h, fun i c hi _ => absurd hi (Nat.not_lt_zero _)⟩]
    rfl
  unfold Gq
  exact wp_eq e q
theorem law_of {F : Fn} {ds : List D} (h : Wp (F ds []) (fun d _ => d = .bl true) nX) : ∃ S', F ds [] = .ok (.bl true) S' := by
  obtain ⟨d, S', e, rfl⟩ := Wp.of h
  exact ⟨S', e⟩
end PV
set_option Elab.async false
set_option linter.all false
set_option maxRecDepth 100000
set_option maxHeartbeats 4000000
/-! comprehensions over typed lists; texts of signs -/
namespace PV
open PySem
theorem filter_take {α : Type} (p : α → Bool) {ns : List α} {j : Nat} {a : α} (h : ns[j]? = some a) : (ns.take (j + 1)).filter p = (ns.take j).filter p ++ (if p a = true then [a] else []) := by
  rw [List.take_add_one, h, List.filter_append]
  congr 1
  cases e : p a <;> simp [e]
theorem wp_lcT {α : Type} {T : Tg} {it : MI} {t : MT} {e : ME} {ρ : Ev} {S : Sto} {ns : List α} {Q : D → Sto → Prop} {E : XQ} (g : α → D) (p : α → Bool) (f : α → D)
    (hi : Wp (it ρ S) (fun q S' => q = (ns.map g, none) ∧ S' = S) nX) (hl : ns.length ≤ 1000)
    (h : ∀ a ∈ ns, ∃ ρ1, setT T (g a) (wipeD ρ T.slots) = some ρ1 ∧ Wp (t ρ1 S) (fun c S1 => c = p a ∧ S1 = S) nX ∧ (p a = true → Wp (e ρ1 S) (fun d S2 => d = f a ∧ S2 = S) nX))
    (q : Q (.lst ((ns.filter p).map f)) S) : Wp (lcE T it t e ρ S) Q E := by
  refine wp_lcE (wp_lcO (fun n acc S' => S' = S ∧ acc = ((ns.take n).filter p).map f) (wp_eq (eq_of_wp hi) ⟨?_, fun _ _ _ _ => trivial, ⟨rfl, by simp⟩, ?_, ?_⟩))
  · show (ns.map g).length ≤ 1000
    rw [List.length_map]
    exact hl
  · rintro n x hx acc S' ⟨rfl, rfl⟩
    have hx : (ns.map g)[n]? = some x := hx
    rw [List.getElem?_map] at hx
    obtain ⟨a, ha, rfl⟩ := Option.map_eq_some_iff.mp hx
    obtain ⟨ρ1, e1, w1, w2⟩ := h a (List.mem_of_getElem? ha)
    refine ⟨ρ1, e1, w1.imp (fun c S1 hc => ?_) fun _ _ _ q => q⟩
    obtain ⟨rfl, rfl⟩ := hc
    refine ⟨fun c => (w2 c).imp (fun d S2 hd => ?_) fun _ _ _ q => q, fun c => ?_⟩
    · obtain ⟨rfl, rfl⟩ := hd
      refine ⟨rfl, ?_⟩
      rw [filter_take p ha, if_pos c, List.map_append]
      rfl
    · refine ⟨rfl, ?_⟩
      rw [filter_take p ha, if_neg (by rw [c]; decide), List.append_nil]
  · rintro acc S' ⟨rfl, e⟩
    rw [List.take_of_length_le (by show _ ≤ (ns.map g).length; rw [List.length_map]; omega)] at e
    subst e
    exact q
/-- without a test -/
theorem wp_lcU {α : Type} {T : Tg} {it : MI} {e : ME} {ρ : Ev} {S : Sto} {ns : List α} {Q : D → Sto → Prop} {E : XQ} (g : α → D) (f : α → D)
    (hi : Wp (it ρ S) (fun q S' => q = (ns.map g, none) ∧ S' = S) nX) (hl : ns.length ≤ 1000)
    (h : ∀ a ∈ ns, ∃ ρ1, setT T (g a) (wipeD ρ T.slots) = some ρ1 ∧ Wp (e ρ1 S) (fun d S2 => d = f a ∧ S2 = S) nX)
    (q : Q (.lst (ns.map f)) S) : Wp (lcE T it tYs e ρ S) Q E := by
  refine wp_lcT g (fun _ => true) f hi hl (fun a ha => ?_) ?_
  · obtain ⟨ρ1, e1, w⟩ := h a ha
    exact ⟨ρ1, e1, wp_ok ⟨rfl, rfl⟩, fun _ => w⟩
  · rw [List.filter_eq_self.mpr (fun _ _ => rfl)]
    exact q
theorem asInts_mapT {α : Type} (f : α → Int) (ns : List α) : asInts (ns.map fun a => D.int (f a)) = some (ns.map f) := by
  rw [show (ns.map fun a => D.int (f a)) = (ns.map f).map D.int by rw [List.map_map]; rfl]
  exact asInts_map _
theorem asBools_mapT {α : Type} (f : α → Bool) (ns : List α) : asBools (ns.map fun a => D.bl (f a)) = some (ns.map f) := by
  rw [show (ns.map fun a => D.bl (f a)) = (ns.map f).map D.bl by rw [List.map_map]; rfl]
  exact asBools_map _
theorem asStrs_mapT {α : Type} (f : α → Str) (ns : List α) : asStrs (ns.map fun a => D.str (f a)) = some (ns.map f) := by
  rw [show (ns.map fun a => D.str (f a)) = (ns.map f).map D.str by rw [List.map_map]; rfl]
  exact asStrs_map _
theorem wp_sumT {α : Type} {S : Sto} {Q : D → Sto → Prop} {E : XQ} {f : α → Int} {ns : List α} (q : Q (.int (ns.map f).sum) S) : Wp (sumB [.lst (ns.map fun a => D.int (f a))] S) Q E := by
  refine wp_eq (a := .int (ns.map f).sum) (S := S) ?_ q
  unfold sumB
  simp only [asInts_mapT]
theorem wp_allT {α : Type} {S : Sto} {Q : D → Sto → Prop} {E : XQ} {f : α → Bool} {ns : List α} (q : Q (.bl ((ns.map f).all id)) S) : Wp (allB [.lst (ns.map fun a => D.bl (f a))] S) Q E := by
  refine wp_eq (a := .bl ((ns.map f).all id)) (S := S) ?_ q
  unfold allB
  simp only [asBools_mapT]
theorem numbered_map {α : Type} (g : α → D) : ∀ (ns : List α) (k : Nat), numbered (k : Int) (ns.map g) = (ns.zipIdx k).map fun p => .tup [.int p.2, g p.1]
  | [], _ => rfl
  | n :: ns, k => by
    rw [List.map_cons, numbered, List.zipIdx_cons, List.map_cons]
    have := numbered_map g ns (k + 1)
    rw [show ((k : Int) + 1) = ((k + 1 : Nat) : Int) by omega, this]
theorem ups_map (n : Nat) : ups 0 n = (List.range n).map fun (i : Nat) => D.int i := by
  unfold ups
  simp
theorem sizeLine_eq : sizeLine = 16777216 := by decide
/-! signs -/
def mkS (cs : List Nat) : Str := ⟨cs.toArray⟩
abbrev oneS (c : Nat) : Str := ⟨#[c]⟩
theorem mkS_len (cs : List Nat) : (mkS cs).length = cs.length := rfl
theorem signs_mkS (cs : List Nat) : signs (mkS cs) = cs.map fun c => D.str (oneS c) := by
  simp [signs, mkS]
theorem mkS_app (a b : List Nat) : mkS a ++ mkS b = mkS (a ++ b) := by
  show Str.mk _ = Str.mk _
  simp [mkS]
theorem oneS_eq (c : Nat) : oneS c = mkS [c] := rfl
theorem strIn_one (c : Nat) (z : Str) : strIn (oneS c) z = decide (c ∈ z.cps.toList) := StrLaws.found_one z c
theorem sjoin_ones : ∀ cs : List Nat, Str.join "" (cs.map oneS) = mkS cs
  | [] => rfl
  | [c] => rfl
  | c :: d :: cs => by
    have := sjoin_ones (d :: cs)
    show oneS c ++ (Str.ofString "") ++ Str.join "" ((d :: cs).map oneS) = _
    rw [this]
    show Str.mk _ = Str.mk _
    simp [mkS]
    rfl
theorem join_ones (cs : List Nat) : Txt.join "" (cs.map oneS) = mkS cs := by
  rw [← sjoin_ones]
  exact StrLaws.glued_eq_join _ _
theorem wp_lens {z : Str} {S : Sto} {Q : D → Sto → Prop} {E : XQ} (h : z.length ≤ 1000) (q : Q (.int z.length) S) : Wp (lenB [.str z] S) Q E := by
  refine wp_eq (a := .int z.length) (S := S) ?_ q
  show (if z.length ≤ sizeLine then _ else _) = _
  rw [if_pos (by rw [sizeLine_eq]; omega)]
theorem wp_in {n : Bool} {c : Nat} {z : Str} {S : Sto} {Q : D → Sto → Prop} {E : XQ} (q : Q (.bl (n ^^ decide (c ∈ z.cps.toList))) S) : Wp (inG n (.str (oneS c)) (.str z) S) Q E := by
  refine wp_eq (a := .bl (n ^^ decide (c ∈ z.cps.toList))) (S := S) ?_ q
  rw [← strIn_one]
  rfl
theorem wp_join0 {cs : List Nat} {S : Sto} {Q : D → Sto → Prop} {E : XQ} (h : cs.length ≤ 1000) (q : Q (.str (mkS cs)) S) : Wp (joinG (.str "") (.lst (cs.map fun c => D.str (oneS c))) S) Q E := by
  refine wp_eq (a := .str (mkS cs)) (S := S) ?_ q
  unfold joinG
  simp only [asStrs_mapT]
  have e : ((cs.map oneS).map (·.length)).sum + (cs.map oneS).length * (Str.ofString "").length ≤ 16777216 := by
    have e1 : ((cs.map oneS).map (·.length)).sum = cs.length := by
      rw [List.map_map]
      clear h q
      induction cs with
      | nil => rfl
      | cons c cs ih =>
        rw [List.map_cons, List.sum_cons, ih, List.length_cons]
        show 1 + cs.length = _
        omega
    have e2 : (Str.ofString "").length = 0 := rfl
    rw [e1, e2]
    omega
  rw [if_pos e, join_ones]
theorem oneS_inj {c d : Nat} (h : oneS c = oneS d) : c = d := by
  have h1 := congrArg (fun z : Str => z.cps.toList) h
  simpa using h1
theorem wp_lnsT {α : Type} {f : α → Str} {ns : List α} {S : Sto} {Q : D → Sto → Prop} {E : XQ} (h : (ns.map f).Nodup) (h2 : ns.length < 4000) (q : Q (.int ns.length) S) : Wp (lnsQ (.lst (ns.map fun a => D.str (f a))) S) Q E := by
  rw [show (ns.map fun a => D.str (f a)) = (ns.map f).map D.str by rw [List.map_map]; rfl]
  exact wp_lnsQ h (by rw [List.length_map]; exact h2) (by rw [List.length_map]; exact q)
theorem nodup_ones {cs : List Nat} (h : cs.Nodup) : (cs.map oneS).Nodup := List.pairwise_map.mpr (h.imp fun hn e => hn (oneS_inj e))
theorem wp_ixs {cs : List Nat} {i : Int} {c : Nat} {S : Sto} {Q : D → Sto → Prop} {E : XQ} (h0 : 0 ≤ i) (h : cs[i.toNat]? = some c) (hl : cs.length ≤ 1000) (q : Q (.str (oneS c)) S) : Wp (ixG (.str (mkS cs)) (.int i) S) Q E := by
  refine wp_eq (a := .str (oneS c)) (S := S) ?_ q
  unfold ixG
  have e1 : ¬ i < 0 := by omega
  have hi : i.toNat < cs.length := (List.getElem?_eq_some_iff.mp h).1
  have e2 : (mkS cs).length ≤ sizeLine := by rw [mkS_len, sizeLine_eq]; omega
  have e3 : L2.atI (mkS cs).cps.toList i = some c := by
    unfold L2.atI L2.ixN
    rw [if_pos h0]
    have e4 : (mkS cs).cps.toList = cs := by simp [mkS]
    rw [e4, if_pos (by omega)]
    exact h
  simp only [e2, if_true, e3]
end PV
set_option Elab.async false
set_option linter.all false
set_option maxRecDepth 100000
set_option maxHeartbeats 4000000
/-! plain runs: errors, lambdas, three names at once -/
namespace PVZ
open PySem PV
section
variable {α β : Type} {E : XQ} {S S1 : Sto} {ρ : Ev} {Q : D → Sto → Prop} {N : Ev → Sto → Prop} {R : D → Sto → Prop} {B C : Ev → Sto → Prop} {ms : MA} {m : ME} {c : String} {fs : List (String × D)}
def _root_.PV.parQ3 (i j l : Nat) (ρ : Ev) (ds : List D) (S1 : Sto) : Out Fl := match ds with
  | [a, b, c] => .ok (.nx (((ρ.set i (some a)).set j (some b)).set l (some c))) S1
  | _ => .no
theorem Q_par3 {i j l : Nat} : Ws (sPar3 i j l ms ρ S) N R B C E = Wp (ms ρ S) (fun ds S1 => Ws (parQ3 i j l ρ ds S1) N R B C E) E := Q_sbind
theorem Q_parc3 {i j l : Nat} {x y z : D} : Ws (parQ3 i j l ρ [x, y, z] S1) N R B C E = N (((ρ.set i (some x)).set j (some y)).set l (some z)) S1 := rfl
def _root_.PV.raiQ (c : String) (fl : List String) (ds : List D) (S1 : Sto) : Out Fl := if ds.length = fl.length then .ex c (fl.zip ds).reverse S1 else .no
theorem Q_rai {fl : List String} : Ws (sRai c fl ms ρ S) N R B C E = Wp (ms ρ S) (fun ds S1 => Ws (raiQ c fl ds S1) N R B C E) E := Q_sbind
theorem Q_rai0 : Ws (raiQ c [] [] S1) N R B C E = E c [] S1 := rfl
theorem Q_rai1 {f : String} {x : D} : Ws (raiQ c [f] [x] S1) N R B C E = E c [(f, x)] S1 := rfl
theorem Q_rai2 {f g : String} {x y : D} : Ws (raiQ c [f, g] [x, y] S1) N R B C E = E c [(g, y), (f, x)] S1 := rfl
theorem Q_gxs : Gx S Q E c fs S = E c fs S := by
  unfold Gx
  rw [gc_samex]
  rfl
theorem wp_isx {τ : List (String × Bool)} {cls : D → Bool} {g : Fn} {ds : List D} {d : D} (e : isiX τ cls g ds S = .ok d S) (q : Q d S) : Wp (isiX τ cls g ds S) Q E := wp_eq e q
theorem wp_fldx {cs : List String} {f : String} {g : G1} {x d : D} (e : fldX cs f g x S = .ok d S) (q : Q d S) : Wp (fldX cs f g x S) Q E := wp_eq e q
theorem wp_lamc {h : Hrd} (z : Wp (m ρ S) (fun d S1 => Wp (h (.ok d S1) S) Q fun _ _ _ => False) fun c fs S1 => Wp (h (.ex c fs S1) S) Q fun _ _ _ => False) : Wp (lamc h m ρ S) Q E := by
  unfold lamc
  match m ρ S, z with
  | .ok d S1, z =>
    have z2 : Wp (h (.ok d S1) S) Q fun _ _ _ => False := z
    obtain ⟨a, S2, e, q⟩ := Wp.of z2
    rw [e]
    exact q
  | .ex c fs S1, z =>
    have z2 : Wp (h (.ex c fs S1) S) Q fun _ _ _ => False := z
    obtain ⟨a, S2, e, q⟩ := Wp.of z2
    rw [e]
    exact q
theorem ex_of_wp {o : Out α} (h : Wp o (fun _ _ => False) fun c' fs' S' => c' = c ∧ fs' = fs ∧ S' = S) : o = .ex c fs S := by
  match o, h with
  | .ex _ _ _, h =>
    obtain ⟨rfl, rfl, rfl⟩ := h
    rfl
end
end PVZ
namespace PV
open PySem
section
variable {α β : Type} {E : XQ} {S S1 : Sto} {ρ : Ev} {Q : D → Sto → Prop} {N : Ev → Sto → Prop} {R : D → Sto → Prop} {B C : Ev → Sto → Prop} {ms : MA} {m : ME} {c : String} {fs : List (String × D)}
theorem Q_par3 {i j l : Nat} : Ws (sPar3 i j l ms ρ S) N R B C E = Wp (ms ρ S) (fun ds S1 => Ws (parQ3 i j l ρ ds S1) N R B C E) E := by with_unfolding_all exact PVZ.Q_par3
theorem Q_parc3 {i j l : Nat} {x y z : D} : Ws (parQ3 i j l ρ [x, y, z] S1) N R B C E = N (((ρ.set i (some x)).set j (some y)).set l (some z)) S1 := by with_unfolding_all exact PVZ.Q_parc3
theorem Q_rai {fl : List String} : Ws (sRai c fl ms ρ S) N R B C E = Wp (ms ρ S) (fun ds S1 => Ws (raiQ c fl ds S1) N R B C E) E := by with_unfolding_all exact PVZ.Q_rai
theorem Q_rai0 : Ws (raiQ c [] [] S1) N R B C E = E c [] S1 := by with_unfolding_all exact PVZ.Q_rai0
theorem Q_rai1 {f : String} {x : D} : Ws (raiQ c [f] [x] S1) N R B C E = E c [(f, x)] S1 := by with_unfolding_all exact PVZ.Q_rai1
theorem Q_rai2 {f g : String} {x y : D} : Ws (raiQ c [f, g] [x, y] S1) N R B C E = E c [(g, y), (f, x)] S1 := by with_unfolding_all exact PVZ.Q_rai2
theorem Q_gxs : Gx S Q E c fs S = E c fs S := by with_unfolding_all exact PVZ.Q_gxs
theorem wp_isx {τ : List (String × Bool)} {cls : D → Bool} {g : Fn} {ds : List D} {d : D} (e : isiX τ cls g ds S = .ok d S) (q : Q d S) : Wp (isiX τ cls g ds S) Q E := by with_unfolding_all exact PVZ.wp_isx e q
theorem wp_fldx {cs : List String} {f : String} {g : G1} {x d : D} (e : fldX cs f g x S = .ok d S) (q : Q d S) : Wp (fldX cs f g x S) Q E := by with_unfolding_all exact PVZ.wp_fldx e q
theorem wp_lamc {h : Hrd} (z : Wp (m ρ S) (fun d S1 => Wp (h (.ok d S1) S) Q fun _ _ _ => False) fun c fs S1 => Wp (h (.ex c fs S1) S) Q fun _ _ _ => False) : Wp (lamc h m ρ S) Q E := by with_unfolding_all exact PVZ.wp_lamc z
theorem ex_of_wp {o : Out α} (h : Wp o (fun _ _ => False) fun c' fs' S' => c' = c ∧ fs' = fs ∧ S' = S) : o = .ex c fs S := by with_unfolding_all exact PVZ.ex_of_wp h
theorem lam_ok {h : Hrd} {d : D} {o : Out D} (e : m ρ S = o) (e2 : h o S = .ok d S1) : lamc h m ρ S = .ok d S1 := by
  unfold lamc
  rw [e, e2]
end
end PV
set_option Elab.async false
set_option linter.all false
set_option maxRecDepth 100000
set_option maxHeartbeats 4000000
/-! plain runs: what a heard def does behind its try; errors out of constructors -/
namespace PVZ
open PySem PV
section
variable {S S1 : Sto} {Q : D → Sto → Prop} {E : XQ} {c : String} {F : Fn} {ds : List D}
theorem wp_gc {o : Out Fl} (h : Ws o (fun _ S' => Gq S Q E .non S') (Gq S Q E) (fun _ _ => False) (fun _ _ => False) (Gx S Q E)) : Wp (gcO S (fin o)) Q E := by
  match o, h with
  | .ok (.nx _) _, h => exact h
  | .ok (.rt _) _, h => exact h
  | .ex _ _ _, h => exact h
theorem wp_mkx {c' : String} {fs : List (String × D)} {T : Sto} (e : F (.loc S.length :: ds) (S ++ [Cell.ins c []]) = .ex c' fs (S ++ T)) (hb : belowf S.length fs = true) (q : E c' fs S) : Wp (mkF c F ds S) Q E := by
  unfold mkF
  rw [e]
  show Wp (gcO S (.ex c' fs (S ++ T))) Q E
  rw [gc_appx hb]
  exact q
end
end PVZ
namespace PV
open PySem
section
variable {S S1 : Sto} {Q : D → Sto → Prop} {E : XQ} {c : String} {F : Fn} {ds : List D}
theorem wp_gc {o : Out Fl} (h : Ws o (fun _ S' => Gq S Q E .non S') (Gq S Q E) (fun _ _ => False) (fun _ _ => False) (Gx S Q E)) : Wp (gcO S (fin o)) Q E := by with_unfolding_all exact PVZ.wp_gc h
theorem wp_mkx {c' : String} {fs : List (String × D)} {T : Sto} (e : F (.loc S.length :: ds) (S ++ [Cell.ins c []]) = .ex c' fs (S ++ T)) (hb : belowf S.length fs = true) (q : E c' fs S) : Wp (mkF c F ds S) Q E := by with_unfolding_all exact PVZ.wp_mkx e hb q
theorem gx_app' {c : String} {fs : List (String × D)} {T : Sto} (h : belowf S.length fs = true) (q : E c fs S) : Gx S Q E c fs (S ++ T) := by
  unfold Gx
  rw [gc_appx h]
  with_unfolding_all exact q
end
theorem end_at' {T : Sto} {c : Cell} : (T ++ [c])[T.length]? = some c := by simp
theorem end_set {T : Sto} {c c' : Cell} : (T ++ [c]).set T.length c' = T ++ [c'] := by simp
theorem wp_appEnd {T : Sto} {xs : List D} {y : D} {Q : D → Sto → Prop} {E : XQ} (hl : xs.length ≤ 1000) (q : Q .non (T ++ [.lst (xs ++ [y])])) : Wp (appG (.loc T.length) [y] (T ++ [.lst xs])) Q E :=
  wp_app end_at' hl (by rw [end_set]; exact q)
theorem wp_frzEnd {T : Sto} {xs : List D} {Q : D → Sto → Prop} {E : XQ} (q : Q (.lst xs) (T ++ [.dead])) : Wp (frzQ (.loc T.length) (T ++ [.lst xs])) Q E :=
  wp_frzQ end_at' (by rw [end_set]; exact q)
theorem wp_lenEnd {T : Sto} {xs : List D} {Q : D → Sto → Prop} {E : XQ} (q : Q (.int xs.length) (T ++ [.lst xs])) : Wp (lenB [.loc T.length] (T ++ [.lst xs])) Q E := wp_eq (by
  unfold lenB
  simp only [end_at']) q
theorem wp_ixEnd {T : Sto} {x : D} {xs : List D} {Q : D → Sto → Prop} {E : XQ} (q : Q x (T ++ [.lst (x :: xs)])) : Wp (ixG (.loc T.length) (.int 0) (T ++ [.lst (x :: xs)])) Q E := wp_eq (by
  unfold ixG
  have e : L2.atI (x :: xs) 0 = some x := by
    unfold L2.atI L2.ixN
    simp
  simp only [end_at', e]) q
theorem gq_pen {S S' T : Sto} {d : D} {Q : D → Sto → Prop} {E : XQ} (hs : SamePen 0 S S') (h : d.und S.length = true) (q : Q d S') : Gq S Q E d (S' ++ T) := by
  obtain ⟨cs, a, r, rfl⟩ := hs
  unfold Gq
  rw [gc_setApp h (penC_und _ cs a r)]
  exact wp_ok q
theorem samepen_app {S T S' : Sto} {B : Int} (hp : Pen S 0 B) (h : SamePen 0 (S ++ T) S') : ∃ S'', S' = S'' ++ T ∧ SamePen 0 S S'' := by
  obtain ⟨cs, a, r, rfl⟩ := h
  exact ⟨S.set 0 (penC cs a r), by rw [List.set_append_left _ _ hp.lt], cs, a, r, rfl⟩
theorem pen_cut {S T : Sto} {B : Int} (hp : 0 < S.length) (h : Pen (S ++ T) 0 B) : Pen S 0 B := by
  obtain ⟨cs, a, r, e, z⟩ := h
  rw [List.getElem?_append_left hp] at e
  exact ⟨cs, a, r, e, z⟩
end PV
set_option Elab.async false
set_option linter.all false
set_option maxRecDepth 100000
set_option maxHeartbeats 4000000
/-! the bag that draws (laws k01 to k07, k46 to k49) -/
namespace PVZ
open PySem PV
section
variable {E : XQ} {S : Sto} {ρ : Ev} {N : Ev → Sto → Prop} {R : D → Sto → Prop} {B C : Ev → Sto → Prop} {m o i : ME}
theorem ws_dk (h : Wp (m ρ S) (fun y S1 => Wp (o ρ S1) (fun x S2 => Wp (i ρ S2) (fun k S3 => ∃ n z es, x = .loc n ∧ k = .str z ∧ S3[n]? = some (.dic es) ∧ es.length < 1000 ∧ N ρ (S3.set n (.dic (esP es z y)))) E) E) E) : Ws (sDk o i m ρ S) N R B C E := ws_bind (h.imp (fun y S1 q => ws_bind (q.imp (fun x S2 q => ws_bind (q.imp (fun k S3 q => by
  obtain ⟨n, z, es, rfl, rfl, e1, e2, q⟩ := q
  simp only [e1, if_pos e2]
  exact q) fun _ _ _ q => q)) fun _ _ _ q => q)) fun _ _ _ q => q)
end
end PVZ
namespace PV
open PySem
noncomputable def drawG (c1 c2 c3 : Int) : MS := (sSeq (sWhl (tAn (tst (bin (ltG) (bin ddG (v 0) (k (.str "rest"))) (k (.int 2)))) (tst (bin (ltG) (bin ddG (v 0) (k (.str "at"))) (cal lenB (aCons (bin ddG (v 0) (k (.str "cells"))) (aNil)))))) (sSeq (sSet 2 (cal absB (aCons (bin ixG (bin ddG (v 0) (k (.str "cells"))) (bin ddG (v 0) (k (.str "at")))) (aNil)))) (sSeq (sDk (v 0) (k (.str "at")) (bin (addG) (bin ddG (v 0) (k (.str "at"))) (k (.int 1)))) (sSeq (sIf (tst (bin (ltG) (v 2) (bin (powG) (k (.int 10)) (k (.int 18))))) (sSeq (sSet 3 (bin (modG) (cal intB (aCons (bin (addG) (bin (powG) (bin (addG) (v 2) (k (.int c1))) (k (.int 3))) (bin (mulG) (bin ddG (v 0) (k (.str "state"))) (bin (addG) (bin ddG (v 0) (k (.str "at"))) (k (.int 1))))) (aNil))) (k (.int 2147483629)))) (sSeq (sRet (bin (modG) (v 3) (v 1))) (sNil))) (sNil)) (sSeq (sDk (v 0) (k (.str "rest")) (v 2)) (sNil)))))) (sSeq (sIf (tst (bin (geG) (bin ddG (v 0) (k (.str "rest"))) (k (.int 2)))) (sSeq (sSet 4 (bin (modG) (cal intB (aCons (bin ddG (v 0) (k (.str "rest"))) (aNil))) (v 1))) (sSeq (sDk (v 0) (k (.str "rest")) (bin (fdivG) (bin ddG (v 0) (k (.str "rest"))) (v 1))) (sSeq (sRet (v 4)) (sNil)))) (sNil)) (sSeq (sDk (v 0) (k (.str "state")) (bin (modG) (cal intB (aCons (bin (addG) (bin (mulG) (bin ddG (v 0) (k (.str "state"))) (k (.int c2))) (k (.int c3))) (aNil))) (k (.int 2147483647)))) (sSeq (sRet (bin (modG) (bin (modG) (cal intB (aCons (bin (powG) (bin ddG (v 0) (k (.str "state"))) (k (.int 5))) (aNil))) (k (.int 2147483629))) (v 1))) (sNil)))))
def bagC (cs : List Int) (a r st : Int) : Cell := .dic [("cells", .lst (cs.map .int)), ("at", .int a), ("rest", .int r), ("state", .int st)]
def Bag (S : Sto) (p : Nat) : Prop := ∃ cs a r st, S[p]? = some (bagC cs a r st) ∧ cs.length ≤ 63 ∧ 0 ≤ a ∧ a ≤ cs.length ∧ 0 ≤ r ∧ 0 ≤ st ∧ st < 2147483647
def SameBag (p : Nat) (S S' : Sto) : Prop := ∃ cs a r st, S' = S.set p (bagC cs a r st)
theorem bagC_und (m : Nat) (cs : List Int) (a r st : Int) : (bagC cs a r st).und m = true := by
  simp [bagC, Cell.und, belowk, D.und, belows_ints]
theorem Bag.lt {S : Sto} {p : Nat} (h : Bag S p) : p < S.length := by
  obtain ⟨cs, a, r, st, e, _⟩ := h
  exact (List.getElem?_eq_some_iff.mp e).1
theorem Bag.app {S T : Sto} {p : Nat} (h : Bag S p) : Bag (S ++ T) p := by
  obtain ⟨cs, a, r, st, e, z⟩ := id h
  exact ⟨cs, a, r, st, by rw [List.getElem?_append_left h.lt]; exact e, z⟩
theorem SameBag.refl {S : Sto} {p : Nat} (h : Bag S p) : SameBag p S S := by
  obtain ⟨cs, a, r, st, e, z⟩ := id h
  obtain ⟨hp, e2⟩ := List.getElem?_eq_some_iff.mp e
  exact ⟨cs, a, r, st, by rw [← e2, List.set_getElem_self]⟩
theorem SameBag.trans {S S' S'' : Sto} {p : Nat} (h : SameBag p S S') (h' : SameBag p S' S'') : SameBag p S S'' := by
  obtain ⟨cs, a, r, st, rfl⟩ := h
  obtain ⟨cs', a', r', st', rfl⟩ := h'
  exact ⟨cs', a', r', st', by rw [List.set_set]⟩
theorem SameBag.len {S S' : Sto} {p : Nat} (h : SameBag p S S') : S'.length = S.length := by
  obtain ⟨cs, a, r, st, rfl⟩ := h
  exact List.length_set ..
theorem wp_dd {n : Nat} {es : List (Str × D)} {z : Str} {d : D} {S : Sto} {Q : D → Sto → Prop} {E : XQ} (h : S[n]? = some (.dic es)) (g : esG es z = some d) (q : Q d S) : Wp (ddG (.loc n) (.str z) S) Q E := wp_eq (by
  unfold ddG
  simp only [h, g]) q
section
variable {E : XQ} {S : Sto} {ρ : Ev} {N : Ev → Sto → Prop} {R : D → Sto → Prop} {B C : Ev → Sto → Prop} {m o i : ME}
theorem ws_dk (h : Wp (m ρ S) (fun y S1 => Wp (o ρ S1) (fun x S2 => Wp (i ρ S2) (fun k S3 => ∃ n z es, x = .loc n ∧ k = .str z ∧ S3[n]? = some (.dic es) ∧ es.length < 1000 ∧ N ρ (S3.set n (.dic (esP es z y)))) E) E) E) : Ws (sDk o i m ρ S) N R B C E := by with_unfolding_all exact PVZ.ws_dk h
end
end PV
set_option Elab.async false
set_option linter.all false
set_option maxRecDepth 100000
set_option maxHeartbeats 4000000
/-! the bag's draw, and its making -/
local macro_rules | `(tactic| k_upd) => `(tactic| first | simp -dsimp -implicitDefEqProofs only [PV.Q_ok, PV.Q_ex, PV.Q_v0, PV.Q_vs, PV.Q_k, PV.Q_bin, PV.Q_una, PV.Q_cal, PV.Q_nil, PV.Q_cons, PV.Q_star, PV.Q_tst, PV.Q_tru, PV.Q_no, PV.Q_an, PV.Q_or, PV.Q_ifE, PV.Q_anE, PV.Q_orE, PV.Q_anD, PV.Q_orD, PV.Q_noE, PV.Q_chn, PV.Q_chD, PV.Q_t, PV.Q_f, PV.Q_T, PV.Q_F, PV.Q_tup, PV.Q_lst, PV.Q_lstM, PV.Q_cm, PV.Q_sm, PV.Q_mt, PV.Q_mtK, PV.Q_mthL, PV.Q_mthS, PV.Q_isStr, PV.Q_itemsF, PV.Q_sli, PV.Q_oNo, PV.Q_oSo, PV.Q_add, PV.Q_addI, PV.Q_sub, PV.Q_neg, PV.Q_eqI, PV.Q_neI, PV.Q_lt, PV.Q_le, PV.Q_gt, PV.Q_ge, PV.Q_isN, PV.Q_int, PV.Q_intb, PV.Q_abs, PV.Q_lenl, PV.Q_lent, PV.Q_tupl, PV.Q_tupt, PV.Q_listl, PV.Q_listt, PV.Q_onlyB, PV.Q_notB, PV.Q_ixt0, PV.Q_ixt1, PV.Q_ixt2, PV.Q_ixt3, PV.Q_ixl0, PV.Q_ixl1, PV.Q_ixl2, PV.Q_ixl3, PV.Q_seq, PV.Q_sNil, PV.Q_ret, PV.Q_retN, PV.Q_exp, PV.Q_set, PV.Q_if, PV.Q_brk, PV.Q_cnt, PV.Q_st, PV.Q_sf, PV.Q_nx, PV.Q_sT, PV.Q_sF, PV.Q_par, PV.Q_parQ, PV.Q_asg, PV.Q_asgN, PV.Q_asg2, PV.Q_asg3, PV.Q_asg4, PV.Q_aug, PV.Q_augQ, PV.Q_iSeq, PV.Q_seqL, PV.Q_seqT, PV.Q_seqS, PV.Q_iR1, PV.Q_iR2, PV.Q_iEn, PV.Q_iZp, PV.Q_zpl, PV.Q_zpt, PV.Q_frz, PV.Q_lns, PV.Q_dc, PV.Q_iEs, PV.Q_ens, PV.Q_enl, PV.Q_ent, PV.Q_par3, PV.Q_parc3, PV.Q_rai, PV.Q_rai0, PV.Q_rai1, PV.Q_rai2, PV.Q_gxs, PV.Q_bind, PV.Q_sbind, PV.truD, List.map_cons, List.map_nil, List.cons_append, List.nil_append, Nat.reduceSub, List.reduceReplicate, List.set_cons_zero, List.set_cons_succ, Bool.not_true, Bool.not_false, Bool.not_not, Bool.false_xor, Bool.true_xor, Bool.false_eq_true, and_self, true_and, and_true, PV.wipeD, PV.Tg.slots] | ((with_reducible apply PV.wp_fld); (focus rfl); (focus rfl); (focus rfl)) | ((with_reducible apply PV.wp_isi); (focus rfl)) | ((with_reducible apply PV.wp_isiA); (focus rfl)) | ((with_reducible apply PV.wp_lstQ); (focus exact Nat.le_of_ble_eq_true rfl)) | ((with_reducible apply PV.wp_tupQ); (focus exact Nat.le_of_ble_eq_true rfl)) | ((with_reducible apply PV.wp_lstMQ); (focus exact Nat.le_of_ble_eq_true rfl)) | ((with_reducible apply PV.wp_mtQ); (focus rfl); (focus rfl); (focus rfl)) | ((with_reducible apply PV.wp_mtKQ); (focus rfl); (focus rfl)) | ((with_reducible apply PV.wp_r1Q); (focus exact PV.near62_of (by omega) (by omega))) | ((with_reducible apply PV.wp_r2Q); (focus exact PV.near62_of (by omega) (by omega)); (focus exact PV.near62_of (by omega) (by omega))) | ((with_reducible apply PV.wp_ofLen); (focus rfl)) | ((with_reducible apply PV.wp_isx); (focus rfl)) | ((with_reducible apply PV.wp_fldx); (focus rfl)) | ((with_reducible apply PV.wp_kw); (focus rfl)) | ((with_reducible apply PV.ws_asgQ); (focus rfl)) | ((with_reducible apply PV.ex1); (focus rfl)) | ((with_reducible apply And.intro); (focus rfl)) | with_reducible exact PV.gq_same ⟨rfl, rfl⟩ | with_reducible exact ⟨rfl, rfl⟩)
namespace PV
open PySem
abbrev bagL (cs : List Int) (a r st : Int) : List (Str × D) := [("cells", .lst (cs.map .int)), ("at", .int a), ("rest", .int r), ("state", .int st)]
section
variable {cs : List Int} {a r st b : Int}
theorem g_cells : esG (bagL cs a r st) "cells" = some (.lst (cs.map .int)) := rfl
theorem g_at : esG (bagL cs a r st) "at" = some (.int a) := rfl
theorem g_rest : esG (bagL cs a r st) "rest" = some (.int r) := rfl
theorem g_state : esG (bagL cs a r st) "state" = some (.int st) := rfl
theorem p_at : esP (bagL cs a r st) "at" (.int b) = bagL cs b r st := rfl
theorem p_rest : esP (bagL cs a r st) "rest" (.int b) = bagL cs a b st := rfl
theorem p_state : esP (bagL cs a r st) "state" (.int b) = bagL cs a r b := rfl
end
/-- the bag where it stands -/
def BagIn (S : Sto) (p : Nat) (cs : List Int) (a r st : Int) : Prop := S[p]? = some (.dic (bagL cs a r st)) ∧ cs.length ≤ 63 ∧ 0 ≤ a ∧ a ≤ cs.length ∧ 0 ≤ r ∧ 0 ≤ st ∧ st < 2147483647
theorem BagIn.same {S S' : Sto} {p : Nat} {cs : List Int} {a r st : Int} (h : BagIn S' p cs a r st) (hs : SameBag p S S') {a' r' st' : Int} : SameBag p S (S'.set p (.dic (bagL cs a' r' st'))) := by
  obtain ⟨cs1, a1, r1, s1, rfl⟩ := hs
  exact ⟨cs, a', r', st', by rw [List.set_set]; rfl⟩
def DrawB (F : Fn) : Prop := ∀ {S : Sto} {p : Nat} {m : Int} {Q : D → Sto → Prop} {E : XQ}, Bag S p → 1 ≤ m → m < 2 ^ 110 → (∀ r S', 0 ≤ r → r < m → SameBag p S S' → Bag S' p → Q (.int r) S') → Wp (F [.loc p, .int m] S) Q E
theorem drawG_of {c1 c2 c3 : Int} (k1 : 0 ≤ c1 ∧ c1 < 1000) (k2 : 0 ≤ c2 ∧ c2 < 2147483647) (k3 : 0 ≤ c3 ∧ c3 < 1000) : DrawB (dfn 2 5 (drawG c1 c2 c3)) := by
  intro S p m Q E h hm hm' q
  have hd : divOk m = true := divOk_small (by omega) (by omega)
  have m0 : 0 < m := by omega
  obtain ⟨cs, a, r, st, e, hl, ha, ha', hr, h0, h1⟩ := id h
  have sb0 : SameBag p S S := .refl h
  have fin : ∀ {cs : List Int} {a r st : Int} {S' : Sto}, BagIn S' p cs a r st → SameBag p S S' → ∀ n : Int, 0 ≤ n → n < m → Gq S Q E (.int n) S' := fun hb hs n n0 n1 => gq_len hs.len (q n _ n0 n1 hs ⟨_, _, _, _, hb⟩)
  refine wp_dfn rfl ?_
  unfold drawG
  (repeat k_upd)
  refine Ws.imp (N := fun ρ S' => ∃ cs a r st x2 x3 x4, ρ = [some (.loc p), some (.int m), x2, x3, x4] ∧ BagIn S' p cs a r st ∧ SameBag p S S') ?loop ?tail (fun _ _ q => q) (fun _ _ q => q) (fun _ _ q => q) (fun _ _ _ q => q)
  case tail =>
    rintro ρ S' ⟨cs, a, r, st, x2, x3, x4, rfl, hb, hs⟩
    obtain ⟨e, hl, ha, ha', hr, h0, h1⟩ := id hb
    have lt : p < S'.length := (List.getElem?_eq_some_iff.mp e).1
    (repeat k_upd)
    refine wp_dd e g_rest ?_
    (repeat k_upd)
    by_cases c : (2 : Int) ≤ r
    · refine ws_dt c ?_
      (repeat k_upd)
      refine wp_dd e g_rest ?_
      (repeat k_upd)
      refine wp_mod m0 ?_
      (repeat k_upd)
      refine ws_dk ?_
      (repeat k_upd)
      refine wp_dd e g_rest ?_
      (repeat k_upd)
      refine wp_fdiv hd ?_
      (repeat k_upd)
      refine ⟨_, _, _, rfl, rfl, e, Nat.le_of_ble_eq_true rfl, ?_⟩
      rw [p_rest]
      (repeat k_upd)
      refine fin (cs := cs) (a := a) (r := r / m) (st := st) ⟨List.getElem?_set_self lt, hl, ha, ha', Int.ediv_nonneg hr (by omega), h0, h1⟩ (hb.same hs) _ (Int.emod_nonneg _ (by omega)) (Int.emod_lt_of_pos _ m0)
    · refine ws_df c ?_
      (repeat k_upd)
      refine ws_dk ?_
      (repeat k_upd)
      refine wp_dd e g_state ?_
      (repeat k_upd)
      refine wp_mul (PV.mulOk_l (by omega) (by omega)) ?_
      (repeat k_upd)
      refine wp_mod (by decide) ?_
      (repeat k_upd)
      refine ⟨_, _, _, rfl, rfl, e, Nat.le_of_ble_eq_true rfl, ?_⟩
      rw [p_state]
      have z0 : 0 ≤ (st * c2 + c3) % 2147483647 := Int.emod_nonneg _ (by decide)
      have z1 : (st * c2 + c3) % 2147483647 < 2147483647 := Int.emod_lt_of_pos _ (by decide)
      generalize (st * c2 + c3) % 2147483647 = st2 at z0 z1 ⊢
      have e2 : (S'.set p (.dic (bagL cs a r st2)))[p]? = some (.dic (bagL cs a r st2)) := List.getElem?_set_self lt
      (repeat k_upd)
      refine wp_dd e2 g_state ?_
      (repeat k_upd)
      refine wp_pow (powOk_of (by decide) (by decide) (by omega)) ?_
      (repeat k_upd)
      refine wp_mod (by decide) ?_
      (repeat k_upd)
      refine wp_mod m0 ?_
      (repeat k_upd)
      exact fin (cs := cs) (a := a) (r := r) (st := st2) ⟨e2, hl, ha, ha', hr, z0, z1⟩ (hb.same hs) _ (Int.emod_nonneg _ (by omega)) (Int.emod_lt_of_pos _ m0)
  case loop =>
  refine ws_whl (fun n ρ S' => ∃ cs a r st x2 x3 x4, n = (cs.length - a).toNat ∧ ρ = [some (.loc p), some (.int m), x2, x3, x4] ∧ BagIn S' p cs a r st ∧ SameBag p S S') ((cs.length - a).toNat) ⟨cs, a, r, st, none, none, none, rfl, rfl, ⟨e, hl, ha, ha', hr, h0, h1⟩, sb0⟩ ?_
  rintro n ρ S' ⟨cs, a, r, st, x2, x3, x4, rfl, rfl, hb, hs⟩
  obtain ⟨e, hl, ha, ha', hr, h0, h1⟩ := id hb
  have lt : p < S'.length := (List.getElem?_eq_some_iff.mp e).1
  (repeat k_upd)
  refine wp_dd e g_rest ?_
  (repeat k_upd)
  by_cases c : r < (2 : Int)
  · refine wp_dt c ?_
    (repeat k_upd)
    refine wp_dd e g_at ?_
    (repeat k_upd)
    refine wp_dd e g_cells ?_
    (repeat k_upd)
    rw [List.length_map]
    refine ⟨fun c2 => ?_, fun c2 => ⟨cs, a, r, st, _, _, _, rfl, hb, hs⟩⟩
    have c2 := of_decide_eq_true c2
    (repeat k_upd)
    refine wp_dd e g_cells ?_
    (repeat k_upd)
    refine wp_dd e g_at ?_
    (repeat k_upd)
    obtain ⟨x, hx⟩ : ∃ x, cs[a.toNat]? = some x := ⟨_, List.getElem?_eq_getElem (by omega)⟩
    refine wp_ixl (x := .int x) ?_ ?_
    · unfold L2.atI L2.ixN
      rw [if_pos ha, if_pos (by rw [List.length_map]; omega)]
      show (cs.map D.int)[a.toNat]? = _
      rw [List.getElem?_map, hx]
      rfl
    (repeat k_upd)
    obtain ⟨y, hy⟩ : ∃ y : Int, y = if x < 0 then -x else x := ⟨_, rfl⟩
    rw [← hy]
    have y0 : 0 ≤ y := by rw [hy]; split <;> omega
    refine ws_dk ?_
    (repeat k_upd)
    refine wp_dd e g_at ?_
    (repeat k_upd)
    refine ⟨_, _, _, rfl, rfl, e, Nat.le_of_ble_eq_true rfl, ?_⟩
    rw [p_at]
    have e2 : (S'.set p (.dic (bagL cs (a + 1) r st)))[p]? = some (.dic (bagL cs (a + 1) r st)) := List.getElem?_set_self lt
    (repeat k_upd)
    refine wp_pow (by decide) ?_
    (repeat k_upd)
    by_cases c3 : y < 10 ^ 18
    · refine ws_dt c3 ?_
      (repeat k_upd)
      refine wp_pow (powOk_of (by decide) (by decide) (by omega)) ?_
      (repeat k_upd)
      refine wp_dd e2 g_state ?_
      (repeat k_upd)
      refine wp_dd e2 g_at ?_
      (repeat k_upd)
      refine wp_mul (PV.mulOk_l (by omega) (by omega)) ?_
      (repeat k_upd)
      refine wp_mod (by decide) ?_
      (repeat k_upd)
      refine wp_mod m0 ?_
      (repeat k_upd)
      exact fin (cs := cs) (a := a + 1) (r := r) (st := st) ⟨e2, hl, by omega, by omega, hr, h0, h1⟩ (hb.same hs) _ (Int.emod_nonneg _ (by omega)) (Int.emod_lt_of_pos _ m0)
    · refine ws_df c3 ?_
      (repeat k_upd)
      refine ws_dk ?_
      (repeat k_upd)
      refine ⟨_, _, _, rfl, rfl, e2, Nat.le_of_ble_eq_true rfl, ?_⟩
      rw [p_rest, List.set_set]
      refine ⟨(cs.length - (a + 1)).toNat, by omega, cs, a + 1, y, st, _, _, _, rfl, rfl, ⟨List.getElem?_set_self lt, hl, by omega, by omega, y0, h0, h1⟩, hb.same hs⟩
  · refine wp_df c ?_
    (repeat k_upd)
    refine ⟨fun z => (by cases z), fun _ => ⟨cs, a, r, st, _, _, _, rfl, hb, hs⟩⟩
/-- its pick -/
def PickB (F : Fn) : Prop := ∀ {S : Sto} {p : Nat} {xs : List D} {Q : D → Sto → Prop} {E : XQ}, Bag S p → 1 ≤ xs.length → xs.length ≤ 1000 → (∀ (i : Nat) x S', xs[i]? = some x → SameBag p S S' → Bag S' p → Q x S') → Wp (F [.loc p, .lst xs] S) Q E
theorem pickB_of {F : Fn} (hF : DrawB F) : PickB (dfn 2 2 (sSeq (sRet (bin ixG (v 1) (cal F (aCons (v 0) (aCons (cal lenB (aCons (v 1) (aNil))) (aNil)))))) (sNil))) := by
  intro S p xs Q E h h0 h1 q
  refine wp_dfn rfl ?_
  (repeat k_upd)
  refine hF h (by omega) (by omega) fun r S' r0 r1 s1 p1 => ?_
  obtain ⟨x, e1, e2⟩ := atI_ok (xs := xs) r0 r1
  refine wp_ixl e1 ?_
  exact gq_len s1.len (q _ x S' e2 s1 p1)
noncomputable def bagF (c0 c1 c2 : Int) : MS := (sSeq (sSet 1 (k (.int c0))) (sSeq (sFor (.nm 2) (iSeq (sli (v 0) (oNo) (oSo (k (.int 63))))) (sSeq (sSet 1 (bin (modG) (cal intB (aCons (bin (addG) (bin (addG) (bin (mulG) (v 1) (k (.int c1))) (bin (modG) (cal absB (aCons (v 2) (aNil))) (k (.int 2147483629)))) (k (.int c2))) (aNil))) (k (.int 2147483647)))) (sNil))) (sSeq (sRet (dicM [("cells", cal listB (aCons (sli (v 0) (oNo) (oSo (k (.int 63)))) (aNil))), ("at", k (.int 0)), ("rest", k (.int 0)), ("state", v 1)])) (sNil))))
theorem sli63 {cs : List Int} (h : cs.length ≤ 63) {x : Option D} {ρ : Ev} {S : Sto} : sli (v 0) (oNo) (oSo (k (.int 63))) (some (.src (cs.map .int)) :: ρ) S = .ok (.lst (cs.map .int)) S :=
  sli_ok rfl rfl rfl (show slG (.src (cs.map .int)) none (some 63) S = .ok (.lst (cs.map .int)) S by
    show Out.ok (D.lst (cutD (cs.map D.int) none (some 63))) S = _
    rw [cut63 _ (by simpa using h)])
theorem bag_ok {c0 c1 c2 : Int} (k0 : 0 ≤ c0 ∧ c0 < 1000) (k1 : 0 ≤ c1 ∧ c1 < 2147483647) (k2 : 0 ≤ c2 ∧ c2 < 1000) {cs : List Int} (h : cs.length ≤ 63) {Q : D → Sto → Prop} {E : XQ} (q : ∀ S', Bag S' 0 → S'.length = 1 → Q (.loc 0) S') : Wp (dfn 1 3 (bagF c0 c1 c2) [.src (cs.map .int)] []) Q E := by
  refine wp_dfn rfl ?_
  unfold bagF
  (repeat k_upd)
  refine ws_for (fun j ρ S' => S' = [] ∧ ∃ st x2, 0 ≤ st ∧ st < 2147483647 ∧ ρ = [some (.src (cs.map .int)), some (.int st), x2]) (wp_eq (a := (cs.map .int, none)) (S := []) ?_ ⟨fun _ _ _ _ => trivial, ⟨rfl, c0, none, by omega, by omega, rfl⟩, ?_, ?_⟩)
  · show (sli _ _ _ _ _).bind _ = _
    rw [sli63 h (x := none)]
    rfl
  · rintro j x hx ρ S' ⟨rfl, st, x2, s0, s1, rfl⟩
    have hx : (cs.map D.int)[j]? = some x := hx
    rw [List.getElem?_map] at hx
    obtain ⟨n, hn, rfl⟩ := Option.map_eq_some_iff.mp hx
    refine ⟨_, rfl, ?_⟩
    (repeat k_upd)
    refine wp_mul (PV.mulOk_l (by omega) (by omega)) ?_
    (repeat k_upd)
    refine wp_mod (by decide) ?_
    (repeat k_upd)
    refine wp_mod (by decide) ?_
    (repeat k_upd)
    exact ⟨_, _, Int.emod_nonneg _ (by decide), Int.emod_lt_of_pos _ (by decide), rfl⟩
  · rintro ρ S' ⟨rfl, st, x2, s0, s1, rfl⟩
    (repeat k_upd)
    refine wp_eq (a := .loc 0) (S := [bagC cs 0 0 st]) ?_ ?_
    · show ((dicL _ _ _).bind _) = _
      have e1 : cal listB (aCons (sli (v 0) (oNo) (oSo (k (.int 63)))) (aNil)) [some (.src (cs.map .int)), some (.int st), x2] [Cell.dic []] = .ok (.lst (cs.map .int)) [Cell.dic []] := by
        refine cal_ok (cons_ok (sli63 h (x := none)) rfl) rfl
      show ((cal listB (aCons (sli (v 0) (oNo) (oSo (k (.int 63)))) (aNil)) [some (.src (cs.map .int)), some (.int st), x2] [Cell.dic []]).bind _).bind _ = _
      rw [e1]
      show dicQ 0 (bagL cs 0 0 st) [Cell.dic []] = _
      unfold dicQ
      show (if _ then _ else _) = _
      rw [if_pos ⟨Nat.le_of_ble_eq_true rfl, show ((["cells", "at", "rest", "state"] : List Str)).Nodup by decide +kernel⟩]
      rfl
    · unfold Gq
      classical
      refine wp_eq (a := .loc 0) (S := [bagC cs 0 0 st]) ?_ (q _ ⟨cs, 0, 0, st, rfl, h, by omega, by omega, by omega, s0, s1⟩ rfl)
      unfold gcO
      simp only
      exact if_neg (fun z => by
        have := z.1
        simp [D.und] at this)
theorem gq_bag {S S' T : Sto} {p : Nat} {d : D} {Q : D → Sto → Prop} {E : XQ} (hs : SameBag p S S') (h : d.und S.length = true) (q : Q d S') : Gq S Q E d (S' ++ T) := by
  obtain ⟨cs, a, r, st, rfl⟩ := hs
  unfold Gq
  rw [gc_setApp h (bagC_und _ cs a r st)]
  exact wp_ok q
theorem samebag_app {S T S' : Sto} {p : Nat} (hp : Bag S p) (h : SameBag p (S ++ T) S') : ∃ S'', S' = S'' ++ T ∧ SameBag p S S'' := by
  obtain ⟨cs, a, r, st, rfl⟩ := h
  exact ⟨S.set p (bagC cs a r st), by rw [List.set_append_left _ _ hp.lt], cs, a, r, st, rfl⟩
theorem bag_cut {S T : Sto} {p : Nat} (hp : p < S.length) (h : Bag (S ++ T) p) : Bag S p := by
  obtain ⟨cs, a, r, st, e, z⟩ := h
  rw [List.getElem?_append_left hp] at e
  exact ⟨cs, a, r, st, e, z⟩
end PV
set_option Elab.async false
set_option linter.all false
set_option maxRecDepth 100000
set_option maxHeartbeats 4000000
/-! which built-in type is which; what is None: S! has these names -/
namespace PV
open PySem
theorem Q_sT_NoneType_int : subT "NoneType" "int" = false := by decide +kernel
theorem Q_sT_NoneType_bool : subT "NoneType" "bool" = false := by decide +kernel
theorem Q_sT_NoneType_str : subT "NoneType" "str" = false := by decide +kernel
theorem Q_sT_NoneType_list : subT "NoneType" "list" = false := by decide +kernel
theorem Q_sT_NoneType_tuple : subT "NoneType" "tuple" = false := by decide +kernel
theorem Q_sT_bool_int : subT "bool" "int" = true := by decide +kernel
theorem Q_sT_bool_bool : subT "bool" "bool" = true := by decide +kernel
theorem Q_sT_bool_str : subT "bool" "str" = false := by decide +kernel
theorem Q_sT_bool_list : subT "bool" "list" = false := by decide +kernel
theorem Q_sT_bool_tuple : subT "bool" "tuple" = false := by decide +kernel
theorem Q_sT_int_int : subT "int" "int" = true := by decide +kernel
theorem Q_sT_int_bool : subT "int" "bool" = false := by decide +kernel
theorem Q_sT_int_str : subT "int" "str" = false := by decide +kernel
theorem Q_sT_int_list : subT "int" "list" = false := by decide +kernel
theorem Q_sT_int_tuple : subT "int" "tuple" = false := by decide +kernel
theorem Q_sT_str_int : subT "str" "int" = false := by decide +kernel
theorem Q_sT_str_bool : subT "str" "bool" = false := by decide +kernel
theorem Q_sT_str_str : subT "str" "str" = true := by decide +kernel
theorem Q_sT_str_list : subT "str" "list" = false := by decide +kernel
theorem Q_sT_str_tuple : subT "str" "tuple" = false := by decide +kernel
theorem Q_sT_tuple_int : subT "tuple" "int" = false := by decide +kernel
theorem Q_sT_tuple_bool : subT "tuple" "bool" = false := by decide +kernel
theorem Q_sT_tuple_str : subT "tuple" "str" = false := by decide +kernel
theorem Q_sT_tuple_list : subT "tuple" "list" = false := by decide +kernel
theorem Q_sT_tuple_tuple : subT "tuple" "tuple" = true := by decide +kernel
theorem Q_sT_list_int : subT "list" "int" = false := by decide +kernel
theorem Q_sT_list_bool : subT "list" "bool" = false := by decide +kernel
theorem Q_sT_list_str : subT "list" "str" = false := by decide +kernel
theorem Q_sT_list_list : subT "list" "list" = true := by decide +kernel
theorem Q_sT_list_tuple : subT "list" "tuple" = false := by decide +kernel
theorem Q_sT_dict_int : subT "dict" "int" = false := by decide +kernel
theorem Q_sT_dict_bool : subT "dict" "bool" = false := by decide +kernel
theorem Q_sT_dict_str : subT "dict" "str" = false := by decide +kernel
theorem Q_sT_dict_list : subT "dict" "list" = false := by decide +kernel
theorem Q_sT_dict_tuple : subT "dict" "tuple" = false := by decide +kernel
theorem Q_nn_i {i : Int} : isNon (.int i) = false := rfl
theorem Q_nn_n  : isNon (.non) = true := rfl
theorem Q_nn_t {xs : List D} : isNon (.tup xs) = false := rfl
theorem Q_nn_l {xs : List D} : isNon (.lst xs) = false := rfl
theorem Q_nn_s {z : Str} : isNon (.str z) = false := rfl
theorem Q_nn_b {b : Bool} : isNon (.bl b) = false := rfl
theorem Q_nn_d  : isNon (.dic0) = false := rfl
theorem Q_nn_o {c : String} {fs : List (String × D)} : isNon (.obj c fs) = false := rfl
end PV
-- Q9
set_option Elab.async false
set_option linter.all false
set_option maxRecDepth 100000
set_option maxHeartbeats 4000000
local macro_rules | `(tactic| k_upd) => `(tactic| first | simp -dsimp -implicitDefEqProofs only [PV.Q_ok, PV.Q_ex, PV.Q_v0, PV.Q_vs, PV.Q_k, PV.Q_bin, PV.Q_una, PV.Q_cal, PV.Q_nil, PV.Q_cons, PV.Q_star, PV.Q_tst, PV.Q_tru, PV.Q_no, PV.Q_an, PV.Q_or, PV.Q_ifE, PV.Q_anE, PV.Q_orE, PV.Q_anD, PV.Q_orD, PV.Q_noE, PV.Q_chn, PV.Q_chD, PV.Q_t, PV.Q_f, PV.Q_T, PV.Q_F, PV.Q_tup, PV.Q_lst, PV.Q_lstM, PV.Q_cm, PV.Q_sm, PV.Q_mt, PV.Q_mtK, PV.Q_mthL, PV.Q_mthS, PV.Q_isStr, PV.Q_itemsF, PV.Q_sli, PV.Q_oNo, PV.Q_oSo, PV.Q_add, PV.Q_addI, PV.Q_sub, PV.Q_neg, PV.Q_eqI, PV.Q_neI, PV.Q_lt, PV.Q_le, PV.Q_gt, PV.Q_ge, PV.Q_isN, PV.Q_int, PV.Q_intb, PV.Q_abs, PV.Q_lenl, PV.Q_lent, PV.Q_tupl, PV.Q_tupt, PV.Q_listl, PV.Q_listt, PV.Q_onlyB, PV.Q_notB, PV.Q_ixt0, PV.Q_ixt1, PV.Q_ixt2, PV.Q_ixt3, PV.Q_ixl0, PV.Q_ixl1, PV.Q_ixl2, PV.Q_ixl3, PV.Q_seq, PV.Q_sNil, PV.Q_ret, PV.Q_retN, PV.Q_exp, PV.Q_set, PV.Q_if, PV.Q_brk, PV.Q_cnt, PV.Q_st, PV.Q_sf, PV.Q_nx, PV.Q_sT, PV.Q_sF, PV.Q_par, PV.Q_parQ, PV.Q_asg, PV.Q_asgN, PV.Q_asg2, PV.Q_asg3, PV.Q_asg4, PV.Q_aug, PV.Q_augQ, PV.Q_iSeq, PV.Q_seqL, PV.Q_seqT, PV.Q_seqS, PV.Q_iR1, PV.Q_iR2, PV.Q_iEn, PV.Q_iZp, PV.Q_zpl, PV.Q_zpt, PV.Q_frz, PV.Q_lns, PV.Q_dc, PV.Q_iEs, PV.Q_ens, PV.Q_enl, PV.Q_ent, PV.Q_par3, PV.Q_parc3, PV.Q_rai, PV.Q_rai0, PV.Q_rai1, PV.Q_rai2, PV.Q_gxs, PV.Q_bind, PV.Q_sbind, PV.Q_sT_NoneType_int, PV.Q_sT_NoneType_bool, PV.Q_sT_NoneType_str, PV.Q_sT_NoneType_list, PV.Q_sT_NoneType_tuple, PV.Q_sT_bool_int, PV.Q_sT_bool_bool, PV.Q_sT_bool_str, PV.Q_sT_bool_list, PV.Q_sT_bool_tuple, PV.Q_sT_int_int, PV.Q_sT_int_bool, PV.Q_sT_int_str, PV.Q_sT_int_list, PV.Q_sT_int_tuple, PV.Q_sT_str_int, PV.Q_sT_str_bool, PV.Q_sT_str_str, PV.Q_sT_str_list, PV.Q_sT_str_tuple, PV.Q_sT_tuple_int, PV.Q_sT_tuple_bool, PV.Q_sT_tuple_str, PV.Q_sT_tuple_list, PV.Q_sT_tuple_tuple, PV.Q_sT_list_int, PV.Q_sT_list_bool, PV.Q_sT_list_str, PV.Q_sT_list_list, PV.Q_sT_list_tuple, PV.Q_sT_dict_int, PV.Q_sT_dict_bool, PV.Q_sT_dict_str, PV.Q_sT_dict_list, PV.Q_sT_dict_tuple, PV.Q_nn_i, PV.Q_nn_n, PV.Q_nn_t, PV.Q_nn_l, PV.Q_nn_s, PV.Q_nn_b, PV.Q_nn_d, PV.Q_nn_o, PV.truD, List.map_cons, List.map_nil, List.cons_append, List.nil_append, Nat.reduceSub, List.reduceReplicate, List.set_cons_zero, List.set_cons_succ, Bool.not_true, Bool.not_false, Bool.not_not, Bool.false_xor, Bool.true_xor, Bool.false_eq_true, and_self, true_and, and_true, PV.wipeD, PV.Tg.slots] | ((with_reducible apply PV.wp_fld); (focus rfl); (focus rfl); (focus rfl)) | ((with_reducible apply PV.wp_isi); (focus rfl)) | ((with_reducible apply PV.wp_isiA); (focus rfl)) | ((with_reducible apply PV.wp_lstQ); (focus exact Nat.le_of_ble_eq_true rfl)) | ((with_reducible apply PV.wp_tupQ); (focus exact Nat.le_of_ble_eq_true rfl)) | ((with_reducible apply PV.wp_lstMQ); (focus exact Nat.le_of_ble_eq_true rfl)) | ((with_reducible apply PV.wp_mtQ); (focus rfl); (focus rfl); (focus rfl)) | ((with_reducible apply PV.wp_mtKQ); (focus rfl); (focus rfl)) | ((with_reducible apply PV.wp_r1Q); (focus exact PV.near62_of (by omega) (by omega))) | ((with_reducible apply PV.wp_r2Q); (focus exact PV.near62_of (by omega) (by omega)); (focus exact PV.near62_of (by omega) (by omega))) | ((with_reducible apply PV.wp_ofLen); (focus rfl)) | ((with_reducible apply PV.wp_isx); (focus rfl)) | ((with_reducible apply PV.wp_fldx); (focus rfl)) | ((with_reducible apply PV.wp_kw); (focus rfl)) | ((with_reducible apply PV.ws_asgQ); (focus rfl)) | ((with_reducible apply PV.ex1); (focus rfl)) | ((with_reducible apply And.intro); (focus rfl)) | with_reducible exact PV.gq_same ⟨rfl, rfl⟩ | with_reducible exact ⟨rfl, rfl⟩)
namespace K05
open PySem PV
def ringD (cs : List Nat) (a : Int) : D := .obj "Ring" [("signs", .str (mkS cs)), ("across", .int a)]
/-- values that the law hands over -/
inductive Vl : D → Prop
  | non : Vl .non
  | bl (b : Bool) : Vl (.bl b)
  | int (i : Int) : Vl (.int i)
  | str (z : Str) : Vl (.str z)
  | tup {xs : List D} (h : ∀ n, belows n xs = true) : Vl (.tup xs)
  | lst {xs : List D} (h : ∀ n, belows n xs = true) : Vl (.lst xs)
  | dic0 : Vl .dic0
  | ring (cs : List Nat) (a : Int) : Vl (ringD cs a)
theorem und_ring {cs : List Nat} {a : Int} (n : Nat) : belowf n [("signs", .str (mkS cs)), ("across", .int a)] = true := by
  simp [belowf, D.und]
theorem Vl.und {d : D} (h : Vl d) (n : Nat) : d.und n = true := by
  cases h with
  | tup h => exact h n
  | lst h => exact h n
  | ring cs a => exact und_ring n
  | _ => rfl
def whole : D → Bool
  | .int _ => true
  | _ => false
theorem e_whole {d : D} (h : Vl d) (S : Sto) : F_is_whole [d] S = .ok (.bl (whole d)) S := by
  cases h <;> exact run_ok rfl rfl rfl
def btw (d : D) (lo hi : Int) : Bool := match d with
  | .int i => decide (lo ≤ i) && decide (i ≤ hi)
  | _ => false
theorem e_btw {d : D} (h : Vl d) (lo hi : Int) (S : Sto) : F_is_between [d, .int lo, .int hi] S = .ok (.bl (btw d lo hi)) S := by
  refine eq_of_wp (wp_dfn rfl ?_)
  (repeat k_upd)
  refine wp_eq (e_whole h S) ?_
  (repeat k_upd)
  cases h with
  | int i =>
    refine wp_t rfl ?_
    (repeat k_upd)
    by_cases c : lo ≤ i
    · refine wp_dt c ?_
      (repeat k_upd)
      refine gq_same ?_
      exact ⟨by simp [btw, c], rfl⟩
    · refine wp_df c ?_
      refine wp_ok (gq_same ?_)
      exact ⟨by simp [btw, c], rfl⟩
  | _ =>
    refine wp_f rfl ?_
    exact wp_ok (gq_same ⟨rfl, rfl⟩)
theorem btw_wp {i lo hi : Int} {S : Sto} {Q : D → Sto → Prop} {E : XQ} (h : lo ≤ i) (h' : i ≤ hi) (q : Q (.bl true) S) : Wp (F_is_between [.int i, .int lo, .int hi] S) Q E :=
  wp_eq ((e_btw (.int i) lo hi S).trans (by rw [show btw (.int i) lo hi = true by simp [btw, h, h']])) q
/-! the signs of a ring -/
structure Gs (cs : List Nat) : Prop where
  l2 : 2 ≤ cs.length
  l6 : cs.length ≤ 6
  ok : ∀ c ∈ cs, c ∈ [97, 98, 65, 66, 111]
  nd : (cs.filter fun c => decide (c ∈ [65, 66])).Nodup
def gsB (cs : List Nat) : Bool := decide (2 ≤ cs.length ∧ cs.length ≤ 6) && (cs.all (fun c => decide (c ∈ [97, 98, 65, 66, 111])) && decide ((cs.filter fun c => decide (c ∈ [65, 66])).Nodup))
theorem gs_iff {cs : List Nat} : gsB cs = true ↔ Gs cs := by
  unfold gsB
  simp only [Bool.and_eq_true, decide_eq_true_eq, List.all_eq_true]
  exact ⟨fun h => ⟨h.1.1, h.1.2, h.2.1, h.2.2⟩, fun h => ⟨⟨h.l2, h.l6⟩, h.ok, h.nd⟩⟩
theorem cps_AB : ("AB" : Str).cps.toList = [65, 66] := by decide +kernel
theorem cps_all : ("abABo" : Str).cps.toList = [97, 98, 65, 66, 111] := by decide +kernel
theorem dN_nd {xs : List Str} : ∀ i, i ≤ xs.length → ZS.dN xs i = i → (xs.take i).Nodup
  | 0, _, _ => by simp
  | i + 1, h, e => by
    have lt : i < xs.length := h
    have e2 : (if ((xs.take i).any fun z => z == xs.getD i Str.empty) = true then ZS.dN xs i else ZS.dN xs i + 1) = i + 1 := e
    have le := ZS.dN_le xs i
    rw [ZS.getD_at lt] at e2
    split at e2
    · omega
    · rename_i c
      have ih := dN_nd (xs := xs) i (by omega) (by omega)
      rw [List.take_add_one, List.getElem?_eq_getElem lt]
      show (xs.take i ++ [xs[i]]).Nodup
      rw [List.nodup_append]
      refine ⟨ih, by simp, fun x hx y hy e3 => ?_⟩
      rw [List.mem_singleton.mp hy] at e3
      exact c (List.any_eq_true.mpr ⟨x, hx, by rw [e3]; exact beq_self_eq_true _⟩)
theorem dN_iff {xs : List Str} : ZS.dN xs xs.length = xs.length ↔ xs.Nodup := ⟨fun h => by
  have := dN_nd xs.length (Nat.le_refl _) h
  rwa [List.take_length] at this, fun h => ZS.dN_nodup h _ (Nat.le_refl _)⟩
theorem wp_lnsF {α : Type} {f : α → Str} {ns : List α} {i : Nat} {ρ : Ev} {S : Sto} {Q : D → Sto → Prop} {E : XQ} (h : ρ[i]? = some (some (.lst (ns.map fun a => D.str (f a))))) (hl : ns.length < 4000) (q : Q (.int (ZS.dN (ns.map f) (ns.map f).length)) S) : Wp (lnsF (v i) ρ S) Q E := by
  refine wp_eq (a := .int (ZS.dN (ns.map f) (ns.map f).length)) (S := S) ?_ q
  have e : v i ρ S = .ok (.lst (ns.map fun a => D.str (f a))) S := by unfold v; rw [h]
  unfold lnsF
  rw [e]
  simp only [Out.bind, asStrs_mapT]
  rw [if_pos (by rw [List.length_map]; exact hl)]
theorem nd_ones {cs : List Nat} : (cs.map oneS).Nodup ↔ cs.Nodup := ⟨fun h => by
  induction cs with
  | nil => exact List.nodup_nil
  | cons c cs ih =>
    rw [List.map_cons, List.nodup_cons] at h
    exact List.nodup_cons.mpr ⟨fun z => h.1 (List.mem_map_of_mem z), ih h.2⟩, nodup_ones⟩
theorem e_signsS {cs : List Nat} (hl : cs.length ≤ 1000) {S : Sto} : F_are_signs [.str (mkS cs)] S = .ok (.bl (gsB cs)) S := by
  refine eq_of_wp (wp_dfn rfl ?_)
  (repeat k_upd)
  refine wp_lens (by rw [mkS_len]; omega) ?_
  rw [mkS_len]
  (repeat k_upd)
  have no : ¬ (2 ≤ cs.length ∧ cs.length ≤ 6) → gsB cs = false := fun c => by
    unfold gsB
    rw [decide_eq_false c, Bool.false_and]
  by_cases c1 : (2 : Int) ≤ cs.length
  · refine wp_dt c1 ?_
    (repeat k_upd)
    by_cases c2 : ((cs.length : Nat) : Int) ≤ 6
    · rw [decide_eq_true c2]
      (repeat k_upd)
      refine wp_lcT (ns := cs) (fun c => .str (oneS c)) (fun c => decide (c ∈ [65, 66])) (fun c => .str (oneS c)) ?_ (by omega) (fun c hc => ⟨_, rfl, ?_, fun _ => ?_⟩) ?_
      · (repeat k_upd)
        rw [signs_mkS]
      · (repeat k_upd)
        refine wp_in ?_
        (repeat k_upd)
        rw [cps_AB]
      · (repeat k_upd)
      (repeat k_upd)
      refine wp_lcU (ns := cs) (fun c => .str (oneS c)) (fun c => .bl (decide (c ∈ [97, 98, 65, 66, 111]))) ?_ (by omega) (fun c hc => ⟨_, rfl, ?_⟩) ?_
      · (repeat k_upd)
        rw [signs_mkS]
      · (repeat k_upd)
        refine wp_in ?_
        (repeat k_upd)
        rw [cps_all]
      (repeat k_upd)
      refine wp_allT ?_
      (repeat k_upd)
      have e : gsB cs = (cs.all (fun c => decide (c ∈ [97, 98, 65, 66, 111])) && decide ((cs.filter fun c => decide (c ∈ [65, 66])).Nodup)) := by
        unfold gsB
        rw [decide_eq_true ⟨by omega, by omega⟩, Bool.true_and]
      have ea : ((cs.map fun c => decide (c ∈ [97, 98, 65, 66, 111])).all id) = cs.all fun c => decide (c ∈ [97, 98, 65, 66, 111]) := by
        rw [List.all_map]
        rfl
      rw [ea]
      cases c3 : cs.all fun c => decide (c ∈ [97, 98, 65, 66, 111]) with
      | false =>
        refine wp_f rfl ?_
        rw [c3] at e
        exact wp_ok (gq_same ⟨by rw [e, Bool.false_and], rfl⟩)
      | true =>
        refine wp_t rfl ?_
        rw [c3, Bool.true_and] at e
        (repeat k_upd)
        refine wp_lnsF rfl (by have := List.length_filter_le (fun c => decide (c ∈ [65, 66])) cs; omega) ?_
        (repeat k_upd)
        refine gq_same ⟨?_, rfl⟩
        rw [e]
        congr 1
        apply decide_eq_decide.mpr
        rw [List.length_map, ← nd_ones, ← dN_iff, List.length_map]
        constructor <;> intro h <;> omega
    · rw [decide_eq_false c2]
      (repeat k_upd)
      exact gq_same ⟨by rw [no (by omega)], rfl⟩
  · refine wp_df c1 ?_
    (repeat k_upd)
    exact gq_same ⟨by rw [no (by omega)], rfl⟩
def noStr : D → Bool
  | .str _ => false
  | _ => true
theorem e_signsX {d : D} (h : Vl d) (hn : noStr d = true) {S : Sto} : F_are_signs [d] S = .ok (.bl false) S := by
  refine eq_of_wp (wp_dfn rfl ?_)
  cases h with
  | str z => cases hn
  | _ => (repeat k_upd)
theorem e_signs {cs : List Nat} (h : Gs cs) {S : Sto} : F_are_signs [.str (mkS cs)] S = .ok (.bl true) S := by
  have l6 := h.l6
  have hl : cs.length ≤ 1000 := by omega
  rw [e_signsS hl, gs_iff.mpr h]
structure Gr (cs : List Nat) (a : Int) : Prop where
  s : Gs cs
  a0 : 0 ≤ a
  a1 : a < cs.length
theorem init_ring {cs : List Nat} {a : Int} (h : Gr cs a) {S : Sto} : dfn 3 3 B_RingD_initD [.loc S.length, .str (mkS cs), .int a] (S ++ [Cell.ins "Ring" []]) = .ok .non ((S ++ [Cell.ins "Ring" []]).set S.length (Cell.ins "Ring" [("signs", .str (mkS cs)), ("across", .int a)])) := by
  have l6 := h.s.l6
  have a1 := h.a1
  refine eq_of_wp (wp_dfn rfl ?_)
  unfold B_RingD_initD
  (repeat k_upd)
  refine wp_eq (e_signs h.s) ?_
  (repeat k_upd)
  refine wp_lens (by rw [mkS_len]; omega) ?_
  rw [mkS_len]
  (repeat k_upd)
  refine btw_wp h.a0 (by omega) ?_
  (repeat k_upd)
  have e0 : (S ++ [Cell.ins "Ring" []])[S.length]? = some (.ins "Ring" []) := by simp
  refine ws_fld ?_
  (repeat k_upd)
  refine ⟨_, _, _, rfl, e0, ⟨rfl, by decide⟩, ?_⟩
  (repeat k_upd)
  refine ws_fld ?_
  (repeat k_upd)
  refine ⟨_, _, _, rfl, List.getElem?_set_self (by simp), ⟨rfl, by show 1 < 1000; decide⟩, ?_⟩
  (repeat k_upd)
  exact gq_len (by simp) ⟨rfl, by rw [List.set_set]; rfl⟩
theorem mk_ring {cs : List Nat} {a : Int} (h : Gr cs a) {S : Sto} : mkF "Ring" F_RingD_initD [.str (mkS cs), .int a] S = .ok (ringD cs a) S := mkF_of (init_ring h) (und_ring _)
/-! wrong ones -/
def sigB : D → Bool
  | .str z => gsB z.cps.toList
  | _ => false
theorem mk_cps (z : Str) : mkS z.cps.toList = z := by
  obtain ⟨a⟩ := z
  simp [mkS]
theorem e_sig {d : D} (h : Vl d) (hl : ∀ z, d = .str z → z.length ≤ 1000) {S : Sto} : F_are_signs [d] S = .ok (.bl (sigB d)) S := by
  cases h with
  | str z =>
    have e := e_signsS (cs := z.cps.toList) (S := S) (by have := hl z rfl; exact this)
    rw [mk_cps] at e
    exact e
  | _ => exact e_signsX (by constructor <;> assumption) rfl
theorem mkx_signs {d e : D} (h : Vl d) (hl : ∀ z, d = .str z → z.length ≤ 1000) (hs : sigB d = false) {S : Sto} : mkF "Ring" F_RingD_initD [d, e] S = .ex "BadRing" [("part", .str "signs")] S := by
  refine ex_of_wp (wp_mkx (T := [Cell.ins "Ring" []]) ?_ rfl ⟨rfl, rfl, rfl⟩)
  refine ex_of_wp ?_
  show Wp (dfn 3 3 B_RingD_initD [.loc S.length, d, e] _) _ _
  refine wp_dfn rfl ?_
  unfold B_RingD_initD
  (repeat k_upd)
  refine wp_eq (e_sig h hl) ?_
  rw [hs]
  (repeat k_upd)
theorem mkx_one {d : D} (h : Vl d) (hl : ∀ z, d = .str z → z.length ≤ 1000) (hs : sigB d = false) {S : Sto} : mkF "Ring" F_RingD_initD [d] S = .ex "BadRing" [("part", .str "signs")] S := mkx_signs (e := .non) h hl hs
theorem mkx_across {cs : List Nat} {d : D} (h : Gs cs) (hd : Vl d) (hn : isNon d = false) (hb : btw d 0 ((cs.length : Int) - 1) = false) {S : Sto} : mkF "Ring" F_RingD_initD [.str (mkS cs), d] S = .ex "BadRing" [("part", .str "across")] S := by
  have l6 := h.l6
  refine ex_of_wp (wp_mkx (T := [Cell.ins "Ring" []]) ?_ rfl ⟨rfl, rfl, rfl⟩)
  refine ex_of_wp ?_
  show Wp (dfn 3 3 B_RingD_initD [.loc S.length, .str (mkS cs), d] _) _ _
  refine wp_dfn rfl ?_
  unfold B_RingD_initD
  (repeat k_upd)
  refine wp_eq (e_signs h) ?_
  (repeat k_upd)
  rw [hn]
  (repeat k_upd)
  refine wp_lens (by rw [mkS_len]; omega) ?_
  rw [mkS_len]
  (repeat k_upd)
  refine wp_eq (e_btw hd _ _ _) ?_
  rw [hb]
  (repeat k_upd)
end K05
-- Q9
set_option Elab.async false
set_option linter.all false
set_option maxRecDepth 100000
set_option maxHeartbeats 4000000
namespace K05
open PySem PV
theorem mkS_cps (cs : List Nat) : (mkS cs).cps.toList = cs := by simp [mkS]
theorem x_need {cs : List Nat} {a : Int} {d : D} (h : Gr cs a) (hd : Vl d) (hb : btw d 0 ((cs.length : Int) - 1) = false) {S : Sto} : F_Ring_need_pit [ringD cs a, d] S = .ex "BadPit" [("value", d)] S := by
  have l6 := h.s.l6
  refine ex_of_wp (wp_dfn rfl ?_)
  (repeat k_upd)
  refine wp_lens (by rw [mkS_len]; omega) ?_
  rw [mkS_len]
  (repeat k_upd)
  refine wp_eq (e_btw hd _ _ _) ?_
  rw [hb]
  (repeat k_upd)
theorem x_player {cs : List Nat} {a : Int} {d : D} (h : Gr cs a) (hd : Vl d) (hb : btw d 0 ((cs.length : Int) - 1) = false) {S : Sto} : F_Ring_player_of [ringD cs a, d] S = .ex "BadPit" [("value", d)] S := by
  refine ex_of_wp (wp_dfn rfl ?_)
  (repeat k_upd)
  refine wp_exq (x_need h hd hb) ?_
  (repeat k_upd)
theorem x_opp {cs : List Nat} {a : Int} {d : D} (h : Gr cs a) (hd : Vl d) (hb : btw d 0 ((cs.length : Int) - 1) = false) {S : Sto} : F_Ring_opposite [ringD cs a, d] S = .ex "BadPit" [("value", d)] S := by
  refine ex_of_wp (wp_dfn rfl ?_)
  (repeat k_upd)
  refine wp_exq (x_need h hd hb) ?_
  (repeat k_upd)
theorem x_who {d : D} (hd : Vl d) (hb : btw d 0 1 = false) {S : Sto} : F_need_player [d] S = .ex "BadPlayer" [("value", d)] S := by
  refine ex_of_wp (wp_dfn rfl ?_)
  (repeat k_upd)
  refine wp_eq (e_btw hd _ _ _) ?_
  rw [hb]
  (repeat k_upd)
theorem x_store {cs : List Nat} {a : Int} {d : D} (hd : Vl d) (hb : btw d 0 1 = false) {S : Sto} : F_Ring_store_of [ringD cs a, d] S = .ex "BadPlayer" [("value", d)] S := by
  refine ex_of_wp (wp_dfn rfl ?_)
  (repeat k_upd)
  refine wp_exq (x_who hd hb) ?_
  (repeat k_upd)
theorem x_pits {cs : List Nat} {a : Int} {d : D} (hd : Vl d) (hb : btw d 0 1 = false) {S : Sto} : F_Ring_pits_of [ringD cs a, d] S = .ex "BadPlayer" [("value", d)] S := by
  refine ex_of_wp (wp_dfn rfl ?_)
  (repeat k_upd)
  refine wp_exq (x_who hd hb) ?_
  (repeat k_upd)
/-! what _law_heard makes of what it hears -/
section
variable {d : D} {S : Sto}
theorem h_ok : F_law_heard (.ok d S) S = .ok (.lst [d]) S := by
  show gcO S (.ok (.lst [d]) S) = _
  exact gc_same
theorem h_text : F_law_heard (.ex "BadText" [("word", .int 0), ("line", .int 0)] S) S = .ok (.tup [.str "text", .int 0, .int 0]) S := by
  refine eq_of_wp ?_
  show Wp (gcO S (fin (R_law_heard [none, some (.exc "BadText" [("word", .int 0), ("line", .int 0)]), none] S))) _ _
  refine wp_gc ?_
  unfold R_law_heard
  (repeat k_upd)
theorem h_ring {z : Str} : F_law_heard (.ex "BadRing" [("part", .str z)] S) S = .ok (.tup [.str "ring", .str z]) S := by
  refine eq_of_wp ?_
  show Wp (gcO S (fin (R_law_heard [none, some (.exc "BadRing" [("part", .str z)]), none] S))) _ _
  refine wp_gc ?_
  unfold R_law_heard
  (repeat k_upd)
theorem h_pit : F_law_heard (.ex "BadPit" [("value", d)] S) S = .ok (.tup [.str "pit", d]) S := by
  refine eq_of_wp ?_
  show Wp (gcO S (fin (R_law_heard [none, some (.exc "BadPit" [("value", d)]), none] S))) _ _
  refine wp_gc ?_
  unfold R_law_heard
  (repeat k_upd)
theorem h_player : F_law_heard (.ex "BadPlayer" [("value", d)] S) S = .ok (.tup [.str "player", d]) S := by
  refine eq_of_wp ?_
  show Wp (gcO S (fin (R_law_heard [none, some (.exc "BadPlayer" [("value", d)]), none] S))) _ _
  refine wp_gc ?_
  unfold R_law_heard
  (repeat k_upd)
end
theorem lamx {m : ME} {ρ : Ev} {S S1 S2 : Sto} {c : String} {fs : List (String × D)} {d : D} (e : m ρ S = .ex c fs S1) (h : F_law_heard (.ex c fs S1) S = .ok d S2) : lamc F_law_heard m ρ S = .ok d S2 := by
  unfold lamc
  rw [e]
  simp only [h]
/-! texts -/
def ringT (cs : List Nat) (a : Int) : Str := (Str.empty ++ mkS cs ++ (" " : String)) ++ strOf a
theorem dig_ok {a : Int} (h0 : 0 ≤ a) (h1 : a ≤ 5) : a.natAbs.log2 < 1920 := by
  have := Nat.log2_le_self a.natAbs
  omega
theorem str_len {a : Int} (h0 : 0 ≤ a) (h1 : a ≤ 5) : (strOf a).length = 1 := len_digit ⟨h0, h1⟩
theorem app_len (a b : Str) : (a ++ b).length = a.length + b.length := by
  show (a.cps ++ b.cps).size = _
  rw [Array.size_append]
  rfl
theorem app_cps (a b : Str) : (a ++ b).cps.toList = a.cps.toList ++ b.cps.toList := by
  show (a.cps ++ b.cps).toList = _
  simp
theorem sp_len : (((" " : String)) : Str).length = 1 := rfl
theorem e_str {cs : List Nat} {a : Int} (h : Gr cs a) {S : Sto} : F_RingD_strD [ringD cs a] S = .ok (.str (ringT cs a)) S := by
  have l6 := h.s.l6
  have a0 := h.a0
  have a1 := h.a1
  have ls := str_len a0 (show a ≤ 5 by omega)
  have lm := mkS_len cs
  have ld := dig_ok a0 (show a ≤ 5 by omega)
  have sl := PV.sizeLine_eq
  refine eq_of_wp (wp_dfn rfl ?_)
  (repeat k_upd)
  refine wp_eq (a := .str (ringT cs a)) (S := S) ?_ ?_
  · have e1 : fmE (una (fldG ["Ring"] "signs") (v 0)) [some (ringD cs a)] S = .ok (.str (mkS cs)) S := by
      show (if (mkS cs).length ≤ sizeLine then _ else _) = _
      rw [if_pos (by omega)]
    have e2 : fmE (una (fldG ["Ring"] "across") (v 0)) [some (ringD cs a)] S = .ok (.str (strOf a)) S := by
      show (if a.natAbs.log2 < 1920 then _ else _) = _
      rw [if_pos ld]
    have l0 : Str.empty.length = 0 := rfl
    have l1 : (((" " : String)) : Str).length = 1 := rfl
    unfold jsE jsL
    rw [e1]
    simp only [Out.bind]
    rw [if_pos (by rw [app_len]; omega)]
    unfold jsL
    simp only [k, Out.bind]
    rw [if_pos (by rw [app_len, app_len]; omega)]
    unfold jsL
    rw [e2]
    simp only [Out.bind]
    rw [if_pos (by rw [app_len, app_len, app_len]; omega)]
    rfl
  · (repeat k_upd)
theorem e_eq {cs ds : List Nat} {a b : Int} {S : Sto} : F_RingD_eqD [ringD cs a, ringD ds b] S = .ok (.bl (decide (mkS cs = mkS ds) && decide (a = b))) S := by
  refine eq_of_wp (wp_dfn rfl ?_)
  (repeat k_upd)
  refine wp_eqv (eqD_str _ _) ?_
  (repeat k_upd)
  by_cases c : mkS cs = mkS ds
  · refine wp_dt c ?_
    (repeat k_upd)
    exact gq_same ⟨by rw [decide_eq_true c, Bool.true_and], rfl⟩
  · refine wp_df c ?_
    (repeat k_upd)
    exact gq_same ⟨by rw [decide_eq_false c, Bool.false_and], rfl⟩
theorem near_signs {cs : List Nat} (h : Gs cs) : near (mkS cs) = true := near_iff.mpr fun c hc => by
  have : c ∈ cs := by simpa [TL.tl, mkS] using hc
  have := h.ok c this
  simp at this
  omega
theorem app_empty (a : Str) : Str.empty ++ a = a := by
  show Str.mk _ = a
  obtain ⟨c⟩ := a
  simp [Str.empty]
theorem near_app {a b : Str} (ha : near a = true) (hb : near b = true) : near (a ++ b) = true := near_iff.mpr fun c hc => by
  have : c ∈ TL.tl a ++ TL.tl b := by
    have e : TL.tl (a ++ b) = TL.tl a ++ TL.tl b := by
      show (a.cps ++ b.cps).toList = _
      simp [TL.tl]
    rw [e] at hc
    exact hc
  rcases List.mem_append.mp this with h | h
  · exact near_iff.mp ha c h
  · exact near_iff.mp hb c h
theorem near_dig1 {a : Int} (h0 : 0 ≤ a) (h1 : a ≤ 5) : near (strOf a) = true := near_iff.mpr fun c hc => by have := (near_digit ⟨h0, h1⟩ c hc).2; omega
theorem near_text {cs : List Nat} {a : Int} (h : Gr cs a) : near (ringT cs a) = true := by
  have a0 := h.a0
  have a1 := h.a1
  have l6 := h.s.l6
  unfold ringT
  rw [app_empty]
  exact near_app (near_app (near_signs h.s) (by decide +kernel)) (near_dig1 a0 (by omega))
theorem len_text {cs : List Nat} {a : Int} (h : Gr cs a) : (ringT cs a).length ≤ 8 := by
  have a0 := h.a0
  have a1 := h.a1
  have l6 := h.s.l6
  unfold ringT
  rw [app_empty, app_len, app_len, mkS_len, sp_len, str_len a0 (by omega)]
  omega
theorem strO_r {cs : List Nat} {a : Int} {S : Sto} (h : Gr cs a) : strO [("Ring", F_RingD_strD)] strB [ringD cs a] S = .ok (.str (ringT cs a)) S := by
  show okStr (F_RingD_strD [ringD cs a] S) = _
  rw [e_str h]
  rfl
theorem neO_r {cs ds : List Nat} {a b : Int} {S : Sto} : neO [("Ring", F_RingD_eqD)] ["Ring"] (eqG true) (ringD cs a) (ringD ds b) S = .ok (.bl (!(decide (mkS cs = mkS ds) && decide (a = b)))) S := by
  show notB (F_RingD_eqD [ringD cs a, ringD ds b] S) = _
  rw [e_eq]
  rfl
theorem split_text {cs : List Nat} {a : Int} (h : Gr cs a) : Txt.split (ringT cs a) ((" " : String) : Str) = [mkS cs, strOf a] := by
  have a0 := h.a0
  have a1 := h.a1
  have l6 := h.s.l6
  have e : ringT cs a = Txt.join ((" " : String) : Str) [mkS cs, strOf a] := by
    unfold ringT
    rw [app_empty]
    rw [show Txt.join ((" " : String) : Str) [mkS cs, strOf a] = Str.join ((" " : String) : Str) [mkS cs, strOf a] from StrLaws.glued_eq_join _ _]
    rfl
  rw [e]
  refine TL.split_join (s := 32) (S := []) (by decide +kernel) (by decide +kernel) (by simp) fun p hp => ?_
  rcases List.mem_cons.mp hp with rfl | hp
  · intro z
    have : 32 ∈ cs := by simpa [TL.tl, mkS] using z
    have := h.s.ok 32 this
    simp at this
  · rw [List.mem_singleton.mp hp]
    exact fun z => (near_digit ⟨a0, by omega⟩ 32 z).1 rfl
end K05
-- Q9
set_option Elab.async false
set_option linter.all false
set_option maxRecDepth 100000
set_option maxHeartbeats 4000000
namespace K05
open PySem PV
/-- the number of one figure -/
def numO (w : List Nat) : Option Int := match w with
  | [c] => if 48 ≤ c ∧ c ≤ 57 then some ((c : Int) - 48) else none
  | _ => none
def oD : Option Int → D
  | some n => .int n
  | none => .non
theorem cps_figs : ("0123456789" : Str).cps.toList = [48, 49, 50, 51, 52, 53, 54, 55, 56, 57] := by decide +kernel
theorem mem_figs {c : Nat} : c ∈ [48, 49, 50, 51, 52, 53, 54, 55, 56, 57] ↔ 48 ≤ c ∧ c ≤ 57 := by
  simp only [List.mem_cons, List.not_mem_nil, or_false]
  omega
theorem int_fig {c : Nat} (h : 48 ≤ c ∧ c ≤ 57) (S : Sto) : intB [.str (oneS c)] S = .ok (.int ((c : Int) - 48)) S := by
  have e : PySem.intText? (oneS c) = some ((c : Int) - 48) := by
    have hc : c = 48 ∨ c = 49 ∨ c = 50 ∨ c = 51 ∨ c = 52 ∨ c = 53 ∨ c = 54 ∨ c = 55 ∨ c = 56 ∨ c = 57 := by omega
    rcases hc with rfl | rfl | rfl | rfl | rfl | rfl | rfl | rfl | rfl | rfl <;> decide +kernel
  have l : (oneS c).length ≤ 640 := by show 1 ≤ 640; decide
  simp only [intB, e, l, if_true]
theorem zero_str : ("0" : Str) = oneS 48 := by decide +kernel
theorem e_num {w : List Nat} (hl : w.length ≤ 1000) {S : Sto} : F_number_in [.str (mkS w), .int 1] S = .ok (oD (numO w)) S := by
  refine eq_of_wp (wp_dfn rfl ?_)
  (repeat k_upd)
  refine wp_lens (by rw [mkS_len]; omega) ?_
  rw [mkS_len]
  (repeat k_upd)
  match w, hl with
  | [], _ =>
    refine wp_df (by decide) ?_
    (repeat k_upd)
  | a :: b :: r, hl =>
    refine wp_dt (by simp only [List.length_cons]; omega) ?_
    (repeat k_upd)
    rw [decide_eq_false (by simp only [List.length_cons]; omega)]
    (repeat k_upd)
  | [c], _ =>
    refine wp_dt (by simp) ?_
    (repeat k_upd)
    rw [decide_eq_true (show (([c] : List Nat).length : Int) ≤ 1 by simp)]
    (repeat k_upd)
    refine wp_lcU (ns := [c]) (fun c => .str (oneS c)) (fun c => .bl (decide (c ∈ [48, 49, 50, 51, 52, 53, 54, 55, 56, 57]))) ?_ (by simp) (fun c hc => ⟨_, rfl, ?_⟩) ?_
    · (repeat k_upd)
      rw [signs_mkS]
      rfl
    · (repeat k_upd)
      refine wp_in ?_
      (repeat k_upd)
      rw [cps_figs]
    (repeat k_upd)
    refine wp_eq (a := .bl (decide (c ∈ [48, 49, 50, 51, 52, 53, 54, 55, 56, 57]))) (S := S) ?_ ?_
    · show Out.ok (D.bl (_ && true)) S = _
      rw [Bool.and_true]
      rfl
    (repeat k_upd)
    by_cases c1 : 48 ≤ c ∧ c ≤ 57
    · rw [decide_eq_true (mem_figs.mpr c1)]
      (repeat k_upd)
      have e1 : numO [c] = some ((c : Int) - 48) := if_pos c1
      have q : Gq S (fun d' S' => d' = oD (numO [c]) ∧ S' = S) nX (.int ((c : Int) - 48)) S := gq_same ⟨by rw [e1]; rfl, rfl⟩
      refine wp_eqv (eqD_str _ _) ?_
      rw [zero_str]
      (repeat k_upd)
      by_cases c2 : mkS [c] = oneS 48
      · refine wp_dt c2 ?_
        (repeat k_upd)
        refine wp_eq (int_fig c1 S) ?_
        exact q
      · refine wp_df c2 ?_
        (repeat k_upd)
        refine wp_ixs (c := c) (by decide) rfl (by simp) ?_
        (repeat k_upd)
        refine wp_eqv (eqD_str _ _) ?_
        (repeat k_upd)
        refine wp_nt (fun z => c2 z) ?_
        (repeat k_upd)
        refine wp_eq (int_fig c1 S) ?_
        exact q
    · rw [decide_eq_false (fun z => c1 (mem_figs.mp z))]
      have e1 : numO [c] = none := if_neg c1
      rw [e1]
      (repeat k_upd)
/-- what a text tells -/
def readB (ws : List Str) : Option (List Nat × Int) := match ws with
  | [w0, w1] => if gsB w0.cps.toList = true then (match numO w1.cps.toList with
      | some n => if n < w0.length then some (w0.cps.toList, n) else none
      | none => none) else none
  | _ => none
theorem oD_s {n : Int} : oD (some n) = .int n := rfl
theorem oD_n : oD none = .non := rfl
theorem num_ge {w : List Nat} {n : Int} (h : numO w = some n) : 0 ≤ n := by
  unfold numO at h
  split at h
  · split at h
    · cases h; omega
    · cases h
  · cases h
theorem readB_two {w0 w1 : Str} {cs : List Nat} {n : Int} : readB [w0, w1] = some (cs, n) ↔ gsB w0.cps.toList = true ∧ numO w1.cps.toList = some n ∧ n < w0.length ∧ cs = w0.cps.toList := by
  show (if gsB w0.cps.toList = true then (match numO w1.cps.toList with
      | some n => if n < w0.length then some (w0.cps.toList, n) else none
      | none => none) else none) = some (cs, n) ↔ _
  cases g : gsB w0.cps.toList with
  | false => simp
  | true =>
    cases m : numO w1.cps.toList with
    | none => simp
    | some k =>
      by_cases c : k < w0.length
      · simp only [if_true, c, if_true, Option.some.injEq, Prod.mk.injEq, true_and]
        exact ⟨fun h => ⟨h.2, by rw [← h.2]; exact c, h.1.symm⟩, fun h => ⟨h.2.2.symm, h.1⟩⟩
      · simp only [if_true, c, if_false, Option.some.injEq, true_and]
        exact ⟨fun h => (by cases h), fun h => absurd (h.1 ▸ h.2.1) c⟩
theorem readB_gr {ws : List Str} {cs : List Nat} {n : Int} (h : readB ws = some (cs, n)) : Gr cs n := by
  unfold readB at h
  split at h
  · rename_i w0 w1
    split at h
    · rename_i hg
      split at h
      · rename_i m hm
        split at h
        · rename_i hn
          cases h
          exact ⟨gs_iff.mp hg, num_ge hm, hn⟩
        · cases h
      · cases h
    · cases h
  · cases h
theorem wp_split {z : Str} {S : Sto} {Q : D → Sto → Prop} {E : XQ} (h : z.length ≤ 900) (q : Q (.lst ((Txt.split z ((" " : String) : Str)).map .str)) S) : Wp (splitG (.str z) (.str " ") S) Q E := by
  refine wp_eq (a := .lst ((Txt.split z ((" " : String) : Str)).map .str)) (S := S) ?_ q
  have e := PV.sizeLine_eq
  have c : (((" " : String) : Str).length == 0) = false ∧ z.length + 2 ≤ sizeLine := ⟨by decide +kernel, by rw [e]; omega⟩
  simp only [splitG, c, and_self, if_true]
theorem spl_len : ∀ (l acc : List Nat), TL.spl [32] 0 acc l ≠ [] ∧ ((TL.spl [32] 0 acc l).map List.length).sum + (TL.spl [32] 0 acc l).length = acc.length + l.length + 1
  | [], acc => by rw [TL.spl_nil]; simp
  | c :: r, acc => by
    by_cases h : TL.pre [32] (c :: r) = true
    · rw [TL.spl_hit h]
      obtain ⟨h1, h2⟩ := spl_len r []
      refine ⟨by simp, ?_⟩
      have e : ([32] : List Nat).length - 1 = 0 := rfl
      rw [e]
      simp only [List.map_cons, List.sum_cons, List.length_cons, List.length_nil] at h2 ⊢
      omega
    · have h := Bool.eq_false_iff.mpr h
      rw [TL.spl_miss h]
      obtain ⟨h1, h2⟩ := spl_len r (acc ++ [c])
      refine ⟨h1, ?_⟩
      rw [h2]
      simp
      omega
theorem split_len (t : Str) : Txt.split t " " ≠ [] ∧ ((Txt.split t " ").map (·.length)).sum + (Txt.split t " ").length = t.length + 1 := by
  have e := TL.split_spl t " " (by decide) (TL.kind_ok (by decide +kernel))
  obtain ⟨h1, h2⟩ := spl_len (TL.tl t) []
  have e2 : TL.tl (" " : Str) = [32] := by decide
  rw [e2] at e
  rw [← e] at h1 h2
  refine ⟨fun z => h1 (by rw [z]; rfl), ?_⟩
  rw [List.map_map, List.length_map] at h2
  have e3 : (List.length ∘ TL.tl) = fun x : Str => x.length := by
    funext x
    exact (TL.len_tl x).symm
  rw [e3] at h2
  rw [h2, TL.len_tl t]
  simp
theorem x_readN {d : D} (h : Vl d) (hn : noStr d = true) {S : Sto} : F_Ring_read [.cls "Ring", d] S = .ex "BadText" [("word", .int 0), ("line", .int 0)] S := by
  refine ex_of_wp (wp_dfn rfl ?_)
  unfold B_Ring_read
  cases h with
  | str z => cases hn
  | _ =>
    (repeat k_upd)
    refine wp_nt (by decide) ?_
    (repeat k_upd)
end K05
-- Q9
-- simp: oD_s, oD_n
set_option Elab.async false
set_option linter.all false
set_option maxRecDepth 100000
set_option maxHeartbeats 4000000
namespace K05
open PySem PV
theorem ws_pos {t : Str} : ∃ w r, Txt.split t ((" " : String) : Str) = w :: r := by
  have h := (split_len t).1
  cases e : Txt.split t ((" " : String) : Str) with
  | nil => exact absurd e h
  | cons w r => exact ⟨w, r, rfl⟩
theorem le_sum {x : Nat} : ∀ {l : List Nat}, x ∈ l → x ≤ l.sum
  | y :: l, h => by
    rw [List.sum_cons]
    rcases List.mem_cons.mp h with rfl | h
    · omega
    · have := le_sum h
      omega
theorem mkL_ok {c : String} {g : Fn} {i : Nat} {ms : MA} {ρ : Ev} {S S1 S2 : Sto} {ds : List D} {d : D} (h : ρ[i]? = some (some (.cls c))) (ha : ms ρ S = .ok ds S1) (e : g ds S1 = .ok d S2) : mkL c g i ms ρ S = .ok d S2 := by
  unfold mkL
  simp only [h]
  rw [if_pos (by simp [isCl]), ha]
  exact e
theorem ws_len {t w : Str} (h : w ∈ Txt.split t ((" " : String) : Str)) : w.length ≤ t.length := by
  have e := (split_len t).2
  have hp := (split_len t).1
  have : w.length ≤ ((Txt.split t ((" " : String) : Str)).map (·.length)).sum := le_sum (List.mem_map_of_mem h)
  have := List.length_pos_iff.mpr hp
  omega
theorem readB_ne {ws : List Str} (h : ws.length ≠ 2) : readB ws = none := by
  unfold readB
  split
  · exact absurd rfl h
  · rfl
def readO (o : Option (List Nat × Int)) (S : Sto) : Out D := match o with
  | some (cs, n) => .ok (ringD cs n) S
  | none => .ex "BadText" [("word", .int 0), ("line", .int 0)] S
theorem ex_readS {z : Str} (hl : z.length ≤ 900) {S : Sto} (hr : readB (Txt.split z ((" " : String) : Str)) = none) : F_Ring_read [.cls "Ring", .str z] S = .ex "BadText" [("word", .int 0), ("line", .int 0)] S := by
  refine ex_of_wp (wp_dfn rfl ?_)
  unfold B_Ring_read
  (repeat (first | simp -dsimp -implicitDefEqProofs only [oD_s, oD_n] | k_upd))
  refine wp_split hl ?_
  (repeat (first | simp -dsimp -implicitDefEqProofs only [oD_s, oD_n] | k_upd))
  rw [List.length_map]
  match e : Txt.split z ((" " : String) : Str), hr with
  | [], _ =>
    refine wp_nt (by decide) ?_
    (repeat (first | simp -dsimp -implicitDefEqProofs only [oD_s, oD_n] | k_upd))
  | [w], _ =>
    refine wp_nt (by simp) ?_
    (repeat (first | simp -dsimp -implicitDefEqProofs only [oD_s, oD_n] | k_upd))
  | a :: b :: c :: r, _ =>
    refine wp_nt (by simp only [List.length_cons]; omega) ?_
    (repeat (first | simp -dsimp -implicitDefEqProofs only [oD_s, oD_n] | k_upd))
  | [w0, w1], hr =>
    have l0 : w0.length ≤ 900 := Nat.le_trans (ws_len (t := z) (by rw [e]; simp)) hl
    have l1 : w1.length ≤ 900 := Nat.le_trans (ws_len (t := z) (by rw [e]; simp)) hl
    refine wp_nf (by simp) ?_
    (repeat (first | simp -dsimp -implicitDefEqProofs only [oD_s, oD_n] | k_upd))
    have es := e_signsS (cs := w0.cps.toList) (S := S) (by show w0.length ≤ 1000; omega)
    rw [mk_cps] at es
    refine wp_eq es ?_
    cases g : gsB w0.cps.toList with
    | false =>
      (repeat (first | simp -dsimp -implicitDefEqProofs only [oD_s, oD_n] | k_upd))
    | true =>
      (repeat (first | simp -dsimp -implicitDefEqProofs only [oD_s, oD_n] | k_upd))
      have en := e_num (w := w1.cps.toList) (S := S) (by show w1.length ≤ 1000; omega)
      rw [mk_cps] at en
      refine wp_eq en ?_
      cases m : numO w1.cps.toList with
      | none =>
        (repeat (first | simp -dsimp -implicitDefEqProofs only [oD_s, oD_n] | k_upd))
      | some n =>
        have hge : ¬ n < w0.length := by
          intro c
          have := readB_two.mpr ⟨g, m, c, rfl⟩
          rw [hr] at this
          cases this
        (repeat (first | simp -dsimp -implicitDefEqProofs only [oD_s, oD_n] | k_upd))
        refine wp_lens (by omega) ?_
        (repeat (first | simp -dsimp -implicitDefEqProofs only [oD_s, oD_n] | k_upd))
        refine ws_dt (by omega) ?_
        (repeat (first | simp -dsimp -implicitDefEqProofs only [oD_s, oD_n] | k_upd))
theorem e_readS {z : Str} (hl : z.length ≤ 900) {S : Sto} {cs : List Nat} {n : Int} (hr : readB (Txt.split z ((" " : String) : Str)) = some (cs, n)) : F_Ring_read [.cls "Ring", .str z] S = .ok (ringD cs n) S := by
  have gr := readB_gr hr
  refine eq_of_wp (wp_dfn rfl ?_)
  unfold B_Ring_read
  (repeat (first | simp -dsimp -implicitDefEqProofs only [oD_s, oD_n] | k_upd))
  refine wp_split hl ?_
  (repeat (first | simp -dsimp -implicitDefEqProofs only [oD_s, oD_n] | k_upd))
  rw [List.length_map]
  match e : Txt.split z ((" " : String) : Str), hr with
  | [], hr => cases hr
  | [w], hr => cases hr
  | a :: b :: c :: r, hr => cases hr
  | [w0, w1], hr =>
    have l0 : w0.length ≤ 900 := Nat.le_trans (ws_len (t := z) (by rw [e]; simp)) hl
    have l1 : w1.length ≤ 900 := Nat.le_trans (ws_len (t := z) (by rw [e]; simp)) hl
    refine wp_nf (by simp) ?_
    (repeat (first | simp -dsimp -implicitDefEqProofs only [oD_s, oD_n] | k_upd))
    have es := e_signsS (cs := w0.cps.toList) (S := S) (by show w0.length ≤ 1000; omega)
    rw [mk_cps] at es
    refine wp_eq es ?_
    obtain ⟨g, hm, hn, rfl⟩ := readB_two.mp hr
    rw [g]
    (repeat (first | simp -dsimp -implicitDefEqProofs only [oD_s, oD_n] | k_upd))
    have en := e_num (w := w1.cps.toList) (S := S) (by show w1.length ≤ 1000; omega)
    rw [mk_cps] at en
    refine wp_eq en ?_
    rw [hm]
    (repeat (first | simp -dsimp -implicitDefEqProofs only [oD_s, oD_n] | k_upd))
    refine wp_lens (by omega) ?_
    (repeat (first | simp -dsimp -implicitDefEqProofs only [oD_s, oD_n] | k_upd))
    refine ws_df (by omega) ?_
    (repeat (first | simp -dsimp -implicitDefEqProofs only [oD_s, oD_n] | k_upd))
    have er := mk_ring gr (S := S)
    rw [mk_cps] at er
    refine wp_eq (mkL_ok (S1 := S) (ds := [.str w0, .int n]) rfl ?_ er) ?_
    · refine eq_of_wp ?_
      (repeat (first | simp -dsimp -implicitDefEqProofs only [oD_s, oD_n] | k_upd))
    · (repeat (first | simp -dsimp -implicitDefEqProofs only [oD_s, oD_n] | k_upd))
end K05
-- Q9
-- simp: oD_s, oD_n
set_option Elab.async false
set_option linter.all false
set_option maxRecDepth 100000
set_option maxHeartbeats 4000000
namespace K05
open PySem PV PyProof.Rows
theorem toPs_ones : ∀ ns : List Nat, toPs (ns.map fun c => D.str (oneS c)) = some (ns.map fun c => PyData.str (oneS c))
  | [] => rfl
  | n :: ns => by
    have := toPs_ones ns
    simp [toPs, toP, this]
theorem lay_strs : ∀ zs : List Str, (∀ z ∈ zs, near z = true) → PyData.canLayAll0 (zs.map PyData.str) = true
  | [], _ => by simp [PyData.canLayAll0]
  | z :: zs, h => by
    have h1 : PyData.strOk z = true := h z List.mem_cons_self
    have h2 := lay_strs zs fun y hy => h y (List.mem_cons_of_mem _ hy)
    simp [PyData.canLayAll0, PyData.canLay0, h1, h2]
theorem depth_strs : ∀ zs : List Str, PyData.depthAll (zs.map PyData.str) = 0
  | [] => by simp [PyData.depthAll]
  | z :: zs => by simp [PyData.depthAll, PyData.depth, depth_strs zs]
theorem shaped_strs {zs : List Str} (h : ∀ z ∈ zs, near z = true) : SeqAt.shaped (.list (zs.map PyData.str)) = true := by
  simp [SeqAt.shaped, PyData.canLay0, lay_strs zs h, PyData.depth, depth_strs]
theorem near_one {c : Nat} (h : c < 0x110000) : near (oneS c) = true := near_iff.mpr fun d hd => by
  have : d = c := by simpa [TL.tl] using hd
  rw [this]; exact h
theorem eqD_ones {ns : List Nat} (h : ∀ c ∈ ns, c < 0x110000) : eqD (.lst (ns.map fun c => .str (oneS c))) (.lst []) = some (decide (ns = [])) := by
  have h1 : SeqAt.shaped (.list (ns.map fun c => PyData.str (oneS c))) = true := by
    have := shaped_strs (zs := ns.map oneS) fun z hz => by
      obtain ⟨c, hc, rfl⟩ := List.mem_map.mp hz
      exact near_one (h c hc)
    rwa [List.map_map] at this
  have h2 : SeqAt.shaped (.list []) = true := by decide +kernel
  have e1 : toP (.lst (ns.map fun c => .str (oneS c))) = some (.list (ns.map fun c => PyData.str (oneS c))) := by rw [toP, toPs_ones]; rfl
  have e2 : toP (.lst []) = some (.list []) := rfl
  show eqP _ _ = _
  unfold eqP
  rw [e1, e2]
  show (if _ then _ else _) = _
  rw [if_pos ⟨h1, h2⟩]
  cases ns <;> rfl
/-! counting -/
theorem cnt_ge (c : Nat) : ∀ l : List Nat, 0 ≤ cnt c l
  | [] => by rw [cnt_nil]; decide
  | n :: r => by
    rw [cnt_cons]
    have := cnt_ge c r
    split <;> omega
theorem cnt_zero {c : Nat} : ∀ {l : List Nat}, cnt c l = 0 ↔ c ∉ l
  | [] => by simp [cnt_nil]
  | n :: r => by
    have h := cnt_zero (c := c) (l := r)
    have := cnt_ge c r
    rw [cnt_cons, List.mem_cons]
    by_cases e : n = c
    · rw [if_pos e]
      constructor
      · intro z; omega
      · intro z; exact absurd (Or.inl e.symm) z
    · rw [if_neg e]
      constructor
      · intro z y
        rcases y with y | y
        · exact e y.symm
        · exact h.mp (by omega) y
      · intro z
        have := h.mpr fun y => z (.inr y)
        omega
theorem nd_cnt : ∀ {l : List Nat}, (l.filter fun c => decide (c ∈ [65, 66])).Nodup ↔ cnt 65 l ≤ 1 ∧ cnt 66 l ≤ 1
  | [] => by simp [cnt_nil]
  | n :: r => by
    have ih := nd_cnt (l := r)
    have z5 := cnt_zero (c := 65) (l := r)
    have z6 := cnt_zero (c := 66) (l := r)
    have g5 := cnt_ge 65 r
    have g6 := cnt_ge 66 r
    rw [cnt_cons, cnt_cons]
    by_cases h5 : n = 65
    · subst h5
      rw [List.filter_cons_of_pos (by decide), List.nodup_cons, ih, List.mem_filter, if_pos rfl, if_neg (by decide)]
      constructor
      · rintro ⟨a, b, c⟩
        have := z5.mpr fun y => a ⟨y, by decide⟩
        omega
      · rintro ⟨a, b⟩
        exact ⟨fun y => z5.mp (by omega) y.1, by omega, by omega⟩
    · by_cases h6 : n = 66
      · subst h6
        rw [List.filter_cons_of_pos (by decide), List.nodup_cons, ih, List.mem_filter, if_pos rfl, if_neg (by decide)]
        constructor
        · rintro ⟨a, b, c⟩
          have := z6.mpr fun y => a ⟨y, by decide⟩
          omega
        · rintro ⟨a, b⟩
          exact ⟨fun y => z6.mp (by omega) y.1, by omega, by omega⟩
      · rw [List.filter_cons_of_neg (by simp [h5, h6]), ih, if_neg h5, if_neg h6]
        constructor <;> rintro ⟨a, b⟩ <;> exact ⟨by omega, by omega⟩
/-! figures -/
theorem strOf_fig {i : Nat} (h : i ≤ 5) : strOf (i : Int) = oneS (48 + i) := by
  have : i = 0 ∨ i = 1 ∨ i = 2 ∨ i = 3 ∨ i = 4 ∨ i = 5 := by omega
  rcases this with rfl | rfl | rfl | rfl | rfl | rfl <;> decide +kernel
theorem fig_iff {w : Str} {n : Nat} (hn : n ≤ 6) : (∃ i, i < n ∧ w = oneS (48 + i)) ↔ ∃ k, numO w.cps.toList = some k ∧ k < n := by
  constructor
  · rintro ⟨i, hi, rfl⟩
    refine ⟨(i : Int), ?_, by omega⟩
    show (if _ then _ else _) = _
    rw [if_pos (by omega)]
    congr 1
    omega
  · rintro ⟨k, hk, h⟩
    unfold numO at hk
    split at hk
    · rename_i c e
      split at hk
      · rename_i hc
        cases hk
        refine ⟨c - 48, by omega, ?_⟩
        rw [show 48 + (c - 48) = c by omega, ← mk_cps w, e]
        rfl
      · cases hk
    · cases hk
theorem in_figs {w : Str} {n : Nat} (hw : near w = true) (hn : n ≤ 6) (S : Sto) : inG false (.str w) (.lst ((List.range n).map fun (i : Nat) => .str (strOf i))) S = .ok (.bl (decide (∃ k, numO w.cps.toList = some k ∧ k < (n : Int)))) S := by
  have e0 : ((List.range n).map fun (i : Nat) => D.str (strOf i)) = ((List.range n).map fun i => 48 + i).map fun c => D.str (oneS c) := by
    rw [List.map_map]
    refine List.map_congr_left fun i hi => ?_
    have := List.mem_range.mp hi
    rw [strOf_fig (by omega)]
    rfl
  have hs : SeqAt.shaped (.list (((List.range n).map fun i => 48 + i).map fun c => PyData.str (oneS c))) = true := by
    have := shaped_strs (zs := ((List.range n).map fun i => 48 + i).map oneS) fun z hz => by
      obtain ⟨c, hc, rfl⟩ := List.mem_map.mp hz
      obtain ⟨i, hi, rfl⟩ := List.mem_map.mp hc
      have := List.mem_range.mp hi
      exact near_one (by omega)
    rwa [List.map_map] at this
  rw [e0]
  unfold inG inD
  simp only [toP, toPs_ones]
  rw [if_pos ⟨shaped_str hw, hs⟩]
  simp only [Bool.false_xor]
  congr 2
  rw [Bool.eq_iff_iff, decide_eq_true_eq, ← fig_iff hn, List.any_eq_true]
  constructor
  · rintro ⟨q, hq, he⟩
    obtain ⟨c, hc, rfl⟩ := List.mem_map.mp hq
    obtain ⟨i, hi, rfl⟩ := List.mem_map.mp hc
    refine ⟨i, List.mem_range.mp hi, ?_⟩
    have : (oneS (48 + i) == w) = true := by simpa [PyData.eqv] using he
    exact (eq_of_beq this).symm
  · rintro ⟨i, hi, rfl⟩
    exact ⟨_, List.mem_map_of_mem (List.mem_map_of_mem (List.mem_range.mpr hi)), by simp [PyData.eqv]⟩
end K05
-- Q9
-- simp: oD_s, oD_n
set_option Elab.async false
set_option linter.all false
set_option maxRecDepth 100000
set_option maxHeartbeats 4000000
namespace K05
open PySem PV PyProof.Rows
theorem near_split {t w : Str} (h : near t = true) (hw : w ∈ Txt.split t ((" " : String) : Str)) : near w = true := near_iff.mpr fun c hc => by
  have e := StrLaws.join_split t ((" " : String) : Str)
  have go : ∀ (ws : List Str), w ∈ ws → c ∈ (Str.join ((" " : String) : Str) ws).cps.toList := by
    intro ws
    induction ws with
    | nil => intro h; cases h
    | cons a r ih =>
      intro h
      cases r with
      | nil =>
        rw [List.mem_singleton.mp h] at hc
        exact hc
      | cons b r =>
        show c ∈ (a ++ ((" " : String) : Str) ++ Str.join ((" " : String) : Str) (b :: r)).cps.toList
        rw [app_cps, app_cps]
        rcases List.mem_cons.mp h with rfl | h
        · exact List.mem_append_left _ (List.mem_append_left _ hc)
        · exact List.mem_append_right _ (ih h)
  have := go _ hw
  rw [e] at this
  exact near_iff.mp h c this
theorem count_one (z : Str) (c : Nat) : Txt.count z (oneS c) = cnt c z.cps.toList := count_is z c
theorem A_one : ("A" : Str) = oneS 65 := by decide +kernel
theorem B_one : ("B" : Str) = oneS 66 := by decide +kernel
theorem wp_count {z : Str} {c : Nat} {S : Sto} {Q : D → Sto → Prop} {E : XQ} (q : Q (.int (cnt c z.cps.toList)) S) : Wp (countG (.str z) (.str (oneS c)) S) Q E := by
  refine wp_eq (a := .int (cnt c z.cps.toList)) (S := S) ?_ q
  show Out.ok (D.int (Txt.count z (oneS c))) S = _
  rw [count_one]
theorem e_isT {z : Str} (hl : z.length ≤ 900) (hz : near z = true) {S : Sto} : F_law_is_text [.str z] S = .ok (.bl (readB (Txt.split z ((" " : String) : Str))).isSome) S := by
  refine eq_of_wp (wp_dfn rfl ?_)
  (repeat (first | simp -dsimp -implicitDefEqProofs only [oD_s, oD_n] | k_upd))
  refine wp_split hl ?_
  (repeat (first | simp -dsimp -implicitDefEqProofs only [oD_s, oD_n] | k_upd))
  rw [List.length_map]
  match e : Txt.split z ((" " : String) : Str) with
  | [] =>
    refine wp_nt (by decide) ?_
    (repeat (first | simp -dsimp -implicitDefEqProofs only [oD_s, oD_n] | k_upd))
  | [w] =>
    refine wp_nt (by simp) ?_
    (repeat (first | simp -dsimp -implicitDefEqProofs only [oD_s, oD_n] | k_upd))
  | a :: b :: c :: r =>
    refine wp_nt (by simp only [List.length_cons]; omega) ?_
    (repeat (first | simp -dsimp -implicitDefEqProofs only [oD_s, oD_n] | k_upd))
  | [w0, w1] =>
    have l0 : w0.length ≤ 900 := Nat.le_trans (ws_len (t := z) (by rw [e]; simp)) hl
    have l1 : w1.length ≤ 900 := Nat.le_trans (ws_len (t := z) (by rw [e]; simp)) hl
    have n0 := near_split hz (w := w0) (by rw [e]; simp)
    have n1 := near_split hz (w := w1) (by rw [e]; simp)
    have no : gsB w0.cps.toList = false → (readB [w0, w1]).isSome = false := fun g => by
      cases m : readB [w0, w1] with
      | none => rfl
      | some p =>
        obtain ⟨cs, n⟩ := p
        have := (readB_two.mp m).1
        rw [g] at this
        cases this
    have fin : gsB w0.cps.toList = false → Gq S (fun d' S' => d' = .bl (readB [w0, w1]).isSome ∧ S' = S) nX (.bl false) S := fun g => gq_same ⟨by rw [no g], rfl⟩
    have hlen : w0.cps.toList.length = w0.length := rfl
    refine wp_nf (by simp) ?_
    (repeat (first | simp -dsimp -implicitDefEqProofs only [oD_s, oD_n] | k_upd))
    refine wp_lens (by omega) ?_
    (repeat (first | simp -dsimp -implicitDefEqProofs only [oD_s, oD_n] | k_upd))
    by_cases c1 : (2 : Int) ≤ w0.length
    · refine wp_dt c1 ?_
      (repeat (first | simp -dsimp -implicitDefEqProofs only [oD_s, oD_n] | k_upd))
      by_cases c2 : ((w0.length : Nat) : Int) ≤ 6
      · rw [decide_eq_true c2]
        (repeat (first | simp -dsimp -implicitDefEqProofs only [oD_s, oD_n] | k_upd))
        have ew := mk_cps w0
        generalize w0.cps.toList = cs at ew hlen no fin ⊢
        subst ew
        refine wp_lcT (ns := cs) (fun c => .str (oneS c)) (fun c => !decide (c ∈ [97, 98, 65, 66, 111])) (fun c => .str (oneS c)) ?_ (by omega) (fun c hc => ⟨_, rfl, ?_, fun _ => ?_⟩) ?_
        · (repeat (first | simp -dsimp -implicitDefEqProofs only [oD_s, oD_n] | k_upd))
          rw [signs_mkS]
        · (repeat (first | simp -dsimp -implicitDefEqProofs only [oD_s, oD_n] | k_upd))
          refine wp_in ?_
          (repeat (first | simp -dsimp -implicitDefEqProofs only [oD_s, oD_n] | k_upd))
          rw [cps_all]
        · (repeat (first | simp -dsimp -implicitDefEqProofs only [oD_s, oD_n] | k_upd))
        (repeat (first | simp -dsimp -implicitDefEqProofs only [oD_s, oD_n] | k_upd))
        refine wp_eqv (eqD_ones fun c hc => near_iff.mp n0 c (List.mem_filter.mp hc).1) ?_
        by_cases c3 : (cs.filter fun c => !decide (c ∈ [97, 98, 65, 66, 111])) = []
        · rw [decide_eq_true c3]
          have ha : cs.all (fun c => decide (c ∈ [97, 98, 65, 66, 111])) = true := by
            rw [List.all_eq_true]
            intro c hc
            by_cases q : c ∈ [97, 98, 65, 66, 111]
            · exact decide_eq_true q
            · exact absurd (List.mem_filter.mpr ⟨hc, by rw [decide_eq_false q]; rfl⟩ : c ∈ cs.filter fun c => !decide (c ∈ [97, 98, 65, 66, 111])) (by rw [c3]; simp)
          have eg : gsB cs = decide ((cs.filter fun c => decide (c ∈ [65, 66])).Nodup) := by
            unfold gsB
            rw [decide_eq_true ⟨by omega, by omega⟩, ha, Bool.true_and, Bool.true_and]
          (repeat (first | simp -dsimp -implicitDefEqProofs only [oD_s, oD_n] | k_upd))
          rw [A_one]
          refine wp_count ?_
          rw [mkS_cps]
          (repeat (first | simp -dsimp -implicitDefEqProofs only [oD_s, oD_n] | k_upd))
          by_cases c4 : (1 : Int) < cnt 65 cs
          · refine wp_dt c4 ?_
            (repeat (first | simp -dsimp -implicitDefEqProofs only [oD_s, oD_n] | k_upd))
            refine fin ?_
            rw [eg]
            exact decide_eq_false fun q => by have := nd_cnt.mp q; omega
          · refine wp_df c4 ?_
            (repeat (first | simp -dsimp -implicitDefEqProofs only [oD_s, oD_n] | k_upd))
            rw [B_one]
            refine wp_count ?_
            rw [mkS_cps]
            (repeat (first | simp -dsimp -implicitDefEqProofs only [oD_s, oD_n] | k_upd))
            by_cases c5 : (1 : Int) < cnt 66 cs
            · refine ws_dt c5 ?_
              (repeat (first | simp -dsimp -implicitDefEqProofs only [oD_s, oD_n] | k_upd))
              refine fin ?_
              rw [eg]
              exact decide_eq_false fun q => by have := nd_cnt.mp q; omega
            · refine ws_df c5 ?_
              have eg2 : gsB cs = true := by
                rw [eg]
                exact decide_eq_true (nd_cnt.mpr ⟨by omega, by omega⟩)
              (repeat (first | simp -dsimp -implicitDefEqProofs only [oD_s, oD_n] | k_upd))
              refine wp_lcU (ns := List.range cs.length) (fun i => .int (i : Nat)) (fun i => .str (strOf (i : Nat))) ?_ (by rw [List.length_range]; omega) (fun i hi => ⟨_, rfl, ?_⟩) ?_
              · (repeat (first | simp -dsimp -implicitDefEqProofs only [oD_s, oD_n] | k_upd))
                refine wp_lens (by omega) ?_
                (repeat (first | simp -dsimp -implicitDefEqProofs only [oD_s, oD_n] | k_upd))
                rw [mkS_len, ups_map]
                rfl
              · have hi := List.mem_range.mp hi
                (repeat (first | simp -dsimp -implicitDefEqProofs only [oD_s, oD_n] | k_upd))
                refine wp_eq (str_digit (by omega) S) ?_
                (repeat (first | simp -dsimp -implicitDefEqProofs only [oD_s, oD_n] | k_upd))
              · (repeat (first | simp -dsimp -implicitDefEqProofs only [oD_s, oD_n] | k_upd))
                refine wp_eq (in_figs n1 (by omega) S) ?_
                (repeat (first | simp -dsimp -implicitDefEqProofs only [oD_s, oD_n] | k_upd))
                refine gq_same ⟨?_, rfl⟩
                congr 1
                by_cases c6 : ∃ k, numO w1.cps.toList = some k ∧ k < (cs.length : Int)
                · rw [decide_eq_true c6]
                  obtain ⟨k, hk, hlt⟩ := c6
                  rw [readB_two.mpr ⟨by rw [mkS_cps]; exact eg2, hk, by rw [mkS_len]; exact hlt, rfl⟩]
                  rfl
                · rw [decide_eq_false c6]
                  cases m : readB [mkS cs, w1] with
                  | none => rfl
                  | some p =>
                    obtain ⟨ds, n⟩ := p
                    obtain ⟨_, h2, h3, _⟩ := readB_two.mp m
                    exact absurd ⟨n, h2, by rw [mkS_len] at h3; exact h3⟩ c6
        · rw [decide_eq_false c3]
          (repeat (first | simp -dsimp -implicitDefEqProofs only [oD_s, oD_n] | k_upd))
          refine fin ?_
          cases g : gsB cs with
          | false => rfl
          | true =>
            have := (gs_iff.mp g).ok
            refine absurd ?_ c3
            rw [List.filter_eq_nil_iff]
            intro c hc
            rw [decide_eq_true (this c hc)]
            decide
      · rw [decide_eq_false c2]
        (repeat (first | simp -dsimp -implicitDefEqProofs only [oD_s, oD_n] | k_upd))
        refine fin ?_
        unfold gsB
        rw [decide_eq_false (by omega), Bool.false_and]
    · refine wp_df c1 ?_
      (repeat (first | simp -dsimp -implicitDefEqProofs only [oD_s, oD_n] | k_upd))
      refine fin ?_
      unfold gsB
      rw [decide_eq_false (by omega), Bool.false_and]
end K05
-- Q9
-- simp: oD_s, oD_n
set_option Elab.async false
set_option linter.all false
set_option maxRecDepth 100000
set_option maxHeartbeats 4000000
namespace K05
open PySem PV PyProof.Rows
theorem dB : DrawB F_law_draw := drawG_of (c1 := 13) (c2 := 62089911) (c3 := 41) (by decide) (by decide) (by decide)
theorem pB : PickB F_law_pick := pickB_of dB
theorem w_bag {cs : List Int} (h : cs.length ≤ 63) {Q : D → Sto → Prop} {E : XQ} (q : ∀ S', Bag S' 0 → S'.length = 1 → Q (.loc 0) S') : Wp (F_law_bag [.src (cs.map .int)] []) Q E := bag_ok (c0 := 23) (c1 := 62089911) (c2 := 41) (by decide) (by decide) (by decide) h q
/-- a text that is not long -/
structure Tx (n : Nat) (z : Str) : Prop where
  nr : near z = true
  le : z.length ≤ n
theorem Tx.mono {n m : Nat} {z : Str} (h : Tx n z) (le : n ≤ m) : Tx m z := ⟨h.nr, Nat.le_trans h.le le⟩
section
variable {S : Sto} {Q : D → Sto → Prop} {E : XQ} {a b z : Str} {n m : Nat} {lo hi : Option Int}
theorem wp_addT (ha : Tx n a) (hb : Tx m b) (h : n + m ≤ 1000) (q : ∀ z, Tx (n + m) z → Q (.str z) S) : Wp (addG (.str a) (.str b) S) Q E := by
  have la := ha.le
  have lb := hb.le
  refine wp_eq (a := .str (a ++ b)) (S := S) ?_ (q _ ⟨near_app ha.nr hb.nr, by rw [app_len]; omega⟩)
  have sl := PV.sizeLine_eq
  show (if _ then _ else _) = _
  rw [if_pos]
  unfold fits
  exact decide_eq_true (by omega)
theorem near_cut (h : near z = true) : near (L2.cutS z lo hi) = true := near_iff.mpr fun c hc => by
  have : c ∈ z.cps.toList := by
    simp only [TL.tl, L2.cutS] at hc
    exact List.mem_of_mem_drop (List.mem_of_mem_take hc)
  exact near_iff.mp h c this
theorem wp_slT (hz : Tx n z) (h : n ≤ 1000) (q : ∀ y, Tx n y → Q (.str y) S) : Wp (slG (.str z) lo hi S) Q E := by
  have lz := hz.le
  refine wp_eq (a := .str (L2.cutS z lo hi)) (S := S) ?_ (q _ ⟨near_cut hz.nr, Nat.le_trans (show (L2.cutS z lo hi).length ≤ z.length by show (L2.cutS z lo hi).cps.size ≤ z.cps.size; simp only [L2.cutS, List.size_toArray, List.length_take, List.length_drop, Array.length_toList]; omega) lz⟩)
  have sl := PV.sizeLine_eq
  show (if _ then _ else _) = _
  rw [if_pos (by omega)]
end
def up1 (c : Nat) : Nat := if 97 ≤ c ∧ c ≤ 122 then c - 32 else c
theorem upper_ok {c : Nat} (h : c ∈ [97, 98, 65, 66, 111, 32, 48, 49, 50, 51, 52, 53]) : Unicode.upperOf c = [up1 c] := by
  simp only [List.mem_cons, List.not_mem_nil, or_false] at h
  rcases h with rfl | rfl | rfl | rfl | rfl | rfl | rfl | rfl | rfl | rfl | rfl | rfl <;> decide +kernel
theorem dig_mem {a : Int} (h0 : 0 ≤ a) (h1 : a ≤ 5) : ∀ c ∈ (strOf a).cps.toList, c ∈ [97, 98, 65, 66, 111, 32, 48, 49, 50, 51, 52, 53] := by
  rcases digit_cases h0 h1 with rfl | rfl | rfl | rfl | rfl | rfl <;> decide +kernel
theorem text_mem {cs : List Nat} {a : Int} (h : Gr cs a) : ∀ c ∈ (ringT cs a).cps.toList, c ∈ [97, 98, 65, 66, 111, 32, 48, 49, 50, 51, 52, 53] := fun c hc => by
  have a0 := h.a0
  have a1 := h.a1
  have l6 := h.s.l6
  unfold ringT at hc
  rw [app_empty, app_cps, app_cps, mkS_cps] at hc
  rcases List.mem_append.mp hc with hc | hc
  · rcases List.mem_append.mp hc with hc | hc
    · have := h.s.ok c hc
      simp only [List.mem_cons, List.not_mem_nil, or_false] at this ⊢
      omega
    · have e : (((" " : String)) : Str).cps.toList = [32] := by decide +kernel
      rw [e] at hc
      rw [List.mem_singleton.mp hc]
      decide
  · exact dig_mem a0 (by omega) c hc
theorem upper_tx {cs : List Nat} {a : Int} (h : Gr cs a) : Tx 24 (Txt.upper (ringT cs a)) := by
  refine ⟨near_iff.mpr fun c hc => ?_, Nat.le_trans (len_upper _) (by have := len_text h; omega)⟩
  have e : Txt.upper (ringT cs a) = ⟨(ringT cs a).cps.map up1⟩ := congrArg Str.mk (placed_single _ _ up1 fun i c hi => upper_ok (text_mem h c (List.mem_of_getElem? hi)))
  rw [e] at hc
  have hc : c ∈ ((ringT cs a).cps.map up1).toList := hc
  rw [Array.toList_map] at hc
  obtain ⟨d, hd, rfl⟩ := List.mem_map.mp hc
  have := text_mem h d hd
  simp only [List.mem_cons, List.not_mem_nil, or_false] at this
  unfold up1
  split <;> omega
theorem txc {z : String} {n : Nat} (h : near (z : Str) = true) (h2 : (z : Str).length ≤ n) : Tx n (z : Str) := ⟨h, h2⟩
theorem wp_joinT {S : Sto} {Q : D → Sto → Prop} {E : XQ} {x y : Str} (h : ∀ w ∈ [x, y], Tx 6 w) (q : ∀ z, Tx 13 z → Q (.str z) S) : Wp (joinG (.str " ") (.lst [.str x, .str y]) S) Q E := by
  have hx := h x (by simp)
  have hy := h y (by simp)
  have lx := hx.le
  have ly := hy.le
  have e : Txt.join ((" " : String) : Str) [x, y] = x ++ ((" " : String) : Str) ++ y := (StrLaws.glued_eq_join _ _)
  refine wp_eq (a := .str (Txt.join ((" " : String) : Str) [x, y])) (S := S) ?_ (q _ ?_)
  · unfold joinG
    have ea : asStrs [D.str x, D.str y] = some [x, y] := rfl
    simp only [ea]
    rw [if_pos]
    simp only [List.map_cons, List.map_nil, List.sum_cons, List.sum_nil, List.length_cons, List.length_nil]
    rw [sp_len]
    omega
  · rw [e]
    exact ⟨near_app (near_app hx.nr (by decide +kernel)) hy.nr, by rw [app_len, app_len, sp_len]; omega⟩
theorem w_bent {S : Sto} {cs : List Nat} {a : Int} {Q : D → Sto → Prop} {E : XQ} (h : Bag S 0) (g : Gr cs a) (q : ∀ z S', Tx 60 z → SameBag 0 S S' → Bag S' 0 → Q (.str z) S') : Wp (F_law_bent [.loc 0, .str (ringT cs a)] S) Q E := by
  have a0 := g.a0
  have a1 := g.a1
  have l6 := g.s.l6
  have lt := len_text g
  have tt : Tx 8 (ringT cs a) := ⟨near_text g, lt⟩
  have t0 : Tx 6 (mkS cs) := ⟨near_signs g.s, l6⟩
  have t1 : Tx 1 (strOf a) := ⟨near_dig1 a0 (by omega), by rw [str_len a0 (by omega)]; omega⟩
  refine wp_dfn rfl ?_
  (repeat (first | simp -dsimp -implicitDefEqProofs only [oD_s, oD_n] | k_upd))
  refine wp_lens (by omega) ?_
  (repeat (first | simp -dsimp -implicitDefEqProofs only [oD_s, oD_n] | k_upd))
  refine dB h (by omega) (by omega) fun at_ S1 r0 r1 s1 p1 => ?_
  (repeat (first | simp -dsimp -implicitDefEqProofs only [oD_s, oD_n] | k_upd))
  refine pB p1 (Nat.le_of_ble_eq_true rfl) (Nat.le_of_ble_eq_true rfl) fun i x S2 hx s2 p2 => ?_
  obtain ⟨sg, rfl, ts⟩ : ∃ sg, x = .str sg ∧ Tx 1 sg := by
    have := pick_mem hx
    simp only [List.mem_cons, List.not_mem_nil, or_false] at this
    rcases this with rfl | rfl | rfl | rfl | rfl | rfl | rfl | rfl | rfl | rfl | rfl <;> exact ⟨_, rfl, ⟨by decide +kernel, by decide +kernel⟩⟩
  (repeat (first | simp -dsimp -implicitDefEqProofs only [oD_s, oD_n] | k_upd))
  refine wp_split (by omega) ?_
  rw [split_text g]
  (repeat (first | simp -dsimp -implicitDefEqProofs only [oD_s, oD_n] | k_upd))
  refine wp_slT tt (by omega) fun x1 h1 => ?_
  (repeat (first | simp -dsimp -implicitDefEqProofs only [oD_s, oD_n] | k_upd))
  refine wp_addT h1 ts (by omega) fun x2 h2 => ?_
  (repeat (first | simp -dsimp -implicitDefEqProofs only [oD_s, oD_n] | k_upd))
  refine wp_slT tt (by omega) fun x3 h3 => ?_
  (repeat (first | simp -dsimp -implicitDefEqProofs only [oD_s, oD_n] | k_upd))
  refine wp_addT h2 h3 (by omega) fun e1 he1 => ?_
  (repeat (first | simp -dsimp -implicitDefEqProofs only [oD_s, oD_n] | k_upd))
  refine wp_slT tt (by omega) fun x4 h4 => ?_
  (repeat (first | simp -dsimp -implicitDefEqProofs only [oD_s, oD_n] | k_upd))
  refine wp_slT tt (by omega) fun x5 h5 => ?_
  (repeat (first | simp -dsimp -implicitDefEqProofs only [oD_s, oD_n] | k_upd))
  refine wp_addT h4 h5 (by omega) fun e2 he2 => ?_
  (repeat (first | simp -dsimp -implicitDefEqProofs only [oD_s, oD_n] | k_upd))
  refine wp_eq (a := .lst [.str (strOf a), .str (mkS cs)]) (S := S2) rfl ?_
  (repeat (first | simp -dsimp -implicitDefEqProofs only [oD_s, oD_n] | k_upd))
  refine wp_joinT ?_ fun e3 he3 => ?_
  · intro w hw
    rcases List.mem_cons.mp hw with rfl | hw
    · exact t1.mono (by omega)
    · rw [List.mem_singleton.mp hw]
      exact t0
  (repeat (first | simp -dsimp -implicitDefEqProofs only [oD_s, oD_n] | k_upd))
  refine wp_addT tt (txc (n := 2) (by decide +kernel) (by decide +kernel)) (by omega) fun e4 he4 => ?_
  (repeat (first | simp -dsimp -implicitDefEqProofs only [oD_s, oD_n] | k_upd))
  refine wp_addT t0 (txc (n := 2) (by decide +kernel) (by decide +kernel)) (by omega) fun y1 k1 => ?_
  (repeat (first | simp -dsimp -implicitDefEqProofs only [oD_s, oD_n] | k_upd))
  refine wp_eq (a := .str (strOf a)) (S := S2) rfl ?_
  (repeat (first | simp -dsimp -implicitDefEqProofs only [oD_s, oD_n] | k_upd))
  refine wp_addT k1 t1 (by omega) fun e6 he6 => ?_
  (repeat (first | simp -dsimp -implicitDefEqProofs only [oD_s, oD_n] | k_upd))
  refine wp_addT t0 (txc (n := 2) (by decide +kernel) (by decide +kernel)) (by omega) fun y2 k2 => ?_
  (repeat (first | simp -dsimp -implicitDefEqProofs only [oD_s, oD_n] | k_upd))
  refine wp_eq (a := .str (strOf a)) (S := S2) rfl ?_
  (repeat (first | simp -dsimp -implicitDefEqProofs only [oD_s, oD_n] | k_upd))
  refine wp_addT k2 t1 (by omega) fun e7 he7 => ?_
  (repeat (first | simp -dsimp -implicitDefEqProofs only [oD_s, oD_n] | k_upd))
  refine wp_addT (txc (n := 1) (by decide +kernel) (by decide +kernel)) tt (by omega) fun e8 he8 => ?_
  (repeat (first | simp -dsimp -implicitDefEqProofs only [oD_s, oD_n] | k_upd))
  refine wp_addT tt (txc (n := 1) (by decide +kernel) (by decide +kernel)) (by omega) fun e9 he9 => ?_
  (repeat (first | simp -dsimp -implicitDefEqProofs only [oD_s, oD_n] | k_upd))
  refine wp_eq (a := .str (Txt.upper (ringT cs a))) (S := S2) ?_ ?_
  · show (if _ then _ else _) = _
    rw [if_pos (by omega)]
  (repeat (first | simp -dsimp -implicitDefEqProofs only [oD_s, oD_n] | k_upd))
  refine wp_eq (a := .lst [.str e1, .str e2, .str e3, .str e4, .str (mkS cs), .str e6, .str e7, .str e8, .str e9, .str (Txt.upper (ringT cs a))]) (S := S2) rfl ?_
  (repeat (first | simp -dsimp -implicitDefEqProofs only [oD_s, oD_n] | k_upd))
  refine wp_addT t0 (txc (n := 3) (by decide +kernel) (by decide +kernel)) (by omega) fun e11 he11 => ?_
  (repeat (first | simp -dsimp -implicitDefEqProofs only [oD_s, oD_n] | k_upd))
  refine wp_eq (a := .str (mkS cs ++ mkS cs)) (S := S2) ?_ ?_
  · show (if _ then _ else _) = _
    rw [if_pos ⟨rfl, by rw [mkS_len]; omega⟩]
  have t00 : Tx 12 (mkS cs ++ mkS cs) := ⟨near_app t0.nr t0.nr, by rw [app_len, mkS_len]; omega⟩
  (repeat (first | simp -dsimp -implicitDefEqProofs only [oD_s, oD_n] | k_upd))
  refine wp_addT t00 (txc (n := 2) (by decide +kernel) (by decide +kernel)) (by omega) fun e12 he12 => ?_
  (repeat (first | simp -dsimp -implicitDefEqProofs only [oD_s, oD_n] | k_upd))
  refine wp_addT t0 (txc (n := 3) (by decide +kernel) (by decide +kernel)) (by omega) fun e13 he13 => ?_
  (repeat (first | simp -dsimp -implicitDefEqProofs only [oD_s, oD_n] | k_upd))
  refine wp_eq (a := .lst [.str e1, .str e2, .str e3, .str e4, .str (mkS cs), .str e6, .str e7, .str e8, .str e9, .str (Txt.upper (ringT cs a)), .str e11, .str e12, .str e13, .str "a 0", .str (ringT cs a)]) (S := S2) rfl ?_
  (repeat (first | simp -dsimp -implicitDefEqProofs only [oD_s, oD_n] | k_upd))
  refine pB p2 (Nat.le_of_ble_eq_true rfl) (Nat.le_of_ble_eq_true rfl) fun i x S3 hx s3 p3 => ?_
  have s : SameBag 0 S S3 := (s1.trans s2).trans s3
  have fin : ∀ z, Tx 60 z → Gq S Q E (.str z) S3 := fun z hz => gq_len s.len (q z S3 hz s p3)
  have := pick_mem hx
  simp only [List.mem_cons, List.not_mem_nil, or_false] at this
  rcases this with rfl | rfl | rfl | rfl | rfl | rfl | rfl | rfl | rfl | rfl | rfl | rfl | rfl | rfl | rfl
  · exact fin _ (he1.mono (by omega))
  · exact fin _ (he2.mono (by omega))
  · exact fin _ (he3.mono (by omega))
  · exact fin _ (he4.mono (by omega))
  · exact fin _ (t0.mono (by omega))
  · exact fin _ (he6.mono (by omega))
  · exact fin _ (he7.mono (by omega))
  · exact fin _ (he8.mono (by omega))
  · exact fin _ (he9.mono (by omega))
  · exact fin _ ((upper_tx g).mono (by omega))
  · exact fin _ (he11.mono (by omega))
  · exact fin _ (he12.mono (by omega))
  · exact fin _ (he13.mono (by omega))
  · exact fin _ (txc (by decide +kernel) (by decide +kernel))
  · exact fin _ (tt.mono (by omega))
end K05
-- Q9
-- simp: oD_s, oD_n
set_option Elab.async false
set_option linter.all false
set_option maxRecDepth 100000
set_option maxHeartbeats 4000000
namespace K05
open PySem PV PyProof.Rows
/-! wrong signs and numbers -/
def odds : List D := [.str "a", .str "", .str "aaaaaaa", .str "AA", .str "bBBa", .str "axb", .str "a b", .non, .int 4, .lst [.str "a", .str "b"], .tup [.str "a", .str "A"], .bl true, .dic0]
theorem odd_ok {d : D} (h : d ∈ odds) : Vl d ∧ (∀ z, d = .str z → z.length ≤ 1000) ∧ sigB d = false := by
  simp only [odds, List.mem_cons, List.not_mem_nil, or_false] at h
  rcases h with rfl | rfl | rfl | rfl | rfl | rfl | rfl | rfl | rfl | rfl | rfl | rfl | rfl
  all_goals first
  | exact ⟨.str _, (fun z e => by cases e; decide +kernel), by decide +kernel⟩
  | exact ⟨.non, (fun z e => by cases e), rfl⟩
  | exact ⟨.int _, (fun z e => by cases e), rfl⟩
  | exact ⟨.bl _, (fun z e => by cases e), rfl⟩
  | exact ⟨.lst fun _ => rfl, (fun z e => by cases e), rfl⟩
  | exact ⟨.tup fun _ => rfl, (fun z e => by cases e), rfl⟩
  | exact ⟨.dic0, (fun z e => by cases e), rfl⟩
def nums (n : Int) : List D := [.int n, .int (-1), .bl true, .bl false, .str "0", .int (10 ^ 30), .tup [.int 0], .lst [], .dic0]
theorem num_ok {n : Nat} {d : D} (hn : n ≤ 6) (h : d ∈ nums n) : Vl d ∧ isNon d = false ∧ btw d 0 ((n : Int) - 1) = false := by
  simp only [nums, List.mem_cons, List.not_mem_nil, or_false] at h
  rcases h with rfl | rfl | rfl | rfl | rfl | rfl | rfl | rfl | rfl
  · exact ⟨.int _, rfl, by simp [btw]; omega⟩
  · exact ⟨.int _, rfl, by simp [btw]⟩
  · exact ⟨.bl _, rfl, rfl⟩
  · exact ⟨.bl _, rfl, rfl⟩
  · exact ⟨.str _, rfl, rfl⟩
  · exact ⟨.int _, rfl, by simp [btw]; omega⟩
  · exact ⟨.tup fun _ => rfl, rfl, rfl⟩
  · exact ⟨.lst fun _ => rfl, rfl, rfl⟩
  · exact ⟨.dic0, rfl, rfl⟩
theorem w_made {S : Sto} {cs : List Nat} {Q : D → Sto → Prop} {E : XQ} (h : Bag S 0) (g : Gs cs) (q : ∀ S', SameBag 0 S S' → Bag S' 0 → Q (.bl true) S') : Wp (F_law_made_wrong [.loc 0, .str (mkS cs)] S) Q E := by
  have l6 := g.l6
  refine wp_dfn rfl ?_
  (repeat (first | simp -dsimp -implicitDefEqProofs only [oD_s, oD_n] | k_upd))
  refine wp_eq (a := .dic0) (S := S) rfl ?_
  (repeat (first | simp -dsimp -implicitDefEqProofs only [oD_s, oD_n] | k_upd))
  refine pB h (Nat.le_of_ble_eq_true rfl) (Nat.le_of_ble_eq_true rfl) fun i d S1 hd s1 p1 => ?_
  obtain ⟨v1, v2, v3⟩ := odd_ok (pick_mem hd)
  (repeat (first | simp -dsimp -implicitDefEqProofs only [oD_s, oD_n] | k_upd))
  refine wp_lens (by rw [mkS_len]; omega) ?_
  rw [mkS_len]
  (repeat (first | simp -dsimp -implicitDefEqProofs only [oD_s, oD_n] | k_upd))
  refine wp_pow (by decide) ?_
  (repeat (first | simp -dsimp -implicitDefEqProofs only [oD_s, oD_n] | k_upd))
  refine wp_eq (a := .dic0) (S := S1) rfl ?_
  (repeat (first | simp -dsimp -implicitDefEqProofs only [oD_s, oD_n] | k_upd))
  refine pB p1 (Nat.le_of_ble_eq_true rfl) (Nat.le_of_ble_eq_true rfl) fun i e S2 he s2 p2 => ?_
  obtain ⟨w1, w2, w3⟩ := num_ok (n := cs.length) l6 (pick_mem he)
  (repeat (first | simp -dsimp -implicitDefEqProofs only [oD_s, oD_n] | k_upd))
  refine wp_lamc ?_
  (repeat (first | simp -dsimp -implicitDefEqProofs only [oD_s, oD_n] | k_upd))
  refine wp_exq (mkx_one v1 v2 v3) ?_
  refine wp_eq h_ring ?_
  (repeat (first | simp -dsimp -implicitDefEqProofs only [oD_s, oD_n] | k_upd))
  refine wp_mthQ end_at' ?_
  (repeat (first | simp -dsimp -implicitDefEqProofs only [oD_s, oD_n] | k_upd))
  refine wp_lamc ?_
  (repeat (first | simp -dsimp -implicitDefEqProofs only [oD_s, oD_n] | k_upd))
  refine wp_exq (mkx_signs v1 v2 v3) ?_
  refine wp_eq h_ring ?_
  (repeat (first | simp -dsimp -implicitDefEqProofs only [oD_s, oD_n] | k_upd))
  refine wp_appEnd (by decide) ?_
  (repeat (first | simp -dsimp -implicitDefEqProofs only [oD_s, oD_n] | k_upd))
  refine wp_mthQ end_at' ?_
  (repeat (first | simp -dsimp -implicitDefEqProofs only [oD_s, oD_n] | k_upd))
  refine wp_lamc ?_
  (repeat (first | simp -dsimp -implicitDefEqProofs only [oD_s, oD_n] | k_upd))
  refine wp_exq (mkx_across g w1 w2 w3) ?_
  refine wp_eq h_ring ?_
  (repeat (first | simp -dsimp -implicitDefEqProofs only [oD_s, oD_n] | k_upd))
  refine wp_appEnd (by decide) ?_
  (repeat (first | simp -dsimp -implicitDefEqProofs only [oD_s, oD_n] | k_upd))
  refine wp_frzEnd ?_
  (repeat (first | simp -dsimp -implicitDefEqProofs only [oD_s, oD_n] | k_upd))
  refine wp_eqv (e := true) (by decide +kernel) ?_
  (repeat (first | simp -dsimp -implicitDefEqProofs only [oD_s, oD_n] | k_upd))
  exact gq_bag (s1.trans s2) rfl (q S2 (s1.trans s2) p2)
/-! wrong players and pits -/
def pitw (n : Int) : List D := [.int n, .int (-1), .non, .bl true, .str "0", .tup [.int 0], .lst [.int 1], .dic0, .int (10 ^ 20)]
theorem pitw_ok {n : Nat} {d : D} (hn : n ≤ 6) (h : d ∈ pitw n) : Vl d ∧ btw d 0 ((n : Int) - 1) = false := by
  simp only [pitw, List.mem_cons, List.not_mem_nil, or_false] at h
  rcases h with rfl | rfl | rfl | rfl | rfl | rfl | rfl | rfl | rfl
  · exact ⟨.int _, by simp [btw]; omega⟩
  · exact ⟨.int _, by simp [btw]⟩
  · exact ⟨.non, rfl⟩
  · exact ⟨.bl _, rfl⟩
  · exact ⟨.str _, rfl⟩
  · exact ⟨.tup fun _ => rfl, rfl⟩
  · exact ⟨.lst fun _ => rfl, rfl⟩
  · exact ⟨.dic0, rfl⟩
  · exact ⟨.int _, by simp [btw]; omega⟩
def whow : List D := [.int 2, .int (-1), .non, .bl true, .bl false, .str "a", .tup [.int 0], .lst [.int 1], .dic0, .int (10 ^ 20)]
theorem whow_ok {d : D} (h : d ∈ whow) : Vl d ∧ btw d 0 1 = false := by
  simp only [whow, List.mem_cons, List.not_mem_nil, or_false] at h
  rcases h with rfl | rfl | rfl | rfl | rfl | rfl | rfl | rfl | rfl | rfl
  · exact ⟨.int _, rfl⟩
  · exact ⟨.int _, rfl⟩
  · exact ⟨.non, rfl⟩
  · exact ⟨.bl _, rfl⟩
  · exact ⟨.bl _, rfl⟩
  · exact ⟨.str _, rfl⟩
  · exact ⟨.tup fun _ => rfl, rfl⟩
  · exact ⟨.lst fun _ => rfl, rfl⟩
  · exact ⟨.dic0, rfl⟩
  · exact ⟨.int _, by simp [btw]⟩
abbrev rpQ : Fn := reprQ (reprI reprB)
abbrev heard4 (d e : D) : List D := [.tup [.str "pit", d], .tup [.str "pit", d], .tup [.str "player", e], .tup [.str "player", e]]
end K05
-- Q9
-- simp: oD_s, oD_n
set_option Elab.async false
set_option linter.all false
set_option maxRecDepth 100000
set_option maxHeartbeats 4000000
namespace K05
open PySem PV PyProof.Rows
theorem cps_abo : ("abo" : Str).cps.toList = [97, 98, 111] := by decide +kernel
theorem mk_pool : ("aabbABo" : Str) = mkS [97, 97, 98, 98, 65, 66, 111] := by decide +kernel
theorem mk_nil : ("" : Str) = mkS [] := by decide +kernel
theorem add_str {a b : Str} {S : Sto} (h : a.length + b.length ≤ 1000) : addG (.str a) (.str b) S = .ok (.str (a ++ b)) S := by
  have sl := PV.sizeLine_eq
  show (if _ then _ else _) = _
  rw [if_pos]
  unfold fits
  exact decide_eq_true (by omega)
theorem w_signs {S : Sto} {Q : D → Sto → Prop} {E : XQ} (h : Bag S 0) (q : ∀ cs S', Gs cs → SameBag 0 S S' → Bag S' 0 → Q (.str (mkS cs)) S') : Wp (F_law_signs [.loc 0] S) Q E := by
  refine wp_dfn rfl ?_
  rw [mk_nil]
  (repeat (first | simp -dsimp -implicitDefEqProofs only [oD_s, oD_n] | k_upd))
  refine ws_for (fun j ρ S' => ∃ cs x2 x3, ρ = [some (.loc 0), some (.str (mkS cs)), x2, x3] ∧ cs.length = j ∧ j ≤ 100 ∧ (∀ c ∈ cs, c ∈ [97, 98, 65, 66, 111]) ∧ (cs.filter fun c => decide (c ∈ [65, 66])).Nodup ∧ SameBag 0 S S' ∧ Bag S' 0) ?_
  (repeat (first | simp -dsimp -implicitDefEqProofs only [oD_s, oD_n] | k_upd))
  refine dB h (by decide) (by decide) fun r S1 r0 r1 s1 p1 => ?_
  (repeat (first | simp -dsimp -implicitDefEqProofs only [oD_s, oD_n] | k_upd))
  have hr : (2 + r).toNat ≤ 6 ∧ 2 ≤ (2 + r).toNat := by omega
  refine ⟨fun _ _ _ _ => trivial, ⟨[], _, _, rfl, rfl, by decide, by simp, by simp, s1, p1⟩, ?_, ?_⟩
  · rintro j x hx ρ S' ⟨cs, x2, x3, rfl, hl, _, ho, hn, hs, hb⟩
    obtain ⟨rfl, hj⟩ := ups_at hx
    refine ⟨_, rfl, ?_⟩
    rw [mk_pool]
    (repeat (first | simp -dsimp -implicitDefEqProofs only [oD_s, oD_n] | k_upd))
    refine wp_lcT (ns := [97, 97, 98, 98, 65, 66, 111]) (fun c => .str (oneS c)) (fun c => decide (c ∈ [97, 98, 111]) || !decide (c ∈ cs)) (fun c => .str (oneS c)) ?_ (by decide) (fun c hc => ⟨_, rfl, ?_, fun _ => ?_⟩) ?_
    · (repeat (first | simp -dsimp -implicitDefEqProofs only [oD_s, oD_n] | k_upd))
      rw [signs_mkS]
      rfl
    · (repeat (first | simp -dsimp -implicitDefEqProofs only [oD_s, oD_n] | k_upd))
      refine wp_in ?_
      rw [cps_abo]
      (repeat (first | simp -dsimp -implicitDefEqProofs only [oD_s, oD_n] | k_upd))
      by_cases c1 : c ∈ [97, 98, 111]
      · rw [decide_eq_true c1]
        (repeat (first | simp -dsimp -implicitDefEqProofs only [oD_s, oD_n] | k_upd))
        exact (Bool.true_or _).symm
      · rw [decide_eq_false c1]
        (repeat (first | simp -dsimp -implicitDefEqProofs only [oD_s, oD_n] | k_upd))
        refine wp_in ?_
        rw [mkS_cps]
        (repeat (first | simp -dsimp -implicitDefEqProofs only [oD_s, oD_n] | k_upd))
        exact (Bool.false_or _).symm
    · (repeat (first | simp -dsimp -implicitDefEqProofs only [oD_s, oD_n] | k_upd))
    · (repeat (first | simp -dsimp -implicitDefEqProofs only [oD_s, oD_n] | k_upd))
      refine pB hb (by rw [List.length_map]; exact List.length_pos_of_mem (a := 97) (List.mem_filter.mpr ⟨by decide, by simp⟩)) (by rw [List.length_map]; exact Nat.le_trans (List.length_filter_le _ _) (by decide)) fun i x S2 hi s2 p2 => ?_
      obtain ⟨c, hc, rfl⟩ := List.mem_map.mp (pick_mem hi)
      obtain ⟨h1, h2⟩ := List.mem_filter.mp hc
      (repeat (first | simp -dsimp -implicitDefEqProofs only [oD_s, oD_n] | k_upd))
      refine wp_eq (add_str (by rw [mkS_len, show (oneS c).length = 1 from rfl]; omega)) ?_
      rw [oneS_eq, mkS_app]
      (repeat (first | simp -dsimp -implicitDefEqProofs only [oD_s, oD_n] | k_upd))
      refine ⟨cs ++ [c], _, _, rfl, by simp [hl], by omega, fun d hd => ?_, ?_, hs.trans s2, p2⟩
      · rcases List.mem_append.mp hd with hd | hd
        · exact ho d hd
        · rw [List.mem_singleton.mp hd]
          simp only [List.mem_cons, List.not_mem_nil, or_false] at h1 ⊢
          omega
      · rw [List.filter_append]
        by_cases c2 : c ∈ [65, 66]
        · have c3 : ¬ c ∈ [97, 98, 111] := by
            simp only [List.mem_cons, List.not_mem_nil, or_false] at c2 ⊢
            omega
          rw [decide_eq_false c3, Bool.false_or] at h2
          have c4 : ¬ c ∈ cs := by simpa using h2
          rw [List.filter_cons_of_pos (by simpa using c2), List.filter_nil, List.nodup_append]
          exact ⟨hn, by simp, fun x hx y hy e => by
            rw [List.mem_singleton.mp hy] at e
            exact c4 (e ▸ (List.mem_filter.mp hx).1)⟩
        · rw [List.filter_cons_of_neg (by simpa using c2), List.filter_nil, List.append_nil]
          exact hn
  · rintro ρ S' ⟨cs, x2, x3, rfl, hl, _, ho, hn, hs, hb⟩
    have hl : cs.length = (ups 0 (2 + r).toNat).length := hl
    rw [ups_len] at hl
    (repeat (first | simp -dsimp -implicitDefEqProofs only [oD_s, oD_n] | k_upd))
    exact gq_len hs.len (q cs S' ⟨by omega, by omega, ho, hn⟩ hs hb)
theorem init_none {cs : List Nat} (h : Gs cs) {S : Sto} : dfn 3 3 B_RingD_initD [.loc S.length, .str (mkS cs), .non] (S ++ [Cell.ins "Ring" []]) = .ok .non ((S ++ [Cell.ins "Ring" []]).set S.length (Cell.ins "Ring" [("signs", .str (mkS cs)), ("across", .int (cs.length - 2))])) := by
  have l6 := h.l6
  refine eq_of_wp (wp_dfn rfl ?_)
  unfold B_RingD_initD
  (repeat (first | simp -dsimp -implicitDefEqProofs only [oD_s, oD_n] | k_upd))
  refine wp_eq (e_signs h) ?_
  (repeat (first | simp -dsimp -implicitDefEqProofs only [oD_s, oD_n] | k_upd))
  have e0 : (S ++ [Cell.ins "Ring" []])[S.length]? = some (.ins "Ring" []) := by simp
  refine ws_fld ?_
  (repeat (first | simp -dsimp -implicitDefEqProofs only [oD_s, oD_n] | k_upd))
  refine ⟨_, _, _, rfl, e0, ⟨rfl, by decide⟩, ?_⟩
  (repeat (first | simp -dsimp -implicitDefEqProofs only [oD_s, oD_n] | k_upd))
  refine ws_fld ?_
  (repeat (first | simp -dsimp -implicitDefEqProofs only [oD_s, oD_n] | k_upd))
  refine wp_lens (by rw [mkS_len]; omega) ?_
  rw [mkS_len]
  (repeat (first | simp -dsimp -implicitDefEqProofs only [oD_s, oD_n] | k_upd))
  refine ⟨_, _, _, rfl, List.getElem?_set_self (by simp), ⟨rfl, by show 1 < 1000; decide⟩, ?_⟩
  (repeat (first | simp -dsimp -implicitDefEqProofs only [oD_s, oD_n] | k_upd))
  exact gq_len (by simp) ⟨rfl, by rw [List.set_set]; rfl⟩
theorem mk_one {cs : List Nat} (h : Gs cs) {S : Sto} : mkF "Ring" F_RingD_initD [.str (mkS cs)] S = .ok (ringD cs (cs.length - 2)) S := mkF_of (init_none h) (und_ring _)
theorem Gs.ring {cs : List Nat} (h : Gs cs) : Gr cs (cs.length - 2) := ⟨h, by have := h.l2; omega, by omega⟩
theorem rep_m {x : D} {xs : List D} {ps : List PyData} (h : toMs (x :: xs) = some ps) (c : reprT (.list ps) = true) (S : Sto) : ∃ z, reprM (reprI reprB) [.lst (x :: xs)] S = .ok (.str z) S := ⟨(PyData.list ps).shown, by
  unfold reprM
  simp only [h, if_pos c]⟩
theorem rep4 {n : Nat} (hn : n ≤ 6) {d e : D} (hd : d ∈ pitw n) (he : e ∈ whow) (S : Sto) : ∃ z, reprM (reprI reprB) [.lst (heard4 d e)] S = .ok (.str z) S := by
  simp only [whow, List.mem_cons, List.not_mem_nil, or_false] at he
  simp only [pitw, List.mem_cons, List.not_mem_nil, or_false] at hd
  rcases hd with rfl | rfl | rfl | rfl | rfl | rfl | rfl | rfl | rfl
  · have hc : n = 0 ∨ n = 1 ∨ n = 2 ∨ n = 3 ∨ n = 4 ∨ n = 5 ∨ n = 6 := by omega
    rcases hc with rfl | rfl | rfl | rfl | rfl | rfl | rfl <;> rcases he with rfl | rfl | rfl | rfl | rfl | rfl | rfl | rfl | rfl | rfl <;> exact rep_m rfl (by decide +kernel) S
  all_goals rcases he with rfl | rfl | rfl | rfl | rfl | rfl | rfl | rfl | rfl | rfl <;> exact rep_m rfl (by decide +kernel) S
theorem w_asked {S : Sto} {cs : List Nat} {Q : D → Sto → Prop} {E : XQ} (h : Bag S 0) (g : Gs cs) (q : ∀ S', SameBag 0 S S' → Bag S' 0 → Q (.bl true) S') : Wp (F_law_asked_wrong [.loc 0, .str (mkS cs)] S) Q E := by
  have l6 := g.l6
  refine wp_dfn rfl ?_
  (repeat (first | simp -dsimp -implicitDefEqProofs only [oD_s, oD_n] | k_upd))
  refine wp_eq (mk_one g) ?_
  (repeat (first | simp -dsimp -implicitDefEqProofs only [oD_s, oD_n] | k_upd))
  refine wp_lens (by rw [mkS_len]; omega) ?_
  rw [mkS_len]
  (repeat (first | simp -dsimp -implicitDefEqProofs only [oD_s, oD_n] | k_upd))
  refine wp_eq (a := .dic0) (S := S) rfl ?_
  (repeat (first | simp -dsimp -implicitDefEqProofs only [oD_s, oD_n] | k_upd))
  refine wp_pow (by decide) ?_
  (repeat (first | simp -dsimp -implicitDefEqProofs only [oD_s, oD_n] | k_upd))
  refine pB h (Nat.le_of_ble_eq_true rfl) (Nat.le_of_ble_eq_true rfl) fun i d S1 hd s1 p1 => ?_
  have hd : d ∈ pitw (cs.length : Nat) := pick_mem hd
  obtain ⟨v1, v2⟩ := pitw_ok (n := cs.length) l6 hd
  (repeat (first | simp -dsimp -implicitDefEqProofs only [oD_s, oD_n] | k_upd))
  refine wp_eq (a := .dic0) (S := S1) rfl ?_
  (repeat (first | simp -dsimp -implicitDefEqProofs only [oD_s, oD_n] | k_upd))
  refine wp_pow (by decide) ?_
  (repeat (first | simp -dsimp -implicitDefEqProofs only [oD_s, oD_n] | k_upd))
  refine pB p1 (Nat.le_of_ble_eq_true rfl) (Nat.le_of_ble_eq_true rfl) fun i e S2 he s2 p2 => ?_
  have he : e ∈ whow := pick_mem he
  obtain ⟨w1, w2⟩ := whow_ok he
  obtain ⟨z, hz⟩ := rep4 l6 hd he (S2 ++ [.dead])
  (repeat (first | simp -dsimp -implicitDefEqProofs only [oD_s, oD_n] | k_upd))
  refine wp_lamc ?_
  (repeat (first | simp -dsimp -implicitDefEqProofs only [oD_s, oD_n] | k_upd))
  refine wp_exq (x_player g.ring v1 v2) ?_
  refine wp_eq h_pit ?_
  (repeat (first | simp -dsimp -implicitDefEqProofs only [oD_s, oD_n] | k_upd))
  refine wp_mthQ end_at' ?_
  (repeat (first | simp -dsimp -implicitDefEqProofs only [oD_s, oD_n] | k_upd))
  refine wp_lamc ?_
  (repeat (first | simp -dsimp -implicitDefEqProofs only [oD_s, oD_n] | k_upd))
  refine wp_exq (x_opp g.ring v1 v2) ?_
  refine wp_eq h_pit ?_
  (repeat (first | simp -dsimp -implicitDefEqProofs only [oD_s, oD_n] | k_upd))
  refine wp_appEnd (Nat.le_of_ble_eq_true rfl) ?_
  (repeat (first | simp -dsimp -implicitDefEqProofs only [oD_s, oD_n] | k_upd))
  refine wp_mthQ end_at' ?_
  (repeat (first | simp -dsimp -implicitDefEqProofs only [oD_s, oD_n] | k_upd))
  refine wp_lamc ?_
  (repeat (first | simp -dsimp -implicitDefEqProofs only [oD_s, oD_n] | k_upd))
  refine wp_exq (x_store w1 w2) ?_
  refine wp_eq h_player ?_
  (repeat (first | simp -dsimp -implicitDefEqProofs only [oD_s, oD_n] | k_upd))
  refine wp_appEnd (Nat.le_of_ble_eq_true rfl) ?_
  (repeat (first | simp -dsimp -implicitDefEqProofs only [oD_s, oD_n] | k_upd))
  refine wp_mthQ end_at' ?_
  (repeat (first | simp -dsimp -implicitDefEqProofs only [oD_s, oD_n] | k_upd))
  refine wp_lamc ?_
  (repeat (first | simp -dsimp -implicitDefEqProofs only [oD_s, oD_n] | k_upd))
  refine wp_exq (x_pits w1 w2) ?_
  refine wp_eq h_player ?_
  (repeat (first | simp -dsimp -implicitDefEqProofs only [oD_s, oD_n] | k_upd))
  refine wp_appEnd (Nat.le_of_ble_eq_true rfl) ?_
  (repeat (first | simp -dsimp -implicitDefEqProofs only [oD_s, oD_n] | k_upd))
  refine wp_frzEnd ?_
  (repeat (first | simp -dsimp -implicitDefEqProofs only [oD_s, oD_n] | k_upd))
  refine wp_eq hz ?_
  (repeat (first | simp -dsimp -implicitDefEqProofs only [oD_s, oD_n] | k_upd))
  refine wp_eq (a := .lst [.tup [.str "pit", d], .tup [.str "pit", d]]) (S := S2 ++ [.dead]) rfl ?_
  (repeat (first | simp -dsimp -implicitDefEqProofs only [oD_s, oD_n] | k_upd))
  refine wp_eq (a := .lst [.tup [.str "player", e], .tup [.str "player", e]]) (S := S2 ++ [.dead]) rfl ?_
  (repeat (first | simp -dsimp -implicitDefEqProofs only [oD_s, oD_n] | k_upd))
  refine wp_eq (a := .lst (heard4 d e)) (S := S2 ++ [.dead]) rfl ?_
  (repeat (first | simp -dsimp -implicitDefEqProofs only [oD_s, oD_n] | k_upd))
  refine wp_eq hz ?_
  (repeat (first | simp -dsimp -implicitDefEqProofs only [oD_s, oD_n] | k_upd))
  refine wp_eqv (eqD_str _ _) ?_
  (repeat (first | simp -dsimp -implicitDefEqProofs only [oD_s, oD_n] | k_upd))
  refine gq_bag (s1.trans s2) rfl ?_
  rw [decide_eq_true trivial]
  exact q S2 (s1.trans s2) p2
end K05
-- Q9
-- simp: oD_s, oD_n
set_option Elab.async false
set_option linter.all false
set_option maxRecDepth 100000
set_option maxHeartbeats 4000000
namespace K05
open PySem PV PyProof.Rows
theorem num_strOf {a : Int} (h0 : 0 ≤ a) (h1 : a ≤ 5) : numO (strOf a).cps.toList = some a := by
  rcases digit_cases h0 h1 with rfl | rfl | rfl | rfl | rfl | rfl <;> decide +kernel
theorem read_text {cs : List Nat} {a : Int} (g : Gr cs a) : readB (Txt.split (ringT cs a) ((" " : String) : Str)) = some (cs, a) := by
  have a0 := g.a0
  have a1 := g.a1
  have l6 := g.s.l6
  rw [split_text g]
  exact readB_two.mpr ⟨by rw [mkS_cps]; exact gs_iff.mpr g.s, num_strOf a0 (by omega), by rw [mkS_len]; exact a1, by rw [mkS_cps]⟩
theorem text_of {z : Str} {cs : List Nat} {n : Int} (h : readB (Txt.split z ((" " : String) : Str)) = some (cs, n)) : ringT cs n = z := by
  have g := readB_gr h
  have l6 := g.s.l6
  have n0 := g.a0
  have n1 := g.a1
  have e := StrLaws.join_split z ((" " : String) : Str)
  match hw : Txt.split z ((" " : String) : Str), h with
  | [w0, w1], h =>
    obtain ⟨_, hm, hn, rfl⟩ := readB_two.mp h
    rw [hw] at e
    have ew : w1 = strOf n := by
      obtain ⟨i, hi, rfl⟩ := (fig_iff (w := w1) (n := 6) (by omega)).mpr ⟨n, hm, by omega⟩
      have e2 : numO (oneS (48 + i)).cps.toList = some (i : Int) := by
        show (if _ then _ else _) = _
        rw [if_pos (by omega)]
        congr 1
        omega
      rw [e2] at hm
      have := Option.some.inj hm
      rw [← this, strOf_fig (by omega)]
    rw [← e, ew]
    unfold ringT
    rw [app_empty, mk_cps]
    rfl
  | [], h => cases h
  | [w], h => cases h
  | a :: b :: c :: r, h => cases h
theorem neO_s {x y : Str} {S : Sto} : neO [("Ring", F_RingD_eqD)] ["Ring"] (eqG true) (.str x) (.str y) S = .ok (.bl (!decide (x = y))) S := by
  show eqG true (.str x) (.str y) S = _
  unfold eqG
  rw [eqD_str]
  simp
abbrev badT : D := .tup [.str "text", .int 0, .int 0]
theorem neO_t {S : Sto} : neO [("Ring", F_RingD_eqD)] ["Ring"] (eqG true) badT badT S = .ok (.bl false) S := by
  show eqG true badT badT S = _
  unfold eqG
  have e : eqD badT badT = some true := by decide +kernel
  rw [e]
  rfl
noncomputable def body : MS := (sSeq (sSet 3 (cal F_law_signs (aCons (v 1) (aNil)))) (sSeq (sSet 4 (cal (mkF "Ring" F_RingD_initD) (aCons (v 3) (aCons (cal F_law_draw (aCons (v 1) (aCons (cal lenB (aCons (v 3) (aNil))) (aNil)))) (aNil))))) (sSeq (sIf (tOr (tst (bin (neO [("Ring", F_RingD_eqD)] ["Ring"] (eqG true)) (cmE "Ring" F_Ring_read (k (.cls "Ring")) (aCons (cal (strO [("Ring", F_RingD_strD)] strB) (aCons (v 4) (aNil))) (aNil))) (v 4))) (tst (bin (neO [("Ring", F_RingD_eqD)] ["Ring"] (eqG true)) (cmE "Ring" (ofLen 2 (kwF [0, 1] [] (dfn 2 4 B_Ring_read))) (k (.cls "Ring")) (aCons (cal (strO [("Ring", F_RingD_strD)] strB) (aCons (v 4) (aNil))) (aNil))) (v 4)))) (sSeq (sRet (k (.bl false))) (sNil)) (sNil)) (sSeq (sFor (.nm 5) (iR1 (aCons (k (.int 4)) (aNil))) (sSeq (sSet 6 (cal F_law_bent (aCons (v 1) (aCons (cal (strO [("Ring", F_RingD_strD)] strB) (aCons (v 4) (aNil))) (aNil))))) (sSeq (sSet 7 (lamc F_law_heard (cmE "Ring" F_Ring_read (k (.cls "Ring")) (aCons (v 6) (aNil))))) (sSeq (sIf (tru (cal F_law_is_text (aCons (v 6) (aNil)))) (sSeq (sIf (tOr (tNo (tru (cal (isiF (isiB "list" ["Ring"]) (isTy "list")) (aCons (v 7) (aCons (k (.ty "list")) aNil))))) (tst (bin (neO [("Ring", F_RingD_eqD)] ["Ring"] (eqG true)) (cal (strO [("Ring", F_RingD_strD)] strB) (aCons (bin ixG (v 7) (k (.int 0))) (aNil))) (v 6)))) (sSeq (sRet (k (.bl false))) (sNil)) (sNil)) (sNil)) (sSeq (sIf (tst (bin (neO [("Ring", F_RingD_eqD)] ["Ring"] (eqG true)) (v 7) (tupE (aCons (k (.str "text")) (aCons (k (.int 0)) (aCons (k (.int 0)) (aNil))))))) (sSeq (sRet (k (.bl false))) (sNil)) (sNil)) (sNil))) (sNil))))) (sSeq (sSet 8 (cal F_law_pick (aCons (v 1) (aCons (lstE (aCons (k .non) (aCons (k (.int 0)) (aCons (k (.bl true)) (aCons (lstE (aCons (v 3) (aNil))) (aCons (tupE (aCons (v 3) (aCons (k (.int 0)) (aNil)))) (aCons (dicE) (aCons (k (.str "")) (aCons (k (.str " ")) (aCons (v 4) (aNil))))))))))) (aNil))))) (sSeq (sIf (tst (bin (neO [("Ring", F_RingD_eqD)] ["Ring"] (eqG true)) (lamc F_law_heard (cmE "Ring" F_Ring_read (k (.cls "Ring")) (aCons (v 8) (aNil)))) (tupE (aCons (k (.str "text")) (aCons (k (.int 0)) (aCons (k (.int 0)) (aNil))))))) (sSeq (sRet (k (.bl false))) (sNil)) (sNil)) (sSeq (sIf (tOr (tNo (tru (cal F_law_made_wrong (aCons (v 1) (aCons (v 3) (aNil)))))) (tNo (tru (cal F_law_asked_wrong (aCons (v 1) (aCons (v 3) (aNil))))))) (sSeq (sRet (k (.bl false))) (sNil)) (sNil)) (sNil))))))))
noncomputable def inner : MS := (sSeq (sSet 6 (cal F_law_bent (aCons (v 1) (aCons (cal (strO [("Ring", F_RingD_strD)] strB) (aCons (v 4) (aNil))) (aNil))))) (sSeq (sSet 7 (lamc F_law_heard (cmE "Ring" F_Ring_read (k (.cls "Ring")) (aCons (v 6) (aNil))))) (sSeq (sIf (tru (cal F_law_is_text (aCons (v 6) (aNil)))) (sSeq (sIf (tOr (tNo (tru (cal (isiF (isiB "list" ["Ring"]) (isTy "list")) (aCons (v 7) (aCons (k (.ty "list")) aNil))))) (tst (bin (neO [("Ring", F_RingD_eqD)] ["Ring"] (eqG true)) (cal (strO [("Ring", F_RingD_strD)] strB) (aCons (bin ixG (v 7) (k (.int 0))) (aNil))) (v 6)))) (sSeq (sRet (k (.bl false))) (sNil)) (sNil)) (sNil)) (sSeq (sIf (tst (bin (neO [("Ring", F_RingD_eqD)] ["Ring"] (eqG true)) (v 7) (tupE (aCons (k (.str "text")) (aCons (k (.int 0)) (aCons (k (.int 0)) (aNil))))))) (sSeq (sRet (k (.bl false))) (sNil)) (sNil)) (sNil))) (sNil))))
theorem w_inner {S : Sto} {cs : List Nat} {a : Int} {z x2 x5 x6 x7 x8 : Option D} (h : Bag S 0) (g : Gr cs a) {N : Ev → Sto → Prop} {R : D → Sto → Prop} {B C : Ev → Sto → Prop} {E : XQ}
    (q : ∀ S' y6 y7, Bag S' 0 → N [z, some (.loc 0), x2, some (.str (mkS cs)), some (ringD cs a), x5, y6, y7, x8] S') {b : MS} (hb : b = inner) : Ws (b [z, some (.loc 0), x2, some (.str (mkS cs)), some (ringD cs a), x5, x6, x7, x8] S) N R B C E := by
  subst hb
  unfold inner
  (repeat (first | simp -dsimp -implicitDefEqProofs only [oD_s, oD_n] | k_upd))
  refine wp_eq (strO_r g) ?_
  (repeat (first | simp -dsimp -implicitDefEqProofs only [oD_s, oD_n] | k_upd))
  refine w_bent h g fun t S1 ht s1 p1 => ?_
  have lt := ht.le
  have et := e_isT (z := t) (by omega) ht.nr (S := S1)
  (repeat (first | simp -dsimp -implicitDefEqProofs only [oD_s, oD_n] | k_upd))
  refine wp_lamc ?_
  (repeat (first | simp -dsimp -implicitDefEqProofs only [oD_s, oD_n] | k_upd))
  cases hr : readB (Txt.split t ((" " : String) : Str)) with
  | none =>
    rw [hr] at et
    refine wp_exq (ex_readS (by omega) hr) ?_
    refine wp_eq h_text ?_
    (repeat (first | simp -dsimp -implicitDefEqProofs only [oD_s, oD_n] | k_upd))
    refine wp_eq et ?_
    (repeat (first | simp -dsimp -implicitDefEqProofs only [oD_s, oD_n] | k_upd))
    refine ws_f rfl ?_
    (repeat (first | simp -dsimp -implicitDefEqProofs only [oD_s, oD_n] | k_upd))
    refine wp_eq neO_t ?_
    (repeat (first | simp -dsimp -implicitDefEqProofs only [oD_s, oD_n] | k_upd))
    exact q S1 _ _ p1
  | some p =>
    obtain ⟨ds, n⟩ := p
    rw [hr] at et
    refine wp_eq (e_readS (by omega) hr) ?_
    refine wp_eq h_ok ?_
    (repeat (first | simp -dsimp -implicitDefEqProofs only [oD_s, oD_n] | k_upd))
    refine wp_eq et ?_
    (repeat (first | simp -dsimp -implicitDefEqProofs only [oD_s, oD_n] | k_upd))
    refine ws_t rfl ?_
    (repeat (first | simp -dsimp -implicitDefEqProofs only [oD_s, oD_n] | k_upd))
    refine wp_eq (strO_r (readB_gr hr)) ?_
    rw [text_of hr]
    (repeat (first | simp -dsimp -implicitDefEqProofs only [oD_s, oD_n] | k_upd))
    refine wp_eq neO_s ?_
    (repeat (first | simp -dsimp -implicitDefEqProofs only [oD_s, oD_n] | k_upd))
    refine ws_nf trivial ?_
    (repeat (first | simp -dsimp -implicitDefEqProofs only [oD_s, oD_n] | k_upd))
    exact q S1 _ _ p1
theorem read_none {d : D} (h : Vl d) (hs : ∀ z, d = .str z → z = "" ∨ z = " ") {S : Sto} : F_Ring_read [.cls "Ring", d] S = .ex "BadText" [("word", .int 0), ("line", .int 0)] S := by
  cases h with
  | str z =>
    rcases hs z rfl with rfl | rfl
    · exact ex_readS (by decide +kernel) (by decide +kernel)
    · exact ex_readS (by decide +kernel) (by decide +kernel)
  | _ => exact x_readN (by constructor <;> assumption) rfl
theorem w_turn {S : Sto} {z x2 x3 x4 x5 x6 x7 x8 : Option D} (h : Bag S 0) {N : Ev → Sto → Prop} {R : D → Sto → Prop} {B C : Ev → Sto → Prop} {E : XQ} (q : ∀ S' y3 y4 y5 y6 y7 y8, Bag S' 0 → N [z, some (.loc 0), x2, y3, y4, y5, y6, y7, y8] S') {b : MS} (hb : b = body) : Ws (b [z, some (.loc 0), x2, x3, x4, x5, x6, x7, x8] S) N R B C E := by
  subst hb
  unfold body
  (repeat (first | simp -dsimp -implicitDefEqProofs only [oD_s, oD_n] | k_upd))
  refine w_signs h fun cs S1 g s1 p1 => ?_
  have l2 := g.l2
  have l6 := g.l6
  (repeat (first | simp -dsimp -implicitDefEqProofs only [oD_s, oD_n] | k_upd))
  refine wp_lens (by rw [mkS_len]; omega) ?_
  rw [mkS_len]
  (repeat (first | simp -dsimp -implicitDefEqProofs only [oD_s, oD_n] | k_upd))
  refine dB p1 (by omega) (by omega) fun a S2 a0 a1 s2 p2 => ?_
  have gr : Gr cs a := ⟨g, a0, a1⟩
  have lt := len_text gr
  (repeat (first | simp -dsimp -implicitDefEqProofs only [oD_s, oD_n] | k_upd))
  refine wp_eq (mk_ring gr) ?_
  (repeat (first | simp -dsimp -implicitDefEqProofs only [oD_s, oD_n] | k_upd))
  refine wp_eq (strO_r gr) ?_
  (repeat (first | simp -dsimp -implicitDefEqProofs only [oD_s, oD_n] | k_upd))
  refine wp_eq (e_readS (by omega) (read_text gr)) ?_
  (repeat (first | simp -dsimp -implicitDefEqProofs only [oD_s, oD_n] | k_upd))
  refine wp_eq neO_r ?_
  rw [decide_eq_true rfl, decide_eq_true rfl, Bool.and_self]
  (repeat (first | simp -dsimp -implicitDefEqProofs only [oD_s, oD_n] | k_upd))
  refine wp_eq (strO_r gr) ?_
  (repeat (first | simp -dsimp -implicitDefEqProofs only [oD_s, oD_n] | k_upd))
  refine wp_eq (show dfn 2 4 B_Ring_read [.cls "Ring", .str (ringT cs a)] S2 = .ok (ringD cs a) S2 from e_readS (by omega) (read_text gr)) ?_
  (repeat (first | simp -dsimp -implicitDefEqProofs only [oD_s, oD_n] | k_upd))
  refine wp_eq neO_r ?_
  rw [decide_eq_true rfl, decide_eq_true rfl, Bool.and_self]
  (repeat (first | simp -dsimp -implicitDefEqProofs only [oD_s, oD_n] | k_upd))
  refine ws_for (fun j ρ S' => Bag S' 0 ∧ ∃ x5 x6 x7, ρ = [z, some (.loc 0), x2, some (.str (mkS cs)), some (ringD cs a), x5, x6, x7, x8]) (wp_eq (a := (ups 0 4, none)) rfl ?_)
  refine ⟨fun _ _ _ _ => trivial, ⟨p2, _, _, _, rfl⟩, ?_, ?_⟩
  · rintro j y hy ρ S3 ⟨p3, x5, x6, x7, rfl⟩
    obtain ⟨rfl, hj⟩ := ups_at (n := 4) hy
    refine ⟨_, rfl, w_inner p3 gr (fun S' y6 y7 hp => ?_) rfl⟩
    exact ⟨hp, _, _, _, rfl⟩
  · rintro ρ S3 ⟨p3, x5, x6, x7, rfl⟩
    (repeat (first | simp -dsimp -implicitDefEqProofs only [oD_s, oD_n] | k_upd))
    refine wp_eq (a := .dic0) (S := S3) rfl ?_
    (repeat (first | simp -dsimp -implicitDefEqProofs only [oD_s, oD_n] | k_upd))
    refine pB p3 (Nat.le_of_ble_eq_true rfl) (Nat.le_of_ble_eq_true rfl) fun i d S4 hd s4 p4 => ?_
    have hv : Vl d ∧ ∀ z, d = .str z → z = "" ∨ z = " " := by
      have := pick_mem hd
      simp only [List.mem_cons, List.not_mem_nil, or_false] at this
      rcases this with rfl | rfl | rfl | rfl | rfl | rfl | rfl | rfl | rfl
      · exact ⟨.non, fun z e => by cases e⟩
      · exact ⟨.int _, fun z e => by cases e⟩
      · exact ⟨.bl _, fun z e => by cases e⟩
      · exact ⟨.lst fun _ => rfl, fun z e => by cases e⟩
      · exact ⟨.tup fun _ => rfl, fun z e => by cases e⟩
      · exact ⟨.dic0, fun z e => by cases e⟩
      · exact ⟨.str _, fun z e => by cases e; exact .inl rfl⟩
      · exact ⟨.str _, fun z e => by cases e; exact .inr rfl⟩
      · exact ⟨.ring _ _, fun z e => by cases e⟩
    (repeat (first | simp -dsimp -implicitDefEqProofs only [oD_s, oD_n] | k_upd))
    refine wp_lamc ?_
    (repeat (first | simp -dsimp -implicitDefEqProofs only [oD_s, oD_n] | k_upd))
    refine wp_exq (read_none hv.1 hv.2) ?_
    refine wp_eq h_text ?_
    (repeat (first | simp -dsimp -implicitDefEqProofs only [oD_s, oD_n] | k_upd))
    refine wp_eq neO_t ?_
    (repeat (first | simp -dsimp -implicitDefEqProofs only [oD_s, oD_n] | k_upd))
    refine w_made p4 g fun S5 s5 p5 => ?_
    (repeat (first | simp -dsimp -implicitDefEqProofs only [oD_s, oD_n] | k_upd))
    refine w_asked p5 g fun S6 s6 p6 => ?_
    (repeat (first | simp -dsimp -implicitDefEqProofs only [oD_s, oD_n] | k_upd))
    exact q S6 _ _ _ _ _ _ p6
theorem e_law {cs : List Int} (h : cs.length ≤ 63) : ∃ S', F_law [.src (cs.map .int)] [] = .ok (.bl true) S' := by
  refine law_of (wp_dfn rfl ?_)
  (repeat (first | simp -dsimp -implicitDefEqProofs only [oD_s, oD_n] | k_upd))
  refine w_bag h fun S1 p1 hl => ?_
  (repeat (first | simp -dsimp -implicitDefEqProofs only [oD_s, oD_n] | k_upd))
  refine ws_for (fun j ρ S' => Bag S' 0 ∧ ∃ x2 x3 x4 x5 x6 x7 x8, ρ = [some (.src (cs.map .int)), some (.loc 0), x2, x3, x4, x5, x6, x7, x8]) (wp_eq (a := (ups 0 6, none)) rfl ?_)
  refine ⟨fun _ _ _ _ => trivial, ⟨p1, _, _, _, _, _, _, _, rfl⟩, ?_, ?_⟩
  · rintro j z hz ρ S5 ⟨hp, x2, x3, x4, x5, x6, x7, x8, rfl⟩
    obtain ⟨rfl, hj2⟩ := ups_at (n := 6) hz
    refine ⟨_, rfl, w_turn hp (fun S' y3 y4 y5 y6 y7 y8 hp' => ?_) rfl⟩
    exact ⟨hp', _, _, _, _, _, _, _, rfl⟩
  · rintro ρ S5 ⟨hp, x2, x3, x4, x5, x6, x7, x8, rfl⟩
    (repeat (first | simp -dsimp -implicitDefEqProofs only [oD_s, oD_n] | k_upd))
    exact gq_nil rfl rfl
end K05
set_option Elab.async false
set_option linter.all false
set_option maxRecDepth 100000
set_option maxHeartbeats 4000000
namespace K05
open PySem PySem.Spec PyProof.Rows L2 ZL PV PySem.W
theorem runF (w : World) : HandSHeadRun.RunEq R (PySem.W.view R.prog [32]) hk ob 8000 loose (w.withFollow "special-get-raises" false) := by
  intro os
  kernel_rfl
theorem runT (w : World) : HandSHeadRun.RunEq R (PySem.W.view R.prog [32]) hk ob 8000 loose (w.withFollow "special-get-raises" true) := by
  intro os
  kernel_rfl
theorem run (w : World) : HandSHeadRun.RunEq R (PySem.W.view R.prog [32]) hk ob 8000 loose w := byRow2 "special-get-raises" (P := fun w => HandSHeadRun.RunEq R (PySem.W.view R.prog [32]) hk ob 8000 loose w ) runF runT w
end K05
open PySem PySem.W PySem.Calls PyProof.Rows
set_option maxRecDepth 100000
set_option maxHeartbeats 0
theorem PySem.Challenge.cw_lapseeds_k05_rings_refused_and_read_holds : PySem.Challenge.rw_lapseeds_k05_rings_refused_and_read.Holds := by
  w_on; o_law
  refine HandSHeadRun.head_any (r := OpenLaw.row PySem.Challenge.rw_lapseeds_k05_rings_refused_and_read) (q := view (OpenLaw.row PySem.Challenge.rw_lapseeds_k05_rings_refused_and_read).prog [32]) (H := K05.hk) (ob := K05.ob) (M := 8000) (loose := K05.loose) (d := HandSHeadRun.topDef (OpenLaw.row PySem.Challenge.rw_lapseeds_k05_rings_refused_and_read).prog 32) (kwd := []) K05.ob_eq
    (by kernel_rfl) (fun s => by kernel_rfl) K05.run (by kernel_rfl) (by kernel_rfl) (by kernel_rfl) (by rfl) (by first | assumption | decide +kernel) (by decide +kernel) ⟨rfl, rfl, rfl, rfl, rfl, by decide +kernel⟩ ?hw ?hc
  case hw => w_witness2
  case hc =>
    refine ZL.walk_ofT (l := PySem.Challenge.rw_lapseeds_k05_rings_refused_and_read) (n := 63) (k := 8) rfl (by decide) (by kernel_rfl) ⟨rfl, by decide, by decide⟩ ?F
    intro w mg fa h Y G hmg0
    obtain ⟨Ka, Xa, c⟩ := Y
    have hmg : mg ("law" : PySem.Str) = some (.ref fa) := by
      have e : (HandSHeadRun.topDef (OpenLaw.row PySem.Challenge.rw_lapseeds_k05_rings_refused_and_read).prog 32).name = ("law" : PySem.Str) := by kernel_rfl
      rw [← e]
      exact hmg0
    have KX : (ZH.dropT K05.lams Ka).In h := ZH.dropT_in Xa
    have T := K05.tx KX G c.z
    have efa : fa = He.ga (ZH.dropT K05.lams Ka) "law" := by
      have z := T.glo "law" (by decide +kernel)
      rw [hmg] at z
      exact Value.ref.inj (Option.some.inj z)
    subst efa
    exact ⟨ZH.dropT K05.lams Ka, PV.csOf (ZH.dropT K05.lams Ka) K05.lams, PV.spEnd (ZH.dropT K05.lams Ka) K05.F_law, KX, PV.csOf_all KX Xa c.t,
      fun H a ns hl hH hS => (K05.e_law hl).elim fun S' e => PV.end_atT hS (PV.csOf_told c.t hH) e, fun base _ _ hB => PV.end_of (K05.w_law T (PV.csOf_lam KX Xa c.t hB))⟩
