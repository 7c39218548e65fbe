import PyProof.Rows.All
import Wide.All
import OpenK.AllK
import Wide.FinOn
import KE.KStateDown
import KE.DataCmp
import Lean
import HandS.ForMost
import HandS.Exc
import HandS.Defaults
import HandS.Star
import HandS.ClsMeth
import HandS.IsInst
import HandS.TupAny
import HandS.Style
import HandS.OwnEq
import HandS.Head0
import HandS.Head1
import HandS.Head2
import HandS.HeadEnd
import HandS.HeadHook1
import HandS.HeadHook2
import HandS.HeadNt
import KE.GoesEnum
import KE.KFmtOwn
import HandS.Walk
import HandS.Codes
import KE.KOpsOwn
import KE.KCallOwn
import PyProof.ListMulAny
import HandS.TupMul
import HandS.WordsExc
import HandS.Wide
import HandS.Text
import HandS.Deep
import HandS.SortInts
import HandS.Comp
import HandS.Iter
import HandS.More
import HandS.RaiseMore
import PySem.Challenge.RW_lapseeds_k20_rows_put_together
set_option Elab.async false
set_option linter.all false
set_option maxRecDepth 100000
set_option maxHeartbeats 4000000
/-! My own small layer over HandS: a head's Hook by any Bool; defs called where no repr is running; own operators; data by repr and order. -/
namespace ZH
open PySem PySem.W L2
def obsZ (chk : Frag → Bool) (fn : List He5.DefA) (K : Frag) : He.AlD := (chk K && fn.all fun d => d.ok K, fn.map fun d => He5.fnA K (d.at_ K))
def SaysZ (chk : Frag → Bool) (fn : List He5.DefA) (K : Frag) : Prop := obsZ chk fn K = He5.valA fn
def obsZG (n : Nat) (chk : Frag → Bool) (fn : List He5.DefA) (g : Addr → Option Obj) : He.AlD := obsZ chk fn (He.frG g (He5.asA g n))
def hookZ (n : Nat) (chk : Frag → Bool) (fn : List He5.DefA) : PySem.W.Hook where
  α := He.AlD
  obs := fun s => obsZG n chk fn s.heap.get?
  val := fun _ => He5.valA fn
  says := fun _ h => ∃ K : Frag, K.In h ∧ SaysZ chk fn K
  of := fun _ _ e => ⟨_, He.frG_in, e⟩
  keeps := fun _ _ _ z k => z.elim fun K q => ⟨K, Frag.In.keeps q.1 k, q.2⟩
theorem obsZG_eq {n : Nat} {chk : Frag → Bool} {fn : List He5.DefA} {g : Addr → Option Obj} {s : Shared} (h : ∀ a, g a = s.heap.get? a) : obsZG n chk fn g = (hookZ n chk fn).obs s := by
  rw [show g = s.heap.get? from funext h] <;> rfl
section
variable {chk : Frag → Bool} {fn : List He5.DefA} {K : Frag}
theorem SaysZ.two (c : SaysZ chk fn K) : chk K = true ∧ (fn.all fun d => d.ok K) = true := He.ba (show (chk K && fn.all fun d => d.ok K) = true from congrArg (fun z : He.AlD => z.1) c)
theorem SaysZ.fact (c : SaysZ chk fn K) : chk K = true := c.two.1
theorem SaysZ.def_ (c : SaysZ chk fn K) (i : Nat) {d : He5.DefA} (h : fn[i]? = some d := by rfl) : ∃ fd, L2.FunD K d.name d.qual d.params d.body d.scope (d.dvs K) (d.kws K) (d.at_ K) fd := by
  have e := congrArg (fun z : He.AlD => z.2[i]?) c
  have e' : (fn.map fun d => He5.fnA K (d.at_ K))[i]? = (fn.map He5.DefA.val)[i]? := e
  rw [List.getElem?_map, List.getElem?_map, h] at e'
  exact He5.DefA.funD (Option.some.inj e') (List.all_eq_true.mp c.two.2 d (List.mem_of_getElem? h))
end
end ZH
namespace ZL
open PySem PySem.Spec PyProof.Rows L2
/-! ### defs that are called where no repr is running -/
structure FnG (P : Program) (w : World) (K : PySem.W.Frag) (mg : Str → Option Value) (base : Heap) (CX : CXT) (k : Nat) (f : Addr) (fd : FuncData) (ps : List Str) (sp : Sp) : Prop where
  len : ∀ vs H Q E, sp vs H Q E → vs.length = ps.length
  run : ∀ (A : Around) (outer : List Env) (s : Shared) (H : Hp) (args : Args) (us : List Value) (vs : List V) (Q : VK) (E : XK), A.guards = some [] → Room k A → Env0 P w K mg base A outer s H → BindsTo s fd args (ps.zip us) → Vals vs us →
    sp vs H Q E → codeAny (model P w) A (.call (.ref f) args) (CR CX outer P w H s Q E) s
section
variable {P : Program} {w : World} {K : PySem.W.Frag} {mg : Str → Option Value} {base : Heap} {x qual : Str} {params : Arguments} {body : List Stmt} {scope : Scope} {dvs : List V} {kws : List (Str × V)} {f : Addr} {fd : FuncData} {CX : CXT} {N ps : List Str} {j k : Nat} {sp : Sp}
theorem FnG.of (F : FnOk P w K mg base CX k f fd ps sp) : FnG P w K mg base CX k f fd ps sp := ⟨F.len, fun A outer s H args us vs Q E _ hr e0 hb r h => F.run A outer s H args us vs Q E hr e0 hb r h⟩
theorem FnG.mono (F : FnG P w K mg base CX j f fd ps sp) (h : j ≤ k) : FnG P w K mg base CX k f fd ps sp := ⟨F.len, fun A outer s H args us vs Q E hg hr => F.run A outer s H args us vs Q E hg (hr.mono h)⟩
/-- a def's promise by its body, where no repr is running -/
theorem okG (F : FunD K x qual params body scope dvs kws f fd) (S : FnScope N ps scope) (len : ∀ vs H Q E, sp vs H Q E → vs.length = ps.length)
    (hbody : ∀ (cdv : Value) (A : Around) (outer : List Env) (s : Shared) (H : Hp) (vs : List V) (Q : VK) (E : XK), A.guards = some [] → Room k (A.deeper (envOfC qual scope s.heap.objs.size f cdv)) → sp vs H Q E →
      ∃ t, PSs (cxOf CX P w K mg base N qual scope f cdv A outer s H E) body t ∧ t { nx := fun _ H' => Q .non H', rt := Q } (start N vs) H) : FnG P w K mg base CX (k + 1) f fd ps sp := by
  obtain ⟨oc, od, dV, kV, doc, pm, an, cdv, ct, osl, rfl, lk, hcd, -, -⟩ := F.ex
  refine ⟨len, fun A outer s H args us vs Q E hg hr e0 hb r h => ?_⟩
  refine StX.run_bnd lk hcd S hr e0 (G := fun xs H2 => xs = vs ∧ H2 = H) (fun A' Ex Q' q => hb _ _ _ _ (q s H vs us e0 Un.refl rfl (fun _ _ z => z) r (len _ _ _ _ h) ⟨rfl, rfl⟩)) fun s2 H2 xs e hr' => ?_
  rw [e.1, e.2]
  exact hbody cdv A outer s2 H vs Q E hg hr' h
end
section
variable {X : Cx} {CX : CXT} {k : Nat} {f C : Addr} {fd : FuncData} {ps : List Str} {sp : Sp} {dvs : List V} {ds : List Value} {E : XK} {x m : Str} {p pos apos : Pos} {e o : Expr} {es : List Expr} {ta : TE} {t : TA}
theorem run_fnG {pins : List (Addr × Obj)} {σ : L2.St} {H : Hp} {s : Shared} {Q : VK} {us : List Value} {vs : List V} (F : FnG X.prog X.w X.K X.mg X.base CX k f fd ps sp) (hgd : X.A.guards = some []) (hr : Room k X.A) (hb : Binds X.K fd ps ds) (hd : Vals dvs ds) (hx : Passes CX X E)
    (I : Inv X pins σ H s) (r : Vals vs us) (h : sp (vs ++ dvs) H Q E) : wpAny (model X.prog X.w) X.A (call (.ref f) us) (EP X pins σ Q) X.xe s := by
  have r2 : Vals (vs ++ dvs) (us ++ ds) := r.append hd
  have hl : (us ++ ds).length = ps.length := r2.length ▸ F.len _ _ _ _ h
  refine wpAny_call (codeAny_mono (F.run X.A X.stack s H ⟨us, []⟩ (us ++ ds) (vs ++ dvs) Q E hgd hr I.env0 (hb s us I.kIn hl) r2 h) fun z s' hq => ?_)
  match z, hq with
  | .error e, hq => exact hx pins σ H s e s' I hq
  | .ok (.ret u), hq => exact I.after hq
  | .ok .next, hq => exact False.elim hq
  | .ok .brk, hq => exact False.elim hq
  | .ok .cont, hq => exact False.elim hq
/-- f(e, ..) of such a def -/
theorem pe_callG (F : FnG X.prog X.w X.K X.mg X.base CX k f fd ps sp) (hgd : X.A.guards = some []) (hr : Room k X.A) (hg : Gl X x) (hm : X.mg x = some (.ref f)) (hk : PySem.W.keepIn X.K (.ref f) = true) (hb : Binds X.K fd ps ds) (hd : Vals dvs ds) (hx : Passes CX X E)
    (ha : PA X (e :: es) t) (hdb : (x == ("__debug__" : Str)) = false := by decide) (he : starEach (e :: es) X.env = (false, eval e X.env) :: starEach es X.env := by rfl) (hpl : (backTo pos (starEach es X.env)).any (·.1) = false := by rfl) :
    PE X (.Call (.Name x p) (e :: es) [] pos) (tCall sp dvs E t) :=
  ⟨fun pins s σ H Q I h => wpAny_Call_Name_kw (ld_glob I hg hm (PySem.W.callWith_K (h₀ := X.base) I.ok.mod.kin hk (thn (ha.run pos pins s σ H _ I h) fun us s1 z => by
    obtain ⟨vs, H1, I1, r, q⟩ := z
    exact ⟨I1.kIn, run_fnG F hgd hr hb hd hx I1 r q⟩) he hpl) hdb)⟩
end
/-! ### a callee run from anywhere below a body -/
section
variable {X : Cx} {CX : CXT} {k : Nat} {f C g : Addr} {sp : Sp} {E : XK} {pins : List (Addr × Obj)} {σ : L2.St} {H : Hp} {s : Shared}
theorem run_at {A : Around} {Q : VK} {us : List Value} {vs : List V} (F : FnR X.prog X.w X.K X.mg X.base CX k f sp) (hr : Room k A) (hf : A.frames = X.A.frames) (hx : Passes CX X E) (I : Inv X pins σ H s) (r : Vals vs us) (h : sp vs H Q E) :
    wpAny (model X.prog X.w) A (call (.ref f) us) (EP X pins σ Q) X.xe s := by
  have e0 : Env0 X.prog X.w X.K X.mg X.base A X.stack s H := { I.env0 with frames := hf.trans I.env0.frames }
  refine wpAny_call (codeAny_mono (F A X.stack s H us vs Q E hr e0 r h) fun z s' hq => ?_)
  match z, hq with
  | .error e, hq => exact hx pins σ H s e s' I hq
  | .ok (.ret u), hq => exact I.after hq
  | .ok .next, hq => exact False.elim hq
  | .ok .brk, hq => exact False.elim hq
  | .ok .cont, hq => exact False.elim hq
theorem inst_at {a dx : Addr} {fs : List (Str × V)} (I : Inv X pins σ H s) (h : H a = some (.ins C dx fs)) : ∃ od, PySem.W.InstAt s.heap a (PySem.W.instObj C dx) C (some od) := by
  obtain ⟨mA, O, -⟩ := ins_get I.hok h
  obtain ⟨od, J, -⟩ := O.look
  exact ⟨od, J⟩
/-- a special method of a class of the text -/
structure Own (K : PySem.W.Frag) (C : Addr) (m : Str) (f : Addr) : Prop where
  at_ : PySem.W.findIn K (.ref C) m = some (some (.ref f))
  fn : PySem.W.isFn K (.ref f) = true
theorem Own.of {K : PySem.W.Frag} {m : Str} (h : Meth K C m f) : Own K C m f := ⟨h.at_, h.fn⟩
/-! ### own operators -/
/-- -x, ~x -/
def rOwn1 (C : Addr) (sp : Sp) (E : XK) : V → Hp → VK → Prop := fun x H Q => ∃ a dx fs, x = .ref a ∧ H a = some (.ins C dx fs) ∧ sp [x] H Q E
theorem un_negO (o : Own X.K C "__neg__" f) (F : FnR X.prog X.w X.K X.mg X.base CX k f sp) (hr : Room k X.A) (hx : Passes CX X E) : UnR X (unaryOp .USub) (rOwn1 C sp E) := by
  intro pins s σ H x u Q I rx h
  obtain ⟨a, dx, fs, rfl, ha, q⟩ := h
  cases rx
  obtain ⟨od, J⟩ := inst_at I ha
  obtain ⟨m, hF⟩ := I.fr
  exact PySem.W.ksp_neg hF I.ok.mod.kin J o.at_ o.fn (run_at (vs := [.ref a]) F hr rfl hx I (.cons rfl .nil) q)
theorem un_invO (o : Own X.K C "__invert__" f) (F : FnR X.prog X.w X.K X.mg X.base CX k f sp) (hr : Room k X.A) (hx : Passes CX X E) : UnR X (unaryOp .Invert) (rOwn1 C sp E) := by
  intro pins s σ H x u Q I rx h
  obtain ⟨a, dx, fs, rfl, ha, q⟩ := h
  cases rx
  obtain ⟨od, J⟩ := inst_at I ha
  obtain ⟨m, hF⟩ := I.fr
  exact PySem.W.ksp_inv hF I.ok.mod.kin J o.at_ o.fn (run_at (vs := [.ref a]) F hr rfl hx I (.cons rfl .nil) q)
/-- what an own comparison hands back -/
theorem cmpBack_bl {Q : VK} {u : Value} {s' : Shared} (h : EP X pins σ (fun v H' => (∃ b, v = .bl b) ∧ Q v H') u s') : PySem.W.CmpBack (EP X pins σ Q) u s' := by
  obtain ⟨v, H', I', r, ⟨b, rfl⟩, q⟩ := h
  cases r
  exact ⟨.bl b, H', I', rfl, q⟩
/-- x op y, x and y instances of the class at C -/
def rOwn2 (C : Addr) (sp : Sp) (E : XK) : R2 := fun x y H Q => ∃ a b dx dy fs gs, x = .ref a ∧ y = .ref b ∧ H a = some (.ins C dx fs) ∧ H b = some (.ins C dy gs) ∧ sp [x, y] H (fun v H' => (∃ b, v = .bl b) ∧ Q v H') E
theorem rc_own {op : CmpOp} {Q : VK} {a b dx dy : Addr} {fs gs : List (Str × V)} (o : Own X.K C (cmpInfo op).2.1 f) (F : FnR X.prog X.w X.K X.mg X.base CX k f sp) (hr : Room k X.A) (hx : Passes CX X E) (I : Inv X pins σ H s) (ha : H a = some (.ins C dx fs)) (hb : H b = some (.ins C dy gs))
    (q : sp [.ref a, .ref b] H (fun v H' => (∃ b, v = .bl b) ∧ Q v H') E) : wpAny (model X.prog X.w) X.A (richCompare op (.ref a) (.ref b)) (EP X pins σ Q) X.xe s := by
  obtain ⟨od, J⟩ := inst_at I ha
  obtain ⟨od', J'⟩ := inst_at I hb
  obtain ⟨m, hF⟩ := I.fr
  exact PySem.W.cmp_K hr.units0 hF I.ok.mod.kin J J'.type (by simp [PySem.W.notFirst]) o.at_ o.fn (thn (run_at (vs := [.ref a, .ref b]) F hr rfl hx I (.cons rfl (.cons rfl .nil)) q) fun u s' z => cmpBack_bl z)
theorem op_ltO (o : Own X.K C "__lt__" f) (F : FnR X.prog X.w X.K X.mg X.base CX k f sp) (hr : Room k X.A) (hx : Passes CX X E) : OpR X (compareOp .Lt) (rOwn2 C sp E) := by
  rintro pins s σ H x y v u Q I rx ry ⟨a, b, dx, dy, fs, gs, rfl, rfl, ha, hb, q⟩
  cases rx
  cases ry
  exact rc_own (op := .Lt) o F hr hx I ha hb q
theorem op_leO (o : Own X.K C "__le__" f) (F : FnR X.prog X.w X.K X.mg X.base CX k f sp) (hr : Room k X.A) (hx : Passes CX X E) : OpR X (compareOp .LtE) (rOwn2 C sp E) := by
  rintro pins s σ H x y v u Q I rx ry ⟨a, b, dx, dy, fs, gs, rfl, rfl, ha, hb, q⟩
  cases rx
  cases ry
  exact rc_own (op := .LtE) o F hr hx I ha hb q
theorem op_gtO (o : Own X.K C "__gt__" f) (F : FnR X.prog X.w X.K X.mg X.base CX k f sp) (hr : Room k X.A) (hx : Passes CX X E) : OpR X (compareOp .Gt) (rOwn2 C sp E) := by
  rintro pins s σ H x y v u Q I rx ry ⟨a, b, dx, dy, fs, gs, rfl, rfl, ha, hb, q⟩
  cases rx
  cases ry
  exact rc_own (op := .Gt) o F hr hx I ha hb q
theorem op_geO (o : Own X.K C "__ge__" f) (F : FnR X.prog X.w X.K X.mg X.base CX k f sp) (hr : Room k X.A) (hx : Passes CX X E) : OpR X (compareOp .GtE) (rOwn2 C sp E) := by
  rintro pins s σ H x y v u Q I rx ry ⟨a, b, dx, dy, fs, gs, rfl, rfl, ha, hb, q⟩
  cases rx
  cases ry
  exact rc_own (op := .GtE) o F hr hx I ha hb q
theorem op_eqO (o : Own X.K C "__eq__" f) (F : FnR X.prog X.w X.K X.mg X.base CX k f sp) (hr : Room k X.A) (hx : Passes CX X E) : OpR X (compareOp .Eq) (rOwn2 C sp E) := by
  rintro pins s σ H x y v u Q I rx ry ⟨a, b, dx, dy, fs, gs, rfl, rfl, ha, hb, q⟩
  cases rx
  cases ry
  exact rc_own (op := .Eq) o F hr hx I ha hb q
end
/-! ### order of data -/
section
open PySem.W (alike dataLt lt_data le_data)
variable {X : Cx}
def rLtD (K : PySem.W.Frag) : R2 := fun x y H Q => ∃ d e, Dp K H x d ∧ Dp K H y e ∧ alike d e = true ∧ d ≠ .none ∧ d.depth ≤ 60 ∧ Q (.bl (dataLt d e)) H
def rGtD (K : PySem.W.Frag) : R2 := fun x y H Q => ∃ d e, Dp K H x d ∧ Dp K H y e ∧ alike d e = true ∧ d ≠ .none ∧ d.depth ≤ 60 ∧ Q (.bl (dataLt e d)) H
def rLeD (K : PySem.W.Frag) : R2 := fun x y H Q => ∃ d e, Dp K H x d ∧ Dp K H y e ∧ alike d e = true ∧ d ≠ .none ∧ d.depth ≤ 60 ∧ Q (.bl (!dataLt e d)) H
def rGeD (K : PySem.W.Frag) : R2 := fun x y H Q => ∃ d e, Dp K H x d ∧ Dp K H y e ∧ alike d e = true ∧ d ≠ .none ∧ d.depth ≤ 60 ∧ Q (.bl (!dataLt d e)) H
theorem op_ltD (hu : X.A.units + 64 < cLine) : OpR X (compareOp .Lt) (rLtD X.K) := by
  rintro pins s σ H x y v u Q I rx ry ⟨d, e, hd, he, al, nn, dp, q⟩
  obtain ⟨as, r1⟩ := Dp.reads I d x v hd rx
  obtain ⟨bs, r2⟩ := Dp.reads I e y u he ry
  exact lt_data r1 r2 al nn (by omega) ⟨.bl _, H, I, rfl, q⟩
theorem op_leD (hu : X.A.units + 64 < cLine) : OpR X (compareOp .LtE) (rLeD X.K) := by
  rintro pins s σ H x y v u Q I rx ry ⟨d, e, hd, he, al, nn, dp, q⟩
  obtain ⟨as, r1⟩ := Dp.reads I d x v hd rx
  obtain ⟨bs, r2⟩ := Dp.reads I e y u he ry
  exact le_data r1 r2 al nn (by omega) ⟨.bl _, H, I, rfl, q⟩
/-! ### repr of data -/
def rReprD (K : PySem.W.Frag) : List V → Hp → VK → Prop := fun xs H Q => ∃ (a : Addr) (d : PyData), xs = [.ref a] ∧ Dp K H (.ref a) d ∧ d.showable = true ∧ d.hasDict = false ∧ d.depth ≤ 60 ∧ d.shown.length ≤ sizeLine ∧ Q (.str d.shown) H
theorem call_reprD (hg : X.A.guards = some []) (hu : X.A.units + 64 < cLine) : CallR X (.builtin "repr") (rReprD X.K) := by
  rintro pins s σ H xs us Q I r ⟨a, d, rfl, hd, hs, nd, dp, hz, q⟩
  match us, r with
  | [u], .cons r1 .nil =>
    cases r1
    obtain ⟨as, rd⟩ := Dp.reads I d (.ref a) (.ref a) hd rfl
    refine repr_of_reads' rd hs (fun z => ?_) hg (by omega) (fun _ _ z => z) (fun h' u tk hk => ⟨.str d.shown, H, I.kept hk, ⟨u, rfl⟩, q⟩) hz
    rw [nd] at z
    cases z
end
end ZL
set_option Elab.async false
set_option linter.all false
set_option maxRecDepth 100000
set_option maxHeartbeats 4000000
namespace ZL
open PySem PySem.Spec PyProof.Rows L2
/-! ### != where the class has an own == alone -/
structure OwnNe (K : PySem.W.Frag) (C : Addr) : Prop where
  ne : PySem.W.findIn K (.ref C) "__ne__" = some (some (.builtin "object.__ne__"))
  ob : PySem.W.mroIn K C (.type "object") = some true
section
variable {prog : Program} {w : World} {A : Around} {E : Value → Shared → Prop} {s : Shared} {K : PySem.W.Frag} {x C f : Addr} {ox : Obj} {od : Option Obj} {b : Value}
theorem ne_obj {Q : Value → Shared → Prop} (N : OwnNe K C) (o : Own K C "__eq__" f) (hu : A.in1.units < cLine) (X : K.In s.heap) (I : PySem.W.InstAt s.heap x ox C od)
    (h : wpAny (model prog w) A.in1 (call (.ref f) [.ref x, b]) (fun v s' => ∃ r, v = .bool r ∧ Q (.bool (!r)) s') E s) : wpAny (model prog w) A (call (.builtin "object.__ne__") [.ref x, b]) Q E s := by
  refine wpAny_call (codeAny_call_builtin PySem.F.cmp_object.ne.plain PySem.F.cmpEntry_ne (PySem.W.check_slot (i := "object.__ne__") (owner := "object") (n := "__ne__") PySem.F.cmpKind_ne PySem.F.cmpSplit_ne (I.type.andThen (PySem.W.looks_mroIn X N.ob)) (PySem.F.cmpArgs_ne _ _) ?_))
  unfold Builtin.«object.__ne__»
  refine wpAny_bind (m := slotArgs "__ne__" 1 _) (wpAny_pure ?_)
  refine wpAny_bind (m := cRoomFor _ _) (wpAny_cRoomFor hu ?_)
  refine wpAny_bind (m := callSpecialIfBound? (.ref x) (Str.ofString "__eq__") [b]) (PySem.W.ifBound_K X I o.at_ o.fn (thn h fun v s' z => ?_))
  obtain ⟨r, rfl, q⟩ := z
  exact wpAny_bind (m := truthy (.bool r)) (wpAny_truthy_bool (wpAny_pure q))
theorem ifBound_B {M : Model} {name : Str} {id : String} {args : List Value} {Q : Option Value → Shared → Prop} (X : K.In s.heap) (I : PySem.W.InstAt s.heap x ox C od) (hs : PySem.W.findIn K (.ref C) name = some (some (.builtin id)))
    (hb : ∀ self, bindSpecial (.builtin id) self = pure (.builtin id, [self])) (h : wpAny M A (call (.builtin id) (.ref x :: args)) (fun v => Q (some v)) E s) : wpAny M A (callSpecialIfBound? (.ref x) name args) Q E s := by
  have fin : wpAny M A (call (.builtin id) ([.ref x] ++ args) >>= fun v => pure (some v)) Q E s := wpAny_bind (thn h fun _ _ z => wpAny_pure z)
  simp only [callSpecialIfBound?, bindSpecialIfBound?]
  refine wpAny_holding (wpAny_bind (wpAny_bind (wpAny_bind (I.type.here ((PySem.W.looks_findIn X hs).here ?_)))))
  refine wpAny_bind (wpAny_askSetting (wpAny_ite ?_))
  split
  · exact wpAny_bind ((PySem.W.Looks.of_pure (hb _)).here (wpAny_pure (by exact fin)))
  · exact wpAny_tryCatch (wpAny_bind ((PySem.W.Looks.of_pure (hb _)).here (wpAny_pure (by exact fin))))
theorem ne_rc {tb : Value} {Q : Value → Shared → Prop} (N : OwnNe K C) (o : Own K C "__eq__" f) (hu : A.units + 1 < cLine) (X : K.In s.heap) (I : PySem.W.InstAt s.heap x ox C od) (hb : PySem.W.Looks (model prog w) s.heap (typeOf b) tb) (hn : PySem.W.notFirst K C tb = true)
    (h : wpAny (model prog w) A.in1 (call (.ref f) [.ref x, b]) (fun v s' => ∃ r, v = .bool r ∧ Q (.bool (!r)) s') E s) : wpAny (model prog w) A (richCompare .NotEq (.ref x) b) Q E s := by
  have one : wpAny (model prog w) A (tryCompare (.ref x) (cmpInfo .NotEq).2.1 b) (fun r s' => ∃ v, r = some v ∧ Q v s') E s := by
    unfold tryCompare
    refine wpAny_bind (ifBound_B X I N.ne PySem.F.cmp_object.ne.bind (ne_obj N o (by show A.units + 1 < cLine; exact hu) X I (thn h fun v s' z => ?_)))
    obtain ⟨r, rfl, q⟩ := z
    exact ⟨r, rfl, wpAny_pure ⟨_, rfl, q⟩⟩
  have fin : ∀ {k : Option Value → Sem Value}, (∀ v, k (some v) = pure v) → wpAny (model prog w) A (tryCompare (.ref x) (cmpInfo .NotEq).2.1 b >>= k) Q E s := fun {k} hk => wpAny_bind (thn one fun r s' z => by
    obtain ⟨v, rfl, q⟩ := z
    rw [hk]
    exact wpAny_pure q)
  unfold richCompare
  simp only [oneThing_ref]
  refine wpAny_holding (wpAny_bind (wpAny_cRoomFor (by omega) ?_))
  refine wpAny_bind (I.type.here (wpAny_bind (hb.here ?_)))
  split
  · rename_i q
    have e : PySem.W.subIn K tb (.ref C) = some false := by
      rcases Bool.or_eq_true_iff.mp hn with e | e
      · rw [beq_iff_eq.mp e] at q; simp at q
      · exact beq_iff_eq.mp e
    refine wpAny_bind ((PySem.W.looks_subIn X e).here ?_)
    simp only [Bool.false_eq_true, if_false]
    refine wpAny_bind (thn one fun r s' z => ?_)
    obtain ⟨v, rfl, hq⟩ := z
    exact wpAny_pure hq
  · refine wpAny_bind (wpAny_pure ?_)
    simp only [Bool.false_eq_true, if_false]
    refine wpAny_bind (thn one fun r s' z => ?_)
    obtain ⟨v, rfl, hq⟩ := z
    exact wpAny_pure hq
end
section
variable {X : Cx} {CX : CXT} {k : Nat} {f C g : Addr} {sp : Sp} {E : XK}
/-- x != y, instances of the class at C with an own == alone -/
def rOwnNe (C : Addr) (sp : Sp) (E : XK) : R2 := fun x y H Q => ∃ a b dx dy fs gs, x = .ref a ∧ y = .ref b ∧ H a = some (.ins C dx fs) ∧ H b = some (.ins C dy gs) ∧ sp [x, y] H (fun v H' => ∃ r, v = .bl r ∧ Q (.bl (!r)) H') E
theorem op_neO (N : OwnNe X.K C) (o : Own X.K C "__eq__" f) (F : FnR X.prog X.w X.K X.mg X.base CX k f sp) (hr : Room (k + 1) X.A) (hx : Passes CX X E) : OpR X (compareOp .NotEq) (rOwnNe C sp E) := by
  rintro pins s σ H x y v u Q I rx ry ⟨a, b, dx, dy, fs, gs, rfl, rfl, ha, hb, q⟩
  cases rx
  cases ry
  obtain ⟨od, J⟩ := inst_at I ha
  obtain ⟨od', J'⟩ := inst_at I hb
  show wpAny (model X.prog X.w) X.A (richCompare .NotEq (.ref a) (.ref b)) (EP X pins σ Q) X.xe s
  refine ne_rc N o (by have := hr.un; omega) I.kIn J J'.type (by simp [PySem.W.notFirst]) (thn (run_at (A := X.A.in1) (vs := [.ref a, .ref b]) F hr.in1 rfl hx I (.cons rfl (.cons rfl .nil)) q) fun u s' z => ?_)
  obtain ⟨v, H', I', r, b', rfl, q'⟩ := z
  cases r
  exact ⟨b', rfl, .bl (!b'), H', I', rfl, q'⟩
/-! ### x[i] by an own __getitem__ -/
theorem pe_makeS1 {x : Str} {e : Expr} {te : TE} {p pos sp_ : Pos} (M : Mk X.K C f) (F : FnR X.prog X.w X.K X.mg X.base CX k f sp) (hr : Room (k + 1) X.A) (hg : Gl X x) (hm : X.mg x = some (.ref C)) (hx : Passes CX X E) (he : PE X e te) (hd : (x == ("__debug__" : Str)) = false := by decide)
    (hst : starEach [.Starred e sp_] X.env = [(true, eval e X.env)] := by rfl) :
    PE X (.Call (.Name x p) [.Starred e sp_] [] pos) (fun σ H Q => te σ H fun y H1 => ∃ a xs, y = V.ref a ∧ (SqT X.K H1 a xs ∨ SqL X.K H1 a xs) ∧ ∀ x dx, H1 x = none → H1 dx = none → dx ≠ x →
      sp (V.ref x :: xs) (upd (upd H1 dx (.own x)) x (.ins C dx [])) (fun v H2 => v = .non ∧ Q (.ref x) H2) E) :=
  ⟨fun pins s σ H Q I h => wpAny_Call_Name_kw (ld_glob I hg hm (PySem.W.callWith_S (h₀ := X.base) I.ok.mod.kin M.kp (thn (he.run pins s σ H _ I h) fun v s1 z => by
    obtain ⟨y, H1, I1, ry, a, xs, rfl, hxs, q⟩ := z
    cases ry
    exact StX.star_any I1 hxs fun us s2 I2 rv => ⟨I2.kIn, StX.run_makeR M F hr hx I2 rv q⟩) hst) hd)⟩
end
/-! ### a op b op c op d -/
section
variable {X : Cx} {a b c d : Expr} {ta tb tc td : TE} {pos : Pos}
def tChain3 (r r' r'' : R2) (ta tb tc td : TE) : TE := fun σ H Q => ta σ H fun x H1 => tb σ H1 fun y H2 => r x y H2 fun z H3 => ∃ k, z = .bl k ∧ (if k = true then tc σ H3 fun w H4 => r' y w H4 fun z' H5 => ∃ k', z' = .bl k' ∧ (if k' = true then td σ H5 fun u H6 => r'' w u H6 Q else Q (.bl false) H5) else Q (.bl false) H3)
theorem pe_chain3 {op op' op'' : CmpOp} {r r' r'' : R2} (ho : OpR X (compareOp op) r) (ho' : OpR X (compareOp op') r') (ho'' : OpR X (compareOp op'') r'') (ha : PE X a ta) (hb : PE X b tb) (hc : PE X c tc) (hd : PE X d td)
    (hm : lastMarks [op, op', op''] [b, c, d] = false := by with_unfolding_all rfl) : PE X (.Compare a [op, op', op''] [b, c, d] pos) (tChain3 r r' r'' ta tb tc td) := by
  refine ⟨fun pins s σ H Q I h => ?_⟩
  refine Compare_chain (thn (ha.run pins s σ H _ I h) fun v s1 z1 => ?_) hm
  obtain ⟨x, H1, I1, r1, q1⟩ := z1
  refine chain_link (thn (hb.run pins s1 σ H1 _ I1 q1) fun u s2 z2 => ?_)
  obtain ⟨y, H2, I2, r2, q2⟩ := z2
  refine thn (ho pins s2 σ H2 x y v u _ I2 r1 r2 q2) fun dd s3 z3 => ?_
  obtain ⟨z, H3, I3, r3, k, rfl, q3⟩ := z3
  cases r3
  refine wpAny_truthy_bool ?_
  cases k with
  | false => exact ite_ff ⟨.bl false, H3, I3, rfl, q3⟩
  | true =>
    refine ite_tt (chain_link (thn (hc.run pins s3 σ H3 _ I3 q3) fun w' s4 z4 => ?_))
    obtain ⟨w, H4, I4, r4, q4⟩ := z4
    refine thn (ho' pins s4 σ H4 y w u w' _ I4 r2 r4 q4) fun dd s5 z5 => ?_
    obtain ⟨z', H5, I5, r5, k', rfl, q5⟩ := z5
    cases r5
    refine wpAny_truthy_bool ?_
    cases k' with
    | false => exact ite_ff ⟨.bl false, H5, I5, rfl, q5⟩
    | true =>
      refine ite_tt (chain_last (thn (hd.run pins s5 σ H5 _ I5 q5) fun t' s6 z6 => ?_))
      obtain ⟨t, H6, I6, r6, q6⟩ := z6
      exact ho'' pins s6 σ H6 w t w' t' Q I6 r4 r6 q6
end
end ZL
set_option Elab.async false
set_option linter.all false
set_option maxRecDepth 100000
set_option maxHeartbeats 4000000
namespace ZL
open PySem PySem.Spec PyProof.Rows L2
/-! ### x[i] by an own __getitem__ -/
section
variable {X : Cx} {CX : CXT} {k : Nat} {f C g : Addr} {sp : Sp} {E : XK} {a b : Expr} {ta tb : TE} {pos : Pos}
def rOwnIx (C : Addr) (sp : Sp) (E : XK) : R2 := fun x y H Q => ∃ a dx fs, x = .ref a ∧ H a = some (.ins C dx fs) ∧ sp [x, y] H Q E
theorem pe_ixO (o : Own X.K C "__getitem__" f) (hf : PySem.W.fnIn X.K f = true) (F : FnR X.prog X.w X.K X.mg X.base CX k f sp) (hr : Room (k + 1) X.A) (hx : Passes CX X E) (ha : PE X a ta) (hb : PE X b tb)
    (hs : ∀ x i, subscripted b true (.ref x) i = runValue (.builtin "lifetime.subscript" ⟨[.ref x, i], []⟩)) : PE X (.Subscript a b pos) (tOp (rOwnIx C sp E) ta tb) := by
  refine ⟨fun pins s σ H Q I h => ?_⟩
  refine Subscript_ (binT ha hb I h fun v u s2 x y H2 I2 rx ry q => ?_)
  obtain ⟨c, dx, fs, rfl, hc, q⟩ := q
  cases rx
  obtain ⟨od, J⟩ := inst_at I2 hc
  obtain ⟨m, hF⟩ := I2.fr
  exact PySem.W.sub_K hF I2.ok.mod.kin J o.at_ hf o.fn (run_at (A := X.A.in1) (vs := [.ref c, y]) F hr.in1 rfl hx I2 (.cons rfl (.cons ry .nil)) q) (hs _ _)
end
/-! ### t[::-1] of a tuple -/
section
variable {prog : Program} {w : World} {A : Around} {E : Value → Shared → Prop} {s : Shared}
theorem places_rev (n : Nat) : Builtin.Slice.slicePlaces ((n : Int) - 1) (-1) (-1) = n := by
  unfold Builtin.Slice.slicePlaces
  rw [if_neg (by decide)]
  by_cases h : (n : Int) - 1 > -1
  · rw [if_pos h, show ((n : Int) - 1 - -1 - 1) / (- -1) + 1 = (n : Int) by rw [show (- -1 : Int) = 1 by decide, Int.ediv_one]; omega]
    exact Int.toNat_natCast n
  · rw [if_neg h]
    show 0 = n
    omega
theorem applied_rev {sl : Addr} {vk : Value} {n : Nat} {Q : Int × Int × Nat → Shared → Prop} (hs : s.heap.IsSliceOf sl .none .none vk) (pk : IsPart vk (some (-1))) (h : Q ((n : Int) - 1, -1, n) s) :
    wpAny (model prog w) A (Builtin.Slice.sliceApplied (.ref sl) (pure (n : Int))) Q E s := by
  obtain ⟨os, hos, hcs, hds⟩ := id hs
  unfold Builtin.Slice.sliceApplied Builtin.Slice.sliceFields
  refine wpAny_bind (wpAny_bind (wpAny_field hos hds (x := .none) rfl (wpAny_bind (wpAny_field hos hds (x := .none) rfl (wpAny_bind (wpAny_field hos hds (x := vk) rfl (wpAny_pure ?_)))))))
  refine wpAny_bind (HT.slicePart_ pk ?_)
  show wpAny _ _ (if ((-1 : Int) == 0) = true then _ else _) _ _ s
  rw [if_neg (by decide)]
  refine wpAny_bind (HT.slicePart_ .none (wpAny_bind (HT.slicePart_ .none (wpAny_bind (wpAny_pure ?_)))))
  show wpAny _ _ (pure ((n : Int) - 1, (-1 : Int), Builtin.Slice.slicePlaces ((n : Int) - 1) (-1) (-1))) _ _ s
  rw [places_rev]
  exact wpAny_pure h
theorem fm_congr {α β : Type} {f g : α → Option β} : ∀ {l : List α}, (∀ m ∈ l, f m = g m) → l.filterMap f = l.filterMap g
  | [], _ => rfl
  | x :: l, h => by
    rw [List.filterMap_cons, List.filterMap_cons, h x List.mem_cons_self, fm_congr fun m hm => h m (List.mem_cons_of_mem _ hm)]
theorem pick_rev (xs : Array Value) : ((List.range xs.size).filterMap fun (m : Nat) => xs[(((xs.size : Int) - 1) + (m : Int) * -1).toNat]?).toArray = xs.toList.reverse.toArray := by
  have e : ((List.range xs.size).filterMap fun (m : Nat) => xs[(((xs.size : Int) - 1) + (m : Int) * -1).toNat]?) = ((List.range xs.size).map fun k => xs.size - 1 - k).filterMap (xs[·]?) := by
    rw [List.filterMap_map]
    refine fm_congr fun m hm => ?_
    have := List.mem_range.mp hm
    show xs[(((xs.size : Int) - 1) + (m : Int) * -1).toNat]? = xs[xs.size - 1 - m]?
    rw [show (((xs.size : Int) - 1) + (m : Int) * -1).toNat = xs.size - 1 - m by omega]
  rw [e, PySem.W.krv_range, List.filterMap_reverse, PySem.W.krv_all]
theorem getItem_tuple_rev {t sl : Addr} {items : Array Value} {vk : Value} {Q : Value → Shared → Prop} (ht : IsTup s.heap t items) (hs : s.heap.IsSliceOf sl .none .none vk) (pk : IsPart vk (some (-1)))
    (h : Q (.ref s.heap.objs.size) { s with heap := s.heap.push { cls := .type "tuple", data := .seq items.toList.reverse.toArray } }) (hsz : items.size ≤ sizeLine) : wpAny (model prog w) A (getItem (.ref t) (.ref sl)) Q E s := by
  have htake : sizeOk (.seq items.toList.reverse.toArray) := by
    show items.toList.reverse.toArray.size ≤ sizeLine
    rw [List.size_toArray, List.length_reverse, Array.length_toList]
    exact hsz
  obtain ⟨os, hos, hcs, hds⟩ := id hs
  have hTs : s.TypeIs (.ref sl) "slice" := ⟨os, hos, hcs⟩
  unfold getItem
  try with_reducible refine wpAny_holding ?_
  first | refine wpAny_bind (wpAny_pure ?_) | skip
  refine wpAny_bind (wpAny_sequenceKey ht.typeIs (by decide) ?_)
  refine wpAny_bind (wpAny_callSpecial?_slot (name := Str.ofString "__getitem__") ht.typeIs PyProof.Rows.slot_tuple_getitem (wpAny_call_entry PyProof.Rows.slot_tuple_getitem ht.typeIs entry_tuple_getitem ?_ (args_tuple_getitem _ _)))
  show wpAny _ _ (Builtin.Tuple.tupleItemsOf (.ref t) >>= _) _ _ s
  refine wpAny_bind (tupleItemsOf_ ht ?_)
  refine wpAny_bind (wpAny_typeOf hTs ?_)
  rw [if_pos (by decide)]
  refine wpAny_bind (applied_rev hs pk ?_)
  have hno : ¬ (((((items.size : Int) - 1) : Int) == 0 && (-1 : Int) == 1 && items.size == items.size) = true) := by
    rw [show ((-1 : Int) == 1) = false by decide, Bool.and_false, Bool.false_and]
    exact Bool.false_ne_true
  show wpAny _ _ (if ((((items.size : Int) - 1) : Int) == 0 && (-1 : Int) == 1 && items.size == items.size) = true then _ else _) _ _ s
  rw [if_neg hno, pick_rev]
  first
    | exact wpAny_bind (m := Builtin.Tuple.tupleExact _) (wpAny_newObj_type (wpAny_pure ⟨_, rfl, wpAny_pure h⟩) htake)
    | exact wpAny_bind (m := Builtin.Tuple.tupleExact _) (wpAny_newObj_type (wpAny_bind (wpAny_pure (wpAny_pure ⟨_, rfl, wpAny_pure h⟩))) htake)
    | exact wpAny_bind (wpAny_bind (m := Builtin.Tuple.tupleExact _) (wpAny_newObj_type (wpAny_pure (wpAny_pure ⟨_, rfl, wpAny_pure h⟩)) htake))
    | exact wpAny_bind (wpAny_bind (m := Builtin.Tuple.tupleExact _) (wpAny_newObj_type (wpAny_pure ⟨_, rfl, wpAny_pure h⟩) htake))
end
section
variable {X : Cx}
def tRevT (K : PySem.W.Frag) (te : TE) : TE := fun σ H Q => te σ H fun x H1 => ∃ a xs, x = .ref a ∧ SqT K H1 a xs ∧ ∀ p, H1 p = none → Q (.ref p) (upd H1 p (.tup xs.reverse))
theorem pe_revT {e : Expr} {te : TE} {k : Nat} {p1 p2 p3 pos : Pos} (he : PE X e te) : PE X (.Subscript e (.Slice none none (some (.UnaryOp .USub (.Constant (.int 1) k p1) p2)) p3) pos) (tRevT X.K te) := by
  refine ⟨fun pins s σ H Q I h => ?_⟩
  refine Subscript_ (thn (he.run pins s σ H _ I h) fun v s1 z1 => ?_)
  obtain ⟨x, H1, I1, r1, a, xs, rfl, hx, q⟩ := z1
  cases r1
  have hst : PO X (some (.UnaryOp .USub (.Constant (.int 1) k p1) p2)) (tPart (tUn (rU fun i => .int (-i)) (tC (.int 1)))) := po_some (pe_un un_neg pe_int)
  refine wpAny_Slice (thn (po_none.run pins s1 σ H1 (fun o H2 => o = none ∧ H2 = H1) I1 ⟨rfl, rfl⟩) fun vl s2 z2 => ?_)
  obtain ⟨l, H2, I2, pl, rfl, rfl⟩ := z2
  refine thn (po_none.run pins s2 σ H2 (fun o H3 => o = none ∧ H3 = H2) I2 ⟨rfl, rfl⟩) fun vu s3 z3 => ?_
  obtain ⟨u, H3, I3, pu, rfl, rfl⟩ := z3
  refine thn (hst.run pins s3 σ H3 (fun o H4 => o = some (-1) ∧ H4 = H3) I3 ⟨1, rfl, -1, rfl, rfl, rfl⟩) fun vs s4 z4 => ?_
  obtain ⟨o, H4, I4, ps, rfl, rfl⟩ := z4
  cases pl
  cases pu
  have I5 : Inv X pins σ H4 { s4 with heap := s4.heap.push { cls := .type "slice", data := .fields #[.none, .none, vs] } } := I4.kept (t' := s4.toks) fun b ob q => Heap.get?_push_of_some _ q
  obtain ⟨its, r, ht, hz⟩ := I5.tuple hx
  have hlen := r.length
  show wpAny (model X.prog X.w) X.A (subscriptTail e (.Slice none none (some (.UnaryOp .USub (.Constant (.int 1) k p1) p2)) p3) (.ref a) (.ref s4.heap.objs.size)) (EP X pins σ Q) X.xe _
  refine tail_any (ops := [.ref a, .ref s4.heap.objs.size]) ht.typeIs PyProof.Rows.slot_tuple_getitem.lookup ?_ (by with_unfolding_all rfl)
  refine getItem_tuple_rev ht (Heap.IsSliceOf.new _ .none .none vs) ps ?_ (by rw [List.size_toArray]; omega)
  have e1 : its.toArray.toList.reverse.toArray = its.reverse.toArray := by simp
  rw [e1]
  have hz2 : xs.reverse.length ≤ sizeLine := by
    rw [List.length_reverse]
    exact hz
  exact ⟨.ref _, _, I5.laid (t' := s4.toks) (o := .tup xs.reverse) (fun b ob q => Heap.get?_push_of_some _ q) (Nat.le_refl _) ⟨hz2, its.reverse, r.reverse, ⟨_, Heap.get?_push_size _ rfl, rfl, _, rfl⟩⟩, rfl, q _ (I5.hok.fresh (Nat.le_refl _))⟩
end
/-! ### enumerate(t) of a tuple -/
theorem meets_enumerate_new1 {v : Value} {o : Obj} {H : Heap → Prop} (B : Begins v o H) :
    Meets (Builtin.«enumerate.__new__» ⟨[.type "enumerate", v], []⟩) (fun _ R s => H s.heap ∧
      R (.ok (.ret (.ref (s.heap.push o).objs.size))) { s with heap := (s.heap.push o).push { cls := .type "enumerate", data := .fields #[.none, .bool false, .ref s.heap.objs.size, rawInt 0, .none, .none] } }) :=
  .of_wp fun prog w A R s h => by
    obtain ⟨hp, g, d, tk, os⟩ := s
    obtain ⟨h1, h⟩ := h
    have hsub := sub_enumerate
    have q1 : ∀ {A' : Around} {E : Value → Shared → Prop} {Q : Value → Shared → Prop}, Q (.ref hp.objs.size) ⟨hp.push o, g, d, tk, os⟩ → wpAny (model prog w) A' (pyIter v) Q E ⟨hp, g, d, tk, os⟩ :=
      fun q => B.iter prog w _ _ ⟨hp, g, d, tk, os⟩ _ h1 q
    wp_walk using q1
    refine wpAny_stack_any fun st => wpAny_pure ?_
    split
    · rename_i c _ _ _ _ _
      cases (c == Value.type "enumerate")
      · wp_walk using q1
        exact ⟨_, rfl, h⟩
      · wp_walk using q1
        exact ⟨_, rfl, h⟩
    · wp_walk using q1
      exact ⟨_, rfl, h⟩
theorem enum_begins1 {prog : Program} {w : World} {A : Around} {E : Value → Shared → Prop} {s : Shared} {v : Value} {o : Obj} {H : Heap → Prop} {Q : Value → Shared → Prop} (B : Begins v o H) (h1 : H s.heap)
    (h : ∀ h', IsEnum h' (s.heap.objs.size + 1) s.heap.objs.size 0 .none → h'.get? s.heap.objs.size = some o → (∀ b o, s.heap.get? b = some o → h'.get? b = some o) → Q (.ref (s.heap.objs.size + 1)) { s with heap := h' }) :
    wpAny (model prog w) A (call (.type "enumerate") [v]) Q E s := by
  have hz : (s.heap.push o).objs.size = s.heap.objs.size + 1 := Heap.size_push ..
  refine callType_new PySem.F.called_enumerate (by decide) (PySem.F.typeCall_enumerate_1 _) (PySem.F.newCall_enumerate_1 _) (fun obj => PySem.F.args_object_init_2 obj _) PySem.F.entry_enumerate_new (meets_enumerate_new1 B) ⟨h1, ?_⟩
  show _ ∧ _
  rw [hz]
  have he := Heap.get?_push_size (s.heap.push o) (o := { cls := .type "enumerate", data := .fields #[.none, .bool false, .ref s.heap.objs.size, rawInt 0, .none, .none] }) rfl
  rw [hz] at he
  exact ⟨⟨_, he, rfl⟩, h _ he (Heap.get?_push_of_some _ (Heap.get?_push_size _ B.free)) fun b o x => Heap.get?_push_of_some _ (Heap.get?_push_of_some _ x)⟩
def IteT (K : PySem.W.Frag) (a : Addr) : It :=
  ⟨fun i H => ∃ (xs : List V) (x : V), SqT K H a xs ∧ xs[i]? = some x, fun i H v H' => ∃ T x, v = .ref T ∧ H T = none ∧ H' = upd H T (.tup [.int (i : Nat), x]) ∧ ∀ xs, SqT K H a xs → xs[i]? = some x, fun i H => ∃ xs : List V, SqT K H a xs ∧ xs.length = i⟩
theorem turn_enumT {P : Program} {w : World} {K : PySem.W.Frag} {elts : List Expr} {kk : Nat} {tpos : Pos} (a e it : Addr) :
    Turn P w K (.Tuple elts kk tpos) (IteT K a) [e, it] e (fun i h => (∃ old, IsEnum h e it ((i : Nat) : Int) old) ∧ h.IsTupleIter it a i ∧ e ≠ it) where
  mem := by simp
  obj := fun i h st b hb => by
    obtain ⟨⟨old, he⟩, ⟨o, ho, hc, hd⟩, _⟩ := st
    rcases List.mem_cons.mp hb with z | z
    · rw [z]; exact ⟨_, he, fun v q => nomatch q⟩
    · rw [List.mem_singleton.mp z]; exact ⟨o, ho, fun v q => by rw [hd] at q; cases q⟩
  keep := fun i h h' st k => by
    obtain ⟨⟨old, he⟩, hi, hne⟩ := st
    exact ⟨⟨old, k e (by simp) _ he⟩, hi.at fun o q => k it (by simp) o q, hne⟩
  item := by
    intro X hP hw hK hc i pins s σ H E I hf st hg
    subst hP hw hK
    obtain ⟨⟨old, he⟩, hit, hne⟩ := st
    obtain ⟨xs, x, hq, hx⟩ := hg
    obtain ⟨its, rv, p, hz⟩ := I.tuple hq
    obtain ⟨u, hu, ru⟩ := rv.get hx
    have hel : e < s.heap.objs.size := Heap.lt_size he
    have hil : it < s.heap.objs.size := by obtain ⟨_, q, _⟩ := hit; exact Heap.lt_size q
    have hae : a ≠ e := fun z => by
      obtain ⟨o, ho, hcl, _⟩ := p
      rw [z, he] at ho
      cases ho
      injection hcl with q
      exact absurd q (by decide)
    have hai : a ≠ it := fun z => by
      obtain ⟨o, ho, hcl, _⟩ := p
      obtain ⟨o2, ho2, hc2, _⟩ := hit
      rw [z, ho2] at ho
      cases ho
      rw [hc2] at hcl
      injection hcl with q
      exact absurd q (by decide)
    refine wpAny_pyNext_enum_itemC (Draws.tuple (by exact I.ok.hd hc) it a hai its.toArray) he ⟨hit, p⟩ (by rw [List.size_toArray, ← rv.length]; exact (List.getElem?_eq_some_iff.mp hx).1) hne (by simp [hne, hae.symm]) fun y h' tk hP ho hst hT hsz hk => ?_
    have hy : y = u := by
      have q : its.toArray[i]? = some y := hP
      rw [List.getElem?_toArray, hu] at q
      exact (Option.some.inj q).symm
    subst hy
    refine ⟨_, rfl, wpAny_letOwnedTupleGo_enum (s := { s with heap := h', toks := tk + 1 }) ho fun h'' he' sb => ?_⟩
    have hT2 : h''.get? s.heap.objs.size = some { cls := .type "tuple", data := .seq #[.int i tk, y] } := (sb.2 _ (Nat.ne_of_gt hel)).trans hT
    have new : ObjOk X.prog X.w (upd H s.heap.objs.size (.tup [.int (i : Nat), x])) h'' s.heap.objs.size (.tup [.int (i : Nat), x]) :=
      ⟨by show 2 ≤ sizeLine; decide, [.int i tk, y], .cons ⟨_, rfl⟩ (.cons ru .nil), ⟨_, hT2, rfl, _, rfl⟩⟩
    have I1 : Inv X pins σ (upd H s.heap.objs.size (.tup [.int (i : Nat), x])) { s with heap := h'', toks := tk + 1 } :=
      I.turnedNew (ch := [e, it]) (fun b ob hb q => (sb.2 b (fun z => hb (by simp [z]))).trans (hk b ob (fun z => hb (by simp [z])) (fun z => hb (by simp [z])) q)) hf (Nat.le_refl _) new
    refine ⟨.ref s.heap.objs.size, _, I1, rfl, ⟨_, x, rfl, I.hok.fresh (Nat.le_refl _), rfl, fun ys hy => by rw [I.tuple_inj hy hq]; exact hx⟩, ⟨⟨y, ?_⟩, hst.1.at fun o q => (sb.2 it (Ne.symm hne)).trans q, hne⟩, fun b hb => ?_⟩
    · rw [show ((i + 1 : Nat) : Int) = (i : Int) + 1 by omega]
      exact he'
    · have hb' : b < s.heap.objs.size := by
        rcases List.mem_cons.mp hb with z | z
        · rw [z]; exact hel
        · rw [List.mem_singleton.mp z]; exact hil
      rw [upd_ne (Nat.ne_of_lt hb')]
      exact (hf b hb).1
  done := by
    intro X hP hw hK hc i pins s σ H E I hf st hg
    subst hP hw hK
    obtain ⟨⟨old, he⟩, hit, hne⟩ := st
    obtain ⟨xs, hq, hx⟩ := hg
    obtain ⟨its, rv, p, hz⟩ := I.tuple hq
    obtain ⟨f0, f1, f2, f3, f4, f5⟩ := hf it (by simp)
    have hl := rv.length
    have hai : a ≠ it := fun z => by
      obtain ⟨o, ho, hcl, _⟩ := p
      obtain ⟨o2, ho2, hc2, _⟩ := hit
      rw [z, ho2] at ho
      cases ho
      rw [hc2] at hcl
      injection hcl with q
      exact absurd q (by decide)
    have hi : its.toArray.size = i := by rw [List.size_toArray, ← hl]; exact hx
    exact wpAny_pyNext_enum_endD (Draws.tuple (by exact I.ok.hd hc) it a hai its.toArray) he ⟨by rw [hi]; exact hit, p⟩ fun h' eb => ⟨rfl, I.turned (t' := s.toks) (fun b o hb q => eb b o hb q) f0 f1 f3 f4 f5⟩
  self := fun A i s Q E st h => by
    obtain ⟨⟨_, he⟩, _⟩ := st
    exact wpAny_pyIter_enum he h
def iEnumT (K : PySem.W.Frag) (ta : TA) : TI := fun σ H R => ta σ H fun vs H1 => ∃ a xs, vs = [.ref a] ∧ SqT K H1 a xs ∧ R (IteT K a) H1
theorem pi_enumT {X : Cx} {e : Expr} {ta : TA} {p pos tpos : Pos} {elts : List Expr} {kk : Nat} (hg : Gl X "enumerate") (hm : X.mg "enumerate" = none) (ha : PA X [e] ta) (hs : starEach [e] X.env = [(false, eval e X.env)] := by rfl) :
    PI X (.Tuple elts kk tpos) (.Call (.Name "enumerate" p) [e] [] pos) (iEnumT X.K ta) := by
  refine ⟨fun pins s σ H R I h => ?_⟩
  refine Call_ (ld_blt I hg hm boot_enumerate (PyProof.Rows.callWith_type1 (thn (ha.run pos pins s σ H _ I h) fun us s1 z => ?_) hs rfl))
  obtain ⟨vs, H1, I1, r1, a, xs, rfl, hq, q⟩ := z
  match us, r1 with
  | [u], .cons r .nil =>
    cases r
    obtain ⟨its, rv, p', hz⟩ := I1.tuple hq
    refine enum_begins1 (begins_tuple a its.toArray) p' fun h' he hit hk => wpAny_pyIter_enum he ?_
    have I2 : Inv X pins σ H1 { s1 with heap := h' } := I1.kept (t' := s1.toks) hk
    refine ⟨s1.heap.objs.size + 1, [s1.heap.objs.size + 1, s1.heap.objs.size], _, _, H1, rfl, I2, turn_enumT a (s1.heap.objs.size + 1) s1.heap.objs.size, ⟨⟨.none, he⟩, ⟨_, hit, rfl, rfl⟩, Nat.succ_ne_self _⟩, fun b hb => ?_, q⟩
    have hle : s1.heap.objs.size ≤ b := by
      rcases List.mem_cons.mp hb with z | z
      · rw [z]; exact Nat.le_add_right _ _
      · rw [List.mem_singleton.mp z]; exact Nat.le_refl _
    exact I1.fpOk hle (I1.hok.fresh hle)
theorem walk_enumT {K : PySem.W.Frag} {a : Addr} {xs : List V} : Walk (IteT K a) xs.length (fun H => SqT K H a xs) (YPair (fun i => some (.int (i : Nat))) (fun i => xs[i]?)) where
  goes := fun i _ hi q => ⟨xs, xs[i], q, by simp [hi]⟩
  stops := fun _ q => ⟨xs, q, rfl⟩
  yields := fun i H v H' _ q y => by
    obtain ⟨T, x, h1, h2, h3, h4⟩ := y
    exact ⟨T, .int (i : Nat), x, h1, h2, h3, rfl, h4 xs q⟩
end ZL
set_option Elab.async false
set_option linter.all false
set_option maxRecDepth 100000
set_option maxHeartbeats 4000000
namespace ZL
open PySem PySem.Spec PyProof.Rows L2
/-! ### defs by positional promises -/
def FnRG (P : Program) (w : World) (K : PySem.W.Frag) (mg : Str → Option Value) (base : Heap) (CX : CXT) (k : Nat) (f : Addr) (sp : Sp) : Prop :=
  ∀ (A : Around) (outer : List Env) (s : Shared) (H : Hp) (us : List Value) (vs : List V) (Q : VK) (E : XK), A.guards = some [] → Room k A → Env0 P w K mg base A outer s H → Vals vs us → sp vs H Q E →
    codeAny (model P w) A (.call (.ref f) ⟨us, []⟩) (CR CX outer P w H s Q E) s
section
variable {P : Program} {w : World} {K : PySem.W.Frag} {mg : Str → Option Value} {base : Heap} {x qual : Str} {st : Stmt} {kws : List (Str × V)} {f : Addr} {fd : FuncData} {N ps : List Str} {k : Nat} {sp : Sp} {CX : CXT}
theorem FnRG.of (F : FnR P w K mg base CX k f sp) : FnRG P w K mg base CX k f sp := fun A outer s H us vs Q E _ hr e0 r h => F A outer s H us vs Q E hr e0 r h
/-- a def from which nothing is raised -/
theorem okR (F : FunD K x qual (defArgs st) (defBody st) (defScope st) [] kws f fd) (S : FnScope N ps (defScope st)) (len : ∀ vs H Q E, sp vs H Q E → vs.length = ps.length)
    (hb : ∀ (kV doc pm : Value) (an : Option Addr) (cdv ct : Value) (us : List Value), us.length = ps.length → bindArgs (PySem.W.fnOf x qual (defArgs st) (defBody st) (defScope st) .none kV doc pm an cdv ct) ⟨us, []⟩ = pure (ps.zip us))
    (hbody : ∀ (cdv : Value) (A : Around) (outer : List Env) (s : Shared) (H : Hp) (vs : List V) (Q : VK) (E : XK), Room k (A.deeper (envOfC qual (defScope st) s.heap.objs.size f cdv)) → sp vs H Q E →
      ∃ t, PSs (cxOf CX0 P w K mg base N qual (defScope st) f cdv A outer s H E).nox (defBody st) t ∧ t { nx := fun _ H' => Q .non H', rt := Q } (start N vs) H) : FnR P w K mg base CX0 (k + 1) f sp := by
  have G : FnOk P w K mg base CX0 (k + 1) f fd ps sp := F.ok S len fun cdv A outer s H vs Q E hr h => by
    obtain ⟨t, ht, q⟩ := hbody cdv A outer s H vs Q E hr h
    exact ⟨t, ht.nox, q⟩
  exact (G.raw (F.bindsN hb) .nil).imp fun vs H Q E h => by rw [List.append_nil]; exact h
/-- .. called where no repr is running -/
theorem okRG (F : FunD K x qual (defArgs st) (defBody st) (defScope st) [] kws f fd) (S : FnScope N ps (defScope st)) (len : ∀ vs H Q E, sp vs H Q E → vs.length = ps.length)
    (hb : ∀ (kV doc pm : Value) (an : Option Addr) (cdv ct : Value) (us : List Value), us.length = ps.length → bindArgs (PySem.W.fnOf x qual (defArgs st) (defBody st) (defScope st) .none kV doc pm an cdv ct) ⟨us, []⟩ = pure (ps.zip us))
    (hbody : ∀ (cdv : Value) (A : Around) (outer : List Env) (s : Shared) (H : Hp) (vs : List V) (Q : VK) (E : XK), A.guards = some [] → Room k (A.deeper (envOfC qual (defScope st) s.heap.objs.size f cdv)) → sp vs H Q E →
      ∃ t, PSs (cxOf CX0 P w K mg base N qual (defScope st) f cdv A outer s H E).nox (defBody st) t ∧ t { nx := fun _ H' => Q .non H', rt := Q } (start N vs) H) : FnRG P w K mg base CX0 (k + 1) f sp := by
  have G : FnG P w K mg base CX0 (k + 1) f fd ps sp := okG F S len fun cdv A outer s H vs Q E hg hr h => by
    obtain ⟨t, ht, q⟩ := hbody cdv A outer s H vs Q E hg hr h
    exact ⟨t, ht.nox, q⟩
  intro A outer s H us vs Q E hg hr e0 r h
  have hl : us.length = ps.length := r.length ▸ G.len _ _ _ _ h
  have b := F.bindsN hb s us (e0.mod.kin.keeps fun b o e => (e0.bs b o e).1) (by simpa using hl)
  exact G.run A outer s H ⟨us, []⟩ us vs Q E hg hr e0 (by simpa using b) r h
end
section
variable {X : Cx} {CX : CXT} {k : Nat} {f C : Addr} {sp : Sp} {E : XK} {x m : Str} {p pos apos : Pos} {e o : Expr} {es : List Expr} {ta : TE} {t : TA}
def tCallR (sp : Sp) (E : XK) (t : TA) : TE := fun σ H Q => t σ H fun vs H1 => sp vs H1 Q E
theorem pe_callR (F : FnR X.prog X.w X.K X.mg X.base CX k f sp) (hr : Room k X.A) (hg : Gl X x) (hm : X.mg x = some (.ref f)) (hk : PySem.W.keepIn X.K (.ref f) = true) (hx : Passes CX X E)
    (ha : PA X (e :: es) t) (hdb : (x == ("__debug__" : Str)) = false := by decide) (he : starEach (e :: es) X.env = (false, eval e X.env) :: starEach es X.env := by rfl) (hpl : (backTo pos (starEach es X.env)).any (·.1) = false := by rfl) :
    PE X (.Call (.Name x p) (e :: es) [] pos) (tCallR sp E t) :=
  ⟨fun pins s σ H Q I h => wpAny_Call_Name_kw (ld_glob I hg hm (PySem.W.callWith_K (h₀ := X.base) I.ok.mod.kin hk (thn (ha.run pos pins s σ H _ I h) fun us s1 z => by
    obtain ⟨vs, H1, I1, r, q⟩ := z
    exact ⟨I1.kIn, wpAny_call (run_fnR F hr hx I1 r q)⟩) he hpl) hdb)⟩
theorem pe_callRG (F : FnRG X.prog X.w X.K X.mg X.base CX k f sp) (hgd : X.A.guards = some []) (hr : Room k X.A) (hg : Gl X x) (hm : X.mg x = some (.ref f)) (hk : PySem.W.keepIn X.K (.ref f) = true) (hx : Passes CX X E)
    (ha : PA X (e :: es) t) (hdb : (x == ("__debug__" : Str)) = false := by decide) (he : starEach (e :: es) X.env = (false, eval e X.env) :: starEach es X.env := by rfl) (hpl : (backTo pos (starEach es X.env)).any (·.1) = false := by rfl) :
    PE X (.Call (.Name x p) (e :: es) [] pos) (tCallR sp E t) :=
  ⟨fun pins s σ H Q I h => wpAny_Call_Name_kw (ld_glob I hg hm (PySem.W.callWith_K (h₀ := X.base) I.ok.mod.kin hk (thn (ha.run pos pins s σ H _ I h) fun us s1 z => by
    obtain ⟨vs, H1, I1, r, q⟩ := z
    refine ⟨I1.kIn, wpAny_call (codeAny_mono (F X.A X.stack s1 H1 us vs Q E hgd hr I1.env0 r q) fun z s' hq => ?_)⟩
    match z, hq with
    | .error e, hq => exact hx pins σ H1 s1 e s' I1 hq
    | .ok (.ret u), hq => exact I1.after hq
    | .ok .next, hq => exact False.elim hq
    | .ok .brk, hq => exact False.elim hq
    | .ok .cont, hq => exact False.elim hq) he hpl) hdb)⟩
end
/-! ### small words -/
theorem qT {Q : VK} {c : Prop} [Decidable c] {H : Hp} (hc : c) (q : Q (.bl true) H) : Q (.bl (decide c)) H := by
  rw [decide_eq_true hc]
  exact q
theorem qF {Q : VK} {c : Prop} [Decidable c] {H : Hp} (hc : ¬ c) (q : Q (.bl false) H) : Q (.bl (decide c)) H := by
  rw [decide_eq_false hc]
  exact q
theorem Ext.updD {H H1 : Hp} {p : Addr} {o : HO} (x : Ext H H1) (h : H p = none) : Ext H (upd H1 p o) := fun a u e => by
  rw [upd_ne (ne_of_none e h)]
  exact x a u e
/-- what a comprehension's element must leave: the list so far stands, what holds of it goes on -/
def LcN (D : Addr) (Pv : Nat → List V → Hp → Prop) (i : Nat) (y : V) (H4 : Hp) : Prop := ∃ acc, H4 D = some (.lst acc) ∧ acc.length < sizeLine ∧ ∃ ys, ys.length = i + 1 ∧ upd H4 D (.lst (acc ++ [y])) D = some (.lst ys) ∧ Pv (i + 1) ys (upd H4 D (.lst (acc ++ [y])))
theorem LcN.mk {D : Addr} {Pv : Nat → List V → Hp → Prop} {i : Nat} {ys : List V} {y : V} {H4 : Hp} (hl : ys.length = i) (hi : i < 1000) (hD : H4 D = some (.lst ys)) (h : Pv (i + 1) (ys ++ [y]) (upd H4 D (.lst (ys ++ [y])))) : LcN D Pv i y H4 :=
  ⟨ys, hD, small1000 (by omega), ys ++ [y], by rw [List.length_append, hl]; rfl, upd_same, h⟩
/-- a comprehension without tests by what holds of the list so far -/
theorem lc_acc {J : It} {n : Nat} {G : Hp → Prop} {Y : Nat → Hp → V → Hp → Prop} (w : Walk J n G Y) {g : TG} {te : TE} {vs : List Nat} {σ : L2.St} {H1 : Hp} {D : Addr} {Qd : Hp → Prop} (Pv : Nat → List V → Hp → Prop)
    (h0 : Pv 0 [] (upd H1 D (.lst []))) (hG : ∀ i ys H, i ≤ n → Pv i ys H → H D = some (.lst ys) → G H)
    (hs : ∀ i ys x H H', i < n → ys.length = i → Pv i ys H → H D = some (.lst ys) → Y i H x H' → g x (wipe σ vs) H' fun σ2 H2 => wipe σ2 vs = wipe σ vs ∧ te σ2 H2 (LcN D Pv i))
    (hd : ∀ ys H, ys.length = n → Pv n ys H → H D = some (.lst ys) → Qd H) :
    ∃ W : Nat → Nat → Hp → Prop, (∃ m, W 0 m (upd H1 D (.lst []))) ∧ ∀ i m H, W i m H →
      (J.stop i H ∧ Qd H) ∨ (J.go i H ∧ ∃ Nx : Hp → Prop, (∀ H', Nx H' → ∃ m', m' < m ∧ W (i + 1) m' H') ∧ ∀ x H', J.yld i H x H' → g x (wipe σ vs) H' fun σ2 H2 => wipe σ2 vs = wipe σ vs ∧ tYes σ2 H2 fun b H3 =>
        if b = true then te σ2 H3 fun y H4 => ∃ acc, H4 D = some (.lst acc) ∧ acc.length < sizeLine ∧ Nx (upd H4 D (.lst (acc ++ [y]))) else Nx H3) := by
  refine lc_it w (fun i H => ∃ ys, ys.length = i ∧ H D = some (.lst ys) ∧ Pv i ys H) ⟨[], rfl, upd_same, h0⟩ (fun i H hi z => ?_) (fun i x H H' hi z y => ?_) fun H z => ?_
  · obtain ⟨ys, _, hD, p⟩ := z
    exact hG i ys H hi p hD
  · obtain ⟨ys, hl, hD, p⟩ := z
    have q := hs i ys x H H' hi hl p hD y
    simp only [tYes, if_true]
    exact q
  · obtain ⟨ys, hl, hD, p⟩ := z
    exact hd ys H hl p hD
end ZL
set_option Elab.async false
set_option linter.all false
set_option maxRecDepth 100000
set_option maxHeartbeats 4000000
namespace ZL
open PySem PySem.Spec PyProof.Rows L2
section
variable {P : Program} {w : World} {K : PySem.W.Frag} {mg mb : Str → Option Value} {k : Nat} {fa a : Addr} {sp : Sp} {s₁ : Shared} {vs : List Value} {ns : List Int}
abbrev ended (s₁ : Shared) : Except Value Flow → Shared → Prop := fun r s' => r = .ok (.ret (.bool true)) ∧ OldK s₁.heap s'.heap ∧ s'.os = s₁.os ∧ AllBare s'.gens
/-- from a heap in which at most the script is told -/
theorem ended_of {H : Hp} (hO : Only H) (hok : HOk P w H s₁.heap) {r : Except Value Flow} {s' : Shared} (h : CR CX0 [] P w H s₁ (fun v _ => v = .bl true) (fun _ _ _ => False) r s') : ended s₁ r s' := by
  match r, h with
  | .error _, h => exact False.elim h
  | .ok .next, h => exact False.elim h
  | .ok .brk, h => exact False.elim h
  | .ok .cont, h => exact False.elim h
  | .ok (.ret u), h =>
    obtain ⟨v, H', os, bare, un, hok', r', q⟩ := h
    have q' : v = .bl true := q
    subst q'
    have r2 : u = Value.bool true := r'
    refine ⟨by rw [r2], OldK.of_keep fun b o e => ?_, os, bare⟩
    rcases hO b with z | ⟨ob, xs, z⟩
    · exact un.keep b o e z (fun y => nomatch y) (fun y => nomatch y)
    · have e1 := (hok b _ z).1
      rw [e] at e1
      rw [Option.some.inj e1]
      exact (hok' b _ (un.frzs b ob _ z)).1
theorem lawG_core {H : Hp} (KX : K.In s₁.heap) (hns : s₁.heap.Ns mainGlobals mg) (hb : s₁.heap.Ns builtinsNs mb) (hbb : ∀ x : Str, x ≠ "__name__" → mb x = bootBuiltins x) (hlim : s₁.heap.NoLimit) (hg : s₁.gens = #[])
    (hr : Room k callerA) (F : ∀ base : Heap, K.In base → base.Ns mainGlobals mg → FnRG P w K mg base CX0 k fa sp) (hO : Only H) (hok : HOk P w H s₁.heap)
    (hK : ∀ b o, K.lookup b = some o → H b = none) (hD : ∀ b o es ep, s₁.heap.get? b = some o → o.data = .dict es ep → H b = none)
    (h : sp [.ref a] H (fun v _ => v = .bl true) fun _ _ _ => False) : codeAny (model P w) callerA (.call (.ref fa) ⟨[.ref a], []⟩) (ended s₁) s₁ := by
  have nsK : ∀ {b : Addr} {m : Str → Option Value}, s₁.heap.Ns b m → (hidT s₁.heap H).Ns b m := fun {b m} z => by
    obtain ⟨o, es, ep, e, d, r⟩ := z
    exact ⟨o, es, ep, hidT_get e (hD b o es ep e d), d, r⟩
  have hKb : K.In (hidT s₁.heap H) := fun b o e => hidT_get (KX b o e) (hK b o e)
  obtain ⟨mc, l1, l2⟩ := hlim
  have e0 : Env0 P w K mg (hidT s₁.heap H) callerA [] s₁ H := ⟨rfl, ⟨hKb, nsK hns, ⟨mb, nsK hb, hbb⟩, ⟨mc, nsK l1, l2⟩⟩, fun b o e => of_hidT e, Nat.le_of_eq (hidT_size _ _), trivial, fun b z => (nomatch (show b ∈ ([] : List Addr) from z)), hok, .of_eq hg⟩
  exact codeAny_mono (F _ hKb (nsK hns) callerA [] s₁ H [.ref a] [.ref a] _ _ rfl hr e0 (.cons rfl .nil) h) fun r s' z => ended_of hO hok z
theorem law_callG (KX : K.In s₁.heap) (hns : s₁.heap.Ns mainGlobals mg) (hb : s₁.heap.Ns builtinsNs mb) (hbb : ∀ x : Str, x ≠ "__name__" → mb x = bootBuiltins x) (hlim : s₁.heap.NoLimit) (hg : s₁.gens = #[])
    (ha : s₁.heap.get? a = some { cls := .type "list", data := .seq vs.toArray }) (hi : IntsAre vs ns) (hl : ns.length ≤ sizeLine) (hr : Room k callerA)
    (F : ∀ base : Heap, K.In base → base.Ns mainGlobals mg → FnRG P w K mg base CX0 k fa sp)
    (hsp : ∀ H : Hp, Only H → SqL K H a (ns.map V.int) → sp [.ref a] H (fun v _ => v = .bl true) fun _ _ _ => False) :
    codeAny (model P w) callerA (.call (.ref fa) ⟨[.ref a], []⟩) (ended s₁) s₁ := by
  have rv := vals_ints hi
  cases hk : K.lookup a with
  | some o =>
    have e := KX a o hk
    rw [ha] at e
    have e' := (Option.some.inj e).symm
    subst e'
    have hO : Only (fun _ => none) := fun _ => .inl rfl
    refine lawG_core (H := fun _ => none) KX hns hb hbb hlim hg hr F hO (fun b u z => nomatch z) (fun _ _ _ => rfl) (fun _ _ _ _ _ _ => rfl) (hsp _ hO (.inr ⟨_, vs.toArray, _, hk, rfl, rfl, rfl, ?_, ?_⟩))
    · rw [List.size_toArray, hi.length]
      exact hl
    · simpa using rv
  | none =>
    let o : Obj := { cls := .type "list", data := .seq vs.toArray }
    let H : Hp := fun b => if b = a then some (.frz o (.lst (ns.map V.int))) else none
    have h1 : H a = some (.frz o (.lst (ns.map V.int))) := if_pos rfl
    have h2 : ∀ b, b ≠ a → H b = none := fun b z => if_neg z
    have hO : Only H := fun b => by
      by_cases z : b = a
      · exact .inr ⟨o, _, by rw [z]; exact h1⟩
      · exact .inl (h2 b z)
    refine lawG_core (H := H) KX hns hb hbb hlim hg hr F hO (fun b u z => ?_) (fun b o' z => h2 b fun y => ?_) (fun b o' es ep e d => h2 b fun y => ?_) (hsp _ hO (.inl (.inr ⟨o, h1⟩)))
    · by_cases y : b = a
      · subst y
        rw [h1] at z
        have z' := Option.some.inj z
        subst z'
        exact ⟨ha, by rw [List.length_map]; exact hl, vs, _, rv, ha⟩
      · rw [h2 b y] at z
        cases z
    · rw [y, hk] at z
      cases z
    · rw [y, ha] at e
      have e' := (Option.some.inj e).symm
      subst e'
      cases d
end
/-- a law called where no repr is running -/
theorem walk_ofG {l : PySem.W.OpenLaw} {n k : Nat} {q : Program} {loose : List Str} {XP : (Str → Option Value) → Heap → Prop} {YP : World → Heap → Prop} {d : DefRec}
    (hn : l.most = some n) (hn2 : n ≤ sizeLine) (hdf : d.params.defaults = []) (hr : Room k callerA)
    (F : ∀ (w : World) (mg : Str → Option Value) (fa : Addr) (h : Heap), YP w h → h.Ns mainGlobals mg → mg d.name = some (.ref fa) →
      ∃ (K : PySem.W.Frag) (sp : Sp), K.In h ∧ (∀ (H : Hp) (a : Addr) (ns : List Int), ns.length ≤ n → Only H → SqL K H a (ns.map V.int) → sp [.ref a] H (fun v _ => v = .bl true) fun _ _ _ => False) ∧
        ∀ base : Heap, K.In base → base.Ns mainGlobals mg → FnRG l.prog w K mg base CX0 k fa sp) :
    PySem.W.WalkO q loose XP YP l.row.toRowW d [] (fun f vs => PySem.call f vs) := by
  refine Att.attach_call hn hdf fun w s₀ s₁ mg mb fa o pm cd doc a vs ns G Y ho hd hcd hmg hobj hi hlen hg => ?_
  obtain ⟨K, sp, KX, hsp, hF⟩ := F w mg fa _ Y G.T.g hmg
  exact law_callG KX G.T.g G.T.b G.T.builtins G.T.nolimit hg hobj hi (Nat.le_trans hlen hn2) hr hF fun H hO hS => hsp H a ns hlen hO hS
end ZL
set_option Elab.async false
set_option linter.all false
set_option maxRecDepth 100000
set_option maxHeartbeats 4000000
namespace ZL
open PySem PySem.Spec PyProof.Rows L2
section
variable {X : Cx} {CX : CXT} {k : Nat} {f C : Addr} {sp : Sp} {E : XK}
/-- C() -/
theorem pe_makeR0 {x : Str} {p pos : Pos} (M : Mk X.K C f) (F : FnR X.prog X.w X.K X.mg X.base CX k f sp) (hr : Room (k + 1) X.A) (hg : Gl X x) (hm : X.mg x = some (.ref C)) (hx : Passes CX X E) (hd : (x == ("__debug__" : Str)) = false := by decide) :
    PE X (.Call (.Name x p) [] [] pos) (fun σ H Q => ∀ x dx, H x = none → H dx = none → dx ≠ x → sp [V.ref x] (upd (upd H dx (.own x)) x (.ins C dx [])) (fun v H2 => v = .non ∧ Q (.ref x) H2) E) :=
  ⟨fun pins s σ H Q I h => wpAny_Call_Name_kw (ld_glob I hg hm (PySem.W.callWith_K0 I.kIn M.kp (StX.run_makeR M F hr hx (I.tok _) .nil h)) hd)⟩
end
end ZL
set_option Elab.async false
set_option linter.all false
set_option maxRecDepth 100000
set_option maxHeartbeats 4000000
namespace ZL
open PySem PySem.Spec PyProof.Rows L2
section
variable {X : Cx} {CX : CXT} {k : Nat} {f C g : Addr} {sp : Sp} {E : XK} {pins : List (Addr × Obj)} {σ : L2.St} {H : Hp} {s : Shared}
/-! ### len, str, in of an instance by own methods -/
theorem call_lenO (o : Own X.K C "__len__" f) (F : FnR X.prog X.w X.K X.mg X.base CX k f sp) (hr : Room (k + 1) X.A) (hx : Passes CX X E) :
    CallR X (.builtin "len") (fun xs H Q => ∃ a dx fs, xs = [.ref a] ∧ H a = some (.ins C dx fs) ∧ sp [.ref a] H (fun v H' => ∃ n, v = .int n ∧ (0 ≤ n ∧ n < 2 ^ 63) ∧ Q v H') E) := by
  rintro pins s σ H xs us Q I r ⟨a, dx, fs, rfl, ha, q⟩
  match us, r with
  | [u], .cons r1 .nil =>
    cases r1
    obtain ⟨od, J⟩ := inst_at I ha
    obtain ⟨m, hF⟩ := I.fr
    refine PySem.W.len_K hF I.ok.mod.kin J o.at_ o.fn (thn (run_at (A := X.A.in1) (vs := [.ref a]) F hr.in1 rfl hx I (.cons rfl .nil) q) fun u s' z => ?_)
    obtain ⟨v, H', I', r', n, rfl, b, q'⟩ := z
    obtain ⟨t, rfl⟩ := r'
    exact ⟨b, .int n, H', I'.tok _, ⟨_, rfl⟩, q'⟩
theorem call_strO (o : Own X.K C "__str__" f) (F : FnR X.prog X.w X.K X.mg X.base CX k f sp) (hr : Room (k + 2) X.A) (hx : Passes CX X E) :
    CallR X (.type "str") (fun xs H Q => ∃ a dx fs, xs = [.ref a] ∧ H a = some (.ins C dx fs) ∧ sp [.ref a] H (fun v H' => ∃ z, v = .str z ∧ Q v H') E) := by
  rintro pins s σ H xs us Q I r ⟨a, dx, fs, rfl, ha, q⟩
  match us, r with
  | [u], .cons r1 .nil =>
    cases r1
    obtain ⟨od, J⟩ := inst_at I ha
    refine PySem.W.kso_call (by have := hr.un; show X.A.units + 1 + 1 < cLine; omega) I.kIn J o.at_ o.fn (thn (run_at (A := X.A.in1.in1) (vs := [.ref a]) F hr.in1.in1 rfl hx I (.cons rfl .nil) q) fun u s' z => ?_)
    obtain ⟨v, H', I', r', n, rfl, q'⟩ := z
    obtain ⟨t, rfl⟩ := r'
    exact ⟨.str n, H', I', ⟨_, rfl⟩, q'⟩
def rInO (C : Addr) (sp : Sp) (E : XK) (neg : Bool) : R2 := fun x y H Q => ∃ a dx fs, y = .ref a ∧ H a = some (.ins C dx fs) ∧ sp [y, x] H (fun v H' => ∃ b, v = .bl b ∧ Q (.bl (neg ^^ b)) H') E
theorem op_inO (o : Own X.K C "__contains__" f) (F : FnR X.prog X.w X.K X.mg X.base CX k f sp) (hr : Room k X.A) (hx : Passes CX X E) : OpR X (compareOp .In) (rInO C sp E false) := by
  rintro pins s σ H x y v u Q I rx ry ⟨a, dx, fs, rfl, ha, q⟩
  cases ry
  obtain ⟨od, J⟩ := inst_at I ha
  obtain ⟨m, hF⟩ := I.fr
  refine PySem.W.in_K hF I.ok.mod.kin J o.at_ o.fn (thn (run_at (A := X.A) (vs := [.ref a, x]) F hr rfl hx I (.cons rfl (.cons rx .nil)) q) fun u s' z => ?_)
  obtain ⟨v', H', I', r', b, rfl, q'⟩ := z
  cases r'
  refine wpAny_truthy_bool ⟨.bl b, H', I', rfl, ?_⟩
  simpa using q'
theorem op_ninO (o : Own X.K C "__contains__" f) (F : FnR X.prog X.w X.K X.mg X.base CX k f sp) (hr : Room k X.A) (hx : Passes CX X E) : OpR X (compareOp .NotIn) (rInO C sp E true) := by
  rintro pins s σ H x y v u Q I rx ry ⟨a, dx, fs, rfl, ha, q⟩
  cases ry
  obtain ⟨od, J⟩ := inst_at I ha
  obtain ⟨m, hF⟩ := I.fr
  refine PySem.W.notIn_K hF I.ok.mod.kin J o.at_ o.fn (thn (run_at (A := X.A) (vs := [.ref a, x]) F hr rfl hx I (.cons rfl (.cons rx .nil)) q) fun u s' z => ?_)
  obtain ⟨v', H', I', r', b, rfl, q'⟩ := z
  cases r'
  refine wpAny_truthy_bool ⟨.bl (!b), H', I', rfl, ?_⟩
  simpa using q'
/-! ### x op y by own methods -/
theorem cmpBack_ref {Q : VK} {u : Value} {s' : Shared} (h : EP X pins σ (fun v H' => (∃ r, v = .ref r) ∧ Q v H') u s') : PySem.W.CmpBack (EP X pins σ Q) u s' := by
  obtain ⟨v, H', I', r, ⟨b, rfl⟩, q⟩ := h
  cases r
  exact ⟨.ref b, H', I', rfl, q⟩
/-- x op y, both instances of the class at C; an object comes back -/
def rBinO (C : Addr) (sp : Sp) (E : XK) : R2 := fun x y H Q => ∃ a b dx dy fs gs, x = .ref a ∧ y = .ref b ∧ H a = some (.ins C dx fs) ∧ H b = some (.ins C dy gs) ∧ sp [x, y] H (fun v H' => (∃ r, v = .ref r) ∧ Q v H') E
theorem op_binO {op : Operator} (hc : PySem.W.selfFirst X.K C = true) (o : Own X.K C (PySem.dunder op.info.2) f) (F : FnR X.prog X.w X.K X.mg X.base CX k f sp) (hr : Room k X.A) (hx : Passes CX X E) : OpR X (binaryOp op) (rBinO C sp E) := by
  rintro pins s σ H x y v u Q I rx ry ⟨a, b, dx, dy, fs, gs, rfl, rfl, ha, hb, q⟩
  cases rx
  cases ry
  obtain ⟨od, J⟩ := inst_at I ha
  obtain ⟨od', J'⟩ := inst_at I hb
  obtain ⟨m, hF⟩ := I.fr
  exact PySem.W.binop_K hF I.ok.mod.kin J J'.type hc o.at_ o.fn (thn (run_at (vs := [.ref a, .ref b]) F hr rfl hx I (.cons rfl (.cons rfl .nil)) q) fun u s' z => cmpBack_ref z)
/-- x op an int -/
def rBinI (C : Addr) (sp : Sp) (E : XK) : R2 := fun x y H Q => ∃ a i dx fs, x = .ref a ∧ y = .int i ∧ H a = some (.ins C dx fs) ∧ sp [x, y] H (fun v H' => (∃ r, v = .ref r) ∧ Q v H') E
theorem op_binI {op : Operator} {fo ro rc : Option Value} (hc : PySem.W.selfFirst X.K C = true) (o : Own X.K C (PySem.dunder op.info.2) f) (hR : PySem.W.findIn X.K (.ref C) (dunderR op.info.2) = some rc) (hp : rc = none ∨ ∃ g : Addr, rc = some (.ref g))
    (h1 : PySem.W.findIn X.K (.type "int") (PySem.dunder op.info.2) = some fo) (h2 : PySem.W.findIn X.K (.type "int") (dunderR op.info.2) = some ro) (hsub : PySem.W.subIn X.K (.type "int") (.ref C) = some false)
    (F : FnR X.prog X.w X.K X.mg X.base CX k f sp) (hr : Room k X.A) (hx : Passes CX X E) : OpR X (binaryOp op) (rBinI C sp E) := by
  rintro pins s σ H x y v u Q I rx ry ⟨a, i, dx, fs, rfl, rfl, ha, q⟩
  cases rx
  have ry' := ry
  obtain ⟨t, rfl⟩ := ry'
  obtain ⟨od, J⟩ := inst_at I ha
  obtain ⟨m, hF⟩ := I.fr
  exact PySem.W.ksp_binT (T := "int") hF I.ok.mod.kin J rfl hc o.at_ o.fn hR hp h1 h2 hsub (thn (run_at (vs := [.ref a, .int i]) F hr rfl hx I (.cons rfl (.cons ry .nil)) q) fun u s' z => cmpBack_ref z)
end
end ZL
set_option Elab.async false
set_option linter.all false
set_option maxRecDepth 100000
set_option maxHeartbeats 4000000
namespace ZL
open PySem PySem.Spec PyProof.Rows L2
theorem int_mul_inst (a : Int) (t : Tok) (l C dx : Addr) :
    Meets (Builtin.«int.__mul__» ⟨[.int a t, .ref l], []⟩) (fun _ R s => s.heap.get? l = some (PySem.W.instObj C dx) ∧ R (.ok (.ret Value.notImplemented)) s) :=
  .of_wp fun prog w A R s h => by obtain ⟨hp, g, d, tk, os⟩ := s; obtain ⟨hl, h⟩ := h; wp_walk; exact ⟨_, rfl, h⟩
theorem int_add_inst (a : Int) (t : Tok) (l C dx : Addr) :
    Meets (Builtin.«int.__add__» ⟨[.int a t, .ref l], []⟩) (fun _ R s => s.heap.get? l = some (PySem.W.instObj C dx) ∧ R (.ok (.ret Value.notImplemented)) s) :=
  .of_wp fun prog w A R s h => by obtain ⟨hp, g, d, tk, os⟩ := s; obtain ⟨hl, h⟩ := h; wp_walk; exact ⟨_, rfl, h⟩
theorem int_sub_inst (a : Int) (t : Tok) (l C dx : Addr) :
    Meets (Builtin.«int.__sub__» ⟨[.int a t, .ref l], []⟩) (fun _ R s => s.heap.get? l = some (PySem.W.instObj C dx) ∧ R (.ok (.ret Value.notImplemented)) s) :=
  .of_wp fun prog w A R s h => by obtain ⟨hp, g, d, tk, os⟩ := s; obtain ⟨hl, h⟩ := h; wp_walk; exact ⟨_, rfl, h⟩
theorem int_floordiv_inst (a : Int) (t : Tok) (l C dx : Addr) :
    Meets (Builtin.«int.__floordiv__» ⟨[.int a t, .ref l], []⟩) (fun _ R s => s.heap.get? l = some (PySem.W.instObj C dx) ∧ R (.ok (.ret Value.notImplemented)) s) :=
  .of_wp fun prog w A R s h => by obtain ⟨hp, g, d, tk, os⟩ := s; obtain ⟨hl, h⟩ := h; wp_walk; exact ⟨_, rfl, h⟩
theorem int_mod_inst (a : Int) (t : Tok) (l C dx : Addr) :
    Meets (Builtin.«int.__mod__» ⟨[.int a t, .ref l], []⟩) (fun _ R s => s.heap.get? l = some (PySem.W.instObj C dx) ∧ R (.ok (.ret Value.notImplemented)) s) :=
  .of_wp fun prog w A R s h => by obtain ⟨hp, g, d, tk, os⟩ := s; obtain ⟨hl, h⟩ := h; wp_walk; exact ⟨_, rfl, h⟩
section
open PySem.W
variable {prog : Program} {w : World} {A : Around} {E : Value → Shared → Prop} {s : Shared} {K : Frag} {x C f dx : Addr} {od : Option Obj} {nm id : String} {B : Builtin} {i : Int} {t : Tok} {Q : Value → Shared → Prop}
theorem try_ni (slot : Slot "int" (PySem.dunder nm) id) (entry : entryFor table id = some B) (args : argsOk id ⟨[.int i t, .ref x], []⟩) (ni : Meets (B ⟨[.int i t, .ref x], []⟩) (fun _ R s => s.heap.get? x = some (instObj C dx) ∧ R (.ok (.ret .notImplemented)) s))
    (hx : s.heap.get? x = some (instObj C dx)) {Q : Option Value → Shared → Prop} (h : Q none s) : wpAny (model prog w) A (tryMethod (.int i t) (PySem.dunder nm) (.ref x)) Q E s := by
  unfold tryMethod
  refine wpAny_bind (wpAny_callSpecial?_slot (typeIs_int s i t) slot (call_meets slot (typeIs_int s i t) entry args ni ⟨hx, ?_⟩))
  exact wpAny_pure h
/-- an int op x, by x's own reflected method -/
theorem rbin1 (slot : Slot "int" (PySem.dunder nm) id) (entry : entryFor table id = some B) (args : argsOk id ⟨[.int i t, .ref x], []⟩) (ni : Meets (B ⟨[.int i t, .ref x], []⟩) (fun _ R s => s.heap.get? x = some (instObj C dx) ∧ R (.ok (.ret .notImplemented)) s))
    (fills : fillsNumberSlot (.type "int") nm = pure true) (X : K.In s.heap) (I : InstAt s.heap x (instObj C dx) C od) (hx : s.heap.get? x = some (instObj C dx)) (L4 : Looks (model prog w) s.heap (fillsNumberSlot (.ref C) nm) true)
    (hs : findIn K (.ref C) (dunderR nm) = some (some (.ref f))) (hf : isFn K (.ref f) = true) (hsub : subIn K (.ref C) (.type "int") = some false)
    (h : wpAny (model prog w) A (call (.ref f) [.ref x, .int i t]) (PySem.W.CmpBack Q) E s) : wpAny (model prog w) A (binaryOp1 nm (.int i t) (.ref x)) (fun r s' => ∃ v, r = some v ∧ Q v s') E s := by
  have one := ksp_try X I hs hf h
  have L1 : Looks (model prog w) s.heap (typeOf (.int i t)) (.type "int") := Looks.of_pure rfl
  have L2 : Looks (model prog w) s.heap (typeOf (.ref x)) (.ref C) := I.type
  have L3 : Looks (model prog w) s.heap (fillsNumberSlot (.type "int") nm) true := Looks.of_pure fills
  have L5 : Looks (model prog w) s.heap (isSubtype (.ref C) (.type "int")) false := looks_subIn X hsub
  have L6 : Looks (model prog w) s.heap (numberSlotInPython (.type "int") nm) false := Looks.of_pure rfl
  have hne : (Value.type "int" == Value.ref C) = false := Bool.eq_false_iff.mpr fun q => by cases beq_iff_eq.mp q
  have ni' : ∀ {Q : Option Value → Shared → Prop}, Q none s → wpAny (model prog w) A (tryMethod (.int i t) (PySem.dunder nm) (.ref x)) Q E s := fun hq => try_ni slot entry args ni hx hq
  obtain ⟨hh, g, d, tt, os⟩ := s
  unfold binaryOp1
  refine wpAny_bind (L1.at (wpAny_bind (L2.at (wpAny_bind (L3.at ?_)))))
  simp only [hne, Bool.false_eq_true, if_false]
  ksp_lk
  refine ni' ?_
  ksp_lk
  refine wpAny_mono one (fun r s' hr' => ?_) fun _ _ e => e
  obtain ⟨v, rfl, hq⟩ := hr'
  ksp_lk
  exact ⟨v, rfl, hq⟩
theorem after1 {op : Operator} {a b : Value} (h : wpAny (model prog w) A (binaryOp1 op.info.2 a b) (fun r s' => ∃ v, r = some v ∧ Q v s') E s) : wpAny (model prog w) A (binaryOp op a b) Q E s := by
  rcases hi : op.info with ⟨sym, nm'⟩
  rw [hi] at h
  simp only [binaryOp, hi]
  refine wpAny_holding (wpAny_bind (wpAny_mono h (fun r s' z => ?_) fun _ _ e => e))
  obtain ⟨v, rfl, hq⟩ := z
  exact wpAny_pure hq
/-- the same for a type of the text: x op y of one class, x op an int -/
theorem bin1S {b : Value} {cd : ClassData} {rest : List Value} {ox : Obj} (X : K.In s.heap) (I : InstAt s.heap x ox C od) (hb : Looks (model prog w) s.heap (typeOf b) (.ref C)) (hcd : clsIn K C = some cd) (hm : cd.mro = .ref C :: rest)
    (hs : findIn K (.ref C) (PySem.dunder nm) = some (some (.ref f))) (hf : isFn K (.ref f) = true) (h : wpAny (model prog w) A (call (.ref f) [.ref x, b]) (PySem.W.CmpBack Q) E s) :
    wpAny (model prog w) A (binaryOp1 nm (.ref x) b) (fun r s' => ∃ v, r = some v ∧ Q v s') E s := by
  have one := ksp_try X I hs hf h
  have L3 : Looks (model prog w) s.heap (fillsNumberSlot (.ref C) nm) true := fills_K X hcd hm hs
  have L1 := I.type (M := model prog w)
  obtain ⟨hh, g, d, tt, os⟩ := s
  unfold binaryOp1
  refine wpAny_bind (L1.at (wpAny_bind (hb.at (wpAny_bind (L3.at ?_)))))
  simp only [beq_self_eq_true, if_true]
  ksp_lk
  refine wpAny_mono one (fun r s' hr' => ?_) fun _ _ e => e
  obtain ⟨v, rfl, hq⟩ := hr'
  ksp_lk
  exact ⟨v, rfl, hq⟩
theorem noInpl {M : Model} {h : Heap} {cd : ClassData} {add : Bool} (X : K.In h) (hcd : clsIn K C = some cd) (hm : cd.mro = [.ref C, .type "object"]) (h1 : findIn K (.ref C) (dunderI nm) = some none) (h2 : findIn K (.type "object") (dunderI nm) = some none) : Looks M h (fillsInplaceSlot (.ref C) nm add) false := by
  intro A Q E s k q
  have Lm : Looks M h (mroOf (.ref C)) cd.mro := (looks_clsIn X hcd).andThen (f := fun cd => pure cd.mro) .now
  have Lm' := Lm.keeps k
  obtain ⟨hh, g, d, tt, os⟩ := s
  have X' : K.In hh := X.keeps k
  have L1 : Looks M hh (typeLookup (.ref C) (dunderI nm)) none := looks_findIn X' h1
  have L2 : Looks M hh (typeLookup (.type "object") (dunderI nm)) none := looks_findIn X' h2
  unfold fillsInplaceSlot
  refine wpAny_bind (Lm'.at ?_)
  rw [hm, List.anyM_cons]
  refine wpAny_bind ?_
  repeat lk
  exact q
/-- x op= y where the class has no method in place -/
theorem inpl {op : Operator} {b : Value} {cd : ClassData} {ox : Obj} (X : K.In s.heap) (I : InstAt s.heap x ox C od) (hcd : clsIn K C = some cd) (hm : cd.mro = [.ref C, .type "object"]) (h1 : findIn K (.ref C) (dunderI op.info.2) = some none) (h2 : findIn K (.type "object") (dunderI op.info.2) = some none)
    (h : wpAny (model prog w) A (binaryOp1 op.info.2 (.ref x) b) (fun r s' => ∃ v, r = some v ∧ Q v s') E s) : wpAny (model prog w) A (inplaceOp op (.ref x) b) Q E s := by
  have L1 : Looks (model prog w) s.heap (typeOf (.ref x)) (.ref C) := I.type
  have L2 : Looks (model prog w) s.heap (fillsInplaceSlot (.ref C) op.info.2 (op == .Add)) false := noInpl X hcd hm h1 h2
  obtain ⟨hh, g, d, tt, os⟩ := s
  unfold inplaceOp
  refine wpAny_holding (wpAny_bind (L1.at (wpAny_bind (L2.at ?_))))
  simp only [Bool.false_eq_true, if_false]
  refine wpAny_bind (wpAny_mono h (fun r s' z => ?_) fun _ _ e => e)
  obtain ⟨v, rfl, hq⟩ := z
  exact wpAny_pure hq
end
end ZL
set_option Elab.async false
set_option linter.all false
set_option maxRecDepth 100000
set_option maxHeartbeats 4000000
namespace ZL
open PySem PySem.Spec PyProof.Rows L2
section
open PySem.W
variable {prog : Program} {w : World} {A : Around} {E : Value → Shared → Prop} {s : Shared} {K : Frag} {x C f dx : Addr} {od : Option Obj} {nm id : String} {i : Int} {t : Tok} {Q : Value → Shared → Prop}
theorem bin1I {cd : ClassData} {rest : List Value} {ox : Obj} {rc ro : Option Value} (X : K.In s.heap) (I : InstAt s.heap x ox C od) (hcd : clsIn K C = some cd) (hm : cd.mro = .ref C :: rest)
    (hs : findIn K (.ref C) (PySem.dunder nm) = some (some (.ref f))) (hf : isFn K (.ref f) = true) (hr : findIn K (.ref C) (dunderR nm) = some rc) (hp : rc = none ∨ ∃ g : Addr, rc = some (.ref g))
    (fills : fillsNumberSlot (.type "int") nm = pure true) (h2 : findIn K (.type "int") (dunderR nm) = some ro) (hsub : subIn K (.type "int") (.ref C) = some false)
    (h : wpAny (model prog w) A (call (.ref f) [.ref x, .int i t]) (PySem.W.CmpBack Q) E s) : wpAny (model prog w) A (binaryOp1 nm (.ref x) (.int i t)) (fun r s' => ∃ v, r = some v ∧ Q v s') E s := by
  have one := ksp_try X I hs hf h
  have L3 : Looks (model prog w) s.heap (fillsNumberSlot (.ref C) nm) true := fills_K X hcd hm hs
  have L1 := I.type (M := model prog w)
  have L2 : Looks (model prog w) s.heap (typeOf (.int i t)) (.type "int") := Looks.of_pure rfl
  have L4 : Looks (model prog w) s.heap (fillsNumberSlot (.type "int") nm) true := Looks.of_pure fills
  have L5 : Looks (model prog w) s.heap (isSubtype (.type "int") (.ref C)) false := looks_subIn X hsub
  have L6 : Looks (model prog w) s.heap (numberSlotInPython (.ref C) nm) true := ksp_inPy X hs hr hp
  have L7 : Looks (model prog w) s.heap (numberSlotInPython (.type "int") nm) false := Looks.of_pure rfl
  have L8 : Looks (model prog w) s.heap (typeLookup (.type "int") (dunderR nm)) ro := looks_findIn X h2
  have hne : (Value.ref C == Value.type "int") = false := Bool.eq_false_iff.mpr fun q => by cases beq_iff_eq.mp q
  obtain ⟨hh, g, d, tt, os⟩ := s
  unfold binaryOp1
  refine wpAny_bind (L1.at (wpAny_bind (L2.at (wpAny_bind (L3.at ?_)))))
  simp only [hne, Bool.false_eq_true, if_false]
  ksp_lk
  refine wpAny_mono one (fun r s' hr' => ?_) fun _ _ e => e
  obtain ⟨v, rfl, hq⟩ := hr'
  ksp_lk
  exact ⟨v, rfl, hq⟩
end
section
open PySem.W (clsIn findIn subIn)
variable {X : Cx} {CX : CXT} {k : Nat} {f C : Addr} {sp : Sp} {E : XK} {pins : List (Addr × Obj)} {σ : L2.St} {H : Hp} {s : Shared}
def okV (v : V) : Prop := (∃ r, v = .ref r) ∨ ∃ n, v = .int n
theorem cmpBack_ok {Q : VK} {u : Value} {s' : Shared} (h : EP X pins σ (fun v H' => okV v ∧ Q v H') u s') : PySem.W.CmpBack (EP X pins σ Q) u s' := by
  obtain ⟨v, H', I', r, ⟨b, rfl⟩ | ⟨b, rfl⟩, q⟩ := h
  · cases r
    exact ⟨.ref b, H', I', rfl, q⟩
  · obtain ⟨t, rfl⟩ := r
    exact ⟨.int b, H', I', ⟨t, rfl⟩, q⟩
/-- a class of the text below object alone -/
def Plain (K : PySem.W.Frag) (C : Addr) : Prop := ∃ cd, clsIn K C = some cd ∧ cd.mro = [.ref C, .type "object"]
/-- an int op an instance -/
def rRBinI (C : Addr) (sp : Sp) (E : XK) : R2 := fun x y H Q => ∃ i b dy gs, x = .int i ∧ y = .ref b ∧ H b = some (.ins C dy gs) ∧ sp [y, x] H (fun v H' => okV v ∧ Q v H') E
theorem op_rbinI {op : Operator} {id : String} {B : Builtin} (slot : Slot "int" (PySem.dunder op.info.2) id) (entry : entryFor table id = some B) (args : ∀ a b, argsOk id ⟨[a, b], []⟩)
    (ni : ∀ a t l C dx, Meets (B ⟨[.int a t, .ref l], []⟩) (fun _ R s => s.heap.get? l = some (PySem.W.instObj C dx) ∧ R (.ok (.ret .notImplemented)) s)) (fills : fillsNumberSlot (.type "int") op.info.2 = pure true)
    (fC : ∀ h, X.K.In h → PySem.W.Looks (model X.prog X.w) h (fillsNumberSlot (.ref C) op.info.2) true) (o : Own X.K C (dunderR op.info.2) f) (hsub : subIn X.K (.ref C) (.type "int") = some false)
    (F : FnR X.prog X.w X.K X.mg X.base CX k f sp) (hr : Room k X.A) (hx : Passes CX X E) : OpR X (binaryOp op) (rRBinI C sp E) := by
  rintro pins s σ H x y v u Q I rx ry ⟨i, b, dy, gs, rfl, rfl, hb, q⟩
  cases ry
  have rx' := rx
  obtain ⟨t, rfl⟩ := rx'
  obtain ⟨od, J⟩ := inst_at I hb
  exact after1 (rbin1 slot entry (args _ _) (ni i t b C dy) fills I.kIn J J.at_ (fC _ I.kIn) o.at_ o.fn hsub (thn (run_at (vs := [.ref b, .int i]) F hr rfl hx I (.cons rfl (.cons rx .nil)) q) fun u s' z => cmpBack_ok z))
/-- x op= y of one class; x op= an int -/
def rBinOk (C : Addr) (sp : Sp) (E : XK) : V → V → Hp → VK → Prop := fun x y H Q => ∃ a b dx dy fs gs, x = .ref a ∧ y = .ref b ∧ H a = some (.ins C dx fs) ∧ H b = some (.ins C dy gs) ∧ sp [x, y] H (fun v H' => okV v ∧ Q v H') E
def rBinIk (C : Addr) (sp : Sp) (E : XK) : V → V → Hp → VK → Prop := fun x y H Q => ∃ a i dx fs, x = .ref a ∧ y = .int i ∧ H a = some (.ins C dx fs) ∧ sp [x, y] H (fun v H' => okV v ∧ Q v H') E
theorem ip_O {op : Operator} (pl : Plain X.K C) (n1 : findIn X.K (.ref C) (dunderI op.info.2) = some none) (n2 : findIn X.K (.type "object") (dunderI op.info.2) = some none) (o : Own X.K C (PySem.dunder op.info.2) f)
    (F : FnR X.prog X.w X.K X.mg X.base CX k f sp) (hr : Room k X.A) (hx : Passes CX X E) : PIp X op (rBinOk C sp E) := by
  rintro pins s σ H x y v u Q I rx ry ⟨a, b, dx, dy, fs, gs, rfl, rfl, ha, hb, q⟩
  cases rx
  cases ry
  obtain ⟨cd, hcd, hm⟩ := pl
  obtain ⟨od, J⟩ := inst_at I ha
  obtain ⟨od', J'⟩ := inst_at I hb
  exact inpl I.kIn J hcd hm n1 n2 (bin1S I.kIn J J'.type hcd hm o.at_ o.fn (thn (run_at (vs := [.ref a, .ref b]) F hr rfl hx I (.cons rfl (.cons rfl .nil)) q) fun u s' z => cmpBack_ok z))
theorem ip_I {op : Operator} {rc ro : Option Value} (pl : Plain X.K C) (n1 : findIn X.K (.ref C) (dunderI op.info.2) = some none) (n2 : findIn X.K (.type "object") (dunderI op.info.2) = some none) (o : Own X.K C (PySem.dunder op.info.2) f)
    (hR : findIn X.K (.ref C) (dunderR op.info.2) = some rc) (hp : rc = none ∨ ∃ g : Addr, rc = some (.ref g)) (fills : fillsNumberSlot (.type "int") op.info.2 = pure true) (h2 : findIn X.K (.type "int") (dunderR op.info.2) = some ro) (hsub : subIn X.K (.type "int") (.ref C) = some false)
    (F : FnR X.prog X.w X.K X.mg X.base CX k f sp) (hr : Room k X.A) (hx : Passes CX X E) : PIp X op (rBinIk C sp E) := by
  rintro pins s σ H x y v u Q I rx ry ⟨a, i, dx, fs, rfl, rfl, ha, q⟩
  cases rx
  have ry' := ry
  obtain ⟨t, rfl⟩ := ry'
  obtain ⟨cd, hcd, hm⟩ := pl
  obtain ⟨od, J⟩ := inst_at I ha
  exact inpl I.kIn J hcd hm n1 n2 (bin1I I.kIn J hcd hm o.at_ o.fn hR hp fills h2 hsub (thn (run_at (vs := [.ref a, .int i]) F hr rfl hx I (.cons rfl (.cons ry .nil)) q) fun u s' z => cmpBack_ok z))
end
end ZL
set_option Elab.async false
set_option linter.all false
set_option maxRecDepth 100000
set_option maxHeartbeats 4000000
namespace ZL
open PySem PySem.Spec PyProof.Rows L2
section
variable {M : Model} {A : Around} {E : Value → Shared → Prop} {s : Shared}
theorem evalArgs_two {f : Value} {x y : Bool × Sem Value} {rest : List (Bool × Sem Value)} {Q : Args → Shared → Prop}
    (h : wpAny M A (spliced (x :: y :: rest)) (fun vs s' => Q ⟨vs, []⟩ s') E s) : wpAny M A (evalArgs f true (x :: y :: rest) []) Q E s := by
  obtain ⟨b, x⟩ := x
  unfold evalArgs
  cases b with
  | true =>
    show wpAny M A (spliced ((true, x) :: y :: rest) >>= _) Q E s
    refine wpAny_bind (wpAny_mono h (fun vs s' h' => ?_) fun _ _ x => x)
    refine wpAny_holding ?_
    exact wpAny_bind (wpAny_pure (wpAny_bind (wpAny_pure (wpAny_pure h'))))
  | false =>
    show wpAny M A (spliced ((false, x) :: y :: rest) >>= _) Q E s
    refine wpAny_bind (wpAny_mono h (fun vs s' h' => ?_) fun _ _ x => x)
    refine wpAny_holding ?_
    exact wpAny_bind (wpAny_pure (wpAny_bind (wpAny_pure (wpAny_pure h'))))
end
section
variable {X : Cx} {CX : CXT} {k : Nat} {f C : Addr} {sp : Sp} {E : XK}
/-- C(*e, ..) of at least two arguments, the first of them starred -/
theorem pe_makeSN {x : Str} {e e2 : Expr} {es : List Expr} {t : TA} {p pos sp_ : Pos} {y : Bool × Sem Value} {ys : List (Bool × Sem Value)} (M : Mk X.K C f) (F : FnR X.prog X.w X.K X.mg X.base CX k f sp) (hr : Room (k + 1) X.A) (hg : Gl X x) (hm : X.mg x = some (.ref C)) (hx : Passes CX X E) (ha : PA X (.Starred e sp_ :: e2 :: es) t)
    (hst : backTo pos (starEach (.Starred e sp_ :: e2 :: es) X.env) = (true, (do let v ← eval e X.env; standAt pos; pure v)) :: y :: ys := by rfl) (hd : (x == ("__debug__" : Str)) = false := by decide) :
    PE X (.Call (.Name x p) (.Starred e sp_ :: e2 :: es) [] pos) (StX.tMakeR C sp E t) := by
  refine ⟨fun pins s σ H Q I h => ?_⟩
  refine wpAny_Call_Name_kw (ld_glob I hg hm ?_ hd)
  have z := ha.run pos pins s σ H _ I h
  rw [hst] at z ⊢
  refine PySem.W.ks_call (P := fun h => X.K.In h) rfl (PySem.W.keeps_K M.kp) (evalArgs_two (thn z fun us s1 ⟨vs, H1, I1, r, q⟩ => ⟨I1.kIn, ?_⟩))
  exact StX.run_makeR M F hr hx I1 r q
end
end ZL
set_option Elab.async false
set_option linter.all false
set_option maxRecDepth 100000
set_option maxHeartbeats 4000000
namespace ZL
open PySem PySem.Spec PyProof.Rows L2
theorem tuple_mul_same (l : Addr) (items : Array Value) (n : Nat) (dd : Option Addr) (sl : Array (Option Value)) (x : Int) (u : Tok) (c0 : (decide (x < -(2 ^ 63)) || decide (x ≥ 2 ^ 63)) = false) (c1 : (items.isEmpty || x == 1) = true) :
    Meets (Builtin.«tuple.__mul__» ⟨[.ref l, .int x u], []⟩) (fun _ R s => s.heap.get? l = some { cls := .type "tuple", dict := dd, data := .seq items n, slots := sl } ∧ R (.ok (.ret (Value.ref l))) s) :=
  .of_wp fun prog w A R s h => by
    obtain ⟨hp, g, d, tk, os⟩ := s
    obtain ⟨hl, h⟩ := h
    have f1 := AutoSeq1.idx_int
    wp_walk using wpAny_loadPart' hl
    repeat (first
      | (refine wpAny_ite_false (decide_eq_false (by rw [c0]; exact Bool.false_ne_true)) ?_; wp_walk using wpAny_loadPart' hl)
      | (refine wpAny_ite_true (decide_eq_true c1) ?_; wp_walk using wpAny_loadPart' hl))
    exact ⟨_, rfl, h⟩
theorem tuple_mul_zero (l : Addr) (items : Array Value) (n : Nat) (dd : Option Addr) (sl : Array (Option Value)) (x : Int) (u : Tok) (c0 : (decide (x < -(2 ^ 63)) || decide (x ≥ 2 ^ 63)) = false) (c1 : (items.isEmpty || x == 1) = false) (c2 : (decide (x ≤ 0) || items.isEmpty) = true) :
    Meets (Builtin.«tuple.__mul__» ⟨[.ref l, .int x u], []⟩) (fun _ R s => s.heap.get? l = some { cls := .type "tuple", dict := dd, data := .seq items n, slots := sl } ∧
      R (.ok (.ret (Value.ref s.heap.objs.size))) { s with heap := s.heap.push { cls := Value.type "tuple", data := Data.seq #[] }, toks := s.toks }) :=
  .of_wp fun prog w A R s h => by
    obtain ⟨hp, g, d, tk, os⟩ := s
    obtain ⟨hl, h⟩ := h
    have f1 := AutoSeq1.idx_int
    wp_walk using wpAny_loadPart' hl
    repeat (first
      | (refine wpAny_ite_false (decide_eq_false (by rw [c0]; exact Bool.false_ne_true)) ?_; wp_walk using wpAny_loadPart' hl)
      | (refine wpAny_ite_false (decide_eq_false (by rw [c1]; exact Bool.false_ne_true)) ?_; wp_walk using wpAny_loadPart' hl)
      | (refine wpAny_ite_true (decide_eq_true c2) ?_; wp_walk using wpAny_loadPart' hl))
    exact ⟨_, rfl, h⟩
end ZL
set_option Elab.async false
set_option linter.all false
set_option maxRecDepth 100000
set_option maxHeartbeats 4000000
/-! The value layer: what a def computes, told by plain values. -/
namespace PV
open PySem PySem.Spec PyProof.Rows L2 ZL
/-- a plain value; lst, obj: lists and instances that are never written again; loc: one that may be -/
inductive D where
  | non | bl (b : Bool) | int (i : Int) | str (x : Str)
  | tup (xs : List D) | lst (xs : List D) | obj (c : String) (fs : List (String × D))
  | loc (n : Nat) | cls (c : String) | fnc (f : String) | ty (n : String)
  | src (xs : List D) | dic0
/-- what may be written -/
inductive Cell where
  | lst (xs : List D) | ins (c : String) (fs : List (String × D)) | dead
abbrev Sto := List Cell
/-- the ghost: what is never written again, and where the cells stand -/
structure Gh where
  F : Hp
  f : Nat → Option Addr
def Gh.le (G G' : Gh) : Prop := (∀ a o, G.F a = some o → G'.F a = some o) ∧ ∀ n a, G.f n = some a → G'.f n = some a
theorem Gh.le.refl {G : Gh} : G.le G := ⟨fun _ _ h => h, fun _ _ h => h⟩
theorem Gh.le.trans {G G' G'' : Gh} (a : G.le G') (b : G'.le G'') : G.le G'' := ⟨fun x o h => b.1 x o (a.1 x o h), fun n x h => b.2 n x (a.2 n x h)⟩
mutual
inductive Rp (K : PySem.W.Frag) (G : Gh) : D → V → Prop where
  | non : Rp K G .non .non
  | bl (b : Bool) : Rp K G (.bl b) (.bl b)
  | int (i : Int) : Rp K G (.int i) (.int i)
  | str (x : Str) : Rp K G (.str x) (.str x)
  | tup {xs : List D} {a : Addr} {vs : List V} (h : SqT K G.F a vs) (r : Rps K G xs vs) : Rp K G (.tup xs) (.ref a)
  | lst {xs : List D} {a : Addr} {vs : List V} (h : G.F a = some (.lst vs)) (r : Rps K G xs vs) : Rp K G (.lst xs) (.ref a)
  | obj {c : String} {fs : List (String × D)} {a dx : Addr} {ws : List (Str × V)} (h : G.F a = some (.ins (He.ga K (Str.ofString c)) dx ws)) (r : Rpf K G fs ws) : Rp K G (.obj c fs) (.ref a)
  | loc {n : Nat} {a : Addr} (h : G.f n = some a) : Rp K G (.loc n) (.ref a)
  | cls (c : String) : Rp K G (.cls c) (.ref (He.ga K (Str.ofString c)))
  | fnc (f : String) : Rp K G (.fnc f) (.ref (He.ga K (Str.ofString f)))
  | ty (n : String) : Rp K G (.ty n) (.ty n)
  | src {xs : List D} {a : Addr} {vs : List V} (h : SqL K G.F a vs) (r : Rps K G xs vs) : Rp K G (.src xs) (.ref a)
  | dic0 {a : Addr} (h : G.F a = some (.dK [])) : Rp K G .dic0 (.ref a)
inductive Rps (K : PySem.W.Frag) (G : Gh) : List D → List V → Prop where
  | nil : Rps K G [] []
  | cons {d : D} {v : V} {xs : List D} {vs : List V} (h : Rp K G d v) (t : Rps K G xs vs) : Rps K G (d :: xs) (v :: vs)
inductive Rpf (K : PySem.W.Frag) (G : Gh) : List (String × D) → List (Str × V) → Prop where
  | nil : Rpf K G [] []
  | cons {n : String} {d : D} {v : V} {fs : List (String × D)} {ws : List (Str × V)} (h : Rp K G d v) (t : Rpf K G fs ws) : Rpf K G ((n, d) :: fs) ((Str.ofString n, v) :: ws)
end
theorem SqT.mono {K : PySem.W.Frag} {F F' : Hp} {a : Addr} {vs : List V} (h : SqT K F a vs) (le : ∀ a o, F a = some o → F' a = some o) : SqT K F' a vs := by
  rcases h with (h | ⟨o, h⟩) | h
  · exact .inl (.inl (le _ _ h))
  · exact .inl (.inr ⟨o, le _ _ h⟩)
  · exact .inr h
theorem SqL.mono {K : PySem.W.Frag} {F F' : Hp} {a : Addr} {vs : List V} (h : SqL K F a vs) (le : ∀ a o, F a = some o → F' a = some o) : SqL K F' a vs := by
  rcases h with (h | ⟨o, h⟩) | h
  · exact .inl (.inl (le _ _ h))
  · exact .inl (.inr ⟨o, le _ _ h⟩)
  · exact .inr h
section
variable {K : PySem.W.Frag} {G G' : Gh}
theorem Rp.mono {d : D} {v : V} (h : Rp K G d v) (le : G.le G') : Rp K G' d v :=
  Rp.rec (motive_1 := fun d v _ => Rp K G' d v) (motive_2 := fun xs vs _ => Rps K G' xs vs) (motive_3 := fun fs ws _ => Rpf K G' fs ws)
    .non .bl .int .str (fun h _ r => .tup (SqT.mono h le.1) r) (fun h _ r => .lst (le.1 _ _ h) r) (fun h _ r => .obj (le.1 _ _ h) r) (fun h => .loc (le.2 _ _ h)) .cls .fnc .ty (fun h _ r => .src (SqL.mono h le.1) r) (fun h => .dic0 (le.1 _ _ h)) .nil (fun _ _ a b => .cons a b) .nil (fun _ _ a b => .cons a b) h
theorem Rps.mono {xs : List D} {vs : List V} (h : Rps K G xs vs) (le : G.le G') : Rps K G' xs vs := by
  induction xs generalizing vs with
  | nil => cases h; exact .nil
  | cons x xs ih => cases h with | cons a b => exact .cons (a.mono le) (ih b)
theorem Rpf.mono {fs : List (String × D)} {ws : List (Str × V)} (h : Rpf K G fs ws) (le : G.le G') : Rpf K G' fs ws := by
  induction fs generalizing ws with
  | nil => cases h; exact .nil
  | cons x xs ih => cases h with | cons a b => exact .cons (a.mono le) (ih b)
theorem Rps.length {xs : List D} {vs : List V} (h : Rps K G xs vs) : vs.length = xs.length := by
  induction xs generalizing vs with
  | nil => cases h; rfl
  | cons x xs ih => cases h with | cons a b => simp [ih b]
theorem Rps.get {xs : List D} {vs : List V} {i : Nat} {d : D} (h : Rps K G xs vs) (e : xs[i]? = some d) : ∃ v, vs[i]? = some v ∧ Rp K G d v := by
  induction xs generalizing vs i with
  | nil => simp at e
  | cons x xs ih =>
    cases h with
    | cons a b =>
      cases i with
      | zero => simp at e; subst e; exact ⟨_, rfl, a⟩
      | succ i => obtain ⟨v, h1, h2⟩ := ih b (by simpa using e); exact ⟨v, by simpa using h1, h2⟩
theorem Rps.get' {xs : List D} {vs : List V} {i : Nat} {v : V} (h : Rps K G xs vs) (e : vs[i]? = some v) : ∃ d, xs[i]? = some d ∧ Rp K G d v := by
  induction xs generalizing vs i with
  | nil => cases h; simp at e
  | cons x xs ih =>
    cases h with
    | cons a b =>
      cases i with
      | zero => simp at e; subst e; exact ⟨_, rfl, a⟩
      | succ i => obtain ⟨v, h1, h2⟩ := ih b (by simpa using e); exact ⟨v, by simpa using h1, h2⟩
theorem Rps.append {xs ys : List D} {vs ws : List V} (h : Rps K G xs vs) (h' : Rps K G ys ws) : Rps K G (xs ++ ys) (vs ++ ws) := by
  induction xs generalizing vs with
  | nil => cases h; exact h'
  | cons x xs ih => cases h with | cons a b => exact .cons a (ih b)
theorem Rps.take {xs : List D} {vs : List V} (n : Nat) (h : Rps K G xs vs) : Rps K G (xs.take n) (vs.take n) := by
  induction xs generalizing vs n with
  | nil => cases h; simp; exact .nil
  | cons x xs ih =>
    cases h with
    | cons a b =>
      cases n with
      | zero => exact .nil
      | succ n => exact .cons a (ih n b)
theorem Rps.drop {xs : List D} {vs : List V} (n : Nat) (h : Rps K G xs vs) : Rps K G (xs.drop n) (vs.drop n) := by
  induction xs generalizing vs n with
  | nil => cases h; simp; exact .nil
  | cons x xs ih =>
    cases h with
    | cons a b =>
      cases n with
      | zero => exact .cons a b
      | succ n => exact ih n b
theorem Rps.rev {xs : List D} {vs : List V} (h : Rps K G xs vs) : Rps K G xs.reverse vs.reverse := by
  induction xs generalizing vs with
  | nil => cases h; exact .nil
  | cons x xs ih => cases h with | cons a b => simp; exact (ih b).append (.cons a .nil)
theorem Rps.set {xs : List D} {vs : List V} {d : D} {v : V} (i : Nat) (h : Rps K G xs vs) (r : Rp K G d v) : Rps K G (xs.set i d) (vs.set i v) := by
  induction xs generalizing vs i with
  | nil => cases h; exact .nil
  | cons x xs ih =>
    cases h with
    | cons a b =>
      cases i with
      | zero => exact .cons r b
      | succ i => exact .cons a (ih i b)
theorem Rps.rep {d : D} {v : V} (r : Rp K G d v) : ∀ n : Nat, Rps K G (List.replicate n d) (List.replicate n v)
  | 0 => .nil
  | n + 1 => .cons r (Rps.rep r n)
theorem Rpf.get {fs : List (String × D)} {ws : List (Str × V)} {n : String} {d : D} (h : Rpf K G fs ws) (e : fs.lookup n = some d) (inj : ∀ p ∈ fs, Str.ofString p.1 = Str.ofString n → p.1 = n) : ∃ v, ws.lookup (Str.ofString n) = some v ∧ Rp K G d v := by
  induction fs generalizing ws with
  | nil => simp at e
  | cons x xs ih =>
    cases h with
    | @cons m d' v' _ ws' a b =>
      by_cases hm : n = m
      · subst hm
        simp at e
        subst e
        exact ⟨v', by simp, a⟩
      · have h1 : (n == m) = false := by simpa using hm
        rw [List.lookup_cons, h1] at e
        obtain ⟨v, p, q⟩ := ih b e fun p hp => inj p (List.mem_cons_of_mem _ hp)
        refine ⟨v, ?_, q⟩
        have h2 : (Str.ofString n == Str.ofString m) = false := by
          apply beq_eq_false_iff_ne.mpr
          intro z
          exact hm (inj (m, d') List.mem_cons_self z.symm).symm
        rw [List.lookup_cons, h2]
        exact p
end
/-! ### the state -/
def CellOk (K : PySem.W.Frag) (G : Gh) (H : Hp) (a : Addr) : Cell → Prop
  | .lst xs => ∃ vs, H a = some (.lst vs) ∧ Rps K G xs vs
  | .ins c fs => ∃ dx ws, H a = some (.ins (He.ga K (Str.ofString c)) dx ws) ∧ Rpf K G fs ws
  | .dead => True
structure Sm (K : PySem.W.Frag) (G : Gh) (S : Sto) (H : Hp) : Prop where
  fr : ∀ a o, G.F a = some o → H a = some o
  cel : ∀ (n : Nat) (c : Cell), S[n]? = some c → c ≠ .dead → ∃ a, G.f n = some a ∧ G.F a = none ∧ CellOk K G H a c
  dom : ∀ n a, G.f n = some a → n < S.length
  inj : ∀ n m a, G.f n = some a → G.f m = some a → n = m
  dn : ∀ n a, G.f n = some a → ∃ o, H a = some o
theorem CellOk.mono {K : PySem.W.Frag} {G G' : Gh} {H H' : Hp} {a : Addr} {c : Cell} (h : CellOk K G H a c) (le : G.le G') (e : ∀ o, H a = some o → H' a = some o) : CellOk K G' H' a c := by
  cases c with
  | lst xs => obtain ⟨vs, h1, h2⟩ := h; exact ⟨vs, e _ h1, h2.mono le⟩
  | ins c fs => obtain ⟨dx, ws, h1, h2⟩ := h; exact ⟨dx, ws, e _ h1, h2.mono le⟩
  | dead => trivial
theorem CellOk.has {K : PySem.W.Frag} {G : Gh} {H : Hp} {a : Addr} {c : Cell} (h : CellOk K G H a c) (nd : c ≠ .dead) : ∃ o, H a = some o := by
  cases c with
  | lst xs => obtain ⟨vs, h1, _⟩ := h; exact ⟨_, h1⟩
  | ins c fs => obtain ⟨dx, ws, h1, _⟩ := h; exact ⟨_, h1⟩
  | dead => exact absurd rfl nd
section
variable {K : PySem.W.Frag} {G G' : Gh} {S : Sto} {H H' : Hp}
theorem Sm.ext (m : Sm K G S H) (e : Ext H H') : Sm K G S H' where
  fr := fun a o h => e _ _ (m.fr a o h)
  cel := fun n c h nd => by
    obtain ⟨a, h1, h2, h3⟩ := m.cel n c h nd
    exact ⟨a, h1, h2, h3.mono .refl fun o => e _ _⟩
  dom := m.dom
  inj := m.inj
  dn := fun n a h => let ⟨o, z⟩ := m.dn n a h; ⟨o, e _ _ z⟩
/-- the ghost with one more thing that is never written -/
def Gh.put (G : Gh) (p : Addr) (o : HO) : Gh := ⟨upd G.F p o, G.f⟩
theorem Gh.put_le {G : Gh} {p : Addr} {o : HO} (h : G.F p = none) : G.le (G.put p o) := ⟨fun a u e => by
  show upd G.F p o a = _
  rw [upd_ne (ne_of_none e h)]
  exact e, fun _ _ h => h⟩
theorem Sm.free (m : Sm K G S H) {p : Addr} (h : H p = none) : G.F p = none := by
  cases e : G.F p with
  | none => rfl
  | some o => rw [m.fr _ _ e] at h; cases h
theorem Sm.put (m : Sm K G S H) {p : Addr} {o : HO} (h : H p = none) : Sm K (G.put p o) S (upd H p o) where
  fr := fun a u e => by
    by_cases q : a = p
    · subst q
      rw [upd_same]
      have e' : upd G.F a o a = some u := e
      rw [upd_same] at e'
      exact e'
    · have e' : upd G.F p o a = some u := e
      rw [upd_ne q] at e'
      rw [upd_ne q]
      exact m.fr _ _ e'
  cel := fun n c e nd => by
    obtain ⟨a, h1, h2, h3⟩ := m.cel n c e nd
    obtain ⟨u, hu⟩ := h3.has nd
    have na := ne_of_none hu h
    refine ⟨a, h1, ?_, h3.mono (Gh.put_le (m.free h)) fun o' q => by rw [upd_ne na]; exact q⟩
    show upd G.F p o a = none
    rw [upd_ne na]
    exact h2
  dom := m.dom
  inj := m.inj
  dn := fun n a e => by
    obtain ⟨u, hu⟩ := m.dn n a e
    exact ⟨u, by rw [upd_ne (ne_of_none hu h)]; exact hu⟩
/-- a new cell -/
def Gh.new (G : Gh) (n : Nat) (p : Addr) : Gh := ⟨G.F, fun m => if m = n then some p else G.f m⟩
theorem Gh.new_at {G : Gh} {n : Nat} {p : Addr} : (G.new n p).f n = some p := if_pos rfl
theorem Sm.new_le (m : Sm K G S H) {p : Addr} : G.le (G.new S.length p) := ⟨fun _ _ h => h, fun n a h => by
  have := m.dom n a h
  show (if n = S.length then some p else G.f n) = some a
  rw [if_neg (by omega)]
  exact h⟩
theorem Sm.addr (m : Sm K G S H) {n : Nat} {c : Cell} {a : Addr} (h : S[n]? = some c) (nd : c ≠ .dead) (e : G.f n = some a) : G.F a = none ∧ CellOk K G H a c := by
  obtain ⟨b, h1, h2, h3⟩ := m.cel n c h nd
  rw [h1] at e
  have e' := Option.some.inj e
  subst e'
  exact ⟨h2, h3⟩
theorem Sm.new (m : Sm K G S H) {p : Addr} {o : HO} {c : Cell} (h : H p = none) (hc : CellOk K (G.new S.length p) (upd H p o) p c) : Sm K (G.new S.length p) (S ++ [c]) (upd H p o) where
  fr := fun a u e => by
    have := m.fr a u e
    rw [upd_ne (ne_of_none this h)]
    exact this
  cel := fun n c' e nd => by
    by_cases q : n < S.length
    · rw [List.getElem?_append_left q] at e
      obtain ⟨a, h1, h2, h3⟩ := m.cel n c' e nd
      obtain ⟨u, hu⟩ := h3.has nd
      have na := ne_of_none hu h
      exact ⟨a, m.new_le.2 _ _ h1, h2, h3.mono m.new_le fun o' q => by rw [upd_ne na]; exact q⟩
    · have q2 : n = S.length := by
        have : n < (S ++ [c]).length := (List.getElem?_eq_some_iff.mp e).1
        simp at this
        omega
      subst q2
      simp at e
      subst e
      exact ⟨p, Gh.new_at, m.free h, hc⟩
  dom := fun n a e => by
    simp
    by_cases q : n = S.length
    · omega
    · have e' : (if n = S.length then some p else G.f n) = some a := e
      rw [if_neg q] at e'
      have := m.dom n a e'
      omega
  inj := fun n k a e1 e2 => by
    have e1' : (if n = S.length then some p else G.f n) = some a := e1
    have e2' : (if k = S.length then some p else G.f k) = some a := e2
    by_cases q1 : n = S.length
    · by_cases q2 : k = S.length
      · omega
      · rw [if_pos q1] at e1'
        rw [if_neg q2] at e2'
        cases e1'
        obtain ⟨o, ho⟩ := m.dn _ _ e2'
        rw [h] at ho
        cases ho
    · by_cases q2 : k = S.length
      · rw [if_neg q1] at e1'
        rw [if_pos q2] at e2'
        cases e2'
        obtain ⟨o, ho⟩ := m.dn _ _ e1'
        rw [h] at ho
        cases ho
      · rw [if_neg q1] at e1'
        rw [if_neg q2] at e2'
        exact m.inj _ _ _ e1' e2'
  dn := fun n a e => by
    have e' : (if n = S.length then some p else G.f n) = some a := e
    by_cases q : n = S.length
    · rw [if_pos q] at e'
      cases e'
      exact ⟨o, upd_same⟩
    · rw [if_neg q] at e'
      obtain ⟨u, hu⟩ := m.dn n a e'
      exact ⟨u, by rw [upd_ne (ne_of_none hu h)]; exact hu⟩
/-- a cell is written -/
theorem Sm.write (m : Sm K G S H) {n : Nat} {a : Addr} {c c' : Cell} {o : HO} (h : S[n]? = some c) (nd : c ≠ .dead) (e : G.f n = some a) (hc : CellOk K G (upd H a o) a c') : Sm K G (S.set n c') (upd H a o) where
  fr := fun b u q => by
    have hF := (m.addr h nd e).1
    rw [upd_ne (ne_of_none q hF)]
    exact m.fr _ _ q
  cel := fun k d q nd' => by
    by_cases hk : n = k
    · subst hk
      have hl : n < S.length := (List.getElem?_eq_some_iff.mp h).1
      rw [List.getElem?_set_self hl] at q
      cases q
      exact ⟨a, e, (m.addr h nd e).1, hc⟩
    · rw [List.getElem?_set_ne hk] at q
      obtain ⟨b, h1, h2, h3⟩ := m.cel k d q nd'
      have nb : b ≠ a := fun z => by
        subst z
        exact hk (m.inj _ _ _ e h1)
      exact ⟨b, h1, h2, h3.mono .refl fun o' z => by rw [upd_ne nb]; exact z⟩
  dom := fun k b q => by
    rw [List.length_set]
    exact m.dom k b q
  inj := m.inj
  dn := fun k b q => by
    by_cases z : b = a
    · exact ⟨o, by rw [z]; exact upd_same⟩
    · obtain ⟨u, hu⟩ := m.dn k b q
      exact ⟨u, by rw [upd_ne z]; exact hu⟩
/-- an instance is written no more -/
theorem Sm.freeze (m : Sm K G S H) {n : Nat} {a : Addr} {c : Cell} {o : HO} (h : S[n]? = some c) (nd : c ≠ .dead) (e : G.f n = some a) (ho : H a = some o) : Sm K (G.put a o) (S.set n .dead) H where
  fr := fun b u q => by
    have q' : upd G.F a o b = some u := q
    by_cases z : b = a
    · subst z
      rw [upd_same] at q'
      rw [← q']
      exact ho
    · rw [upd_ne z] at q'
      exact m.fr _ _ q'
  cel := fun k d q nd' => by
    by_cases hk : n = k
    · subst hk
      have hl : n < S.length := (List.getElem?_eq_some_iff.mp h).1
      rw [List.getElem?_set_self hl] at q
      cases q
      exact absurd rfl nd'
    · rw [List.getElem?_set_ne hk] at q
      obtain ⟨b, h1, h2, h3⟩ := m.cel k d q nd'
      have nb : b ≠ a := fun z => by
        subst z
        exact hk (m.inj _ _ _ e h1)
      refine ⟨b, h1, ?_, h3.mono (Gh.put_le (m.addr h nd e).1) fun o' z => z⟩
      show upd G.F a o b = none
      rw [upd_ne nb]
      exact h2
  dom := fun k b q => by
    rw [List.length_set]
    exact m.dom k b q
  inj := m.inj
  dn := m.dn
end
/-- from a state to a later one: what is no cell stays, new cells are new -/
structure Stp (G : Gh) (H : Hp) (G' : Gh) (H' : Hp) : Prop where
  le : G.le G'
  dom : ∀ a o, H a = some o → ∃ o', H' a = some o'
  frm : ∀ a o, H a = some o → (∀ n, G.f n ≠ some a) → H' a = some o
  new : ∀ n a, G'.f n = some a → G.f n = some a ∨ H a = none
  fro : ∀ a o, G'.F a = some o → G.F a = some o ∨ H a = none ∨ ∃ n, G.f n = some a
section
variable {K : PySem.W.Frag} {G G' G'' : Gh} {S : Sto} {H H' H'' : Hp}
theorem Stp.refl : Stp G H G H := ⟨.refl, fun _ o h => ⟨o, h⟩, fun _ _ h _ => h, fun _ _ h => .inl h, fun _ _ h => .inl h⟩
theorem Stp.none_of (x : Stp G H G' H') {a : Addr} (q : H' a = none) : H a = none := by
  cases e' : H a with
  | none => rfl
  | some o => obtain ⟨o', h'⟩ := x.dom a o e'; rw [q] at h'; cases h'
theorem Stp.trans (x : Stp G H G' H') (y : Stp G' H' G'' H'') : Stp G H G'' H'' where
  le := x.le.trans y.le
  dom := fun a o h => let ⟨o', h'⟩ := x.dom a o h; y.dom a o' h'
  frm := fun a o h hn => y.frm a o (x.frm a o h hn) fun n e => by
    rcases x.new n a e with q | q
    · exact hn n q
    · rw [h] at q; cases q
  new := fun n a e => by
    rcases y.new n a e with q | q
    · exact x.new n a q
    · exact .inr (x.none_of q)
  fro := fun a o e => by
    rcases y.fro a o e with q | q | ⟨n, q⟩
    · exact x.fro a o q
    · exact .inr (.inl (x.none_of q))
    · rcases x.new n a q with q | q
      · exact .inr (.inr ⟨n, q⟩)
      · exact .inr (.inl q)
theorem Stp.ext (e : Ext H H') : Stp G H G H' := ⟨.refl, fun _ o h => ⟨o, e _ _ h⟩, fun _ _ h _ => e _ _ h, fun _ _ h => .inl h, fun _ _ h => .inl h⟩
theorem Stp.put {p : Addr} {o : HO} (sm : Sm K G S H) (hp : H p = none) : Stp G H (G.put p o) (upd H p o) :=
  ⟨Gh.put_le (sm.free hp), fun a u h => ⟨u, by rw [upd_ne (ne_of_none h hp)]; exact h⟩, fun a u h _ => by rw [upd_ne (ne_of_none h hp)]; exact h, fun _ _ h => .inl h, fun a u h => by
    have h' : upd G.F p o a = some u := h
    by_cases z : a = p
    · exact .inr (.inl (by rw [z]; exact hp))
    · rw [upd_ne z] at h'
      exact .inl h'⟩
theorem Stp.cell {p : Addr} {o : HO} (sm : Sm K G S H) (hp : H p = none) : Stp G H (G.new S.length p) (upd H p o) :=
  ⟨sm.new_le, fun a u h => ⟨u, by rw [upd_ne (ne_of_none h hp)]; exact h⟩, fun a u h _ => by rw [upd_ne (ne_of_none h hp)]; exact h, fun n a h => by
    have h' : (if n = S.length then some p else G.f n) = some a := h
    by_cases q : n = S.length
    · rw [if_pos q] at h'
      cases h'
      exact .inr hp
    · rw [if_neg q] at h'
      exact .inl h', fun _ _ h => .inl h⟩
theorem Stp.write {n : Nat} {a : Addr} {o : HO} (e : G.f n = some a) : Stp G H G (upd H a o) :=
  ⟨.refl, fun b u h => by
    by_cases z : b = a
    · exact ⟨o, by rw [z]; exact upd_same⟩
    · exact ⟨u, by rw [upd_ne z]; exact h⟩, fun b u h hn => by
    have z : b ≠ a := fun z => hn n (by rw [z]; exact e)
    rw [upd_ne z]
    exact h, fun _ _ h => .inl h, fun _ _ h => .inl h⟩
theorem Stp.freeze {n : Nat} {a : Addr} {o : HO} (hn : G.f n = some a) (h : G.F a = none) : Stp G H (G.put a o) H := ⟨Gh.put_le h, fun _ o h => ⟨o, h⟩, fun _ _ h _ => h, fun _ _ h => .inl h, fun b u e => by
  have e' : upd G.F a o b = some u := e
  by_cases z : b = a
  · exact .inr (.inr ⟨n, by rw [z]; exact hn⟩)
  · rw [upd_ne z] at e'
    exact .inl e'⟩
/-- what was free at the start may be written -/
theorem Stp.at {p : Addr} {o : HO} (x : Stp G H G' H') (hp : H p = none) : Stp G H G' (upd H' p o) :=
  ⟨x.le, fun a u h => by
    obtain ⟨u', h'⟩ := x.dom a u h
    exact ⟨u', by rw [upd_ne (ne_of_none h hp)]; exact h'⟩, fun a u h hn => by
    rw [upd_ne (ne_of_none h hp)]
    exact x.frm a u h hn, x.new, x.fro⟩
theorem Stp.add {p : Addr} {o : HO} (x : Stp G H G' H') (hp : H p = none) (hF : G'.F p = none) : Stp G H (G'.put p o) H' :=
  ⟨x.le.trans (Gh.put_le hF), x.dom, x.frm, x.new, fun a u h => by
    have h' : upd G'.F p o a = some u := h
    by_cases z : a = p
    · exact .inr (.inl (by rw [z]; exact hp))
    · rw [upd_ne z] at h'
      exact x.fro a u h'⟩
/-- what is no cell and not told may be written -/
theorem Sm.other {p : Addr} {o : HO} (m : Sm K G S H) (hF : G.F p = none) (hc : ∀ n, G.f n ≠ some p) : Sm K G S (upd H p o) where
  fr := fun a u e => by rw [upd_ne (ne_of_none e hF)]; exact m.fr a u e
  cel := fun n c e nd => by
    obtain ⟨a, h1, h2, h3⟩ := m.cel n c e nd
    exact ⟨a, h1, h2, h3.mono .refl fun o' q => by rw [upd_ne fun z => hc n (by rw [← z]; exact h1)]; exact q⟩
  dom := m.dom
  inj := m.inj
  dn := fun n a e => by
    obtain ⟨u, hu⟩ := m.dn n a e
    exact ⟨u, by rw [upd_ne fun z => hc n (by rw [← z]; exact e)]; exact hu⟩
/-- .. and told from now on -/
theorem Sm.tell {p : Addr} {o : HO} (m : Sm K G S H) (hp : H p = some o) (hc : ∀ n, G.f n ≠ some p) : Sm K (G.put p o) S H where
  fr := fun a u e => by
    have e' : upd G.F p o a = some u := e
    by_cases z : a = p
    · subst z
      rw [upd_same] at e'
      rw [← e']
      exact hp
    · rw [upd_ne z] at e'
      exact m.fr a u e'
  cel := fun n c e nd => by
    obtain ⟨a, h1, h2, h3⟩ := m.cel n c e nd
    have z : a ≠ p := fun z => hc n (by rw [← z]; exact h1)
    have hF : ∀ b u, G.F b = some u → (G.put p o).F b = some u := fun b u q => by
      show upd G.F p o b = some u
      by_cases y : b = p
      · subst y
        have := m.fr _ _ q
        rw [hp] at this
        cases this
        exact upd_same
      · rw [upd_ne y]
        exact q
    refine ⟨a, h1, ?_, h3.mono ⟨hF, fun _ _ h => h⟩ fun _ q => q⟩
    show upd G.F p o a = none
    rw [upd_ne z]
    exact h2
  dom := m.dom
  inj := m.inj
  dn := m.dn
/-- what is no cell and not told becomes a cell -/
theorem Sm.adopt {p : Addr} {o : HO} {c : Cell} (m : Sm K G S H) (hp : H p = some o) (hF : G.F p = none) (hc : ∀ n, G.f n ≠ some p) (h : CellOk K (G.new S.length p) H p c) : Sm K (G.new S.length p) (S ++ [c]) H where
  fr := m.fr
  cel := fun n c' e nd => by
    by_cases q : n < S.length
    · rw [List.getElem?_append_left q] at e
      obtain ⟨a, h1, h2, h3⟩ := m.cel n c' e nd
      exact ⟨a, m.new_le.2 _ _ h1, h2, h3.mono m.new_le fun _ z => z⟩
    · have q2 : n = S.length := by
        have : n < (S ++ [c]).length := (List.getElem?_eq_some_iff.mp e).1
        simp at this
        omega
      subst q2
      simp at e
      subst e
      exact ⟨p, Gh.new_at, hF, h⟩
  dom := fun n a e => by
    simp
    by_cases q : n = S.length
    · omega
    · have e' : (if n = S.length then some p else G.f n) = some a := e
      rw [if_neg q] at e'
      have := m.dom n a e'
      omega
  inj := fun n k a e1 e2 => by
    have e1' : (if n = S.length then some p else G.f n) = some a := e1
    have e2' : (if k = S.length then some p else G.f k) = some a := e2
    by_cases q1 : n = S.length
    · by_cases q2 : k = S.length
      · omega
      · rw [if_pos q1] at e1'
        rw [if_neg q2] at e2'
        cases e1'
        exact absurd e2' (hc k)
    · by_cases q2 : k = S.length
      · rw [if_neg q1] at e1'
        rw [if_pos q2] at e2'
        cases e2'
        exact absurd e1' (hc n)
      · rw [if_neg q1] at e1'
        rw [if_neg q2] at e2'
        exact m.inj _ _ _ e1' e2'
  dn := fun n a e => by
    have e' : (if n = S.length then some p else G.f n) = some a := e
    by_cases q : n = S.length
    · rw [if_pos q] at e'
      cases e'
      exact ⟨o, hp⟩
    · rw [if_neg q] at e'
      exact m.dn n a e'
end
end PV
set_option Elab.async false
set_option linter.all false
set_option maxRecDepth 100000
set_option maxHeartbeats 4000000
namespace PV
open PySem PySem.Spec PyProof.Rows L2 ZL
/-! ### how code ends -/
inductive Out (α : Type) where
  | ok (a : α) (S : Sto) | ex (c : String) (fs : List (String × D)) (S : Sto) | no
def Out.bind {α β : Type} (o : Out α) (k : α → Sto → Out β) : Out β := match o with
  | .ok a S => k a S
  | .ex c fs S => .ex c fs S
  | .no => .no
theorem bind_ok {α β : Type} {a : α} {S : Sto} {k : α → Sto → Out β} : (Out.ok a S).bind k = k a S := rfl
theorem bind_ex {α β : Type} {c : String} {fs : List (String × D)} {S : Sto} {k : α → Sto → Out β} : (Out.ex c fs S : Out α).bind k = .ex c fs S := rfl
theorem bind_no {α β : Type} {k : α → Sto → Out β} : (Out.no : Out α).bind k = .no := rfl
theorem bind_congr {α β : Type} {o o' : Out α} {k : α → Sto → Out β} (h : o = o') : o.bind k = o'.bind k := by rw [h]
abbrev Ev := List (Option D)
abbrev ME := Ev → Sto → Out D
abbrev MT := Ev → Sto → Out Bool
abbrev MA := Ev → Sto → Out (List D)
inductive Fl where
  | nx (ρ : Ev) | rt (d : D) | bk (ρ : Ev) | ct (ρ : Ev)
abbrev MS := Ev → Sto → Out Fl
abbrev Fn := List D → Sto → Out D
/-- an exception by its class and its fields -/
def ExR (K : PySem.W.Frag) (G : Gh) (c : String) (fs : List (String × D)) (cls : Value) (dd : Option Addr) : Prop :=
  cls = .ref (He.ga K (Str.ofString c)) ∧ ((fs = [] ∧ dd = none) ∨ ∃ d ws, dd = some d ∧ G.F d = some (.xd ws) ∧ Rpf K G fs ws)
/-- what is wanted where an exception goes -/
def wEx (K : PySem.W.Frag) (G : Gh) (H : Hp) (c : String) (fs : List (String × D)) (S : Sto) : XK := fun cls dd H' => ∃ G', Stp G H G' H' ∧ Sm K G' S H' ∧ ExR K G' c fs cls dd
theorem wEx.anti {K : PySem.W.Frag} {G G1 : Gh} {H H1 : Hp} {c : String} {fs : List (String × D)} {S : Sto} {cls : Value} {dd : Option Addr} {H' : Hp} (le : Stp G H G1 H1) (h : wEx K G1 H1 c fs S cls dd H') : wEx K G H c fs S cls dd H' := by
  obtain ⟨G', l, r⟩ := h
  exact ⟨G', le.trans l, r⟩
def sat {α β : Type} (X : Cx) (R : Gh → α → β → Prop) (G : Gh) (H : Hp) (o : Out α) (Q : β → Hp → Prop) : Prop := match o with
  | .ok a S' => ∀ G' H' b, Stp G H G' H' → Sm X.K G' S' H' → R G' a b → Q b H'
  | .ex c fs S' => Takes X (fun cls dd _ H' => wEx X.K G H c fs S' cls dd H')
  | .no => False
section
variable {X : Cx} {α β γ δ : Type} {R : Gh → α → β → Prop} {R' : Gh → γ → δ → Prop} {G G1 : Gh} {H H1 : Hp} {o : Out α} {Q Q' : β → Hp → Prop}
theorem sat.mono (h : sat X R G H o Q) (le : Stp G H G1 H1) : sat X R G1 H1 o Q := by
  cases o with
  | ok a S => exact fun G' H' b l => h G' H' b (le.trans l)
  | ex c fs S => exact Takes.imp h fun _ _ _ _ z => z.anti le
  | no => exact h
theorem sat.imp (h : sat X R G H o Q) (i : ∀ b H, Q b H → Q' b H) : sat X R G H o Q' := by
  cases o with
  | ok a S => exact fun G' H' b l s r => i _ _ (h G' H' b l s r)
  | ex c fs S => exact h
  | no => exact h
/-- what the rest is given -/
def Aft (X : Cx) (R : Gh → α → β → Prop) (G : Gh) (H : Hp) (P : α → Sto → Gh → Hp → Prop) (b : β) (H1 : Hp) : Prop := ∃ a S1 G1, Stp G H G1 H1 ∧ Sm X.K G1 S1 H1 ∧ R G1 a b ∧ P a S1 G1 H1
theorem sat.bind {k : α → Sto → Out γ} {Q2 : δ → Hp → Prop} (h : sat X R' G H (o.bind k) Q2) : sat X R G H o (Aft X R G H fun a S1 G1 H1 => sat X R' G1 H1 (k a S1) Q2) := by
  cases o with
  | ok a S => exact fun G' H' b l s r => ⟨a, S, G', l, s, r, h.mono l⟩
  | ex c fs S => exact h
  | no => exact h
end
/-! ### slots -/
inductive Re (K : PySem.W.Frag) (G : Gh) : Ev → L2.St → Prop where
  | nil : Re K G [] []
  | skp {ρ : Ev} {σ : L2.St} {v : Option V} (t : Re K G ρ σ) : Re K G (none :: ρ) (v :: σ)
  | has {ρ : Ev} {σ : L2.St} {d : D} {v : V} (h : Rp K G d v) (t : Re K G ρ σ) : Re K G (some d :: ρ) (some v :: σ)
section
variable {K : PySem.W.Frag} {G G' : Gh} {ρ : Ev} {σ : L2.St}
theorem Re.mono (h : Re K G ρ σ) (le : G.le G') : Re K G' ρ σ := by
  induction h with
  | nil => exact .nil
  | skp _ ih => exact .skp ih
  | has r _ ih => exact .has (r.mono le) ih
theorem Re.get {i : Nat} {d : D} (h : Re K G ρ σ) (e : ρ[i]? = some (some d)) : ∃ v, σ[i]? = some (some v) ∧ Rp K G d v := by
  induction h generalizing i with
  | nil => simp at e
  | skp _ ih =>
    cases i with
    | zero => simp at e
    | succ i => obtain ⟨v, h1, h2⟩ := ih (i := i) (by simpa using e); exact ⟨v, by simpa using h1, h2⟩
  | has r _ ih =>
    cases i with
    | zero => simp at e; subst e; exact ⟨_, rfl, r⟩
    | succ i => obtain ⟨v, h1, h2⟩ := ih (i := i) (by simpa using e); exact ⟨v, by simpa using h1, h2⟩
theorem Re.set {d : D} {v : V} (h : Re K G ρ σ) (i : Nat) (r : Rp K G d v) : Re K G (ρ.set i (some d)) (σ.set i (some v)) := by
  induction h generalizing i with
  | nil => exact .nil
  | skp t ih =>
    cases i with
    | zero => exact .has r t
    | succ i => exact .skp (ih i)
  | has q t ih =>
    cases i with
    | zero => exact .has r t
    | succ i => exact .has q (ih i)
theorem Re.forget (h : Re K G ρ σ) (i : Nat) (v : Option V) : Re K G (ρ.set i none) (σ.set i v) := by
  induction h generalizing i with
  | nil => exact .nil
  | skp t ih =>
    cases i with
    | zero => exact .skp t
    | succ i => exact .skp (ih i)
  | has q t ih =>
    cases i with
    | zero => exact .skp t
    | succ i => exact .has q (ih i)
theorem Re.reps (n : Nat) : Re K G (List.replicate n none) (List.replicate n none) := by
  induction n with
  | zero => exact .nil
  | succ n ih => exact .skp ih
theorem Re.start {ds : List D} {vs : List V} (h : Rps K G ds vs) (n : Nat) : Re K G (ds.map some ++ List.replicate n none) (vs.map some ++ List.replicate n none) := by
  induction ds generalizing vs with
  | nil => cases h; exact Re.reps n
  | cons x xs ih => cases h with | cons a b => exact .has a (ih b)
end
/-! ### the judgements -/
def tE (X : Cx) (m : ME) : TE := fun σ H Q => ∃ ρ S G, Sm X.K G S H ∧ Re X.K G ρ σ ∧ sat X (Rp X.K) G H (m ρ S) Q
def tT (X : Cx) (m : MT) : TT := fun σ H Q => ∃ ρ S G, Sm X.K G S H ∧ Re X.K G ρ σ ∧ sat X (fun _ a b => a = b) G H (m ρ S) Q
def tA (X : Cx) (m : MA) : TA := fun σ H Q => ∃ ρ S G, Sm X.K G S H ∧ Re X.K G ρ σ ∧ sat X (Rps X.K) G H (m ρ S) Q
def satS (X : Cx) (G : Gh) (H : Hp) (o : Out Fl) (D : Ends) : Prop := match o with
  | .ok (.nx ρ') S' => ∀ G' H' σ', Stp G H G' H' → Sm X.K G' S' H' → Re X.K G' ρ' σ' → D.nx σ' H'
  | .ok (.rt d) S' => ∀ G' H' v, Stp G H G' H' → Sm X.K G' S' H' → Rp X.K G' d v → D.rt v H'
  | .ok (.bk ρ') S' => ∀ G' H' σ', Stp G H G' H' → Sm X.K G' S' H' → Re X.K G' ρ' σ' → D.bk σ' H'
  | .ok (.ct ρ') S' => ∀ G' H' σ', Stp G H G' H' → Sm X.K G' S' H' → Re X.K G' ρ' σ' → D.ct σ' H'
  | .ex c fs S' => Takes X (fun cls dd _ H' => wEx X.K G H c fs S' cls dd H')
  | .no => False
def tS (X : Cx) (m : MS) : TS := fun D σ H => ∃ ρ S G, Sm X.K G S H ∧ Re X.K G ρ σ ∧ satS X G H (m ρ S) D
abbrev QE (X : Cx) (e : Expr) (m : ME) : Prop := PE X e (tE X m)
abbrev QT (X : Cx) (e : Expr) (m : MT) : Prop := PT X e (tT X m)
abbrev QA (X : Cx) (es : List Expr) (m : MA) : Prop := PA X es (tA X m)
abbrev QS (X : Cx) (st : Stmt) (m : MS) : Prop := PS X st (tS X m)
abbrev QSs (X : Cx) (st : List Stmt) (m : MS) : Prop := PSs X st (tS X m)
theorem satS.mono {X : Cx} {G G1 : Gh} {H H1 : Hp} {o : Out Fl} {D : Ends} (h : satS X G H o D) (le : Stp G H G1 H1) : satS X G1 H1 o D := by
  match o, h with
  | .ok (.nx _) _, h => exact fun G' H' b l => h G' H' b (le.trans l)
  | .ok (.rt _) _, h => exact fun G' H' b l => h G' H' b (le.trans l)
  | .ok (.bk _) _, h => exact fun G' H' b l => h G' H' b (le.trans l)
  | .ok (.ct _) _, h => exact fun G' H' b l => h G' H' b (le.trans l)
  | .ex _ _ _, h => exact Takes.imp h fun _ _ _ _ z => z.anti le
  | .no, h => exact h
theorem satS.bind {α β : Type} {X : Cx} {R : Gh → α → β → Prop} {G : Gh} {H : Hp} {o : Out α} {k : α → Sto → Out Fl} {D : Ends} (h : satS X G H (o.bind k) D) : sat X R G H o (Aft X R G H fun a S1 G1 H1 => satS X G1 H1 (k a S1) D) := by
  cases o with
  | ok a S => exact fun G' H' b l s r => ⟨a, S, G', l, s, r, h.mono l⟩
  | ex c fs S => exact h
  | no => exact h
section
variable {X : Cx} {e : Expr} {st : Stmt} {sts : List Stmt}
theorem qe_of {t : TE} {m : ME} (h : PE X e t) (i : ∀ ρ S G σ H Q, Sm X.K G S H → Re X.K G ρ σ → sat X (Rp X.K) G H (m ρ S) Q → t σ H Q) : QE X e m :=
  ⟨fun pins s σ H Q I ⟨ρ, S, G, sm, re, q⟩ => h.run pins s σ H Q I (i ρ S G σ H Q sm re q)⟩
theorem qt_of {t : TT} {m : MT} (h : PT X e t) (i : ∀ ρ S G σ H Q, Sm X.K G S H → Re X.K G ρ σ → sat X (fun _ a b => a = b) G H (m ρ S) Q → t σ H Q) : QT X e m :=
  ⟨fun pins s σ H Q I ⟨ρ, S, G, sm, re, q⟩ => h.run pins s σ H Q I (i ρ S G σ H Q sm re q)⟩
theorem qs_of {t : TS} {m : MS} (h : PS X st t) (i : ∀ ρ S G σ H D, Sm X.K G S H → Re X.K G ρ σ → satS X G H (m ρ S) D → t D σ H) : QS X st m :=
  ⟨fun pins s σ H Q I ⟨ρ, S, G, sm, re, q⟩ => h.run pins s σ H Q I (i ρ S G σ H Q sm re q)⟩
theorem qss_of {t : TS} {m : MS} (h : PSs X sts t) (i : ∀ ρ S G σ H D, Sm X.K G S H → Re X.K G ρ σ → satS X G H (m ρ S) D → t D σ H) : QSs X sts m :=
  ⟨fun pins s σ H Q I ⟨ρ, S, G, sm, re, q⟩ => h.run pins s σ H Q I (i ρ S G σ H Q sm re q)⟩
end
/-! ### names, constants -/
def v (i : Nat) : ME := fun ρ S => match ρ[i]? with
  | some (some d) => .ok d S
  | _ => .no
def k (d : D) : ME := fun _ S => .ok d S
section
variable {X : Cx} {pos : Pos}
theorem qv (i : Nat) {x : Str} (hN : X.N[i]? = some x := by rfl) (hv : Vis X.env.scope x := by first | exact .inl rfl | exact .inr (.inl rfl) | exact .inr (.inr rfl)) (hd : (x == ("__debug__" : Str)) = false := by decide) (hcd : (x == ("__classdict__" : Str)) = false := by decide) : QE X (.Name x pos) (v i) :=
  qe_of (pe_var hN hv hd hcd) fun ρ S G σ H Q sm re h => by
    have h' : sat X (Rp X.K) G H (match ρ[i]? with | some (some d) => .ok d S | _ => .no) Q := h
    match e : ρ[i]?, h' with
    | some (some d), h' =>
      obtain ⟨v, h1, h2⟩ := re.get e
      exact ⟨v, h1, h' G H v .refl sm h2⟩
    | some none, h' => exact h'.elim
    | none, h' => exact h'.elim
theorem qk_of {e : Expr} {d : D} {x : V} (h : PE X e (tC x)) (r : ∀ G, Rp X.K G d x) : QE X e (k d) :=
  qe_of h fun ρ S G σ H Q sm re h => h G H x .refl sm (r G)
theorem qk_int {i : Int} {j : Nat} : QE X (.Constant (.int i) j pos) (k (.int i)) := qk_of pe_int fun _ => .int i
theorem qk_bl {b : Bool} {j : Nat} : QE X (.Constant (.bool b) j pos) (k (.bl b)) := qk_of pe_bl fun _ => .bl b
theorem qk_non {j : Nat} : QE X (.Constant .none j pos) (k .non) := qk_of pe_non fun _ => .non
theorem qk_str {x : Str} {j : Nat} : QE X (.Constant (.str x) j pos) (k (.str x)) := qk_of pe_str fun _ => .str x
/-- a module's int, text; a class of the module; a built-in class -/
theorem qg_int {x : Str} {i : Int} (hm : ∃ t, X.mg x = some (.int i t)) (hg : Gl X x := by rfl) (hd : (x == ("__debug__" : Str)) = false := by decide) : QE X (.Name x pos) (k (.int i)) :=
  let ⟨t, ht⟩ := hm
  qk_of (pe_glob (v := .int i) hg ht ⟨t, rfl⟩ hd) fun _ => .int i
theorem qg_str {x z : Str} (hm : ∃ t, X.mg x = some (.str z t)) (hg : Gl X x := by rfl) (hd : (x == ("__debug__" : Str)) = false := by decide) : QE X (.Name x pos) (k (.str z)) :=
  let ⟨t, ht⟩ := hm
  qk_of (pe_glob (v := .str z) hg ht ⟨t, rfl⟩ hd) fun _ => .str z
theorem qg_cls {c : String} (hm : X.mg (Str.ofString c) = some (.ref (He.ga X.K (Str.ofString c)))) (hg : Gl X (Str.ofString c) := by rfl) (hd : (Str.ofString c == ("__debug__" : Str)) = false := by decide) : QE X (.Name (Str.ofString c) pos) (k (.cls c)) :=
  qk_of (pe_glob (v := .ref _) hg hm rfl hd) fun _ => .cls c
theorem qg_ty {x : Str} {n : String} (hm : X.mg x = none) (hv : bootBuiltins x = some (.type n)) (hg : Gl X x := by rfl) (hn : x ≠ "__name__" := by decide) (hd : (x == ("__debug__" : Str)) = false := by decide) : QE X (.Name x pos) (k (.ty n)) :=
  qk_of (pe_bltn (v := .ty n) hg hm hv rfl hn hd) fun _ => .ty n
end
/-! ### argument lists -/
def aNil : MA := fun _ S => .ok [] S
def aCons (m : ME) (ms : MA) : MA := fun ρ S => (m ρ S).bind fun d S1 => (ms ρ S1).bind fun ds S2 => .ok (d :: ds) S2
section
variable {X : Cx} {e : Expr} {es : List Expr} {m : ME} {ms : MA} {pos : Pos}
theorem qa_nil : QA X [] aNil := ⟨fun pos pins s σ H Q I h => pa_nil.run pos pins s σ H Q I (by
  obtain ⟨ρ, S, G, sm, re, q⟩ := h
  exact q G H [] .refl sm .nil)⟩
theorem qa_cons (h : QE X e m) (hs : QA X es ms) (hst : starEach (e :: es) X.env = (false, eval e X.env) :: starEach es X.env := by rfl) : QA X (e :: es) (aCons m ms) :=
  ⟨fun pos pins s σ H Q I z => (pa_cons h hs hst).run pos pins s σ H Q I (by
    obtain ⟨ρ, S, G, sm, re, q⟩ := z
    refine ⟨ρ, S, G, sm, re, (sat.bind q).imp fun x H1 w => ?_⟩
    obtain ⟨d, S1, G1, le1, sm1, r1, q1⟩ := w
    refine ⟨ρ, S1, G1, sm1, re.mono le1.le, (sat.bind q1).imp fun xs H2 w => ?_⟩
    obtain ⟨ds, S2, G2, le2, sm2, r2, q2⟩ := w
    exact q2 G2 H2 _ .refl sm2 (.cons (r1.mono le2.le) r2))⟩
end
/-! ### statements -/
def sNil : MS := fun ρ S => .ok (.nx ρ) S
/-- the next statement, if the flow goes on -/
def sSeq (a b : MS) : MS := fun ρ S => (a ρ S).bind fun f S1 => match f with
  | .nx ρ' => b ρ' S1
  | f => .ok f S1
def sRet (m : ME) : MS := fun ρ S => (m ρ S).bind fun d S1 => .ok (.rt d) S1
def sRetN : MS := fun _ S => .ok (.rt .non) S
def sExp (m : ME) : MS := fun ρ S => (m ρ S).bind fun _ S1 => .ok (.nx ρ) S1
def sSet (i : Nat) (m : ME) : MS := fun ρ S => (m ρ S).bind fun d S1 => .ok (.nx (ρ.set i (some d))) S1
def sIf (t : MT) (a b : MS) : MS := fun ρ S => (t ρ S).bind fun c S1 => if c = true then a ρ S1 else b ρ S1
def sBrk : MS := fun ρ S => .ok (.bk ρ) S
def sCnt : MS := fun ρ S => .ok (.ct ρ) S
/-- a way that is never gone -/
def sNo : MS := fun _ _ => .no
section
variable {X : Cx} {e : Expr} {st : Stmt} {sts sts' : List Stmt} {m : ME} {t : MT} {a b : MS} {pos : Pos}
theorem qs_nil : QSs X [] sNil := qss_of pss_nil fun ρ S G σ H D sm re h => h G H σ .refl sm re
theorem qs_cons (h : QS X st a) (h' : QSs X sts b) : QSs X (st :: sts) (sSeq a b) := qss_of (pss_cons h h') fun ρ S G σ H D sm re h => by
  refine ⟨ρ, S, G, sm, re, ?_⟩
  have h1 : satS X G H ((a ρ S).bind fun f S1 => match f with | .nx ρ' => b ρ' S1 | f => .ok f S1) D := h
  match a ρ S, h1 with
  | .ok (.nx ρ') S', h1 => exact fun G' H' σ' le sm' re' => ⟨ρ', S', G', sm', re', h1.mono le⟩
  | .ok (.rt _) _, h1 => exact h1
  | .ok (.bk _) _, h1 => exact h1
  | .ok (.ct _) _, h1 => exact h1
  | .ex _ _ _, h1 => exact h1
  | .no, h1 => exact h1
theorem qs_one (h : QS X st a) : QSs X [st] (sSeq a sNil) := qs_cons h qs_nil
theorem qs_ret (h : QE X e m) : QS X (.Return (some e) pos) (sRet m) := qs_of (ps_ret h) fun ρ S G σ H D sm re z => by
  refine ⟨ρ, S, G, sm, re, (satS.bind z).imp fun x H1 w => ?_⟩
  obtain ⟨d, S1, G1, le1, sm1, r1, q1⟩ := w
  exact q1 G1 H1 x .refl sm1 r1
theorem qs_retN : QS X (.Return none pos) sRetN := qs_of ps_retN fun ρ S G σ H D sm re z => z G H _ .refl sm .non
theorem qs_exp (h : QE X e m) (hs : swapsWith e none pos.line X.env = pure false := by rfl) : QS X (.Expr e pos) (sExp m) := qs_of (ps_expr h hs) fun ρ S G σ H D sm re z => by
  refine ⟨ρ, S, G, sm, re, (satS.bind z).imp fun x H1 w => ?_⟩
  obtain ⟨d, S1, G1, le1, sm1, r1, q1⟩ := w
  exact q1 G1 H1 σ .refl sm1 (re.mono le1.le)
theorem qs_set (i : Nat) {x : Str} {pos' : Pos} (h : QE X e m) (hN : X.N.Nodup) (hi : X.N[i]? = some x := by rfl) (hx : Loc X.env.scope x := by first | exact .inl rfl | exact .inr rfl) (hs : swapsWith e (some (.Name x pos')) pos.line X.env = pure false := by rfl) (hf : X.fn x = true ∨ X.env.scope.names.lookup x = some .local := by first | exact .inl rfl | exact .inr rfl) :
    QS X (.Assign [.Name x pos'] e pos) (sSet i m) := qs_of (ps_set (i := i) hN hi hx h hs hf) fun ρ S G σ H D sm re z => by
  refine ⟨ρ, S, G, sm, re, (satS.bind z).imp fun x H1 w => ?_⟩
  obtain ⟨d, S1, G1, le1, sm1, r1, q1⟩ := w
  exact q1 G1 H1 _ .refl sm1 ((re.mono le1.le).set i r1)
theorem qs_if {c : Expr} (hc : QT X c t) (ha : QSs X sts a) (hb : QSs X sts' b) : QS X (.If c sts sts' pos) (sIf t a b) := qs_of (ps_if hc ha hb) fun ρ S G σ H D sm re z => by
  refine ⟨ρ, S, G, sm, re, (satS.bind z).imp fun x H1 w => ?_⟩
  obtain ⟨d, S1, G1, le1, sm1, r1, q1⟩ := w
  subst r1
  cases d with
  | true => exact ⟨ρ, S1, G1, sm1, re.mono le1.le, q1⟩
  | false => exact ⟨ρ, S1, G1, sm1, re.mono le1.le, q1⟩
theorem qs_break : QS X (.Break pos) sBrk := qs_of ps_break fun ρ S G σ H D sm re z => z G H σ .refl sm re
theorem qs_continue : QS X (.Continue pos) sCnt := qs_of ps_continue fun ρ S G σ H D sm re z => z G H σ .refl sm re
theorem qs_pass : QS X (.Pass pos) sNil := qs_of ps_pass fun ρ S G σ H D sm re z => z G H σ .refl sm re
theorem qs_no {st : Stmt} : QS X st sNo := ⟨fun _ _ _ _ _ _ ⟨_, _, _, _, _, q⟩ => q.elim⟩
theorem qss_no {sts : List Stmt} : QSs X sts sNo := ⟨fun _ _ _ _ _ _ ⟨_, _, _, _, _, q⟩ => q.elim⟩
theorem qe_no {e : Expr} : QE X e (fun _ _ => .no) := ⟨fun _ _ _ _ _ _ ⟨_, _, _, _, _, q⟩ => q.elim⟩
end
/-! ### cells that nothing leads to any more -/
mutual
def D.und (n : Nat) : D → Bool
  | .tup xs => belows n xs
  | .lst xs => belows n xs
  | .src xs => belows n xs
  | .dic0 => true
  | .obj _ fs => belowf n fs
  | .loc m => decide (m < n)
  | .non => true
  | .bl _ => true
  | .int _ => true
  | .str _ => true
  | .cls _ => true
  | .fnc _ => true
  | .ty _ => true
def belows (n : Nat) : List D → Bool
  | [] => true
  | x :: xs => x.und n && belows n xs
def belowf (n : Nat) : List (String × D) → Bool
  | [] => true
  | (_, x) :: xs => x.und n && belowf n xs
end
def Cell.und (n : Nat) : Cell → Bool
  | .lst xs => belows n xs
  | .ins _ fs => belowf n fs
  | .dead => true
def Gh.cut (G : Gh) (n : Nat) : Gh := ⟨G.F, fun k => if k < n then G.f k else none⟩
theorem Gh.cut_some {G : Gh} {n k : Nat} {a : Addr} (h : (G.cut n).f k = some a) : k < n ∧ G.f k = some a := by
  have h' : (if k < n then G.f k else none) = some a := h
  by_cases q : k < n
  · rw [if_pos q] at h'
    exact ⟨q, h'⟩
  · rw [if_neg q] at h'
    cases h'
theorem Gh.cut_of {G : Gh} {n k : Nat} {a : Addr} (q : k < n) (h : G.f k = some a) : (G.cut n).f k = some a := by
  show (if k < n then G.f k else none) = some a
  rw [if_pos q]
  exact h
section
variable {K : PySem.W.Frag} {G G' : Gh} {n : Nat}
theorem Rp.cut {d : D} {v : V} (h : Rp K G d v) : d.und n = true → Rp K (G.cut n) d v :=
  Rp.rec (K := K) (G := G) (motive_1 := fun d v _ => d.und n = true → Rp K (G.cut n) d v) (motive_2 := fun xs vs _ => belows n xs = true → Rps K (G.cut n) xs vs) (motive_3 := fun fs ws _ => belowf n fs = true → Rpf K (G.cut n) fs ws)
    (fun _ => .non) (fun b _ => .bl b) (fun i _ => .int i) (fun x _ => .str x) (fun h _ r z => .tup h (r (by simpa [D.und] using z))) (fun h _ r z => .lst h (r (by simpa [D.und] using z))) (fun h _ r z => .obj h (r (by simpa [D.und] using z)))
    (fun h z => .loc (Gh.cut_of (by simpa [D.und] using z) h)) (fun c _ => .cls c) (fun c _ => .fnc c) (fun c _ => .ty c) (fun h _ r z => .src h (r (by simpa [D.und] using z))) (fun h _ => .dic0 h)
    (fun _ => .nil) (fun _ _ a b z => by rw [belows, Bool.and_eq_true] at z; exact .cons (a z.1) (b z.2)) (fun _ => .nil) (fun _ _ a b z => by rw [belowf, Bool.and_eq_true] at z; exact .cons (a z.1) (b z.2)) h
theorem Rps.cut {xs : List D} {vs : List V} (h : Rps K G xs vs) (z : belows n xs = true) : Rps K (G.cut n) xs vs := by
  induction xs generalizing vs with
  | nil => cases h; exact .nil
  | cons x xs ih =>
    cases h with
    | cons a b => rw [belows, Bool.and_eq_true] at z; exact .cons (a.cut z.1) (ih b z.2)
theorem Rpf.cut {xs : List (String × D)} {vs : List (Str × V)} (h : Rpf K G xs vs) (z : belowf n xs = true) : Rpf K (G.cut n) xs vs := by
  induction xs generalizing vs with
  | nil => cases h; exact .nil
  | cons x xs ih =>
    cases h with
    | cons a b => rw [belowf, Bool.and_eq_true] at z; exact .cons (a.cut z.1) (ih b z.2)
theorem Rp.bel (dom : ∀ k a, G.f k = some a → k < n) {d : D} {v : V} (h : Rp K G d v) : d.und n = true :=
  Rp.rec (K := K) (G := G) (motive_1 := fun d v _ => d.und n = true) (motive_2 := fun xs vs _ => belows n xs = true) (motive_3 := fun fs ws _ => belowf n fs = true)
    rfl (fun _ => rfl) (fun _ => rfl) (fun _ => rfl) (fun h _ r => by rw [D.und]; exact r) (fun h _ r => by rw [D.und]; exact r) (fun h _ r => by rw [D.und]; exact r)
    (fun h => by rw [D.und]; exact decide_eq_true (dom _ _ h)) (fun _ => rfl) (fun _ => rfl) (fun _ => rfl) (fun h _ r => by rw [D.und]; exact r) (fun _ => rfl)
    rfl (fun _ _ a b => by rw [belows, a, b]; rfl) rfl (fun _ _ a b => by rw [belowf, a, b]; rfl) h
theorem Rps.bel (dom : ∀ k a, G.f k = some a → k < n) {xs : List D} {vs : List V} (h : Rps K G xs vs) : belows n xs = true := by
  induction xs generalizing vs with
  | nil => rfl
  | cons x xs ih => cases h with | cons a b => rw [belows, a.bel dom, ih b]; rfl
theorem Rpf.bel (dom : ∀ k a, G.f k = some a → k < n) {xs : List (String × D)} {vs : List (Str × V)} (h : Rpf K G xs vs) : belowf n xs = true := by
  induction xs generalizing vs with
  | nil => rfl
  | cons x xs ih => cases h with | cons a b => rw [belowf, a.bel dom, ih b]; rfl
theorem CellOk.bel {H : Hp} {a : Addr} {c : Cell} (dom : ∀ k a, G.f k = some a → k < n) (h : CellOk K G H a c) : c.und n = true := by
  cases c with
  | lst xs => obtain ⟨vs, _, r⟩ := h; exact r.bel dom
  | ins c fs => obtain ⟨dx, ws, _, r⟩ := h; exact r.bel dom
  | dead => rfl
theorem CellOk.cut {H : Hp} {a : Addr} {c : Cell} (h : CellOk K G H a c) (z : c.und n = true) : CellOk K (G.cut n) H a c := by
  cases c with
  | lst xs => obtain ⟨vs, e, r⟩ := h; exact ⟨vs, e, r.cut z⟩
  | ins c fs => obtain ⟨dx, ws, e, r⟩ := h; exact ⟨dx, ws, e, r.cut z⟩
  | dead => trivial
end
/-- the cells of S are as they were, or lead to cells of S alone -/
def Kept (S S' : Sto) : Prop := ∀ i c, i < S.length → S'[i]? = some c → S[i]? = some c ∨ c.und S.length = true
open Classical in
noncomputable def gcO (S : Sto) (o : Out D) : Out D := match o with
  | .ok d S' => if d.und S.length = true ∧ Kept S S' then .ok d (S'.take S.length) else .ok d S'
  | .ex c fs S' => if belowf S.length fs = true ∧ Kept S S' then .ex c fs (S'.take S.length) else .ex c fs S'
  | .no => .no
theorem gc_len {S S' : Sto} {d : D} (h : S'.length = S.length) : gcO S (.ok d S') = .ok d S' := by
  classical
  show (if d.und S.length = true ∧ Kept S S' then Out.ok d ((S').take S.length) else .ok d (S')) = _
  split
  · rw [← h, List.take_length]
  · rfl
theorem gc_lenx {S S' : Sto} {c : String} {fs : List (String × D)} (h : S'.length = S.length) : gcO S (.ex c fs S') = .ex c fs S' := by
  classical
  show (if belowf S.length fs = true ∧ Kept S S' then Out.ex c fs ((S').take S.length) else .ex c fs (S')) = _
  split
  · rw [← h, List.take_length]
  · rfl
theorem gc_same {S : Sto} {d : D} : gcO S (.ok d S) = .ok d S := gc_len rfl
theorem gc_samex {S : Sto} {c : String} {fs : List (String × D)} : gcO S (.ex c fs S) = .ex c fs S := gc_lenx rfl
theorem gc_set {S : Sto} {d : D} {i : Nat} {c : Cell} : gcO S (.ok d (S.set i c)) = .ok d (S.set i c) := gc_len (List.length_set ..)
theorem Kept.app {S T : Sto} : Kept S (S ++ T) := fun i c h e => .inl (by rw [List.getElem?_append_left h] at e; exact e)
theorem gc_app {S T : Sto} {d : D} (h : d.und S.length = true) : gcO S (.ok d (S ++ T)) = .ok d S := by
  classical
  show (if d.und S.length = true ∧ Kept S (S ++ T) then Out.ok d ((S ++ T).take S.length) else .ok d (S ++ T)) = _
  rw [if_pos ⟨h, Kept.app⟩, List.take_left]
theorem gc_appx {S T : Sto} {c : String} {fs : List (String × D)} (h : belowf S.length fs = true) : gcO S (.ex c fs (S ++ T)) = .ex c fs S := by
  classical
  show (if belowf S.length fs = true ∧ Kept S (S ++ T) then Out.ex c fs ((S ++ T).take S.length) else .ex c fs (S ++ T)) = _
  rw [if_pos ⟨h, Kept.app⟩, List.take_left]
theorem Kept.setApp {S T : Sto} {k : Nat} {c : Cell} (hc : c.und S.length = true) : Kept S (S.set k c ++ T) := fun i c' h e => by
  rw [List.getElem?_append_left (by rw [List.length_set]; exact h)] at e
  by_cases q : k = i
  · subst q
    rw [List.getElem?_set_self h] at e
    cases e
    exact .inr hc
  · rw [List.getElem?_set_ne q] at e
    exact .inl e
theorem gc_setApp {S T : Sto} {d : D} {k : Nat} {c : Cell} (h : d.und S.length = true) (hc : c.und S.length = true) : gcO S (.ok d (S.set k c ++ T)) = .ok d (S.set k c) := by
  classical
  show (if d.und S.length = true ∧ Kept S (S.set k c ++ T) then Out.ok d ((S.set k c ++ T).take S.length) else .ok d (S.set k c ++ T)) = _
  rw [if_pos ⟨h, Kept.setApp hc⟩]
  have e : S.length = (S.set k c).length := (List.length_set ..).symm
  rw [e, List.take_left]
theorem Sm.cut {K : PySem.W.Frag} {G G' : Gh} {S S' : Sto} {H H' : Hp} (m : Sm K G S H) (m' : Sm K G' S' H') (hk : Kept S S') : Sm K (G'.cut S.length) (S'.take S.length) H' where
  fr := m'.fr
  cel := fun i c e nd => by
    have hi : i < S.length := by
      have := (List.getElem?_eq_some_iff.mp e).1
      rw [List.length_take] at this
      omega
    rw [List.getElem?_take_of_lt hi] at e
    obtain ⟨a, h1, h2, h3⟩ := m'.cel i c e nd
    refine ⟨a, Gh.cut_of hi h1, h2, h3.cut ?_⟩
    rcases hk i c hi e with q | q
    · obtain ⟨b, g1, g2, g3⟩ := m.cel i c q nd
      exact g3.bel m.dom
    · exact q
  dom := fun k a h => by
    obtain ⟨h1, h2⟩ := Gh.cut_some h
    have := m'.dom k a h2
    rw [List.length_take]
    omega
  inj := fun i j a h h' => m'.inj i j a (Gh.cut_some h).2 (Gh.cut_some h').2
  dn := fun i a h => m'.dn i a (Gh.cut_some h).2
theorem Sm.cut_le {K : PySem.W.Frag} {G G' : Gh} {S : Sto} {H H' : Hp} (m : Sm K G S H) (st : Stp G H G' H') : Stp G H (G'.cut S.length) H' := ⟨⟨st.le.1, fun k a h => Gh.cut_of (m.dom k a h) (st.le.2 k a h)⟩, st.dom, st.frm, fun n a h => st.new n a (Gh.cut_some h).2, st.fro⟩
/-! ### defs -/
def fin (o : Out Fl) : Out D := o.bind fun f S => match f with
  | .nx _ => .ok .non S
  | .rt d => .ok d S
  | _ => .no
/-- a def with np parameters and n slots -/
noncomputable def dfn (np n : Nat) (b : MS) : Fn := fun ds S => if ds.length = np then gcO S (fin (b (ds.map some ++ List.replicate (n - np) none) S)) else .no
def spO (K : PySem.W.Frag) (G : Gh) (H : Hp) (o : Out D) (Q : VK) (E : XK) : Prop := match o with
  | .ok d S' => ∀ G' H' v, Stp G H G' H' → Sm K G' S' H' → Rp K G' d v → Q v H'
  | .ex c fs S' => ∀ cls dd H', wEx K G H c fs S' cls dd H' → E cls dd H'
  | .no => False
def spF (K : PySem.W.Frag) (F : Fn) : Sp := fun vs H Q E => ∃ ds S G, Sm K G S H ∧ Rps K G ds vs ∧ spO K G H (F ds S) Q E
abbrev FnF (P : Program) (w : World) (K : PySem.W.Frag) (mg : Str → Option Value) (base : Heap) (k : Nat) (f : Addr) (F : Fn) : Prop := FnR P w K mg base (L2.CX P w) k f (spF K F)
abbrev FnFG (P : Program) (w : World) (K : PySem.W.Frag) (mg : Str → Option Value) (base : Heap) (k : Nat) (f : Addr) (F : Fn) : Prop := FnRG P w K mg base (L2.CX P w) k f (spF K F)
theorem ExR.cut {K : PySem.W.Frag} {G : Gh} {n : Nat} {c : String} {fs : List (String × D)} {cls : Value} {dd : Option Addr} (h : ExR K G c fs cls dd) (z : belowf n fs = true) : ExR K (G.cut n) c fs cls dd := by
  obtain ⟨h1, h2 | ⟨d, ws, h3, h4, h5⟩⟩ := h
  · exact ⟨h1, .inl h2⟩
  · exact ⟨h1, .inr ⟨d, ws, h3, h4, h5.cut z⟩⟩
theorem spO_gc {K : PySem.W.Frag} {G : Gh} {S : Sto} {H : Hp} {o : Out D} {Q : VK} {E : XK} (sm : Sm K G S H) (h : spO K G H (gcO S o) Q E) : spO K G H o Q E := by
  classical
  match o, h with
  | .ok d S', h =>
    intro G' H' v le sm' r
    by_cases c : d.und S.length = true ∧ Kept S S'
    · have e : gcO S (.ok d S') = .ok d (S'.take S.length) := if_pos c
      rw [e] at h
      exact h _ H' v (sm.cut_le le) (sm.cut sm' c.2) (r.cut c.1)
    · have e : gcO S (.ok d S') = .ok d S' := if_neg c
      rw [e] at h
      exact h G' H' v le sm' r
  | .ex x fs S', h =>
    intro cls dd H' w
    obtain ⟨G', le, sm', r⟩ := w
    by_cases c : belowf S.length fs = true ∧ Kept S S'
    · have e : gcO S (.ex x fs S') = .ex x fs (S'.take S.length) := if_pos c
      rw [e] at h
      exact h cls dd H' ⟨_, sm.cut_le le, sm.cut sm' c.2, r.cut c.1⟩
    · have e : gcO S (.ex x fs S') = .ex x fs S' := if_neg c
      rw [e] at h
      exact h cls dd H' ⟨G', le, sm', r⟩
  | .no, h => exact h
/-- how the body's end is the def's end -/
theorem sat_body {X : Cx} {G : Gh} {H : Hp} {K : PySem.W.Frag} {o : Out Fl} {Q : VK} {E : XK} (hK : X.K = K) (tk : Takes X (fun cls d _ H => E cls d H)) (h : spO K G H (fin o) Q E) :
    satS X G H o { nx := fun _ H' => Q .non H', rt := Q } := by
  subst hK
  match o, h with
  | .ok (.nx _) _, h => exact fun G' H' _ l s _ => h G' H' _ l s .non
  | .ok (.rt _) _, h => exact h
  | .ok (.bk _) _, h => exact h.elim
  | .ok (.ct _) _, h => exact h.elim
  | .ex _ _ _, h => exact tk.imp fun cls dd _ H' z => h cls dd H' z
  | .no, h => exact h.elim
section
variable {P : Program} {w : World} {K : PySem.W.Frag} {mg : Str → Option Value} {base : Heap} {x qual : Str} {st : Stmt} {kws : List (Str × V)} {f : Addr} {fd : FuncData} {N ps : List Str} {j : Nat} {b : MS}
theorem spF_len {np n : Nat} (hn : ps.length = np) : ∀ vs H Q E, spF K (dfn np n b) vs H Q E → vs.length = ps.length := fun vs H Q E ⟨ds, S, G, _, r, h⟩ => by
  by_cases q : ds.length = np
  · rw [r.length, q, hn]
  · unfold dfn at h
    rw [if_neg q] at h
    exact h.elim
theorem body_start {np n : Nat} {vs : List V} {H : Hp} {Q : VK} {E : XK} {X : Cx} (hK : X.K = K) (tk : Takes X (fun cls d _ H => E cls d H)) (hn : ps.length = np) (hN : N.length = n)
    (h : spF K (dfn np n b) vs H Q E) : tS X b { nx := fun _ H' => Q .non H', rt := Q } (start N vs) H := by
  have hl := spF_len (K := K) hn vs H Q E h
  obtain ⟨ds, S, G, sm, r, h⟩ := h
  have q : ds.length = np := by rw [← r.length, hl, hn]
  unfold dfn at h
  rw [if_pos q] at h
  refine ⟨_, S, G, by rw [hK]; exact sm, ?_, sat_body hK tk (spO_gc sm h)⟩
  unfold L2.start
  have e : N.length - vs.length = n - np := by rw [hN, hl, hn]
  rw [e, hK]
  exact Re.start r _
/-- THE RULE: a def by its body -/
theorem okF {np n : Nat} (F : FunD K x qual (defArgs st) (defBody st) (defScope st) [] kws f fd) (S : FnScope N ps (defScope st)) (hn : ps.length = np) (hN : N.length = n)
    (hb : ∀ (kV doc pm : Value) (an : Option Addr) (cdv ct : Value) (us : List Value), us.length = ps.length → bindArgs (PySem.W.fnOf x qual (defArgs st) (defBody st) (defScope st) .none kV doc pm an cdv ct) ⟨us, []⟩ = pure (ps.zip us))
    (hbody : ∀ (cdv : Value) (A : Around) (outer : List Env) (s : Shared) (H : Hp) (E : XK), Room j (A.deeper (envOfC qual (defScope st) s.heap.objs.size f cdv)) →
      QSs (cxOf (L2.CX P w) P w K mg base N qual (defScope st) f cdv A outer s H E) (defBody st) b) : FnF P w K mg base (j + 1) f (dfn np n b) := by
  have Fk : FnOk P w K mg base (L2.CX P w) (j + 1) f fd ps (spF K (dfn np n b)) := F.ok S (spF_len hn) fun cdv A outer s H vs Q E hr h =>
    ⟨_, hbody cdv A outer s H E hr, body_start rfl (takes_of rfl rfl rfl rfl) hn hN h⟩
  exact (Fk.raw (F.bindsN hb) .nil).imp fun vs H Q E h => by rw [List.append_nil]; exact h
/-- .. called where no repr is running -/
theorem okFG {np n : Nat} (F : FunD K x qual (defArgs st) (defBody st) (defScope st) [] kws f fd) (S : FnScope N ps (defScope st)) (hn : ps.length = np) (hN : N.length = n)
    (hb : ∀ (kV doc pm : Value) (an : Option Addr) (cdv ct : Value) (us : List Value), us.length = ps.length → bindArgs (PySem.W.fnOf x qual (defArgs st) (defBody st) (defScope st) .none kV doc pm an cdv ct) ⟨us, []⟩ = pure (ps.zip us))
    (hbody : ∀ (cdv : Value) (A : Around) (outer : List Env) (s : Shared) (H : Hp) (E : XK), A.guards = some [] → Room j (A.deeper (envOfC qual (defScope st) s.heap.objs.size f cdv)) →
      QSs (cxOf (L2.CX P w) P w K mg base N qual (defScope st) f cdv A outer s H E) (defBody st) b) : FnFG P w K mg base (j + 1) f (dfn np n b) := by
  have Fk : FnG P w K mg base (L2.CX P w) (j + 1) f fd ps (spF K (dfn np n b)) := okG F S (spF_len hn) fun cdv A outer s H vs Q E hg hr h =>
    ⟨_, hbody cdv A outer s H E hg hr, body_start rfl (takes_of rfl rfl rfl rfl) hn hN h⟩
  intro A outer s H us vs Q E hg hr e0 r h
  have hl : us.length = ps.length := r.length ▸ Fk.len _ _ _ _ h
  have bb := F.bindsN hb s us (e0.mod.kin.keeps fun b o e => (e0.bs b o e).1) (by simpa using hl)
  exact Fk.run A outer s H ⟨us, []⟩ us vs Q E hg hr e0 (by simpa using bb) r h
end
end PV
set_option Elab.async false
set_option linter.all false
set_option maxRecDepth 100000
set_option maxHeartbeats 4000000
namespace PV
open PySem PySem.Spec PyProof.Rows L2 ZL
/-! ### operations by values -/
abbrev G1 := D → Sto → Out D
abbrev G2 := D → D → Sto → Out D
def OpF (X : Cx) (f : Value → Value → Sem Value) (g : G2) : Prop := OpR X f (fun v w H Q => ∃ x y S G, Sm X.K G S H ∧ Rp X.K G x v ∧ Rp X.K G y w ∧ sat X (Rp X.K) G H (g x y S) Q)
def UnF (X : Cx) (f : Value → Sem Value) (g : G1) : Prop := UnR X f (fun v H Q => ∃ x S G, Sm X.K G S H ∧ Rp X.K G x v ∧ sat X (Rp X.K) G H (g x S) Q)
def CallF (X : Cx) (f : Value) (g : Fn) : Prop := CallR X f (fun vs H Q => ∃ ds S G, Sm X.K G S H ∧ Rps X.K G ds vs ∧ sat X (Rp X.K) G H (g ds S) Q)
def bin (g : G2) (a b : ME) : ME := fun ρ S => (a ρ S).bind fun x S1 => (b ρ S1).bind fun y S2 => g x y S2
def una (g : G1) (a : ME) : ME := fun ρ S => (a ρ S).bind fun x S1 => g x S1
def cal (g : Fn) (a : MA) : ME := fun ρ S => (a ρ S).bind fun ds S1 => g ds S1
/-- a op b op' c -/
def chn (g g' : G2) (a b c : ME) : ME := fun ρ S => (a ρ S).bind fun x S1 => (b ρ S1).bind fun y S2 => (g x y S2).bind fun z S3 => match z with
  | .bl true => (c ρ S3).bind fun u S4 => g' y u S4
  | .bl false => .ok (.bl false) S3
  | _ => .no
def isB (o : Out D) : Out Bool := o.bind fun d S => match d with
  | .bl b => .ok b S
  | _ => .no
section
variable {X : Cx} {a b c : Expr} {ma mb mc : ME} {g g' : G2} {pos : Pos}
theorem op2 {f : Value → Value → Sem Value} (ho : OpF X f g) {ta tb : TE} {ρ : Ev} {S : Sto} {G : Gh} {σ : L2.St} {H : Hp} {Q : VK} (sm : Sm X.K G S H) (re : Re X.K G ρ σ) (h : sat X (Rp X.K) G H (bin g ma mb ρ S) Q) :
    tOp (fun v w H Q => ∃ x y S G, Sm X.K G S H ∧ Rp X.K G x v ∧ Rp X.K G y w ∧ sat X (Rp X.K) G H (g x y S) Q) (tE X ma) (tE X mb) σ H Q := by
  refine ⟨ρ, S, G, sm, re, (sat.bind h).imp fun v H1 w => ?_⟩
  obtain ⟨x, S1, G1, le1, sm1, r1, q1⟩ := w
  refine ⟨ρ, S1, G1, sm1, re.mono le1.le, (sat.bind q1).imp fun v' H2 w => ?_⟩
  obtain ⟨y, S2, G2, le2, sm2, r2, q2⟩ := w
  exact ⟨x, y, S2, G2, sm2, r1.mono le2.le, r2, q2⟩
theorem qe_bin {op : Operator} (ho : OpF X (binaryOp op) g) (ha : QE X a ma) (hb : QE X b mb) : QE X (.BinOp a op b pos) (bin g ma mb) :=
  qe_of (pe_op ho ha hb) fun ρ S G σ H Q sm re h => op2 (ta := tE X ma) (tb := tE X mb) ho sm re h
theorem qe_cmp {op : CmpOp} (ho : OpF X (compareOp op) g) (ha : QE X a ma) (hb : QE X b mb) (hm : behindInMarks op b = false := by first | exact nomark _ | with_unfolding_all rfl) : QE X (.Compare a [op] [b] pos) (bin g ma mb) :=
  qe_of (pe_cmpR ho ha hb hm) fun ρ S G σ H Q sm re h => op2 (ta := tE X ma) (tb := tE X mb) ho sm re h
theorem sat_isB {G : Gh} {o : Out D} {Q : Bool → Hp → Prop} (h : sat X (fun _ a b => a = b) G H (isB o) Q) : sat X (Rp X.K) G H o (fun v H => ∃ c, v = .bl c ∧ Q c H) := by
  match o, h with
  | .ok (.bl c) S, h => exact fun G' H' v le sm r => by cases r; exact ⟨c, rfl, h G' H' c le sm rfl⟩
  | .ok .non _, h => exact h.elim
  | .ok (.int _) _, h => exact h.elim
  | .ok (.str _) _, h => exact h.elim
  | .ok (.tup _) _, h => exact h.elim
  | .ok (.lst _) _, h => exact h.elim
  | .ok (.obj _ _) _, h => exact h.elim
  | .ok (.loc _) _, h => exact h.elim
  | .ok (.cls _) _, h => exact h.elim
  | .ok (.fnc _) _, h => exact h.elim
  | .ok (.ty _) _, h => exact h.elim
  | .ok (.src _) _, h => exact h.elim
  | .ok .dic0 _, h => exact h.elim
  | .ex _ _ _, h => exact h
  | .no, h => exact h.elim
/-- a comparison as a test -/
def tst (m : ME) : MT := fun ρ S => isB (m ρ S)
theorem tst_bin {f : Value → Value → Sem Value} (ho : OpF X f g) {ρ : Ev} {S : Sto} {G : Gh} {σ : L2.St} {H : Hp} {Q : Bool → Hp → Prop} (sm : Sm X.K G S H) (re : Re X.K G ρ σ) (h : sat X (fun _ a b => a = b) G H (tst (bin g ma mb) ρ S) Q) :
    tTest (tOp (fun v w H Q => ∃ x y S G, Sm X.K G S H ∧ Rp X.K G x v ∧ Rp X.K G y w ∧ sat X (Rp X.K) G H (g x y S) Q) (tE X ma) (tE X mb)) σ H Q :=
  op2 (ta := tE X ma) (tb := tE X mb) ho sm re (sat_isB h)
theorem qt_cmp {op : CmpOp} (ho : OpF X (compareOp op) g) (ha : QE X a ma) (hb : QE X b mb) (hm : behindInMarks op b = false := by first | exact nomark _ | with_unfolding_all rfl) : QT X (.Compare a [op] [b] pos) (tst (bin g ma mb)) :=
  qt_of (pt_cmpR ho ha hb hm) fun ρ S G σ H Q sm re h => tst_bin ho sm re h
theorem chn_rd {f f' : Value → Value → Sem Value} (ho : OpF X f g) (ho' : OpF X f' g') {ρ : Ev} {S : Sto} {G : Gh} {σ : L2.St} {H : Hp} {Q : VK} (sm : Sm X.K G S H) (re : Re X.K G ρ σ) (h : sat X (Rp X.K) G H (chn g g' ma mb mc ρ S) Q) :
    tChain (fun v w H Q => ∃ x y S G, Sm X.K G S H ∧ Rp X.K G x v ∧ Rp X.K G y w ∧ sat X (Rp X.K) G H (g x y S) Q) (fun v w H Q => ∃ x y S G, Sm X.K G S H ∧ Rp X.K G x v ∧ Rp X.K G y w ∧ sat X (Rp X.K) G H (g' x y S) Q) (tE X ma) (tE X mb) (tE X mc) σ H Q := by
  refine ⟨ρ, S, G, sm, re, (sat.bind h).imp fun v H1 w => ?_⟩
  obtain ⟨x, S1, G1, le1, sm1, r1, q1⟩ := w
  refine ⟨ρ, S1, G1, sm1, re.mono le1.le, (sat.bind q1).imp fun v' H2 w => ?_⟩
  obtain ⟨y, S2, G2, le2, sm2, r2, q2⟩ := w
  refine ⟨x, y, S2, G2, sm2, r1.mono le2.le, r2, (sat.bind q2).imp fun v3 H3 w => ?_⟩
  obtain ⟨z, S3, G3, le3, sm3, r3, q3⟩ := w
  cases r3 with
  | bl k =>
    refine ⟨k, rfl, ?_⟩
    cases k with
    | true =>
      refine ⟨ρ, S3, G3, sm3, (re.mono le1.le).mono (le2.trans le3).le, (sat.bind q3).imp fun v4 H4 w => ?_⟩
      obtain ⟨u, S4, G4, le4, sm4, r4, q4⟩ := w
      exact ⟨y, u, S4, G4, sm4, (r2.mono le3.le).mono le4.le, r4, q4⟩
    | false => exact q3 G3 H3 _ .refl sm3 (.bl false)
  | _ => exact q3.elim
theorem qe_chn {op op' : CmpOp} (ho : OpF X (compareOp op) g) (ho' : OpF X (compareOp op') g') (ha : QE X a ma) (hb : QE X b mb) (hc : QE X c mc) (hm : lastMarks [op, op'] [b, c] = false := by with_unfolding_all rfl) : QE X (.Compare a [op, op'] [b, c] pos) (chn g g' ma mb mc) :=
  qe_of (pe_chain ho ho' ha hb hc hm) fun ρ S G σ H Q sm re h => chn_rd ho ho' sm re h
theorem qt_chn {op op' : CmpOp} (ho : OpF X (compareOp op) g) (ho' : OpF X (compareOp op') g') (ha : QE X a ma) (hb : QE X b mb) (hc : QE X c mc) (hm : lastMarks [op, op'] [b, c] = false := by with_unfolding_all rfl) : QT X (.Compare a [op, op'] [b, c] pos) (tst (chn g g' ma mb mc)) :=
  qt_of (pt_chain ho ho' ha hb hc hm) fun ρ S G σ H Q sm re h => chn_rd ho ho' sm re (sat_isB h)
theorem qe_un {op : UnaryOp} {g : G1} (ho : UnF X (unaryOp op) g) (ha : QE X a ma) : QE X (.UnaryOp op a pos) (una g ma) :=
  qe_of (pe_un ho ha) fun ρ S G σ H Q sm re h => by
    refine ⟨ρ, S, G, sm, re, (sat.bind h).imp fun v H1 w => ?_⟩
    obtain ⟨x, S1, G1, le1, sm1, r1, q1⟩ := w
    exact ⟨x, S1, G1, sm1, r1, q1⟩
end
/-! ### truth, and, or, not, if -/
def truD (d : D) : Option Bool := match d with
  | .non => some false
  | .bl b => some b
  | .int i => some (i != 0)
  | .str x => if x.length ≤ sizeLine then some ((x.length : Int) != 0) else none
  | .tup xs => some (!xs.isEmpty)
  | .lst xs => some (!xs.isEmpty)
  | _ => none
def tru (m : ME) : MT := fun ρ S => (m ρ S).bind fun d S1 => match truD d with
  | some b => .ok b S1
  | none => .no
def tNo (t : MT) : MT := fun ρ S => (t ρ S).bind fun c S1 => .ok (!c) S1
def tAn (t u : MT) : MT := fun ρ S => (t ρ S).bind fun c S1 => if c = true then u ρ S1 else .ok false S1
def tOr (t u : MT) : MT := fun ρ S => (t ρ S).bind fun c S1 => if c = true then .ok true S1 else u ρ S1
def ifE (t : MT) (a b : ME) : ME := fun ρ S => (t ρ S).bind fun c S1 => if c = true then a ρ S1 else b ρ S1
def anE (a b : ME) : ME := fun ρ S => (a ρ S).bind fun d S1 => match d with
  | .bl true => b ρ S1
  | .bl false => .ok (.bl false) S1
  | _ => .no
def orE (a b : ME) : ME := fun ρ S => (a ρ S).bind fun d S1 => match d with
  | .bl true => .ok (.bl true) S1
  | .bl false => b ρ S1
  | _ => .no
def noE (a : ME) : ME := fun ρ S => (a ρ S).bind fun d S1 => match d with
  | .bl b => .ok (.bl (!b)) S1
  | _ => .no
theorem Rps.isEmpty {K : PySem.W.Frag} {G : Gh} {xs : List D} {vs : List V} (h : Rps K G xs vs) : vs.isEmpty = xs.isEmpty := by cases h <;> rfl
section
variable {X : Cx} {a b c : Expr} {rest : List Expr} {ma mb : ME} {t u : MT} {pos : Pos}
theorem truV {G : Gh} {S : Sto} {H : Hp} {d : D} {v : V} {k : Bool} (sm : Sm X.K G S H) (r : Rp X.K G d v) (e : truD d = some k) : TruV X.K v H k := by
  cases r with
  | non => exact (Option.some.inj e).symm
  | bl b => exact (Option.some.inj e).symm
  | int i => exact (Option.some.inj e).symm
  | str x =>
    have e' : (if x.length ≤ sizeLine then some ((x.length : Int) != 0) else none) = some k := e
    by_cases q : x.length ≤ sizeLine
    · rw [if_pos q] at e'
      exact ⟨q, (Option.some.inj e').symm⟩
    · rw [if_neg q] at e'
      cases e'
  | tup h r => exact .inr (.inl ⟨_, SqT.mono h sm.fr, by rw [r.isEmpty]; exact (Option.some.inj e).symm⟩)
  | lst h r => exact .inl ⟨_, SqL.of (sm.fr _ _ h), by rw [r.isEmpty]; exact (Option.some.inj e).symm⟩
  | _ => cases e
theorem qt_tru (ha : QE X a ma) (he : ∀ whole, isTrue a X.env whole = (do let v ← whole; standAt a.pos; holding [v] (truthy v)) := by intro _; rfl) : QT X a (tru ma) :=
  qt_of (pt_truth ha he) fun ρ S G σ H Q sm re h => by
    refine ⟨ρ, S, G, sm, re, (sat.bind h).imp fun v H1 w => ?_⟩
    obtain ⟨d, S1, G1, le1, sm1, r1, q1⟩ := w
    match e : truD d, q1 with
    | some k, q1 => exact ⟨k, truV sm1 r1 e, q1 G1 H1 k .refl sm1 rfl⟩
    | none, q1 => exact q1.elim
theorem qt_not (h : QT X a t) : QT X (.UnaryOp .Not a pos) (tNo t) := qt_of (pt_not h) fun ρ S G σ H Q sm re h => by
  refine ⟨ρ, S, G, sm, re, (sat.bind h).imp fun v H1 w => ?_⟩
  obtain ⟨d, S1, G1, le1, sm1, r1, q1⟩ := w
  subst r1
  exact q1 G1 H1 _ .refl sm1 rfl
/-- and, or as tests: whatever the whole is -/
abbrev QW (X : Cx) (e : Expr) (m : MT) : Prop := PW X e (tT X m)
theorem qw_of {t : TT} {m : MT} {e : Expr} (h : PW X e t) (i : ∀ ρ S G σ H Q, Sm X.K G S H → Re X.K G ρ σ → sat X (fun _ a b => a = b) G H (m ρ S) Q → t σ H Q) : QW X e m :=
  ⟨fun wh pins s σ H Q I ⟨ρ, S, G, sm, re, q⟩ => h.run wh pins s σ H Q I (i ρ S G σ H Q sm re q)⟩
theorem qw_and1 (h : QT X a t) : QW X (.BoolOp .And [a] pos) t := pw_and1 h
theorem qw_or1 (h : QT X a t) : QW X (.BoolOp .Or [a] pos) t := pw_or1 h
theorem qw_and (h : QT X a t) (h' : QW X (.BoolOp .And (b :: rest) pos) u) : QW X (.BoolOp .And (a :: b :: rest) pos) (tAn t u) := qw_of (pw_and h h') fun ρ S G σ H Q sm re h => by
  refine ⟨ρ, S, G, sm, re, (sat.bind h).imp fun v H1 w => ?_⟩
  obtain ⟨d, S1, G1, le1, sm1, r1, q1⟩ := w
  subst r1
  cases d with
  | true => exact ⟨ρ, S1, G1, sm1, re.mono le1.le, q1⟩
  | false => exact q1 G1 H1 _ .refl sm1 rfl
theorem qw_or (h : QT X a t) (h' : QW X (.BoolOp .Or (b :: rest) pos) u) : QW X (.BoolOp .Or (a :: b :: rest) pos) (tOr t u) := qw_of (pw_or h h') fun ρ S G σ H Q sm re h => by
  refine ⟨ρ, S, G, sm, re, (sat.bind h).imp fun v H1 w => ?_⟩
  obtain ⟨d, S1, G1, le1, sm1, r1, q1⟩ := w
  subst r1
  cases d with
  | false => exact ⟨ρ, S1, G1, sm1, re.mono le1.le, q1⟩
  | true => exact q1 G1 H1 _ .refl sm1 rfl
theorem qt_w {e : Expr} (h : QW X e t) : QT X e t := h.pt
theorem qe_if {c : Expr} (hc : QT X c t) (ha : QE X a ma) (hb : QE X b mb) : QE X (.IfExp c a b pos) (ifE t ma mb) := qe_of (pe_ifExp hc ha hb) fun ρ S G σ H Q sm re h => by
  refine ⟨ρ, S, G, sm, re, (sat.bind h).imp fun v H1 w => ?_⟩
  obtain ⟨d, S1, G1, le1, sm1, r1, q1⟩ := w
  subst r1
  cases d with
  | true => exact ⟨ρ, S1, G1, sm1, re.mono le1.le, q1⟩
  | false => exact ⟨ρ, S1, G1, sm1, re.mono le1.le, q1⟩
theorem qe_one {op : BoolOp} (h : QE X a ma) : QE X (.BoolOp op [a] pos) ma := pe_one h
theorem qe_and (ha : QE X a ma) (hb : QE X (.BoolOp .And (b :: rest) pos) mb) : QE X (.BoolOp .And (a :: b :: rest) pos) (anE ma mb) := qe_of (pe_and ha hb) fun ρ S G σ H Q sm re h => by
  refine ⟨ρ, S, G, sm, re, (sat.bind h).imp fun v H1 w => ?_⟩
  obtain ⟨d, S1, G1, le1, sm1, r1, q1⟩ := w
  cases r1 with
  | bl k =>
    refine ⟨k, rfl, ?_⟩
    cases k with
    | true => exact ⟨ρ, S1, G1, sm1, re.mono le1.le, q1⟩
    | false => exact q1 G1 H1 _ .refl sm1 (.bl _)
  | _ => exact q1.elim
theorem qe_or (ha : QE X a ma) (hb : QE X (.BoolOp .Or (b :: rest) pos) mb) : QE X (.BoolOp .Or (a :: b :: rest) pos) (orE ma mb) := qe_of (pe_or ha hb) fun ρ S G σ H Q sm re h => by
  refine ⟨ρ, S, G, sm, re, (sat.bind h).imp fun v H1 w => ?_⟩
  obtain ⟨d, S1, G1, le1, sm1, r1, q1⟩ := w
  cases r1 with
  | bl k =>
    refine ⟨k, rfl, ?_⟩
    cases k with
    | false => exact ⟨ρ, S1, G1, sm1, re.mono le1.le, q1⟩
    | true => exact q1 G1 H1 _ .refl sm1 (.bl _)
  | _ => exact q1.elim
theorem qe_not (ha : QE X a ma) : QE X (.UnaryOp .Not a pos) (noE ma) := qe_of (pe_not ha) fun ρ S G σ H Q sm re h => by
  refine ⟨ρ, S, G, sm, re, (sat.bind h).imp fun v H1 w => ?_⟩
  obtain ⟨d, S1, G1, le1, sm1, r1, q1⟩ := w
  cases r1 with
  | bl k => exact ⟨k, rfl, q1 G1 H1 _ .refl sm1 (.bl _)⟩
  | _ => exact q1.elim
end
end PV
set_option Elab.async false
set_option linter.all false
set_option maxRecDepth 100000
set_option maxHeartbeats 4000000
namespace PV
open PySem PySem.Spec PyProof.Rows L2 ZL
/-! ### plain data -/
mutual
def toP : D → Option PyData
  | .non => some .none
  | .bl b => some (.bool b)
  | .int i => some (.int i)
  | .str x => some (.str x)
  | .tup xs => (toPs xs).map .tuple
  | .lst xs => (toPs xs).map .list
  | .src xs => (toPs xs).map .list
  | .dic0 => none
  | .obj _ _ => none
  | .loc _ => none
  | .cls _ => none
  | .fnc _ => none
  | .ty _ => none
def toPs : List D → Option (List PyData)
  | [] => some []
  | x :: xs => match toP x, toPs xs with
    | some p, some ps => some (p :: ps)
    | _, _ => none
end
section
variable {K : PySem.W.Frag} {G : Gh} {H : Hp}
mutual
theorem Rp.dp (e : ∀ a o, G.F a = some o → H a = some o) : ∀ (d : D) (v : V) (p : PyData), Rp K G d v → toP d = some p → Dp K H v p
  | .non, _, _, r, h => by cases r; cases h; exact .non
  | .bl _, _, _, r, h => by cases r; cases h; exact .bl _
  | .int _, _, _, r, h => by cases r; cases h; exact .int _
  | .str _, _, _, r, h => by cases r; cases h; exact .str _
  | .tup xs, _, _, r, h => by
    cases r with
    | tup q r =>
      unfold toP at h
      match hp : toPs xs, h with
      | some ps, h => cases h; exact .tup (SqT.mono q e) (Rps.dp e xs _ ps r hp)
      | none, h => cases h
  | .lst xs, _, _, r, h => by
    cases r with
    | lst q r =>
      unfold toP at h
      match hp : toPs xs, h with
      | some ps, h => cases h; exact .lst (SqL.of (e _ _ q)) (Rps.dp e xs _ ps r hp)
      | none, h => cases h
  | .src xs, _, _, r, h => by
    cases r with
    | src q r =>
      unfold toP at h
      match hp : toPs xs, h with
      | some ps, h => cases h; exact .lst (SqL.mono q e) (Rps.dp e xs _ ps r hp)
      | none, h => cases h
  | .obj _ _, _, _, _, h => by simp [toP] at h
  | .dic0, _, _, _, h => by simp [toP] at h
  | .loc _, _, _, _, h => by simp [toP] at h
  | .cls _, _, _, _, h => by simp [toP] at h
  | .fnc _, _, _, _, h => by simp [toP] at h
  | .ty _, _, _, _, h => by simp [toP] at h
theorem Rps.dp (e : ∀ a o, G.F a = some o → H a = some o) : ∀ (xs : List D) (vs : List V) (ps : List PyData), Rps K G xs vs → toPs xs = some ps → DpAll K H vs ps
  | [], _, _, r, h => by cases r; cases h; exact .nil
  | x :: xs, _, _, r, h => by
    cases r with
    | cons r1 r2 =>
      unfold toPs at h
      match h1 : toP x, h2 : toPs xs, h with
      | some p, some ps, h => cases h; exact .cons (Rp.dp e x _ p r1 h1) (Rps.dp e xs _ ps r2 h2)
      | none, some _, h => cases h
      | none, none, h => cases h
      | some _, none, h => cases h
end
end
/-- x == y of plain data -/
def eqP (x y : D) : Option Bool := match toP x, toP y with
  | some p, some q => if SeqAt.shaped p = true ∧ SeqAt.shaped q = true then some (PyData.eqv p q) else none
  | _, _ => none
def eqD (x y : D) : Option Bool := match x, y with
  | .str a, .str b => some (decide (a = b))
  | x, y => eqP x y
def eqG (neg : Bool) : G2 := fun x y S => match eqD x y with
  | some b => .ok (.bl (neg ^^ b)) S
  | none => .no
theorem eqP_some {x y : D} {b : Bool} (h : eqP x y = some b) : ∃ p q, toP x = some p ∧ toP y = some q ∧ SeqAt.shaped p = true ∧ SeqAt.shaped q = true ∧ b = PyData.eqv p q := by
  unfold eqP at h
  match h1 : toP x, h2 : toP y, h with
  | some p, some q, h =>
    simp only at h
    by_cases c : SeqAt.shaped p = true ∧ SeqAt.shaped q = true
    · rw [if_pos c] at h
      exact ⟨p, q, rfl, rfl, c.1, c.2, (Option.some.inj h).symm⟩
    · rw [if_neg c] at h
      cases h
  | none, _, h => cases h
  | some _, none, h => cases h
section
variable {X : Cx}
theorem dec_strV {a b : Str} : decide (V.str a = V.str b) = decide (a = b) := by
  rw [Bool.eq_iff_iff]
  simp
theorem of_eq (hu : X.A.units + 64 < cLine) : OpF X (compareOp .Eq) (eqG false) := fun pins s σ H v w u u' Q I rv rw' ⟨x, y, S, G, sm, rx, ry, h⟩ => by
  unfold eqG at h
  match e : eqD x y, h with
  | some b, h =>
    unfold eqD at e
    split at e
    · cases rx
      cases ry
      cases e
      exact op_eq pins s σ H _ _ u u' Q I rv rw' ⟨rfl, h G H _ .refl sm (by rw [dec_strV, Bool.false_xor]; exact .bl _)⟩
    · obtain ⟨p, q, h1, h2, h3, h4, rfl⟩ := eqP_some e
      exact op_eqD hu pins s σ H v w u u' Q I rv rw' ⟨p, q, Rp.dp sm.fr x v p rx h1, Rp.dp sm.fr y w q ry h2, h3, h4, h G H _ .refl sm (by rw [Bool.false_xor]; exact .bl _)⟩
  | none, h => exact h.elim
theorem of_ne (hu : X.A.units + 64 < cLine) : OpF X (compareOp .NotEq) (eqG true) := fun pins s σ H v w u u' Q I rv rw' ⟨x, y, S, G, sm, rx, ry, h⟩ => by
  unfold eqG at h
  match e : eqD x y, h with
  | some b, h =>
    unfold eqD at e
    split at e
    · cases rx
      cases ry
      cases e
      exact op_ne pins s σ H _ _ u u' Q I rv rw' ⟨rfl, h G H _ .refl sm (by rw [dec_strV, Bool.true_xor]; exact .bl _)⟩
    · obtain ⟨p, q, h1, h2, h3, h4, rfl⟩ := eqP_some e
      exact op_neD hu pins s σ H v w u u' Q I rv rw' ⟨p, q, Rp.dp sm.fr x v p rx h1, Rp.dp sm.fr y w q ry h2, h3, h4, h G H _ .refl sm (by rw [Bool.true_xor]; exact .bl _)⟩
  | none, h => exact h.elim
end
/-! ### order of ints, of texts -/
def strLt (a b : Str) : Bool := decide (a.cps.toList < b.cps.toList)
def ltG : G2 := fun x y S => match x, y with
  | .int i, .int j => .ok (.bl (decide (i < j))) S
  | .str a, .str b => .ok (.bl (strLt a b)) S
  | _, _ => .no
def leG : G2 := fun x y S => match x, y with
  | .int i, .int j => .ok (.bl (decide (i ≤ j))) S
  | .str a, .str b => .ok (.bl (!strLt b a)) S
  | _, _ => .no
def gtG : G2 := fun x y S => match x, y with
  | .int i, .int j => .ok (.bl (decide (j < i))) S
  | .str a, .str b => .ok (.bl (strLt b a)) S
  | _, _ => .no
def geG : G2 := fun x y S => match x, y with
  | .int i, .int j => .ok (.bl (decide (j ≤ i))) S
  | .str a, .str b => .ok (.bl (!strLt a b)) S
  | _, _ => .no
section
variable {X : Cx}
theorem of_lt : OpF X (compareOp .Lt) ltG := fun pins s σ H v w u u' Q I rv rw' ⟨x, y, S, G, sm, rx, ry, h⟩ => by
  unfold ltG at h
  split at h
  · cases rx; cases ry; exact op_lt pins s σ H _ _ u u' Q I rv rw' ⟨_, _, rfl, rfl, h G H _ .refl sm (.bl _)⟩
  · cases rx; cases ry; exact op_lt_str pins s σ H _ _ u u' Q I rv rw' ⟨_, _, rfl, rfl, h G H _ .refl sm (.bl _)⟩
  · exact h.elim
theorem of_le : OpF X (compareOp .LtE) leG := fun pins s σ H v w u u' Q I rv rw' ⟨x, y, S, G, sm, rx, ry, h⟩ => by
  unfold leG at h
  split at h
  · cases rx; cases ry; exact op_le pins s σ H _ _ u u' Q I rv rw' ⟨_, _, rfl, rfl, h G H _ .refl sm (.bl _)⟩
  · cases rx; cases ry; exact op_le_str pins s σ H _ _ u u' Q I rv rw' ⟨_, _, rfl, rfl, h G H _ .refl sm (.bl _)⟩
  · exact h.elim
theorem of_gt : OpF X (compareOp .Gt) gtG := fun pins s σ H v w u u' Q I rv rw' ⟨x, y, S, G, sm, rx, ry, h⟩ => by
  unfold gtG at h
  split at h
  · cases rx; cases ry; exact op_gt pins s σ H _ _ u u' Q I rv rw' ⟨_, _, rfl, rfl, h G H _ .refl sm (.bl _)⟩
  · cases rx; cases ry; exact op_gt_str pins s σ H _ _ u u' Q I rv rw' ⟨_, _, rfl, rfl, h G H _ .refl sm (.bl _)⟩
  · exact h.elim
theorem of_ge : OpF X (compareOp .GtE) geG := fun pins s σ H v w u u' Q I rv rw' ⟨x, y, S, G, sm, rx, ry, h⟩ => by
  unfold geG at h
  split at h
  · cases rx; cases ry; exact op_ge pins s σ H _ _ u u' Q I rv rw' ⟨_, _, rfl, rfl, h G H _ .refl sm (.bl _)⟩
  · cases rx; cases ry; exact op_ge_str pins s σ H _ _ u u' Q I rv rw' ⟨_, _, rfl, rfl, h G H _ .refl sm (.bl _)⟩
  · exact h.elim
end
/-! ### is None -/
def isNon : D → Bool
  | .non => true
  | _ => false
def isG (neg : Bool) : G2 := fun x y S => match y with
  | .non => .ok (.bl (neg ^^ isNon x)) S
  | _ => .no
theorem isNon_rp {K : PySem.W.Frag} {G : Gh} {d : D} {v : V} (r : Rp K G d v) : decide (v = .non) = isNon d := by cases r <;> simp [isNon]
section
variable {X : Cx}
theorem of_is : OpF X (compareOp .Is) (isG false) := fun pins s σ H v w u u' Q I rv rw' ⟨x, y, S, G, sm, rx, ry, h⟩ => by
  unfold isG at h
  split at h
  · cases ry; exact op_isN pins s σ H _ _ u u' Q I rv rw' ⟨rfl, h G H _ .refl sm (by rw [isNon_rp rx, Bool.false_xor]; exact .bl _)⟩
  · exact h.elim
theorem of_isnot : OpF X (compareOp .IsNot) (isG true) := fun pins s σ H v w u u' Q I rv rw' ⟨x, y, S, G, sm, rx, ry, h⟩ => by
  unfold isG at h
  split at h
  · cases ry; exact op_notN pins s σ H _ _ u u' Q I rv rw' ⟨rfl, h G H _ .refl sm (by rw [isNon_rp rx, Bool.true_xor]; exact .bl _)⟩
  · exact h.elim
end
/-! ### in -/
def strIn (a b : Str) : Bool := !(Builtin.Str.occurrences b a 0 b.length 1).isEmpty
def inD (x y : D) : Option Bool := match y with
  | .str b => match x with
    | .str a => some (strIn a b)
    | _ => none
  | .tup ys => match toP x, toPs ys with
    | some p, some qs => if flat p = true ∧ qs.all flat = true then some (qs.any fun q => PyData.eqv q p) else none
    | _, _ => none
  | .lst ys => match toP x, toPs ys with
    | some p, some qs => if SeqAt.shaped p = true ∧ SeqAt.shaped (.list qs) = true then some (qs.any fun q => PyData.eqv q p) else none
    | _, _ => none
  | _ => none
where flat : PyData → Bool
  | .none => true
  | .bool _ => true
  | .int _ => true
  | .str _ => true
  | _ => false
def inG (neg : Bool) : G2 := fun x y S => match inD x y with
  | some b => .ok (.bl (neg ^^ b)) S
  | none => .no
section
variable {K : PySem.W.Frag} {G : Gh} {H : Hp}
theorem dp_flat {v : V} {p : PyData} (h : Dp K H v p) (f : inD.flat p = true) : flatV v = true := by cases h <;> first | rfl | cases f
theorem dp_eqV {v w : V} {p q : PyData} (h : Dp K H v p) (h' : Dp K H w q) (f : inD.flat p = true) (f' : inD.flat q = true) : eqV v w = PyData.eqv p q := by
  cases h <;> cases h' <;> first | rfl | (cases f; done) | (cases f'; done) | simp [eqV, PyData.eqv]
theorem dpAll_flat : ∀ {vs : List V} {ps : List PyData}, DpAll K H vs ps → ps.all inD.flat = true → vs.all flatV = true
  | _, _, .nil, _ => rfl
  | _, _, .cons a b, f => by
    rw [List.all_cons, Bool.and_eq_true] at f
    rw [List.all_cons, Bool.and_eq_true]
    exact ⟨dp_flat a f.1, dpAll_flat b f.2⟩
theorem dpAll_any {v : V} {p : PyData} (h : Dp K H v p) (fp : inD.flat p = true) : ∀ {vs : List V} {ps : List PyData}, DpAll K H vs ps → ps.all inD.flat = true → inV v vs = ps.any fun q => PyData.eqv q p
  | _, _, .nil, _ => rfl
  | _, _, .cons a b, f => by
    rw [List.all_cons, Bool.and_eq_true] at f
    unfold inV
    rw [List.any_cons, List.any_cons, dp_eqV a h f.1 fp]
    exact congrArg _ (dpAll_any h fp b f.2)
end
theorem in_cases {X : Cx} {x y : D} {b : Bool} {G : Gh} {S : Sto} {H : Hp} {v w : V} (e : inD x y = some b) (sm : Sm X.K G S H) (rx : Rp X.K G x v) (ry : Rp X.K G y w) :
    (∃ i j, v = .str i ∧ w = .str j ∧ b = !(Builtin.Str.occurrences j i 0 j.length 1).isEmpty) ∨
    (∃ p xs, w = .ref p ∧ (SqL X.K H p xs ∨ SqT X.K H p xs) ∧ flatV v = true ∧ xs.all flatV = true ∧ b = inV v xs) ∨
    ∃ d ds, Dp X.K H v d ∧ Dp X.K H w (.list ds) ∧ SeqAt.shaped d = true ∧ SeqAt.shaped (.list ds) = true ∧ b = ds.any fun z => PyData.eqv z d := by
  unfold inD at e
  split at e
  · split at e
    · cases rx; cases ry
      exact .inl ⟨_, _, rfl, rfl, (Option.some.inj e).symm⟩
    · cases e
  · rename_i ys
    match h1 : toP x, h2 : toPs ys, e with
    | some p, some qs, e =>
      simp only at e
      by_cases c : inD.flat p = true ∧ qs.all inD.flat = true
      · rw [if_pos c] at e
        cases ry with
        | tup h r =>
          have dx := Rp.dp sm.fr x v p rx h1
          have dy := Rps.dp sm.fr ys _ qs r h2
          exact .inr (.inl ⟨_, _, rfl, .inr (SqT.mono h sm.fr), dp_flat dx c.1, dpAll_flat dy c.2, by rw [dpAll_any dx c.1 dy c.2]; exact (Option.some.inj e).symm⟩)
      · rw [if_neg c] at e
        cases e
    | none, _, e => cases e
    | some _, none, e => cases e
  · rename_i ys
    match h1 : toP x, h2 : toPs ys, e with
    | some p, some qs, e =>
      simp only at e
      by_cases c : SeqAt.shaped p = true ∧ SeqAt.shaped (.list qs) = true
      · rw [if_pos c] at e
        cases ry with
        | lst h r =>
          exact .inr (.inr ⟨p, qs, Rp.dp sm.fr x v p rx h1, .lst (SqL.of (sm.fr _ _ h)) (Rps.dp sm.fr ys _ qs r h2), c.1, c.2, (Option.some.inj e).symm⟩)
      · rw [if_neg c] at e
        cases e
    | none, _, e => cases e
    | some _, none, e => cases e
  · cases e
section
variable {X : Cx}
theorem of_in (hu : X.A.units + 65 < cLine) : OpF X (compareOp .In) (inG false) := fun pins s σ H v w u u' Q I rv rw' ⟨x, y, S, G, sm, rx, ry, h⟩ => by
  unfold inG at h
  match e : inD x y, h with
  | some b, h =>
    have q : Q (.bl b) H := h G H _ .refl sm (by rw [Bool.false_xor]; exact .bl _)
    rcases in_cases e sm rx ry with ⟨i, j, rfl, rfl, rfl⟩ | ⟨p, xs, rfl, h1, h2, h3, rfl⟩ | ⟨d, ds, h1, h2, h3, h4, rfl⟩
    · exact op_in_str pins s σ H _ _ u u' Q I rv rw' ⟨i, j, rfl, rfl, q⟩
    · exact op_in_seq pins s σ H _ _ u u' Q I rv rw' ⟨p, xs, rfl, h1, h2, h3, q⟩
    · exact op_inD hu pins s σ H _ _ u u' Q I rv rw' ⟨d, ds, h1, h2, h3, h4, q⟩
  | none, h => exact h.elim
theorem of_notin (hu : X.A.units + 65 < cLine) : OpF X (compareOp .NotIn) (inG true) := fun pins s σ H v w u u' Q I rv rw' ⟨x, y, S, G, sm, rx, ry, h⟩ => by
  unfold inG at h
  match e : inD x y, h with
  | some b, h =>
    have q : Q (.bl (!b)) H := h G H _ .refl sm (by rw [Bool.true_xor]; exact .bl _)
    rcases in_cases e sm rx ry with ⟨i, j, rfl, rfl, rfl⟩ | ⟨p, xs, rfl, h1, h2, h3, rfl⟩ | ⟨d, ds, h1, h2, h3, h4, rfl⟩
    · exact op_notin_str pins s σ H _ _ u u' Q I rv rw' ⟨i, j, rfl, rfl, q⟩
    · exact op_notIn_seq pins s σ H _ _ u u' Q I rv rw' ⟨p, xs, rfl, h1, h2, h3, q⟩
    · exact op_notInD hu pins s σ H _ _ u u' Q I rv rw' ⟨d, ds, h1, h2, h3, h4, q⟩
  | none, h => exact h.elim
end
/-! ### arithmetic, putting together -/
def fits (a b : Nat) : Bool := decide (a + b ≤ sizeLine)
def addG : G2 := fun x y S => match x, y with
  | .int i, .int j => .ok (.int (i + j)) S
  | .str a, .str b => if fits a.length b.length = true then .ok (.str (a ++ b)) S else .no
  | .lst a, .lst b => if fits a.length b.length = true then .ok (.lst (a ++ b)) S else .no
  | .tup a, .tup b => if fits a.length b.length = true then .ok (.tup (a ++ b)) S else .no
  | _, _ => .no
def subG : G2 := fun x y S => match x, y with
  | .int i, .int j => .ok (.int (i - j)) S
  | _, _ => .no
def mulOk (i j : Int) : Bool := decide (-(2 ^ 64) < i ∧ i < 2 ^ 64) || decide (-(2 ^ 64) < j ∧ j < 2 ^ 64) || decide (i.natAbs.log2 + j.natAbs.log2 < 1000000)
def repOk (n : Nat) (k : Int) : Bool := decide (-(2 ^ 63) ≤ k) && decide (k < 2 ^ 63) && decide (n * k.toNat ≤ sizeLine)
def mulG : G2 := fun x y S => match x, y with
  | .int i, .int j => if mulOk i j = true then .ok (.int (i * j)) S else .no
  | .lst a, .int k => if repOk a.length k = true then .ok (.lst (List.replicate k.toNat a).flatten) S else .no
  | _, _ => .no
def divOk (j : Int) : Bool := decide (0 < j) && decide (j.natAbs.log2 < 9000)
def fdivG : G2 := fun x y S => match x, y with
  | .int i, .int j => if divOk j = true then .ok (.int (i / j)) S else .no
  | _, _ => .no
def modG : G2 := fun x y S => match x, y with
  | .int i, .int j => if 0 < j then .ok (.int (i % j)) S else .no
  | _, _ => .no
def powOk (i j : Int) : Bool := decide (0 ≤ j) && decide (j ≤ 1000000) && decide (i.natAbs < 2 ^ 64)
def powG : G2 := fun x y S => match x, y with
  | .int i, .int j => if powOk i j = true then .ok (.int (i ^ j.toNat)) S else .no
  | _, _ => .no
theorem Rps.flat {K : PySem.W.Frag} {G : Gh} {xs : List D} {vs : List V} (r : Rps K G xs vs) : ∀ n : Nat, Rps K G (List.replicate n xs).flatten (List.replicate n vs).flatten
  | 0 => .nil
  | n + 1 => r.append (Rps.flat r n)
section
variable {X : Cx}
theorem new_lst {G : Gh} {S : Sto} {H : Hp} {p : Addr} {xs : List D} {vs : List V} {Q : VK} (sm : Sm X.K G S H) (hp : H p = none) (r : Rps X.K G xs vs) (h : sat X (Rp X.K) G H (.ok (.lst xs) S) Q) : Q (.ref p) (upd H p (.lst vs)) :=
  h _ _ _ (Stp.put sm hp) (sm.put hp) (.lst upd_same (r.mono (Gh.put_le (sm.free hp))))
theorem new_tup {G : Gh} {S : Sto} {H : Hp} {p : Addr} {xs : List D} {vs : List V} {Q : VK} (sm : Sm X.K G S H) (hp : H p = none) (r : Rps X.K G xs vs) (h : sat X (Rp X.K) G H (.ok (.tup xs) S) Q) : Q (.ref p) (upd H p (.tup vs)) :=
  h _ _ _ (Stp.put sm hp) (sm.put hp) (.tup (SqT.of upd_same) (r.mono (Gh.put_le (sm.free hp))))
theorem of_add : OpF X (binaryOp .Add) addG := fun pins s σ H v w u u' Q I rv rw' ⟨x, y, S, G, sm, rx, ry, h⟩ => by
  unfold addG at h
  split at h
  · cases rx; cases ry; exact op_add pins s σ H _ _ u u' Q I rv rw' ⟨_, _, rfl, rfl, h G H _ .refl sm (.int _)⟩
  · split at h
    · rename_i c
      cases rx; cases ry; exact op_add_str pins s σ H _ _ u u' Q I rv rw' ⟨_, _, rfl, rfl, of_decide_eq_true c, h G H _ .refl sm (.str _)⟩
    · exact h.elim
  · split at h
    · rename_i c
      cases rx with
      | lst h1 r1 =>
        cases ry with
        | lst h2 r2 =>
          refine op_cat pins s σ H _ _ u u' Q I rv rw' ⟨_, _, _, _, rfl, rfl, sm.fr _ _ h1, sm.fr _ _ h2, ?_, fun p hp => ?_⟩
          · rw [r1.length, r2.length]
            exact of_decide_eq_true c
          · exact new_lst sm hp (r1.append r2) h
    · exact h.elim
  · split at h
    · rename_i c
      cases rx with
      | tup h1 r1 =>
        cases ry with
        | tup h2 r2 =>
          refine op_catA pins s σ H _ _ u u' Q I rv rw' ⟨_, _, _, _, rfl, rfl, SqT.mono h1 sm.fr, SqT.mono h2 sm.fr, ?_, fun e => ?_, fun _ e => ?_, fun _ _ p hp => ?_⟩
          · rw [r1.length, r2.length]
            exact of_decide_eq_true c
          · subst e
            cases r1
            exact h G H _ .refl sm (.tup h2 r2)
          · subst e
            cases r2
            rw [List.append_nil] at h
            exact h G H _ .refl sm (.tup h1 r1)
          · exact new_tup sm hp (r1.append r2) h
    · exact h.elim
  · exact h.elim
theorem of_sub : OpF X (binaryOp .Sub) subG := fun pins s σ H v w u u' Q I rv rw' ⟨x, y, S, G, sm, rx, ry, h⟩ => by
  unfold subG at h
  split at h
  · cases rx; cases ry; exact op_sub pins s σ H _ _ u u' Q I rv rw' ⟨_, _, rfl, rfl, h G H _ .refl sm (.int _)⟩
  · exact h.elim
theorem of_mul : OpF X (binaryOp .Mult) mulG := fun pins s σ H v w u u' Q I rv rw' ⟨x, y, S, G, sm, rx, ry, h⟩ => by
  unfold mulG at h
  split at h
  · split at h
    · rename_i c
      cases rx; cases ry
      unfold mulOk at c
      rw [Bool.or_eq_true, Bool.or_eq_true] at c
      rcases c with (c | c) | c
      · exact op_mul pins s σ H _ _ u u' Q I rv rw' ⟨_, _, rfl, rfl, .inl (of_decide_eq_true c), h G H _ .refl sm (.int _)⟩
      · exact op_mul pins s σ H _ _ u u' Q I rv rw' ⟨_, _, rfl, rfl, .inr (of_decide_eq_true c), h G H _ .refl sm (.int _)⟩
      · exact op_mulW pins s σ H _ _ u u' Q I rv rw' ⟨_, _, rfl, rfl, (of_decide_eq_true c : _ < 1000000), h G H _ .refl sm (.int _)⟩
    · exact h.elim
  · split at h
    · rename_i c
      unfold repOk at c
      rw [Bool.and_eq_true, Bool.and_eq_true] at c
      cases rx with
      | lst h1 r1 =>
        cases ry
        refine op_rep pins s σ H _ _ u u' Q I rv rw' ⟨_, _, _, rfl, rfl, sm.fr _ _ h1, of_decide_eq_true c.1.1, of_decide_eq_true c.1.2, ?_, fun p hp => ?_⟩
        · rw [r1.length]
          exact of_decide_eq_true c.2
        · exact new_lst sm hp (r1.flat _) h
    · exact h.elim
  · exact h.elim
theorem of_fdiv : OpF X (binaryOp .FloorDiv) fdivG := fun pins s σ H v w u u' Q I rv rw' ⟨x, y, S, G, sm, rx, ry, h⟩ => by
  unfold fdivG at h
  split at h
  · split at h
    · rename_i c
      unfold divOk at c
      rw [Bool.and_eq_true] at c
      cases rx; cases ry; exact op_fdivW pins s σ H _ _ u u' Q I rv rw' ⟨_, _, rfl, rfl, ⟨of_decide_eq_true c.1, of_decide_eq_true c.2⟩, h G H _ .refl sm (.int _)⟩
    · exact h.elim
  · exact h.elim
theorem of_mod : OpF X (binaryOp .Mod) modG := fun pins s σ H v w u u' Q I rv rw' ⟨x, y, S, G, sm, rx, ry, h⟩ => by
  unfold modG at h
  split at h
  · split at h
    · rename_i c
      cases rx; cases ry; exact op_mod pins s σ H _ _ u u' Q I rv rw' ⟨_, _, rfl, rfl, c, h G H _ .refl sm (.int _)⟩
    · exact h.elim
  · exact h.elim
theorem of_pow : OpF X (binaryOp .Pow) powG := fun pins s σ H v w u u' Q I rv rw' ⟨x, y, S, G, sm, rx, ry, h⟩ => by
  unfold powG at h
  split at h
  · split at h
    · rename_i c
      unfold powOk at c
      rw [Bool.and_eq_true, Bool.and_eq_true] at c
      cases rx; cases ry; exact op_pow pins s σ H _ _ u u' Q I rv rw' ⟨_, _, rfl, rfl, ⟨of_decide_eq_true c.1.1, of_decide_eq_true c.1.2, of_decide_eq_true c.2⟩, h G H _ .refl sm (.int _)⟩
    · exact h.elim
  · exact h.elim
def negG : G1 := fun x S => match x with
  | .int i => .ok (.int (-i)) S
  | _ => .no
theorem of_neg : UnF X (unaryOp .USub) negG := fun pins s σ H v u Q I rv ⟨x, S, G, sm, rx, h⟩ => by
  unfold negG at h
  split at h
  · cases rx; exact un_neg pins s σ H _ u Q I rv ⟨_, rfl, h G H _ .refl sm (.int _)⟩
  · exact h.elim
end
end PV
set_option Elab.async false
set_option linter.all false
set_option maxRecDepth 100000
set_option maxHeartbeats 4000000
namespace PV
open PySem PySem.Spec PyProof.Rows L2 ZL
/-! ### names as texts -/
theorem ofS_inj {a b : String} (h : Str.ofString a = Str.ofString b) : a = b := by
  rw [Str.ofString_eq_toList, Str.ofString_eq_toList] at h
  have h1 : (a.toList.map Char.toNat).toArray = (b.toList.map Char.toNat).toArray := congrArg Str.cps h
  have h2 : a.toList.map Char.toNat = b.toList.map Char.toNat := by simpa using congrArg Array.toList h1
  have inj : ∀ (x y : List Char), x.map Char.toNat = y.map Char.toNat → x = y := by
    intro x
    induction x with
    | nil => intro y e; cases y with | nil => rfl | cons _ _ => simp at e
    | cons c x ih =>
      intro y e
      cases y with
      | nil => simp at e
      | cons d y =>
        simp only [List.map_cons, List.cons.injEq] at e
        rw [Char.toNat_inj.mp e.1, ih y e.2]
  exact String.toList_inj.mp (inj _ _ h2)
section
variable {K : PySem.W.Frag} {G : Gh}
theorem Rpf.at {fs : List (String × D)} {ws : List (Str × V)} {n : String} {d : D} (h : Rpf K G fs ws) (e : fs.lookup n = some d) : ∃ v, ws.lookup (Str.ofString n) = some v ∧ Rp K G d v := h.get e fun _ _ z => ofS_inj z
theorem Rpf.gone {fs : List (String × D)} {ws : List (Str × V)} {n : String} (h : Rpf K G fs ws) (e : fs.lookup n = none) : ws.lookup (Str.ofString n) = none := by
  induction fs generalizing ws with
  | nil => cases h; rfl
  | cons x xs ih =>
    cases h with
    | @cons m d' v' _ ws' a b =>
      by_cases hm : n = m
      · subst hm
        simp at e
      · have h1 : (n == m) = false := by simpa using hm
        rw [List.lookup_cons, h1] at e
        have h2 : (Str.ofString n == Str.ofString m) = false := beq_eq_false_iff_ne.mpr fun z => hm (ofS_inj z)
        rw [List.lookup_cons, h2]
        exact ih b e
theorem Rpf.length {fs : List (String × D)} {ws : List (Str × V)} (h : Rpf K G fs ws) : ws.length = fs.length := by
  induction fs generalizing ws with
  | nil => cases h; rfl
  | cons x xs ih => cases h with | cons a b => simp [ih b]
def putD (f : String) (d : D) : List (String × D) → List (String × D)
  | [] => [(f, d)]
  | (g, x) :: r => if g = f then (g, d) :: r else (g, x) :: putD f d r
theorem Rpf.put {fs : List (String × D)} {ws : List (Str × V)} {n : String} {d : D} {v : V} (h : Rpf K G fs ws) (r : Rp K G d v) : Rpf K G (putD n d fs) (putF (Str.ofString n) v ws) := by
  induction fs generalizing ws with
  | nil => cases h; exact .cons r .nil
  | cons x xs ih =>
    cases h with
    | @cons m d' v' _ ws' a b =>
      by_cases hm : m = n
      · subst hm
        show Rpf K G (if m = m then (m, d) :: xs else _) (if Str.ofString m = Str.ofString m then (Str.ofString m, v) :: ws' else _)
        rw [if_pos rfl, if_pos rfl]
        exact .cons r b
      · show Rpf K G (if m = n then _ else (m, d') :: putD n d xs) (if Str.ofString m = Str.ofString n then _ else (Str.ofString m, v') :: putF (Str.ofString n) v ws')
        rw [if_neg hm, if_neg fun z => hm (ofS_inj z)]
        exact .cons a (ih b)
end
/-! ### what a call may let out -/
def Est (X : Cx) : XK := fun cls dd H' => ∃ G H c fs S', Takes X (fun cls dd _ H' => wEx X.K G H c fs S' cls dd H') ∧ wEx X.K G H c fs S' cls dd H'
theorem passE {X : Cx} : Passes (L2.CX X.prog X.w) X (Est X) := fun pins σ H s e s' I c => by
  obtain ⟨a, B, H', cls, d, rfl, fl, hok, ub, na, os, ag, G, H0, n, fs, S', tk, w⟩ := c
  exact passes_call tk (fun _ _ _ _ h => h) pins σ H s _ s' I ⟨a, B, H', cls, d, rfl, fl, hok, ub, na, os, ag, w⟩
theorem sat_sp {X : Cx} {G : Gh} {H : Hp} {o : Out D} {Q : VK} (h : sat X (Rp X.K) G H o Q) : spO X.K G H o Q (Est X) := by
  match o, h with
  | .ok _ _, h => exact h
  | .ex c fs S', h => exact fun cls dd H' w => ⟨G, H, c, fs, S', h, w⟩
  | .no, h => exact h
/-! ### f(..) -/
section
variable {X : Cx} {j : Nat} {f : Addr} {F : Fn} {x : Str} {e : Expr} {es : List Expr} {ms : MA} {p pos : Pos}
theorem cal_rd {ρ : Ev} {S : Sto} {G : Gh} {σ : L2.St} {H : Hp} {Q : VK} (sm : Sm X.K G S H) (re : Re X.K G ρ σ) (h : sat X (Rp X.K) G H (cal F ms ρ S) Q) : tA X ms σ H (fun vs H1 => spF X.K F vs H1 Q (Est X)) := by
  refine ⟨ρ, S, G, sm, re, (sat.bind h).imp fun vs H1 w => ?_⟩
  obtain ⟨ds, S1, G1, le1, sm1, r1, q1⟩ := w
  exact ⟨ds, S1, G1, sm1, r1, sat_sp q1⟩
theorem qe_callG (Ff : FnFG X.prog X.w X.K X.mg X.base j f F) (hgd : X.A.guards = some []) (hr : Room j X.A) (hm : X.mg x = some (.ref f)) (hk : PySem.W.keepIn X.K (.ref f) = true) (ha : QA X (e :: es) ms) (hg : Gl X x := by rfl) (hdb : (x == ("__debug__" : Str)) = false := by decide)
    (he : starEach (e :: es) X.env = (false, eval e X.env) :: starEach es X.env := by rfl) (hpl : (backTo pos (starEach es X.env)).any (·.1) = false := by rfl) : QE X (.Call (.Name x p) (e :: es) [] pos) (cal F ms) :=
  qe_of (pe_callRG Ff hgd hr hg hm hk passE ha hdb he hpl) fun ρ S G σ H Q sm re h => cal_rd sm re h
theorem qe_call (Ff : FnF X.prog X.w X.K X.mg X.base j f F) (hr : Room j X.A) (hm : X.mg x = some (.ref f)) (hk : PySem.W.keepIn X.K (.ref f) = true) (ha : QA X (e :: es) ms) (hg : Gl X x := by rfl) (hdb : (x == ("__debug__" : Str)) = false := by decide)
    (he : starEach (e :: es) X.env = (false, eval e X.env) :: starEach es X.env := by rfl) (hpl : (backTo pos (starEach es X.env)).any (·.1) = false := by rfl) : QE X (.Call (.Name x p) (e :: es) [] pos) (cal F ms) :=
  qe_of (pe_callR Ff hr hg hm hk passE ha hdb he hpl) fun ρ S G σ H Q sm re h => cal_rd sm re h
/-- a built-in function, a built-in class -/
theorem calB_rd {g : Fn} {ρ : Ev} {S : Sto} {G : Gh} {σ : L2.St} {H : Hp} {Q : VK} (sm : Sm X.K G S H) (re : Re X.K G ρ σ) (h : sat X (Rp X.K) G H (cal g ms ρ S) Q) :
    tCB (fun vs H Q => ∃ ds S G, Sm X.K G S H ∧ Rps X.K G ds vs ∧ sat X (Rp X.K) G H (g ds S) Q) (tA X ms) σ H Q := by
  refine ⟨ρ, S, G, sm, re, (sat.bind h).imp fun vs H1 w => ?_⟩
  obtain ⟨ds, S1, G1, le1, sm1, r1, q1⟩ := w
  exact ⟨ds, S1, G1, sm1, r1, q1⟩
theorem qe_blt {g : Fn} {id : String} (hc : CallF X (.builtin id) g) (hm : X.mg x = none) (ha : QA X (e :: es) ms) (hv : bootBuiltins x = some (.builtin id) := by decide +kernel) (hg : Gl X x := by rfl) (hn : x ≠ "__name__" := by decide) (hdb : (x == ("__debug__" : Str)) = false := by decide)
    (he : starEach (e :: es) X.env = (false, eval e X.env) :: starEach es X.env := by rfl) (hpl : (backTo pos (starEach es X.env)).any (·.1) = false := by rfl) : QE X (.Call (.Name x p) (e :: es) [] pos) (cal g ms) :=
  qe_of (pe_callB hc hg hm hv ha hn hdb he hpl) fun ρ S G σ H Q sm re h => calB_rd sm re h
theorem qe_typ {g : Fn} {T : String} (hc : CallF X (.type T) g) (hm : X.mg x = none) (ha : QA X (e :: es) ms) (hv : bootBuiltins x = some (.type T) := by decide +kernel) (hg : Gl X x := by rfl) (hn : x ≠ "__name__" := by decide) (hdb : (x == ("__debug__" : Str)) = false := by decide)
    (he : starEach (e :: es) X.env = (false, eval e X.env) :: starEach es X.env := by rfl) (hpl : (backTo pos (starEach es X.env)).any (·.1) = false := by rfl) : QE X (.Call (.Name x p) (e :: es) [] pos) (cal g ms) :=
  qe_of (pe_callTy hc hg hm hv ha hn hdb he hpl) fun ρ S G σ H Q sm re h => calB_rd sm re h
end
/-! ### built-in functions -/
def lenB : Fn := fun ds S => match ds with
  | [.lst xs] => .ok (.int xs.length) S
  | [.tup xs] => .ok (.int xs.length) S
  | [.src xs] => .ok (.int xs.length) S
  | [.str x] => if x.length ≤ sizeLine then .ok (.int x.length) S else .no
  | [.loc n] => match S[n]? with
    | some (.lst xs) => .ok (.int xs.length) S
    | _ => .no
  | _ => .no
def absB : Fn := fun ds S => match ds with
  | [.int i] => .ok (.int (if i < 0 then -i else i)) S
  | _ => .no
def minB : Fn := fun ds S => match ds with
  | [.int i, .int j] => .ok (.int (if j < i then j else i)) S
  | _ => .no
def maxB : Fn := fun ds S => match ds with
  | [.int i, .int j] => .ok (.int (if j > i then j else i)) S
  | _ => .no
def intB : Fn := fun ds S => match ds with
  | [.int i] => .ok (.int i) S
  | [.bl b] => .ok (.int (if b = true then 1 else 0)) S
  | [.str a] => match PySem.intText? a with
    | some n => if a.length ≤ 640 then .ok (.int n) S else .no
    | none => .no
  | _ => .no
def boolB : Fn := fun ds S => match ds with
  | [.int i] => .ok (.bl (i != 0)) S
  | [.bl b] => .ok (.bl b) S
  | _ => .no
def strOf (i : Int) : Str := Str.ofString (toString i)
def strB : Fn := fun ds S => match ds with
  | [.int i] => if i.natAbs.log2 < 1920 then .ok (.str (strOf i)) S else .no
  | _ => .no
def listB : Fn := fun ds S => match ds with
  | [.lst xs] => .ok (.lst xs) S
  | [.tup xs] => .ok (.lst xs) S
  | [.src xs] => .ok (.lst xs) S
  | _ => .no
/-- list(..) that will be written -/
def listM : Fn := fun ds S => match ds with
  | [.lst xs] => .ok (.loc S.length) (S ++ [.lst xs])
  | [.tup xs] => .ok (.loc S.length) (S ++ [.lst xs])
  | _ => .no
def tupB : Fn := fun ds S => match ds with
  | [.lst xs] => .ok (.tup xs) S
  | [.tup xs] => .ok (.tup xs) S
  | [.loc n] => match S[n]? with
    | some (.lst xs) => .ok (.tup xs) S
    | _ => .no
  | _ => .no
section
variable {X : Cx}
theorem vals1 {K : PySem.W.Frag} {G : Gh} {d : D} {vs : List V} (r : Rps K G [d] vs) : ∃ v, vs = [v] ∧ Rp K G d v := by
  cases r with
  | cons a b => cases b; exact ⟨_, rfl, a⟩
theorem vals2' {K : PySem.W.Frag} {G : Gh} {d e : D} {vs : List V} (r : Rps K G [d, e] vs) : ∃ v w, vs = [v, w] ∧ Rp K G d v ∧ Rp K G e w := by
  cases r with
  | cons a b => obtain ⟨w, rfl, q⟩ := vals1 b; exact ⟨_, _, rfl, a, q⟩
theorem Sm.list {K : PySem.W.Frag} {G : Gh} {S : Sto} {H : Hp} (sm : Sm K G S H) {n : Nat} {xs : List D} {v : V} (e : S[n]? = some (.lst xs)) (r : Rp K G (.loc n) v) : ∃ a vs, v = .ref a ∧ G.f n = some a ∧ H a = some (.lst vs) ∧ Rps K G xs vs := by
  cases r with
  | loc h =>
    obtain ⟨_, vs, h1, h2⟩ := sm.addr e (by simp) h
    exact ⟨_, vs, rfl, h, h1, h2⟩
theorem cf_len : CallF X (.builtin "len") lenB := fun pins s σ H vs us Q I rv ⟨ds, S, G, sm, r, h⟩ => by
  unfold lenB at h
  split at h
  · obtain ⟨v, rfl, q⟩ := vals1 r
    cases q with
    | lst a b => exact call_len_seq pins s σ H _ us Q I rv ⟨_, _, rfl, .inl (SqL.of (sm.fr _ _ a)), h G H _ .refl sm (by rw [b.length]; exact .int _)⟩
  · obtain ⟨v, rfl, q⟩ := vals1 r
    cases q with
    | tup a b => exact call_len_seq pins s σ H _ us Q I rv ⟨_, _, rfl, .inr (SqT.mono a sm.fr), h G H _ .refl sm (by rw [b.length]; exact .int _)⟩
  · obtain ⟨v, rfl, q⟩ := vals1 r
    cases q with
    | src a b => exact call_len_seq pins s σ H _ us Q I rv ⟨_, _, rfl, .inl (SqL.mono a sm.fr), h G H _ .refl sm (by rw [b.length]; exact .int _)⟩
  · split at h
    · rename_i c
      obtain ⟨v, rfl, q⟩ := vals1 r
      cases q
      exact call_len_str pins s σ H _ us Q I rv ⟨_, rfl, c, h G H _ .refl sm (.int _)⟩
    · exact h.elim
  · split at h
    · rename_i c
      obtain ⟨v, rfl, q⟩ := vals1 r
      obtain ⟨a, ws, rfl, _, h1, h2⟩ := sm.list c q
      exact call_len_seq pins s σ H _ us Q I rv ⟨_, _, rfl, .inl (SqL.of h1), h G H _ .refl sm (by rw [h2.length]; exact .int _)⟩
    · exact h.elim
  · exact h.elim
theorem cf_abs : CallF X (.builtin "abs") absB := fun pins s σ H vs us Q I rv ⟨ds, S, G, sm, r, h⟩ => by
  unfold absB at h
  split at h
  · obtain ⟨v, rfl, q⟩ := vals1 r
    cases q
    exact call_abs pins s σ H _ us Q I rv ⟨_, rfl, h G H _ .refl sm (.int _)⟩
  · exact h.elim
theorem cf_min (hc : X.calm = true) : CallF X (.builtin "min") minB := fun pins s σ H vs us Q I rv ⟨ds, S, G, sm, r, h⟩ => by
  unfold minB at h
  split at h
  · obtain ⟨v, w, rfl, q, q'⟩ := vals2' r
    cases q; cases q'
    exact call_min2 hc pins s σ H _ us Q I rv ⟨_, _, rfl, h G H _ .refl sm (.int _)⟩
  · exact h.elim
theorem cf_max (hc : X.calm = true) : CallF X (.builtin "max") maxB := fun pins s σ H vs us Q I rv ⟨ds, S, G, sm, r, h⟩ => by
  unfold maxB at h
  split at h
  · obtain ⟨v, w, rfl, q, q'⟩ := vals2' r
    cases q; cases q'
    exact call_max2 hc pins s σ H _ us Q I rv ⟨_, _, rfl, h G H _ .refl sm (.int _)⟩
  · exact h.elim
theorem cf_int : CallF X (.type "int") intB := fun pins s σ H vs us Q I rv ⟨ds, S, G, sm, r, h⟩ => by
  unfold intB at h
  split at h
  · obtain ⟨v, rfl, q⟩ := vals1 r
    cases q
    exact call_int1 pins s σ H _ us Q I rv (.inl ⟨_, rfl, h G H _ .refl sm (.int _)⟩)
  · obtain ⟨v, rfl, q⟩ := vals1 r
    cases q
    exact call_int1 pins s σ H _ us Q I rv (.inr ⟨_, rfl, h G H _ .refl sm (.int _)⟩)
  · split at h
    · rename_i c
      split at h
      · rename_i c2
        obtain ⟨v, rfl, q⟩ := vals1 r
        cases q
        exact call_int_str pins s σ H _ us Q I rv ⟨_, _, rfl, c, c2, h G H _ .refl sm (.int _)⟩
      · exact h.elim
    · exact h.elim
  · exact h.elim
theorem cf_bool : CallF X (.type "bool") boolB := fun pins s σ H vs us Q I rv ⟨ds, S, G, sm, r, h⟩ => by
  unfold boolB at h
  split at h
  · obtain ⟨v, rfl, q⟩ := vals1 r
    cases q
    exact call_bool1 pins s σ H _ us Q I rv (.inl ⟨_, rfl, h G H _ .refl sm (.bl _)⟩)
  · obtain ⟨v, rfl, q⟩ := vals1 r
    cases q
    exact call_bool1 pins s σ H _ us Q I rv (.inr ⟨_, rfl, h G H _ .refl sm (.bl _)⟩)
  · exact h.elim
theorem cf_str : CallF X (.type "str") strB := fun pins s σ H vs us Q I rv ⟨ds, S, G, sm, r, h⟩ => by
  unfold strB at h
  split at h
  · split at h
    · rename_i c
      obtain ⟨v, rfl, q⟩ := vals1 r
      cases q
      exact call_str_int pins s σ H _ us Q I rv ⟨_, rfl, c, h G H _ .refl sm (.str _)⟩
    · exact h.elim
  · exact h.elim
theorem cf_list : CallF X (.type "list") listB := fun pins s σ H vs us Q I rv ⟨ds, S, G, sm, r, h⟩ => by
  unfold listB at h
  split at h
  · obtain ⟨v, rfl, q⟩ := vals1 r
    cases q with
    | lst a b => exact call_list_of pins s σ H _ us Q I rv ⟨_, _, rfl, .inl (SqL.of (sm.fr _ _ a)), fun l hl => new_lst sm hl b h⟩
  · obtain ⟨v, rfl, q⟩ := vals1 r
    cases q with
    | tup a b => exact call_list_of pins s σ H _ us Q I rv ⟨_, _, rfl, .inr (SqT.mono a sm.fr), fun l hl => new_lst sm hl b h⟩
  · obtain ⟨v, rfl, q⟩ := vals1 r
    cases q with
    | src a b => exact call_list_of pins s σ H _ us Q I rv ⟨_, _, rfl, .inl (SqL.mono a sm.fr), fun l hl => new_lst sm hl b h⟩
  · exact h.elim
theorem new_cell {G : Gh} {S : Sto} {H : Hp} {p : Addr} {xs : List D} {vs : List V} {Q : VK} (sm : Sm X.K G S H) (hp : H p = none) (r : Rps X.K G xs vs) (h : sat X (Rp X.K) G H (.ok (.loc S.length) (S ++ [.lst xs])) Q) : Q (.ref p) (upd H p (.lst vs)) :=
  h _ _ _ (Stp.cell sm hp) (sm.new hp ⟨vs, upd_same, r.mono sm.new_le⟩) (.loc Gh.new_at)
theorem cf_listM : CallF X (.type "list") listM := fun pins s σ H vs us Q I rv ⟨ds, S, G, sm, r, h⟩ => by
  unfold listM at h
  split at h
  · obtain ⟨v, rfl, q⟩ := vals1 r
    cases q with
    | lst a b => exact call_list_of pins s σ H _ us Q I rv ⟨_, _, rfl, .inl (SqL.of (sm.fr _ _ a)), fun l hl => new_cell sm hl b h⟩
  · obtain ⟨v, rfl, q⟩ := vals1 r
    cases q with
    | tup a b => exact call_list_of pins s σ H _ us Q I rv ⟨_, _, rfl, .inr (SqT.mono a sm.fr), fun l hl => new_cell sm hl b h⟩
  · exact h.elim
theorem cf_tup : CallF X (.type "tuple") tupB := fun pins s σ H vs us Q I rv ⟨ds, S, G, sm, r, h⟩ => by
  unfold tupB at h
  split at h
  · obtain ⟨v, rfl, q⟩ := vals1 r
    cases q with
    | lst a b => exact call_tuple_of pins s σ H _ us Q I rv ⟨_, _, rfl, .inl ⟨SqL.of (sm.fr _ _ a), fun l hl => new_tup sm hl b h⟩⟩
  · obtain ⟨v, rfl, q⟩ := vals1 r
    cases q with
    | tup a b => exact call_tuple_of pins s σ H _ us Q I rv ⟨_, _, rfl, .inr ⟨SqT.mono a sm.fr, h G H _ .refl sm (.tup a b)⟩⟩
  · split at h
    · rename_i c
      obtain ⟨v, rfl, q⟩ := vals1 r
      obtain ⟨a, ws, rfl, _, h1, h2⟩ := sm.list c q
      exact call_tuple_of pins s σ H _ us Q I rv ⟨_, _, rfl, .inl ⟨SqL.of h1, fun l hl => new_tup sm hl h2 h⟩⟩
    · exact h.elim
  · exact h.elim
end
/-! ### displays -/
def tupE (ms : MA) : ME := fun ρ S => (ms ρ S).bind fun ds S1 => if ds.length ≤ 1000 then .ok (.tup ds) S1 else .no
def lstE (ms : MA) : ME := fun ρ S => (ms ρ S).bind fun ds S1 => if ds.length ≤ 1000 then .ok (.lst ds) S1 else .no
/-- a list that will be written -/
def lstM (ms : MA) : ME := fun ρ S => (ms ρ S).bind fun ds S1 => if ds.length ≤ 1000 then .ok (.loc S1.length) (S1 ++ [.lst ds]) else .no
theorem le_line {n : Nat} (h : n ≤ 1000) : n ≤ sizeLine := Nat.le_trans h (by decide)
section
variable {X : Cx} {es : List Expr} {ms : MA} {pos : Pos}
theorem qe_tup {x1} (h : QA X es ms) : QE X (.Tuple es x1 pos) (tupE ms) := qe_of (pe_tup h) fun ρ S G σ H Q sm re z => by
  refine ⟨ρ, S, G, sm, re, (sat.bind z).imp fun vs H1 w => ?_⟩
  obtain ⟨ds, S1, G1, le1, sm1, r1, q1⟩ := w
  split at q1
  · rename_i c
    exact ⟨by rw [r1.length]; exact le_line c, fun p hp => new_tup sm1 hp r1 q1⟩
  · exact q1.elim
theorem qe_lst (h : QA X es ms) : QE X (.List es pos) (lstE ms) := qe_of (pe_lst h) fun ρ S G σ H Q sm re z => by
  refine ⟨ρ, S, G, sm, re, (sat.bind z).imp fun vs H1 w => ?_⟩
  obtain ⟨ds, S1, G1, le1, sm1, r1, q1⟩ := w
  split at q1
  · rename_i c
    exact ⟨by rw [r1.length]; exact le_line c, fun p hp => new_lst sm1 hp r1 q1⟩
  · exact q1.elim
theorem qe_lstM (h : QA X es ms) : QE X (.List es pos) (lstM ms) := qe_of (pe_lst h) fun ρ S G σ H Q sm re z => by
  refine ⟨ρ, S, G, sm, re, (sat.bind z).imp fun vs H1 w => ?_⟩
  obtain ⟨ds, S1, G1, le1, sm1, r1, q1⟩ := w
  split at q1
  · rename_i c
    exact ⟨by rw [r1.length]; exact le_line c, fun p hp => new_cell sm1 hp r1 q1⟩
  · exact q1.elim
end
end PV
set_option Elab.async false
set_option linter.all false
set_option maxRecDepth 100000
set_option maxHeartbeats 4000000
namespace PV
open PySem PySem.Spec PyProof.Rows L2 ZL
/-! ### lists of ints, of truths, of texts -/
def asInts : List D → Option (List Int)
  | [] => some []
  | .int i :: xs => (asInts xs).map (i :: ·)
  | _ :: _ => none
def asBools : List D → Option (List Bool)
  | [] => some []
  | .bl i :: xs => (asBools xs).map (i :: ·)
  | _ :: _ => none
def asStrs : List D → Option (List Str)
  | [] => some []
  | .str i :: xs => (asStrs xs).map (i :: ·)
  | _ :: _ => none
theorem asInts_map : ∀ ns : List Int, asInts (ns.map .int) = some ns
  | [] => rfl
  | n :: ns => by rw [List.map_cons, asInts, asInts_map ns]; rfl
theorem asBools_map : ∀ ns : List Bool, asBools (ns.map .bl) = some ns
  | [] => rfl
  | n :: ns => by rw [List.map_cons, asBools, asBools_map ns]; rfl
theorem asStrs_map : ∀ ns : List Str, asStrs (ns.map .str) = some ns
  | [] => rfl
  | n :: ns => by rw [List.map_cons, asStrs, asStrs_map ns]; rfl
section
variable {K : PySem.W.Frag} {G : Gh}
theorem asInts_rp : ∀ {xs : List D} {vs : List V} {ns : List Int}, asInts xs = some ns → Rps K G xs vs → vs = ns.map V.int
  | [], _, _, h, r => by cases r; cases h; rfl
  | .int i :: xs, _, ns, h, r => by
    cases r with
    | cons a b =>
      cases a
      unfold asInts at h
      match e : asInts xs, h with
      | some ms, h => cases h; rw [asInts_rp e b]; rfl
      | none, h => cases h
  | .non :: _, _, _, h, _ => by cases h
  | .bl _ :: _, _, _, h, _ => by cases h
  | .str _ :: _, _, _, h, _ => by cases h
  | .tup _ :: _, _, _, h, _ => by cases h
  | .lst _ :: _, _, _, h, _ => by cases h
  | .obj _ _ :: _, _, _, h, _ => by cases h
  | .loc _ :: _, _, _, h, _ => by cases h
  | .cls _ :: _, _, _, h, _ => by cases h
  | .fnc _ :: _, _, _, h, _ => by cases h
  | .ty _ :: _, _, _, h, _ => by cases h
  | .src _ :: _, _, _, h, _ => by cases h
  | .dic0 :: _, _, _, h, _ => by cases h
theorem asBools_rp : ∀ {xs : List D} {vs : List V} {ns : List Bool}, asBools xs = some ns → Rps K G xs vs → vs = ns.map V.bl
  | [], _, _, h, r => by cases r; cases h; rfl
  | .bl i :: xs, _, ns, h, r => by
    cases r with
    | cons a b =>
      cases a
      unfold asBools at h
      match e : asBools xs, h with
      | some ms, h => cases h; rw [asBools_rp e b]; rfl
      | none, h => cases h
  | .non :: _, _, _, h, _ => by cases h
  | .int _ :: _, _, _, h, _ => by cases h
  | .str _ :: _, _, _, h, _ => by cases h
  | .tup _ :: _, _, _, h, _ => by cases h
  | .lst _ :: _, _, _, h, _ => by cases h
  | .obj _ _ :: _, _, _, h, _ => by cases h
  | .loc _ :: _, _, _, h, _ => by cases h
  | .cls _ :: _, _, _, h, _ => by cases h
  | .fnc _ :: _, _, _, h, _ => by cases h
  | .ty _ :: _, _, _, h, _ => by cases h
  | .src _ :: _, _, _, h, _ => by cases h
  | .dic0 :: _, _, _, h, _ => by cases h
theorem asStrs_rp : ∀ {xs : List D} {vs : List V} {ns : List Str}, asStrs xs = some ns → Rps K G xs vs → vs = ns.map V.str
  | [], _, _, h, r => by cases r; cases h; rfl
  | .str i :: xs, _, ns, h, r => by
    cases r with
    | cons a b =>
      cases a
      unfold asStrs at h
      match e : asStrs xs, h with
      | some ms, h => cases h; rw [asStrs_rp e b]; rfl
      | none, h => cases h
  | .non :: _, _, _, h, _ => by cases h
  | .int _ :: _, _, _, h, _ => by cases h
  | .bl _ :: _, _, _, h, _ => by cases h
  | .tup _ :: _, _, _, h, _ => by cases h
  | .lst _ :: _, _, _, h, _ => by cases h
  | .obj _ _ :: _, _, _, h, _ => by cases h
  | .loc _ :: _, _, _, h, _ => by cases h
  | .cls _ :: _, _, _, h, _ => by cases h
  | .fnc _ :: _, _, _, h, _ => by cases h
  | .ty _ :: _, _, _, h, _ => by cases h
  | .src _ :: _, _, _, h, _ => by cases h
  | .dic0 :: _, _, _, h, _ => by cases h
end
/-! ### all, any, sum, max, min, sorted of lists -/
def allB : Fn := fun ds S => match ds with
  | [.lst xs] => match asBools xs with
    | some bs => .ok (.bl (bs.all id)) S
    | none => .no
  | _ => .no
def anyB : Fn := fun ds S => match ds with
  | [.lst xs] => match asBools xs with
    | some bs => .ok (.bl (bs.any id)) S
    | none => .no
  | _ => .no
def sumB : Fn := fun ds S => match ds with
  | [.lst xs] => match asInts xs with
    | some ns => .ok (.int ns.sum) S
    | none => .no
  | _ => .no
def greatest : List Int → Int
  | [] => 0
  | [n] => n
  | n :: m :: ns => if greatest (m :: ns) > n then greatest (m :: ns) else n
theorem greatest_mem : ∀ ns : List Int, ns ≠ [] → greatest ns ∈ ns
  | [], h => absurd rfl h
  | [n], _ => List.mem_cons_self
  | n :: m :: ns, _ => by
    unfold greatest
    split
    · exact List.mem_cons_of_mem _ (greatest_mem (m :: ns) (by simp))
    · exact List.mem_cons_self
theorem greatest_le : ∀ (ns : List Int) (x : Int), x ∈ ns → x ≤ greatest ns
  | [], x, h => by simp at h
  | [n], x, h => by simp at h; subst h; exact Int.le_refl _
  | n :: m :: ns, x, h => by
    unfold greatest
    rcases List.mem_cons.mp h with rfl | h
    · split <;> omega
    · have := greatest_le (m :: ns) x h
      split <;> omega
def maxL : Fn := fun ds S => match ds with
  | [.lst xs] => match asInts xs with
    | some ns => if ns = [] then .no else .ok (.int (greatest ns)) S
    | none => .no
  | _ => .no
section
variable {X : Cx}
theorem cf_all (hc : X.calm = true) : CallF X (.builtin "all") allB := fun pins s σ H vs us Q I rv ⟨ds, S, G, sm, r, h⟩ => by
  unfold allB at h
  split at h
  · split at h
    · rename_i c
      obtain ⟨v, rfl, q⟩ := vals1 r
      cases q with
      | lst a b =>
        rw [asBools_rp c b] at a
        exact cr_all hc pins s σ H _ us Q I rv ⟨_, _, rfl, SqL.of (sm.fr _ _ a), h G H _ .refl sm (.bl _)⟩
    · exact h.elim
  · exact h.elim
theorem cf_any (hc : X.calm = true) : CallF X (.builtin "any") anyB := fun pins s σ H vs us Q I rv ⟨ds, S, G, sm, r, h⟩ => by
  unfold anyB at h
  split at h
  · split at h
    · rename_i c
      obtain ⟨v, rfl, q⟩ := vals1 r
      cases q with
      | lst a b =>
        rw [asBools_rp c b] at a
        exact cr_any hc pins s σ H _ us Q I rv ⟨_, _, rfl, SqL.of (sm.fr _ _ a), h G H _ .refl sm (.bl _)⟩
    · exact h.elim
  · exact h.elim
theorem cf_sum (hc : X.calm = true) : CallF X (.builtin "sum") sumB := fun pins s σ H vs us Q I rv ⟨ds, S, G, sm, r, h⟩ => by
  unfold sumB at h
  split at h
  · split at h
    · rename_i c
      obtain ⟨v, rfl, q⟩ := vals1 r
      cases q with
      | lst a b =>
        rw [asInts_rp c b] at a
        exact cr_sum hc pins s σ H _ us Q I rv ⟨_, _, rfl, SqL.of (sm.fr _ _ a), h G H _ .refl sm (.int _)⟩
    · exact h.elim
  · exact h.elim
theorem cf_maxL (hc : X.calm = true) : CallF X (.builtin "max") maxL := fun pins s σ H vs us Q I rv ⟨ds, S, G, sm, r, h⟩ => by
  unfold maxL at h
  split at h
  · split at h
    · rename_i ns c
      split at h
      · exact h.elim
      · rename_i ne
        obtain ⟨v, rfl, q⟩ := vals1 r
        cases q with
        | lst a b =>
          rw [asInts_rp c b] at a
          refine cr_max hc pins s σ H _ us Q I rv ⟨_, _, rfl, SqL.of (sm.fr _ _ a), List.length_pos_iff.mpr ne, fun m hm hle => ?_⟩
          have e : m = greatest ns := Int.le_antisymm (greatest_le ns m hm) (hle _ (greatest_mem ns ne))
          rw [e]
          exact h G H _ .refl sm (.int _)
    · exact h.elim
  · exact h.elim
end
/-! ### subscripts, slices -/
def ixG : G2 := fun x y S => match y with
  | .int i => match x with
    | .lst xs => match atI xs i with
      | some d => .ok d S
      | none => .no
    | .tup xs => match atI xs i with
      | some d => .ok d S
      | none => .no
    | .src xs => match atI xs i with
      | some d => .ok d S
      | none => .no
    | .loc n => match S[n]? with
      | some (.lst xs) => match atI xs i with
        | some d => .ok d S
        | none => .no
      | _ => .no
    | .str z => if z.length ≤ sizeLine then match atI z.cps.toList i with
        | some c => .ok (.str ⟨#[c]⟩) S
        | none => .no
      else .no
    | _ => .no
  | _ => .no
theorem Rps.atI {K : PySem.W.Frag} {G : Gh} {xs : List D} {vs : List V} {i : Int} {d : D} (r : Rps K G xs vs) (h : atI xs i = some d) : ∃ v, L2.atI vs i = some v ∧ Rp K G d v := by
  unfold L2.atI at h ⊢
  rw [r.length]
  match e : ixN xs.length i, h with
  | some j, h => exact r.get h
  | none, h => cases h
section
variable {X : Cx} {a b : Expr} {ma mb : ME} {pos : Pos}
theorem ixR : IxR X (fun v w H Q => ∃ x y S G, Sm X.K G S H ∧ Rp X.K G x v ∧ Rp X.K G y w ∧ sat X (Rp X.K) G H (ixG x y S) Q) := fun ea eb pins s σ H v w u u' Q I rv rw' ⟨x, y, S, G, sm, rx, ry, h⟩ hs => by
  unfold ixG at h
  split at h
  · cases ry
    split at h
    · split at h
      · rename_i c
        cases rx with
        | lst p r =>
          obtain ⟨z, z1, z2⟩ := r.atI c
          exact ix_list ea eb pins s σ H _ _ u u' Q I rv rw' ⟨_, _, _, z, rfl, rfl, SqL.of (sm.fr _ _ p), z1, h G H _ .refl sm z2⟩ hs
      · exact h.elim
    · split at h
      · rename_i c
        cases rx with
        | tup p r =>
          obtain ⟨z, z1, z2⟩ := r.atI c
          exact ix_tup ea eb pins s σ H _ _ u u' Q I rv rw' ⟨_, _, _, z, rfl, rfl, SqT.mono p sm.fr, z1, h G H _ .refl sm z2⟩ hs
      · exact h.elim
    · split at h
      · rename_i c
        cases rx with
        | src p r =>
          obtain ⟨z, z1, z2⟩ := r.atI c
          exact ix_list ea eb pins s σ H _ _ u u' Q I rv rw' ⟨_, _, _, z, rfl, rfl, SqL.mono p sm.fr, z1, h G H _ .refl sm z2⟩ hs
      · exact h.elim
    · split at h
      · rename_i c0
        split at h
        · rename_i c
          obtain ⟨p, vs, rfl, _, h1, r⟩ := sm.list c0 rx
          obtain ⟨z, z1, z2⟩ := r.atI c
          exact ix_list ea eb pins s σ H _ _ u u' Q I rv rw' ⟨_, _, _, z, rfl, rfl, SqL.of h1, z1, h G H _ .refl sm z2⟩ hs
        · exact h.elim
      · exact h.elim
    · split at h
      · rename_i c0
        split at h
        · rename_i c
          cases rx
          exact ix_str ea eb pins s σ H _ _ u u' Q I rv rw' ⟨_, _, _, rfl, rfl, c0, c, h G H _ .refl sm (.str _)⟩ hs
        · exact h.elim
      · exact h.elim
    · exact h.elim
  · exact h.elim
theorem qe_ix (ha : QE X a ma) (hb : QE X b mb) (hs : PlainIx b := by exact fun _ _ => rfl) : QE X (.Subscript a b pos) (bin ixG ma mb) :=
  qe_of (pe_ix ixR ha hb hs) fun ρ S G σ H Q sm re h => by
    refine ⟨ρ, S, G, sm, re, (sat.bind h).imp fun v H1 w => ?_⟩
    obtain ⟨x, S1, G1, le1, sm1, r1, q1⟩ := w
    refine ⟨ρ, S1, G1, sm1, re.mono le1.le, (sat.bind q1).imp fun v' H2 w => ?_⟩
    obtain ⟨y, S2, G2, le2, sm2, r2, q2⟩ := w
    exact ⟨x, y, S2, G2, sm2, r1.mono le2.le, r2, q2⟩
end
/-- a part of a slice -/
abbrev MO := Ev → Sto → Out (Option Int)
def tO (X : Cx) (m : MO) : L2.St → Hp → (Option Int → Hp → Prop) → Prop := fun σ H Q => ∃ ρ S G, Sm X.K G S H ∧ Re X.K G ρ σ ∧ sat X (fun _ a b => a = b) G H (m ρ S) Q
abbrev QO (X : Cx) (e : Option Expr) (m : MO) : Prop := PO X e (tO X m)
def oNo : MO := fun _ S => .ok none S
def oSo (m : ME) : MO := fun ρ S => (m ρ S).bind fun d S1 => match d with
  | .int i => .ok (some i) S1
  | _ => .no
def cutD {α : Type} (xs : List α) (lo hi : Option Int) : List α := (xs.drop (HT.sIx xs.length 0 lo)).take (HT.sIx xs.length xs.length hi - HT.sIx xs.length 0 lo)
theorem cutD_whole {α : Type} {xs : List α} {lo hi : Option Int} (h : HT.sIx xs.length 0 lo = 0 ∧ HT.sIx xs.length xs.length hi = xs.length) : cutD xs lo hi = xs := by
  unfold cutD
  rw [h.1, h.2]
  simp
def slG (x : D) (lo hi : Option Int) (S : Sto) : Out D := match x with
  | .lst xs => .ok (.lst (cutD xs lo hi)) S
  | .src xs => .ok (.lst (cutD xs lo hi)) S
  | .tup xs => .ok (.tup (cutD xs lo hi)) S
  | .str z => if z.length ≤ sizeLine then .ok (.str (cutS z lo hi)) S else .no
  | .loc n => match S[n]? with
    | some (.lst xs) => .ok (.lst (cutD xs lo hi)) S
    | _ => .no
  | _ => .no
def sli (m : ME) (l h : MO) : ME := fun ρ S => (m ρ S).bind fun x S1 => (l ρ S1).bind fun lo S2 => (h ρ S2).bind fun hi S3 => slG x lo hi S3
theorem Rps.cutV {K : PySem.W.Frag} {G : Gh} {xs : List D} {vs : List V} (r : Rps K G xs vs) (lo hi : Option Int) : Rps K G (cutD xs lo hi) (L2.cutV vs lo hi) := by
  unfold cutD L2.cutV
  rw [r.length]
  exact (r.drop _).take _
section
variable {X : Cx} {e : Expr} {lo hi : Option Expr} {m : ME} {ml mh : MO} {p2 pos : Pos}
theorem qo_none : QO X none oNo := ⟨fun pins s σ H Q I ⟨ρ, S, G, sm, re, q⟩ => po_none.run pins s σ H Q I (q G H none .refl sm rfl)⟩
theorem qo_some (h : QE X e m) : QO X (some e) (oSo m) := ⟨fun pins s σ H Q I ⟨ρ, S, G, sm, re, q⟩ => (po_some h).run pins s σ H Q I (by
  refine ⟨ρ, S, G, sm, re, (sat.bind q).imp fun v H1 w => ?_⟩
  obtain ⟨d, S1, G1, le1, sm1, r1, q1⟩ := w
  cases r1 with
  | int i => exact ⟨i, rfl, q1 G1 H1 _ .refl sm1 rfl⟩
  | _ => exact q1.elim)⟩
theorem slR : SlR X (fun v lo hi H Q => ∃ x S G, Sm X.K G S H ∧ Rp X.K G x v ∧ sat X (Rp X.K) G H (slG x lo hi S) Q) := fun pins s σ H v u vl vu lo hi sl Q I rv hs pl pu ⟨x, S, G, sm, rx, h⟩ => by
  unfold slG at h
  split at h
  · cases rx with
    | lst p r => exact sl_list pins s σ H _ u vl vu lo hi sl Q I rv hs pl pu ⟨_, _, rfl, SqL.of (sm.fr _ _ p), fun l hl => new_lst sm hl (r.cutV lo hi) h⟩
  · cases rx with
    | src p r => exact sl_list pins s σ H _ u vl vu lo hi sl Q I rv hs pl pu ⟨_, _, rfl, SqL.mono p sm.fr, fun l hl => new_lst sm hl (r.cutV lo hi) h⟩
  · cases rx with
    | tup p r =>
      refine sl_tupA pins s σ H _ u vl vu lo hi sl Q I rv hs pl pu ⟨_, _, rfl, SqT.mono p sm.fr, fun e => ?_, fun _ l hl => new_tup sm hl (r.cutV lo hi) h⟩
      rw [r.length] at e
      rw [cutD_whole e] at h
      exact h G H _ .refl sm (.tup p r)
  · split at h
    · rename_i c
      cases rx
      exact sl_str pins s σ H _ u vl vu lo hi sl Q I rv hs pl pu ⟨_, rfl, c, h G H _ .refl sm (.str _)⟩
    · exact h.elim
  · split at h
    · rename_i c
      obtain ⟨p, vs, rfl, _, h1, r⟩ := sm.list c rx
      exact sl_list pins s σ H _ u vl vu lo hi sl Q I rv hs pl pu ⟨_, _, rfl, SqL.of h1, fun l hl => new_lst sm hl (r.cutV lo hi) h⟩
    · exact h.elim
  · exact h.elim
theorem qe_sli (h : QE X e m) (hl : QO X lo ml) (hh : QO X hi mh) : QE X (.Subscript e (.Slice lo hi none p2) pos) (sli m ml mh) :=
  qe_of (pe_slice slR h hl hh) fun ρ S G σ H Q sm re h => by
    refine ⟨ρ, S, G, sm, re, (sat.bind h).imp fun v H1 w => ?_⟩
    obtain ⟨x, S1, G1, le1, sm1, r1, q1⟩ := w
    refine ⟨ρ, S1, G1, sm1, re.mono le1.le, (sat.bind q1).imp fun l H2 w => ?_⟩
    obtain ⟨l', S2, G2, le2, sm2, r2, q2⟩ := w
    subst r2
    refine ⟨ρ, S2, G2, sm2, (re.mono le1.le).mono le2.le, (sat.bind q2).imp fun u H3 w => ?_⟩
    obtain ⟨u', S3, G3, le3, sm3, r3, q3⟩ := w
    subst r3
    exact ⟨x, S3, G3, sm3, (r1.mono le2.le).mono le3.le, q3⟩
/-- x[::-1] -/
def revG : G1 := fun x S => match x with
  | .lst xs => .ok (.lst xs.reverse) S
  | .tup xs => .ok (.tup xs.reverse) S
  | _ => .no
end
/-! ### instances: fields, kinds -/
/-- the class and the fields of an instance -/
def insOf (S : Sto) (d : D) : Option (String × List (String × D)) := match d with
  | .obj c fs => some (c, fs)
  | .loc n => match S[n]? with
    | some (.ins c fs) => some (c, fs)
    | _ => none
  | _ => none
theorem Sm.ins {K : PySem.W.Frag} {G : Gh} {S : Sto} {H : Hp} (sm : Sm K G S H) {d : D} {v : V} {c : String} {fs : List (String × D)} (e : insOf S d = some (c, fs)) (r : Rp K G d v) : ∃ a dx ws, v = .ref a ∧ H a = some (.ins (He.ga K (Str.ofString c)) dx ws) ∧ Rpf K G fs ws := by
  unfold insOf at e
  split at e
  · cases e
    cases r with
    | obj h r => exact ⟨_, _, _, rfl, sm.fr _ _ h, r⟩
  · split at e
    · rename_i q
      cases e
      cases r with
      | loc h =>
        obtain ⟨_, dx, ws, h1, h2⟩ := sm.addr q (by simp) h
        exact ⟨_, dx, ws, rfl, h1, h2⟩
    · cases e
  · cases e
/-- d.f, of the classes cs -/
def fldG (cs : List String) (f : String) : G1 := fun d S => match insOf S d with
  | some (c, fs) => if cs.contains c = true then match fs.lookup f with
      | some x => .ok x S
      | none => .no
    else .no
  | none => .no
/-- what is known of a class -/
structure CF (K : PySem.W.Frag) (c : String) : Prop where
  cl : Cls K (He.ga K (Str.ofString c))
  ca : PySem.W.findIn K (.ref (He.ga K (Str.ofString c))) "__class__" = some (some (.builtin "object.__class__"))
  cg : PySem.W.specialIn K (.builtin "object.__class__") "__get__" = some (some (.builtin "getset_descriptor.__get__"))
  ct : PySem.W.takesIn K (.builtin "object.__class__") = some true
  mo : PySem.W.mroIn K (He.ga K (Str.ofString c)) (.type "object") = some true
section
variable {X : Cx} {e : Expr} {m : ME} {pos : Pos}
theorem qe_fld {cs : List String} {f : String} (hc : ∀ c ∈ cs, Cls X.K (He.ga X.K (Str.ofString c)) ∧ NoAttr X.K (He.ga X.K (Str.ofString c)) (Str.ofString f)) (h : QE X e m) (hb : attributeBase e (Str.ofString f) X.env (eval e X.env) = eval e X.env := by rfl) : QE X (.Attribute e (Str.ofString f) pos) (una (fldG cs f) m) :=
  qe_of (pe_fld h hb) fun ρ S G σ H Q sm re h => by
    refine ⟨ρ, S, G, sm, re, (sat.bind h).imp fun v H1 w => ?_⟩
    obtain ⟨x, S1, G1, le1, sm1, r1, q1⟩ := w
    unfold fldG at q1
    split at q1
    · rename_i c fs ei
      split at q1
      · rename_i hm
        split at q1
        · rename_i y hl
          obtain ⟨a, dx, ws, rfl, ha, rf⟩ := sm1.ins ei r1
          obtain ⟨z, hz, rz⟩ := rf.at hl
          have hk := hc c (List.contains_iff_mem.mp hm)
          exact ⟨a, _, dx, ws, z, rfl, ha, hk.1, hk.2, hz, q1 G1 H1 z .refl sm1 rz⟩
        · exact q1.elim
      · exact q1.elim
    · exact q1.elim
/-- d.f = e -/
def sFldS (cs : List String) (f : String) (o m : ME) : MS := fun ρ S => (m ρ S).bind fun y S1 => (o ρ S1).bind fun x S2 => match x with
  | .loc n => match S2[n]? with
    | some (.ins c fs) => if cs.contains c = true ∧ fs.length < 1000 then .ok (.nx ρ) (S2.set n (.ins c (putD f y fs))) else .no
    | _ => .no
  | _ => .no
theorem qs_fld {cs : List String} {f : String} {o : Expr} {mo : ME} {pos' : Pos} (hc : ∀ c ∈ cs, Cls X.K (He.ga X.K (Str.ofString c)) ∧ NoAttr X.K (He.ga X.K (Str.ofString c)) (Str.ofString f)) (ho : QE X o mo) (h : QE X e m)
    (hs : swapsWith e (some (.Attribute o (Str.ofString f) pos')) pos.line X.env = pure false := by rfl) : QS X (.Assign [.Attribute o (Str.ofString f) pos'] e pos) (sFldS cs f mo m) :=
  qs_of (ps_fld ho h hs) fun ρ S G σ H Q sm re h => by
    refine ⟨ρ, S, G, sm, re, (satS.bind h).imp fun v H1 w => ?_⟩
    obtain ⟨y, S1, G1, le1, sm1, r1, q1⟩ := w
    refine ⟨ρ, S1, G1, sm1, re.mono le1.le, (satS.bind q1).imp fun v' H2 w => ?_⟩
    obtain ⟨x, S2, G2, le2, sm2, r2, q2⟩ := w
    cases r2 with
    | loc hf =>
      simp only at q2
      split at q2
      · rename_i c fs hl
        split at q2
        · rename_i hm
          obtain ⟨hF, dx, ws, ha, rf⟩ := sm2.addr hl (by simp) hf
          have hk := hc c (List.contains_iff_mem.mp hm.1)
          refine ⟨_, _, dx, ws, rfl, ha, hk.1, hk.2, by rw [rf.length]; exact hm.2, ?_⟩
          exact q2 G2 _ σ (Stp.write hf) (sm2.write hl (by simp) hf ⟨dx, _, upd_same, rf.put (r1.mono le2.le)⟩) ((re.mono le1.le).mono le2.le)
        · exact q2.elim
      · exact q2.elim
    | _ => exact q2.elim
end
/-- the kind of a value -/
inductive Ty where
  | b (n : String) | c (n : String)
def tyD (S : Sto) (d : D) : Option Ty := match d with
  | .non => some (.b "NoneType")
  | .bl _ => some (.b "bool")
  | .int _ => some (.b "int")
  | .str _ => some (.b "str")
  | .tup _ => some (.b "tuple")
  | .lst _ => some (.b "list")
  | .dic0 => some (.b "dict")
  | .obj c _ => some (.c c)
  | .loc n => match S[n]? with
    | some (.lst _) => some (.b "list")
    | some (.ins c _) => some (.c c)
    | _ => none
  | _ => none
def tyV' (K : PySem.W.Frag) : Ty → Value
  | .b n => .type n
  | .c n => .ref (He.ga K (Str.ofString n))
theorem tyX {K : PySem.W.Frag} {G : Gh} {S : Sto} {H : Hp} (sm : Sm K G S H) {d : D} {v : V} {t : Ty} (e : tyD S d = some t) (r : Rp K G d v) (hc : ∀ n, t = .c n → CF K n) : TyX K H v (tyV' K t) := by
  cases r with
  | non => cases e; exact .base .non
  | bl b => cases e; exact .base (.bl b)
  | int i => cases e; exact .base (.int i)
  | str x => cases e; exact .base (.str x)
  | tup h r =>
    cases e
    rcases SqT.mono h sm.fr with (q | ⟨o, q⟩) | ⟨o, its, n, q, c, _⟩
    · exact .base (.tup q)
    · exact .fTuple q
    · exact .kTuple q c
  | lst h r => cases e; exact .base (.lst (sm.fr _ _ h))
  | dic0 h => cases e; exact .base (.dK (sm.fr _ _ h))
  | obj h r =>
    cases e
    have k := hc _ rfl
    exact .base (.ins (sm.fr _ _ h) k.cl k.ca k.cg k.ct k.mo)
  | @loc n a h =>
    unfold tyD at e
    simp only at e
    split at e
    · rename_i xs q
      cases e
      obtain ⟨_, vs, h1, _⟩ := sm.addr q (by simp) h
      exact .base (.lst h1)
    · rename_i c fs q
      cases e
      have k := hc _ rfl
      obtain ⟨_, dx, ws, h1, _⟩ := sm.addr q (by simp) h
      exact .base (.ins h1 k.cl k.ca k.cg k.ct k.mo)
    · cases e
  | _ => cases e
/-- the six built-in kinds -/
def six : List String := ["NoneType", "bool", "int", "str", "tuple", "list", "dict"]
def subT (n T : String) : Bool := decide (n = T) || (decide (n = "bool") && decide (T = "int"))
theorem kit_six : ∀ n ∈ six, ∀ T ∈ six, kitB n T = some (subT n T) := by decide +kernel
theorem tyD_six {S : Sto} {d : D} {n : String} (h : tyD S d = some (.b n)) : n ∈ six := by
  unfold tyD at h
  split at h <;> first | (cases h; decide) | (cases h; done) | skip
  split at h <;> first | (cases h; decide) | cases h
/-- isinstance(x, T), T one of the six; cs: classes that are none of them -/
def isiB (T : String) (cs : List String) (t : Ty) : Option Bool := match t with
  | .b n => some (subT n T)
  | .c n => if cs.contains n = true then some false else none
/-- isinstance(x, C): of a value of the six kinds no; of an instance by the table -/
def isiC (τ : List (String × Bool)) (t : Ty) : Option Bool := match t with
  | .b _ => some false
  | .c n => τ.lookup n
def isiF (ans : Ty → Option Bool) (cls : D → Bool) : Fn := fun ds S => match ds with
  | [x, c] => if cls c = true then match tyD S x with
      | some t => match ans t with
        | some b => .ok (.bl b) S
        | none => .no
      | none => .no
    else .no
  | _ => .no
def isTy (T : String) : D → Bool
  | .ty n => decide (n = T)
  | _ => false
def isCl (C : String) : D → Bool
  | .cls n => decide (n = C)
  | _ => false
section
variable {X : Cx}
theorem cf_isi {ans : Ty → Option Bool} {cls : D → Bool} {w : Value} (hcl : ∀ c, cls c = true → ∀ G v, Rp X.K G c v → ClsV v w) (hans : ∀ t b, (∀ n, t = .b n → n ∈ six) → ans t = some b → PySem.W.kitOne X.K (tyV' X.K t) w = some b ∧ ∀ n, t = .c n → CF X.K n) :
    CallF X (.builtin "isinstance") (isiF ans cls) := fun pins s σ H vs us Q I rv ⟨ds, S, G, sm, r, h⟩ => by
  unfold isiF at h
  split at h
  · split at h
    · rename_i x c hcc
      split at h
      · rename_i t ht
        split at h
        · rename_i b hb
          obtain ⟨v, u, rfl, q, q'⟩ := vals2' r
          obtain ⟨k1, k2⟩ := hans t b (fun n e => by subst e; exact tyD_six ht) hb
          exact call_isi pins s σ H _ us Q I rv ⟨v, u, _, w, b, rfl, hcl c hcc G u q', tyX sm ht q k2, k1, h G H _ .refl sm (.bl b)⟩
        · exact h.elim
      · exact h.elim
    · exact h.elim
  · exact h.elim
theorem cf_isiB {T : String} {cs : List String} (hT : T ∈ six) (hc : ∀ c ∈ cs, CF X.K c ∧ PySem.W.kitOne X.K (.ref (He.ga X.K (Str.ofString c))) (.type T) = some false) : CallF X (.builtin "isinstance") (isiF (isiB T cs) (isTy T)) :=
  cf_isi (w := .type T) (fun c h G v r => by
    cases r <;> simp [isTy] at h
    subst h
    exact .ty _) fun t b h6 e => by
    match t, e with
    | .b n, e =>
      cases e
      exact ⟨kit_ty (kit_six n (h6 n rfl) T hT), fun m z => by cases z⟩
    | .c n, e =>
      simp only [isiB] at e
      split at e
      · rename_i hm
        cases e
        have k := hc n (List.contains_iff_mem.mp hm)
        exact ⟨k.2, fun m z => by cases z; exact k.1⟩
      · cases e
theorem cf_isiC {C : String} {τ : List (String × Bool)} (h6 : ∀ n ∈ six, PySem.W.kitOne X.K (.type n) (.ref (He.ga X.K (Str.ofString C))) = some false) (hc : ∀ c b, τ.lookup c = some b → CF X.K c ∧ PySem.W.kitOne X.K (.ref (He.ga X.K (Str.ofString c))) (.ref (He.ga X.K (Str.ofString C))) = some b) :
    CallF X (.builtin "isinstance") (isiF (isiC τ) (isCl C)) :=
  cf_isi (w := .ref (He.ga X.K (Str.ofString C))) (fun c h G v r => by
    cases r <;> simp [isCl] at h
    subst h
    exact .own _) fun t b hs e => by
    match t, e with
    | .b n, e =>
      cases e
      exact ⟨h6 n (hs n rfl), fun m z => by cases z⟩
    | .c n, e =>
      have k := hc n b e
      exact ⟨k.2, fun m z => by cases z; exact k.1⟩
end
end PV
set_option Elab.async false
set_option linter.all false
set_option maxRecDepth 100000
set_option maxHeartbeats 4000000
namespace PV
open PySem PySem.Spec PyProof.Rows L2 ZL
/-! ### targets -/
inductive Tg where
  | nm (i : Nat) | tp (is : List Nat)
def Tg.slots : Tg → List Nat
  | .nm i => [i]
  | .tp is => is
def setAll : List Nat → List D → Ev → Option Ev
  | [], [], ρ => some ρ
  | i :: is, d :: ds, ρ => setAll is ds (ρ.set i (some d))
  | _, _, _ => none
def setT (T : Tg) (d : D) (ρ : Ev) : Option Ev := match T with
  | .nm i => some (ρ.set i (some d))
  | .tp is => match d with
    | .tup ds => setAll is ds ρ
    | _ => none
def tG (X : Cx) (T : Tg) : TG := fun v σ H Q => ∃ d ρ ρ' G, (∀ a o, G.F a = some o → H a = some o) ∧ Re X.K G ρ σ ∧ Rp X.K G d v ∧ setT T d ρ = some ρ' ∧ ∀ σ', Re X.K G ρ' σ' → (∀ vs, (∀ i ∈ T.slots, i ∈ vs) → wipe σ' vs = wipe σ vs) → Q σ' H
abbrev QG (X : Cx) (tg : Expr) (T : Tg) : Prop := PG X tg (tG X T)
theorem set_set_none {α : Type} (l : List (Option α)) (i : Nat) (x : Option α) : (l.set i x).set i none = l.set i none := List.set_set ..
theorem wipe_set {σ : L2.St} {i : Nat} {v : Option V} : ∀ {vs : List Nat}, i ∈ vs → wipe (σ.set i v) vs = wipe σ vs
  | [], h => by simp at h
  | j :: vs, h => by
    unfold wipe
    by_cases e : i ∈ vs
    · rw [wipe_set e]
    · rcases List.mem_cons.mp h with q | q
      · subst q
        have go : ∀ us : List Nat, i ∉ us → (wipe (σ.set i v) us) = (wipe σ us).set i v := by
          intro us
          induction us with
          | nil => intro _; rfl
          | cons k us ih =>
            intro hn
            unfold wipe
            rw [ih fun z => hn (List.mem_cons_of_mem _ z), List.set_comm]
            intro z
            exact hn (by rw [z]; exact List.mem_cons_self)
        rw [go vs e, List.set_set]
      · exact absurd q e
/-- the targets of a tuple -/
def tGs (X : Cx) (is : List Nat) : TGs := fun vs σ H Q => ∃ ds ρ ρ' G, (∀ a o, G.F a = some o → H a = some o) ∧ Re X.K G ρ σ ∧ Rps X.K G ds vs ∧ setAll is ds ρ = some ρ' ∧ ∀ σ', Re X.K G ρ' σ' → (∀ us, (∀ i ∈ is, i ∈ us) → wipe σ' us = wipe σ us) → Q σ' H
section
variable {X : Cx} {pos : Pos}
theorem qg_name (i : Nat) {x : Str} (hN : X.N.Nodup) (hi : X.N[i]? = some x := by rfl) (hx : Loc X.env.scope x := by first | exact .inl rfl | exact .inr rfl) (hf : X.fn x = true ∨ X.env.scope.names.lookup x = some .local := by first | exact .inl rfl | exact .inr rfl) : QG X (.Name x pos) (.nm i) := by
  refine ⟨fun pins s σ H v u Q I r h => (pg_name hN hi hx hf).run pins s σ H v u Q I r ?_⟩
  obtain ⟨d, ρ, ρ', G, fr, re, rd, e, q⟩ := h
  cases e
  exact q _ (re.set i rd) fun vs hv => wipe_set (hv i List.mem_cons_self)
theorem qgs_nil : PGs X [] (tGs X []) := by
  refine ⟨fun pins s σ H vs us Q I r h => pgs_nil.run pins s σ H vs us Q I r ?_⟩
  obtain ⟨ds, ρ, ρ', G, fr, re, rd, e, q⟩ := h
  match ds, e with
  | [], e => cases e; cases rd; exact ⟨rfl, q σ re fun _ _ => rfl⟩
  | _ :: _, e => cases e
theorem qgs_cons (i : Nat) {x : Str} {es : List Expr} {is : List Nat} (hr : PGs X es (tGs X is)) (hN : X.N.Nodup) (hi : X.N[i]? = some x := by rfl) (hx : Loc X.env.scope x := by first | exact .inl rfl | exact .inr rfl) (hf : X.fn x = true ∨ X.env.scope.names.lookup x = some .local := by first | exact .inl rfl | exact .inr rfl)
    (hs : (assignEach (.Name x pos :: es) X.env).map (·.2) = assign (.Name x pos) X.env :: (assignEach es X.env).map (·.2) := by rfl) : PGs X (.Name x pos :: es) (tGs X (i :: is)) := by
  refine ⟨fun pins s σ H vs us Q I r h => (pgs_cons (pg_name (pos := pos) hN hi hx hf) hr hs).run pins s σ H vs us Q I r ?_⟩
  obtain ⟨ds, ρ, ρ', G, fr, re, rd, e, q⟩ := h
  match ds, rd, e with
  | [], _, e => cases e
  | d :: ds, .cons a b, e =>
    refine ⟨_, _, rfl, ds, _, ρ', G, fr, re.set i a, b, e, fun σ' r' w' => q σ' r' fun us hu => ?_⟩
    rw [w' us fun k hk => hu k (List.mem_cons_of_mem _ hk)]
    exact wipe_set (hu i List.mem_cons_self)
theorem qg_tup {es : List Expr} {kk n : Nat} {is : List Nat} (hc : X.calm = true) (h : PGs X es (tGs X is)) (hl : is.length = n) (hn : (assignEach es X.env).length = n := by rfl) (hst : (assignEach es X.env).findIdx? (·.1) = none := by rfl) : QG X (.Tuple es kk pos) (.tp is) := by
  refine ⟨fun pins s σ H v u Q I r z => (pg_tup hc h hn hst).run pins s σ H v u Q I r ?_⟩
  obtain ⟨d, ρ, ρ', G, fr, re, rd, e, q⟩ := z
  match d, rd, e with
  | .tup ds, .tup h1 r1, e =>
    have e' : setAll is ds ρ = some ρ' := e
    have len : ∀ (is : List Nat) (ds : List D) (ρ ρ' : Ev), setAll is ds ρ = some ρ' → ds.length = is.length := by
      intro is
      induction is with
      | nil => intro ds ρ ρ' h; cases ds with | nil => rfl | cons _ _ => cases h
      | cons i is ih => intro ds ρ ρ' h; cases ds with | nil => cases h | cons d ds => simp [ih ds _ _ h]
    exact ⟨_, _, rfl, SqT.mono h1 fr, by rw [r1.length, len _ _ _ _ e', hl], ds, ρ, ρ', G, fr, re, r1, e', q⟩
  | .non, _, e => cases e
  | .bl _, _, e => cases e
  | .int _, _, e => cases e
  | .str _, _, e => cases e
  | .lst _, _, e => cases e
  | .obj _ _, _, e => cases e
  | .loc _, _, e => cases e
  | .cls _, _, e => cases e
  | .fnc _, _, e => cases e
  | .ty _, _, e => cases e
  | .src _, _, e => cases e
  | .dic0, _, e => cases e
end
/-! ### what is walked -/
/-- the cell that is walked must stay -/
def Gd (o : Option Nat) (xs : List D) (S : Sto) : Prop := match o with
  | none => True
  | some n => S[n]? = some (.lst xs)
structure WalkD (K : PySem.W.Frag) (G : Gh) (xs : List D) (o : Option Nat) (J : It) : Prop where
  goes : ∀ i G' S H, G.le G' → Sm K G' S H → Gd o xs S → i < xs.length → J.go i H
  stops : ∀ G' S H, G.le G' → Sm K G' S H → Gd o xs S → J.stop xs.length H
  yields : ∀ i G' S H x H' d, G.le G' → Sm K G' S H → Gd o xs S → xs[i]? = some d → J.yld i H x H' → ∃ G'', Stp G' H G'' H' ∧ Sm K G'' S H' ∧ Rp K G'' d x
abbrev MI := Ev → Sto → Out (List D × Option Nat)
def tI (X : Cx) (m : MI) : TI := fun σ H R => ∃ ρ S G, Sm X.K G S H ∧ Re X.K G ρ σ ∧ sat X (fun G' a (J : It) => WalkD X.K G' a.1 a.2 J) G H (m ρ S) (fun J H' => R J H')
abbrev QI (X : Cx) (tg iter : Expr) (m : MI) : Prop := PI X tg iter (tI X m)
theorem PI.or {X : Cx} {tg iter : Expr} {w w' : TI} (h : PI X tg iter w) (h' : PI X tg iter w') : PI X tg iter (fun σ H R => w σ H R ∨ w' σ H R) := ⟨fun pins s σ H R I z => z.elim (h.run pins s σ H R I) (h'.run pins s σ H R I)⟩
def itemsD (S : Sto) (d : D) : Option (List D × Option Nat) := match d with
  | .lst xs => some (xs, none)
  | .tup xs => some (xs, none)
  | .src xs => some (xs, none)
  | .loc n => match S[n]? with
    | some (.lst xs) => some (xs, some n)
    | _ => none
  | _ => none
/-- the signs of a text -/
def signs (z : Str) : List D := z.cps.toList.map fun c => .str ⟨#[c]⟩
/-- a list, a tuple, a text -/
def itemsI (S : Sto) (d : D) : Option (List D × Option Nat) := match d with
  | .str z => some (signs z, none)
  | d => itemsD S d
def iSeq (m : ME) : MI := fun ρ S => (m ρ S).bind fun d S1 => match itemsI S1 d with
  | some p => .ok p S1
  | none => .no
def iSgn (m : ME) : MI := fun ρ S => (m ρ S).bind fun d S1 => match d with
  | .str z => .ok (signs z, none) S1
  | _ => .no
/-- lo, lo + 1, .. -/
def ups (lo : Int) (n : Nat) : List D := (List.range n).map fun i => .int (lo + (i : Nat))
def near62 (i : Int) : Bool := decide (-(2 ^ 62) ≤ i ∧ i < 2 ^ 62)
def iR1 (m : MA) : MI := fun ρ S => (m ρ S).bind fun ds S1 => match ds with
  | [.int j] => if near62 j = true then .ok (ups 0 j.toNat, none) S1 else .no
  | _ => .no
def iR2 (m : MA) : MI := fun ρ S => (m ρ S).bind fun ds S1 => match ds with
  | [.int i, .int j] => if near62 i = true ∧ near62 j = true then .ok (ups i (j - i).toNat, none) S1 else .no
  | _ => .no
def numbered (k : Int) : List D → List D
  | [] => []
  | x :: xs => .tup [.int k, x] :: numbered (k + 1) xs
def enD (ds : List D) (S1 : Sto) : Out (List D × Option Nat) := match ds with
  | [d] => match itemsD S1 d with
    | some (xs, none) => .ok (numbered 0 xs, none) S1
    | _ => .no
  | _ => .no
def iEn (m : MA) : MI := fun ρ S => (m ρ S).bind enD
theorem numbered_length : ∀ (k : Int) (xs : List D), (numbered k xs).length = xs.length
  | _, [] => rfl
  | k, x :: xs => by simp [numbered, numbered_length (k + 1) xs]
theorem numbered_get : ∀ {k : Int} {xs : List D} {i : Nat} {d : D}, (numbered k xs)[i]? = some d → ∃ x, xs[i]? = some x ∧ d = .tup [.int (k + (i : Nat)), x]
  | _, [], _, _, h => by simp [numbered] at h
  | k, x :: xs, 0, d, h => by simp [numbered] at h; exact ⟨x, rfl, by simp [h]⟩
  | k, x :: xs, i + 1, d, h => by
    simp only [numbered, List.getElem?_cons_succ] at h
    obtain ⟨y, h1, h2⟩ := numbered_get h
    refine ⟨y, by simpa using h1, ?_⟩
    rw [h2]
    congr 3
    push_cast
    omega
theorem ups_length (lo : Int) (n : Nat) : (ups lo n).length = n := by simp [ups]
theorem ups_get {lo : Int} {n i : Nat} {d : D} (h : (ups lo n)[i]? = some d) : d = .int (lo + (i : Nat)) := by
  unfold ups at h
  rw [List.getElem?_map] at h
  cases e : (List.range n)[i]? with
  | none => rw [e] at h; cases h
  | some j =>
    rw [e] at h
    have := List.getElem?_eq_some_iff.mp e
    obtain ⟨h1, h2⟩ := this
    simp at h2
    subst h2
    exact (Option.some.inj h).symm
section
variable {K : PySem.W.Frag} {G : Gh}
theorem walkL {xs : List D} {vs : List V} {a : Addr} (h : SqL K G.F a vs) (r : Rps K G xs vs) : WalkD K G xs none (Itl K a) where
  goes := fun i G' S H le sm _ hi => walk_list.goes i H (by rw [r.length]; exact hi) (SqL.mono (SqL.mono h le.1) sm.fr)
  stops := fun G' S H le sm _ => by rw [← r.length]; exact walk_list.stops H (SqL.mono (SqL.mono h le.1) sm.fr)
  yields := fun i G' S H x H' d le sm _ hd y => by
    have hi : i < vs.length := by rw [r.length]; exact (List.getElem?_eq_some_iff.mp hd).1
    obtain ⟨rfl, hx⟩ := walk_list.yields i H x H' hi (SqL.mono (SqL.mono h le.1) sm.fr) y
    obtain ⟨d', h1, h2⟩ := r.get' hx
    rw [hd] at h1
    cases h1
    exact ⟨G', .refl, sm, h2.mono le⟩
theorem walkT {xs : List D} {vs : List V} {a : Addr} (h : SqT K G.F a vs) (r : Rps K G xs vs) : WalkD K G xs none (Itt K a) where
  goes := fun i G' S H le sm _ hi => walk_tup.goes i H (by rw [r.length]; exact hi) (SqT.mono (SqT.mono h le.1) sm.fr)
  stops := fun G' S H le sm _ => by rw [← r.length]; exact walk_tup.stops H (SqT.mono (SqT.mono h le.1) sm.fr)
  yields := fun i G' S H x H' d le sm _ hd y => by
    have hi : i < vs.length := by rw [r.length]; exact (List.getElem?_eq_some_iff.mp hd).1
    obtain ⟨rfl, hx⟩ := walk_tup.yields i H x H' hi (SqT.mono (SqT.mono h le.1) sm.fr) y
    obtain ⟨d', h1, h2⟩ := r.get' hx
    rw [hd] at h1
    cases h1
    exact ⟨G', .refl, sm, h2.mono le⟩
theorem walkC {xs : List D} {n : Nat} {a : Addr} (h : G.f n = some a) : WalkD K G xs (some n) (Itl K a) where
  goes := fun i G' S H le sm g hi => by
    obtain ⟨_, vs, h1, r⟩ := sm.addr g (by simp) (le.2 _ _ h)
    exact walk_list.goes i H (by rw [r.length]; exact hi) (SqL.of h1)
  stops := fun G' S H le sm g => by
    obtain ⟨_, vs, h1, r⟩ := sm.addr g (by simp) (le.2 _ _ h)
    rw [← r.length]
    exact walk_list.stops H (SqL.of h1)
  yields := fun i G' S H x H' d le sm g hd y => by
    obtain ⟨_, vs, h1, r⟩ := sm.addr g (by simp) (le.2 _ _ h)
    have hi : i < vs.length := by rw [r.length]; exact (List.getElem?_eq_some_iff.mp hd).1
    obtain ⟨rfl, hx⟩ := walk_list.yields i H x H' hi (SqL.of h1) y
    obtain ⟨d', h1, h2⟩ := r.get' hx
    rw [hd] at h1
    cases h1
    exact ⟨G', .refl, sm, h2⟩
theorem walkR {lo : Int} {n : Nat} : WalkD K G (ups lo n) none (Itr lo n) where
  goes := fun i G' S H le sm _ hi => walk_range.goes i H (by rw [ups_length] at hi; exact hi) trivial
  stops := fun G' S H le sm _ => by rw [ups_length]; exact walk_range.stops H trivial
  yields := fun i G' S H x H' d le sm _ hd y => by
    have hi : i < n := by have := (List.getElem?_eq_some_iff.mp hd).1; rw [ups_length] at this; exact this
    obtain ⟨rfl, rfl⟩ := walk_range.yields i H x H' hi trivial y
    rw [ups_get hd]
    exact ⟨G', .refl, sm, .int _⟩
theorem walkS {z : Str} : WalkD K G (signs z) none (Its z) where
  goes := fun i G' S H le sm _ hi => walk_str.goes i H (by simpa [signs] using hi) trivial
  stops := fun G' S H le sm _ => by
    have e : (signs z).length = z.cps.size := by simp [signs]
    rw [e]
    exact walk_str.stops H trivial
  yields := fun i G' S H x H' d le sm _ hd y => by
    have hi : i < z.cps.size := by have := (List.getElem?_eq_some_iff.mp hd).1; simpa [signs] using this
    obtain ⟨rfl, c, hc, rfl⟩ := walk_str.yields i H x H' hi trivial y
    have e : d = .str ⟨#[c]⟩ := by
      unfold signs at hd
      rw [List.getElem?_map, Array.getElem?_toList, hc] at hd
      exact (Option.some.inj hd).symm
    subst e
    exact ⟨G', .refl, sm, .str _⟩
theorem pair_yield {xs : List D} {o : Option Nat} {G' : Gh} {S : Sto} {H H' : Hp} {T : Addr} {v w : V} {d e : D} (sm : Sm K G' S H) (hT : H T = none) (h : H' = upd H T (.tup [v, w])) (rd : Rp K G' d v) (re : Rp K G' e w) : ∃ G'', Stp G' H G'' H' ∧ Sm K G'' S H' ∧ Rp K G'' (.tup [d, e]) (.ref T) := by
  subst h
  have st := Stp.put (o := .tup [v, w]) sm hT
  exact ⟨_, st, sm.put hT, .tup (SqT.of upd_same) (.cons (rd.mono st.le) (.cons (re.mono st.le) .nil))⟩
theorem walkE {xs : List D} {vs : List V} {a : Addr} (h : SqL K G.F a vs) (r : Rps K G xs vs) : WalkD K G (numbered 0 xs) none (Ite K a) where
  goes := fun i G' S H le sm _ hi => walk_enum.goes i H (by rw [r.length]; rw [numbered_length] at hi; exact hi) (SqL.mono (SqL.mono h le.1) sm.fr)
  stops := fun G' S H le sm _ => by rw [numbered_length, ← r.length]; exact walk_enum.stops H (SqL.mono (SqL.mono h le.1) sm.fr)
  yields := fun i G' S H x H' d le sm _ hd y => by
    have hi : i < vs.length := by rw [r.length]; have := (List.getElem?_eq_some_iff.mp hd).1; rw [numbered_length] at this; exact this
    obtain ⟨T, v, w, rfl, hT, hH, h4, h5⟩ := walk_enum.yields i H x H' hi (SqL.mono (SqL.mono h le.1) sm.fr) y
    obtain ⟨z, h6, rfl⟩ := numbered_get hd
    obtain ⟨d', h7, h8⟩ := r.get' h5
    rw [h6] at h7
    cases h7
    cases h4
    refine pair_yield (xs := []) (o := none) sm hT hH ?_ (h8.mono le)
    rw [Int.zero_add]
    exact .int _
theorem walkET {xs : List D} {vs : List V} {a : Addr} (h : SqT K G.F a vs) (r : Rps K G xs vs) : WalkD K G (numbered 0 xs) none (IteT K a) where
  goes := fun i G' S H le sm _ hi => walk_enumT.goes i H (by rw [r.length]; rw [numbered_length] at hi; exact hi) (SqT.mono (SqT.mono h le.1) sm.fr)
  stops := fun G' S H le sm _ => by rw [numbered_length, ← r.length]; exact walk_enumT.stops H (SqT.mono (SqT.mono h le.1) sm.fr)
  yields := fun i G' S H x H' d le sm _ hd y => by
    have hi : i < vs.length := by rw [r.length]; have := (List.getElem?_eq_some_iff.mp hd).1; rw [numbered_length] at this; exact this
    obtain ⟨T, v, w, rfl, hT, hH, h4, h5⟩ := walk_enumT.yields i H x H' hi (SqT.mono (SqT.mono h le.1) sm.fr) y
    obtain ⟨z, h6, rfl⟩ := numbered_get hd
    obtain ⟨d', h7, h8⟩ := r.get' h5
    rw [h6] at h7
    cases h7
    cases h4
    refine pair_yield (xs := []) (o := none) sm hT hH ?_ (h8.mono le)
    rw [Int.zero_add]
    exact .int _
end
section
variable {X : Cx} {tg e : Expr} {m : ME} {ms : MA} {p pos : Pos}
theorem qi_seq (h : QE X e m) : QI X tg e (iSeq m) := ⟨fun pins s σ H R I ⟨ρ, S, G, sm, re, q⟩ => (PI.or (pi_list h) (PI.or (pi_tup h) (pi_str h))).run pins s σ H R I (by
  match em : m ρ S, q with
  | .ex c fs S', q =>
    refine .inl ⟨ρ, S, G, sm, re, ?_⟩
    rw [em]
    have q' : sat X _ G H ((m ρ S).bind _) _ := q
    rw [em] at q'
    exact q'
  | .no, q =>
    have q' : sat X _ G H ((m ρ S).bind _) _ := q
    rw [em] at q'
    exact q'.elim
  | .ok d S1, q =>
    have q' : sat X _ G H ((m ρ S).bind _) _ := q
    rw [em] at q'
    have q'' : sat X (fun G' (a : List D × Option Nat) (J : It) => WalkD X.K G' a.1 a.2 J) G H (match itemsI S1 d with | some p => .ok p S1 | none => .no) (fun J H' => R J H') := q'
    clear q q'
    match d, q'' with
    | .lst xs, q => refine .inl ⟨ρ, S, G, sm, re, ?_⟩; rw [em]; intro G' H' v le sm' r; cases r with | lst a b => exact ⟨_, rfl, ⟨_, SqL.of (sm'.fr _ _ a)⟩, q G' H' _ le sm' (walkL (SqL.of a) b)⟩
    | .src xs, q => refine .inl ⟨ρ, S, G, sm, re, ?_⟩; rw [em]; intro G' H' v le sm' r; cases r with | src a b => exact ⟨_, rfl, ⟨_, SqL.mono a sm'.fr⟩, q G' H' _ le sm' (walkL a b)⟩
    | .str z, q => refine .inr (.inr ⟨ρ, S, G, sm, re, ?_⟩); rw [em]; intro G' H' v le sm' r; cases r; exact ⟨z, rfl, q G' H' _ le sm' walkS⟩
    | .tup xs, q => refine .inr (.inl ⟨ρ, S, G, sm, re, ?_⟩); rw [em]; intro G' H' v le sm' r; cases r with | tup a b => exact ⟨_, rfl, ⟨_, SqT.mono a sm'.fr⟩, q G' H' _ le sm' (walkT a b)⟩
    | .loc n, q =>
      refine .inl ⟨ρ, S, G, sm, re, ?_⟩
      rw [em]
      intro G' H' v le sm' r
      simp only [itemsI, itemsD] at q
      cases r with
      | loc hf =>
        match hn : S1[n]?, q with
        | some (.lst xs), q =>
          obtain ⟨_, vs, h1, h2⟩ := sm'.addr hn (by simp) hf
          exact ⟨_, rfl, ⟨_, SqL.of h1⟩, q G' H' _ le sm' (walkC hf)⟩
        | some (.ins _ _), q => exact q.elim
        | some .dead, q => exact q.elim
        | none, q => exact q.elim
    | .non, q => exact q.elim
    | .bl _, q => exact q.elim
    | .int _, q => exact q.elim
    | .obj _ _, q => exact q.elim
    | .cls _, q => exact q.elim
    | .fnc _, q => exact q.elim
    | .ty _, q => exact q.elim
    | .dic0, q => exact q.elim)⟩
theorem qi_sgn (h : QE X e m) : QI X tg e (iSgn m) := ⟨fun pins s σ H R I ⟨ρ, S, G, sm, re, q⟩ => (pi_str h).run pins s σ H R I (by
  refine ⟨ρ, S, G, sm, re, (sat.bind q).imp fun v H1 w => ?_⟩
  obtain ⟨d, S1, G1, le1, sm1, r1, q1⟩ := w
  cases r1 with
  | str z => exact ⟨z, rfl, q1 G1 H1 _ .refl sm1 walkS⟩
  | _ => exact q1.elim)⟩
theorem qi_range1 (hm : X.mg "range" = none) (ha : QA X [e] ms) (hg : Gl X "range" := by rfl) (hs : starEach [e] X.env = [(false, eval e X.env)] := by rfl) : QI X tg (.Call (.Name "range" p) [e] [] pos) (iR1 ms) := ⟨fun pins s σ H R I ⟨ρ, S, G, sm, re, q⟩ => (pi_range1 hg hm ha hs).run pins s σ H R I (by
  refine ⟨ρ, S, G, sm, re, (sat.bind q).imp fun v H1 w => ?_⟩
  obtain ⟨ds, S1, G1, le1, sm1, r1, q1⟩ := w
  split at q1
  · split at q1
    · rename_i c
      obtain ⟨v, rfl, r⟩ := vals1 r1
      cases r
      have c' := of_decide_eq_true c
      exact ⟨_, rfl, c'.1, c'.2, q1 G1 H1 _ .refl sm1 walkR⟩
    · exact q1.elim
  · exact q1.elim)⟩
theorem qi_range2 {e2 : Expr} (hm : X.mg "range" = none) (ha : QA X [e, e2] ms) (hg : Gl X "range" := by rfl) (hs : starEach [e, e2] X.env = [(false, eval e X.env), (false, eval e2 X.env)] := by rfl) (hs2 : starEach [e2] X.env = [(false, eval e2 X.env)] := by rfl) : QI X tg (.Call (.Name "range" p) [e, e2] [] pos) (iR2 ms) := ⟨fun pins s σ H R I ⟨ρ, S, G, sm, re, q⟩ => (pi_range2 hg hm ha hs hs2).run pins s σ H R I (by
  refine ⟨ρ, S, G, sm, re, (sat.bind q).imp fun v H1 w => ?_⟩
  obtain ⟨ds, S1, G1, le1, sm1, r1, q1⟩ := w
  split at q1
  · split at q1
    · rename_i c
      obtain ⟨v, w, rfl, r, r'⟩ := vals2' r1
      cases r; cases r'
      have c1 := of_decide_eq_true c.1
      have c2 := of_decide_eq_true c.2
      exact ⟨_, _, rfl, ⟨c1.1, c1.2, c2.1, c2.2⟩, q1 G1 H1 _ .refl sm1 walkR⟩
    · exact q1.elim
  · exact q1.elim)⟩
theorem qi_enum {elts : List Expr} {kk : Nat} {tpos : Pos} (hm : X.mg "enumerate" = none) (ha : QA X [e] ms) (hg : Gl X "enumerate" := by rfl) (hs : starEach [e] X.env = [(false, eval e X.env)] := by rfl) : QI X (.Tuple elts kk tpos) (.Call (.Name "enumerate" p) [e] [] pos) (iEn ms) := ⟨fun pins s σ H R I ⟨ρ, S, G, sm, re, q⟩ => (PI.or (pi_enum hg hm ha hs) (pi_enumT hg hm ha hs)).run pins s σ H R I (by
  match em : ms ρ S, q with
  | .ex c fs S', q =>
    refine .inl ⟨ρ, S, G, sm, re, ?_⟩
    rw [em]
    have q' : sat X _ G H ((ms ρ S).bind _) _ := q
    rw [em] at q'
    exact q'
  | .no, q =>
    have q' : sat X _ G H ((ms ρ S).bind _) _ := q
    rw [em] at q'
    exact q'.elim
  | .ok ds S1, q =>
    have q' : sat X _ G H ((ms ρ S).bind _) _ := q
    rw [em] at q'
    have q'' : sat X (fun G' (a : List D × Option Nat) (J : It) => WalkD X.K G' a.1 a.2 J) G H (enD ds S1) (fun J H' => R J H') := q'
    clear q q'
    match ds, q'' with
    | [.lst xs], q => refine .inl ⟨ρ, S, G, sm, re, ?_⟩; rw [em]; intro G' H' v le sm' rr; obtain ⟨v, rfl, r⟩ := vals1 rr; cases r with | lst a b => exact ⟨_, _, rfl, SqL.of (sm'.fr _ _ a), q G' H' _ le sm' (walkE (SqL.of a) b)⟩
    | [.src xs], q => refine .inl ⟨ρ, S, G, sm, re, ?_⟩; rw [em]; intro G' H' v le sm' rr; obtain ⟨v, rfl, r⟩ := vals1 rr; cases r with | src a b => exact ⟨_, _, rfl, SqL.mono a sm'.fr, q G' H' _ le sm' (walkE a b)⟩
    | [.tup xs], q => refine .inr ⟨ρ, S, G, sm, re, ?_⟩; rw [em]; intro G' H' v le sm' rr; obtain ⟨v, rfl, r⟩ := vals1 rr; cases r with | tup a b => exact ⟨_, _, rfl, SqT.mono a sm'.fr, q G' H' _ le sm' (walkET a b)⟩
    | [.loc n], q =>
      simp only [enD, itemsD] at q
      match hn : S1[n]?, q with
      | some (.lst xs), q => exact q.elim
      | some (.ins _ _), q => exact q.elim
      | some .dead, q => exact q.elim
      | none, q => exact q.elim
    | [.non], q => exact q.elim
    | [.bl _], q => exact q.elim
    | [.int _], q => exact q.elim
    | [.str _], q => exact q.elim
    | [.obj _ _], q => exact q.elim
    | [.cls _], q => exact q.elim
    | [.fnc _], q => exact q.elim
    | [.ty _], q => exact q.elim
    | [.dic0], q => exact q.elim
    | [], q => exact q.elim
    | _ :: _ :: _, q => exact q.elim)⟩
end
end PV
set_option Elab.async false
set_option linter.all false
set_option maxRecDepth 100000
set_option maxHeartbeats 4000000
namespace PV
open PySem PySem.Spec PyProof.Rows L2 ZL
/-! ### for -/
open Classical in
noncomputable def forL (T : Tg) (b : MS) (o : Option Nat) (all : List D) : List D → Ev → Sto → Out Fl
  | [], ρ, S => if Gd o all S then .ok (.nx ρ) S else .no
  | x :: xs, ρ, S => if Gd o all S then match setT T x ρ with
      | some ρ1 => (b ρ1 S).bind fun f S1 => match f with
        | .nx ρ' => forL T b o all xs ρ' S1
        | .ct ρ' => forL T b o all xs ρ' S1
        | .bk ρ' => .ok (.nx ρ') S1
        | .rt d => .ok (.rt d) S1
      | none => .no
    else .no
noncomputable def sFor (T : Tg) (i : MI) (b : MS) : MS := fun ρ S => (i ρ S).bind fun p S1 => forL T b p.2 p.1 p.1 ρ S1
theorem drop_cons {α : Type} {xs : List α} {i : Nat} {x : α} (h : xs[i]? = some x) : xs.drop i = x :: xs.drop (i + 1) := by
  obtain ⟨h1, h2⟩ := List.getElem?_eq_some_iff.mp h
  rw [List.drop_eq_getElem_cons h1, h2]
theorem qs_for {X : Cx} {tg iter : Expr} {body : List Stmt} {T : Tg} {mi : MI} {mb : MS} {pos : Pos} (hp : PassesOwn (model X.prog X.w) X.A X.env X.xe) (hc : X.calm = true) (hi : QI X tg iter mi) (hg : QG X tg T) (hb : QSs X body mb)
    (hs : ∀ x, foldedSetIterable iter X.env x = pure x := by intro _; rfl) : QS X (.For tg iter body [] pos) (sFor T mi mb) := qs_of (ps_for hp hc hi hg hb hs) fun ρ0 S0 G0 σ0 H0 D sm0 re0 h => by
  classical
  refine ⟨ρ0, S0, G0, sm0, re0, (satS.bind (R := fun G' a (J : It) => WalkD X.K G' a.1 a.2 J) h).imp fun J H1 w => ?_⟩
  obtain ⟨⟨xs, o⟩, S1, G1, le1, sm1, wd, q1⟩ := w
  refine ⟨fun i m σ H => m = xs.length - i ∧ i ≤ xs.length ∧ ∃ ρ S G', G1.le G' ∧ Sm X.K G' S H ∧ Re X.K G' ρ σ ∧ satS X G' H (forL T mb o xs (xs.drop i) ρ S) D,
    ⟨xs.length, rfl, Nat.zero_le _, ρ0, S1, G1, .refl, sm1, re0.mono le1.le, q1⟩, ?_⟩
  rintro i m σ H ⟨rfl, hi', ρ, S, G', le, sm, re, q⟩
  by_cases hlt : i < xs.length
  · obtain ⟨x, hx⟩ : ∃ x, xs[i]? = some x := ⟨_, List.getElem?_eq_getElem hlt⟩
    rw [drop_cons hx] at q
    unfold forL at q
    split at q
    · rename_i gd
      refine .inr ⟨wd.goes i G' S H le sm gd hlt, fun σ' H' => ∃ ρ' S' G'', G1.le G'' ∧ Sm X.K G'' S' H' ∧ Re X.K G'' ρ' σ' ∧ satS X G'' H' (forL T mb o xs (xs.drop (i + 1)) ρ' S') D, fun σ' H' z => ⟨xs.length - (i + 1), by omega, rfl, hlt, z⟩, fun v H' y => ?_⟩
      obtain ⟨G'', st, sm', rv⟩ := wd.yields i G' S H v H' x le sm gd hx y
      split at q
      · rename_i ρ1 hset
        refine ⟨x, ρ, ρ1, G'', sm'.fr, re.mono st.le, rv, hset, fun σ2 re2 _ => ⟨ρ1, S, G'', sm', re2, ?_⟩⟩
        have q2 := q.mono st
        clear q
        match mb ρ1 S, q2 with
        | .ok (.nx ρ') S', q2 => exact fun G3 H3 σ3 st3 sm3 re3 => ⟨ρ', S', G3, le.trans (st.le.trans st3.le), sm3, re3, q2.mono st3⟩
        | .ok (.ct ρ') S', q2 => exact fun G3 H3 σ3 st3 sm3 re3 => ⟨ρ', S', G3, le.trans (st.le.trans st3.le), sm3, re3, q2.mono st3⟩
        | .ok (.bk ρ') S', q2 => exact q2
        | .ok (.rt d) S', q2 => exact q2
        | .ex _ _ _, q2 => exact q2
        | .no, q2 => exact q2
      · exact q.elim
    · exact q.elim
  · have e : i = xs.length := by omega
    subst e
    rw [List.drop_length] at q
    unfold forL at q
    split at q
    · rename_i gd
      exact .inl ⟨wd.stops G' S H le sm gd, q G' H σ .refl sm re⟩
    · exact q.elim
theorem forL_nil {T : Tg} {b : MS} {all : List D} {ρ : Ev} {S : Sto} : forL T b none all [] ρ S = .ok (.nx ρ) S := by
  unfold forL
  rw [if_pos (show Gd none all S from trivial)]
theorem forL_cons {T : Tg} {b : MS} {all : List D} {ρ : Ev} {S : Sto} {x : D} {xs : List D} : forL T b none all (x :: xs) ρ S = match setT T x ρ with
      | some ρ1 => (b ρ1 S).bind fun f S1 => match f with
        | .nx ρ' => forL T b none all xs ρ' S1
        | .ct ρ' => forL T b none all xs ρ' S1
        | .bk ρ' => .ok (.nx ρ') S1
        | .rt d => .ok (.rt d) S1
      | none => .no := by
  conv => lhs; unfold forL
  rw [if_pos (show Gd none all S from trivial)]
/-! ### list comprehensions -/
def wipeD (ρ : Ev) : List Nat → Ev
  | [] => ρ
  | v :: vs => (wipeD ρ vs).set v none
theorem Re.wipe {K : PySem.W.Frag} {G : Gh} {ρ : Ev} {σ : L2.St} (h : Re K G ρ σ) : ∀ vs : List Nat, Re K G (wipeD ρ vs) (L2.wipe σ vs)
  | [] => h
  | v :: vs => (Re.wipe h vs).forget v none
def tYs : MT := fun _ S => .ok true S
open Classical in
noncomputable def lcL (T : Tg) (t : MT) (e : ME) (o : Option Nat) (all : List D) (ρ : Ev) : List D → Sto → Out (List D)
  | [], S => if Gd o all S then .ok [] S else .no
  | x :: xs, S => if Gd o all S then match setT T x ρ with
      | some ρ1 => match t ρ1 S with
        | .ok true S1 => match e ρ1 S1 with
          | .ok d S2 => match lcL T t e o all ρ xs S2 with
            | .ok ds S3 => .ok (d :: ds) S3
            | _ => .no
          | _ => .no
        | .ok false S1 => lcL T t e o all ρ xs S1
        | _ => .no
      | none => .no
    else .no
noncomputable def lcO (T : Tg) (i : MI) (t : MT) (e : ME) : MA := fun ρ S => (i ρ S).bind fun p S1 => if p.1.length ≤ 1000 then lcL T t e p.2 p.1 (wipeD ρ T.slots) p.1 S1 else .no
noncomputable def lcE (T : Tg) (i : MI) (t : MT) (e : ME) : ME := fun ρ S => (lcO T i t e ρ S).bind fun ds S1 => .ok (.lst ds) S1
noncomputable def lcM (T : Tg) (i : MI) (t : MT) (e : ME) : ME := fun ρ S => (lcO T i t e ρ S).bind fun ds S1 => .ok (.loc S1.length) (S1 ++ [.lst ds])
/-- nothing is raised -/
def satN {α β : Type} (K : PySem.W.Frag) (R : Gh → α → β → Prop) (G : Gh) (H : Hp) (o : Out α) (Q : β → Hp → Prop) : Prop := match o with
  | .ok a S' => ∀ G' H' b, Stp G H G' H' → Sm K G' S' H' → R G' a b → Q b H'
  | _ => False
theorem satN.sat {α β : Type} {X : Cx} {R : Gh → α → β → Prop} {G : Gh} {H : Hp} {o : Out α} {Q : β → Hp → Prop} (h : satN X.K R G H o Q) : sat X R G H o Q := by
  match o, h with
  | .ok _ _, h => exact h
def tEn (K : PySem.W.Frag) (m : ME) : TE := fun σ H Q => ∃ ρ S G, Sm K G S H ∧ Re K G ρ σ ∧ satN K (Rp K) G H (m ρ S) Q
def tTn (K : PySem.W.Frag) (m : MT) : TT := fun σ H Q => ∃ ρ S G, Sm K G S H ∧ Re K G ρ σ ∧ satN K (fun _ a b => a = b) G H (m ρ S) Q
theorem QE.n {X : Cx} {e : Expr} {m : ME} (h : QE X e m) : PE X e (tEn X.K m) := ⟨fun pins s σ H Q I ⟨ρ, S, G, sm, re, q⟩ => h.run pins s σ H Q I ⟨ρ, S, G, sm, re, q.sat⟩⟩
theorem QT.n {X : Cx} {e : Expr} {m : MT} (h : QT X e m) : PT X e (tTn X.K m) := ⟨fun pins s σ H Q I ⟨ρ, S, G, sm, re, q⟩ => h.run pins s σ H Q I ⟨ρ, S, G, sm, re, q.sat⟩⟩
theorem pts_yes {X : Cx} : PTs X [] (tTn X.K tYs) := ⟨fun pins s σ H Q I ⟨ρ, S, G, sm, re, q⟩ => pts_nil.run pins s σ H Q I (q G H true .refl sm rfl)⟩
/-- the reading of a comprehension -/
theorem lc_rd {X : Cx} {T : Tg} {mi : MI} {mt : MT} {me : ME} {K : PySem.W.Frag} (hK : X.K = K) {ρ0 : Ev} {S0 : Sto} {G0 : Gh} {σ0 : L2.St} {H0 : Hp} {Q : VK} {fz : Bool} (sm0 : Sm X.K G0 S0 H0) (re0 : Re X.K G0 ρ0 σ0)
    (h : sat X (Rp X.K) G0 H0 ((lcO T mi mt me ρ0 S0).bind fun ds S1 => if fz = true then .ok (.lst ds) S1 else .ok (.loc S1.length) (S1 ++ [.lst ds])) Q) :
    tLc (tI X mi) (fun v σ H Q => ∃ d ρ ρ' G, (∀ a o, G.F a = some o → H a = some o) ∧ Re K G ρ σ ∧ Rp K G d v ∧ setT T d ρ = some ρ' ∧ ∀ σ', Re K G ρ' σ' → (∀ vs, (∀ i ∈ T.slots, i ∈ vs) → wipe σ' vs = wipe σ vs) → Q σ' H) (tTn K mt) (tEn K me) T.slots σ0 H0 Q := by
  classical
  subst hK
  have h' : sat X (Rp X.K) G0 H0 ((mi ρ0 S0).bind fun p S1 => (if p.1.length ≤ 1000 then lcL T mt me p.2 p.1 (wipeD ρ0 T.slots) p.1 S1 else .no).bind fun ds S1 => if fz = true then .ok (.lst ds) S1 else .ok (.loc S1.length) (S1 ++ [.lst ds])) Q := by
    have e : ∀ (o : Out (List D × Option Nat)) (f : List D × Option Nat → Sto → Out (List D)) (g : List D → Sto → Out D), (o.bind f).bind g = o.bind fun p S => (f p S).bind g := fun o f g => by cases o <;> rfl
    have h2 := h
    unfold lcO at h2
    rw [e] at h2
    exact h2
  refine ⟨ρ0, S0, G0, sm0, re0, (sat.bind (R := fun G' a (J : It) => WalkD X.K G' a.1 a.2 J) h').imp fun J H1 w => ?_⟩
  obtain ⟨⟨xs, o⟩, S1, G1, st1, sm1, wd, q1⟩ := w
  intro p hp
  have q1' : sat X (Rp X.K) G1 H1 ((if xs.length ≤ 1000 then lcL T mt me o xs (wipeD ρ0 T.slots) xs S1 else .no).bind fun ds S1 => if fz = true then .ok (.lst ds) S1 else .ok (.loc S1.length) (S1 ++ [.lst ds])) Q := q1
  by_cases hlen : xs.length ≤ 1000
  · rw [if_pos hlen] at q1'
    have re1 := (re0.mono st1.le).wipe T.slots
    -- the invariant
    refine ⟨fun i m H => m = xs.length - i ∧ i ≤ xs.length ∧ ∃ S G' acc vs, Stp G1 H1 G' H ∧ Sm X.K G' S H ∧ H p = some (.lst vs) ∧ G'.F p = none ∧ (∀ n, G'.f n ≠ some p) ∧ Rps X.K G' acc vs ∧ acc.length ≤ i ∧
      sat X (Rp X.K) G1 H1 ((match lcL T mt me o xs (wipeD ρ0 T.slots) (xs.drop i) S with | .ok ds S3 => .ok (acc ++ ds) S3 | _ => .no : Out (List D)).bind fun ds S1 => if fz = true then .ok (.lst ds) S1 else .ok (.loc S1.length) (S1 ++ [.lst ds])) Q,
      ⟨xs.length, rfl, Nat.zero_le _, S1, G1, [], [], Stp.refl.at hp, sm1.other (sm1.free hp) (fun n e => by obtain ⟨u, hu⟩ := sm1.dn n p e; rw [hp] at hu; cases hu), upd_same, sm1.free hp, (fun n e => by obtain ⟨u, hu⟩ := sm1.dn n p e; rw [hp] at hu; cases hu), .nil, Nat.le_refl _, ?_⟩, ?_⟩
    · rw [List.drop_zero]
      match hl : lcL T mt me o xs (wipeD ρ0 T.slots) xs S1, q1' with
      | .ok ds S3, q => exact q
      | .ex _ _ _, q =>
        exfalso
        have never : ∀ (ys : List D) (S : Sto) c fs S', lcL T mt me o xs (wipeD ρ0 T.slots) ys S ≠ .ex c fs S' := by
          intro ys
          induction ys with
          | nil => intro S c fs S'; unfold lcL; split <;> simp
          | cons y ys ih =>
            intro S c fs S'
            unfold lcL
            split
            · split
              · split
                · split
                  · split <;> simp
                  · simp
                · exact ih _ _ _ _
                · simp
              · simp
            · simp
        exact never _ _ _ _ _ hl
      | .no, q => exact q.elim
    rintro i m H ⟨rfl, hi, S, G', acc, vs, st, sm, hH, hF, hn, ra, hacc, q⟩
    by_cases hlt : i < xs.length
    · obtain ⟨x, hx⟩ : ∃ x, xs[i]? = some x := ⟨_, List.getElem?_eq_getElem hlt⟩
      rw [drop_cons hx] at q
      unfold lcL at q
      split at q
      rotate_left
      · exact q.elim
      rename_i ds' S3' hl
      split at hl
      · rename_i gd
        refine .inr ⟨wd.goes i G' S H st.le sm gd hlt, fun H' => ∃ S G' acc vs, Stp G1 H1 G' H' ∧ Sm X.K G' S H' ∧ H' p = some (.lst vs) ∧ G'.F p = none ∧ (∀ n, G'.f n ≠ some p) ∧ Rps X.K G' acc vs ∧ acc.length ≤ i + 1 ∧
          sat X (Rp X.K) G1 H1 ((match lcL T mt me o xs (wipeD ρ0 T.slots) (xs.drop (i + 1)) S with | .ok ds S3 => .ok (acc ++ ds) S3 | _ => .no : Out (List D)).bind fun ds S1 => if fz = true then .ok (.lst ds) S1 else .ok (.loc S1.length) (S1 ++ [.lst ds])) Q, fun H' z => ⟨xs.length - (i + 1), by omega, rfl, hlt, z⟩, fun v H' y => ?_⟩
        obtain ⟨G2, st2, sm2, rv⟩ := wd.yields i G' S H v H' x st.le sm gd hx y
        split at hl
        · rename_i ρ1 hset
          refine ⟨x, wipeD ρ0 T.slots, ρ1, G2, sm2.fr, (re1.mono st.le).mono st2.le, rv, hset, fun σ2 re2 hw => ⟨?_, ?_⟩⟩
          · rw [hw T.slots fun _ z => z]
            have idem : ∀ (us vs : List Nat), (∀ i ∈ us, i ∈ vs) → wipe (wipe σ0 us) vs = wipe σ0 vs := by
              intro us
              induction us with
              | nil => intro vs _; rfl
              | cons u us ih =>
                intro vs hv
                show wipe ((wipe σ0 us).set u none) vs = _
                rw [wipe_set (hv u List.mem_cons_self)]
                exact ih vs fun k hk => hv k (List.mem_cons_of_mem _ hk)
            exact idem _ _ fun _ z => z
          · refine ⟨ρ1, S, G2, sm2, re2, ?_⟩
            have hp2 : H' p = some (.lst vs) := st2.frm p _ hH hn
            have keep : ∀ {G3 : Gh} {H3 : Hp}, Stp G2 H' G3 H3 → H3 p = some (.lst vs) ∧ G3.F p = none ∧ ∀ n, G3.f n ≠ some p := fun {G3 H3} s3 => by
              have s := st2.trans s3
              refine ⟨s.frm p _ hH hn, ?_, fun n e => ?_⟩
              · cases e : G3.F p with
                | none => rfl
                | some u =>
                  rcases s.fro p u e with z | z | ⟨n, z⟩
                  · rw [hF] at z; cases z
                  · rw [hH] at z; cases z
                  · exact absurd z (hn n)
              · rcases s.new n p e with z | z
                · exact hn n z
                · rw [hH] at z; cases z
            split at hl
            · rename_i S4 ht
              rw [ht]
              intro G3 H3 b s3 sm3 eb
              subst eb
              refine ⟨ρ1, S4, G3, sm3, re2.mono s3.le, ?_⟩
              split at hl
              · rename_i d S5 he
                rw [he]
                intro G4 H4 w s4 sm4 rw4
                obtain ⟨k1, k2, k3⟩ := keep (s3.trans s4)
                refine ⟨vs, k1, ?_, S5, G4, acc ++ [d], vs ++ [w], ((st.trans st2).trans (s3.trans s4)).at hp, sm4.other k2 k3, upd_same, k2, k3, ?_, ?_, ?_⟩
                · rw [ra.length, sizeLine_eq]; omega
                · exact (((ra.mono st2.le).mono s3.le).mono s4.le).append (.cons rw4 .nil)
                · simp; omega
                · split at hl
                  · rename_i ds2 S6 hl2
                    cases hl
                    have e2 : acc ++ [d] ++ ds2 = acc ++ d :: ds2 := by simp
                    simp only [e2]
                    exact q
                  · cases hl
              · cases hl
            · rename_i S4 ht
              rw [ht]
              intro G3 H3 b s3 sm3 eb
              subst eb
              obtain ⟨k1, k2, k3⟩ := keep s3
              refine ⟨S4, G3, acc, vs, (st.trans st2).trans s3, sm3, k1, k2, k3, (ra.mono st2.le).mono s3.le, by omega, ?_⟩
              rw [hl]
              exact q
            · cases hl
        · cases hl
      · cases hl
    · have e : i = xs.length := by omega
      subst e
      rw [List.drop_length] at q
      unfold lcL at q
      by_cases gd : Gd o xs S
      · rw [if_pos gd] at q
        refine .inl ⟨wd.stops G' S H st.le sm gd, ?_⟩
        have q2 : sat X (Rp X.K) G1 H1 (if fz = true then .ok (.lst (acc ++ [])) S else .ok (.loc S.length) (S ++ [.lst (acc ++ [])])) Q := q
        rw [List.append_nil] at q2
        cases fz with
        | true =>
          have q3 : sat X (Rp X.K) G1 H1 (.ok (.lst acc) S) Q := q2
          exact q3 (G'.put p (.lst vs)) H _ (st.add hp hF) (sm.tell hH hn) (.lst upd_same (ra.mono (Gh.put_le hF)))
        | false =>
          have q3 : sat X (Rp X.K) G1 H1 (.ok (.loc S.length) (S ++ [.lst acc])) Q := q2
          have hnl : G'.le (G'.new S.length p) := sm.new_le
          refine q3 (G'.new S.length p) H _ ⟨st.le.trans hnl, st.dom, st.frm, fun n a h => ?_, st.fro⟩ ?_ (.loc Gh.new_at)
          · have h' : (if n = S.length then some p else G'.f n) = some a := h
            by_cases z : n = S.length
            · rw [if_pos z] at h'
              cases h'
              exact .inr hp
            · rw [if_neg z] at h'
              exact st.new n a h'
          · exact sm.adopt hH hF hn ⟨vs, hH, ra.mono hnl⟩
      · rw [if_neg gd] at q
        exact q.elim
  · rw [if_neg hlen] at q1'
    exact q1'.elim
end PV
set_option Elab.async false
set_option linter.all false
set_option maxRecDepth 100000
set_option maxHeartbeats 4000000
namespace PV
open PySem PySem.Spec PyProof.Rows L2 ZL
section
variable {X : Cx} {elt tg iter : Expr} {ifs : List Expr} {scope : Scope} {own : List (Str × Nat)} {pos : Pos} {mi : MI} {T : Tg} {mt : MT} {me : ME}
theorem qe_lc (T : Tg) (hown : own.map (·.2) = T.slots) (hc : X.calm = true) (hN : X.N.Nodup) (hi : QI X tg iter mi) (ok : BlkOk X.N X.env.scope scope own)
    (hg : ∀ (s : Shared) (H : Hp) (C : Addr) (cl : List (Str × Addr)) (fp : List Addr), QG (X.blk s H scope (compEnvC scope cl C X.env) fp) tg T)
    (ht : ∀ (s : Shared) (H : Hp) (C : Addr) (cl : List (Str × Addr)) (fp : List Addr), PTs (X.blk s H scope (compEnvC scope cl C X.env) fp) ifs (tTn X.K mt))
    (he : ∀ (s : Shared) (H : Hp) (C : Addr) (cl : List (Str × Addr)) (fp : List Addr), QE (X.blk s H scope (compEnvC scope cl C X.env) fp) elt me) (hs : ∀ x, foldedSetIterable iter X.env x = pure x := by intro _; rfl) :
    QE X (.ListComp elt [⟨tg, iter, ifs, 0⟩] scope pos) (lcE T mi mt me) :=
  qe_of (pe_lc hc hN hi ok hg ht (fun s H C cl fp => (he s H C cl fp).n) hs) fun ρ S G σ H Q sm re h => by
    rw [hown]
    exact lc_rd (fz := true) rfl sm re h
theorem qe_lcM (T : Tg) (hown : own.map (·.2) = T.slots) (hc : X.calm = true) (hN : X.N.Nodup) (hi : QI X tg iter mi) (ok : BlkOk X.N X.env.scope scope own)
    (hg : ∀ (s : Shared) (H : Hp) (C : Addr) (cl : List (Str × Addr)) (fp : List Addr), QG (X.blk s H scope (compEnvC scope cl C X.env) fp) tg T)
    (ht : ∀ (s : Shared) (H : Hp) (C : Addr) (cl : List (Str × Addr)) (fp : List Addr), PTs (X.blk s H scope (compEnvC scope cl C X.env) fp) ifs (tTn X.K mt))
    (he : ∀ (s : Shared) (H : Hp) (C : Addr) (cl : List (Str × Addr)) (fp : List Addr), QE (X.blk s H scope (compEnvC scope cl C X.env) fp) elt me) (hs : ∀ x, foldedSetIterable iter X.env x = pure x := by intro _; rfl) :
    QE X (.ListComp elt [⟨tg, iter, ifs, 0⟩] scope pos) (lcM T mi mt me) :=
  qe_of (pe_lc hc hN hi ok hg ht (fun s H C cl fp => (he s H C cl fp).n) hs) fun ρ S G σ H Q sm re h => by
    rw [hown]
    exact lc_rd (fz := false) rfl sm re h
/-- y = [..] on one row -/
theorem qs_setLc (i : Nat) {y : Str} {py spos : Pos} (T : Tg) (hown : own.map (·.2) = T.slots) (hc : X.calm = true) (hN : X.N.Nodup) (hi : QI X tg iter mi) (ok : BlkOk X.N X.env.scope scope own)
    (hg : ∀ (s : Shared) (H : Hp) (C : Addr) (cl : List (Str × Addr)) (fp : List Addr), QG (X.blk s H scope (compEnvC scope cl C X.env) fp) tg T)
    (ht : ∀ (s : Shared) (H : Hp) (C : Addr) (cl : List (Str × Addr)) (fp : List Addr), PTs (X.blk s H scope (compEnvC scope cl C X.env) fp) ifs (tTn X.K mt))
    (he : ∀ (s : Shared) (H : Hp) (C : Addr) (cl : List (Str × Addr)) (fp : List Addr), QE (X.blk s H scope (compEnvC scope cl C X.env) fp) elt me)
    (hy : X.N[i]? = some y := by rfl) (hyl : X.env.scope.names.lookup y = some .local := by rfl)
    (hsw : swapsWith (.ListComp elt [⟨tg, iter, ifs, 0⟩] scope pos) (some (.Name y py)) spos.line X.env = pure true := by rfl) (hs : ∀ x, foldedSetIterable iter X.env x = pure x := by intro _; rfl) :
    QS X (.Assign [.Name y py] (.ListComp elt [⟨tg, iter, ifs, 0⟩] scope pos) spos) (sSet i (lcE T mi mt me)) :=
  qs_of (ps_setLc (te := tEn X.K me) hc hN hy hyl hsw hi ok hg ht (fun s H C cl fp => (he s H C cl fp).n) hs) fun ρ S G σ H D sm re h => by
    rw [hown]
    refine lc_rd (fz := true) rfl sm re ?_
    have z := satS.bind (R := Rp X.K) h
    exact z.imp fun x H1 w => by
      obtain ⟨d, S1, G1, le1, sm1, r1, q1⟩ := w
      exact q1 G1 H1 _ .refl sm1 ((re.mono le1.le).set i r1)
theorem qs_setLcM (i : Nat) {y : Str} {py spos : Pos} (T : Tg) (hown : own.map (·.2) = T.slots) (hc : X.calm = true) (hN : X.N.Nodup) (hi : QI X tg iter mi) (ok : BlkOk X.N X.env.scope scope own)
    (hg : ∀ (s : Shared) (H : Hp) (C : Addr) (cl : List (Str × Addr)) (fp : List Addr), QG (X.blk s H scope (compEnvC scope cl C X.env) fp) tg T)
    (ht : ∀ (s : Shared) (H : Hp) (C : Addr) (cl : List (Str × Addr)) (fp : List Addr), PTs (X.blk s H scope (compEnvC scope cl C X.env) fp) ifs (tTn X.K mt))
    (he : ∀ (s : Shared) (H : Hp) (C : Addr) (cl : List (Str × Addr)) (fp : List Addr), QE (X.blk s H scope (compEnvC scope cl C X.env) fp) elt me)
    (hy : X.N[i]? = some y := by rfl) (hyl : X.env.scope.names.lookup y = some .local := by rfl)
    (hsw : swapsWith (.ListComp elt [⟨tg, iter, ifs, 0⟩] scope pos) (some (.Name y py)) spos.line X.env = pure true := by rfl) (hs : ∀ x, foldedSetIterable iter X.env x = pure x := by intro _; rfl) :
    QS X (.Assign [.Name y py] (.ListComp elt [⟨tg, iter, ifs, 0⟩] scope pos) spos) (sSet i (lcM T mi mt me)) :=
  qs_of (ps_setLc (te := tEn X.K me) hc hN hy hyl hsw hi ok hg ht (fun s H C cl fp => (he s H C cl fp).n) hs) fun ρ S G σ H D sm re h => by
    rw [hown]
    refine lc_rd (fz := false) rfl sm re ?_
    have z := satS.bind (R := Rp X.K) h
    exact z.imp fun x H1 w => by
      obtain ⟨d, S1, G1, le1, sm1, r1, q1⟩ := w
      exact q1 G1 H1 _ .refl sm1 ((re.mono le1.le).set i r1)
theorem qts_one {c : Expr} {t : MT} (h : QT X c t) : PTs X [c] (tTn X.K t) := pts_one h.n
end
/-! ### targets of assignments -/
def sAsg (T : Tg) (m : ME) : MS := fun ρ S => (m ρ S).bind fun d S1 => match setT T d ρ with
  | some ρ' => .ok (.nx ρ') S1
  | none => .no
/-- a, b = x, y: both local names -/
def sPar (i j : Nat) (ms : MA) : MS := fun ρ S => (ms ρ S).bind fun ds S1 => match ds with
  | [d, e] => .ok (.nx ((ρ.set i (some d)).set j (some e))) S1
  | _ => .no
/-- o[i] = e -/
def sSub (o i m : ME) : MS := fun ρ S => (m ρ S).bind fun y S1 => (o ρ S1).bind fun x S2 => (i ρ S2).bind fun k S3 => match x, k with
  | .loc n, .int k => match S3[n]? with
    | some (.lst xs) => match ixN xs.length k with
      | some j => .ok (.nx ρ) (S3.set n (.lst (xs.set j y)))
      | none => .no
    | _ => .no
  | _, _ => .no
section
variable {X : Cx} {e tg : Expr} {m : ME} {pos : Pos}
theorem qs_asg {T : Tg} (h : QE X e m) (hg : QG X tg T) (hs : swapsWithSole [tg] e pos.line X.env = pure false := by rfl) (hw : swappedStores [tg] e X.env = pure none := by rfl)
    (h1 : (assignEach [tg] X.env).map (·.2) = [assign tg X.env] := by rfl) : QS X (.Assign [tg] e pos) (sAsg T m) := qs_of (ps_asg h hg hs hw h1) fun ρ S G σ H D sm re z => by
  refine ⟨ρ, S, G, sm, re, (satS.bind z).imp fun x H1 w => ?_⟩
  obtain ⟨d, S1, G1, le1, sm1, r1, q1⟩ := w
  match hs : setT T d ρ, q1 with
  | some ρ', q1 =>
    refine ⟨d, ρ, ρ', G1, sm1.fr, re.mono le1.le, r1, hs, fun σ' re' _ => ?_⟩
    exact q1 G1 H1 σ' .refl sm1 re'
  | none, q1 => exact q1.elim
theorem qs_par (i j : Nat) {x y : Str} {a b : Expr} {ms : MA} {px py pt : Pos} {kt k2 pt2} (hc : X.calm = true) (ha : QA X [a, b] ms) (hN : X.N.Nodup) (hi : X.N[i]? = some x := by rfl) (hj : X.N[j]? = some y := by rfl) (hij : i ≠ j := by decide)
    (hx : X.env.scope.names.lookup x = some .local := by rfl) (hy : X.env.scope.names.lookup y = some .local := by rfl)
    (hw : swappedStores [.Tuple [.Name x px, .Name y py] kt pt] (.Tuple [a, b] k2 pt2) X.env = pure (some [x, y]) := by rfl)
    (hs : swapsWithSole [.Tuple [.Name x px, .Name y py] kt pt] (.Tuple [a, b] k2 pt2) pos.line X.env = pure false := by rfl) :
    QS X (.Assign [.Tuple [.Name x px, .Name y py] kt pt] (.Tuple [a, b] k2 pt2) pos) (sPar i j ms) := qs_of (ps_par hc hN hi hj hij hx hy ha hw hs) fun ρ S G σ H D sm re z => by
  refine ⟨ρ, S, G, sm, re, (satS.bind z).imp fun vs H1 w => ?_⟩
  obtain ⟨ds, S1, G1, le1, sm1, r1, q1⟩ := w
  match ds, r1, q1 with
  | [d, e], r1, q1 =>
    obtain ⟨v, w, rfl, rv, rw'⟩ := vals2' r1
    exact ⟨v, w, rfl, q1 G1 H1 _ .refl sm1 (((re.mono le1.le).set i rv).set j rw')⟩
  | [], _, q1 => exact q1.elim
  | [_], _, q1 => exact q1.elim
  | _ :: _ :: _ :: _, _, q1 => exact q1.elim
theorem qs_sub {o i : Expr} {mo mi : ME} {p : Pos} (ho : QE X o mo) (hi : QE X i mi) (h : QE X e m)
    (ha : ∀ v, assign (.Subscript o i p) X.env v = (do
      let ov ← holding [v] (eval o X.env)
      let iv ← holding [v, ov] (eval i X.env)
      standAt p
      holding [v, ov, iv] (setItem ov iv v)
      release [v, ov, iv] []) := by intro _; rfl)
    (hs : swapsWithSole [.Subscript o i p] e pos.line X.env = pure false := by rfl) (hw : swappedStores [.Subscript o i p] e X.env = pure none := by rfl)
    (h1 : (assignEach [.Subscript o i p] X.env).map (·.2) = [assign (.Subscript o i p) X.env] := by rfl) : QS X (.Assign [.Subscript o i p] e pos) (sSub mo mi m) := qs_of (ps_asg h (pg_sub ho hi set_list ha) hs hw h1) fun ρ S G σ H D sm re z => by
  refine ⟨ρ, S, G, sm, re, (satS.bind z).imp fun v H1 w => ?_⟩
  obtain ⟨y, S1, G1, le1, sm1, r1, q1⟩ := w
  refine ⟨ρ, S1, G1, sm1, re.mono le1.le, (satS.bind q1).imp fun v2 H2 w => ?_⟩
  obtain ⟨x, S2, G2, le2, sm2, r2, q2⟩ := w
  refine ⟨ρ, S2, G2, sm2, (re.mono le1.le).mono le2.le, (satS.bind q2).imp fun v3 H3 w => ?_⟩
  obtain ⟨k, S3, G3, le3, sm3, r3, q3⟩ := w
  split at q3
  · cases r3
    split at q3
    · rename_i xs hl
      split at q3
      · rename_i j hj
        obtain ⟨a, vs, rfl, hf, ha', rr⟩ := sm3.list hl (r2.mono le3.le)
        refine ⟨a, vs, _, j, rfl, rfl, ha', by rw [rr.length]; exact hj, ?_⟩
        exact q3 G3 _ σ (Stp.write hf) (sm3.write hl (by simp) hf ⟨_, upd_same, rr.set j ((r1.mono le2.le).mono le3.le)⟩) (((re.mono le1.le).mono le2.le).mono le3.le)
      · exact q3.elim
    · exact q3.elim
  · exact q3.elim
end
/-! ### methods of lists -/
def appG (x : D) (ds : List D) (S : Sto) : Out D := match x, ds with
  | .loc n, [y] => match S[n]? with
    | some (.lst xs) => if xs.length ≤ 1000 then .ok .non (S.set n (.lst (xs ++ [y]))) else .no
    | _ => .no
  | _, _ => .no
def extG (x : D) (ds : List D) (S : Sto) : Out D := match x, ds with
  | .loc n, [.lst ys] => match S[n]? with
    | some (.lst xs) => if xs.length + ys.length ≤ 1000 then .ok .non (S.set n (.lst (xs ++ ys))) else .no
    | _ => .no
  | _, _ => .no
def mth (g : D → List D → Sto → Out D) (o : ME) (ms : MA) : ME := fun ρ S => (o ρ S).bind fun x S1 => (ms ρ S1).bind fun ds S2 => g x ds S2
section
variable {X : Cx} {o e : Expr} {es : List Expr} {mo : ME} {ms : MA} {apos cpos : Pos}
def MtF (X : Cx) (id : String) (g : D → List D → Sto → Out D) : Prop := MtR X id (fun v vs H Q => ∃ x ds S G, Sm X.K G S H ∧ Rp X.K G x v ∧ Rps X.K G ds vs ∧ sat X (Rp X.K) G H (g x ds S) Q)
theorem mf_append : MtF X "list.append" appG := fun pins s σ H v vs u us Q I rv rs ⟨x, ds, S, G, sm, rx, rd, h⟩ => by
  unfold appG at h
  split at h
  · split at h
    · rename_i n y xs hl
      split at h
      · rename_i hz
        obtain ⟨a, ws, rfl, hf, ha, rr⟩ := sm.list hl rx
        obtain ⟨z, rfl, rz⟩ := vals1 rd
        refine mt_append pins s σ H _ _ u us Q I rv rs ⟨a, ws, z, rfl, rfl, ha, by rw [rr.length, sizeLine_eq]; omega, ?_⟩
        exact h G _ _ (Stp.write hf) (sm.write hl (by simp) hf ⟨_, upd_same, rr.append (.cons rz .nil)⟩) .non
      · exact h.elim
    · exact h.elim
  · exact h.elim
theorem mf_extend : MtF X "list.extend" extG := fun pins s σ H v vs u us Q I rv rs ⟨x, ds, S, G, sm, rx, rd, h⟩ => by
  unfold extG at h
  split at h
  · split at h
    · rename_i n y xs hl
      split at h
      · rename_i hz
        obtain ⟨a, ws, rfl, hf, ha, rr⟩ := sm.list hl rx
        obtain ⟨z, rfl, rz⟩ := vals1 rd
        cases rz with
        | lst h1 r1 =>
          refine mt_extend pins s σ H _ _ u us Q I rv rs ⟨a, _, ws, _, rfl, rfl, ha, sm.fr _ _ h1, by rw [rr.length, r1.length, sizeLine_eq]; omega, ?_⟩
          exact h G _ _ (Stp.write hf) (sm.write hl (by simp) hf ⟨_, upd_same, rr.append r1⟩) .non
      · exact h.elim
    · exact h.elim
  · exact h.elim
/-- o.m(..) of a list that may be written -/
def isLoc (S : Sto) : D → Bool
  | .loc n => match S[n]? with
    | some (.lst _) => true
    | _ => false
  | _ => false
def mthL (g : D → List D → Sto → Out D) (o : ME) (ms : MA) : ME := fun ρ S => (o ρ S).bind fun x S1 => if isLoc S1 x = true then (ms ρ S1).bind fun ds S2 => g x ds S2 else .no
theorem qe_mthL {id : String} {name : Str} {g : D → List D → Sto → Out D} (slot : Slot "list" name id) (hty : typeOf (.builtin id) = pure (.type "method_descriptor")) (hm : MtF X id g) (ho : QE X o mo) (ha : QA X (e :: es) ms)
    (hbase : attributeBase o name X.env (eval o X.env) = eval o X.env := by rfl)
    (hfew : ((backTo cpos (starEach (e :: es) X.env)).all (fun x => !x.1) && (backToKw cpos (keywordEach [] X.env)).all (fun x => x.1.isSome) && decide ((e :: es).length + ([] : List Keyword).length + (if ([] : List Keyword).isEmpty then 0 else 1) < 30)) = true := by rfl)
    (hline : (apos.endLine == cpos.line) = true := by rfl) (hs : starEach (e :: es) X.env = (false, eval e X.env) :: starEach es X.env := by rfl) (hplain : (backTo cpos (starEach es X.env)).any (·.1) = false := by rfl) :
    QE X (.Call (.Attribute o name apos) (e :: es) [] cpos) (mthL g mo ms) := qe_of (pe_bm PySem.F.plainAttrs_list slot hty hm ho ha hbase hfew hline hs hplain) fun ρ S G σ H Q sm re h => by
  refine ⟨ρ, S, G, sm, re, (sat.bind h).imp fun v H1 w => ?_⟩
  obtain ⟨x, S1, G1, le1, sm1, r1, q1⟩ := w
  split at q1
  · rename_i hl
    match x, hl with
    | .loc n, hl =>
      have hl : (match S1[n]? with | some (.lst _) => true | _ => false) = true := hl
      match hn : S1[n]?, hl with
      | some (.lst xs), hl =>
        obtain ⟨a, vs, rfl, hf, ha', rr⟩ := sm1.list hn r1
        refine ⟨.inl ⟨rfl, _, SqL.of ha'⟩, ρ, S1, G1, sm1, re.mono le1.le, (sat.bind q1).imp fun us H2 w => ?_⟩
        obtain ⟨ds, S2, G2, le2, sm2, r2, q2⟩ := w
        exact ⟨.loc n, ds, S2, G2, sm2, r1.mono le2.le, r2, q2⟩
      | some (.ins _ _), hl => simp [hn] at hl
      | some .dead, hl => simp [hn] at hl
      | none, hl => simp [hn] at hl
  · exact q1.elim
end
/-! ### methods of texts -/
def isStr : D → Bool
  | .str _ => true
  | _ => false
def mthS (g : D → D → Sto → Out D) (o m : ME) : ME := fun ρ S => (o ρ S).bind fun x S1 => if isStr x = true then (m ρ S1).bind fun y S2 => g x y S2 else .no
def joinG : G2 := fun x y S => match x with
  | .str a => match y with
    | .lst ys => match asStrs ys with
      | some zs => if (zs.map (·.length)).sum + zs.length * a.length ≤ 16777216 then .ok (.str (Txt.join a zs)) S else .no
      | none => .no
    | .tup ys => match asStrs ys with
      | some zs => if (zs.map (·.length)).sum + zs.length * a.length ≤ 16777216 then .ok (.str (Txt.join a zs)) S else .no
      | none => .no
    | .loc n => match S[n]? with
      | some (.lst ys) => match asStrs ys with
        | some zs => if (zs.map (·.length)).sum + zs.length * a.length ≤ 16777216 then .ok (.str (Txt.join a zs)) S else .no
        | none => .no
      | _ => .no
    | _ => .no
  | _ => .no
def splitG : G2 := fun x y S => match x, y with
  | .str a, .str b => if (b.length == 0) = false ∧ a.length + 2 ≤ sizeLine then .ok (.lst ((Txt.split a b).map .str)) S else .no
  | _, _ => .no
theorem Rps.strs {K : PySem.W.Frag} {G : Gh} : ∀ ys : List Str, Rps K G (ys.map .str) (ys.map V.str)
  | [] => .nil
  | y :: ys => .cons (.str y) (Rps.strs ys)
theorem Rps.ints {K : PySem.W.Frag} {G : Gh} : ∀ ys : List Int, Rps K G (ys.map .int) (ys.map V.int)
  | [] => .nil
  | y :: ys => .cons (.int y) (Rps.ints ys)
section
variable {X : Cx} {o e : Expr} {mo m : ME} {apos pos : Pos}
def Mt1 (X : Cx) (id : String) (g : G2) : Prop := MtR X id (fun v vs H Q => ∃ x y w S G, Sm X.K G S H ∧ Rp X.K G x v ∧ vs = [w] ∧ Rp X.K G y w ∧ sat X (Rp X.K) G H (g x y S) Q)
theorem qe_mthS {id : String} {name : Str} {g : G2} (slot : Slot "str" name id) (ty : typeOf (.builtin id) = pure (.type "method_descriptor")) (rule : Mt1 X id g) (ho : QE X o mo) (he : QE X e m)
    (hs : starEach [e] X.env = [(false, eval e X.env)] := by rfl) (hbase : attributeBase o name X.env (eval o X.env) = eval o X.env := by rfl) (hline : (apos.endLine == pos.line) = true := by rfl) :
    QE X (.Call (.Attribute o name apos) [e] [] pos) (mthS g mo m) := qe_of (pe_m1 slot ty rule ho he hs hbase hline) fun ρ S G σ H Q sm re h => by
  refine ⟨ρ, S, G, sm, re, (sat.bind h).imp fun v H1 w => ?_⟩
  obtain ⟨x, S1, G1, le1, sm1, r1, q1⟩ := w
  split at q1
  · rename_i hl
    cases r1 with
    | str z =>
      refine ⟨⟨z, rfl⟩, ρ, S1, G1, sm1, re.mono le1.le, (sat.bind q1).imp fun u H2 w => ?_⟩
      obtain ⟨y, S2, G2, le2, sm2, r2, q2⟩ := w
      exact ⟨.str z, y, u, S2, G2, sm2, .str z, rfl, r2, q2⟩
    | _ => cases hl
  · exact q1.elim
theorem mf_join : Mt1 X "str.join" joinG := fun pins s σ H v vs u us Q I rv rs ⟨x, y, w, S, G, sm, rx, ev, ry, h⟩ => by
  subst ev
  unfold joinG at h
  split at h
  · cases rx
    split at h
    · split at h
      · rename_i zs hz
        split at h
        · rename_i hc
          cases ry with
          | lst h1 r1 =>
            rw [asStrs_rp hz r1] at h1
            exact mt_join pins s σ H _ _ u us Q I rv rs ⟨_, _, zs, rfl, rfl, .inl (SqL.of (sm.fr _ _ h1)), hc, h G H _ .refl sm (.str _)⟩
        · exact h.elim
      · exact h.elim
    · split at h
      · rename_i zs hz
        split at h
        · rename_i hc
          cases ry with
          | tup h1 r1 =>
            rw [asStrs_rp hz r1] at h1
            exact mt_join pins s σ H _ _ u us Q I rv rs ⟨_, _, zs, rfl, rfl, .inr (SqT.mono h1 sm.fr), hc, h G H _ .refl sm (.str _)⟩
        · exact h.elim
      · exact h.elim
    · split at h
      · rename_i n ys hl
        split at h
        · rename_i zs hz
          split at h
          · rename_i hc
            obtain ⟨a, ws, rfl, hf, ha, rr⟩ := sm.list hl ry
            rw [asStrs_rp hz rr] at ha
            exact mt_join pins s σ H _ _ u us Q I rv rs ⟨_, _, zs, rfl, rfl, .inl (SqL.of ha), hc, h G H _ .refl sm (.str _)⟩
          · exact h.elim
        · exact h.elim
      · exact h.elim
    · exact h.elim
  · exact h.elim
theorem mf_split : Mt1 X "str.split" splitG := fun pins s σ H v vs u us Q I rv rs ⟨x, y, w, S, G, sm, rx, ev, ry, h⟩ => by
  subst ev
  unfold splitG at h
  split at h
  · split at h
    · rename_i hc
      cases rx; cases ry
      exact mt_split pins s σ H _ _ u us Q I rv rs ⟨_, _, rfl, rfl, hc.1, hc.2, fun p hp => new_lst sm hp (Rps.strs _) h⟩
    · exact h.elim
  · exact h.elim
theorem qe_join (ho : QE X o mo) (he : QE X e m) (hs : starEach [e] X.env = [(false, eval e X.env)] := by rfl) (hbase : attributeBase o "join" X.env (eval o X.env) = eval o X.env := by rfl) (hline : (apos.endLine == pos.line) = true := by rfl) :
    QE X (.Call (.Attribute o "join" apos) [e] [] pos) (mthS joinG mo m) := qe_mthS F.slot_str_join F.type_str_join mf_join ho he hs hbase hline
theorem qe_split (ho : QE X o mo) (he : QE X e m) (hs : starEach [e] X.env = [(false, eval e X.env)] := by rfl) (hbase : attributeBase o "split" X.env (eval o X.env) = eval o X.env := by rfl) (hline : (apos.endLine == pos.line) = true := by rfl) :
    QE X (.Call (.Attribute o "split" apos) [e] [] pos) (mthS splitG mo m) := qe_mthS F.slot_str_split F.type_str_split mf_split ho he hs hbase hline
end
/-! ### x op= e -/
def sAug (i : Nat) (g : G2) (m : ME) : MS := fun ρ S => match ρ[i]? with
  | some (some x) => (m ρ S).bind fun y S1 => (g x y S1).bind fun z S2 => .ok (.nx (ρ.set i (some z))) S2
  | _ => .no
def IpF (X : Cx) (op : Operator) (g : G2) : Prop := PIp X op (fun v w H Q => ∃ x y S G, Sm X.K G S H ∧ Rp X.K G x v ∧ Rp X.K G y w ∧ sat X (Rp X.K) G H (g x y S) Q)
section
variable {X : Cx} {e : Expr} {m : ME} {pos : Pos}
theorem qs_aug (i : Nat) {x : Str} {op : Operator} {g : G2} {pos' : Pos} (ho : IpF X op g) (h : QE X e m) (hN : X.N.Nodup) (hi : X.N[i]? = some x := by rfl) (hx : Loc X.env.scope x := by first | exact .inl rfl | exact .inr rfl) (hf : X.fn x = true ∨ X.env.scope.names.lookup x = some .local := by first | exact .inl rfl | exact .inr rfl) :
    QS X (.AugAssign (.Name x pos') op e pos) (sAug i g m) := qs_of (ps_aug (i := i) hN hi hx h ho hf) fun ρ S G σ H D sm re z => by
  unfold sAug at z
  match hr : ρ[i]?, z with
  | some (some d), z =>
    obtain ⟨v, h1, h2⟩ := re.get hr
    refine ⟨v, h1, ρ, S, G, sm, re, (satS.bind z).imp fun w H1 k => ?_⟩
    obtain ⟨y, S1, G1, le1, sm1, r1, q1⟩ := k
    refine ⟨d, y, S1, G1, sm1, h2.mono le1.le, r1, (satS.bind q1).imp fun u H2 k => ?_⟩
    obtain ⟨t, S2, G2, le2, sm2, r2, q2⟩ := k
    exact q2 G2 H2 _ .refl sm2 (((re.mono le1.le).mono le2.le).set i r2)
  | some none, z => exact z.elim
  | none, z => exact z.elim
def addI : G2 := fun x y S => match x, y with
  | .int i, .int j => .ok (.int (i + j)) S
  | _, _ => .no
theorem if_add : IpF X .Add addI := fun pins s σ H v w u u' Q I rv rw' ⟨x, y, S, G, sm, rx, ry, h⟩ => by
  unfold addI at h
  split at h
  · cases rx; cases ry; exact iop_add pins s σ H _ _ u u' Q I rv rw' ⟨_, _, rfl, rfl, h G H _ .refl sm (.int _)⟩
  · exact h.elim
end
end PV
set_option Elab.async false
set_option linter.all false
set_option maxRecDepth 100000
set_option maxHeartbeats 4000000
namespace PV
open PySem PySem.Spec PyProof.Rows L2 ZL
/-- the address of a class -/
abbrev gaS (K : PySem.W.Frag) (c : String) : Addr := He.ga K (Str.ofString c)
theorem spO.mono {K : PySem.W.Frag} {G G1 : Gh} {H H1 : Hp} {o : Out D} {Q : VK} {E : XK} (h : spO K G H o Q E) (st : Stp G H G1 H1) : spO K G1 H1 o Q E := by
  match o, h with
  | .ok _ _, h => exact fun G' H' v s => h G' H' v (st.trans s)
  | .ex _ _ _, h => exact fun cls dd H' w => h cls dd H' (w.anti st)
  | .no, h => exact h
theorem spO.imp {K : PySem.W.Frag} {G : Gh} {H : Hp} {o : Out D} {Q Q' : VK} {E : XK} (h : spO K G H o Q E) (i : ∀ v H', Q v H' → Q' v H') : spO K G H o Q' E := by
  match o, h with
  | .ok _ _, h => exact fun G' H' v s m r => i _ _ (h G' H' v s m r)
  | .ex _ _ _, h => exact h
  | .no, h => exact h
/-! ### defs with *rest -/
noncomputable def dfnV (np n : Nat) (b : MS) : Fn := fun ds S => if np ≤ ds.length ∧ ds.length ≤ 1000 then dfn (np + 1) n b (ds.take np ++ [.tup (ds.drop np)]) S else .no
section
variable {P : Program} {w : World} {K : PySem.W.Frag} {mg : Str → Option Value} {base : Heap} {x qual : Str} {st : Stmt} {kws : List (Str × V)} {f : Addr} {fd : FuncData} {N ps : List Str} {j : Nat} {b : MS}
theorem okFV {np n : Nat} {pv : Str} (F : FunD K x qual (defArgs st) (defBody st) (defScope st) [] kws f fd) (S : FnScope N (ps ++ [pv]) (defScope st)) (hn : ps.length = np) (hN : N.length = n)
    (hb : ∀ (kV doc pm : Value) (an : Option Addr) (cdv ct : Value) (us rest : List Value), us.length = ps.length → bindArgs (PySem.W.fnOf x qual (defArgs st) (defBody st) (defScope st) .none kV doc pm an cdv ct) ⟨us ++ rest, []⟩ = (newTuple rest >>= fun t => pure (ps.zip us ++ [(pv, t)])))
    (hbody : ∀ (cdv : Value) (A : Around) (outer : List Env) (s : Shared) (H : Hp) (E : XK), Room j (A.deeper (envOfC qual (defScope st) s.heap.objs.size f cdv)) →
      QSs (cxOf (L2.CX P w) P w K mg base N qual (defScope st) f cdv A outer s H E) (defBody st) b) : FnF P w K mg base (j + 1) f (dfnV np n b) := by
  obtain ⟨oc, od, dV, kV, doc, pm, an, cdv, ct, osl, e, lk, hcd, hD, -⟩ := F.ex
  have dN : dV = .none := by
    rcases hD with ⟨_, q⟩ | ⟨q, _⟩
    · exact q
    · exact absurd rfl q
  subst dN
  subst e
  have hn1 : (ps ++ [pv]).length = np + 1 := by simp [hn]
  have R := StX.fn_star (P := P) (w := w) (mg := mg) (base := base) (k := j) (sp := spF K (dfn (np + 1) n b)) lk hcd S StX.cxUp (hb kV doc pm an cdv ct) fun A outer s H vs Q E hr h =>
    ⟨_, hbody cdv A outer s H E hr, body_start rfl (takes_of rfl rfl rfl rfl) hn1 hN h⟩
  refine R.imp fun vs H Q E h => ?_
  obtain ⟨ds, S0, G, sm, r, h⟩ := h
  unfold dfnV at h
  by_cases c : np ≤ ds.length ∧ ds.length ≤ 1000
  · rw [if_pos c] at h
    refine ⟨vs.take np, vs.drop np, (List.take_append_drop ..).symm, ?_, ?_, fun p hp => ?_⟩
    · rw [List.length_take, r.length, hn]
      omega
    · rw [List.length_drop, r.length, sizeLine_eq]
      omega
    · have st := Stp.put (o := .tup (vs.drop np)) sm hp
      exact ⟨_, S0, _, sm.put hp, ((r.take np).mono st.le).append (.cons (.tup (SqT.of upd_same) ((r.drop np).mono st.le)) .nil), h.mono st⟩
  · rw [if_neg c] at h
    exact h.elim
end
/-! ### C(..) -/
theorem sat_gc {X : Cx} {G : Gh} {S : Sto} {H : Hp} {o : Out D} {Q : VK} (sm : Sm X.K G S H) (h : sat X (Rp X.K) G H (gcO S o) Q) : sat X (Rp X.K) G H o Q := by
  classical
  match o, h with
  | .ok d S', h =>
    intro G' H' v le sm' r
    by_cases c : d.und S.length = true ∧ Kept S S'
    · have e : gcO S (.ok d S') = .ok d (S'.take S.length) := if_pos c
      rw [e] at h
      exact h _ H' v (sm.cut_le le) (sm.cut sm' c.2) (r.cut c.1)
    · have e : gcO S (.ok d S') = .ok d S' := if_neg c
      rw [e] at h
      exact h G' H' v le sm' r
  | .ex x fs S', h =>
    by_cases c : belowf S.length fs = true ∧ Kept S S'
    · have e : gcO S (.ex x fs S') = .ex x fs (S'.take S.length) := if_pos c
      rw [e] at h
      exact Takes.imp h fun cls dd _ H' w => by
        obtain ⟨G', le, sm', r⟩ := w
        exact ⟨_, sm.cut_le le, sm.cut sm' c.2, r.cut c.1⟩
    · have e : gcO S (.ex x fs S') = .ex x fs S' := if_neg c
      rw [e] at h
      exact h
  | .no, h => exact h
/-- a new instance that is never written behind its __init__ -/
noncomputable def mkF (c : String) (F : Fn) : Fn := fun ds S => match F (.loc S.length :: ds) (S ++ [.ins c []]) with
  | .ok .non S2 => match S2[S.length]? with
    | some (.ins c' fs) => if c' = c then gcO S (.ok (.obj c fs) (S2.set S.length .dead)) else .no
    | _ => .no
  | .ex x fs S2 => gcO S (.ex x fs S2)
  | _ => .no
/-- one that may be written -/
noncomputable def mkM (c : String) (F : Fn) : Fn := fun ds S => match F (.loc S.length :: ds) (S ++ [.ins c []]) with
  | .ok .non S2 => .ok (.loc S.length) S2
  | .ex x fs S2 => gcO S (.ex x fs S2)
  | _ => .no
section
variable {X : Cx} {c : String} {F : Fn}
theorem new_ins {G : Gh} {S : Sto} {H : Hp} {x dx : Addr} (sm : Sm X.K G S H) (hx : H x = none) (hd : H dx = none) (ne : dx ≠ x) :
    Sm X.K (G.new S.length x) (S ++ [.ins c []]) (upd (upd H dx (.own x)) x (.ins (gaS X.K c) dx [])) ∧ Stp G H (G.new S.length x) (upd (upd H dx (.own x)) x (.ins (gaS X.K c) dx [])) := by
  have sm1 := sm.ext (Ext.upd (o := .own x) hd)
  have hx1 : upd H dx (.own x) x = none := by rw [upd_ne (Ne.symm ne)]; exact hx
  exact ⟨sm1.new hx1 ⟨dx, [], upd_same, .nil⟩, (Stp.ext (Ext.upd hd)).trans (Stp.cell sm1 hx1)⟩
theorem mk_rd {G : Gh} {S : Sto} {H : Hp} {ds : List D} {vs : List V} {Q : VK} (sm : Sm X.K G S H) (r : Rps X.K G ds vs) (h : sat X (Rp X.K) G H (mkF c F ds S) Q) (x dx : Addr) (hx : H x = none) (hd : H dx = none) (ne : dx ≠ x) :
    spF X.K F (V.ref x :: vs) (upd (upd H dx (.own x)) x (.ins (gaS X.K c) dx [])) (fun v H2 => v = .non ∧ Q (.ref x) H2) (Est X) := by
  obtain ⟨sm1, st1⟩ := new_ins (c := c) sm hx hd ne
  refine ⟨.loc S.length :: ds, _, _, sm1, .cons (.loc Gh.new_at) (r.mono st1.le), ?_⟩
  unfold mkF at h
  generalize F (.loc S.length :: ds) (S ++ [.ins c []]) = oF at h ⊢
  match oF, h with
  | .ok .non S2, h =>
    intro G2 H2 v st2 sm2 rv
    cases rv
    refine ⟨rfl, ?_⟩
    simp only at h
    split at h
    · rename_i c' fs hl
      split at h
      · rename_i hc
        subst hc
        have hf : G2.f S.length = some x := st2.le.2 _ _ Gh.new_at
        obtain ⟨hF0, dx', ws, ha, rf⟩ := sm2.addr hl (by simp) hf
        have z := sat_gc sm h
        have st3 := (st1.trans st2).trans (Stp.freeze (o := .ins (gaS X.K c') dx' ws) hf hF0)
        exact z _ H2 _ st3 (sm2.freeze hl (by simp) hf ha) (.obj upd_same (rf.mono (Gh.put_le hF0)))
      · exact h.elim
    · exact h.elim
  | .ex y fs S2, h =>
    have z := sat_sp (sat_gc sm h)
    exact fun cls dd H' w => z cls dd H' (w.anti st1)
  | .no, h => exact h.elim
  | .ok (.bl _) _, h => exact h.elim
  | .ok (.int _) _, h => exact h.elim
  | .ok (.str _) _, h => exact h.elim
  | .ok (.tup _) _, h => exact h.elim
  | .ok (.lst _) _, h => exact h.elim
  | .ok (.obj _ _) _, h => exact h.elim
  | .ok (.loc _) _, h => exact h.elim
  | .ok (.cls _) _, h => exact h.elim
  | .ok (.fnc _) _, h => exact h.elim
  | .ok (.ty _) _, h => exact h.elim
  | .ok (.src _) _, h => exact h.elim
  | .ok .dic0 _, h => exact h.elim
theorem mkM_rd {G : Gh} {S : Sto} {H : Hp} {ds : List D} {vs : List V} {Q : VK} (sm : Sm X.K G S H) (r : Rps X.K G ds vs) (h : sat X (Rp X.K) G H (mkM c F ds S) Q) (x dx : Addr) (hx : H x = none) (hd : H dx = none) (ne : dx ≠ x) :
    spF X.K F (V.ref x :: vs) (upd (upd H dx (.own x)) x (.ins (gaS X.K c) dx [])) (fun v H2 => v = .non ∧ Q (.ref x) H2) (Est X) := by
  obtain ⟨sm1, st1⟩ := new_ins (c := c) sm hx hd ne
  refine ⟨.loc S.length :: ds, _, _, sm1, .cons (.loc Gh.new_at) (r.mono st1.le), ?_⟩
  unfold mkM at h
  generalize F (.loc S.length :: ds) (S ++ [.ins c []]) = oF at h ⊢
  match oF, h with
  | .ok .non S2, h =>
    intro G2 H2 v st2 sm2 rv
    cases rv
    have hf : G2.f S.length = some x := st2.le.2 _ _ Gh.new_at
    exact ⟨rfl, h G2 H2 _ (st1.trans st2) sm2 (.loc hf)⟩
  | .ex y fs S2, h =>
    have z := sat_sp (sat_gc sm h)
    exact fun cls dd H' w => z cls dd H' (w.anti st1)
  | .no, h => exact h.elim
  | .ok (.bl _) _, h => exact h.elim
  | .ok (.int _) _, h => exact h.elim
  | .ok (.str _) _, h => exact h.elim
  | .ok (.tup _) _, h => exact h.elim
  | .ok (.lst _) _, h => exact h.elim
  | .ok (.obj _ _) _, h => exact h.elim
  | .ok (.loc _) _, h => exact h.elim
  | .ok (.cls _) _, h => exact h.elim
  | .ok (.fnc _) _, h => exact h.elim
  | .ok (.ty _) _, h => exact h.elim
  | .ok (.src _) _, h => exact h.elim
  | .ok .dic0 _, h => exact h.elim
end
section
variable {X : Cx} {c : String} {F : Fn} {j : Nat} {f : Addr} {e e2 : Expr} {es : List Expr} {ms : MA} {m : ME} {p pos sp_ : Pos}
/-- a class whose calls are told by g: C(..) with its __init__ -/
def MkRd (X : Cx) (c : String) (F g : Fn) : Prop := ∀ {G : Gh} {S : Sto} {H : Hp} {ds : List D} {vs : List V} {Q : VK}, Sm X.K G S H → Rps X.K G ds vs → sat X (Rp X.K) G H (g ds S) Q → ∀ (x dx : Addr), H x = none → H dx = none → dx ≠ x →
    spF X.K F (V.ref x :: vs) (upd (upd H dx (.own x)) x (.ins (gaS X.K c) dx [])) (fun v H2 => v = .non ∧ Q (.ref x) H2) (Est X)
theorem mk_frozen : MkRd X c F (mkF c F) := fun sm r h => mk_rd sm r h
theorem mk_open : MkRd X c F (mkM c F) := fun sm r h => mkM_rd sm r h
theorem qe_mk {g : Fn} (hg : MkRd X c F g) (M : Mk X.K (gaS X.K c) f) (Ff : FnF X.prog X.w X.K X.mg X.base j f F) (hr : Room (j + 1) X.A) (hm : X.mg (Str.ofString c) = some (.ref (gaS X.K c))) (ha : QA X (e :: es) ms) (hgl : Gl X (Str.ofString c) := by rfl) (hdb : (Str.ofString c == ("__debug__" : Str)) = false := by decide)
    (he : starEach (e :: es) X.env = (false, eval e X.env) :: starEach es X.env := by rfl) (hpl : (backTo pos (starEach es X.env)).any (·.1) = false := by rfl) : QE X (.Call (.Name (Str.ofString c) p) (e :: es) [] pos) (cal g ms) :=
  qe_of (StX.pe_makeR M Ff hr hgl hm passE ha hdb he hpl) fun ρ S G σ H Q sm re h => by
    refine ⟨ρ, S, G, sm, re, (sat.bind h).imp fun vs H1 w => ?_⟩
    obtain ⟨ds, S1, G1, le1, sm1, r1, q1⟩ := w
    exact hg sm1 r1 q1
theorem qe_mk0 {g : Fn} (hg : MkRd X c F g) (M : Mk X.K (gaS X.K c) f) (Ff : FnF X.prog X.w X.K X.mg X.base j f F) (hr : Room (j + 1) X.A) (hm : X.mg (Str.ofString c) = some (.ref (gaS X.K c))) (hgl : Gl X (Str.ofString c) := by rfl) (hdb : (Str.ofString c == ("__debug__" : Str)) = false := by decide) :
    QE X (.Call (.Name (Str.ofString c) p) [] [] pos) (cal g aNil) :=
  qe_of (pe_makeR0 M Ff hr hgl hm passE hdb) fun ρ S G σ H Q sm re h => hg sm .nil h
/-- C(*e) -/
def itemsF (g : Fn) (m : ME) : ME := fun ρ S => (m ρ S).bind fun d S1 => match d with
  | .lst xs => g xs S1
  | .tup xs => g xs S1
  | .loc n => match S1[n]? with
    | some (.lst xs) => g xs S1
    | _ => .no
  | _ => .no
theorem qe_mkS {g : Fn} (hg : MkRd X c F g) (M : Mk X.K (gaS X.K c) f) (Ff : FnF X.prog X.w X.K X.mg X.base j f F) (hr : Room (j + 1) X.A) (hm : X.mg (Str.ofString c) = some (.ref (gaS X.K c))) (h : QE X e m) (hgl : Gl X (Str.ofString c) := by rfl) (hdb : (Str.ofString c == ("__debug__" : Str)) = false := by decide)
    (hst : starEach [.Starred e sp_] X.env = [(true, eval e X.env)] := by rfl) : QE X (.Call (.Name (Str.ofString c) p) [.Starred e sp_] [] pos) (itemsF g m) :=
  qe_of (pe_makeS1 M Ff hr hgl hm passE h hdb hst) fun ρ S G σ H Q sm re h => by
    refine ⟨ρ, S, G, sm, re, (sat.bind h).imp fun v H1 w => ?_⟩
    obtain ⟨d, S1, G1, le1, sm1, r1, q1⟩ := w
    cases r1 with
    | lst a b => exact ⟨_, _, rfl, .inr (SqL.of (sm1.fr _ _ a)), hg sm1 b q1⟩
    | tup a b => exact ⟨_, _, rfl, .inl (SqT.mono a sm1.fr), hg sm1 b q1⟩
    | loc hf =>
      rename_i n a
      have q1 : sat X (Rp X.K) G1 H1 (match S1[n]? with | some (.lst xs) => g xs S1 | _ => .no) Q := q1
      match hn : S1[n]?, q1 with
      | some (.lst xs), q1 =>
        obtain ⟨a', h1, h2, ws, h3, h4⟩ := sm1.cel n _ hn (by intro z; cases z)
        rw [hf] at h1
        cases h1
        exact ⟨_, _, rfl, .inr (SqL.of h3), hg sm1 h4 q1⟩
      | some (.ins _ _), q1 => exact q1.elim
      | some .dead, q1 => exact q1.elim
      | none, q1 => exact q1.elim
    | _ => exact q1.elim
/-- arguments with stars -/
theorem qe_mkN {g : Fn} {y : Bool × Sem Value} {ys : List (Bool × Sem Value)} (hg : MkRd X c F g) (M : Mk X.K (gaS X.K c) f) (Ff : FnF X.prog X.w X.K X.mg X.base j f F) (hr : Room (j + 1) X.A) (hm : X.mg (Str.ofString c) = some (.ref (gaS X.K c))) (ha : QA X (.Starred e sp_ :: e2 :: es) ms)
    (hst : backTo pos (starEach (.Starred e sp_ :: e2 :: es) X.env) = (true, (do let v ← eval e X.env; standAt pos; pure v)) :: y :: ys := by rfl) (hgl : Gl X (Str.ofString c) := by rfl) (hdb : (Str.ofString c == ("__debug__" : Str)) = false := by decide) :
    QE X (.Call (.Name (Str.ofString c) p) (.Starred e sp_ :: e2 :: es) [] pos) (cal g ms) :=
  qe_of (pe_makeSN M Ff hr hgl hm passE ha hst hdb) fun ρ S G σ H Q sm re h => by
    refine ⟨ρ, S, G, sm, re, (sat.bind h).imp fun vs H1 w => ?_⟩
    obtain ⟨ds, S1, G1, le1, sm1, r1, q1⟩ := w
    exact hg sm1 r1 q1
end
/-! ### C.m(..) of a class -/
def cmE (c : String) (F : Fn) (o : ME) (ms : MA) : ME := fun ρ S => (o ρ S).bind fun x S1 => if isCl c x = true then (ms ρ S1).bind fun ds S2 => F (x :: ds) S2 else .no
section
variable {X : Cx} {c : String} {F : Fn} {j : Nat} {o e : Expr} {es : List Expr} {mo : ME} {ms : MA} {apos pos : Pos} {m : Str} {p g : Addr} {mc : Value} {pl : Sem Bool}
theorem isCl_rp {K : PySem.W.Frag} {G : Gh} {x : D} {v : V} (h : isCl c x = true) (r : Rp K G x v) : x = .cls c ∧ v = .ref (gaS K c) := by
  cases r <;> simp [isCl] at h
  subst h
  exact ⟨rfl, rfl⟩
theorem qe_cm (hrd : ClX.CRead X.K (gaS X.K c) mc) (hcm : ClX.CMet X.K (gaS X.K c) mc m p g) (Ff : FnF X.prog X.w X.K X.mg X.base j g F) (hr : Room j X.A) (ho : QE X o mo) (ha : QA X (e :: es) ms)
    (hst : starEach (e :: es) X.env = (false, eval e X.env) :: starEach es X.env := by rfl) (hpl : (backTo pos (starEach es X.env)).any (·.1) = false := by rfl)
    (ht : eval (.Call (.Attribute o m apos) (e :: es) [] pos) X.env = (do
      let ov ← eval o X.env
      standAt apos.atName
      let (f, first) ← holding [ov] (getMethod ov m pl)
      callWith pos f first (backTo pos (starEach (e :: es) X.env)) (backToKw pos (keywordEach [] X.env))) := by rfl) :
    QE X (.Call (.Attribute o m apos) (e :: es) [] pos) (cmE c F mo ms) :=
  qe_of (ClX.pe_cmeth ho hrd hcm Ff hr passE ha hst hpl ht) fun ρ S G σ H Q sm re h => by
    refine ⟨ρ, S, G, sm, re, (sat.bind h).imp fun v H1 w => ?_⟩
    obtain ⟨x, S1, G1, le1, sm1, r1, q1⟩ := w
    split at q1
    · rename_i hc
      obtain ⟨rfl, rfl⟩ := isCl_rp hc r1
      refine ⟨rfl, ρ, S1, G1, sm1, re.mono le1.le, (sat.bind q1).imp fun vs H2 w => ?_⟩
      obtain ⟨ds, S2, G2, le2, sm2, r2, q2⟩ := w
      exact ⟨.cls c :: ds, S2, G2, sm2, .cons (.cls c) r2, sat_sp q2⟩
    · exact q1.elim
/-! ### o.m(..) of an instance -/
def mtO (τ : List (String × Fn)) (n : String) (o : ME) (ms : MA) : ME := fun ρ S => (o ρ S).bind fun x S1 => match insOf S1 x with
  | some (c, fs) => match τ.lookup c with
    | some F => match fs.lookup n with
      | none => (ms ρ S1).bind fun ds S2 => F (x :: ds) S2
      | some _ => .no
    | none => .no
  | none => .no
/-- what is known of a method of some classes -/
def Mths (X : Cx) (j : Nat) (n : String) (τ : List (String × Fn)) : Prop := ∀ c F, τ.lookup c = some F → Cls X.K (gaS X.K c) ∧ ∃ f, Meth X.K (gaS X.K c) (Str.ofString n) f ∧ FnF X.prog X.w X.K X.mg X.base j f F
theorem qe_mt {n : String} {τ : List (String × Fn)} (hτ : Mths X j n τ) (hr : Room j X.A) (ho : QE X o mo) (ha : QA X (e :: es) ms)
    (hst : starEach (e :: es) X.env = (false, eval e X.env) :: starEach es X.env := by rfl) (hpl : (backTo pos (starEach es X.env)).any (·.1) = false := by rfl)
    (ht : eval (.Call (.Attribute o (Str.ofString n) apos) (e :: es) [] pos) X.env = (do
      let ov ← eval o X.env
      standAt apos.atName
      let (f, first) ← holding [ov] (getMethod ov (Str.ofString n) pl)
      callWith pos f first (backTo pos (starEach (e :: es) X.env)) (backToKw pos (keywordEach [] X.env))) := by rfl) :
    QE X (.Call (.Attribute o (Str.ofString n) apos) (e :: es) [] pos) (mtO τ n mo ms) := by
  refine ⟨fun pins s σ H Q I z => ?_⟩
  obtain ⟨ρ, S, G, sm, re, h⟩ := z
  refine PySem.W.methodCall_KW (pl := pl) (thn (ho.run pins s σ H _ I ⟨ρ, S, G, sm, re, sat.bind h⟩) fun u s1 k => ?_) ht
  obtain ⟨v, H1, I1, rv, x, S1, G1, le1, sm1, r1, q1⟩ := k
  split at q1
  · rename_i c fs hi
    split at q1
    · rename_i F hF
      split at q1
      · rename_i hl
        obtain ⟨a, dx, ws, rfl, hA, rf⟩ := sm1.ins hi r1
        obtain ⟨hcl, f, hmt, Ff⟩ := hτ c F hF
        obtain rfl : u = Value.ref a := rv
        refine getmeth_ok I1 hA hcl hmt (rf.gone hl) ?_
        refine PySem.W.callWith_K (first := [.ref a]) (h₀ := X.base) I.ok.mod.kin hmt.kp (thn (ha.run pos pins s1 σ H1 _ I1 ⟨ρ, S1, G1, sm1, re.mono le1.le, sat.bind q1⟩) fun us s2 w => ?_) hst hpl
        obtain ⟨vs, H2, I2, rs, ds, S2, G2, le2, sm2, r2, q2⟩ := w
        refine ⟨I2.kIn, wpAny_call (run_fnR (us := .ref a :: us) (vs := .ref a :: vs) Ff hr passE I2 (.cons rfl rs) ?_)⟩
        exact ⟨x :: ds, S2, G2, sm2, .cons (r1.mono le2.le) r2, sat_sp q2⟩
      · exact q1.elim
    · exact q1.elim
  · exact q1.elim
theorem qe_mt0 {n : String} {τ : List (String × Fn)} (hτ : Mths X j n τ) (hr : Room j X.A) (ho : QE X o mo)
    (ht : eval (.Call (.Attribute o (Str.ofString n) apos) [] [] pos) X.env = (do
      let ov ← eval o X.env
      standAt apos.atName
      let (f, first) ← holding [ov] (getMethod ov (Str.ofString n) pl)
      callWith pos f first (backTo pos (starEach [] X.env)) (backToKw pos (keywordEach [] X.env))) := by rfl) :
    QE X (.Call (.Attribute o (Str.ofString n) apos) [] [] pos) (mtO τ n mo aNil) := by
  refine ⟨fun pins s σ H Q I z => ?_⟩
  obtain ⟨ρ, S, G, sm, re, h⟩ := z
  refine PySem.W.methodCall_KW (pl := pl) (thn (ho.run pins s σ H _ I ⟨ρ, S, G, sm, re, sat.bind h⟩) fun u s1 k => ?_) ht
  obtain ⟨v, H1, I1, rv, x, S1, G1, le1, sm1, r1, q1⟩ := k
  split at q1
  · rename_i c fs hi
    split at q1
    · rename_i F hF
      split at q1
      · rename_i hl
        obtain ⟨a, dx, ws, rfl, hA, rf⟩ := sm1.ins hi r1
        obtain ⟨hcl, f, hmt, Ff⟩ := hτ c F hF
        obtain rfl : u = Value.ref a := rv
        refine getmeth_ok I1 hA hcl hmt (rf.gone hl) ?_
        refine PySem.W.callWith_K0 I1.kIn hmt.kp (wpAny_call (run_fnR (us := [.ref a]) (vs := [.ref a]) Ff hr passE I1 (.cons rfl .nil) ?_))
        exact ⟨[x], S1, G1, sm1, .cons r1 .nil, sat_sp q1⟩
      · exact q1.elim
    · exact q1.elim
  · exact q1.elim
end
end PV
set_option Elab.async false
set_option linter.all false
set_option maxRecDepth 100000
set_option maxHeartbeats 4000000
namespace PV
open PySem PySem.Spec PyProof.Rows L2 ZL
/-! ### starred arguments -/
def aStar (m : ME) (ms : MA) : MA := fun ρ S => (m ρ S).bind fun d S1 => match d with
  | .lst xs => (ms ρ S1).bind fun ds S2 => .ok (xs ++ ds) S2
  | .tup xs => (ms ρ S1).bind fun ds S2 => .ok (xs ++ ds) S2
  | _ => .no
section
variable {X : Cx} {e : Expr} {es : List Expr} {m : ME} {ms : MA} {p pos : Pos}
theorem qa_star (h : QE X e m) (hs : QA X es ms) (hst : starEach (.Starred e p :: es) X.env = (true, eval e X.env) :: starEach es X.env := by rfl) : QA X (.Starred e p :: es) (aStar m ms) :=
  ⟨fun pos pins s σ H Q I z => (StX.pa_star h hs hst).run pos pins s σ H Q I (by
    obtain ⟨ρ, S, G, sm, re, q⟩ := z
    refine ⟨ρ, S, G, sm, re, (sat.bind q).imp fun x H1 w => ?_⟩
    obtain ⟨d, S1, G1, le1, sm1, r1, q1⟩ := w
    cases r1 with
    | lst a b =>
      refine ⟨_, _, rfl, .inr (SqL.of (sm1.fr _ _ a)), ρ, S1, G1, sm1, re.mono le1.le, (sat.bind q1).imp fun xs H2 w => ?_⟩
      obtain ⟨ds, S2, G2, le2, sm2, r2, q2⟩ := w
      exact q2 G2 H2 _ .refl sm2 ((b.mono le2.le).append r2)
    | tup a b =>
      refine ⟨_, _, rfl, .inl (SqT.mono a sm1.fr), ρ, S1, G1, sm1, re.mono le1.le, (sat.bind q1).imp fun xs H2 w => ?_⟩
      obtain ⟨ds, S2, G2, le2, sm2, r2, q2⟩ := w
      exact q2 G2 H2 _ .refl sm2 ((b.mono le2.le).append r2)
    | _ => exact q1.elim)⟩
/-! ### x[::-1] -/
theorem qe_rev {k : Nat} {p1 p2 p3 : Pos} (h : QE X e m) : QE X (.Subscript e (.Slice none none (some (.UnaryOp .USub (.Constant (.int 1) k p1) p2)) p3) pos) (una revG m) := by
  have o : PE X (.Subscript e (.Slice none none (some (.UnaryOp .USub (.Constant (.int 1) k p1) p2)) p3) pos) (fun σ H Q => tRevL X.K (tE X m) σ H Q ∨ tRevT X.K (tE X m) σ H Q) :=
    ⟨fun pins s σ H Q I z => z.elim ((pe_revL h).run pins s σ H Q I) ((pe_revT h).run pins s σ H Q I)⟩
  refine qe_of o fun ρ S G σ H Q sm re z => ?_
  have z' : sat X (Rp X.K) G H ((m ρ S).bind fun x S1 => revG x S1) Q := z
  match em : m ρ S, z' with
  | .ex c fs S', q => exact .inl ⟨ρ, S, G, sm, re, by rw [em]; exact q⟩
  | .no, q => exact q.elim
  | .ok (.lst xs) S1, q => exact .inl ⟨ρ, S, G, sm, re, by
      rw [em]
      intro G' H' v st sm' r
      cases r with
      | lst a b => exact ⟨_, _, rfl, SqL.of (sm'.fr _ _ a), fun l hl => new_lst sm' hl b.rev (sat.mono q st)⟩⟩
  | .ok (.tup xs) S1, q => exact .inr ⟨ρ, S, G, sm, re, by
      rw [em]
      intro G' H' v st sm' r
      cases r with
      | tup a b => exact ⟨_, _, rfl, SqT.mono a sm'.fr, fun l hl => new_tup sm' hl b.rev (sat.mono q st)⟩⟩
  | .ok (.non) _, q => exact q.elim
  | .ok (.bl _) _, q => exact q.elim
  | .ok (.int _) _, q => exact q.elim
  | .ok (.str _) _, q => exact q.elim
  | .ok (.obj _ _) _, q => exact q.elim
  | .ok (.loc _) _, q => exact q.elim
  | .ok (.cls _) _, q => exact q.elim
  | .ok (.fnc _) _, q => exact q.elim
  | .ok (.ty _) _, q => exact q.elim
  | .ok (.src _) _, q => exact q.elim
  | .ok .dic0 _, q => exact q.elim
/-! ### {} -/
def dicE : ME := fun _ S => .ok .dic0 S
theorem qe_dic0 : QE X (.Dict [] [] pos) dicE := qe_of pe_dnewK fun ρ S G σ H Q sm re z => fun d hd => z _ _ _ (Stp.put sm hd) (sm.put hd) (.dic0 upd_same)
end
/-! ### own operators -/
/-- the kind of a value as the machine sees it -/
theorem looksTy {X : Cx} {pins : List (Addr × Obj)} {σ : L2.St} {H : Hp} {s : Shared} {G : Gh} {S : Sto} {d : D} {v : V} {u : Value} {t : Ty} (I : Inv X pins σ H s) (sm : Sm X.K G S H) (r : Rp X.K G d v) (rv : RelV v u) (e : tyD S d = some t) :
    PySem.W.Looks (model X.prog X.w) s.heap (typeOf u) (tyV' X.K t) := by
  have ofObj : ∀ {a : Addr} {o : Obj}, s.heap.get? a = some o → o.cls = tyV' X.K t → PySem.W.Looks (model X.prog X.w) s.heap (typeOf (.ref a)) (tyV' X.K t) := fun {a o} h c A Q E s' k q => wpAny_typeOf_ref (k _ _ h) (by rw [c]; exact q)
  have ofL : ∀ {a : Addr} {xs : List V}, H a = some (.lst xs) → t = .b "list" → PySem.W.Looks (model X.prog X.w) s.heap (typeOf (.ref a)) (tyV' X.K t) := fun {a xs} h c => by
    obtain ⟨_, its, n, _, h1⟩ := (show ObjOk X.prog X.w H s.heap a (.lst xs) from I.hok a _ h)
    exact ofObj h1 (by rw [c]; rfl)
  have ofI : ∀ {a dx : Addr} {c : String} {ws : List (Str × V)}, H a = some (.ins (gaS X.K c) dx ws) → t = .c c → PySem.W.Looks (model X.prog X.w) s.heap (typeOf (.ref a)) (tyV' X.K t) := fun {a dx c ws} h ec => by
    obtain ⟨od, J⟩ := inst_at I h
    rw [ec]
    exact J.type
  cases r with
  | non => cases rv; cases e; exact PySem.W.Looks.of_pure rfl
  | bl b => cases rv; cases e; exact PySem.W.Looks.of_pure rfl
  | int i => obtain ⟨t', rfl⟩ := rv; cases e; exact PySem.W.Looks.of_pure rfl
  | str x => obtain ⟨t', rfl⟩ := rv; cases e; exact PySem.W.Looks.of_pure rfl
  | tup h r =>
    cases rv
    cases e
    obtain ⟨its, _, ⟨o, h1, h2, _⟩, _⟩ := I.tuple (SqT.mono h sm.fr)
    exact ofObj h1 h2
  | lst h r => cases rv; cases e; exact ofL (sm.fr _ _ h) rfl
  | obj h r => cases rv; cases e; exact ofI (sm.fr _ _ h) rfl
  | @loc n a h =>
    cases rv
    unfold tyD at e
    simp only at e
    split at e
    · rename_i xs q
      cases e
      obtain ⟨_, vs, h1, _⟩ := sm.addr q (by simp) h
      exact ofL h1 rfl
    · rename_i c fs q
      cases e
      obtain ⟨_, dx, ws, h1, _⟩ := sm.addr q (by simp) h
      exact ofI h1 rfl
    · cases e
  | dic0 h =>
    cases rv
    cases e
    obtain ⟨_, _, vs, _, o, es, ep, h1, h2, _⟩ := (show ObjOk X.prog X.w H s.heap _ (.dK []) from I.hok _ _ (sm.fr _ _ h))
    exact ofObj h1 h2.1
  | _ => cases e
/-- y may stand behind an instance -/
def okTy (cs : List String) : Ty → Bool
  | .b _ => true
  | .c n => cs.contains n
def onlyB (o : Out D) : Out D := o.bind fun d S => match d with
  | .bl b => .ok (.bl b) S
  | _ => .no
/-- x op y by an own method of x's class, else as g says -/
def cmpO (τ : List (String × Fn)) (cs : List String) (g : G2) : G2 := fun x y S => match insOf S x with
  | some (c, _) => match τ.lookup c with
    | some F => match tyD S y with
      | some t => if okTy cs t = true then onlyB (F [x, y] S) else .no
      | none => .no
    | none => .no
  | none => g x y S
theorem spO_onlyB {K : PySem.W.Frag} {X : Cx} {G : Gh} {H : Hp} {o : Out D} {Q : VK} (h : sat X (Rp X.K) G H (onlyB o) Q) : spO X.K G H o (fun v H' => (∃ b, v = .bl b) ∧ Q v H') (Est X) := by
  match o, h with
  | .ok (.bl b) S, h => exact fun G' H' v st sm r => by cases r; exact ⟨⟨b, rfl⟩, h G' H' _ st sm (.bl b)⟩
  | .ok .non _, h => exact h.elim
  | .ok (.int _) _, h => exact h.elim
  | .ok (.str _) _, h => exact h.elim
  | .ok (.tup _) _, h => exact h.elim
  | .ok (.lst _) _, h => exact h.elim
  | .ok (.obj _ _) _, h => exact h.elim
  | .ok (.loc _) _, h => exact h.elim
  | .ok (.cls _) _, h => exact h.elim
  | .ok (.fnc _) _, h => exact h.elim
  | .ok (.ty _) _, h => exact h.elim
  | .ok (.src _) _, h => exact h.elim
  | .ok .dic0 _, h => exact h.elim
  | .ex c fs S', h => exact fun cls dd H' w => ⟨G, H, c, fs, S', h, w⟩
  | .no, h => exact h.elim
/-- what is known of an own comparison of some classes -/
def Cmps (X : Cx) (j : Nat) (n : Str) (τ : List (String × Fn)) (cs : List String) : Prop := ∀ c F, τ.lookup c = some F → (∀ t, (∀ m, t = .b m → m ∈ six) → okTy cs t = true → PySem.W.notFirst X.K (gaS X.K c) (tyV' X.K t) = true) ∧ ∃ f, Own X.K (gaS X.K c) n f ∧ FnF X.prog X.w X.K X.mg X.base j f F
theorem of_cmpO {X : Cx} {j : Nat} {op : CmpOp} {τ : List (String × Fn)} {cs : List String} {g : G2} (hop : compareOp op = richCompare op) (hτ : Cmps X j (cmpInfo op).2.1 τ cs) (hr : Room j X.A) (hg : OpF X (compareOp op) g) : OpF X (compareOp op) (cmpO τ cs g) := fun pins s σ H v w u u' Q I rv rw' ⟨x, y, S, G, sm, rx, ry, h⟩ => by
  unfold cmpO at h
  split at h
  · rename_i c fs hi
    split at h
    · rename_i F hF
      split at h
      · rename_i t ht
        split at h
        · rename_i ho
          obtain ⟨a, dx, ws, rfl, hA, rf⟩ := sm.ins hi rx
          obtain ⟨hn, f, hown, Ff⟩ := hτ c F hF
          obtain rfl : u = Value.ref a := rv
          obtain ⟨od, J⟩ := inst_at I hA
          obtain ⟨m, hFr⟩ := I.fr
          rw [hop]
          refine PySem.W.cmp_K hr.units0 hFr I.ok.mod.kin J (looksTy I sm ry rw' ht) (hn t (fun m e => by subst e; exact tyD_six ht) ho) hown.at_ hown.fn (thn (run_at (vs := [.ref a, w]) Ff hr rfl passE I (.cons rfl (.cons rw' .nil)) ?_) fun u s' z => cmpBack_bl z)
          exact ⟨[x, y], S, G, sm, .cons rx (.cons ry .nil), spO_onlyB (K := X.K) h⟩
        · exact h.elim
      · exact h.elim
    · exact h.elim
  · exact hg pins s σ H v w u u' Q I rv rw' ⟨x, y, S, G, sm, rx, ry, h⟩
/-- x != y by an own == alone -/
def notB (o : Out D) : Out D := o.bind fun d S => match d with
  | .bl b => .ok (.bl (!b)) S
  | _ => .no
def neO (τ : List (String × Fn)) (cs : List String) (g : G2) : G2 := fun x y S => match insOf S x with
  | some (c, _) => match τ.lookup c with
    | some F => match tyD S y with
      | some t => if okTy cs t = true then notB (F [x, y] S) else .no
      | none => .no
    | none => .no
  | none => g x y S
theorem spO_notB {X : Cx} {G : Gh} {H : Hp} {o : Out D} {Q : VK} (h : sat X (Rp X.K) G H (notB o) Q) : spO X.K G H o (fun v H' => ∃ r, v = .bl r ∧ Q (.bl (!r)) H') (Est X) := by
  match o, h with
  | .ok (.bl b) S, h => exact fun G' H' v st sm r => by cases r; exact ⟨b, rfl, h G' H' _ st sm (.bl _)⟩
  | .ok .non _, h => exact h.elim
  | .ok (.int _) _, h => exact h.elim
  | .ok (.str _) _, h => exact h.elim
  | .ok (.tup _) _, h => exact h.elim
  | .ok (.lst _) _, h => exact h.elim
  | .ok (.obj _ _) _, h => exact h.elim
  | .ok (.loc _) _, h => exact h.elim
  | .ok (.cls _) _, h => exact h.elim
  | .ok (.fnc _) _, h => exact h.elim
  | .ok (.ty _) _, h => exact h.elim
  | .ok (.src _) _, h => exact h.elim
  | .ok .dic0 _, h => exact h.elim
  | .ex c fs S', h => exact fun cls dd H' w => ⟨G, H, c, fs, S', h, w⟩
  | .no, h => exact h.elim
theorem of_neO {X : Cx} {j : Nat} {τ : List (String × Fn)} {cs : List String} {g : G2} (hne : ∀ c F, τ.lookup c = some F → OwnNe X.K (gaS X.K c)) (hτ : Cmps X j "__eq__" τ cs) (hr : Room (j + 1) X.A) (hg : OpF X (compareOp .NotEq) g) : OpF X (compareOp .NotEq) (neO τ cs g) := fun pins s σ H v w u u' Q I rv rw' ⟨x, y, S, G, sm, rx, ry, h⟩ => by
  unfold neO at h
  split at h
  · rename_i c fs hi
    split at h
    · rename_i F hF
      split at h
      · rename_i t ht
        split at h
        · rename_i ho
          obtain ⟨a, dx, ws, rfl, hA, rf⟩ := sm.ins hi rx
          obtain ⟨hn, f, hown, Ff⟩ := hτ c F hF
          obtain rfl : u = Value.ref a := rv
          obtain ⟨od, J⟩ := inst_at I hA
          show wpAny (model X.prog X.w) X.A (richCompare .NotEq (.ref a) u') (EP X pins σ Q) X.xe s
          refine ne_rc (hne c F hF) hown (by have := hr.un; omega) I.kIn J (looksTy I sm ry rw' ht) (hn t (fun m e => by subst e; exact tyD_six ht) ho) (thn (run_at (A := X.A.in1) (vs := [.ref a, w]) Ff hr.in1 rfl passE I (.cons rfl (.cons rw' .nil)) ⟨[x, y], S, G, sm, .cons rx (.cons ry .nil), spO_notB h⟩) fun u s' z => ?_)
          obtain ⟨v, H', I', r, b', rfl, q'⟩ := z
          cases r
          exact ⟨b', rfl, .bl (!b'), H', I', rfl, q'⟩
        · exact h.elim
      · exact h.elim
    · exact h.elim
  · exact hg pins s σ H v w u u' Q I rv rw' ⟨x, y, S, G, sm, rx, ry, h⟩
/-! ### len, str, in by own methods -/
def okLen (o : Out D) : Out D := o.bind fun d S => match d with
  | .int n => if 0 ≤ n ∧ n < 2 ^ 63 then .ok (.int n) S else .no
  | _ => .no
def lenO (τ : List (String × Fn)) (g : Fn) : Fn := fun ds S => match ds with
  | [x] => match insOf S x with
    | some (c, _) => match τ.lookup c with
      | some F => okLen (F [x] S)
      | none => .no
    | none => g [x] S
  | ds => g ds S
def okStr (o : Out D) : Out D := o.bind fun d S => match d with
  | .str z => .ok (.str z) S
  | _ => .no
def strO (τ : List (String × Fn)) (g : Fn) : Fn := fun ds S => match ds with
  | [x] => match insOf S x with
    | some (c, _) => match τ.lookup c with
      | some F => okStr (F [x] S)
      | none => .no
    | none => g [x] S
  | ds => g ds S
def Owns (X : Cx) (j : Nat) (n : Str) (τ : List (String × Fn)) : Prop := ∀ c F, τ.lookup c = some F → ∃ f, Own X.K (gaS X.K c) n f ∧ FnF X.prog X.w X.K X.mg X.base j f F
theorem spO_okLen {X : Cx} {G : Gh} {H : Hp} {o : Out D} {Q : VK} (h : sat X (Rp X.K) G H (okLen o) Q) : spO X.K G H o (fun v H' => ∃ n, v = .int n ∧ (0 ≤ n ∧ n < 2 ^ 63) ∧ Q v H') (Est X) := by
  match o, h with
  | .ok (.int n) S, h =>
    have h' : sat X (Rp X.K) G H (if 0 ≤ n ∧ n < 2 ^ 63 then .ok (.int n) S else .no) Q := h
    by_cases c : 0 ≤ n ∧ n < 2 ^ 63
    · rw [if_pos c] at h'
      exact fun G' H' v st sm r => by cases r; exact ⟨n, rfl, c, h' G' H' _ st sm (.int n)⟩
    · rw [if_neg c] at h'
      exact h'.elim
  | .ok .non _, h => exact h.elim
  | .ok (.bl _) _, h => exact h.elim
  | .ok (.str _) _, h => exact h.elim
  | .ok (.tup _) _, h => exact h.elim
  | .ok (.lst _) _, h => exact h.elim
  | .ok (.obj _ _) _, h => exact h.elim
  | .ok (.loc _) _, h => exact h.elim
  | .ok (.cls _) _, h => exact h.elim
  | .ok (.fnc _) _, h => exact h.elim
  | .ok (.ty _) _, h => exact h.elim
  | .ok (.src _) _, h => exact h.elim
  | .ok .dic0 _, h => exact h.elim
  | .ex c fs S', h => exact fun cls dd H' w => ⟨G, H, c, fs, S', h, w⟩
  | .no, h => exact h.elim
theorem spO_okStr {X : Cx} {G : Gh} {H : Hp} {o : Out D} {Q : VK} (h : sat X (Rp X.K) G H (okStr o) Q) : spO X.K G H o (fun v H' => ∃ z, v = .str z ∧ Q v H') (Est X) := by
  match o, h with
  | .ok (.str n) S, h => exact fun G' H' v st sm r => by cases r; exact ⟨n, rfl, h G' H' _ st sm (.str n)⟩
  | .ok .non _, h => exact h.elim
  | .ok (.bl _) _, h => exact h.elim
  | .ok (.int _) _, h => exact h.elim
  | .ok (.tup _) _, h => exact h.elim
  | .ok (.lst _) _, h => exact h.elim
  | .ok (.obj _ _) _, h => exact h.elim
  | .ok (.loc _) _, h => exact h.elim
  | .ok (.cls _) _, h => exact h.elim
  | .ok (.fnc _) _, h => exact h.elim
  | .ok (.ty _) _, h => exact h.elim
  | .ok (.src _) _, h => exact h.elim
  | .ok .dic0 _, h => exact h.elim
  | .ex c fs S', h => exact fun cls dd H' w => ⟨G, H, c, fs, S', h, w⟩
  | .no, h => exact h.elim
theorem cf_lenO {X : Cx} {j : Nat} {τ : List (String × Fn)} {g : Fn} (hτ : Owns X j "__len__" τ) (hr : Room (j + 1) X.A) (hg : CallF X (.builtin "len") g) : CallF X (.builtin "len") (lenO τ g) := fun pins s σ H vs us Q I rv ⟨ds, S, G, sm, r, h⟩ => by
  unfold lenO at h
  split at h
  · split at h
    · rename_i c fs hi
      split at h
      · rename_i F hF
        obtain ⟨v, rfl, q⟩ := vals1 r
        obtain ⟨a, dx, ws, rfl, hA, rf⟩ := sm.ins hi q
        obtain ⟨f, hown, Ff⟩ := hτ c F hF
        exact call_lenO hown Ff hr passE pins s σ H _ us Q I rv ⟨a, dx, ws, rfl, hA, [_], S, G, sm, .cons q .nil, spO_okLen h⟩
      · exact h.elim
    · exact hg pins s σ H vs us Q I rv ⟨_, S, G, sm, r, h⟩
  · exact hg pins s σ H vs us Q I rv ⟨_, S, G, sm, r, h⟩
theorem cf_strO {X : Cx} {j : Nat} {τ : List (String × Fn)} {g : Fn} (hτ : Owns X j "__str__" τ) (hr : Room (j + 2) X.A) (hg : CallF X (.type "str") g) : CallF X (.type "str") (strO τ g) := fun pins s σ H vs us Q I rv ⟨ds, S, G, sm, r, h⟩ => by
  unfold strO at h
  split at h
  · split at h
    · rename_i c fs hi
      split at h
      · rename_i F hF
        obtain ⟨v, rfl, q⟩ := vals1 r
        obtain ⟨a, dx, ws, rfl, hA, rf⟩ := sm.ins hi q
        obtain ⟨f, hown, Ff⟩ := hτ c F hF
        exact call_strO hown Ff hr passE pins s σ H _ us Q I rv ⟨a, dx, ws, rfl, hA, [_], S, G, sm, .cons q .nil, spO_okStr h⟩
      · exact h.elim
    · exact hg pins s σ H vs us Q I rv ⟨_, S, G, sm, r, h⟩
  · exact hg pins s σ H vs us Q I rv ⟨_, S, G, sm, r, h⟩
/-- y in x, x an instance -/
def inO (τ : List (String × Fn)) (g : G2) : G2 := fun y x S => match insOf S x with
  | some (c, _) => match τ.lookup c with
    | some F => onlyB (F [x, y] S)
    | none => .no
  | none => g y x S
theorem of_inO {X : Cx} {j : Nat} {τ : List (String × Fn)} {g : G2} (hτ : Owns X j "__contains__" τ) (hr : Room j X.A) (hg : OpF X (compareOp .In) g) : OpF X (compareOp .In) (inO τ g) := fun pins s σ H v w u u' Q I rv rw' ⟨y, x, S, G, sm, ry, rx, h⟩ => by
  unfold inO at h
  split at h
  · rename_i c fs hi
    split at h
    · rename_i F hF
      obtain ⟨a, dx, ws, rfl, hA, rf⟩ := sm.ins hi rx
      obtain ⟨f, hown, Ff⟩ := hτ c F hF
      refine op_inO hown Ff hr passE pins s σ H v _ u u' Q I rv rw' ⟨a, dx, ws, rfl, hA, [x, y], S, G, sm, .cons rx (.cons ry .nil), (spO_onlyB (K := X.K) h).imp fun v' H' z => ?_⟩
      obtain ⟨⟨b, rfl⟩, q⟩ := z
      exact ⟨b, rfl, by rw [Bool.false_xor]; exact q⟩
    · exact h.elim
  · exact hg pins s σ H v w u u' Q I rv rw' ⟨y, x, S, G, sm, ry, rx, h⟩
/-! ### - x, x[i] by own methods -/
def unO (τ : List (String × Fn)) (g : G1) : G1 := fun x S => match insOf S x with
  | some (c, _) => match τ.lookup c with
    | some F => F [x] S
    | none => .no
  | none => g x S
theorem of_negO {X : Cx} {j : Nat} {τ : List (String × Fn)} {g : G1} (hτ : Owns X j "__neg__" τ) (hr : Room j X.A) (hg : UnF X (unaryOp .USub) g) : UnF X (unaryOp .USub) (unO τ g) := fun pins s σ H v u Q I rv ⟨x, S, G, sm, rx, h⟩ => by
  unfold unO at h
  split at h
  · rename_i c fs hi
    split at h
    · rename_i F hF
      obtain ⟨a, dx, ws, rfl, hA, rf⟩ := sm.ins hi rx
      obtain ⟨f, hown, Ff⟩ := hτ c F hF
      exact un_negO hown Ff hr passE pins s σ H _ u Q I rv ⟨a, dx, ws, rfl, hA, [x], S, G, sm, .cons rx .nil, sat_sp h⟩
    · exact h.elim
  · exact hg pins s σ H v u Q I rv ⟨x, S, G, sm, rx, h⟩
theorem of_invO {X : Cx} {j : Nat} {τ : List (String × Fn)} {g : G1} (hτ : Owns X j "__invert__" τ) (hr : Room j X.A) (hg : UnF X (unaryOp .Invert) g) : UnF X (unaryOp .Invert) (unO τ g) := fun pins s σ H v u Q I rv ⟨x, S, G, sm, rx, h⟩ => by
  unfold unO at h
  split at h
  · rename_i c fs hi
    split at h
    · rename_i F hF
      obtain ⟨a, dx, ws, rfl, hA, rf⟩ := sm.ins hi rx
      obtain ⟨f, hown, Ff⟩ := hτ c F hF
      exact un_invO hown Ff hr passE pins s σ H _ u Q I rv ⟨a, dx, ws, rfl, hA, [x], S, G, sm, .cons rx .nil, sat_sp h⟩
    · exact h.elim
  · exact hg pins s σ H v u Q I rv ⟨x, S, G, sm, rx, h⟩
def noU : G1 := fun _ _ => .no
theorem of_noU {X : Cx} {f : Value → Sem Value} : UnF X f noU := fun _ _ _ _ _ _ _ _ _ ⟨_, _, _, _, _, h⟩ => h.elim
/-- o[i], o an instance of one class -/
def ixO (c : String) (F : Fn) : G2 := fun x y S => match insOf S x with
  | some (c', _) => if c' = c then F [x, y] S else .no
  | none => .no
theorem qe_ixO {X : Cx} {a b : Expr} {ma mb : ME} {pos : Pos} {j : Nat} {c : String} {f : Addr} {F : Fn} (ho : Own X.K (gaS X.K c) "__getitem__" f) (hf : PySem.W.fnIn X.K f = true) (Ff : FnF X.prog X.w X.K X.mg X.base j f F) (hr : Room (j + 1) X.A) (ha : QE X a ma) (hb : QE X b mb)
    (hs : ∀ x i, subscripted b true (.ref x) i = runValue (.builtin "lifetime.subscript" ⟨[.ref x, i], []⟩) := by intro _ _; rfl) : QE X (.Subscript a b pos) (bin (ixO c F) ma mb) :=
  qe_of (pe_ixO ho hf Ff hr passE ha hb hs) fun ρ S G σ H Q sm re h => by
    refine ⟨ρ, S, G, sm, re, (sat.bind h).imp fun v H1 w => ?_⟩
    obtain ⟨x, S1, G1, le1, sm1, r1, q1⟩ := w
    refine ⟨ρ, S1, G1, sm1, re.mono le1.le, (sat.bind q1).imp fun v' H2 w => ?_⟩
    obtain ⟨y, S2, G2, le2, sm2, r2, q2⟩ := w
    unfold ixO at q2
    split at q2
    · rename_i c' fs hi
      split at q2
      · rename_i hc
        subst hc
        obtain ⟨a, dx, ws, rfl, hA, rf⟩ := sm2.ins hi (r1.mono le2.le)
        exact ⟨a, dx, ws, rfl, hA, [x, y], S2, G2, sm2, .cons (r1.mono le2.le) (.cons r2 .nil), sat_sp q2⟩
      · exact q2.elim
    · exact q2.elim
/-! ### x + y .. by own methods -/
/-- what may come back: an object, an int -/
def okRes (o : Out D) : Out D := o.bind fun d S => match d with
  | .obj c fs => .ok (.obj c fs) S
  | .tup xs => .ok (.tup xs) S
  | .lst xs => .ok (.lst xs) S
  | .loc n => .ok (.loc n) S
  | _ => .no
theorem spO_okRes {X : Cx} {G : Gh} {H : Hp} {o : Out D} {Q : VK} (h : sat X (Rp X.K) G H (okRes o) Q) : spO X.K G H o (fun v H' => (∃ r, v = .ref r) ∧ Q v H') (Est X) := by
  match o, h with
  | .ok (.obj c fs) S, h => exact fun G' H' v st sm r => by cases r with | obj a b => exact ⟨⟨_, rfl⟩, h G' H' _ st sm (.obj a b)⟩
  | .ok (.tup xs) S, h => exact fun G' H' v st sm r => by cases r with | tup a b => exact ⟨⟨_, rfl⟩, h G' H' _ st sm (.tup a b)⟩
  | .ok (.lst xs) S, h => exact fun G' H' v st sm r => by cases r with | lst a b => exact ⟨⟨_, rfl⟩, h G' H' _ st sm (.lst a b)⟩
  | .ok (.loc n) S, h => exact fun G' H' v st sm r => by cases r with | loc a => exact ⟨⟨_, rfl⟩, h G' H' _ st sm (.loc a)⟩
  | .ok .non _, h => exact h.elim
  | .ok (.bl _) _, h => exact h.elim
  | .ok (.int _) _, h => exact h.elim
  | .ok (.str _) _, h => exact h.elim
  | .ok (.cls _) _, h => exact h.elim
  | .ok (.fnc _) _, h => exact h.elim
  | .ok (.ty _) _, h => exact h.elim
  | .ok (.src _) _, h => exact h.elim
  | .ok .dic0 _, h => exact h.elim
  | .ex c fs S', h => exact fun cls dd H' w => ⟨G, H, c, fs, S', h, w⟩
  | .no, h => exact h.elim
/-- x op y: x an instance of the class c, y another one or an int -/
def binO (c : String) (F : Fn) (g : G2) : G2 := fun x y S => match insOf S x with
  | some (c1, _) => if c1 = c then match insOf S y with
      | some (c2, _) => if c2 = c then okRes (F [x, y] S) else .no
      | none => match y with
        | .int _ => okRes (F [x, y] S)
        | _ => .no
    else .no
  | none => g x y S
/-- what is known of an own operator -/
structure Bins (X : Cx) (j : Nat) (op : Operator) (c : String) (F : Fn) : Prop where
  sf : PySem.W.selfFirst X.K (gaS X.K c) = true
  fn : ∃ f, Own X.K (gaS X.K c) (PySem.dunder op.info.2) f ∧ FnF X.prog X.w X.K X.mg X.base j f F
  rc : ∃ rc, PySem.W.findIn X.K (.ref (gaS X.K c)) (dunderR op.info.2) = some rc ∧ (rc = none ∨ ∃ g : Addr, rc = some (.ref g))
  i1 : ∃ fo, PySem.W.findIn X.K (.type "int") (PySem.dunder op.info.2) = some fo
  i2 : ∃ ro, PySem.W.findIn X.K (.type "int") (dunderR op.info.2) = some ro
  ns : PySem.W.subIn X.K (.type "int") (.ref (gaS X.K c)) = some false
theorem of_binO {X : Cx} {j : Nat} {op : Operator} {c : String} {F : Fn} {g : G2} (B : Bins X j op c F) (hr : Room j X.A) (hg : OpF X (binaryOp op) g) : OpF X (binaryOp op) (binO c F g) := fun pins s σ H v w u u' Q I rv rw' ⟨x, y, S, G, sm, rx, ry, h⟩ => by
  unfold binO at h
  split at h
  · rename_i c1 fs hi
    split at h
    · rename_i hc
      subst hc
      obtain ⟨a, dx, ws, rfl, hA, rf⟩ := sm.ins hi rx
      obtain ⟨f, hown, Ff⟩ := B.fn
      split at h
      · rename_i c2 gs hi2
        split at h
        · rename_i hc2
          subst hc2
          obtain ⟨b, dy, zs, rfl, hB, rg⟩ := sm.ins hi2 ry
          exact op_binO B.sf hown Ff hr passE pins s σ H _ _ u u' Q I rv rw' ⟨a, b, dx, dy, ws, zs, rfl, rfl, hA, hB, [x, y], S, G, sm, .cons rx (.cons ry .nil), spO_okRes h⟩
        · exact h.elim
      · split at h
        · rename_i i
          cases ry
          obtain ⟨rc, hR, hp⟩ := B.rc
          obtain ⟨fo, h1⟩ := B.i1
          obtain ⟨ro, h2⟩ := B.i2
          exact op_binI B.sf hown hR hp h1 h2 B.ns Ff hr passE pins s σ H _ _ u u' Q I rv rw' ⟨a, _, dx, ws, rfl, rfl, hA, [x, .int _], S, G, sm, .cons rx (.cons (.int _) .nil), spO_okRes h⟩
        · exact h.elim
    · exact h.elim
  · exact hg pins s σ H v w u u' Q I rv rw' ⟨x, y, S, G, sm, rx, ry, h⟩
/-! ### repr -/
def reprOk (p : PyData) : Bool := p.showable && !p.hasDict && decide (p.depth ≤ 60) && decide (p.shown.length ≤ sizeLine)
def reprB : Fn := fun ds S => match ds with
  | [.lst xs] => match toP (.lst xs) with
    | some p => if reprOk p = true then .ok (.str p.shown) S else .no
    | none => .no
  | [.tup xs] => match toP (.tup xs) with
    | some p => if reprOk p = true then .ok (.str p.shown) S else .no
    | none => .no
  | [.loc n] => match S[n]? with
    | some (.lst xs) => match toP (.lst xs) with
      | some p => if reprOk p = true then .ok (.str p.shown) S else .no
      | none => .no
    | _ => .no
  | _ => .no
theorem cf_repr {X : Cx} (hg : X.A.guards = some []) (hu : X.A.units + 64 < cLine) : CallF X (.builtin "repr") reprB := fun pins s σ H vs us Q I rv ⟨ds, S, G, sm, r, h⟩ => by
  have go : ∀ {a : Addr} {p : PyData}, Dp X.K H (.ref a) p → sat X (Rp X.K) G H (if reprOk p = true then .ok (.str p.shown) S else .no) Q → vs = [.ref a] → wpAny (model X.prog X.w) X.A (call (.builtin "repr") us) (EP X pins σ Q) X.xe s := fun {a p} dp h ev => by
    subst ev
    by_cases c : reprOk p = true
    · rw [if_pos c] at h
      unfold reprOk at c
      simp only [Bool.and_eq_true, decide_eq_true_eq, Bool.not_eq_true'] at c
      exact call_reprD hg hu pins s σ H _ us Q I rv ⟨a, p, rfl, dp, c.1.1.1, c.1.1.2, c.1.2, c.2, h G H _ .refl sm (.str _)⟩
    · rw [if_neg c] at h
      exact h.elim
  unfold reprB at h
  split at h
  · split at h
    · rename_i p hp
      obtain ⟨v, rfl, q⟩ := vals1 r
      have dp := Rp.dp sm.fr _ _ _ q hp
      cases q with
      | lst a b => exact go dp h rfl
    · exact h.elim
  · split at h
    · rename_i p hp
      obtain ⟨v, rfl, q⟩ := vals1 r
      have dp := Rp.dp sm.fr _ _ _ q hp
      cases q with
      | tup a b => exact go dp h rfl
    · exact h.elim
  · split at h
    · rename_i xs hl
      split at h
      · rename_i p hp
        obtain ⟨v, rfl, q⟩ := vals1 r
        obtain ⟨a, ws, rfl, hf, ha, rr⟩ := sm.list hl q
        unfold toP at hp
        match hq : toPs xs, hp with
        | some ps, hp => cases hp; exact go (.lst (SqL.of ha) (Rps.dp sm.fr xs _ ps rr hq)) h rfl
        | none, hp => cases hp
      · exact h.elim
    · exact h.elim
  · exact h.elim
/-! ### isinstance(x, (A, B)) of built-in classes -/
def isiA (Ts : List String) (cs : List String) (m : ME) : ME := fun ρ S => (m ρ S).bind fun x S1 => match tyD S1 x with
  | some (.b n) => .ok (.bl (Ts.any fun T => subT n T)) S1
  | some (.c n) => if cs.contains n = true then .ok (.bl false) S1 else .no
  | none => .no
section
variable {X : Cx} {e : Expr} {m : ME} {p p1 p2 p3 pos : Pos} {x1}
theorem kitAny2 {K : PySem.W.Frag} {t : Value} {T U : String} {b c : Bool} (h1 : PySem.W.kitOne K t (.type T) = some b) (h2 : PySem.W.kitOne K t (.type U) = some c) : PySem.W.kitAny K t [.type T, .type U] = some (b || c) := by
  refine kitAny_cons h1 (fun hb => kitAny_cons (r := b || c) h2 (fun hc => ?_) (fun hc => ?_)) (fun hb => ?_)
  · subst hb; subst hc; rfl
  · subst hc; simp
  · subst hb; rfl
theorem qe_isi2 {T U : String} {xT xU : Str} {cs : List String} (hT : T ∈ six) (hU : U ∈ six) (hc : ∀ c ∈ cs, CF X.K c ∧ PySem.W.kitOne X.K (.ref (gaS X.K c)) (.type T) = some false ∧ PySem.W.kitOne X.K (.ref (gaS X.K c)) (.type U) = some false)
    (hmi : X.mg "isinstance" = none) (hmT : X.mg xT = none) (hmU : X.mg xU = none) (h : QE X e m) (hvT : bootBuiltins xT = some (.type T) := by decide +kernel) (hvU : bootBuiltins xU = some (.type U) := by decide +kernel) (hgi : Gl X "isinstance" := by rfl) (hgT : Gl X xT := by rfl) (hgU : Gl X xU := by rfl)
    (hnT : xT ≠ "__name__" := by decide) (hdT : (xT == ("__debug__" : Str)) = false := by decide) (hnU : xU ≠ "__name__" := by decide) (hdU : (xU == ("__debug__" : Str)) = false := by decide)
    (he : starEach [e, .Tuple [.Name xT p1, .Name xU p2] x1 p3] X.env = (false, eval e X.env) :: starEach [.Tuple [.Name xT p1, .Name xU p2] x1 p3] X.env := by rfl) (hpl : (backTo pos (starEach [.Tuple [.Name xT p1, .Name xU p2] x1 p3] X.env)).any (·.1) = false := by rfl) :
    QE X (.Call (.Name "isinstance" p) [e, .Tuple [.Name xT p1, .Name xU p2] x1 p3] [] pos) (isiA [T, U] cs m) :=
  qe_of (pe_callB call_isiT hgi hmi (by decide +kernel) (pa_cons h (pa_cons (pe_tup (pa_cons (pe_bltn (v := .ty T) hgT hmT hvT rfl hnT hdT) (pa_cons (pe_bltn (v := .ty U) hgU hmU hvU rfl hnU hdU) pa_nil))) pa_nil) he) (by decide) (by decide) he hpl) fun ρ S G σ H Q sm re z => by
    refine ⟨ρ, S, G, sm, re, (sat.bind z).imp fun v H1 w => ?_⟩
    obtain ⟨x, S1, G1, le1, sm1, r1, q1⟩ := w
    refine ⟨by show 2 ≤ sizeLine; decide, fun q hq => ?_⟩
    have st := Stp.ext (G := G1) (Ext.upd (o := .tup [.ty T, .ty U]) hq)
    have sm2 := sm1.ext (Ext.upd (o := .tup [.ty T, .ty U]) hq)
    split at q1
    · rename_i n ht
      have h6 := tyD_six ht
      refine ⟨v, q, [.ty T, .ty U], _, [.type T, .type U], subT n T || subT n U, rfl, upd_same, .cons (.ty T) (.cons (.ty U) .nil), tyX sm2 ht r1 (fun n e => by cases e), kitAny2 (kit_ty (kit_six n h6 T hT)) (kit_ty (kit_six n h6 U hU)), ?_⟩
      have q2 : sat X (Rp X.K) G1 H1 (.ok (.bl (List.any [T, U] fun T => subT n T)) S1) Q := q1
      have e : (List.any [T, U] fun T => subT n T) = (subT n T || subT n U) := by simp
      rw [e] at q2
      exact q2 G1 _ _ st sm2 (.bl _)
    · rename_i n ht
      split at q1
      · rename_i hm
        have k := hc n (List.contains_iff_mem.mp hm)
        exact ⟨v, q, [.ty T, .ty U], _, [.type T, .type U], false, rfl, upd_same, .cons (.ty T) (.cons (.ty U) .nil), tyX sm2 ht r1 (fun n e => by cases e; exact k.1), kitAny2 k.2.1 k.2.2, q1 G1 _ _ st sm2 (.bl _)⟩
      · exact q1.elim
    · exact q1.elim
end
end PV
set_option Elab.async false
set_option linter.all false
set_option maxRecDepth 100000
set_option maxHeartbeats 4000000
namespace PV
open PySem PySem.Spec PyProof.Rows L2 ZL
/-! ### a op b op c op d -/
def chn3 (g g' g'' : G2) (a b c d : ME) : ME := fun ρ S => (a ρ S).bind fun x S1 => (b ρ S1).bind fun y S2 => (g x y S2).bind fun z S3 => match z with
  | .bl true => (c ρ S3).bind fun u S4 => (g' y u S4).bind fun z' S5 => match z' with
    | .bl true => (d ρ S5).bind fun t S6 => g'' u t S6
    | .bl false => .ok (.bl false) S5
    | _ => .no
  | .bl false => .ok (.bl false) S3
  | _ => .no
section
variable {X : Cx} {a b c d : Expr} {ma mb mc md : ME} {g g' g'' : G2} {pos : Pos}
theorem qe_chn3 {op op' op'' : CmpOp} (ho : OpF X (compareOp op) g) (ho' : OpF X (compareOp op') g') (ho'' : OpF X (compareOp op'') g'') (ha : QE X a ma) (hb : QE X b mb) (hc : QE X c mc) (hd : QE X d md)
    (hm : lastMarks [op, op', op''] [b, c, d] = false := by with_unfolding_all rfl) : QE X (.Compare a [op, op', op''] [b, c, d] pos) (chn3 g g' g'' ma mb mc md) :=
  qe_of (pe_chain3 ho ho' ho'' ha hb hc hd hm) fun ρ S G σ H Q sm re h => by
    refine ⟨ρ, S, G, sm, re, (sat.bind h).imp fun v H1 w => ?_⟩
    obtain ⟨x, S1, G1, le1, sm1, r1, q1⟩ := w
    refine ⟨ρ, S1, G1, sm1, re.mono le1.le, (sat.bind q1).imp fun v' H2 w => ?_⟩
    obtain ⟨y, S2, G2, le2, sm2, r2, q2⟩ := w
    refine ⟨x, y, S2, G2, sm2, r1.mono le2.le, r2, (sat.bind q2).imp fun v3 H3 w => ?_⟩
    obtain ⟨z, S3, G3, le3, sm3, r3, q3⟩ := w
    have re3 := ((re.mono le1.le).mono le2.le).mono le3.le
    cases r3 with
    | bl k =>
      refine ⟨k, rfl, ?_⟩
      cases k with
      | false => exact q3 G3 H3 _ .refl sm3 (.bl false)
      | true =>
        refine ⟨ρ, S3, G3, sm3, re3, (sat.bind q3).imp fun v4 H4 w => ?_⟩
        obtain ⟨u, S4, G4, le4, sm4, r4, q4⟩ := w
        refine ⟨y, u, S4, G4, sm4, (r2.mono le3.le).mono le4.le, r4, (sat.bind q4).imp fun v5 H5 w => ?_⟩
        obtain ⟨z', S5, G5, le5, sm5, r5, q5⟩ := w
        cases r5 with
        | bl k =>
          refine ⟨k, rfl, ?_⟩
          cases k with
          | false => exact q5 G5 H5 _ .refl sm5 (.bl false)
          | true =>
            refine ⟨ρ, S5, G5, sm5, (re3.mono le4.le).mono le5.le, (sat.bind q5).imp fun v6 H6 w => ?_⟩
            obtain ⟨t, S6, G6, le6, sm6, r6, q6⟩ := w
            exact ⟨u, t, S6, G6, sm6, (r4.mono le5.le).mono le6.le, r6, q6⟩
        | _ => exact q5.elim
    | _ => exact q3.elim
end
/-! ### o[i] of an instance or of anything else -/
def ixB (c : String) (F : Fn) : G2 := fun x y S => match insOf S x with
  | some (c', _) => if c' = c then F [x, y] S else .no
  | none => ixG x y S
theorem qe_ixB {X : Cx} {a b : Expr} {ma mb : ME} {pos : Pos} {j : Nat} {c : String} {f : Addr} {F : Fn} (ho : Own X.K (gaS X.K c) "__getitem__" f) (hf : PySem.W.fnIn X.K f = true) (Ff : FnF X.prog X.w X.K X.mg X.base j f F) (hr : Room (j + 1) X.A) (ha : QE X a ma) (hb : QE X b mb)
    (hs : ∀ x i, subscripted b true (.ref x) i = runValue (.builtin "lifetime.subscript" ⟨[.ref x, i], []⟩) := by intro _ _; rfl) (hs2 : PlainIx b := by exact fun _ _ => rfl) : QE X (.Subscript a b pos) (bin (ixB c F) ma mb) := by
  have o : PE X (.Subscript a b pos) (fun σ H Q => tE X (bin (ixO c F) ma mb) σ H Q ∨ tE X (bin ixG ma mb) σ H Q) :=
    ⟨fun pins s σ H Q I z => z.elim ((qe_ixO ho hf Ff hr ha hb hs).run pins s σ H Q I) ((qe_ix ha hb hs2).run pins s σ H Q I)⟩
  refine qe_of o fun ρ S G σ H Q sm re z => ?_
  have z' : sat X (Rp X.K) G H ((ma ρ S).bind fun x S1 => (mb ρ S1).bind fun y S2 => ixB c F x y S2) Q := z
  match ea : ma ρ S, z' with
  | .ex cc fs S', q => exact .inl ⟨ρ, S, G, sm, re, by unfold bin; rw [ea]; exact q⟩
  | .no, q => exact q.elim
  | .ok x S1, q =>
    have q' : sat X (Rp X.K) G H ((mb ρ S1).bind fun y S2 => ixB c F x y S2) Q := q
    match eb : mb ρ S1, q' with
    | .ex cc fs S', q => exact .inl ⟨ρ, S, G, sm, re, by unfold bin; rw [ea]; show sat X _ G H ((mb ρ S1).bind _) Q; rw [eb]; exact q⟩
    | .no, q => exact q.elim
    | .ok y S2, q =>
      have q2 : sat X (Rp X.K) G H (ixB c F x y S2) Q := q
      unfold ixB at q2
      match ei : insOf S2 x, q2 with
      | some (c', fs), q2 => exact .inl ⟨ρ, S, G, sm, re, by unfold bin; rw [ea]; show sat X _ G H ((mb ρ S1).bind _) Q; rw [eb]; show sat X _ G H (ixO c F x y S2) Q; unfold ixO; rw [ei]; exact q2⟩
      | none, q2 => exact .inr ⟨ρ, S, G, sm, re, by unfold bin; rw [ea]; show sat X _ G H ((mb ρ S1).bind _) Q; rw [eb]; exact q2⟩
/-! ### a constant of a class -/
def ccE (c : String) (d : D) (o : ME) : ME := fun ρ S => (o ρ S).bind fun x S1 => if isCl c x = true then .ok d S1 else .no
theorem qe_cc {X : Cx} {o : Expr} {mo : ME} {c : String} {d : D} {v : V} {u mc : Value} {f : Str} {pos : Pos} (hrd : ClX.CRead X.K (gaS X.K c) mc) (hv : ClX.CVal X.K (gaS X.K c) mc f v u) (rd : ∀ G, Rp X.K G d v) (ho : QE X o mo) (hb : attributeBase o f X.env (eval o X.env) = eval o X.env := by rfl) :
    QE X (.Attribute o f pos) (ccE c d mo) := qe_of (ClX.pe_cval ho hb) fun ρ S G σ H Q sm re h => by
  refine ⟨ρ, S, G, sm, re, (sat.bind h).imp fun v H1 w => ?_⟩
  obtain ⟨x, S1, G1, le1, sm1, r1, q1⟩ := w
  split at q1
  · rename_i hc
    obtain ⟨rfl, rfl⟩ := isCl_rp hc r1
    exact ⟨_, _, _, _, rfl, hrd, hv, q1 G1 H1 _ .refl sm1 (rd G1)⟩
  · exact q1.elim
/-! ### cls(), cls a local name that holds the class -/
def mk0L (c : String) (g : Fn) (i : Nat) : ME := fun ρ S => match ρ[i]? with
  | some (some x) => if isCl c x = true then g [] S else .no
  | _ => .no
theorem qe_mk0L {X : Cx} (i : Nat) {x : Str} {p pos : Pos} {c : String} {F g : Fn} {j : Nat} {f : Addr} (hg : MkRd X c F g) (M : Mk X.K (gaS X.K c) f) (Ff : FnF X.prog X.w X.K X.mg X.base j f F) (hr : Room (j + 1) X.A)
    (hN : X.N[i]? = some x := by rfl) (hv : Vis X.env.scope x := by first | exact .inl rfl | exact .inr (.inl rfl) | exact .inr (.inr rfl)) (hd : (x == ("__debug__" : Str)) = false := by decide) (hcd : (x == ("__classdict__" : Str)) = false := by decide) :
    QE X (.Call (.Name x p) [] [] pos) (mk0L c g i) := ⟨fun pins s σ H Q I z => by
  obtain ⟨ρ, S, G, sm, re, h⟩ := z
  unfold mk0L at h
  match hx : ρ[i]?, h with
  | some (some d), h =>
    simp only at h
    split at h
    · rename_i hc
      obtain ⟨v, h1, h2⟩ := re.get hx
      refine wpAny_Call_Name_kw (thn ((pe_var hN hv hd hcd).run pins s σ H (fun w H' => w = v ∧ H' = H) I ⟨v, h1, rfl, rfl⟩) fun u s1 k => ?_)
      obtain ⟨w, H', I1, rw', rfl, rfl⟩ := k
      obtain ⟨rfl, rfl⟩ := isCl_rp hc h2
      cases rw'
      exact PySem.W.callWith_K0 I1.kIn M.kp (StX.run_makeR M Ff hr passE (I1.tok _) .nil (hg sm .nil h))
    · exact h.elim
  | some none, h => exact h.elim
  | none, h => exact h.elim⟩
/-! ### tuple * int -/
section
variable {X : Cx} {pins : List (Addr × Obj)} {σ : L2.St} {H : Hp} {s : Shared}
theorem rep_same {l : Addr} {xs : List V} {k : Int} {t : Tok} {Q : VK} (I : Inv X pins σ H s) (hT : SqT X.K H l xs) (h1 : -(2 ^ 63) ≤ k) (h2 : k < 2 ^ 63) (hc : xs = [] ∨ k = 1) (q : Q (.ref l) H) : wpAny (model X.prog X.w) X.A (binaryOp .Mult (.ref l) (.int k t)) (EP X pins σ Q) X.xe s := by
  obtain ⟨its, r, ⟨⟨cls, dd, data, sl⟩, ho, hc', n, hd⟩, hs⟩ := I.tuple hT
  simp only at hc' hd
  subst hc' hd
  have c0 : (decide (k < -(2 ^ 63)) || decide (k ≥ 2 ^ 63)) = false := by
    rw [decide_eq_false (by omega), decide_eq_false (by omega)] <;> rfl
  have c1 : (its.toArray.isEmpty || k == 1) = true := by
    rcases hc with e | e
    · subst e
      cases r
      rfl
    · subst e
      simp
  exact wpAny_binaryOp_repeat_ref (T := "tuple") (U := "int") (by decide) ⟨_, ho, rfl⟩ (fun s' => typeIs_int s' k t) noFill_tuple_mul F.fills_int_mul F.slot_int_rmul repeat_tuple F.slot_int_index.lookup
    (call_meets F.slot_int_rmul (typeIs_int s k t) F.entry_int_rmul (F.args_int_rmul_2 _ _) (int_rmul_tuple k t l its.toArray n dd sl)
      ⟨ho, rfl, ⟨_, ho, rfl⟩, call_meets F.slot_tuple_mul ⟨_, ho, rfl⟩ F.entry_tuple_mul (F.args_tuple_mul_2 _ _) (tuple_mul_same l its.toArray n dd sl k t c0 c1) ⟨ho, ⟨.ref l, H, I, rfl, q⟩⟩⟩)
theorem rep_zero {l : Addr} {xs : List V} {k : Int} {t : Tok} {Q : VK} (I : Inv X pins σ H s) (hT : SqT X.K H l xs) (h1 : -(2 ^ 63) ≤ k) (hk : k ≤ 0) (hne : xs ≠ []) (q : ∀ p, H p = none → Q (.ref p) (upd H p (.tup []))) : wpAny (model X.prog X.w) X.A (binaryOp .Mult (.ref l) (.int k t)) (EP X pins σ Q) X.xe s := by
  obtain ⟨its, r, ⟨⟨cls, dd, data, sl⟩, ho, hc', n, hd⟩, hs⟩ := I.tuple hT
  simp only at hc' hd
  subst hc' hd
  have hi : its.toArray.isEmpty = false := by
    cases r with
    | nil => exact absurd rfl hne
    | cons _ _ => rfl
  have c0 : (decide (k < -(2 ^ 63)) || decide (k ≥ 2 ^ 63)) = false := by
    rw [decide_eq_false (by omega), decide_eq_false (by omega)] <;> rfl
  have c1 : (its.toArray.isEmpty || k == 1) = false := by
    rw [hi, Bool.false_or]
    exact beq_eq_false_iff_ne.mpr (by omega)
  have c2 : (decide (k ≤ 0) || its.toArray.isEmpty) = true := by rw [decide_eq_true hk]; rfl
  refine wpAny_binaryOp_repeat_ref (T := "tuple") (U := "int") (by decide) ⟨_, ho, rfl⟩ (fun s' => typeIs_int s' k t) noFill_tuple_mul F.fills_int_mul F.slot_int_rmul repeat_tuple F.slot_int_index.lookup
    (call_meets F.slot_int_rmul (typeIs_int s k t) F.entry_int_rmul (F.args_int_rmul_2 _ _) (int_rmul_tuple k t l its.toArray n dd sl)
      ⟨ho, rfl, ⟨_, ho, rfl⟩, call_meets F.slot_tuple_mul ⟨_, ho, rfl⟩ F.entry_tuple_mul (F.args_tuple_mul_2 _ _) (tuple_mul_zero l its.toArray n dd sl k t c0 c1 c2) ⟨ho, ?_⟩⟩)
  refine ⟨.ref s.heap.objs.size, _, I.laid (t' := s.toks) (o := .tup []) (fun b ob q => Heap.get?_push_of_some _ q) (Nat.le_refl _) ?_, rfl, q _ (I.hok.fresh (Nat.le_refl _))⟩
  exact ⟨by show 0 ≤ sizeLine; decide, [], .nil, IsTup.new _ _⟩
end
def repOkT (n : Nat) (k : Int) : Bool := decide (-(2 ^ 63) ≤ k) && decide (k ≤ 1000) && decide (n ≤ 1000)
/-- x * y, tuples too -/
def mulT : G2 := fun x y S => match x, y with
  | .tup a, .int k => if repOkT a.length k = true then .ok (.tup (List.replicate k.toNat a).flatten) S else .no
  | x, y => mulG x y S
theorem rep_nil {α : Type} : ∀ n : Nat, (List.replicate n ([] : List α)).flatten = []
  | 0 => rfl
  | n + 1 => by rw [List.replicate_succ, List.flatten_cons, rep_nil n]; rfl
theorem of_mulT {X : Cx} : OpF X (binaryOp .Mult) mulT := fun pins s σ H v w u u' Q I rv rw' ⟨x, y, S, G, sm, rx, ry, h⟩ => by
  unfold mulT at h
  split at h
  · rename_i a k
    split at h
    · rename_i c
      unfold repOkT at c
      simp only [Bool.and_eq_true, decide_eq_true_eq] at c
      cases ry
      cases rx with
      | @tup _ l vs h1 r1 =>
        have hT := SqT.mono h1 sm.fr
        obtain rfl : u = Value.ref l := rv
        obtain ⟨t, rfl⟩ := rw'
        by_cases e1 : a = [] ∨ k = 1
        · have ee : (List.replicate k.toNat a).flatten = a := by
            rcases e1 with e | e
            · subst e
              exact rep_nil _
            · subst e
              simp
          rw [ee] at h
          refine rep_same I hT c.1.1 (by omega) ?_ (h G H _ .refl sm (.tup h1 r1))
          rcases e1 with e | e
          · subst e
            cases r1
            exact .inl rfl
          · exact .inr e
        · have hne : vs ≠ [] := fun e => e1 (.inl (by subst e; cases r1; rfl))
          by_cases e2 : k ≤ 0
          · have ee : (List.replicate k.toNat a).flatten = [] := by
              have : k.toNat = 0 := by omega
              rw [this]
              rfl
            rw [ee] at h
            exact rep_zero I hT c.1.1 e2 hne fun p hp => new_tup sm hp .nil h
          · have k2 : 2 ≤ k := by
              have : k ≠ 1 := fun e => e1 (.inr e)
              omega
            exact op_repT pins s σ H (.ref l) (.int k) _ _ Q I rfl ⟨t, rfl⟩ ⟨l, k, vs, rfl, rfl, hT, hne, k2, c.1.2, by rw [r1.length]; exact c.2, fun p hp => new_tup sm hp (r1.flat _) h⟩
    · exact h.elim
  · exact of_mul pins s σ H v w u u' Q I rv rw' ⟨_, _, S, G, sm, rx, ry, h⟩
/-! ### int * x of an own class; x op= y -/
theorem spO_ok {X : Cx} {G : Gh} {H : Hp} {o : Out D} {Q : VK} (h : sat X (Rp X.K) G H (okRes o) Q) : spO X.K G H o (fun v H' => okV v ∧ Q v H') (Est X) := (spO_okRes h).imp fun _ _ z => ⟨.inl z.1, z.2⟩
def rbinO (c : String) (F : Fn) (g : G2) : G2 := fun x y S => match x with
  | .int i => match insOf S y with
    | some (c', _) => if c' = c then okRes (F [y, .int i] S) else .no
    | none => g (.int i) y S
  | x => g x y S
theorem of_rmulO {X : Cx} {j : Nat} {c : String} {f f' : Addr} {F : Fn} {g : G2} (pl : Plain X.K (gaS X.K c)) (om : Own X.K (gaS X.K c) "__mul__" f') (o : Own X.K (gaS X.K c) "__rmul__" f) (hsub : PySem.W.subIn X.K (.ref (gaS X.K c)) (.type "int") = some false)
    (Ff : FnF X.prog X.w X.K X.mg X.base j f F) (hr : Room j X.A) (hg : OpF X (binaryOp .Mult) g) : OpF X (binaryOp .Mult) (rbinO c F g) := fun pins s σ H v w u u' Q I rv rw' ⟨x, y, S, G, sm, rx, ry, h⟩ => by
  unfold rbinO at h
  split at h
  · split at h
    · rename_i c' fs hi
      split at h
      · rename_i hc
        subst hc
        cases rx
        obtain ⟨b, dy, ws, rfl, hB, rf⟩ := sm.ins hi ry
        obtain ⟨cd, hcd, hm⟩ := pl
        exact op_rbinI (op := .Mult) PySem.F.slot_int_mul PySem.F.entry_int_mul (fun a b => PySem.F.args_int_mul_2 a b) int_mul_inst PySem.F.fills_int_mul (fun h k => PySem.W.fills_K k hcd hm om.at_) o hsub Ff hr passE pins s σ H _ _ u u' Q I rv rw' ⟨_, b, dy, ws, rfl, rfl, hB, [y, .int _], S, G, sm, .cons ry (.cons (.int _) .nil), spO_ok h⟩
      · exact h.elim
    · exact hg pins s σ H v w u u' Q I rv rw' ⟨_, _, S, G, sm, rx, ry, h⟩
  · exact hg pins s σ H v w u u' Q I rv rw' ⟨_, _, S, G, sm, rx, ry, h⟩
/-- what is known of x op= y where there is no method in place -/
structure Ips (X : Cx) (j : Nat) (op : Operator) (c : String) (F : Fn) : Prop where
  pl : Plain X.K (gaS X.K c)
  n1 : PySem.W.findIn X.K (.ref (gaS X.K c)) (dunderI op.info.2) = some none
  n2 : PySem.W.findIn X.K (.type "object") (dunderI op.info.2) = some none
  fn : ∃ f, Own X.K (gaS X.K c) (PySem.dunder op.info.2) f ∧ FnF X.prog X.w X.K X.mg X.base j f F
  rc : ∃ rc, PySem.W.findIn X.K (.ref (gaS X.K c)) (dunderR op.info.2) = some rc ∧ (rc = none ∨ ∃ g : Addr, rc = some (.ref g))
  i2 : ∃ ro, PySem.W.findIn X.K (.type "int") (dunderR op.info.2) = some ro
  ns : PySem.W.subIn X.K (.type "int") (.ref (gaS X.K c)) = some false
  fi : fillsNumberSlot (.type "int") op.info.2 = pure true
def ipO (c : String) (F : Fn) (g : G2) : G2 := binO c F g
theorem if_ipO {X : Cx} {j : Nat} {op : Operator} {c : String} {F : Fn} {g : G2} (B : Ips X j op c F) (hr : Room j X.A) (hg : IpF X op g) : IpF X op (ipO c F g) := fun pins s σ H v w u u' Q I rv rw' ⟨x, y, S, G, sm, rx, ry, h⟩ => by
  unfold ipO binO at h
  split at h
  · rename_i c1 fs hi
    split at h
    · rename_i hc
      subst hc
      obtain ⟨a, dx, ws, rfl, hA, rf⟩ := sm.ins hi rx
      obtain ⟨f, hown, Ff⟩ := B.fn
      split at h
      · rename_i c2 gs hi2
        split at h
        · rename_i hc2
          subst hc2
          obtain ⟨b, dy, zs, rfl, hB, rg⟩ := sm.ins hi2 ry
          exact ip_O B.pl B.n1 B.n2 hown Ff hr passE pins s σ H _ _ u u' Q I rv rw' ⟨a, b, dx, dy, ws, zs, rfl, rfl, hA, hB, [x, y], S, G, sm, .cons rx (.cons ry .nil), spO_ok h⟩
        · exact h.elim
      · split at h
        · cases ry
          obtain ⟨rc, hR, hp⟩ := B.rc
          obtain ⟨ro, h2⟩ := B.i2
          exact ip_I B.pl B.n1 B.n2 hown hR hp B.fi h2 B.ns Ff hr passE pins s σ H _ _ u u' Q I rv rw' ⟨a, _, dx, ws, rfl, rfl, hA, [x, .int _], S, G, sm, .cons rx (.cons (.int _) .nil), spO_ok h⟩
        · exact h.elim
    · exact h.elim
  · exact hg pins s σ H v w u u' Q I rv rw' ⟨x, y, S, G, sm, rx, ry, h⟩
def noG2 : G2 := fun _ _ _ => .no
theorem if_no {X : Cx} {op : Operator} : IpF X op noG2 := fun _ _ _ _ _ _ _ _ _ _ _ _ ⟨_, _, _, _, _, _, _, h⟩ => h.elim
theorem of_no {X : Cx} {f : Value → Value → Sem Value} : OpF X f noG2 := fun _ _ _ _ _ _ _ _ _ _ _ _ ⟨_, _, _, _, _, _, _, h⟩ => h.elim
/-! ### repr of an int -/
def reprI (g : Fn) : Fn := fun ds S => match ds with
  | [.int i] => if i.natAbs.log2 < 1920 then .ok (.str (strOf i)) S else .no
  | ds => g ds S
theorem cf_reprI {X : Cx} {g : Fn} (hg : CallF X (.builtin "repr") g) : CallF X (.builtin "repr") (reprI g) := fun pins s σ H vs us Q I rv ⟨ds, S, G, sm, r, h⟩ => by
  unfold reprI at h
  split at h
  · split at h
    · rename_i c
      obtain ⟨v, rfl, q⟩ := vals1 r
      cases q
      exact SkE.call_repr_int pins s σ H _ us Q I rv ⟨_, rfl, c, h G H _ .refl sm (.str _)⟩
    · exact h.elim
  · exact hg pins s σ H vs us Q I rv ⟨_, S, G, sm, r, h⟩
theorem cval_of {K : PySem.W.Frag} {C : Addr} {f : Str} {i : Int} (h : (match PySem.W.findCls K (.ref C) (.type "type") f with | some (.val (.int j _)) => decide (j = i) | _ => false) = true) : ∃ u, ClX.CVal K C (.type "type") f (.int i) u := by
  split at h
  · rename_i j t e
    have := of_decide_eq_true h
    subst this
    exact ⟨_, e, ⟨_, rfl⟩⟩
  · cases h
theorem memLk {β : Type} {c : String} {b : β} : ∀ {l : List (String × β)}, l.lookup c = some b → (c, b) ∈ l
  | [], h => by cases h
  | (k, v) :: l, h => by
    by_cases e : c = k
    · subst e
      simp at h
      subst h
      exact List.mem_cons_self
    · have e' : (c == k) = false := by simpa using e
      rw [List.lookup_cons, e'] at h
      exact List.mem_cons_of_mem _ (memLk h)
theorem u65 {j : Nat} {A : Around} (r : Room j A) : A.units + 65 < cLine := by have := r.un; omega
end PV
set_option Elab.async false
set_option linter.all false
set_option maxRecDepth 100000
set_option maxHeartbeats 4000000
/-! running what the walks tell -/
namespace PV
open PySem PySem.Spec PyProof.Rows L2 ZL
theorem run_ok {np n : Nat} {b : MS} {ds : List D} {S S' : Sto} {d : D} (hl : ds.length = np) (hS : S'.length = S.length) (h : fin (b (ds.map some ++ List.replicate (n - np) none) S) = .ok d S') : dfn np n b ds S = .ok d S' := by
  unfold dfn
  rw [if_pos hl, h, gc_len hS]
theorem run_app {np n : Nat} {b : MS} {ds : List D} {S T : Sto} {d : D} (hl : ds.length = np) (hd : d.und S.length = true) (h : fin (b (ds.map some ++ List.replicate (n - np) none) S) = .ok d (S ++ T)) : dfn np n b ds S = .ok d S := by
  unfold dfn
  rw [if_pos hl, h, gc_app hd]
theorem run_setApp {np n : Nat} {b : MS} {ds : List D} {S T : Sto} {d : D} {m : Nat} {c : Cell} (hl : ds.length = np) (hd : d.und S.length = true) (hc : c.und S.length = true) (h : fin (b (ds.map some ++ List.replicate (n - np) none) S) = .ok d (S.set m c ++ T)) : dfn np n b ds S = .ok d (S.set m c) := by
  unfold dfn
  rw [if_pos hl, h, gc_setApp hd hc]
theorem runV {np n : Nat} {b : MS} {ds : List D} {S : Sto} {o : Out D} (hl : np ≤ ds.length) (hl2 : ds.length ≤ 1000) (h : dfn (np + 1) n b (ds.take np ++ [.tup (ds.drop np)]) S = o) : dfnV np n b ds S = o := by
  unfold dfnV
  rw [if_pos ⟨hl, hl2⟩, h]
/-- a comprehension of one name whose elements leave all as it is -/
theorem lcL_pure {i : Nat} {e : ME} {all : List D} {ρ : Ev} {S : Sto} {f : D → D} : ∀ (xs : List D), (∀ x ∈ xs, e (ρ.set i (some x)) S = .ok (f x) S) → lcL (.nm i) tYs e none all ρ xs S = .ok (xs.map f) S
  | [], _ => by
    unfold lcL
    rw [if_pos (show Gd none all S from trivial)]
    rfl
  | x :: xs, h => by
    unfold lcL
    rw [if_pos (show Gd none all S from trivial)]
    have h1 := h x List.mem_cons_self
    have h2 := lcL_pure (all := all) xs fun y hy => h y (List.mem_cons_of_mem _ hy)
    simp only [setT, tYs, h1, h2, List.map_cons]
theorem lc_pure {i : Nat} {it : MI} {e : ME} {ρ : Ev} {S : Sto} {xs : List D} (f : D → D) (hi : it ρ S = .ok (xs, none) S) (hl : xs.length ≤ 1000) (h : ∀ x ∈ xs, e ((ρ.set i none).set i (some x)) S = .ok (f x) S) : lcE (.nm i) it tYs e ρ S = .ok (.lst (xs.map f)) S := by
  unfold lcE lcO
  rw [hi]
  show (Out.bind (if xs.length ≤ 1000 then lcL (.nm i) tYs e none xs (ρ.set i none) xs S else .no) _) = _
  rw [if_pos hl, lcL_pure (f := f) xs h]
  rfl
/-- .. over ints -/
theorem lc_ints {i : Nat} {it : MI} {e : ME} {ρ : Ev} {S : Sto} {ns : List Int} (f : Int → D) (hi : it ρ S = .ok (ns.map .int, none) S) (hl : ns.length ≤ 1000) (h : ∀ n ∈ ns, e ((ρ.set i none).set i (some (.int n))) S = .ok (f n) S) : lcE (.nm i) it tYs e ρ S = .ok (.lst (ns.map f)) S := by
  have z := lc_pure (e := e) (i := i) (fun d => match d with | .int n => f n | d => d) hi (by simpa using hl) (by
    intro x hx
    obtain ⟨n, hn, rfl⟩ := List.mem_map.mp hx
    exact h n hn)
  rw [z, List.map_map]
  rfl
/-- .. over texts -/
theorem lc_strs {i : Nat} {it : MI} {e : ME} {ρ : Ev} {S : Sto} {ns : List Str} (f : Str → D) (hi : it ρ S = .ok (ns.map .str, none) S) (hl : ns.length ≤ 1000) (h : ∀ n ∈ ns, e ((ρ.set i none).set i (some (.str n))) S = .ok (f n) S) : lcE (.nm i) it tYs e ρ S = .ok (.lst (ns.map f)) S := by
  have z := lc_pure (e := e) (i := i) (fun d => match d with | .str n => f n | d => d) hi (by simpa using hl) (by
    intro x hx
    obtain ⟨n, hn, rfl⟩ := List.mem_map.mp hx
    exact h n hn)
  rw [z, List.map_map]
  rfl
theorem all_true {α : Type} (ns : List α) (S : Sto) : allB [.lst (ns.map fun _ => .bl true)] S = .ok (.bl true) S := by
  have e2 : asBools (ns.map fun _ => D.bl true) = some (List.replicate ns.length true) := by
    rw [← asBools_map]
    congr 1
    induction ns with
    | nil => rfl
    | cons a l ih => simp only [List.map_cons, List.length_cons, List.replicate_succ, ih]
  have e3 : (List.replicate ns.length true).all id = true := by simp
  simp only [allB, e2, e3]
/-- .. with a test -/
theorem lcL_filt {i : Nat} {t : MT} {e : ME} {all : List D} {ρ : Ev} {S : Sto} {f : D → D} {p : D → Bool} : ∀ (xs : List D), (∀ x ∈ xs, t (ρ.set i (some x)) S = .ok (p x) S) → (∀ x ∈ xs, p x = true → e (ρ.set i (some x)) S = .ok (f x) S) → lcL (.nm i) t e none all ρ xs S = .ok ((xs.filter p).map f) S
  | [], _, _ => by
    unfold lcL
    rw [if_pos (show Gd none all S from trivial)]
    rfl
  | x :: xs, h, h' => by
    unfold lcL
    rw [if_pos (show Gd none all S from trivial)]
    have h1 := h x List.mem_cons_self
    have h2 := lcL_filt (all := all) xs (fun y hy => h y (List.mem_cons_of_mem _ hy)) fun y hy => h' y (List.mem_cons_of_mem _ hy)
    cases c : p x with
    | true =>
      have h3 := h' x List.mem_cons_self c
      simp only [setT, h1, h2, h3, c, List.filter_cons, if_true, List.map_cons]
    | false =>
      simp only [setT, h1, h2, c, List.filter_cons]
      rfl
theorem lc_filt {i : Nat} {it : MI} {t : MT} {e : ME} {ρ : Ev} {S : Sto} {xs : List D} (f : D → D) (p : D → Bool) (hi : it ρ S = .ok (xs, none) S) (hl : xs.length ≤ 1000) (ht : ∀ x ∈ xs, t ((ρ.set i none).set i (some x)) S = .ok (p x) S) (h : ∀ x ∈ xs, p x = true → e ((ρ.set i none).set i (some x)) S = .ok (f x) S) :
    lcE (.nm i) it t e ρ S = .ok (.lst ((xs.filter p).map f)) S := by
  unfold lcE lcO
  rw [hi]
  show (Out.bind (if xs.length ≤ 1000 then lcL (.nm i) t e none xs (ρ.set i none) xs S else .no) _) = _
  rw [if_pos hl, lcL_filt (f := f) xs ht h]
  rfl
/-- a comprehension by an invariant: what is made so far and the store -/
theorem lcL_inv {T : Tg} {e : ME} {all : List D} {ρ : Ev} (W : List D → Sto → Prop) : ∀ (xs : List D) (S : Sto) (acc : List D), W acc S → (∀ x ∈ xs, ∀ acc S, W acc S → ∃ ρ1 d S', setT T x ρ = some ρ1 ∧ e ρ1 S = .ok d S' ∧ W (acc ++ [d]) S') → ∃ ds S', lcL T tYs e none all ρ xs S = .ok ds S' ∧ W (acc ++ ds) S'
  | [], S, acc, h, _ => ⟨[], S, by unfold lcL; rw [if_pos (show Gd none all S from trivial)], by rw [List.append_nil]; exact h⟩
  | x :: xs, S, acc, h, hs => by
    obtain ⟨ρ1, d, S', h1, h2, h3⟩ := hs x List.mem_cons_self acc S h
    obtain ⟨ds, S2, h4, h5⟩ := lcL_inv (all := all) W xs S' (acc ++ [d]) h3 fun y hy => hs y (List.mem_cons_of_mem _ hy)
    refine ⟨d :: ds, S2, ?_, by rw [List.append_assoc] at h5; exact h5⟩
    unfold lcL
    rw [if_pos (show Gd none all S from trivial)]
    simp only [h1, show ∀ ρ S, tYs ρ S = .ok true S from fun _ _ => rfl, h2, h4]
theorem lc_inv {T : Tg} {it : MI} {e : ME} {ρ : Ev} {S S1 : Sto} {xs : List D} (W : List D → Sto → Prop) (hi : it ρ S = .ok (xs, none) S1) (hl : xs.length ≤ 1000) (h0 : W [] S1) (hs : ∀ x ∈ xs, ∀ acc S, W acc S → ∃ ρ1 d S', setT T x (wipeD ρ T.slots) = some ρ1 ∧ e ρ1 S = .ok d S' ∧ W (acc ++ [d]) S') :
    ∃ ds S', lcE T it tYs e ρ S = .ok (.lst ds) S' ∧ W ds S' := by
  obtain ⟨ds, S', h1, h2⟩ := lcL_inv (all := xs) (ρ := wipeD ρ T.slots) W xs S1 [] h0 hs
  refine ⟨ds, S', ?_, h2⟩
  unfold lcE lcO
  rw [hi]
  show (Out.bind (if xs.length ≤ 1000 then lcL T tYs e none xs (wipeD ρ T.slots) xs S1 else .no) _) = _
  rw [if_pos hl, h1]
  rfl
/-- a loop by an invariant -/
theorem forL_inv {T : Tg} {b : MS} {all : List D} (W : Nat → Ev → Sto → Prop) : ∀ (xs : List D) (i : Nat) (ρ : Ev) (S : Sto), W i ρ S → (∀ (j : Nat) x ρ S, xs[j]? = some x → W (i + j) ρ S → ∃ ρ1 ρ2 S2, setT T x ρ = some ρ1 ∧ (b ρ1 S = .ok (.nx ρ2) S2 ∨ b ρ1 S = .ok (.ct ρ2) S2) ∧ W (i + j + 1) ρ2 S2) →
    ∃ ρ' S', forL T b none all xs ρ S = .ok (.nx ρ') S' ∧ W (i + xs.length) ρ' S'
  | [], i, ρ, S, h, _ => ⟨ρ, S, forL_nil, h⟩
  | x :: xs, i, ρ, S, h, hs => by
    obtain ⟨ρ1, ρ2, S2, h1, h2, h3⟩ := hs 0 x ρ S rfl h
    obtain ⟨ρ', S', h4, h5⟩ := forL_inv (all := all) W xs (i + 1) ρ2 S2 h3 fun j y ρ S hy hw => by
      have := hs (j + 1) y ρ S (by simpa using hy) (by rw [show i + (j + 1) = i + 1 + j by omega]; exact hw)
      rw [show i + (j + 1) + 1 = i + 1 + j + 1 by omega] at this
      exact this
    refine ⟨ρ', S', ?_, by rw [List.length_cons, show i + (xs.length + 1) = i + 1 + xs.length by omega]; exact h5⟩
    rw [forL_cons, h1]
    rcases h2 with h2 | h2
    · simp only [h2, Out.bind, h4]
    · simp only [h2, Out.bind, h4]
theorem for_inv {T : Tg} {it : MI} {b : MS} {ρ : Ev} {S S1 : Sto} {xs : List D} (W : Nat → Ev → Sto → Prop) (hi : it ρ S = .ok (xs, none) S1) (h0 : W 0 ρ S1) (hs : ∀ (j : Nat) x ρ S, xs[j]? = some x → W j ρ S → ∃ ρ1 ρ2 S2, setT T x ρ = some ρ1 ∧ (b ρ1 S = .ok (.nx ρ2) S2 ∨ b ρ1 S = .ok (.ct ρ2) S2) ∧ W (j + 1) ρ2 S2) :
    ∃ ρ' S', sFor T it b ρ S = .ok (.nx ρ') S' ∧ W xs.length ρ' S' := by
  obtain ⟨ρ', S', h1, h2⟩ := forL_inv (T := T) (b := b) (all := xs) W xs 0 ρ S1 h0 fun j x ρ S hx hw => by
    have := hs j x ρ S hx (by simpa using hw)
    simpa using this
  refine ⟨ρ', S', ?_, by simpa using h2⟩
  unfold sFor
  rw [hi]
  exact h1
/-! ### small facts -/
theorem toPs_ints : ∀ ns : List Int, toPs (ns.map .int) = some (ns.map .int)
  | [] => by rw [List.map_nil, List.map_nil, toPs]
  | n :: ns => by rw [List.map_cons, toPs, toPs_ints ns, toP]; rfl
theorem belows_ints (m : Nat) : ∀ ns : List Int, belows m (ns.map .int) = true
  | [] => rfl
  | n :: ns => by rw [List.map_cons, belows, belows_ints m ns]; rfl
theorem belows_strs (m : Nat) : ∀ ns : List Str, belows m (ns.map .str) = true
  | [] => rfl
  | n :: ns => by rw [List.map_cons, belows, belows_strs m ns]; rfl
theorem belows_bls (m : Nat) : ∀ ns : List Bool, belows m (ns.map .bl) = true
  | [] => rfl
  | n :: ns => by rw [List.map_cons, belows, belows_bls m ns]; rfl
theorem eqvAll_ints : ∀ ns ms : List Int, PyData.eqvAll (ns.map .int) (ms.map .int) = decide (ns = ms)
  | [], [] => by rw [List.map_nil, PyData.eqvAll]; rfl
  | [], _ :: _ => by rw [List.map_nil, List.map_cons, PyData.eqvAll]; rfl
  | _ :: _, [] => by rw [List.map_nil, List.map_cons, PyData.eqvAll]; rfl
  | n :: ns, m :: ms => by
    rw [List.map_cons, List.map_cons, PyData.eqvAll, eqvAll_ints ns ms, PyData.eqv]
    by_cases h : n = m
    · subst h
      by_cases h' : ns = ms
      · subst h'; simp
      · simp [h']
    · simp [h]
theorem any_ints (n : Int) : ∀ ms : List Int, ((ms.map PyData.int).any fun q => PyData.eqv q (.int n)) = decide (n ∈ ms)
  | [] => by simp
  | m :: ms => by
    rw [List.map_cons, List.any_cons, any_ints n ms, PyData.eqv]
    by_cases h : n = m
    · subst h; simp
    · have h' : (m == n) = false := by simpa using fun e => h e.symm
      rw [h']
      simp [h]
theorem flat_ints : ∀ ns : List Int, ((ns.map PyData.int).all inD.flat) = true
  | [] => rfl
  | n :: ns => by rw [List.map_cons, List.all_cons, flat_ints ns]; rfl
end PV
set_option Elab.async false
set_option linter.all false
set_option maxRecDepth 100000
set_option maxHeartbeats 4000000
namespace PV
open PySem PySem.Spec PyProof.Rows L2 ZL
/-! ### plain data of ints -/
theorem lay_ints : ∀ ns : List Int, PyData.canLayAll0 (ns.map PyData.int) = true
  | [] => by simp [PyData.canLayAll0]
  | n :: ns => by simp [PyData.canLayAll0, PyData.canLay0, lay_ints ns]
theorem depth_ints : ∀ ns : List Int, PyData.depthAll (ns.map PyData.int) = 0
  | [] => by simp [PyData.depthAll]
  | n :: ns => by simp [PyData.depthAll, PyData.depth, depth_ints ns]
theorem shaped_lints (ns : List Int) : SeqAt.shaped (.list (ns.map PyData.int)) = true := by simp [SeqAt.shaped, PyData.canLay0, lay_ints, PyData.depth, depth_ints]
theorem shaped_tints (ns : List Int) : SeqAt.shaped (.tuple (ns.map PyData.int)) = true := by simp [SeqAt.shaped, PyData.canLay0, lay_ints, PyData.depth, depth_ints]
theorem shaped_int (n : Int) : SeqAt.shaped (.int n) = true := by simp [SeqAt.shaped, PyData.canLay0, PyData.depth]
theorem eqD_lints (ns ms : List Int) : eqD (.lst (ns.map .int)) (.lst (ms.map .int)) = some (decide (ns = ms)) := by
  simp [eqD, eqP, toP, toPs_ints, shaped_lints, PyData.eqv, eqvAll_ints]
theorem eqD_tints (ns ms : List Int) : eqD (.tup (ns.map .int)) (.tup (ms.map .int)) = some (decide (ns = ms)) := by
  simp [eqD, eqP, toP, toPs_ints, shaped_tints, PyData.eqv, eqvAll_ints]
theorem eqD_lnil (ns : List Int) : eqD (.lst (ns.map .int)) (.lst []) = some (decide (ns = [])) := eqD_lints ns []
theorem eqD_int (n m : Int) : eqD (.int n) (.int m) = some (decide (n = m)) := by
  simp [eqD, eqP, toP, shaped_int, PyData.eqv]
  by_cases h : n = m
  · subst h; simp
  · simp [h]
/-! ### what draws -/
def penC (cs : List Int) (a r : Int) : Cell := .lst [.lst (cs.map .int), .int a, .int r]
def Pen (S : Sto) (p : Nat) (B : Int) : Prop := ∃ cs a r, S[p]? = some (penC cs a r) ∧ cs.length ≤ 63 ∧ 0 ≤ a ∧ a ≤ B
theorem Pen.mono {S : Sto} {p : Nat} {B B' : Int} (h : Pen S p B) (hb : B ≤ B') : Pen S p B' := by
  obtain ⟨cs, a, r, h1, h2, h3, h4⟩ := h
  exact ⟨cs, a, r, h1, h2, h3, by omega⟩
theorem Pen.lt {S : Sto} {p : Nat} {B : Int} (h : Pen S p B) : p < S.length := by
  obtain ⟨cs, a, r, h1, _⟩ := h
  exact (List.getElem?_eq_some_iff.mp h1).1
theorem Pen.app {S T : Sto} {p : Nat} {B : Int} (h : Pen S p B) : Pen (S ++ T) p B := by
  have hl := h.lt
  obtain ⟨cs, a, r, h1, h2⟩ := h
  exact ⟨cs, a, r, by rw [List.getElem?_append_left hl]; exact h1, h2⟩
theorem penC_und (m : Nat) (cs : List Int) (a r : Int) : (penC cs a r).und m = true := by
  simp [penC, Cell.und, belows, D.und, belows_ints]
/-- the same but for the cells of a pen -/
def SamePen (p : Nat) (S S' : Sto) : Prop := ∃ cs a r, S' = S.set p (penC cs a r)
theorem SamePen.refl {p : Nat} {S : Sto} {B : Int} (h : Pen S p B) : SamePen p S S := by
  have hl := h.lt
  obtain ⟨cs, a, r, h1, _⟩ := h
  refine ⟨cs, a, r, ?_⟩
  obtain ⟨_, h2⟩ := List.getElem?_eq_some_iff.mp h1
  rw [← h2]
  simp
theorem SamePen.trans {p : Nat} {S S' S'' : Sto} (h : SamePen p S S') (h' : SamePen p S' S'') : SamePen p S S'' := by
  obtain ⟨cs, a, r, rfl⟩ := h
  obtain ⟨cs', a', r', rfl⟩ := h'
  exact ⟨cs', a', r', by rw [List.set_set]⟩
theorem SamePen.len {p : Nat} {S S' : Sto} (h : SamePen p S S') : S'.length = S.length := by
  obtain ⟨cs, a, r, rfl⟩ := h
  rw [List.length_set]
theorem SamePen.get {p m : Nat} {S S' : Sto} (h : SamePen p S S') (hm : m ≠ p) : S'[m]? = S[m]? := by
  obtain ⟨cs, a, r, rfl⟩ := h
  rw [List.getElem?_set_ne (Ne.symm hm)]
def drawT (c3 c4 c5 c6 c7 : Int) : MS := (sSeq (sIf (tAn (tst (bin (ltG) (v 3) (cal lenB (aCons (bin ixG (v 0) (k (.int 0))) (aNil))))) (tst (bin (geG) (cal absB (aCons (v 4) (aNil))) (bin (powG) (k (.int 10)) (k (.int 18)))))) (sSeq (sSet 5 (bin (addG) (bin (mulG) (k (.int 2)) (bin (subG) (cal absB (aCons (v 4) (aNil))) (bin (powG) (k (.int 10)) (k (.int 18))))) (cal intB (aCons (bin (ltG) (v 4) (k (.int 0))) (aNil))))) (sSeq (sSub (v 0) (k (.int 2)) (bin (fdivG) (cal intB (aCons (v 5) (aNil))) (v 1))) (sSeq (sRet (bin (modG) (cal intB (aCons (v 5) (aNil))) (v 1))) (sNil)))) (sNil)) (sSeq (sSet 6 (bin (modG) (cal intB (aCons (bin (powG) (bin (addG) (bin (addG) (bin (modG) (cal intB (aCons (v 4) (aNil))) (k (.int 2147483549))) (bin (mulG) (k (.int c3)) (v 3))) (k (.int c4))) (k (.int 5))) (aNil))) (k (.int 2147483629)))) (sSeq (sSet 6 (bin (modG) (cal intB (aCons (bin (powG) (bin (addG) (bin (addG) (bin (mulG) (v 6) (bin (addG) (bin (mulG) (k (.int 2)) (v 3)) (k (.int c5)))) (bin (mulG) (bin (mulG) (k (.int c6)) (v 3)) (v 3))) (k (.int c7))) (k (.int 3))) (aNil))) (k (.int 2147483587)))) (sSeq (sRet (bin (modG) (cal intB (aCons (bin (fdivG) (v 6) (k (.int 32))) (aNil))) (v 1))) (sNil)))))
def drawB (c1 c2 c3 c4 c5 c6 c7 : Int) : MS := (sSeq (sIf (tst (bin (gtG) (bin ixG (v 0) (k (.int 2))) (k (.int 0)))) (sSeq (sSet 2 (bin (modG) (cal intB (aCons (bin ixG (v 0) (k (.int 2))) (aNil))) (v 1))) (sSeq (sSub (v 0) (k (.int 2)) (bin (fdivG) (cal intB (aCons (bin ixG (v 0) (k (.int 2))) (aNil))) (v 1))) (sSeq (sRet (v 2)) (sNil)))) (sNil)) (sSeq (sSet 3 (bin ixG (v 0) (k (.int 1)))) (sSeq (sSub (v 0) (k (.int 1)) (bin (addG) (v 3) (k (.int 1)))) (sSeq (sSet 4 (bin (addG) (bin (mulG) (k (.int c1)) (v 3)) (k (.int c2)))) (sSeq (sIf (tst (bin (eqG true) (bin ixG (v 0) (k (.int 0))) (lstE (aNil)))) (sSeq (sSet 4 (bin ixG (bin ixG (v 0) (k (.int 0))) (bin (modG) (cal intB (aCons (v 3) (aNil))) (cal lenB (aCons (bin ixG (v 0) (k (.int 0))) (aNil)))))) (sNil)) (sNil)) (sSeq (sIf (tAn (tst (bin (ltG) (v 3) (cal lenB (aCons (bin ixG (v 0) (k (.int 0))) (aNil))))) (tst (bin (geG) (cal absB (aCons (v 4) (aNil))) (bin (powG) (k (.int 10)) (k (.int 18)))))) (sSeq (sSet 5 (bin (addG) (bin (mulG) (k (.int 2)) (bin (subG) (cal absB (aCons (v 4) (aNil))) (bin (powG) (k (.int 10)) (k (.int 18))))) (cal intB (aCons (bin (ltG) (v 4) (k (.int 0))) (aNil))))) (sSeq (sSub (v 0) (k (.int 2)) (bin (fdivG) (cal intB (aCons (v 5) (aNil))) (v 1))) (sSeq (sRet (bin (modG) (cal intB (aCons (v 5) (aNil))) (v 1))) (sNil)))) (sNil)) (sSeq (sSet 6 (bin (modG) (cal intB (aCons (bin (powG) (bin (addG) (bin (addG) (bin (modG) (cal intB (aCons (v 4) (aNil))) (k (.int 2147483549))) (bin (mulG) (k (.int c3)) (v 3))) (k (.int c4))) (k (.int 5))) (aNil))) (k (.int 2147483629)))) (sSeq (sSet 6 (bin (modG) (cal intB (aCons (bin (powG) (bin (addG) (bin (addG) (bin (mulG) (v 6) (bin (addG) (bin (mulG) (k (.int 2)) (v 3)) (k (.int c5)))) (bin (mulG) (bin (mulG) (k (.int c6)) (v 3)) (v 3))) (k (.int c7))) (k (.int 3))) (aNil))) (k (.int 2147483587)))) (sSeq (sRet (bin (modG) (cal intB (aCons (bin (fdivG) (v 6) (k (.int 32))) (aNil))) (v 1))) (sNil))))))))))
theorem divOk_small {j : Int} (h : 0 < j) (h' : j < 2 ^ 62) : divOk j = true := by
  unfold divOk
  have : j.natAbs.log2 < 62 := PySem.Flt.log2_lt_of (by decide) (by omega)
  simp [h]
  omega
theorem mulOk_l {i j : Int} (h : -(2 ^ 64) < i) (h' : i < 2 ^ 64) : mulOk i j = true := by
  unfold mulOk
  rw [decide_eq_true ⟨h, h'⟩]
  rfl
theorem powOk_of {i j : Int} (h : 0 ≤ j) (h' : j ≤ 1000000) (hi : i.natAbs < 2 ^ 64) : powOk i j = true := by
  unfold powOk
  rw [decide_eq_true h, decide_eq_true h', decide_eq_true hi]
  rfl
theorem pen0 {S : Sto} {p : Nat} {cs : List Int} {a r : Int} (h : S[p]? = some (penC cs a r)) : ixG (.loc p) (.int 0) S = .ok (.lst (cs.map .int)) S := by
  simp only [ixG, h, penC]
  rfl
theorem pen1 {S : Sto} {p : Nat} {cs : List Int} {a r : Int} (h : S[p]? = some (penC cs a r)) : ixG (.loc p) (.int 1) S = .ok (.int a) S := by
  simp only [ixG, h, penC]
  rfl
theorem pen2 {S : Sto} {p : Nat} {cs : List Int} {a r : Int} (h : S[p]? = some (penC cs a r)) : ixG (.loc p) (.int 2) S = .ok (.int r) S := by
  simp only [ixG, h, penC]
  rfl
theorem ix_ints {ns : List Int} {i : Int} {S : Sto} (h0 : 0 ≤ i) (h1 : i < ns.length) : ixG (.lst (ns.map .int)) (.int i) S = .ok (.int (ns.getD i.toNat 0)) S := by
  have e : L2.atI (ns.map D.int) i = some (.int (ns.getD i.toNat 0)) := by
    unfold L2.atI ixN
    rw [List.length_map, if_pos h0]
    have hlt : i.toNat < ns.length := by omega
    rw [if_pos h1]
    simp [hlt]
  simp only [ixG, e]
/-- a draw -/
theorem draw_ok {c1 c2 c3 c4 c5 c6 c7 : Int} {S : Sto} {p : Nat} {B m : Int} (h : Pen S p B) (hB : B ≤ 1000000) (hm : 1 ≤ m) (hm' : m < 2 ^ 60) (k1 : 0 ≤ c1 ∧ c1 < 1000000) (k3 : 0 ≤ c3 ∧ c3 < 1000000) (k4 : 0 ≤ c4 ∧ c4 < 1000000) (k5 : 0 ≤ c5 ∧ c5 < 1000000) (k6 : 0 ≤ c6 ∧ c6 < 1000000) (k7 : 0 ≤ c7 ∧ c7 < 1000000) :
    ∃ r S', dfn 2 7 (drawB c1 c2 c3 c4 c5 c6 c7) [.loc p, .int m] S = .ok (.int r) S' ∧ 0 ≤ r ∧ r < m ∧ SamePen p S S' ∧ Pen S' p (B + 1) := by
  have hlt := h.lt
  obtain ⟨cs, a, r, hS, hc, ha, haB⟩ := h
  have hd : divOk m = true := divOk_small (by omega) (by omega)
  have hm0 : 0 < m := by omega
  have setp : ∀ cs' a' r', (S.set p (penC cs' a' r'))[p]? = some (penC cs' a' r') := fun cs' a' r' => by rw [List.getElem?_set_self hlt]
  by_cases hr : 0 < r
  · refine ⟨r % m, S.set p (penC cs a (r / m)), run_ok rfl (List.length_set ..) ?_, Int.emod_nonneg _ (by omega), Int.emod_lt_of_pos _ hm0, ⟨cs, a, r / m, rfl⟩, cs, a, r / m, setp _ _ _, hc, ha, by omega⟩
    simp [drawB, sSeq, sIf, tst, bin, v, k, isB, Out.bind, pen2 hS, gtG, hr, sSet, cal, aCons, aNil, intB, modG, hm0, sSub, fdivG, hd, sRet, fin, hS, penC, ixN]
  · -- a cell is mixed
    obtain ⟨S1, eS1⟩ : ∃ S1, S1 = S.set p (penC cs (a + 1) r) := ⟨_, rfl⟩
    have hS1 : S1[p]? = some (penC cs (a + 1) r) := by rw [eS1]; exact setp _ _ _
    have hset : S.set p (.lst [.lst (cs.map .int), .int (a + 1), .int r]) = S1 := eS1.symm
    have hpen : Pen S1 p (B + 1) := ⟨cs, a + 1, r, hS1, hc, by omega, by omega⟩
    have hsame : SamePen p S S1 := ⟨cs, a + 1, r, eS1⟩
    have hlen : S1.length = S.length := hsame.len
    have ra : -(2 ^ 64 : Int) < a ∧ a < 2 ^ 64 := by omega
    -- the cell
    obtain ⟨x, hx⟩ : ∃ x : Int, x = if cs = [] then c1 * a + c2 else cs.getD (a % (cs.length : Int)).toNat 0 := ⟨_, rfl⟩
    have pre : ∀ (K : MS), (sSeq (sSet 3 (bin ixG (v 0) (k (.int 1)))) (sSeq (sSub (v 0) (k (.int 1)) (bin (addG) (v 3) (k (.int 1)))) (sSeq (sSet 4 (bin (addG) (bin (mulG) (k (.int c1)) (v 3)) (k (.int c2)))) (sSeq (sIf (tst (bin (eqG true) (bin ixG (v 0) (k (.int 0))) (lstE (aNil)))) (sSeq (sSet 4 (bin ixG (bin ixG (v 0) (k (.int 0))) (bin (modG) (cal intB (aCons (v 3) (aNil))) (cal lenB (aCons (bin ixG (v 0) (k (.int 0))) (aNil)))))) (sNil)) (sNil)) K)))) [some (.loc p), some (.int m), none, none, none, none, none] S = K [some (.loc p), some (.int m), none, some (.int a), some (.int x), none, none] S1 := by
      intro K
      have m1 : mulOk c1 a = true := mulOk_l (by omega) (by omega)
      by_cases hcs : cs = []
      · subst hcs
        rw [if_pos rfl] at hx
        have e0 := eqD_lnil []
        simp only [List.map_nil] at e0
        have p0 := pen0 hS1
        simp only [List.map_nil] at p0 hset
        simp [sSeq, sSet, sSub, sIf, tst, bin, v, k, isB, Out.bind, pen1 hS, addG, hS, penC, ixN, hset, mulG, m1, p0, lstE, aNil, eqG, e0, hx, sNil]
      · rw [if_neg hcs] at hx
        have hl0 : 0 < cs.length := List.length_pos_iff.mpr hcs
        have i0 : 0 ≤ a % (cs.length : Int) := Int.emod_nonneg _ (by omega)
        have i1 : a % (cs.length : Int) < cs.length := Int.emod_lt_of_pos _ (by omega)
        have hne : ¬ (cs = []) := hcs
        simp [sSeq, sSet, sSub, sIf, tst, bin, v, k, isB, Out.bind, pen1 hS, addG, hS, penC, ixN, hset, mulG, m1, pen0 hS1, lstE, aNil, aCons, cal, eqG, eqD_lnil, hne, intB, lenB, modG, hl0, ix_ints i0 i1, hx, sNil]
    have r0 : ¬ (0 < r) := hr
    have st : drawB c1 c2 c3 c4 c5 c6 c7 [some (.loc p), some (.int m), none, none, none, none, none] S = drawT c3 c4 c5 c6 c7 [some (.loc p), some (.int m), none, some (.int a), some (.int x), none, none] S1 := by
      refine Eq.trans ?_ (pre (drawT c3 c4 c5 c6 c7))
      show (Out.bind (sIf _ _ _ _ _) _) = _
      have e1 : (sIf (tst (bin gtG (bin ixG (v 0) (k (.int 2))) (k (.int 0)))) (sSeq (sSet 2 (bin (modG) (cal intB (aCons (bin ixG (v 0) (k (.int 2))) (aNil))) (v 1))) (sSeq (sSub (v 0) (k (.int 2)) (bin (fdivG) (cal intB (aCons (bin ixG (v 0) (k (.int 2))) (aNil))) (v 1))) (sSeq (sRet (v 2)) (sNil)))) sNil) [some (.loc p), some (.int m), none, none, none, none, none] S = .ok (.nx [some (.loc p), some (.int m), none, none, none, none, none]) S := by
        simp [sIf, tst, bin, v, k, isB, Out.bind, pen2 hS, gtG, r0, sNil]
      rw [e1]
      rfl
    have hrun : ∀ {d : D} {S' : Sto}, S'.length = S.length → fin (drawT c3 c4 c5 c6 c7 [some (.loc p), some (.int m), none, some (.int a), some (.int x), none, none] S1) = .ok d S' → dfn 2 7 (drawB c1 c2 c3 c4 c5 c6 c7) [.loc p, .int m] S = .ok d S' := fun {d S'} hl h => run_ok rfl hl (by rw [← h]; exact congrArg fin st)
    have pw : powOk 10 18 = true := by decide
    have ax : absB [.int x] S1 = .ok (.int (if x < 0 then -x else x)) S1 := rfl
    by_cases hg : a < cs.length ∧ 10 ^ 18 ≤ (if x < 0 then -x else x)
    · obtain ⟨y, hy⟩ : ∃ y : Int, y = 2 * ((if x < 0 then -x else x) - 10 ^ 18) + (if x < 0 then 1 else 0) := ⟨_, rfl⟩
      refine ⟨y % m, S1.set p (penC cs (a + 1) (y / m)), hrun (by rw [List.length_set, hlen]) ?_, Int.emod_nonneg _ (by omega), Int.emod_lt_of_pos _ hm0, hsame.trans ⟨cs, a + 1, y / m, rfl⟩, cs, a + 1, y / m, by rw [List.getElem?_set_self (by omega)], hc, by omega, by omega⟩
      have m2 : ∀ z, mulOk 2 z = true := fun z => mulOk_l (by omega) (by omega)
      have hg1 := hg.1
      have hg2 := hg.2
      simp only [Int.reducePow] at hg2 hy
      by_cases hx0 : x < 0
      · simp only [hx0, if_true] at hy hg2
        simp [drawT, sSeq, sIf, tAn, tst, bin, v, k, isB, Out.bind, ltG, cal, aCons, aNil, lenB, pen0 hS1, hg1, geG, powG, pw, hg2, sSet, mulG, m2, subG, addG, intB, hx0, ← hy, sSub, fdivG, hd, hS1, penC, ixN, sRet, modG, hm0, fin, absB]
      · simp only [hx0, if_false] at hy hg2
        simp [drawT, sSeq, sIf, tAn, tst, bin, v, k, isB, Out.bind, ltG, cal, aCons, aNil, lenB, pen0 hS1, hg1, geG, powG, pw, hg2, sSet, mulG, m2, subG, addG, intB, hx0, ← hy, sSub, fdivG, hd, hS1, penC, ixN, sRet, modG, hm0, fin, absB]
    · -- a mixed one
      obtain ⟨b1, hb1⟩ : ∃ b : Int, b = x % 2147483549 + c3 * a + c4 := ⟨_, rfl⟩
      have c3a : 0 ≤ c3 * a ∧ c3 * a ≤ 1000000 * 1000000 := ⟨Int.mul_nonneg k3.1 ha, by
        have h1 : c3 * a ≤ 1000000 * a := Int.mul_le_mul_of_nonneg_right (by omega) ha
        omega⟩
      have x1 : 0 ≤ x % 2147483549 := Int.emod_nonneg _ (by decide)
      have x2 : x % 2147483549 < 2147483549 := Int.emod_lt_of_pos _ (by decide)
      have p1 : powOk b1 5 = true := powOk_of (by decide) (by decide) (by omega)
      obtain ⟨d1, hd1⟩ : ∃ d : Int, d = b1 ^ 5 % 2147483629 := ⟨_, rfl⟩
      have d10 : 0 ≤ d1 := by rw [hd1]; exact Int.emod_nonneg _ (by decide)
      have d11 : d1 < 2147483629 := by rw [hd1]; exact Int.emod_lt_of_pos _ (by decide)
      obtain ⟨b2, hb2⟩ : ∃ b : Int, b = d1 * (2 * a + c5) + c6 * a * a + c7 := ⟨_, rfl⟩
      have q1 : 0 ≤ d1 * (2 * a + c5) ∧ d1 * (2 * a + c5) ≤ 2147483629 * 3000000 := ⟨Int.mul_nonneg d10 (by omega), by
        have h1 : d1 * (2 * a + c5) ≤ 2147483629 * (2 * a + c5) := Int.mul_le_mul_of_nonneg_right (by omega) (by omega)
        omega⟩
      have c6a : 0 ≤ c6 * a ∧ c6 * a ≤ 1000000 * 1000000 := ⟨Int.mul_nonneg k6.1 ha, by
        have h1 : c6 * a ≤ 1000000 * a := Int.mul_le_mul_of_nonneg_right (by omega) ha
        omega⟩
      have q2 : 0 ≤ c6 * a * a ∧ c6 * a * a ≤ 1000000 * 1000000 * 1000000 := ⟨Int.mul_nonneg c6a.1 ha, by
        have h1 : c6 * a * a ≤ 1000000 * 1000000 * a := Int.mul_le_mul_of_nonneg_right c6a.2 ha
        omega⟩
      have p2 : powOk b2 3 = true := powOk_of (by decide) (by decide) (by omega)
      obtain ⟨d2, hd2⟩ : ∃ d : Int, d = b2 ^ 3 % 2147483587 := ⟨_, rfl⟩
      refine ⟨d2 / 32 % m, S1, hrun hlen ?_, Int.emod_nonneg _ (by omega), Int.emod_lt_of_pos _ hm0, hsame, hpen⟩
      have m3 : mulOk c3 a = true := mulOk_l (by omega) (by omega)
      have m4 : mulOk 2 a = true := mulOk_l (by omega) (by omega)
      have m5 : mulOk d1 (2 * a + c5) = true := mulOk_l (by omega) (by omega)
      have m6 : mulOk c6 a = true := mulOk_l (by omega) (by omega)
      have m7 : mulOk (c6 * a) a = true := mulOk_l (by omega) (by omega)
      have d32 : divOk 32 = true := by decide
      have tail : (sSeq (sSet 6 (bin (modG) (cal intB (aCons (bin (powG) (bin (addG) (bin (addG) (bin (modG) (cal intB (aCons (v 4) (aNil))) (k (.int 2147483549))) (bin (mulG) (k (.int c3)) (v 3))) (k (.int c4))) (k (.int 5))) (aNil))) (k (.int 2147483629)))) (sSeq (sSet 6 (bin (modG) (cal intB (aCons (bin (powG) (bin (addG) (bin (addG) (bin (mulG) (v 6) (bin (addG) (bin (mulG) (k (.int 2)) (v 3)) (k (.int c5)))) (bin (mulG) (bin (mulG) (k (.int c6)) (v 3)) (v 3))) (k (.int c7))) (k (.int 3))) (aNil))) (k (.int 2147483587)))) (sSeq (sRet (bin (modG) (cal intB (aCons (bin (fdivG) (v 6) (k (.int 32))) (aNil))) (v 1))) (sNil)))) [some (.loc p), some (.int m), none, some (.int a), some (.int x), none, none] S1 = .ok (.rt (.int (d2 / 32 % m))) S1 := by
        simp [sSeq, sSet, bin, v, k, Out.bind, cal, aCons, aNil, intB, modG, mulG, m3, addG, ← hb1, powG, p1, ← hd1, m4, m5, m6, m7, ← hb2, p2, ← hd2, fdivG, d32, hm0, sRet]
      have test : (tAn (tst (bin (ltG) (v 3) (cal lenB (aCons (bin ixG (v 0) (k (.int 0))) (aNil))))) (tst (bin (geG) (cal absB (aCons (v 4) (aNil))) (bin (powG) (k (.int 10)) (k (.int 18)))))) [some (.loc p), some (.int m), none, some (.int a), some (.int x), none, none] S1 = .ok false S1 := by
        by_cases hg1 : a < cs.length
        · have hg2 : ¬ (1000000000000000000 ≤ if x < 0 then -x else x) := fun z => hg ⟨hg1, z⟩
          simp [tAn, tst, bin, v, k, isB, Out.bind, ltG, cal, aCons, aNil, lenB, pen0 hS1, hg1, geG, powG, pw, absB, hg2]
        · simp [tAn, tst, bin, v, k, isB, Out.bind, ltG, cal, aCons, aNil, lenB, pen0 hS1, hg1]
      show fin (Out.bind (Out.bind (tAn _ _ _ _) _) _) = _
      rw [test]
      show fin (sSeq _ _ _ _) = _
      rw [tail]
      rfl
end PV
set_option Elab.async false
set_option linter.all false
set_option maxRecDepth 100000
set_option maxHeartbeats 4000000
namespace PV
open PySem PySem.Spec PyProof.Rows
/-! ### one statement after the other -/
theorem go_nx {a b : MS} {ρ ρ' : Ev} {S S' : Sto} {o : Out D} (h : a ρ S = .ok (.nx ρ') S') (h2 : fin (b ρ' S') = o) : fin (sSeq a b ρ S) = o := by
  unfold sSeq
  rw [h]
  exact h2
theorem go_rt {a b : MS} {ρ : Ev} {S S' : Sto} {d : D} (h : a ρ S = .ok (.rt d) S') : fin (sSeq a b ρ S) = .ok d S' := by
  unfold sSeq
  rw [h]
  rfl
theorem sq_nx {a b : MS} {ρ ρ' : Ev} {S S' : Sto} {o : Out Fl} (h : a ρ S = .ok (.nx ρ') S') (h2 : b ρ' S' = o) : sSeq a b ρ S = o := by
  unfold sSeq
  rw [h]
  exact h2
theorem if_no' {t : MT} {a b : MS} {ρ : Ev} {S S' : Sto} {o : Out Fl} (h : t ρ S = .ok false S') (h2 : b ρ S' = o) : sIf t a b ρ S = o := by
  unfold sIf
  rw [h]
  exact h2
theorem if_yes {t : MT} {a b : MS} {ρ : Ev} {S S' : Sto} {o : Out Fl} (h : t ρ S = .ok true S') (h2 : a ρ S' = o) : sIf t a b ρ S = o := by
  unfold sIf
  rw [h]
  exact h2
theorem or_no {t u : MT} {ρ : Ev} {S S' : Sto} {o : Out Bool} (h : t ρ S = .ok false S') (h2 : u ρ S' = o) : tOr t u ρ S = o := by
  unfold tOr
  rw [h]
  exact h2
theorem an_yes {t u : MT} {ρ : Ev} {S S' : Sto} {o : Out Bool} (h : t ρ S = .ok true S') (h2 : u ρ S' = o) : tAn t u ρ S = o := by
  unfold tAn
  rw [h]
  exact h2
theorem not_tru {e : ME} {ρ : Ev} {S S' : Sto} {b : Bool} (h : e ρ S = .ok (.bl b) S') : tNo (tru e) ρ S = .ok (!b) S' := by
  unfold tNo tru
  rw [h]
  rfl
theorem bin_ok {g : G2} {a b : ME} {ρ : Ev} {S S1 S2 : Sto} {x y : D} {o : Out D} (h1 : a ρ S = .ok x S1) (h2 : b ρ S1 = .ok y S2) (h3 : g x y S2 = o) : bin g a b ρ S = o := by
  unfold bin
  rw [h1]
  show (b ρ S1).bind _ = _
  rw [h2]
  exact h3
theorem una_ok {g : G1} {a : ME} {ρ : Ev} {S S1 : Sto} {x : D} {o : Out D} (h1 : a ρ S = .ok x S1) (h3 : g x S1 = o) : una g a ρ S = o := by
  unfold una
  rw [h1]
  exact h3
theorem cal_ok {F : Fn} {a : MA} {ρ : Ev} {S S1 : Sto} {ds : List D} {o : Out D} (h1 : a ρ S = .ok ds S1) (h3 : F ds S1 = o) : cal F a ρ S = o := by
  unfold cal
  rw [h1]
  exact h3
theorem cons_ok {e : ME} {a : MA} {ρ : Ev} {S S1 S2 : Sto} {x : D} {ds : List D} (h1 : e ρ S = .ok x S1) (h2 : a ρ S1 = .ok ds S2) : aCons e a ρ S = .ok (x :: ds) S2 := by
  unfold aCons
  rw [h1]
  show (a ρ S1).bind _ = _
  rw [h2]
  rfl
theorem tst_ok {e : ME} {ρ : Ev} {S S' : Sto} {b : Bool} (h : e ρ S = .ok (.bl b) S') : tst e ρ S = .ok b S' := by
  unfold tst
  rw [h]
  rfl
theorem set_ok {i : Nat} {e : ME} {ρ : Ev} {S S' : Sto} {d : D} (h : e ρ S = .ok d S') : sSet i e ρ S = .ok (.nx (ρ.set i (some d))) S' := by
  unfold sSet
  rw [h]
  rfl
theorem ret_ok {e : ME} {ρ : Ev} {S S' : Sto} {d : D} (h : e ρ S = .ok d S') : sRet e ρ S = .ok (.rt d) S' := by
  unfold sRet
  rw [h]
  rfl
/-! ### how long data is shown -/
def near (z : Str) : Bool := PyData.strOk z
theorem near_iff {z : Str} : near z = true ↔ ∀ c ∈ TL.tl z, c < 0x110000 := by
  unfold near PyData.strOk TL.tl
  rw [← Array.all_toList, List.all_eq_true]
  exact ⟨fun h c hc => of_decide_eq_true (h c hc), fun h c hc => decide_eq_true (h c hc)⟩
mutual
def bd : PyData → Nat
  | .none => 4
  | .bool _ => 5
  | .int _ => 1921
  | .str x => 10 * x.length + 2
  | .list xs => 2 + bdAll xs
  | .tuple xs => 3 + bdAll xs
  | .dict _ => 0
def bdAll : List PyData → Nat
  | [] => 0
  | x :: xs => bd x + 2 + bdAll xs
end
mutual
/-- what is shown within bounds: no dict, no far int, no odd sign -/
def neat : PyData → Bool
  | .none => true
  | .bool _ => true
  | .int i => decide (i.natAbs.log2 < 1920)
  | .str x => near x
  | .list xs => neatAll xs
  | .tuple xs => neatAll xs
  | .dict _ => false
def neatAll : List PyData → Bool
  | [] => true
  | x :: xs => neat x && neatAll xs
end
theorem len_listText (ts : List Str) : (listText ts).length ≤ 2 + piled ts := by
  unfold listText
  rw [strLen_append]
  have e : (("]" : String) : Str).length = 1 := rfl
  rw [e]
  cases ts with
  | nil => decide
  | cons t r =>
    have h : (textFrom 1 (("[" : String) ++ (("" : String) : Str) ++ t) r).length = _ := textFrom_length_pos r 1 _ (by decide)
    have h1 : textFrom 0 (("[" : String) : Str) (t :: r) = textFrom 1 ((("[" : String) : Str) ++ (("" : String) : Str) ++ t) r := rfl
    rw [h1, h, piled_cons, strLen_append, strLen_append]
    have e1 : (("[" : String) : Str).length = 1 := rfl
    have e2 : (("" : String) : Str).length = 0 := rfl
    omega
theorem len_tupleText (ts : List Str) : (tupleText ts).length ≤ 3 + piled ts := by
  unfold tupleText
  rw [strLen_append, strLen_append]
  have e1 : (("(" : String) : Str).length = 1 := rfl
  have e3 : (((if ts.length == 1 then ",)" else ")" : String) : Str)).length ≤ 2 := by split <;> decide
  rw [e1]
  by_cases h : ts = []
  · subst h
    have : (Str.join ((", " : String) : Str) []).length = 0 := rfl
    simp only [piled_nil]
    omega
  · have := join_length_add ts h
    omega
mutual
theorem shown_le : ∀ p : PyData, neat p = true → p.shown.length ≤ bd p
  | .none, _ => by simp [PyData.shown, bd]; decide
  | .bool b, _ => by cases b <;> simp [PyData.shown, bd] <;> decide
  | .int i, h => by
    have h' : i.natAbs.log2 < 1920 := by simpa [neat] using h
    simp only [PyData.shown, bd]
    exact int_text_len_1921 h'
  | .str x, h => by
    simp only [PyData.shown, bd]
    exact StrLaws.reprText_len x fun c hc => by
      have h' : near x = true := by simpa [neat] using h
      have := near_iff.mp h' c hc
      omega
  | .list xs, h => by
    have h' : neatAll xs = true := by simpa [neat] using h
    simp only [PyData.shown, bd]
    have := len_listText (PyData.shownAll xs)
    have := shownAll_le xs h'
    omega
  | .tuple xs, h => by
    have h' : neatAll xs = true := by simpa [neat] using h
    simp only [PyData.shown, bd]
    have := len_tupleText (PyData.shownAll xs)
    have := shownAll_le xs h'
    omega
  | .dict _, h => by simp [neat] at h
theorem shownAll_le : ∀ xs : List PyData, neatAll xs = true → piled (PyData.shownAll xs) ≤ bdAll xs
  | [], _ => by simp [PyData.shownAll, bdAll, piled_nil]
  | x :: xs, h => by
    have h' : neat x = true ∧ neatAll xs = true := by simpa [neatAll] using h
    have a := shown_le x h'.1
    have b := shownAll_le xs h'.2
    simp only [PyData.shownAll, bdAll, piled_cons]
    omega
end
mutual
theorem neat_showable : ∀ p : PyData, neat p = true → p.showable = true ∧ p.hasDict = false
  | .none, _ => by simp [PyData.showable, PyData.hasDict]
  | .bool b, _ => by simp [PyData.showable, PyData.hasDict]
  | .int i, h => by
    have h' : i.natAbs.log2 < 1920 := by simpa [neat] using h
    simp [PyData.showable, PyData.hasDict, h']
  | .str x, h => by simp [PyData.showable, PyData.hasDict]
  | .list xs, h => by
    have h' : neatAll xs = true := by simpa [neat] using h
    have := neatAll_showable xs h'
    simp only [PyData.showable, PyData.hasDict]
    exact this
  | .tuple xs, h => by
    have h' : neatAll xs = true := by simpa [neat] using h
    have := neatAll_showable xs h'
    simp only [PyData.showable, PyData.hasDict]
    exact this
  | .dict _, h => by simp [neat] at h
theorem neatAll_showable : ∀ xs : List PyData, neatAll xs = true → PyData.showableAll xs = true ∧ PyData.hasDictAll xs = false
  | [], _ => by simp [PyData.showableAll, PyData.hasDictAll]
  | x :: xs, h => by
    have h' : neat x = true ∧ neatAll xs = true := by simpa [neatAll] using h
    have a := neat_showable x h'.1
    have b := neatAll_showable xs h'.2
    simp [PyData.showableAll, PyData.hasDictAll, a.1, a.2, b.1, b.2]
end
theorem reprOk_of {p : PyData} (h : neat p = true) (hd : p.depth ≤ 60) (hb : bd p ≤ 16777216) : reprOk p = true := by
  have a := neat_showable p h
  have b := shown_le p h
  have e : sizeLine = 16777216 := by decide
  unfold reprOk
  rw [a.1, a.2, decide_eq_true hd, decide_eq_true (by rw [e]; omega)]
  rfl
theorem neat_ints : ∀ ns : List Int, (∀ n ∈ ns, n.natAbs.log2 < 1920) → neatAll (ns.map .int) = true
  | [], _ => by simp [neatAll]
  | n :: ns, h => by
    have a := h n List.mem_cons_self
    have b := neat_ints ns fun m hm => h m (List.mem_cons_of_mem _ hm)
    simp [neatAll, neat, a, b]
theorem bd_ints : ∀ ns : List Int, bdAll (ns.map .int) = 1923 * ns.length
  | [] => by simp [bdAll]
  | n :: ns => by
    have b := bd_ints ns
    simp only [List.map_cons, bdAll, bd, b, List.length_cons]
    omega
theorem neat_bls : ∀ ns : List Bool, neatAll (ns.map .bool) = true
  | [] => by simp [neatAll]
  | n :: ns => by simp [neatAll, neat, neat_bls ns]
theorem bd_bls : ∀ ns : List Bool, bdAll (ns.map .bool) = 7 * ns.length
  | [] => by simp [bdAll]
  | n :: ns => by
    have b := bd_bls ns
    simp only [List.map_cons, bdAll, bd, b, List.length_cons]
    omega
theorem depth_bls : ∀ ns : List Bool, PyData.depthAll (ns.map PyData.bool) = 0
  | [] => by simp [PyData.depthAll]
  | n :: ns => by simp [PyData.depthAll, PyData.depth, depth_bls ns]
theorem toPs_bls : ∀ ns : List Bool, toPs (ns.map .bl) = some (ns.map .bool)
  | [] => by simp [toPs]
  | n :: ns => by simp [toPs, toP, toPs_bls ns]
/-- truths are shown -/
theorem repr_bls (bs : List Bool) (hl : bs.length ≤ 100000) (S : Sto) : reprB [.lst (bs.map .bl)] S = .ok (.str (PyData.list (bs.map .bool)).shown) S := by
  have e : reprOk (.list (bs.map .bool)) = true := reprOk_of (by simp [neat, neat_bls]) (by simp [PyData.depth, depth_bls]) (by simp only [bd, bd_bls]; omega)
  simp only [reprB, toP, toPs_bls, Option.map_some, e, if_true]
/-! ### texts -/
theorem eqD_str (a b : Str) : eqD (.str a) (.str b) = some (decide (a = b)) := rfl
theorem shaped_str {a : Str} (h : near a = true) : SeqAt.shaped (.str a) = true := by
  have h' : PyData.strOk a = true := h
  simp [SeqAt.shaped, PyData.canLay0, PyData.depth, h']
theorem eqD_strs {a b : Str} (ha : near a = true) (hb : near b = true) : eqD (.str a) (.str b) = some (decide (a = b)) := rfl
theorem near_join {y : Str} (hy : near y = true) : ∀ {ps : List Str}, (∀ p ∈ ps, near p = true) → near (Txt.join y ps) = true := by
  intro ps h
  rw [TL.join_eq, near_iff, TL.tl_join]
  have go : ∀ qs : List (List Nat), (∀ q ∈ qs, ∀ c ∈ q, c < 0x110000) → ∀ c ∈ TL.joinL (TL.tl y) qs, c < 0x110000 := by
    intro qs
    induction qs with
    | nil => intro _ c hc; cases hc
    | cons q qs ih =>
      intro hq c hc
      cases qs with
      | nil => exact hq q List.mem_cons_self c hc
      | cons q2 qs =>
        have hc' : c ∈ q ++ (TL.tl y ++ TL.joinL (TL.tl y) (q2 :: qs)) := hc
        rcases List.mem_append.mp hc' with h1 | h1
        · exact hq q List.mem_cons_self c h1
        · rcases List.mem_append.mp h1 with h2 | h2
          · exact near_iff.mp hy c h2
          · exact ih (fun z hz => hq z (List.mem_cons_of_mem _ hz)) c h2
  refine go _ fun q hq => ?_
  obtain ⟨p, hp, rfl⟩ := List.mem_map.mp hq
  exact near_iff.mp (h p hp)
theorem len_join (y : Str) : ∀ ps : List Str, (Txt.join y ps).length ≤ (ps.map (·.length)).sum + ps.length * y.length := by
  intro ps
  rw [TL.join_eq, TL.len_tl, TL.tl_join]
  induction ps with
  | nil => simp [TL.joinL]
  | cons p ps ih =>
    cases ps with
    | nil => simp [TL.joinL, TL.len_tl]
    | cons q qs =>
      have e : TL.joinL (TL.tl y) ((p :: q :: qs).map TL.tl) = TL.tl p ++ (TL.tl y ++ TL.joinL (TL.tl y) ((q :: qs).map TL.tl)) := rfl
      rw [e, List.length_append, List.length_append]
      have l1 := TL.len_tl p
      have l2 := TL.len_tl y
      simp only [List.map_cons, List.sum_cons, List.length_cons] at ih ⊢
      have : (qs.length + 1 + 1) * y.length = (qs.length + 1) * y.length + y.length := Nat.succ_mul ..
      omega
theorem depthAll_cons (x : PyData) (xs : List PyData) : PyData.depthAll (x :: xs) = max x.depth (PyData.depthAll xs) := by simp [PyData.depthAll]
/-! ### digits -/
theorem digit_cases {n : Int} (h0 : 0 ≤ n) (h5 : n ≤ 5) : n = 0 ∨ n = 1 ∨ n = 2 ∨ n = 3 ∨ n = 4 ∨ n = 5 := by omega
theorem str_digit {n : Int} (h : 0 ≤ n ∧ n ≤ 5) (S : Sto) : strB [.int n] S = .ok (.str (strOf n)) S := by
  rcases digit_cases h.1 h.2 with rfl | rfl | rfl | rfl | rfl | rfl <;> rfl
theorem log_digit {n : Int} (h : 0 ≤ n ∧ n ≤ 5) : n.natAbs.log2 < 1920 := by
  rcases digit_cases h.1 h.2 with rfl | rfl | rfl | rfl | rfl | rfl <;> decide
theorem len_digit {n : Int} (h : 0 ≤ n ∧ n ≤ 5) : (strOf n).length = 1 := by
  rcases digit_cases h.1 h.2 with rfl | rfl | rfl | rfl | rfl | rfl <;> decide
theorem near_digit {n : Int} (h : 0 ≤ n ∧ n ≤ 5) : ∀ c ∈ TL.tl (strOf n), c ≠ 32 ∧ c < 256 := by
  rcases digit_cases h.1 h.2 with rfl | rfl | rfl | rfl | rfl | rfl <;> decide
theorem int_digit {n : Int} (h : 0 ≤ n ∧ n ≤ 5) (S : Sto) : intB [.str (strOf n)] S = .ok (.int n) S := by
  have e : PySem.intText? (strOf n) = some n := PySem.W.KIN.num_reads h.1 (by omega)
  have l : (strOf n).length ≤ 640 := by rw [len_digit h]; decide
  simp only [intB, e, l, if_true]
end PV
set_option Elab.async false
set_option linter.all false
set_option maxRecDepth 100000
set_option maxHeartbeats 4000000
namespace PV
open PySem PySem.Spec PyProof.Rows
theorem lst_ok {a : MA} {ρ : Ev} {S S1 : Sto} {ds : List D} (h : a ρ S = .ok ds S1) (hl : ds.length ≤ 1000) : lstE a ρ S = .ok (.lst ds) S1 := by
  unfold lstE
  rw [h]
  show (if ds.length ≤ 1000 then _ else _) = _
  rw [if_pos hl]
theorem tup_ok {a : MA} {ρ : Ev} {S S1 : Sto} {ds : List D} (h : a ρ S = .ok ds S1) (hl : ds.length ≤ 1000) : tupE a ρ S = .ok (.tup ds) S1 := by
  unfold tupE
  rw [h]
  show (if ds.length ≤ 1000 then _ else _) = _
  rw [if_pos hl]
theorem lstM_ok {a : MA} {ρ : Ev} {S S1 : Sto} {ds : List D} (h : a ρ S = .ok ds S1) (hl : ds.length ≤ 1000) : lstM a ρ S = .ok (.loc S1.length) (S1 ++ [.lst ds]) := by
  unfold lstM
  rw [h]
  show (if ds.length ≤ 1000 then _ else _) = _
  rw [if_pos hl]
theorem exp_ok {e : ME} {ρ : Ev} {S S' : Sto} {d : D} (h : e ρ S = .ok d S') : sExp e ρ S = .ok (.nx ρ) S' := by
  unfold sExp
  rw [h]
  rfl
theorem or_yes {t u : MT} {ρ : Ev} {S S' : Sto} (h : t ρ S = .ok true S') : tOr t u ρ S = .ok true S' := by
  unfold tOr
  rw [h]
  rfl
theorem an_no {t u : MT} {ρ : Ev} {S S' : Sto} (h : t ρ S = .ok false S') : tAn t u ρ S = .ok false S' := by
  unfold tAn
  rw [h]
  rfl
theorem no_ok {t : MT} {ρ : Ev} {S S' : Sto} {b : Bool} (h : t ρ S = .ok b S') : tNo t ρ S = .ok (!b) S' := by
  unfold tNo
  rw [h]
  rfl
theorem tru_ok {e : ME} {ρ : Ev} {S S' : Sto} {b : Bool} (h : e ρ S = .ok (.bl b) S') : tru e ρ S = .ok b S' := by
  unfold tru
  rw [h]
  rfl
theorem anE_yes {a b : ME} {ρ : Ev} {S S' : Sto} {o : Out D} (h : a ρ S = .ok (.bl true) S') (h2 : b ρ S' = o) : anE a b ρ S = o := by
  unfold anE
  rw [h]
  exact h2
theorem anE_no {a b : ME} {ρ : Ev} {S S' : Sto} (h : a ρ S = .ok (.bl false) S') : anE a b ρ S = .ok (.bl false) S' := by
  unfold anE
  rw [h]
  rfl
theorem ifE_yes {t : MT} {a b : ME} {ρ : Ev} {S S' : Sto} {o : Out D} (h : t ρ S = .ok true S') (h2 : a ρ S' = o) : ifE t a b ρ S = o := by
  unfold ifE
  rw [h]
  exact h2
theorem ifE_no {t : MT} {a b : ME} {ρ : Ev} {S S' : Sto} {o : Out D} (h : t ρ S = .ok false S') (h2 : b ρ S' = o) : ifE t a b ρ S = o := by
  unfold ifE
  rw [h]
  exact h2
theorem cm_ok {c : String} {F : Fn} {o : ME} {a : MA} {ρ : Ev} {S S1 S2 : Sto} {ds : List D} {r : Out D} (h : o ρ S = .ok (.cls c) S1) (h2 : a ρ S1 = .ok ds S2) (h3 : F (.cls c :: ds) S2 = r) : cmE c F o a ρ S = r := by
  unfold cmE
  rw [h]
  show (if isCl c (.cls c) = true then _ else _) = _
  rw [if_pos (by simp [isCl]), h2]
  exact h3
theorem sli_ok {m : ME} {l h : MO} {ρ : Ev} {S S1 S2 S3 : Sto} {x : D} {lo hi : Option Int} {r : Out D} (h1 : m ρ S = .ok x S1) (h2 : l ρ S1 = .ok lo S2) (h3 : h ρ S2 = .ok hi S3) (h4 : slG x lo hi S3 = r) : sli m l h ρ S = r := by
  unfold sli
  rw [h1]
  show (l ρ S1).bind _ = _
  rw [h2]
  show (h ρ S2).bind _ = _
  rw [h3]
  exact h4
theorem par_ok {i j : Nat} {a : MA} {ρ : Ev} {S S1 : Sto} {x y : D} (h : a ρ S = .ok [x, y] S1) : sPar i j a ρ S = .ok (.nx ((ρ.set i (some x)).set j (some y))) S1 := by
  unfold sPar
  rw [h]
  rfl
theorem asg_ok {T : Tg} {e : ME} {ρ ρ' : Ev} {S S1 : Sto} {d : D} (h : e ρ S = .ok d S1) (h2 : setT T d ρ = some ρ') : sAsg T e ρ S = .ok (.nx ρ') S1 := by
  unfold sAsg
  rw [h]
  simp only [Out.bind, h2]
theorem aug_ok {i : Nat} {g : G2} {m : ME} {ρ : Ev} {S S1 S2 : Sto} {x y z : D} (h : ρ[i]? = some (some x)) (h1 : m ρ S = .ok y S1) (h2 : g x y S1 = .ok z S2) : sAug i g m ρ S = .ok (.nx (ρ.set i (some z))) S2 := by
  unfold sAug
  simp only [h, h1, h2, Out.bind]
def getF (ns : List Int) : D → D
  | .int i => .int (ns.getD i.toNat 0)
  | d => d
theorem okLen_ok {n : Int} {S : Sto} (h0 : 0 ≤ n) (h1 : n < 2 ^ 63) : okLen (.ok (.int n) S) = .ok (.int n) S := if_pos ⟨h0, h1⟩
theorem ups_items (ns : List Int) : (ups 0 ns.length).map (getF ns) = ns.map .int := by
  unfold ups
  rw [List.map_map]
  apply List.ext_getElem
  · simp
  · intro i h1 h2
    have hi : i < ns.length := by simpa using h2
    simp [hi, getF]
theorem ups_mem {lo : Int} {n : Nat} {x : D} (h : x ∈ ups lo n) : ∃ i : Int, x = .int i ∧ lo ≤ i ∧ i < lo + n := by
  unfold ups at h
  obtain ⟨j, hj, rfl⟩ := List.mem_map.mp h
  have := List.mem_range.mp hj
  exact ⟨_, rfl, by omega, by omega⟩
theorem ups_at {lo : Int} {n j : Nat} {x : D} (h : (ups lo n)[j]? = some x) : x = .int (lo + (j : Nat)) ∧ j < n := by
  unfold ups at h
  rw [List.getElem?_map] at h
  obtain ⟨i, hi, rfl⟩ := Option.map_eq_some_iff.mp h
  obtain ⟨h1, h2⟩ := List.getElem?_eq_some_iff.mp hi
  simp at h1 h2
  subst h2
  exact ⟨rfl, h1⟩
theorem ups_len (lo : Int) (n : Nat) : (ups lo n).length = n := by simp [ups]
theorem r1_ok {a : MA} {ρ : Ev} {S S1 : Sto} {j : Int} (h : a ρ S = .ok [.int j] S1) (h2 : near62 j = true) : iR1 a ρ S = .ok (ups 0 j.toNat, none) S1 := by
  unfold iR1
  rw [h]
  show (if near62 j = true then _ else _) = _
  rw [if_pos h2]
theorem r2_ok {a : MA} {ρ : Ev} {S S1 : Sto} {i j : Int} (h : a ρ S = .ok [.int i, .int j] S1) (h2 : near62 i = true) (h3 : near62 j = true) : iR2 a ρ S = .ok (ups i (j - i).toNat, none) S1 := by
  unfold iR2
  rw [h]
  show (if near62 i = true ∧ near62 j = true then _ else _) = _
  rw [if_pos ⟨h2, h3⟩]
theorem near62_of {j : Int} (h : 0 ≤ j) (h2 : j ≤ 1000000) : near62 j = true := by
  unfold near62
  exact decide_eq_true (by omega)
theorem len_lst {α : Type} (f : α → D) (ns : List α) (S : Sto) : lenB [.lst (ns.map f)] S = .ok (.int ns.length) S := by
  show Out.ok (D.int (ns.map f).length) S = _
  rw [List.length_map]
theorem len_tup {α : Type} (f : α → D) (ns : List α) (S : Sto) : lenB [.tup (ns.map f)] S = .ok (.int ns.length) S := by
  show Out.ok (D.int (ns.map f).length) S = _
  rw [List.length_map]
end PV
set_option Elab.async false
set_option linter.all false
set_option maxRecDepth 100000
set_option maxHeartbeats 4000000
namespace PV
open PySem PySem.Spec PyProof.Rows
theorem sq_rt {a b : MS} {ρ : Ev} {S S' : Sto} {d : D} (h : a ρ S = .ok (.rt d) S') : sSeq a b ρ S = .ok (.rt d) S' := by
  unfold sSeq
  rw [h]
  rfl
/-- a comprehension by an invariant that counts -/
theorem lcL_invN {T : Tg} {e : ME} {all : List D} {ρ : Ev} (N : Nat) (W : Nat → List D → Sto → Prop) : ∀ (xs : List D) (S : Sto) (n : Nat) (acc : List D), n + xs.length ≤ N → W n acc S → (∀ x ∈ xs, ∀ n acc S, n < N → W n acc S → ∃ ρ1 d S', setT T x ρ = some ρ1 ∧ e ρ1 S = .ok d S' ∧ W (n + 1) (acc ++ [d]) S') → ∃ ds S', lcL T tYs e none all ρ xs S = .ok ds S' ∧ W (n + xs.length) (acc ++ ds) S'
  | [], S, n, acc, _, h, _ => ⟨[], S, by unfold lcL; rw [if_pos (show Gd none all S from trivial)], by rw [List.append_nil]; exact h⟩
  | x :: xs, S, n, acc, hN, h, hs => by
    rw [List.length_cons] at hN
    obtain ⟨ρ1, d, S', h1, h2, h3⟩ := hs x List.mem_cons_self n acc S (by omega) h
    obtain ⟨ds, S2, h4, h5⟩ := lcL_invN (all := all) N W xs S' (n + 1) (acc ++ [d]) (by omega) h3 fun y hy => hs y (List.mem_cons_of_mem _ hy)
    refine ⟨d :: ds, S2, ?_, ?_⟩
    · unfold lcL
      rw [if_pos (show Gd none all S from trivial)]
      simp only [h1, show ∀ ρ S, tYs ρ S = .ok true S from fun _ _ => rfl, h2, h4]
    · rw [List.append_assoc] at h5
      rw [List.length_cons, show n + (xs.length + 1) = n + 1 + xs.length by omega]
      exact h5
theorem lc_invN {T : Tg} {it : MI} {e : ME} {ρ : Ev} {S S1 : Sto} {xs : List D} (W : Nat → List D → Sto → Prop) (hi : it ρ S = .ok (xs, none) S1) (hl : xs.length ≤ 1000) (h0 : W 0 [] S1) (hs : ∀ x ∈ xs, ∀ n acc S, n < xs.length → W n acc S → ∃ ρ1 d S', setT T x (wipeD ρ T.slots) = some ρ1 ∧ e ρ1 S = .ok d S' ∧ W (n + 1) (acc ++ [d]) S') :
    ∃ ds S', lcE T it tYs e ρ S = .ok (.lst ds) S' ∧ W xs.length ds S' := by
  obtain ⟨ds, S', h1, h2⟩ := lcL_invN (all := xs) (ρ := wipeD ρ T.slots) xs.length W xs S1 0 [] (by simp) h0 hs
  refine ⟨ds, S', ?_, by simpa using h2⟩
  unfold lcE lcO
  rw [hi]
  show (Out.bind (if xs.length ≤ 1000 then lcL T tYs e none xs (wipeD ρ T.slots) xs S1 else .no) _) = _
  rw [if_pos hl, h1]
  rfl
theorem Pen.set {S : Sto} {p m : Nat} {B : Int} {c : Cell} (h : Pen S p B) (hm : m ≠ p) : Pen (S.set m c) p B := by
  obtain ⟨cs, a, r, h1, h2⟩ := h
  exact ⟨cs, a, r, by rw [List.getElem?_set_ne hm]; exact h1, h2⟩
theorem run_nil {np n : Nat} {b : MS} {ds : List D} {S' : Sto} {d : D} (hl : ds.length = np) (hd : d.und 0 = true) (h : fin (b (ds.map some ++ List.replicate (n - np) none) []) = .ok d S') : dfn np n b ds [] = .ok d [] := by
  classical
  unfold dfn
  rw [if_pos hl, h]
  unfold gcO
  simp only
  rw [if_pos ⟨hd, fun i c hi => absurd hi (Nat.not_lt_zero i)⟩]
  rfl
/-- x[:63] of a script -/
theorem cut63 {α : Type} (cs : List α) (h : cs.length ≤ 63) : cutD cs none (some 63) = cs := by
  refine cutD_whole ⟨rfl, ?_⟩
  unfold HT.sIx
  simp only [show ¬ ((63 : Int) < 0) by decide, if_false]
  exact Nat.min_eq_right h
/-- [list(script[:63]), 0, 0] -/
theorem pen_ok {cs : List Int} (h : cs.length ≤ 63) : dfn 1 1 (sSeq (sRet (lstM (aCons (cal listB (aCons (sli (v 0) (oNo) (oSo (k (.int 63)))) (aNil))) (aCons (k (.int 0)) (aCons (k (.int 0)) (aNil)))))) (sNil)) [.src (cs.map .int)] [] = .ok (.loc 0) [penC cs 0 0] := by
  have e : fin (sSeq (sRet (lstM (aCons (cal listB (aCons (sli (v 0) (oNo) (oSo (k (.int 63)))) (aNil))) (aCons (k (.int 0)) (aCons (k (.int 0)) (aNil)))))) (sNil) [some (.src (cs.map .int))] []) = .ok (.loc 0) [penC cs 0 0] :=
    go_rt (ret_ok (lstM_ok (S1 := []) (cons_ok (cal_ok (cons_ok (sli_ok rfl rfl rfl (show slG (.src (cs.map .int)) none (some 63) [] = .ok (.lst (cs.map .int)) [] by
      show Out.ok (D.lst (cutD (cs.map D.int) none (some 63))) [] = _
      rw [cut63 _ (by simpa using h)])) rfl) rfl) (cons_ok rfl (cons_ok rfl rfl))) (by show 3 ≤ 1000; decide)))
  unfold dfn
  rw [if_pos (show [D.src (List.map D.int cs)].length = 1 from rfl)]
  refine (congrArg (gcO []) e).trans ?_
  classical
  unfold gcO
  simp only
  exact if_neg (fun z => by
    have := z.1
    simp [D.und] at this)
theorem max_ok : ∀ {ns : List Int}, ns ≠ [] → greatest ns ∈ ns ∧ ∀ n ∈ ns, n ≤ greatest ns
  | [], h => absurd rfl h
  | [n], _ => by simp [greatest]
  | n :: m :: ns, _ => by
    have ih := max_ok (ns := m :: ns) (by simp)
    unfold greatest
    split
    · rename_i h
      exact ⟨List.mem_cons_of_mem _ ih.1, fun x hx => by
        rcases List.mem_cons.mp hx with rfl | hx
        · omega
        · exact ih.2 x hx⟩
    · rename_i h
      exact ⟨List.mem_cons_self, fun x hx => by
        rcases List.mem_cons.mp hx with rfl | hx
        · omega
        · have := ih.2 x hx
          omega⟩
end PV
set_option Elab.async false
set_option linter.all false
set_option maxRecDepth 100000
set_option maxHeartbeats 4000000
namespace PV
open PySem PySem.Spec PyProof.Rows L2 ZL
/-- what a law promises: nothing is raised, True comes back -/
def spEnd (K : PySem.W.Frag) (F : Fn) : Sp := fun vs H Q _ => spF K F vs H Q fun _ _ _ => False
theorem end_of {P : Program} {w : World} {K : PySem.W.Frag} {mg : Str → Option Value} {base : Heap} {k : Nat} {f : Addr} {F : Fn} (h : FnFG P w K mg base k f F) : FnRG P w K mg base CX0 k f (spEnd K F) := fun A outer s H us vs Q E hgd hr e0 r z =>
  codeAny_mono (h A outer s H us vs Q (fun _ _ _ => False) hgd hr e0 r z) fun r s' c => by
    match r, c with
    | .ok (.ret u), c => exact c
    | .error e, c =>
      obtain ⟨_, _, _, _, _, _, _, _, _, _, _, _, hE⟩ := c
      exact hE.elim
/-- at a script, in an empty store -/
theorem end_at {K : PySem.W.Frag} {F : Fn} {H : Hp} {a : Addr} {ns : List Int} {S' : Sto} (hS : SqL K H a (ns.map V.int)) (h : F [.src (ns.map .int)] [] = .ok (.bl true) S') : spEnd K F [.ref a] H (fun v _ => v = .bl true) fun _ _ _ => False := by
  refine ⟨[.src (ns.map .int)], [], ⟨H, fun _ => none⟩, ⟨fun _ _ h => h, ?_, ?_, ?_, ?_⟩, .cons (.src hS (Rps.ints ns)) .nil, ?_⟩
  · intro n c h
    simp at h
  · intro n a h
    cases h
  · intro n m a h
    cases h
  · intro n a h
    cases h
  · rw [h]
    intro G' H' v _ _ r
    cases r
    rfl
end PV
set_option Elab.async false
set_option linter.all false
set_option maxRecDepth 100000
set_option maxHeartbeats 0
namespace K20
open PySem PySem.W L2
def top (i : Nat) : Stmt := PySem.Challenge.pw_lapseeds_k20_rows_put_together.main.body.getD i (.Pass ⟨0, 0, 0, 0⟩)
abbrev s_is_whole : Stmt := top 1
abbrev s_is_between : Stmt := top 2
abbrev s_need_short : Stmt := top 15
abbrev s_RowD_initD : Stmt := inClass (top 17) 1
abbrev s_Row_of : Stmt := inClass (top 17) 2
abbrev s_RowD_addD : Stmt := inClass (top 17) 6
abbrev s_RowD_negD : Stmt := inClass (top 17) 9
abbrev s_law_pen : Stmt := top 19
abbrev s_law_draw : Stmt := top 20
abbrev s_law_pits : Stmt := top 22
abbrev s_Row_read : Stmt := inClass (top 17) 3
abbrev s_RowD_lenD : Stmt := inClass (top 17) 10
abbrev s_are_whole : Stmt := top 3
abbrev s_is_part : Stmt := top 16
abbrev s_RowD_getitemD : Stmt := inClass (top 17) 11
abbrev s_RowD_containsD : Stmt := inClass (top 17) 13
abbrev s_RowD_eqD : Stmt := inClass (top 17) 18
abbrev s_RowD_strD : Stmt := inClass (top 17) 19
abbrev s_law_text : Stmt := top 23
abbrev s_law_told_right : Stmt := top 25
abbrev s_law_parts_right : Stmt := top 26
abbrev s_law_made : Stmt := top 24
abbrev s_law_joined_right : Stmt := top 27
abbrev s_RowD_mulD : Stmt := inClass (top 17) 7
abbrev s_RowD_rmulD : Stmt := inClass (top 17) 8
abbrev s_law_times_right : Stmt := top 28
abbrev s_Row_turned : Stmt := inClass (top 17) 4
abbrev s_law_pick : Stmt := top 21
abbrev s_law_turned_right : Stmt := top 29
abbrev s_law : Stmt := top 30
def gD (x : Str) (st : Stmt) : He5.DefA := ⟨fun K => He.ga K x, x, x, defArgs st, defBody st, defScope st, [], []⟩
def mD (c m q : Str) (st : Stmt) : He5.DefA := ⟨fun K => He.ma K (He.ga K c) m, m, q, defArgs st, defBody st, defScope st, [], []⟩
def cD (c m q : Str) (st : Stmt) : He5.DefA := ⟨fun K => He5.wf K (He.ga K c) "classmethod" m, m, q, defArgs st, defBody st, defScope st, [], []⟩
def fn : List He5.DefA := [gD "is_whole" s_is_whole, gD "is_between" s_is_between, gD "need_short" s_need_short, mD "Row" "__init__" "Row.__init__" s_RowD_initD, cD "Row" "of" "Row.of" s_Row_of, mD "Row" "__add__" "Row.__add__" s_RowD_addD, mD "Row" "__neg__" "Row.__neg__" s_RowD_negD, gD "_law_pen" s_law_pen, gD "_law_draw" s_law_draw, gD "_law_pits" s_law_pits, cD "Row" "read" "Row.read" s_Row_read, mD "Row" "__len__" "Row.__len__" s_RowD_lenD, gD "are_whole" s_are_whole, gD "is_part" s_is_part, mD "Row" "__getitem__" "Row.__getitem__" s_RowD_getitemD, mD "Row" "__contains__" "Row.__contains__" s_RowD_containsD, mD "Row" "__eq__" "Row.__eq__" s_RowD_eqD, mD "Row" "__str__" "Row.__str__" s_RowD_strD, gD "_law_text" s_law_text, gD "_law_told_right" s_law_told_right, gD "_law_parts_right" s_law_parts_right, gD "_law_made" s_law_made, gD "_law_joined_right" s_law_joined_right, mD "Row" "__mul__" "Row.__mul__" s_RowD_mulD, mD "Row" "__rmul__" "Row.__rmul__" s_RowD_rmulD, gD "_law_times_right" s_law_times_right, mD "Row" "turned" "Row.turned" s_Row_turned, gD "_law_pick" s_law_pick, gD "_law_turned_right" s_law_turned_right, gD "law" s_law]
abbrev mO (K : Frag) (c m : Str) : Addr := He.ma K (He.ga K c) m
abbrev wO (K : Frag) (c m : Str) : Addr := He5.wf K (He.ga K c) "classmethod" m
def glos : List Str := ["Row", "_law_draw", "_law_joined_right", "_law_made", "_law_parts_right", "_law_pen", "_law_pick", "_law_pits", "_law_text", "_law_times_right", "_law_told_right", "_law_turned_right", "are_whole", "is_between", "is_part", "is_whole", "law", "need_short"]
def frees : List Str := ["abs", "all", "bool", "enumerate", "int", "isinstance", "len", "list", "max", "min", "range", "repr", "str", "tuple"]
def meths : List (Str × Str) := [("Row", "__add__"), ("Row", "__contains__"), ("Row", "__eq__"), ("Row", "__getitem__"), ("Row", "__len__"), ("Row", "__mul__"), ("Row", "__neg__"), ("Row", "__rmul__"), ("Row", "__str__"), ("Row", "turned")]
def intcs : List (Str × Int) := [("LAST_PIT", 5), ("MOST_MOVES", 6)]
def strcs : List (Str × Str) := [("FIGURES", "012345")]
def clss : List Str := ["Row"]
def mkrs : List Str := ["Row"]
def noats : List (Str × Str) := [("Row", "pits")]
def cms : List (Str × Str) := [("Row", "of"), ("Row", "read")]
def crds : List Str := ["Row"]
def nes : List Str := ["Row"]
def gis : List (Str × Str) := [("Row", "__getitem__")]
def selfs : List Str := ["Row"]
def nofs : List (Str × Str) := [("Row", "__iadd__"), ("Row", "__imul__"), ("Row", "__radd__")]
def tys : List (String × Str × String) := [("int", "__add__", "int.__add__"), ("int", "__mul__", "int.__mul__"), ("int", "__radd__", "int.__radd__"), ("int", "__rmul__", "int.__rmul__")]
def subs : List (String × Str) := [("NoneType", "Row"), ("bool", "Row"), ("dict", "Row"), ("int", "Row"), ("list", "Row"), ("str", "Row"), ("tuple", "Row")]
def pls : List Str := ["Row"]
def subc : List (Str × String) := [("Row", "int")]
def onos : List Str := ["__iadd__", "__imul__"]
def subx : List (Str × Str) := []
def kits : List (String × Str) := [("NoneType", "Row"), ("bool", "Row"), ("dict", "Row"), ("int", "Row"), ("list", "Row"), ("str", "Row"), ("tuple", "Row")]
def kitcs : List (Str × String) := [("Row", "bool"), ("Row", "int"), ("Row", "list"), ("Row", "str"), ("Row", "tuple")]
def kitos : List (Str × Str × Bool) := [("Row", "Row", true)]
def ccs : List (Str × Str × Int) := [("Row", "MOST", 6)]
def chk (K : Frag) : Bool := ((glos.all fun x => (He.Fa.glo x).ok K) && ((frees.all fun x => (He.Fa.free x).ok K) && ((meths.all fun p => (He.Fa.meth p.1 p.2).ok K) && ((intcs.all fun p => (He.Fa.int p.1 p.2).ok K) && ((strcs.all fun p => (He.Fa.str p.1 p.2).ok K) && ((clss.all fun c => (He.Fa.cls c).ok K) && ((mkrs.all fun c => (He.Fa.mkr c).ok K) && ((noats.all fun p => (He.Fa.noat p.1 p.2).ok K) && ((cms.all fun p => He5.wrapB K (He.ga K p.1) "classmethod" "classmethod.__get__" p.2 && fnIn K (wO K p.1 p.2)) && ((crds.all fun c => readsIn K (He.ga K c) (.type "type") && He.eqO (specialIn K (.ref (He.ga K c)) "__getattribute__") (some (some (.builtin "type.__getattribute__")))) && ((nes.all fun c => He.eqO (findIn K (.ref (He.ga K c)) "__ne__") (some (some (.builtin "object.__ne__"))) && decide (mroIn K (He.ga K c) (.type "object") = some true)) && ((gis.all fun p => fnIn K (mO K p.1 p.2)) && ((selfs.all fun c => selfFirst K (He.ga K c)) && ((nofs.all fun p => He.eqO (findIn K (.ref (He.ga K p.1)) p.2) (some none)) && ((tys.all fun p => He.eqO (findIn K (.type p.1) p.2.1) (some (some (.builtin p.2.2)))) && ((subs.all fun p => decide (subIn K (.type p.1) (.ref (He.ga K p.2)) = some false)) && ((pls.all fun c => decide ((clsIn K (He.ga K c)).map (fun cd => cd.mro) = some [.ref (He.ga K c), .type "object"])) && ((subc.all fun p => decide (subIn K (.ref (He.ga K p.1)) (.type p.2) = some false)) && ((onos.all fun m => He.eqO (findIn K (.type "object") m) (some none)) && ((subx.all fun p => decide (subIn K (.ref (He.ga K p.1)) (.ref (He.ga K p.2)) = some false)) && ((kits.all fun p => decide (kitOne K (.type p.1) (.ref (He.ga K p.2)) = some false)) && ((kitcs.all fun p => decide (kitOne K (.ref (He.ga K p.1)) (.type p.2) = some false)) && ((kitos.all fun p => decide (kitOne K (.ref (He.ga K p.1)) (.ref (He.ga K p.2.1)) = some p.2.2)) && ((ccs.all fun p => match findCls K (.ref (He.ga K p.1)) (.type "type") p.2.1 with | some (.val (.int i _)) => decide (i = p.2.2) | _ => false) && ((clss.all fun c => He.eqO (findIn K (.ref (He.ga K c)) "__class__") (some (some (.builtin "object.__class__")))) && ((clss.all fun c => decide (mroIn K (He.ga K c) (.type "object") = some true)) && ((He.eqO (specialIn K (.builtin "object.__class__") "__get__") (some (some (.builtin "getset_descriptor.__get__")))) && (decide (takesIn K (.builtin "object.__class__") = some true)))))))))))))))))))))))))))))
structure TX (K : Frag) (mg : Str → Option Value) : Prop where
  says : ZH.SaysZ chk fn K
  glo : ∀ x ∈ glos, mg x = some (.ref (He.ga K x))
  free : ∀ x ∈ frees, mg x = none
  meth : ∀ c m, (c, m) ∈ meths → Meth K (He.ga K c) m (mO K c m)
  intc : ∀ x i, (x, i) ∈ intcs → ∃ t, mg x = some (.int i t)
  strc : ∀ x z, (x, z) ∈ strcs → ∃ t, mg x = some (.str z t)
  cl : ∀ c ∈ clss, Cls K (He.ga K c)
  mkr : ∀ c ∈ mkrs, Mk K (He.ga K c) (mO K c "__init__")
  na : ∀ c f, (c, f) ∈ noats → NoAttr K (He.ga K c) f
  cm : ∀ c m, (c, m) ∈ cms → ClX.CMet K (He.ga K c) (.type "type") m (mO K c m) (wO K c m)
  rd : ∀ c ∈ crds, ClX.CRead K (He.ga K c) (.type "type")
  ne : ∀ c ∈ nes, ZL.OwnNe K (He.ga K c)
  gi : ∀ c m, (c, m) ∈ gis → fnIn K (mO K c m) = true
  sf : ∀ c ∈ selfs, selfFirst K (He.ga K c) = true
  nf : ∀ c m, (c, m) ∈ nofs → findIn K (.ref (He.ga K c)) m = some none
  ty : ∀ T m i, (T, m, i) ∈ tys → findIn K (.type T) m = some (some (.builtin i))
  sb : ∀ T c, (T, c) ∈ subs → subIn K (.type T) (.ref (He.ga K c)) = some false
  pl : ∀ c ∈ pls, ZL.Plain K (He.ga K c)
  sc : ∀ c T, (c, T) ∈ subc → subIn K (.ref (He.ga K c)) (.type T) = some false
  on : ∀ m ∈ onos, findIn K (.type "object") m = some none
  sx : ∀ c d, (c, d) ∈ subx → subIn K (.ref (He.ga K c)) (.ref (He.ga K d)) = some false
  kt : ∀ T c, (T, c) ∈ kits → kitOne K (.type T) (.ref (He.ga K c)) = some false
  kc : ∀ c T, (c, T) ∈ kitcs → kitOne K (.ref (He.ga K c)) (.type T) = some false
  ko : ∀ c d b, (c, d, b) ∈ kitos → kitOne K (.ref (He.ga K c)) (.ref (He.ga K d)) = some b
  cc : ∀ c f i, (c, f, i) ∈ ccs → ∃ u, ClX.CVal K (He.ga K c) (.type "type") f (.int i) u
  ca : ∀ c ∈ clss, findIn K (.ref (He.ga K c)) "__class__" = some (some (.builtin "object.__class__"))
  ob : ∀ c ∈ clss, mroIn K (He.ga K c) (.type "object") = some true
  cg : specialIn K (.builtin "object.__class__") "__get__" = some (some (.builtin "getset_descriptor.__get__"))
  ct : takesIn K (.builtin "object.__class__") = some true
theorem tx {K : Frag} {mg : Str → Option Value} {h : Heap} (X : K.In h) (G : h.Ns mainGlobals mg) (c : ZH.SaysZ chk fn K) : TX K mg := by
  have z := c.fact
  obtain ⟨z0, z⟩ := He.ba z
  obtain ⟨z1, z⟩ := He.ba z
  obtain ⟨z2, z⟩ := He.ba z
  obtain ⟨z3, z⟩ := He.ba z
  obtain ⟨z4, z⟩ := He.ba z
  obtain ⟨z5, z⟩ := He.ba z
  obtain ⟨z6, z⟩ := He.ba z
  obtain ⟨z7, z⟩ := He.ba z
  obtain ⟨z8, z⟩ := He.ba z
  obtain ⟨z9, z⟩ := He.ba z
  obtain ⟨z10, z⟩ := He.ba z
  obtain ⟨z11, z⟩ := He.ba z
  obtain ⟨z12, z⟩ := He.ba z
  obtain ⟨z13, z⟩ := He.ba z
  obtain ⟨z14, z⟩ := He.ba z
  obtain ⟨z15, z⟩ := He.ba z
  obtain ⟨z16, z⟩ := He.ba z
  obtain ⟨z17, z⟩ := He.ba z
  obtain ⟨z18, z⟩ := He.ba z
  obtain ⟨z19, z⟩ := He.ba z
  obtain ⟨z20, z⟩ := He.ba z
  obtain ⟨z21, z⟩ := He.ba z
  obtain ⟨z22, z⟩ := He.ba z
  obtain ⟨z23, z⟩ := He.ba z
  obtain ⟨z24, z⟩ := He.ba z
  obtain ⟨z25, z⟩ := He.ba z
  obtain ⟨z26, z27⟩ := He.ba z
  exact { says := c, glo := (fun x hx => He.glo_ok X G (List.all_eq_true.mp z0 x hx)), free := (fun x hx => He.free_ok X G (List.all_eq_true.mp z1 x hx)), meth := (fun c m hp => He.meth_ok (List.all_eq_true.mp z2 (c, m) hp)), intc := (fun x i hp => He.int_ok X G (List.all_eq_true.mp z3 (x, i) hp)), strc := (fun x i hp => He.str_ok X G (List.all_eq_true.mp z4 (x, i) hp)), cl := (fun c hc => He.cls_ok (List.all_eq_true.mp z5 c hc)), mkr := (fun c hc => He.mkr_ok (List.all_eq_true.mp z6 c hc)), na := (fun c f hp => He.noat_ok (List.all_eq_true.mp z7 (c, f) hp)), cm := (fun c m hp => He5.cmet_of (He.ba (List.all_eq_true.mp z8 (c, m) hp)).1 (He.ba (List.all_eq_true.mp z8 (c, m) hp)).2), rd := (fun c hc => ⟨(He.ba (List.all_eq_true.mp z9 c hc)).1, He.eqO_ok (He.ba (List.all_eq_true.mp z9 c hc)).2⟩), ne := (fun c hc => ⟨He.eqO_ok (He.ba (List.all_eq_true.mp z10 c hc)).1, of_decide_eq_true (He.ba (List.all_eq_true.mp z10 c hc)).2⟩), gi := (fun c m hp => List.all_eq_true.mp z11 (c, m) hp), sf := (fun c hc => List.all_eq_true.mp z12 c hc), nf := (fun c m hp => He.eqO_ok (List.all_eq_true.mp z13 (c, m) hp)), ty := (fun T m i hp => He.eqO_ok (List.all_eq_true.mp z14 (T, m, i) hp)), sb := (fun T c hp => of_decide_eq_true (List.all_eq_true.mp z15 (T, c) hp)), pl := (fun c hc => Option.map_eq_some_iff.mp (of_decide_eq_true (List.all_eq_true.mp z16 c hc))), sc := (fun c T hp => of_decide_eq_true (List.all_eq_true.mp z17 (c, T) hp)), on := (fun m hm => He.eqO_ok (List.all_eq_true.mp z18 m hm)), sx := (fun c d hp => of_decide_eq_true (List.all_eq_true.mp z19 (c, d) hp)), kt := (fun T c hp => of_decide_eq_true (List.all_eq_true.mp z20 (T, c) hp)), kc := (fun c T hp => of_decide_eq_true (List.all_eq_true.mp z21 (c, T) hp)), ko := (fun c d b hp => of_decide_eq_true (List.all_eq_true.mp z22 (c, d, b) hp)), cc := (fun c f i hp => PV.cval_of (List.all_eq_true.mp z23 (c, f, i) hp)), ca := (fun c hc => He.eqO_ok (List.all_eq_true.mp z24 c hc)), ob := (fun c hc => of_decide_eq_true (List.all_eq_true.mp z25 c hc)), cg := (He.eqO_ok z26), ct := (of_decide_eq_true z27) }
abbrev R : PySem.W.OpenRow := PySem.W.OpenLaw.row PySem.Challenge.rw_lapseeds_k20_rows_put_together
abbrev hk : PySem.W.Hook := ZH.hookZ 7 chk fn
def ob (s : PySem.W.SharedT) : He.AlD := ZH.obsZG 7 chk fn (HandSHeadRun.getT s)
theorem ob_eq (s : PySem.W.SharedT) : ob s = hk.obs s.abs := ZH.obsZG_eq (HandSHeadRun.getT_eq s)
def loose : List Str := ["is_whole", "is_between", "are_whole", "LapError", "BadNumber", "BadRow", "BadText", "Unlike", "TooMany", "MOST_MOVES", "LAST_PIT", "FIGURES", "need_short", "is_part", "Row", "_law_pen", "_law_draw", "_law_pick", "_law_pits", "_law_text", "_law_made", "_law_told_right", "_law_parts_right", "_law_joined_right", "_law_times_right", "_law_turned_right"]
theorem run (w : World) : HandSHeadRun.RunEq R (PySem.W.view R.prog [30]) hk ob 8000 loose w := by
  intro os
  kernel_rfl
end K20
namespace K20
open PySem PySem.Spec PyProof.Rows L2 ZL PV
theorem kp_is_whole {K : PySem.W.Frag} {mg : Str → Option Value} (T : TX K mg) : PySem.W.keepIn K (.ref (He.ga K "is_whole")) = true := (T.says.def_ 0).choose_spec.kp
theorem kp_is_between {K : PySem.W.Frag} {mg : Str → Option Value} (T : TX K mg) : PySem.W.keepIn K (.ref (He.ga K "is_between")) = true := (T.says.def_ 1).choose_spec.kp
theorem kp_need_short {K : PySem.W.Frag} {mg : Str → Option Value} (T : TX K mg) : PySem.W.keepIn K (.ref (He.ga K "need_short")) = true := (T.says.def_ 2).choose_spec.kp
theorem kp_law_pen {K : PySem.W.Frag} {mg : Str → Option Value} (T : TX K mg) : PySem.W.keepIn K (.ref (He.ga K "_law_pen")) = true := (T.says.def_ 7).choose_spec.kp
theorem kp_law_draw {K : PySem.W.Frag} {mg : Str → Option Value} (T : TX K mg) : PySem.W.keepIn K (.ref (He.ga K "_law_draw")) = true := (T.says.def_ 8).choose_spec.kp
theorem kp_law_pits {K : PySem.W.Frag} {mg : Str → Option Value} (T : TX K mg) : PySem.W.keepIn K (.ref (He.ga K "_law_pits")) = true := (T.says.def_ 9).choose_spec.kp
theorem kp_are_whole {K : PySem.W.Frag} {mg : Str → Option Value} (T : TX K mg) : PySem.W.keepIn K (.ref (He.ga K "are_whole")) = true := (T.says.def_ 12).choose_spec.kp
theorem kp_is_part {K : PySem.W.Frag} {mg : Str → Option Value} (T : TX K mg) : PySem.W.keepIn K (.ref (He.ga K "is_part")) = true := (T.says.def_ 13).choose_spec.kp
theorem kp_law_text {K : PySem.W.Frag} {mg : Str → Option Value} (T : TX K mg) : PySem.W.keepIn K (.ref (He.ga K "_law_text")) = true := (T.says.def_ 18).choose_spec.kp
theorem kp_law_told_right {K : PySem.W.Frag} {mg : Str → Option Value} (T : TX K mg) : PySem.W.keepIn K (.ref (He.ga K "_law_told_right")) = true := (T.says.def_ 19).choose_spec.kp
theorem kp_law_parts_right {K : PySem.W.Frag} {mg : Str → Option Value} (T : TX K mg) : PySem.W.keepIn K (.ref (He.ga K "_law_parts_right")) = true := (T.says.def_ 20).choose_spec.kp
theorem kp_law_made {K : PySem.W.Frag} {mg : Str → Option Value} (T : TX K mg) : PySem.W.keepIn K (.ref (He.ga K "_law_made")) = true := (T.says.def_ 21).choose_spec.kp
theorem kp_law_joined_right {K : PySem.W.Frag} {mg : Str → Option Value} (T : TX K mg) : PySem.W.keepIn K (.ref (He.ga K "_law_joined_right")) = true := (T.says.def_ 22).choose_spec.kp
theorem kp_law_times_right {K : PySem.W.Frag} {mg : Str → Option Value} (T : TX K mg) : PySem.W.keepIn K (.ref (He.ga K "_law_times_right")) = true := (T.says.def_ 25).choose_spec.kp
theorem kp_law_pick {K : PySem.W.Frag} {mg : Str → Option Value} (T : TX K mg) : PySem.W.keepIn K (.ref (He.ga K "_law_pick")) = true := (T.says.def_ 27).choose_spec.kp
theorem kp_law_turned_right {K : PySem.W.Frag} {mg : Str → Option Value} (T : TX K mg) : PySem.W.keepIn K (.ref (He.ga K "_law_turned_right")) = true := (T.says.def_ 28).choose_spec.kp
theorem kp_law {K : PySem.W.Frag} {mg : Str → Option Value} (T : TX K mg) : PySem.W.keepIn K (.ref (He.ga K "law")) = true := (T.says.def_ 29).choose_spec.kp
theorem cf_ {K : PySem.W.Frag} {mg : Str → Option Value} (T : TX K mg) (c : String) (h : Str.ofString c ∈ clss) : CF K c := ⟨T.cl _ h, T.ca _ h, T.cg, T.ct, T.ob _ h⟩
theorem nf_six {K : PySem.W.Frag} {mg : Str → Option Value} (T : TX K mg) (c : String) (h : (six.all fun t => decide ((t, Str.ofString c) ∈ subs)) = true) (n : String) (hn : n ∈ six) : PySem.W.notFirst K (gaS K c) (tyV' K (.b n)) = true := by
  have z := T.sb n (Str.ofString c) (of_decide_eq_true (List.all_eq_true.mp h n hn))
  show (_ || _) = true
  rw [show PySem.W.subIn K (tyV' K (.b n)) (.ref (gaS K c)) = some false from z]
  simp
theorem nf_cls {K : PySem.W.Frag} {mg : Str → Option Value} (T : TX K mg) (c d : String) (h : (Str.ofString c, Str.ofString d) ∈ subx) : PySem.W.notFirst K (gaS K d) (tyV' K (.c c)) = true := by
  have z := T.sx _ _ h
  show (_ || _) = true
  rw [show PySem.W.subIn K (tyV' K (.c c)) (.ref (gaS K d)) = some false from z]
  simp
theorem kt_six {K : PySem.W.Frag} {mg : Str → Option Value} (T : TX K mg) (c : String) (h : (six.all fun t => decide ((t, Str.ofString c) ∈ kits)) = true) (n : String) (hn : n ∈ six) : PySem.W.kitOne K (.type n) (.ref (gaS K c)) = some false := T.kt n (Str.ofString c) (of_decide_eq_true (List.all_eq_true.mp h n hn))
end K20
set_option Elab.async false
set_option linter.all false
set_option maxRecDepth 100000
set_option maxHeartbeats 4000000
namespace K20
open PySem PySem.Spec PyProof.Rows L2 ZL PV
section
variable {P : Program} {w : World} {K : PySem.W.Frag} {mg : Str → Option Value} {base : Heap}
/-! is_whole -/
theorem ct_int {X : Cx} (T : TX X.K X.mg) : ∀ c ∈ ["Row"], CF X.K c ∧ PySem.W.kitOne X.K (.ref (gaS X.K c)) (.type "int") = some false := by
  intro c h
  simp only [List.mem_cons, List.not_mem_nil, or_false] at h
  rcases h with rfl
  · exact ⟨cf_ T "Row" (by decide +kernel), T.kc "Row" "int" (by decide +kernel)⟩
theorem ct_bool {X : Cx} (T : TX X.K X.mg) : ∀ c ∈ ["Row"], CF X.K c ∧ PySem.W.kitOne X.K (.ref (gaS X.K c)) (.type "bool") = some false := by
  intro c h
  simp only [List.mem_cons, List.not_mem_nil, or_false] at h
  rcases h with rfl
  · exact ⟨cf_ T "Row" (by decide +kernel), T.kc "Row" "bool" (by decide +kernel)⟩
abbrev N_is_whole : List Str := ["value"]
theorem sc_is_whole : FnScope N_is_whole ["value"] (defScope s_is_whole) := ⟨rfl, rfl, rfl, by decide +kernel, rfl, by decide +kernel, by decide +kernel⟩
noncomputable def F_is_whole : Fn := dfn 1 1 (sSeq (sRet (anE (cal (isiF (isiB "int" ["Row"]) (isTy "int")) (aCons (v 0) (aCons (k (.ty "int")) aNil))) (noE (cal (isiF (isiB "bool" ["Row"]) (isTy "bool")) (aCons (v 0) (aCons (k (.ty "bool")) aNil)))))) (sNil))
theorem w_is_whole (T : TX K mg) : FnF P w K mg base 1 (He.ga K "is_whole") F_is_whole := by
  obtain ⟨fd, F⟩ := T.says.def_ 0
  exact okF (j := 0) (st := s_is_whole) F sc_is_whole rfl rfl (fun _ _ _ _ _ _ us hl => match us, hl with | [_], _ => rfl) (fun cdv A outer s H E hr => qs_cons (qs_ret (qe_and (qe_blt (cf_isiB (by decide) (ct_int T)) (T.free "isinstance" (by decide +kernel)) (qa_cons (qv 0) (qa_cons (qg_ty (T.free "int" (by decide +kernel)) (by decide +kernel)) qa_nil))) (qe_one (qe_not (qe_blt (cf_isiB (by decide) (ct_bool T)) (T.free "isinstance" (by decide +kernel)) (qa_cons (qv 0) (qa_cons (qg_ty (T.free "bool" (by decide +kernel)) (by decide +kernel)) qa_nil))))))) (qs_nil))
/-! is_between -/
abbrev N_is_between : List Str := ["value", "low", "high"]
theorem sc_is_between : FnScope N_is_between ["value", "low", "high"] (defScope s_is_between) := ⟨rfl, rfl, rfl, by decide +kernel, rfl, by decide +kernel, by decide +kernel⟩
noncomputable def F_is_between : Fn := dfn 3 3 (sSeq (sRet (anE (cal F_is_whole (aCons (v 0) (aNil))) (chn (leG) (leG) (v 1) (v 0) (v 2)))) (sNil))
theorem w_is_between (T : TX K mg) : FnF P w K mg base 2 (He.ga K "is_between") F_is_between := by
  obtain ⟨fd, F⟩ := T.says.def_ 1
  exact okF (j := 1) (st := s_is_between) F sc_is_between rfl rfl (fun _ _ _ _ _ _ us hl => match us, hl with | [_, _, _], _ => rfl) (fun cdv A outer s H E hr => qs_cons (qs_ret (qe_and (qe_call (w_is_whole T) (hr.mono (by decide)) (T.glo "is_whole" (by decide +kernel)) (kp_is_whole T) (qa_cons (qv 0) (qa_nil))) (qe_one (qe_chn (of_le) (of_le) (qv 1) (qv 0) (qv 2))))) (qs_nil))
/-! need_short -/
abbrev N_need_short : List Str := ["many"]
theorem sc_need_short : FnScope N_need_short ["many"] (defScope s_need_short) := ⟨rfl, rfl, rfl, by decide +kernel, rfl, by decide +kernel, by decide +kernel⟩
noncomputable def F_need_short : Fn := dfn 1 1 (sSeq (sIf (tst (bin (gtG) (v 0) (k (.int 6)))) (sSeq (sNo) (sNil)) (sNil)) (sNil))
theorem w_need_short (T : TX K mg) : FnF P w K mg base 1 (He.ga K "need_short") F_need_short := by
  obtain ⟨fd, F⟩ := T.says.def_ 2
  exact okF (j := 0) (st := s_need_short) F sc_need_short rfl rfl (fun _ _ _ _ _ _ us hl => match us, hl with | [_], _ => rfl) (fun cdv A outer s H E hr => qs_cons (qs_if (qt_cmp (of_gt) (qv 0) (qg_int (T.intc "MOST_MOVES" 6 (by decide +kernel)))) (qs_cons (qs_no) (qs_nil)) (qs_nil)) (qs_nil))
/-! Row.__init__ -/
theorem fl_pits {X : Cx} (T : TX X.K X.mg) : ∀ c ∈ ["Row"], Cls X.K (He.ga X.K (Str.ofString c)) ∧ NoAttr X.K (He.ga X.K (Str.ofString c)) (Str.ofString "pits") := by
  intro c h
  simp only [List.mem_cons, List.not_mem_nil, or_false] at h
  rcases h with rfl
  · exact ⟨T.cl "Row" (by decide +kernel), T.na "Row" "pits" (by decide +kernel)⟩
abbrev N_RowD_initD : List Str := ["self", "pits", "at", "pit"]
theorem sc_RowD_initD : FnScope N_RowD_initD ((["self"] : List Str) ++ (["pits"] : List Str)) (defScope s_RowD_initD) := ⟨rfl, rfl, rfl, by decide +kernel, rfl, by decide +kernel, by decide +kernel⟩
noncomputable def F_RowD_initD : Fn := dfnV 1 4 (sSeq (sFor (.tp [2, 3]) (iEn (aCons (v 1) (aNil))) (sSeq (sIf (tNo (tru (cal F_is_between (aCons (v 3) (aCons (k (.int 0)) (aCons (k (.int 5)) (aNil))))))) (sSeq (sNo) (sNil)) (sNil)) (sNil))) (sSeq (sExp (cal F_need_short (aCons (cal lenB (aCons (v 1) (aNil))) (aNil)))) (sSeq (sFldS ["Row"] "pits" (v 0) (v 1)) (sNil))))
theorem w_RowD_initD (T : TX K mg) : FnF P w K mg base 3 (mO K "Row" "__init__") F_RowD_initD := by
  obtain ⟨fd, F⟩ := T.says.def_ 3
  exact okFV (j := 2) (st := s_RowD_initD) (ps := ["self"]) (pv := "pits") F sc_RowD_initD rfl rfl (fun kV doc pm an cdv ct => StX.bind_star1 (B := fun us => bindArgs (PySem.W.fnOf _ _ _ _ _ .none kV doc pm an cdv ct) ⟨us, []⟩) (fun _ => rfl) (fun _ _ _ => rfl)) (fun cdv A outer s H E hr => qs_cons (qs_for (passes_of rfl) rfl (qi_enum (T.free "enumerate" (by decide +kernel)) (qa_cons (qv 1) (qa_nil))) (qg_tup rfl (qgs_cons 2 (qgs_cons 3 (qgs_nil) sc_RowD_initD.nd) sc_RowD_initD.nd) rfl) (qs_cons (qs_if (qt_not (qt_tru (qe_call (w_is_between T) (hr.mono (by decide)) (T.glo "is_between" (by decide +kernel)) (kp_is_between T) (qa_cons (qv 3) (qa_cons (qk_int) (qa_cons (qg_int (T.intc "LAST_PIT" 5 (by decide +kernel))) (qa_nil))))))) (qs_cons (qs_no) (qs_nil)) (qs_nil)) (qs_nil))) (qs_cons (qs_exp (qe_call (w_need_short T) (hr.mono (by decide)) (T.glo "need_short" (by decide +kernel)) (kp_need_short T) (qa_cons (qe_blt cf_len (T.free "len" (by decide +kernel)) (qa_cons (qv 1) (qa_nil))) (qa_nil)))) (qs_cons (qs_fld (fl_pits T) (qv 0) (qv 1)) (qs_nil))))
/-! Row.of -/
theorem ct_list_tuple {X : Cx} (T : TX X.K X.mg) : ∀ c ∈ ["Row"], CF X.K c ∧ PySem.W.kitOne X.K (.ref (gaS X.K c)) (.type "list") = some false ∧ PySem.W.kitOne X.K (.ref (gaS X.K c)) (.type "tuple") = some false := by
  intro c h
  simp only [List.mem_cons, List.not_mem_nil, or_false] at h
  rcases h with rfl
  · exact ⟨cf_ T "Row" (by decide +kernel), T.kc "Row" "list" (by decide +kernel), T.kc "Row" "tuple" (by decide +kernel)⟩
abbrev N_Row_of : List Str := ["cls", "pits"]
theorem sc_Row_of : FnScope N_Row_of ["cls", "pits"] (defScope s_Row_of) := ⟨rfl, rfl, rfl, by decide +kernel, rfl, by decide +kernel, by decide +kernel⟩
noncomputable def F_Row_of : Fn := dfn 2 2 (sSeq (sIf (tNo (tru (isiA ["list", "tuple"] ["Row"] (v 1)))) (sSeq (sNo) (sNil)) (sNil)) (sSeq (sRet (itemsF (mkF "Row" F_RowD_initD) (v 1))) (sNil)))
theorem w_Row_of (T : TX K mg) : FnF P w K mg base 5 (wO K "Row" "of") F_Row_of := by
  obtain ⟨fd, F⟩ := T.says.def_ 4
  exact okF (j := 4) (st := s_Row_of) F sc_Row_of rfl rfl (fun _ _ _ _ _ _ us hl => match us, hl with | [_, _], _ => rfl) (fun cdv A outer s H E hr => qs_cons (qs_if (qt_not (qt_tru (qe_isi2 (by decide) (by decide) (ct_list_tuple T) (T.free "isinstance" (by decide +kernel)) (T.free "list" (by decide +kernel)) (T.free "tuple" (by decide +kernel)) (qv 1)))) (qs_cons (qs_no) (qs_nil)) (qs_nil)) (qs_cons (qs_ret (qe_mkS mk_frozen (T.mkr "Row" (by decide +kernel)) (w_RowD_initD T) (hr.mono (by decide)) (T.glo "Row" (by decide +kernel)) (qv 1))) (qs_nil)))
/-! Row.__add__ -/
theorem cc_Row {X : Cx} (T : TX X.K X.mg) : CallF X (.builtin "isinstance") (isiF (isiC [("Row", true)]) (isCl "Row")) := by
  refine cf_isiC (fun n h => kt_six T "Row" (by decide +kernel) n h) fun c b h => ?_
  have h := memLk h
  simp only [List.mem_cons, List.not_mem_nil, or_false, Prod.mk.injEq] at h
  rcases h with ⟨rfl, rfl⟩
  · exact ⟨cf_ T "Row" (by decide +kernel), T.ko "Row" "Row" true (by decide +kernel)⟩
abbrev N_RowD_addD : List Str := ["self", "other"]
theorem sc_RowD_addD : FnScope N_RowD_addD ["self", "other"] (defScope s_RowD_addD) := ⟨rfl, rfl, rfl, by decide +kernel, rfl, by decide +kernel, by decide +kernel⟩
noncomputable def F_RowD_addD : Fn := dfn 2 2 (sSeq (sIf (tru (cal (isiF (isiC [("Row", true)]) (isCl "Row")) (aCons (v 1) (aCons (k (.cls "Row")) aNil)))) (sSeq (sRet (cal (mkF "Row" F_RowD_initD) (aStar (una (fldG ["Row"] "pits") (v 0)) (aStar (una (fldG ["Row"] "pits") (v 1)) (aNil))))) (sNil)) (sNil)) (sSeq (sIf (tNo (tru (cal F_is_between (aCons (v 1) (aCons (k (.int 0)) (aCons (k (.int 5)) (aNil))))))) (sSeq (sNo) (sNil)) (sNil)) (sSeq (sRet (cal (mkF "Row" F_RowD_initD) (aStar (una (fldG ["Row"] "pits") (v 0)) (aCons (v 1) (aNil))))) (sNil))))
theorem w_RowD_addD (T : TX K mg) : FnF P w K mg base 5 (mO K "Row" "__add__") F_RowD_addD := by
  obtain ⟨fd, F⟩ := T.says.def_ 5
  exact okF (j := 4) (st := s_RowD_addD) F sc_RowD_addD rfl rfl (fun _ _ _ _ _ _ us hl => match us, hl with | [_, _], _ => rfl) (fun cdv A outer s H E hr => qs_cons (qs_if (qt_tru (qe_blt (cc_Row T) (T.free "isinstance" (by decide +kernel)) (qa_cons (qv 1) (qa_cons (qg_cls (T.glo "Row" (by decide +kernel))) qa_nil)))) (qs_cons (qs_ret (qe_mkN mk_frozen (T.mkr "Row" (by decide +kernel)) (w_RowD_initD T) (hr.mono (by decide)) (T.glo "Row" (by decide +kernel)) (qa_star (qe_fld (fl_pits T) (qv 0)) (qa_star (qe_fld (fl_pits T) (qv 1)) (qa_nil))))) (qs_nil)) (qs_nil)) (qs_cons (qs_if (qt_not (qt_tru (qe_call (w_is_between T) (hr.mono (by decide)) (T.glo "is_between" (by decide +kernel)) (kp_is_between T) (qa_cons (qv 1) (qa_cons (qk_int) (qa_cons (qg_int (T.intc "LAST_PIT" 5 (by decide +kernel))) (qa_nil))))))) (qs_cons (qs_no) (qs_nil)) (qs_nil)) (qs_cons (qs_ret (qe_mkN mk_frozen (T.mkr "Row" (by decide +kernel)) (w_RowD_initD T) (hr.mono (by decide)) (T.glo "Row" (by decide +kernel)) (qa_star (qe_fld (fl_pits T) (qv 0)) (qa_cons (qv 1) (qa_nil))))) (qs_nil))))
/-! Row.__neg__ -/
abbrev N_RowD_negD : List Str := ["self"]
theorem sc_RowD_negD : FnScope N_RowD_negD ["self"] (defScope s_RowD_negD) := ⟨rfl, rfl, rfl, by decide +kernel, rfl, by decide +kernel, by decide +kernel⟩
noncomputable def F_RowD_negD : Fn := dfn 1 1 (sSeq (sRet (cmE "Row" F_Row_of (k (.cls "Row")) (aCons (una revG (una (fldG ["Row"] "pits") (v 0))) (aNil)))) (sNil))
theorem w_RowD_negD (T : TX K mg) : FnF P w K mg base 6 (mO K "Row" "__neg__") F_RowD_negD := by
  obtain ⟨fd, F⟩ := T.says.def_ 6
  exact okF (j := 5) (st := s_RowD_negD) F sc_RowD_negD rfl rfl (fun _ _ _ _ _ _ us hl => match us, hl with | [_], _ => rfl) (fun cdv A outer s H E hr => qs_cons (qs_ret (qe_cm (T.rd "Row" (by decide +kernel)) (T.cm "Row" "of" (by decide +kernel)) (w_Row_of T) (hr.mono (by decide)) (qg_cls (T.glo "Row" (by decide +kernel))) (qa_cons (qe_rev (qe_fld (fl_pits T) (qv 0))) (qa_nil)))) (qs_nil))
/-! _law_pen -/
abbrev N_law_pen : List Str := ["_law_script"]
theorem sc_law_pen : FnScope N_law_pen ["_law_script"] (defScope s_law_pen) := ⟨rfl, rfl, rfl, by decide +kernel, rfl, by decide +kernel, by decide +kernel⟩
noncomputable def F_law_pen : Fn := dfn 1 1 (sSeq (sRet (lstM (aCons (cal listB (aCons (sli (v 0) (oNo) (oSo (k (.int 63)))) (aNil))) (aCons (k (.int 0)) (aCons (k (.int 0)) (aNil)))))) (sNil))
theorem w_law_pen (T : TX K mg) : FnFG P w K mg base 1 (He.ga K "_law_pen") F_law_pen := by
  obtain ⟨fd, F⟩ := T.says.def_ 7
  exact okFG (j := 0) (st := s_law_pen) F sc_law_pen rfl rfl (fun _ _ _ _ _ _ us hl => match us, hl with | [_], _ => rfl) (fun cdv A outer s H E hgd hr => qs_cons (qs_ret (qe_lstM (qa_cons (qe_typ cf_list (T.free "list" (by decide +kernel)) (qa_cons (qe_sli (qv 0) (qo_none) (qo_some (qk_int))) (qa_nil))) (qa_cons (qk_int) (qa_cons (qk_int) (qa_nil)))))) (qs_nil))
/-! _law_draw -/
abbrev N_law_draw : List Str := ["_law_pen_here", "_law_many", "_law_digit", "_law_at", "_law_cell", "_law_great", "_law_mixed"]
theorem sc_law_draw : FnScope N_law_draw ["_law_pen_here", "_law_many"] (defScope s_law_draw) := ⟨rfl, rfl, rfl, by decide +kernel, rfl, by decide +kernel, by decide +kernel⟩
noncomputable def F_law_draw : Fn := dfn 2 7 (sSeq (sIf (tst (bin (gtG) (bin ixG (v 0) (k (.int 2))) (k (.int 0)))) (sSeq (sSet 2 (bin (modG) (cal intB (aCons (bin ixG (v 0) (k (.int 2))) (aNil))) (v 1))) (sSeq (sSub (v 0) (k (.int 2)) (bin (fdivG) (cal intB (aCons (bin ixG (v 0) (k (.int 2))) (aNil))) (v 1))) (sSeq (sRet (v 2)) (sNil)))) (sNil)) (sSeq (sSet 3 (bin ixG (v 0) (k (.int 1)))) (sSeq (sSub (v 0) (k (.int 1)) (bin (addG) (v 3) (k (.int 1)))) (sSeq (sSet 4 (bin (addG) (bin (mulG) (k (.int 58751)) (v 3)) (k (.int 1423)))) (sSeq (sIf (tst (bin (eqG true) (bin ixG (v 0) (k (.int 0))) (lstE (aNil)))) (sSeq (sSet 4 (bin ixG (bin ixG (v 0) (k (.int 0))) (bin (modG) (cal intB (aCons (v 3) (aNil))) (cal lenB (aCons (bin ixG (v 0) (k (.int 0))) (aNil)))))) (sNil)) (sNil)) (sSeq (sIf (tAn (tst (bin (ltG) (v 3) (cal lenB (aCons (bin ixG (v 0) (k (.int 0))) (aNil))))) (tst (bin (geG) (cal absB (aCons (v 4) (aNil))) (bin (powG) (k (.int 10)) (k (.int 18)))))) (sSeq (sSet 5 (bin (addG) (bin (mulG) (k (.int 2)) (bin (subG) (cal absB (aCons (v 4) (aNil))) (bin (powG) (k (.int 10)) (k (.int 18))))) (cal intB (aCons (bin (ltG) (v 4) (k (.int 0))) (aNil))))) (sSeq (sSub (v 0) (k (.int 2)) (bin (fdivG) (cal intB (aCons (v 5) (aNil))) (v 1))) (sSeq (sRet (bin (modG) (cal intB (aCons (v 5) (aNil))) (v 1))) (sNil)))) (sNil)) (sSeq (sSet 6 (bin (modG) (cal intB (aCons (bin (powG) (bin (addG) (bin (addG) (bin (modG) (cal intB (aCons (v 4) (aNil))) (k (.int 2147483549))) (bin (mulG) (k (.int 71271)) (v 3))) (k (.int 927))) (k (.int 5))) (aNil))) (k (.int 2147483629)))) (sSeq (sSet 6 (bin (modG) (cal intB (aCons (bin (powG) (bin (addG) (bin (addG) (bin (mulG) (v 6) (bin (addG) (bin (mulG) (k (.int 2)) (v 3)) (k (.int 351)))) (bin (mulG) (bin (mulG) (k (.int 60353)) (v 3)) (v 3))) (k (.int 61))) (k (.int 3))) (aNil))) (k (.int 2147483587)))) (sSeq (sRet (bin (modG) (cal intB (aCons (bin (fdivG) (v 6) (k (.int 32))) (aNil))) (v 1))) (sNil))))))))))
theorem w_law_draw (T : TX K mg) : FnFG P w K mg base 1 (He.ga K "_law_draw") F_law_draw := by
  obtain ⟨fd, F⟩ := T.says.def_ 8
  exact okFG (j := 0) (st := s_law_draw) F sc_law_draw rfl rfl (fun _ _ _ _ _ _ us hl => match us, hl with | [_, _], _ => rfl) (fun cdv A outer s H E hgd hr => qs_cons (qs_if (qt_cmp (of_gt) (qe_ix (qv 0) (qk_int)) (qk_int)) (qs_cons (qs_set 2 (qe_bin (of_mod) (qe_typ cf_int (T.free "int" (by decide +kernel)) (qa_cons (qe_ix (qv 0) (qk_int)) (qa_nil))) (qv 1)) sc_law_draw.nd) (qs_cons (qs_sub (qv 0) (qk_int) (qe_bin (of_fdiv) (qe_typ cf_int (T.free "int" (by decide +kernel)) (qa_cons (qe_ix (qv 0) (qk_int)) (qa_nil))) (qv 1))) (qs_cons (qs_ret (qv 2)) (qs_nil)))) (qs_nil)) (qs_cons (qs_set 3 (qe_ix (qv 0) (qk_int)) sc_law_draw.nd) (qs_cons (qs_sub (qv 0) (qk_int) (qe_bin (of_add) (qv 3) (qk_int))) (qs_cons (qs_set 4 (qe_bin (of_add) (qe_bin (of_mul) (qk_int) (qv 3)) (qk_int)) sc_law_draw.nd) (qs_cons (qs_if (qt_cmp (of_ne hr.units) (qe_ix (qv 0) (qk_int)) (qe_lst (qa_nil))) (qs_cons (qs_set 4 (qe_ix (qe_ix (qv 0) (qk_int)) (qe_bin (of_mod) (qe_typ cf_int (T.free "int" (by decide +kernel)) (qa_cons (qv 3) (qa_nil))) (qe_blt cf_len (T.free "len" (by decide +kernel)) (qa_cons (qe_ix (qv 0) (qk_int)) (qa_nil))))) sc_law_draw.nd) (qs_nil)) (qs_nil)) (qs_cons (qs_if (qt_w (qw_and (qt_cmp (of_lt) (qv 3) (qe_blt cf_len (T.free "len" (by decide +kernel)) (qa_cons (qe_ix (qv 0) (qk_int)) (qa_nil)))) (qw_and1 (qt_cmp (of_ge) (qe_blt cf_abs (T.free "abs" (by decide +kernel)) (qa_cons (qv 4) (qa_nil))) (qe_bin (of_pow) (qk_int) (qk_int)))))) (qs_cons (qs_set 5 (qe_bin (of_add) (qe_bin (of_mul) (qk_int) (qe_bin (of_sub) (qe_blt cf_abs (T.free "abs" (by decide +kernel)) (qa_cons (qv 4) (qa_nil))) (qe_bin (of_pow) (qk_int) (qk_int)))) (qe_typ cf_int (T.free "int" (by decide +kernel)) (qa_cons (qe_cmp (of_lt) (qv 4) (qk_int)) (qa_nil)))) sc_law_draw.nd) (qs_cons (qs_sub (qv 0) (qk_int) (qe_bin (of_fdiv) (qe_typ cf_int (T.free "int" (by decide +kernel)) (qa_cons (qv 5) (qa_nil))) (qv 1))) (qs_cons (qs_ret (qe_bin (of_mod) (qe_typ cf_int (T.free "int" (by decide +kernel)) (qa_cons (qv 5) (qa_nil))) (qv 1))) (qs_nil)))) (qs_nil)) (qs_cons (qs_set 6 (qe_bin (of_mod) (qe_typ cf_int (T.free "int" (by decide +kernel)) (qa_cons (qe_bin (of_pow) (qe_bin (of_add) (qe_bin (of_add) (qe_bin (of_mod) (qe_typ cf_int (T.free "int" (by decide +kernel)) (qa_cons (qv 4) (qa_nil))) (qk_int)) (qe_bin (of_mul) (qk_int) (qv 3))) (qk_int)) (qk_int)) (qa_nil))) (qk_int)) sc_law_draw.nd) (qs_cons (qs_set 6 (qe_bin (of_mod) (qe_typ cf_int (T.free "int" (by decide +kernel)) (qa_cons (qe_bin (of_pow) (qe_bin (of_add) (qe_bin (of_add) (qe_bin (of_mul) (qv 6) (qe_bin (of_add) (qe_bin (of_mul) (qk_int) (qv 3)) (qk_int))) (qe_bin (of_mul) (qe_bin (of_mul) (qk_int) (qv 3)) (qv 3))) (qk_int)) (qk_int)) (qa_nil))) (qk_int)) sc_law_draw.nd) (qs_cons (qs_ret (qe_bin (of_mod) (qe_typ cf_int (T.free "int" (by decide +kernel)) (qa_cons (qe_bin (of_fdiv) (qv 6) (qk_int)) (qa_nil))) (qv 1))) (qs_nil))))))))))
/-! _law_pits -/
abbrev N_law_pits : List Str := ["_law_pen_here", "_law_most", "_law_k"]
theorem sc_law_pits : FnScope N_law_pits ["_law_pen_here", "_law_most"] (defScope s_law_pits) := ⟨rfl, rfl, rfl, by decide +kernel, rfl, by decide +kernel, by decide +kernel⟩
noncomputable def F_law_pits : Fn := dfn 2 3 (sSeq (sRet (lcE (.nm 2) (iR1 (aCons (cal F_law_draw (aCons (v 0) (aCons (bin (addG) (v 1) (k (.int 1))) (aNil)))) (aNil))) (tYs) (cal F_law_draw (aCons (v 0) (aCons (k (.int 6)) (aNil)))))) (sNil))
theorem w_law_pits (T : TX K mg) : FnFG P w K mg base 2 (He.ga K "_law_pits") F_law_pits := by
  obtain ⟨fd, F⟩ := T.says.def_ 9
  exact okFG (j := 1) (st := s_law_pits) F sc_law_pits rfl rfl (fun _ _ _ _ _ _ us hl => match us, hl with | [_, _], _ => rfl) (fun cdv A outer s H E hgd hr => qs_cons (qs_ret (qe_lc (own := [("_law_k", 2)]) (.nm 2) rfl rfl sc_law_pits.nd (qi_range1 (T.free "range" (by decide +kernel)) (qa_cons (qe_callG (w_law_draw T) hgd (hr.mono (by decide)) (T.glo "_law_draw" (by decide +kernel)) (kp_law_draw T) (qa_cons (qv 0) (qa_cons (qe_bin (of_add) (qv 1) (qk_int)) (qa_nil)))) (qa_nil))) (blkOk_by (N := N_law_pits) (sc := defScope s_law_pits) (by decide +kernel)) (fun _ _ _ _ _ => qg_name 2 sc_law_pits.nd) (fun _ _ _ _ _ => pts_yes) (fun _ _ _ _ _ => qe_callG (w_law_draw T) hgd (hr.mono (by decide)) (T.glo "_law_draw" (by decide +kernel)) (kp_law_draw T) (qa_cons (qv 0) (qa_cons (qk_int) (qa_nil)))))) (qs_nil))
/-! Row.read -/
theorem ct_str {X : Cx} (T : TX X.K X.mg) : ∀ c ∈ ["Row"], CF X.K c ∧ PySem.W.kitOne X.K (.ref (gaS X.K c)) (.type "str") = some false := by
  intro c h
  simp only [List.mem_cons, List.not_mem_nil, or_false] at h
  rcases h with rfl
  · exact ⟨cf_ T "Row" (by decide +kernel), T.kc "Row" "str" (by decide +kernel)⟩
abbrev N_Row_read : List Str := ["cls", "text", "words", "at", "word"]
theorem sc_Row_read : FnScope N_Row_read ["cls", "text"] (defScope s_Row_read) := ⟨rfl, rfl, rfl, by decide +kernel, rfl, by decide +kernel, by decide +kernel⟩
noncomputable def F_Row_read : Fn := dfn 2 5 (sSeq (sIf (tNo (tru (cal (isiF (isiB "str" ["Row"]) (isTy "str")) (aCons (v 1) (aCons (k (.ty "str")) aNil))))) (sSeq (sNo) (sNil)) (sNil)) (sSeq (sSet 2 (mthS splitG (v 1) (k (.str " ")))) (sSeq (sIf (tst (bin (eqG false) (bin ixG (v 2) (k (.int 0))) (k (.str "none")))) (sSeq (sIf (tst (bin (gtG) (cal lenB (aCons (v 2) (aNil))) (k (.int 1)))) (sSeq (sNo) (sNil)) (sNil)) (sSeq (sRet (mk0L "Row" (mkF "Row" F_RowD_initD) 0)) (sNil))) (sNil)) (sSeq (sFor (.tp [3, 4]) (iEn (aCons (v 2) (aNil))) (sSeq (sIf (tOr (tst (bin (eqG false) (v 3) (k (.int 6)))) (tOr (tst (bin (eqG true) (cal lenB (aCons (v 4) (aNil))) (k (.int 1)))) (tst (bin (inG true) (v 4) (k (.str "012345")))))) (sSeq (sNo) (sNil)) (sNil)) (sNil))) (sSeq (sRet (cmE "Row" F_Row_of (v 0) (aCons (lcE (.nm 4) (iSeq (v 2)) (tYs) (cal intB (aCons (v 4) (aNil)))) (aNil)))) (sNil))))))
theorem w_Row_read (T : TX K mg) : FnF P w K mg base 6 (wO K "Row" "read") F_Row_read := by
  obtain ⟨fd, F⟩ := T.says.def_ 10
  exact okF (j := 5) (st := s_Row_read) F sc_Row_read rfl rfl (fun _ _ _ _ _ _ us hl => match us, hl with | [_, _], _ => rfl) (fun cdv A outer s H E hr => qs_cons (qs_if (qt_not (qt_tru (qe_blt (cf_isiB (by decide) (ct_str T)) (T.free "isinstance" (by decide +kernel)) (qa_cons (qv 1) (qa_cons (qg_ty (T.free "str" (by decide +kernel)) (by decide +kernel)) qa_nil))))) (qs_cons (qs_no) (qs_nil)) (qs_nil)) (qs_cons (qs_set 2 (qe_split (qv 1) (qk_str)) sc_Row_read.nd) (qs_cons (qs_if (qt_cmp (of_eq hr.units) (qe_ix (qv 2) (qk_int)) (qk_str)) (qs_cons (qs_if (qt_cmp (of_gt) (qe_blt cf_len (T.free "len" (by decide +kernel)) (qa_cons (qv 2) (qa_nil))) (qk_int)) (qs_cons (qs_no) (qs_nil)) (qs_nil)) (qs_cons (qs_ret (qe_mk0L 0 mk_frozen (T.mkr "Row" (by decide +kernel)) (w_RowD_initD T) (hr.mono (by decide)))) (qs_nil))) (qs_nil)) (qs_cons (qs_for (passes_of rfl) rfl (qi_enum (T.free "enumerate" (by decide +kernel)) (qa_cons (qv 2) (qa_nil))) (qg_tup rfl (qgs_cons 3 (qgs_cons 4 (qgs_nil) sc_Row_read.nd) sc_Row_read.nd) rfl) (qs_cons (qs_if (qt_w (qw_or (qt_cmp (of_eq hr.units) (qv 3) (qg_int (T.intc "MOST_MOVES" 6 (by decide +kernel)))) (qw_or (qt_cmp (of_ne hr.units) (qe_blt cf_len (T.free "len" (by decide +kernel)) (qa_cons (qv 4) (qa_nil))) (qk_int)) (qw_or1 (qt_cmp (of_notin (u65 hr)) (qv 4) (qg_str (T.strc "FIGURES" "012345" (by decide +kernel)))))))) (qs_cons (qs_no) (qs_nil)) (qs_nil)) (qs_nil))) (qs_cons (qs_ret (qe_cm (T.rd "Row" (by decide +kernel)) (T.cm "Row" "of" (by decide +kernel)) (w_Row_of T) (hr.mono (by decide)) (qv 0) (qa_cons (qe_lc (own := [("word", 4)]) (.nm 4) rfl rfl sc_Row_read.nd (qi_seq (qv 2)) (blkOk_by (N := N_Row_read) (sc := defScope s_Row_read) (by decide +kernel)) (fun _ _ _ _ _ => qg_name 4 sc_Row_read.nd) (fun _ _ _ _ _ => pts_yes) (fun _ _ _ _ _ => qe_typ cf_int (T.free "int" (by decide +kernel)) (qa_cons (qv 4) (qa_nil)))) (qa_nil)))) (qs_nil))))))
/-! Row.__len__ -/
abbrev N_RowD_lenD : List Str := ["self"]
theorem sc_RowD_lenD : FnScope N_RowD_lenD ["self"] (defScope s_RowD_lenD) := ⟨rfl, rfl, rfl, by decide +kernel, rfl, by decide +kernel, by decide +kernel⟩
noncomputable def F_RowD_lenD : Fn := dfn 1 1 (sSeq (sRet (cal lenB (aCons (una (fldG ["Row"] "pits") (v 0)) (aNil)))) (sNil))
theorem w_RowD_lenD (T : TX K mg) : FnF P w K mg base 1 (mO K "Row" "__len__") F_RowD_lenD := by
  obtain ⟨fd, F⟩ := T.says.def_ 11
  exact okF (j := 0) (st := s_RowD_lenD) F sc_RowD_lenD rfl rfl (fun _ _ _ _ _ _ us hl => match us, hl with | [_], _ => rfl) (fun cdv A outer s H E hr => qs_cons (qs_ret (qe_blt cf_len (T.free "len" (by decide +kernel)) (qa_cons (qe_fld (fl_pits T) (qv 0)) (qa_nil)))) (qs_nil))
/-! are_whole -/
abbrev N_are_whole : List Str := ["values", "value"]
theorem sc_are_whole : FnScope N_are_whole ["values"] (defScope s_are_whole) := ⟨rfl, rfl, rfl, by decide +kernel, rfl, by decide +kernel, by decide +kernel⟩
noncomputable def F_are_whole : Fn := dfn 1 2 (sSeq (sRet (cal allB (aCons (lcE (.nm 1) (iSeq (v 0)) (tYs) (cal F_is_whole (aCons (v 1) (aNil)))) (aNil)))) (sNil))
theorem w_are_whole (T : TX K mg) : FnF P w K mg base 2 (He.ga K "are_whole") F_are_whole := by
  obtain ⟨fd, F⟩ := T.says.def_ 12
  exact okF (j := 1) (st := s_are_whole) F sc_are_whole rfl rfl (fun _ _ _ _ _ _ us hl => match us, hl with | [_], _ => rfl) (fun cdv A outer s H E hr => qs_cons (qs_ret (qe_blt (cf_all rfl) (T.free "all" (by decide +kernel)) (qa_cons (qe_lc (own := [("value", 1)]) (.nm 1) rfl rfl sc_are_whole.nd (qi_seq (qv 0)) (blkOk_by (N := N_are_whole) (sc := defScope s_are_whole) (by decide +kernel)) (fun _ _ _ _ _ => qg_name 1 sc_are_whole.nd) (fun _ _ _ _ _ => pts_yes) (fun _ _ _ _ _ => qe_call (w_is_whole T) (hr.mono (by decide)) (T.glo "is_whole" (by decide +kernel)) (kp_is_whole T) (qa_cons (qv 1) (qa_nil)))) (qa_nil)))) (qs_nil))
/-! is_part -/
theorem ct_tuple {X : Cx} (T : TX X.K X.mg) : ∀ c ∈ ["Row"], CF X.K c ∧ PySem.W.kitOne X.K (.ref (gaS X.K c)) (.type "tuple") = some false := by
  intro c h
  simp only [List.mem_cons, List.not_mem_nil, or_false] at h
  rcases h with rfl
  · exact ⟨cf_ T "Row" (by decide +kernel), T.kc "Row" "tuple" (by decide +kernel)⟩
abbrev N_is_part : List Str := ["thing", "many"]
theorem sc_is_part : FnScope N_is_part ["thing", "many"] (defScope s_is_part) := ⟨rfl, rfl, rfl, by decide +kernel, rfl, by decide +kernel, by decide +kernel⟩
noncomputable def F_is_part : Fn := dfn 2 2 (sSeq (sIf (tOr (tNo (tru (cal (isiF (isiB "tuple" ["Row"]) (isTy "tuple")) (aCons (v 0) (aCons (k (.ty "tuple")) aNil))))) (tOr (tst (bin (eqG true) (cal lenB (aCons (v 0) (aNil))) (k (.int 2)))) (tNo (tru (cal F_are_whole (aCons (v 0) (aNil))))))) (sSeq (sRet (k (.bl false))) (sNil)) (sNil)) (sSeq (sRet (chn3 (leG) (leG) (leG) (k (.int 0)) (bin ixG (v 0) (k (.int 0))) (bin ixG (v 0) (k (.int 1))) (v 1))) (sNil)))
theorem w_is_part (T : TX K mg) : FnF P w K mg base 3 (He.ga K "is_part") F_is_part := by
  obtain ⟨fd, F⟩ := T.says.def_ 13
  exact okF (j := 2) (st := s_is_part) F sc_is_part rfl rfl (fun _ _ _ _ _ _ us hl => match us, hl with | [_, _], _ => rfl) (fun cdv A outer s H E hr => qs_cons (qs_if (qt_w (qw_or (qt_not (qt_tru (qe_blt (cf_isiB (by decide) (ct_tuple T)) (T.free "isinstance" (by decide +kernel)) (qa_cons (qv 0) (qa_cons (qg_ty (T.free "tuple" (by decide +kernel)) (by decide +kernel)) qa_nil))))) (qw_or (qt_cmp (of_ne hr.units) (qe_blt cf_len (T.free "len" (by decide +kernel)) (qa_cons (qv 0) (qa_nil))) (qk_int)) (qw_or1 (qt_not (qt_tru (qe_call (w_are_whole T) (hr.mono (by decide)) (T.glo "are_whole" (by decide +kernel)) (kp_are_whole T) (qa_cons (qv 0) (qa_nil))))))))) (qs_cons (qs_ret (qk_bl)) (qs_nil)) (qs_nil)) (qs_cons (qs_ret (qe_chn3 (of_le) (of_le) (of_le) (qk_int) (qe_ix (qv 0) (qk_int)) (qe_ix (qv 0) (qk_int)) (qv 1))) (qs_nil)))
/-! Row.__getitem__ -/
abbrev N_RowD_getitemD : List Str := ["self", "at"]
theorem sc_RowD_getitemD : FnScope N_RowD_getitemD ["self", "at"] (defScope s_RowD_getitemD) := ⟨rfl, rfl, rfl, by decide +kernel, rfl, by decide +kernel, by decide +kernel⟩
noncomputable def F_RowD_getitemD : Fn := dfn 2 2 (sSeq (sIf (tru (cal F_is_part (aCons (v 1) (aCons (cal lenB (aCons (una (fldG ["Row"] "pits") (v 0)) (aNil))) (aNil))))) (sSeq (sRet (cmE "Row" F_Row_of (k (.cls "Row")) (aCons (sli (una (fldG ["Row"] "pits") (v 0)) (oSo (bin ixG (v 1) (k (.int 0)))) (oSo (bin ixG (v 1) (k (.int 1))))) (aNil)))) (sNil)) (sNil)) (sSeq (sIf (tNo (tru (cal F_is_between (aCons (v 1) (aCons (k (.int 0)) (aCons (bin (subG) (cal lenB (aCons (una (fldG ["Row"] "pits") (v 0)) (aNil))) (k (.int 1))) (aNil))))))) (sSeq (sNo) (sNil)) (sNil)) (sSeq (sRet (bin ixG (una (fldG ["Row"] "pits") (v 0)) (v 1))) (sNil))))
theorem w_RowD_getitemD (T : TX K mg) : FnF P w K mg base 6 (mO K "Row" "__getitem__") F_RowD_getitemD := by
  obtain ⟨fd, F⟩ := T.says.def_ 14
  exact okF (j := 5) (st := s_RowD_getitemD) F sc_RowD_getitemD rfl rfl (fun _ _ _ _ _ _ us hl => match us, hl with | [_, _], _ => rfl) (fun cdv A outer s H E hr => qs_cons (qs_if (qt_tru (qe_call (w_is_part T) (hr.mono (by decide)) (T.glo "is_part" (by decide +kernel)) (kp_is_part T) (qa_cons (qv 1) (qa_cons (qe_blt cf_len (T.free "len" (by decide +kernel)) (qa_cons (qe_fld (fl_pits T) (qv 0)) (qa_nil))) (qa_nil))))) (qs_cons (qs_ret (qe_cm (T.rd "Row" (by decide +kernel)) (T.cm "Row" "of" (by decide +kernel)) (w_Row_of T) (hr.mono (by decide)) (qg_cls (T.glo "Row" (by decide +kernel))) (qa_cons (qe_sli (qe_fld (fl_pits T) (qv 0)) (qo_some (qe_ix (qv 1) (qk_int))) (qo_some (qe_ix (qv 1) (qk_int)))) (qa_nil)))) (qs_nil)) (qs_nil)) (qs_cons (qs_if (qt_not (qt_tru (qe_call (w_is_between T) (hr.mono (by decide)) (T.glo "is_between" (by decide +kernel)) (kp_is_between T) (qa_cons (qv 1) (qa_cons (qk_int) (qa_cons (qe_bin (of_sub) (qe_blt cf_len (T.free "len" (by decide +kernel)) (qa_cons (qe_fld (fl_pits T) (qv 0)) (qa_nil))) (qk_int)) (qa_nil))))))) (qs_cons (qs_no) (qs_nil)) (qs_nil)) (qs_cons (qs_ret (qe_ix (qe_fld (fl_pits T) (qv 0)) (qv 1))) (qs_nil))))
/-! Row.__contains__ -/
abbrev N_RowD_containsD : List Str := ["self", "pit"]
theorem sc_RowD_containsD : FnScope N_RowD_containsD ["self", "pit"] (defScope s_RowD_containsD) := ⟨rfl, rfl, rfl, by decide +kernel, rfl, by decide +kernel, by decide +kernel⟩
noncomputable def F_RowD_containsD : Fn := dfn 2 2 (sSeq (sRet (anE (cal F_is_between (aCons (v 1) (aCons (k (.int 0)) (aCons (k (.int 5)) (aNil))))) (bin (inG false) (v 1) (una (fldG ["Row"] "pits") (v 0))))) (sNil))
theorem w_RowD_containsD (T : TX K mg) : FnF P w K mg base 3 (mO K "Row" "__contains__") F_RowD_containsD := by
  obtain ⟨fd, F⟩ := T.says.def_ 15
  exact okF (j := 2) (st := s_RowD_containsD) F sc_RowD_containsD rfl rfl (fun _ _ _ _ _ _ us hl => match us, hl with | [_, _], _ => rfl) (fun cdv A outer s H E hr => qs_cons (qs_ret (qe_and (qe_call (w_is_between T) (hr.mono (by decide)) (T.glo "is_between" (by decide +kernel)) (kp_is_between T) (qa_cons (qv 1) (qa_cons (qk_int) (qa_cons (qg_int (T.intc "LAST_PIT" 5 (by decide +kernel))) (qa_nil))))) (qe_one (qe_cmp (of_in (u65 hr)) (qv 1) (qe_fld (fl_pits T) (qv 0)))))) (qs_nil))
/-! Row.__eq__ -/
abbrev N_RowD_eqD : List Str := ["self", "other"]
theorem sc_RowD_eqD : FnScope N_RowD_eqD ["self", "other"] (defScope s_RowD_eqD) := ⟨rfl, rfl, rfl, by decide +kernel, rfl, by decide +kernel, by decide +kernel⟩
noncomputable def F_RowD_eqD : Fn := dfn 2 2 (sSeq (sRet (anE (cal (isiF (isiC [("Row", true)]) (isCl "Row")) (aCons (v 1) (aCons (k (.cls "Row")) aNil))) (bin (eqG false) (una (fldG ["Row"] "pits") (v 0)) (una (fldG ["Row"] "pits") (v 1))))) (sNil))
theorem w_RowD_eqD (T : TX K mg) : FnF P w K mg base 1 (mO K "Row" "__eq__") F_RowD_eqD := by
  obtain ⟨fd, F⟩ := T.says.def_ 16
  exact okF (j := 0) (st := s_RowD_eqD) F sc_RowD_eqD rfl rfl (fun _ _ _ _ _ _ us hl => match us, hl with | [_, _], _ => rfl) (fun cdv A outer s H E hr => qs_cons (qs_ret (qe_and (qe_blt (cc_Row T) (T.free "isinstance" (by decide +kernel)) (qa_cons (qv 1) (qa_cons (qg_cls (T.glo "Row" (by decide +kernel))) qa_nil))) (qe_one (qe_cmp (of_eq hr.units) (qe_fld (fl_pits T) (qv 0)) (qe_fld (fl_pits T) (qv 1)))))) (qs_nil))
/-! Row.__str__ -/
abbrev N_RowD_strD : List Str := ["self", "pit"]
theorem sc_RowD_strD : FnScope N_RowD_strD ["self"] (defScope s_RowD_strD) := ⟨rfl, rfl, rfl, by decide +kernel, rfl, by decide +kernel, by decide +kernel⟩
noncomputable def F_RowD_strD : Fn := dfn 1 2 (sSeq (sIf (tst (bin (eqG false) (cal lenB (aCons (una (fldG ["Row"] "pits") (v 0)) (aNil))) (k (.int 0)))) (sSeq (sRet (k (.str "none"))) (sNil)) (sNil)) (sSeq (sRet (mthS joinG (k (.str " ")) (lcE (.nm 1) (iSeq (una (fldG ["Row"] "pits") (v 0))) (tYs) (cal strB (aCons (v 1) (aNil)))))) (sNil)))
theorem w_RowD_strD (T : TX K mg) : FnF P w K mg base 1 (mO K "Row" "__str__") F_RowD_strD := by
  obtain ⟨fd, F⟩ := T.says.def_ 17
  exact okF (j := 0) (st := s_RowD_strD) F sc_RowD_strD rfl rfl (fun _ _ _ _ _ _ us hl => match us, hl with | [_], _ => rfl) (fun cdv A outer s H E hr => qs_cons (qs_if (qt_cmp (of_eq hr.units) (qe_blt cf_len (T.free "len" (by decide +kernel)) (qa_cons (qe_fld (fl_pits T) (qv 0)) (qa_nil))) (qk_int)) (qs_cons (qs_ret (qk_str)) (qs_nil)) (qs_nil)) (qs_cons (qs_ret (qe_join (qk_str) (qe_lc (own := [("pit", 1)]) (.nm 1) rfl rfl sc_RowD_strD.nd (qi_seq (qe_fld (fl_pits T) (qv 0))) (blkOk_by (N := N_RowD_strD) (sc := defScope s_RowD_strD) (by decide +kernel)) (fun _ _ _ _ _ => qg_name 1 sc_RowD_strD.nd) (fun _ _ _ _ _ => pts_yes) (fun _ _ _ _ _ => qe_typ cf_str (T.free "str" (by decide +kernel)) (qa_cons (qv 1) (qa_nil)))))) (qs_nil)))
/-! _law_text -/
abbrev N_law_text : List Str := ["_law_pits_here", "_law_pit"]
theorem sc_law_text : FnScope N_law_text ["_law_pits_here"] (defScope s_law_text) := ⟨rfl, rfl, rfl, by decide +kernel, rfl, by decide +kernel, by decide +kernel⟩
noncomputable def F_law_text : Fn := dfn 1 2 (sSeq (sRet (ifE (tst (bin (eqG true) (v 0) (lstE (aNil)))) (mthS joinG (k (.str " ")) (lcE (.nm 1) (iSeq (v 0)) (tYs) (cal strB (aCons (v 1) (aNil))))) (k (.str "none")))) (sNil))
theorem w_law_text (T : TX K mg) : FnFG P w K mg base 1 (He.ga K "_law_text") F_law_text := by
  obtain ⟨fd, F⟩ := T.says.def_ 18
  exact okFG (j := 0) (st := s_law_text) F sc_law_text rfl rfl (fun _ _ _ _ _ _ us hl => match us, hl with | [_], _ => rfl) (fun cdv A outer s H E hgd hr => qs_cons (qs_ret (qe_if (qt_cmp (of_ne hr.units) (qv 0) (qe_lst (qa_nil))) (qe_join (qk_str) (qe_lc (own := [("_law_pit", 1)]) (.nm 1) rfl rfl sc_law_text.nd (qi_seq (qv 0)) (blkOk_by (N := N_law_text) (sc := defScope s_law_text) (by decide +kernel)) (fun _ _ _ _ _ => qg_name 1 sc_law_text.nd) (fun _ _ _ _ _ => pts_yes) (fun _ _ _ _ _ => qe_typ cf_str (T.free "str" (by decide +kernel)) (qa_cons (qv 1) (qa_nil))))) (qk_str))) (qs_nil))
/-! _law_told_right -/
theorem ow_law_told_right_contains_7 {X : Cx} (T : TX X.K X.mg) : Owns X 3 "__contains__" [("Row", F_RowD_containsD)] := by
  intro c F h
  have h := memLk h
  simp only [List.mem_cons, List.not_mem_nil, or_false, Prod.mk.injEq] at h
  rcases h with ⟨rfl, rfl⟩
  · exact ⟨_, Own.of (T.meth "Row" "__contains__" (by decide +kernel)), (w_RowD_containsD T).mono (by decide)⟩
theorem cm_law_told_right_eq_8 {X : Cx} (T : TX X.K X.mg) : Cmps X 1 "__eq__" [("Row", F_RowD_eqD)] ["Row"] := by
  intro c F h
  have h := memLk h
  simp only [List.mem_cons, List.not_mem_nil, or_false, Prod.mk.injEq] at h
  rcases h with ⟨rfl, rfl⟩
  · refine ⟨fun t h6 ho => ?_, _, Own.of (T.meth "Row" "__eq__" (by decide +kernel)), (w_RowD_eqD T).mono (by decide)⟩
    match t, h6, ho with
    | .b n, h6, _ => exact nf_six T "Row" (by decide +kernel) n (h6 n rfl)
    | .c n, _, ho =>
      have ho := List.contains_iff_mem.mp ho
      simp only [List.mem_cons, List.not_mem_nil, or_false] at ho
      rcases ho with rfl
      · simp [PySem.W.notFirst, tyV']
theorem hn_law_told_right_9 {X : Cx} (T : TX X.K X.mg) : ∀ c F, List.lookup c ([("Row", F_RowD_eqD)] : List (String × Fn)) = some F → OwnNe X.K (gaS X.K c) := by
  intro c F h
  have h := memLk h
  simp only [List.mem_cons, List.not_mem_nil, or_false, Prod.mk.injEq] at h
  rcases h with ⟨rfl, rfl⟩
  · exact T.ne "Row" (by decide +kernel)
theorem ow_law_told_right_str_10 {X : Cx} (T : TX X.K X.mg) : Owns X 1 "__str__" [("Row", F_RowD_strD)] := by
  intro c F h
  have h := memLk h
  simp only [List.mem_cons, List.not_mem_nil, or_false, Prod.mk.injEq] at h
  rcases h with ⟨rfl, rfl⟩
  · exact ⟨_, Own.of (T.meth "Row" "__str__" (by decide +kernel)), (w_RowD_strD T).mono (by decide)⟩
theorem ow_law_told_right_len_11 {X : Cx} (T : TX X.K X.mg) : Owns X 1 "__len__" [("Row", F_RowD_lenD)] := by
  intro c F h
  have h := memLk h
  simp only [List.mem_cons, List.not_mem_nil, or_false, Prod.mk.injEq] at h
  rcases h with ⟨rfl, rfl⟩
  · exact ⟨_, Own.of (T.meth "Row" "__len__" (by decide +kernel)), (w_RowD_lenD T).mono (by decide)⟩
abbrev N_law_told_right : List Str := ["_law_made_here", "_law_pits_here", "_law_many", "_law_shown", "_law_k", "_law_things", "_law_due", "_law_pit", "_law_thing"]
theorem sc_law_told_right : FnScope N_law_told_right ["_law_made_here", "_law_pits_here"] (defScope s_law_told_right) := ⟨rfl, rfl, rfl, by decide +kernel, rfl, by decide +kernel, by decide +kernel⟩
noncomputable def F_law_told_right : Fn := dfn 2 9 (sSeq (sSet 2 (cal (lenO [("Row", F_RowD_lenD)] lenB) (aCons (v 1) (aNil)))) (sSeq (sSet 3 (lstE (aCons (una (fldG ["Row"] "pits") (v 0)) (aCons (cal (lenO [("Row", F_RowD_lenD)] lenB) (aCons (v 0) (aNil))) (aCons (cal (strO [("Row", F_RowD_strD)] strB) (aCons (v 0) (aNil))) (aNil)))))) (sSeq (sIf (tOr (tNo (tru (cal (isiF (isiC [("Row", true)]) (isCl "Row")) (aCons (v 0) (aCons (k (.cls "Row")) aNil))))) (tst (bin (neO [("Row", F_RowD_eqD)] ["Row"] (eqG true)) (cal (reprI reprB) (aCons (v 3) (aNil))) (cal (reprI reprB) (aCons (lstE (aCons (cal tupB (aCons (v 1) (aNil))) (aCons (v 2) (aCons (cal F_law_text (aCons (v 1) (aNil))) (aNil))))) (aNil)))))) (sSeq (sRet (k (.bl false))) (sNil)) (sNil)) (sSeq (sIf (tOr (tst (bin (neO [("Row", F_RowD_eqD)] ["Row"] (eqG true)) (lcE (.nm 4) (iR1 (aCons (v 2) (aNil))) (tYs) (bin (ixB "Row" F_RowD_getitemD) (v 0) (v 4))) (v 1))) (tst (bin (neO [("Row", F_RowD_eqD)] ["Row"] (eqG true)) (cmE "Row" F_Row_read (k (.cls "Row")) (aCons (cal F_law_text (aCons (v 1) (aNil))) (aNil))) (v 0)))) (sSeq (sRet (k (.bl false))) (sNil)) (sNil)) (sSeq (sSet 5 (lstE (aCons (k (.int 0)) (aCons (k (.int 1)) (aCons (k (.int 2)) (aCons (k (.int 3)) (aCons (k (.int 4)) (aCons (k (.int 5)) (aCons (k (.int 6)) (aCons (una negG (k (.int 1))) (aCons (k (.bl true)) (aCons (k (.bl false)) (aCons (k .non) (aCons (k (.str "0")) (aCons (tupE (aCons (k (.int 0)) (aNil))) (aCons (lstE (aCons (k (.int 1)) (aNil))) (aCons (dicE) (aNil)))))))))))))))))) (sSeq (sSet 6 (bin (addG) (lcE (.nm 7) (iR1 (aCons (k (.int 6)) (aNil))) (tYs) (bin (inO [("Row", F_RowD_containsD)] (inG false)) (v 7) (v 1))) (bin (mulG) (lstE (aCons (k (.bl false)) (aNil))) (k (.int 9))))) (sSeq (sRet (bin (eqG false) (cal (reprI reprB) (aCons (lcE (.nm 8) (iSeq (v 5)) (tYs) (bin (inO [("Row", F_RowD_containsD)] (inG false)) (v 8) (v 0))) (aNil))) (cal (reprI reprB) (aCons (v 6) (aNil))))) (sNil))))))))
theorem w_law_told_right (T : TX K mg) : FnFG P w K mg base 8 (He.ga K "_law_told_right") F_law_told_right := by
  obtain ⟨fd, F⟩ := T.says.def_ 19
  exact okFG (j := 7) (st := s_law_told_right) F sc_law_told_right rfl rfl (fun _ _ _ _ _ _ us hl => match us, hl with | [_, _], _ => rfl) (fun cdv A outer s H E hgd hr => qs_cons (qs_set 2 (qe_blt (cf_lenO (ow_law_told_right_len_11 T) (hr.mono (by decide)) cf_len) (T.free "len" (by decide +kernel)) (qa_cons (qv 1) (qa_nil))) sc_law_told_right.nd) (qs_cons (qs_set 3 (qe_lst (qa_cons (qe_fld (fl_pits T) (qv 0)) (qa_cons (qe_blt (cf_lenO (ow_law_told_right_len_11 T) (hr.mono (by decide)) cf_len) (T.free "len" (by decide +kernel)) (qa_cons (qv 0) (qa_nil))) (qa_cons (qe_typ (cf_strO (ow_law_told_right_str_10 T) (hr.mono (by decide)) cf_str) (T.free "str" (by decide +kernel)) (qa_cons (qv 0) (qa_nil))) (qa_nil))))) sc_law_told_right.nd) (qs_cons (qs_if (qt_w (qw_or (qt_not (qt_tru (qe_blt (cc_Row T) (T.free "isinstance" (by decide +kernel)) (qa_cons (qv 0) (qa_cons (qg_cls (T.glo "Row" (by decide +kernel))) qa_nil))))) (qw_or1 (qt_cmp (of_neO (hn_law_told_right_9 T) (cm_law_told_right_eq_8 T) (hr.mono (by decide)) (of_ne hr.units)) (qe_blt (cf_reprI (cf_repr hgd hr.units)) (T.free "repr" (by decide +kernel)) (qa_cons (qv 3) (qa_nil))) (qe_blt (cf_reprI (cf_repr hgd hr.units)) (T.free "repr" (by decide +kernel)) (qa_cons (qe_lst (qa_cons (qe_typ cf_tup (T.free "tuple" (by decide +kernel)) (qa_cons (qv 1) (qa_nil))) (qa_cons (qv 2) (qa_cons (qe_callG (w_law_text T) hgd (hr.mono (by decide)) (T.glo "_law_text" (by decide +kernel)) (kp_law_text T) (qa_cons (qv 1) (qa_nil))) (qa_nil))))) (qa_nil))))))) (qs_cons (qs_ret (qk_bl)) (qs_nil)) (qs_nil)) (qs_cons (qs_if (qt_w (qw_or (qt_cmp (of_neO (hn_law_told_right_9 T) (cm_law_told_right_eq_8 T) (hr.mono (by decide)) (of_ne hr.units)) (qe_lc (own := [("_law_k", 4)]) (.nm 4) rfl rfl sc_law_told_right.nd (qi_range1 (T.free "range" (by decide +kernel)) (qa_cons (qv 2) (qa_nil))) (blkOk_by (N := N_law_told_right) (sc := defScope s_law_told_right) (by decide +kernel)) (fun _ _ _ _ _ => qg_name 4 sc_law_told_right.nd) (fun _ _ _ _ _ => pts_yes) (fun _ _ _ _ _ => qe_ixB (Own.of (T.meth "Row" "__getitem__" (by decide +kernel))) (T.gi "Row" "__getitem__" (by decide +kernel)) (w_RowD_getitemD T) (hr.mono (by decide)) (qv 0) (qv 4))) (qv 1)) (qw_or1 (qt_cmp (of_neO (hn_law_told_right_9 T) (cm_law_told_right_eq_8 T) (hr.mono (by decide)) (of_ne hr.units)) (qe_cm (T.rd "Row" (by decide +kernel)) (T.cm "Row" "read" (by decide +kernel)) (w_Row_read T) (hr.mono (by decide)) (qg_cls (T.glo "Row" (by decide +kernel))) (qa_cons (qe_callG (w_law_text T) hgd (hr.mono (by decide)) (T.glo "_law_text" (by decide +kernel)) (kp_law_text T) (qa_cons (qv 1) (qa_nil))) (qa_nil))) (qv 0))))) (qs_cons (qs_ret (qk_bl)) (qs_nil)) (qs_nil)) (qs_cons (qs_set 5 (qe_lst (qa_cons (qk_int) (qa_cons (qk_int) (qa_cons (qk_int) (qa_cons (qk_int) (qa_cons (qk_int) (qa_cons (qk_int) (qa_cons (qk_int) (qa_cons (qe_un of_neg (qk_int)) (qa_cons (qk_bl) (qa_cons (qk_bl) (qa_cons (qk_non) (qa_cons (qk_str) (qa_cons (qe_tup (qa_cons (qk_int) (qa_nil))) (qa_cons (qe_lst (qa_cons (qk_int) (qa_nil))) (qa_cons (qe_dic0) (qa_nil))))))))))))))))) sc_law_told_right.nd) (qs_cons (qs_set 6 (qe_bin (of_add) (qe_lc (own := [("_law_pit", 7)]) (.nm 7) rfl rfl sc_law_told_right.nd (qi_range1 (T.free "range" (by decide +kernel)) (qa_cons (qk_int) (qa_nil))) (blkOk_by (N := N_law_told_right) (sc := defScope s_law_told_right) (by decide +kernel)) (fun _ _ _ _ _ => qg_name 7 sc_law_told_right.nd) (fun _ _ _ _ _ => pts_yes) (fun _ _ _ _ _ => qe_cmp (of_inO (ow_law_told_right_contains_7 T) (hr.mono (by decide)) (of_in (u65 hr))) (qv 7) (qv 1))) (qe_bin (of_mul) (qe_lst (qa_cons (qk_bl) (qa_nil))) (qk_int))) sc_law_told_right.nd) (qs_cons (qs_ret (qe_cmp (of_eq hr.units) (qe_blt (cf_reprI (cf_repr hgd hr.units)) (T.free "repr" (by decide +kernel)) (qa_cons (qe_lc (own := [("_law_thing", 8)]) (.nm 8) rfl rfl sc_law_told_right.nd (qi_seq (qv 5)) (blkOk_by (N := N_law_told_right) (sc := defScope s_law_told_right) (by decide +kernel)) (fun _ _ _ _ _ => qg_name 8 sc_law_told_right.nd) (fun _ _ _ _ _ => pts_yes) (fun _ _ _ _ _ => qe_cmp (of_inO (ow_law_told_right_contains_7 T) (hr.mono (by decide)) (of_in (u65 hr))) (qv 8) (qv 0))) (qa_nil))) (qe_blt (cf_reprI (cf_repr hgd hr.units)) (T.free "repr" (by decide +kernel)) (qa_cons (qv 6) (qa_nil))))) (qs_nil))))))))
/-! _law_parts_right -/
abbrev N_law_parts_right : List Str := ["_law_made_here", "_law_pits_here", "_law_first", "_law_last"]
theorem sc_law_parts_right : FnScope N_law_parts_right ["_law_made_here", "_law_pits_here"] (defScope s_law_parts_right) := ⟨rfl, rfl, rfl, by decide +kernel, rfl, by decide +kernel, by decide +kernel⟩
noncomputable def F_law_parts_right : Fn := dfn 2 4 (sSeq (sFor (.nm 2) (iR1 (aCons (bin (addG) (cal lenB (aCons (v 1) (aNil))) (k (.int 1))) (aNil))) (sSeq (sFor (.nm 3) (iR2 (aCons (v 2) (aCons (bin (addG) (cal lenB (aCons (v 1) (aNil))) (k (.int 1))) (aNil)))) (sSeq (sIf (tNo (tru (cal F_law_told_right (aCons (bin (ixB "Row" F_RowD_getitemD) (v 0) (tupE (aCons (v 2) (aCons (v 3) (aNil))))) (aCons (sli (v 1) (oSo (v 2)) (oSo (v 3))) (aNil)))))) (sSeq (sRet (k (.bl false))) (sNil)) (sNil)) (sNil))) (sNil))) (sSeq (sRet (k (.bl true))) (sNil)))
theorem w_law_parts_right (T : TX K mg) : FnFG P w K mg base 9 (He.ga K "_law_parts_right") F_law_parts_right := by
  obtain ⟨fd, F⟩ := T.says.def_ 20
  exact okFG (j := 8) (st := s_law_parts_right) F sc_law_parts_right rfl rfl (fun _ _ _ _ _ _ us hl => match us, hl with | [_, _], _ => rfl) (fun cdv A outer s H E hgd hr => qs_cons (qs_for (passes_of rfl) rfl (qi_range1 (T.free "range" (by decide +kernel)) (qa_cons (qe_bin (of_add) (qe_blt cf_len (T.free "len" (by decide +kernel)) (qa_cons (qv 1) (qa_nil))) (qk_int)) (qa_nil))) (qg_name 2 sc_law_parts_right.nd) (qs_cons (qs_for (passes_of rfl) rfl (qi_range2 (T.free "range" (by decide +kernel)) (qa_cons (qv 2) (qa_cons (qe_bin (of_add) (qe_blt cf_len (T.free "len" (by decide +kernel)) (qa_cons (qv 1) (qa_nil))) (qk_int)) (qa_nil)))) (qg_name 3 sc_law_parts_right.nd) (qs_cons (qs_if (qt_not (qt_tru (qe_callG (w_law_told_right T) hgd (hr.mono (by decide)) (T.glo "_law_told_right" (by decide +kernel)) (kp_law_told_right T) (qa_cons (qe_ixB (Own.of (T.meth "Row" "__getitem__" (by decide +kernel))) (T.gi "Row" "__getitem__" (by decide +kernel)) (w_RowD_getitemD T) (hr.mono (by decide)) (qv 0) (qe_tup (qa_cons (qv 2) (qa_cons (qv 3) (qa_nil))))) (qa_cons (qe_sli (qv 1) (qo_some (qv 2)) (qo_some (qv 3))) (qa_nil)))))) (qs_cons (qs_ret (qk_bl)) (qs_nil)) (qs_nil)) (qs_nil))) (qs_nil))) (qs_cons (qs_ret (qk_bl)) (qs_nil)))
/-! _law_made -/
abbrev N_law_made : List Str := ["_law_pits_here"]
theorem sc_law_made : FnScope N_law_made ["_law_pits_here"] (defScope s_law_made) := ⟨rfl, rfl, rfl, by decide +kernel, rfl, by decide +kernel, by decide +kernel⟩
noncomputable def F_law_made : Fn := dfn 1 1 (sSeq (sIf (tst (bin (eqG false) (cal lenB (aCons (v 0) (aNil))) (k (.int 1)))) (sSeq (sRet (cal (mkF "Row" F_RowD_initD) (aCons (bin ixG (v 0) (k (.int 0))) (aNil)))) (sNil)) (sNil)) (sSeq (sIf (tst (bin (eqG false) (cal lenB (aCons (v 0) (aNil))) (k (.int 2)))) (sSeq (sRet (cal (mkF "Row" F_RowD_initD) (aCons (bin ixG (v 0) (k (.int 0))) (aCons (bin ixG (v 0) (k (.int 1))) (aNil))))) (sNil)) (sNil)) (sSeq (sIf (tst (bin (eqG false) (cal lenB (aCons (v 0) (aNil))) (k (.int 6)))) (sSeq (sRet (cal (mkF "Row" F_RowD_initD) (aCons (bin ixG (v 0) (k (.int 0))) (aCons (bin ixG (v 0) (k (.int 1))) (aCons (bin ixG (v 0) (k (.int 2))) (aCons (bin ixG (v 0) (k (.int 3))) (aCons (bin ixG (v 0) (k (.int 4))) (aCons (bin ixG (v 0) (k (.int 5))) (aNil))))))))) (sNil)) (sNil)) (sSeq (sRet (ifE (tst (bin (eqG false) (v 0) (lstE (aNil)))) (cal (mkF "Row" F_RowD_initD) aNil) (cmE "Row" F_Row_of (k (.cls "Row")) (aCons (cal tupB (aCons (v 0) (aNil))) (aNil))))) (sNil)))))
theorem w_law_made (T : TX K mg) : FnFG P w K mg base 6 (He.ga K "_law_made") F_law_made := by
  obtain ⟨fd, F⟩ := T.says.def_ 21
  exact okFG (j := 5) (st := s_law_made) F sc_law_made rfl rfl (fun _ _ _ _ _ _ us hl => match us, hl with | [_], _ => rfl) (fun cdv A outer s H E hgd hr => qs_cons (qs_if (qt_cmp (of_eq hr.units) (qe_blt cf_len (T.free "len" (by decide +kernel)) (qa_cons (qv 0) (qa_nil))) (qk_int)) (qs_cons (qs_ret (qe_mk mk_frozen (T.mkr "Row" (by decide +kernel)) (w_RowD_initD T) (hr.mono (by decide)) (T.glo "Row" (by decide +kernel)) (qa_cons (qe_ix (qv 0) (qk_int)) (qa_nil)))) (qs_nil)) (qs_nil)) (qs_cons (qs_if (qt_cmp (of_eq hr.units) (qe_blt cf_len (T.free "len" (by decide +kernel)) (qa_cons (qv 0) (qa_nil))) (qk_int)) (qs_cons (qs_ret (qe_mk mk_frozen (T.mkr "Row" (by decide +kernel)) (w_RowD_initD T) (hr.mono (by decide)) (T.glo "Row" (by decide +kernel)) (qa_cons (qe_ix (qv 0) (qk_int)) (qa_cons (qe_ix (qv 0) (qk_int)) (qa_nil))))) (qs_nil)) (qs_nil)) (qs_cons (qs_if (qt_cmp (of_eq hr.units) (qe_blt cf_len (T.free "len" (by decide +kernel)) (qa_cons (qv 0) (qa_nil))) (qk_int)) (qs_cons (qs_ret (qe_mk mk_frozen (T.mkr "Row" (by decide +kernel)) (w_RowD_initD T) (hr.mono (by decide)) (T.glo "Row" (by decide +kernel)) (qa_cons (qe_ix (qv 0) (qk_int)) (qa_cons (qe_ix (qv 0) (qk_int)) (qa_cons (qe_ix (qv 0) (qk_int)) (qa_cons (qe_ix (qv 0) (qk_int)) (qa_cons (qe_ix (qv 0) (qk_int)) (qa_cons (qe_ix (qv 0) (qk_int)) (qa_nil))))))))) (qs_nil)) (qs_nil)) (qs_cons (qs_ret (qe_if (qt_cmp (of_eq hr.units) (qv 0) (qe_lst (qa_nil))) (qe_mk0 mk_frozen (T.mkr "Row" (by decide +kernel)) (w_RowD_initD T) (hr.mono (by decide)) (T.glo "Row" (by decide +kernel))) (qe_cm (T.rd "Row" (by decide +kernel)) (T.cm "Row" "of" (by decide +kernel)) (w_Row_of T) (hr.mono (by decide)) (qg_cls (T.glo "Row" (by decide +kernel))) (qa_cons (qe_typ cf_tup (T.free "tuple" (by decide +kernel)) (qa_cons (qv 0) (qa_nil))) (qa_nil))))) (qs_nil)))))
/-! _law_joined_right -/
theorem bi_RowDaddD {X : Cx} (T : TX X.K X.mg) : Bins X 5 .Add "Row" F_RowD_addD := ⟨T.sf "Row" (by decide +kernel), ⟨_, Own.of (T.meth "Row" "__add__" (by decide +kernel)), w_RowD_addD T⟩, ⟨none, T.nf "Row" "__radd__" (by decide +kernel), .inl rfl⟩, ⟨_, T.ty "int" "__add__" "int.__add__" (by decide +kernel)⟩, ⟨_, T.ty "int" "__radd__" "int.__radd__" (by decide +kernel)⟩, T.sb "int" "Row" (by decide +kernel)⟩
theorem ip_RowDaddD {X : Cx} (T : TX X.K X.mg) : Ips X 5 .Add "Row" F_RowD_addD := ⟨T.pl "Row" (by decide +kernel), T.nf "Row" "__iadd__" (by decide +kernel), T.on "__iadd__" (by decide +kernel), ⟨_, Own.of (T.meth "Row" "__add__" (by decide +kernel)), w_RowD_addD T⟩, ⟨none, T.nf "Row" "__radd__" (by decide +kernel), .inl rfl⟩, ⟨_, T.ty "int" "__radd__" "int.__radd__" (by decide +kernel)⟩, T.sb "int" "Row" (by decide +kernel), PySem.F.fills_int_add⟩
abbrev N_law_joined_right : List Str := ["_law_one", "_law_other", "_law_first", "_law_second", "_law_held"]
theorem sc_law_joined_right : FnScope N_law_joined_right ["_law_one", "_law_other"] (defScope s_law_joined_right) := ⟨rfl, rfl, rfl, by decide +kernel, rfl, by decide +kernel, by decide +kernel⟩
noncomputable def F_law_joined_right : Fn := dfn 2 5 (sSeq (sPar 2 3 (aCons (cal F_law_made (aCons (v 0) (aNil))) (aCons (cal F_law_made (aCons (v 1) (aNil))) (aNil)))) (sSeq (sIf (tst (bin (ltG) (bin (binO "Row" F_RowD_addD (addG)) (cal lenB (aCons (v 0) (aNil))) (cal lenB (aCons (v 1) (aNil)))) (k (.int 7)))) (sSeq (sSet 4 (v 2)) (sSeq (sAug 4 (ipO "Row" F_RowD_addD (addI)) (v 3)) (sSeq (sIf (tOr (tNo (tru (cal F_law_told_right (aCons (bin (binO "Row" F_RowD_addD (addG)) (v 2) (v 3)) (aCons (bin (binO "Row" F_RowD_addD (addG)) (v 0) (v 1)) (aNil)))))) (tNo (tru (cal F_law_told_right (aCons (v 4) (aCons (bin (binO "Row" F_RowD_addD (addG)) (v 0) (v 1)) (aNil))))))) (sSeq (sRet (k (.bl false))) (sNil)) (sNil)) (sNil)))) (sNil)) (sSeq (sIf (tOr (tst (bin (neO [("Row", F_RowD_eqD)] ["Row"] (eqG true)) (bin (cmpO [("Row", F_RowD_eqD)] ["Row"] (eqG false)) (v 2) (v 3)) (bin (cmpO [("Row", F_RowD_eqD)] ["Row"] (eqG false)) (v 0) (v 1)))) (tOr (tst (bin (cmpO [("Row", F_RowD_eqD)] ["Row"] (eqG false)) (v 2) (cal tupB (aCons (v 0) (aNil))))) (tOr (tst (bin (cmpO [("Row", F_RowD_eqD)] ["Row"] (eqG false)) (v 2) (cal (strO [("Row", F_RowD_strD)] strB) (aCons (v 2) (aNil))))) (tNo (tst (bin (neO [("Row", F_RowD_eqD)] ["Row"] (eqG true)) (v 2) (v 0))))))) (sSeq (sRet (k (.bl false))) (sNil)) (sNil)) (sSeq (sRet (anE (cal F_law_told_right (aCons (v 2) (aCons (v 0) (aNil)))) (cal F_law_told_right (aCons (v 3) (aCons (v 1) (aNil)))))) (sNil)))))
theorem w_law_joined_right (T : TX K mg) : FnFG P w K mg base 9 (He.ga K "_law_joined_right") F_law_joined_right := by
  obtain ⟨fd, F⟩ := T.says.def_ 22
  exact okFG (j := 8) (st := s_law_joined_right) F sc_law_joined_right rfl rfl (fun _ _ _ _ _ _ us hl => match us, hl with | [_, _], _ => rfl) (fun cdv A outer s H E hgd hr => qs_cons (qs_par 2 3 rfl (qa_cons (qe_callG (w_law_made T) hgd (hr.mono (by decide)) (T.glo "_law_made" (by decide +kernel)) (kp_law_made T) (qa_cons (qv 0) (qa_nil))) (qa_cons (qe_callG (w_law_made T) hgd (hr.mono (by decide)) (T.glo "_law_made" (by decide +kernel)) (kp_law_made T) (qa_cons (qv 1) (qa_nil))) (qa_nil))) sc_law_joined_right.nd) (qs_cons (qs_if (qt_cmp (of_lt) (qe_bin (of_binO (bi_RowDaddD T) (hr.mono (by decide)) (of_add)) (qe_blt cf_len (T.free "len" (by decide +kernel)) (qa_cons (qv 0) (qa_nil))) (qe_blt cf_len (T.free "len" (by decide +kernel)) (qa_cons (qv 1) (qa_nil)))) (qk_int)) (qs_cons (qs_set 4 (qv 2) sc_law_joined_right.nd) (qs_cons (qs_aug 4 (if_ipO (ip_RowDaddD T) (hr.mono (by decide)) (if_add)) (qv 3) sc_law_joined_right.nd) (qs_cons (qs_if (qt_w (qw_or (qt_not (qt_tru (qe_callG (w_law_told_right T) hgd (hr.mono (by decide)) (T.glo "_law_told_right" (by decide +kernel)) (kp_law_told_right T) (qa_cons (qe_bin (of_binO (bi_RowDaddD T) (hr.mono (by decide)) (of_add)) (qv 2) (qv 3)) (qa_cons (qe_bin (of_binO (bi_RowDaddD T) (hr.mono (by decide)) (of_add)) (qv 0) (qv 1)) (qa_nil)))))) (qw_or1 (qt_not (qt_tru (qe_callG (w_law_told_right T) hgd (hr.mono (by decide)) (T.glo "_law_told_right" (by decide +kernel)) (kp_law_told_right T) (qa_cons (qv 4) (qa_cons (qe_bin (of_binO (bi_RowDaddD T) (hr.mono (by decide)) (of_add)) (qv 0) (qv 1)) (qa_nil))))))))) (qs_cons (qs_ret (qk_bl)) (qs_nil)) (qs_nil)) (qs_nil)))) (qs_nil)) (qs_cons (qs_if (qt_w (qw_or (qt_cmp (of_neO (hn_law_told_right_9 T) (cm_law_told_right_eq_8 T) (hr.mono (by decide)) (of_ne hr.units)) (qe_cmp (of_cmpO (op := .Eq) rfl (cm_law_told_right_eq_8 T) (hr.mono (by decide)) (of_eq hr.units)) (qv 2) (qv 3)) (qe_cmp (of_cmpO (op := .Eq) rfl (cm_law_told_right_eq_8 T) (hr.mono (by decide)) (of_eq hr.units)) (qv 0) (qv 1))) (qw_or (qt_cmp (of_cmpO (op := .Eq) rfl (cm_law_told_right_eq_8 T) (hr.mono (by decide)) (of_eq hr.units)) (qv 2) (qe_typ cf_tup (T.free "tuple" (by decide +kernel)) (qa_cons (qv 0) (qa_nil)))) (qw_or (qt_cmp (of_cmpO (op := .Eq) rfl (cm_law_told_right_eq_8 T) (hr.mono (by decide)) (of_eq hr.units)) (qv 2) (qe_typ (cf_strO (ow_law_told_right_str_10 T) (hr.mono (by decide)) cf_str) (T.free "str" (by decide +kernel)) (qa_cons (qv 2) (qa_nil)))) (qw_or1 (qt_not (qt_cmp (of_neO (hn_law_told_right_9 T) (cm_law_told_right_eq_8 T) (hr.mono (by decide)) (of_ne hr.units)) (qv 2) (qv 0)))))))) (qs_cons (qs_ret (qk_bl)) (qs_nil)) (qs_nil)) (qs_cons (qs_ret (qe_and (qe_callG (w_law_told_right T) hgd (hr.mono (by decide)) (T.glo "_law_told_right" (by decide +kernel)) (kp_law_told_right T) (qa_cons (qv 2) (qa_cons (qv 0) (qa_nil)))) (qe_one (qe_callG (w_law_told_right T) hgd (hr.mono (by decide)) (T.glo "_law_told_right" (by decide +kernel)) (kp_law_told_right T) (qa_cons (qv 3) (qa_cons (qv 1) (qa_nil))))))) (qs_nil)))))
/-! Row.__mul__ -/
abbrev N_RowD_mulD : List Str := ["self", "k"]
theorem sc_RowD_mulD : FnScope N_RowD_mulD ["self", "k"] (defScope s_RowD_mulD) := ⟨rfl, rfl, rfl, by decide +kernel, rfl, by decide +kernel, by decide +kernel⟩
noncomputable def F_RowD_mulD : Fn := dfn 2 2 (sSeq (sIf (tOr (tNo (tru (cal F_is_whole (aCons (v 1) (aNil))))) (tst (bin (ltG) (v 1) (k (.int 0))))) (sSeq (sNo) (sNil)) (sNil)) (sSeq (sExp (cal F_need_short (aCons (bin (mulT) (cal lenB (aCons (una (fldG ["Row"] "pits") (v 0)) (aNil))) (v 1)) (aNil)))) (sSeq (sRet (cmE "Row" F_Row_of (k (.cls "Row")) (aCons (bin (mulT) (una (fldG ["Row"] "pits") (v 0)) (cal minB (aCons (cal intB (aCons (v 1) (aNil))) (aCons (k (.int 6)) (aNil))))) (aNil)))) (sNil))))
theorem w_RowD_mulD (T : TX K mg) : FnF P w K mg base 6 (mO K "Row" "__mul__") F_RowD_mulD := by
  obtain ⟨fd, F⟩ := T.says.def_ 23
  exact okF (j := 5) (st := s_RowD_mulD) F sc_RowD_mulD rfl rfl (fun _ _ _ _ _ _ us hl => match us, hl with | [_, _], _ => rfl) (fun cdv A outer s H E hr => qs_cons (qs_if (qt_w (qw_or (qt_not (qt_tru (qe_call (w_is_whole T) (hr.mono (by decide)) (T.glo "is_whole" (by decide +kernel)) (kp_is_whole T) (qa_cons (qv 1) (qa_nil))))) (qw_or1 (qt_cmp (of_lt) (qv 1) (qk_int))))) (qs_cons (qs_no) (qs_nil)) (qs_nil)) (qs_cons (qs_exp (qe_call (w_need_short T) (hr.mono (by decide)) (T.glo "need_short" (by decide +kernel)) (kp_need_short T) (qa_cons (qe_bin (of_mulT) (qe_blt cf_len (T.free "len" (by decide +kernel)) (qa_cons (qe_fld (fl_pits T) (qv 0)) (qa_nil))) (qv 1)) (qa_nil)))) (qs_cons (qs_ret (qe_cm (T.rd "Row" (by decide +kernel)) (T.cm "Row" "of" (by decide +kernel)) (w_Row_of T) (hr.mono (by decide)) (qg_cls (T.glo "Row" (by decide +kernel))) (qa_cons (qe_bin (of_mulT) (qe_fld (fl_pits T) (qv 0)) (qe_blt (cf_min rfl) (T.free "min" (by decide +kernel)) (qa_cons (qe_typ cf_int (T.free "int" (by decide +kernel)) (qa_cons (qv 1) (qa_nil))) (qa_cons (qg_int (T.intc "MOST_MOVES" 6 (by decide +kernel))) (qa_nil))))) (qa_nil)))) (qs_nil))))
/-! Row.__rmul__ -/
theorem bi_RowDmulD {X : Cx} (T : TX X.K X.mg) : Bins X 6 .Mult "Row" F_RowD_mulD := ⟨T.sf "Row" (by decide +kernel), ⟨_, Own.of (T.meth "Row" "__mul__" (by decide +kernel)), w_RowD_mulD T⟩, ⟨_, (T.meth "Row" "__rmul__" (by decide +kernel)).at_, .inr ⟨_, rfl⟩⟩, ⟨_, T.ty "int" "__mul__" "int.__mul__" (by decide +kernel)⟩, ⟨_, T.ty "int" "__rmul__" "int.__rmul__" (by decide +kernel)⟩, T.sb "int" "Row" (by decide +kernel)⟩
abbrev N_RowD_rmulD : List Str := ["self", "k"]
theorem sc_RowD_rmulD : FnScope N_RowD_rmulD ["self", "k"] (defScope s_RowD_rmulD) := ⟨rfl, rfl, rfl, by decide +kernel, rfl, by decide +kernel, by decide +kernel⟩
noncomputable def F_RowD_rmulD : Fn := dfn 2 2 (sSeq (sRet (bin (binO "Row" F_RowD_mulD (mulT)) (v 0) (v 1))) (sNil))
theorem w_RowD_rmulD (T : TX K mg) : FnF P w K mg base 7 (mO K "Row" "__rmul__") F_RowD_rmulD := by
  obtain ⟨fd, F⟩ := T.says.def_ 24
  exact okF (j := 6) (st := s_RowD_rmulD) F sc_RowD_rmulD rfl rfl (fun _ _ _ _ _ _ us hl => match us, hl with | [_, _], _ => rfl) (fun cdv A outer s H E hr => qs_cons (qs_ret (qe_bin (of_binO (bi_RowDmulD T) (hr.mono (by decide)) (of_mulT)) (qv 0) (qv 1))) (qs_nil))
/-! _law_times_right -/
theorem ip_RowDmulD {X : Cx} (T : TX X.K X.mg) : Ips X 6 .Mult "Row" F_RowD_mulD := ⟨T.pl "Row" (by decide +kernel), T.nf "Row" "__imul__" (by decide +kernel), T.on "__imul__" (by decide +kernel), ⟨_, Own.of (T.meth "Row" "__mul__" (by decide +kernel)), w_RowD_mulD T⟩, ⟨_, (T.meth "Row" "__rmul__" (by decide +kernel)).at_, .inr ⟨_, rfl⟩⟩, ⟨_, T.ty "int" "__rmul__" "int.__rmul__" (by decide +kernel)⟩, T.sb "int" "Row" (by decide +kernel), PySem.F.fills_int_mul⟩
abbrev N_law_times_right : List Str := ["_law_pits_here", "_law_k", "_law_first", "_law_held", "_law_due"]
theorem sc_law_times_right : FnScope N_law_times_right ["_law_pits_here", "_law_k"] (defScope s_law_times_right) := ⟨rfl, rfl, rfl, by decide +kernel, rfl, by decide +kernel, by decide +kernel⟩
noncomputable def F_law_times_right : Fn := dfn 2 5 (sSeq (sIf (tst (bin (gtG) (bin (rbinO "Row" F_RowD_rmulD (binO "Row" F_RowD_mulD (mulT))) (cal lenB (aCons (v 0) (aNil))) (v 1)) (k (.int 6)))) (sSeq (sRet (k (.bl true))) (sNil)) (sNil)) (sSeq (sSet 2 (cal F_law_made (aCons (v 0) (aNil)))) (sSeq (sPar 3 4 (aCons (v 2) (aCons (ifE (tst (bin (eqG true) (v 0) (lstE (aNil)))) (bin (rbinO "Row" F_RowD_rmulD (binO "Row" F_RowD_mulD (mulT))) (v 0) (v 1)) (lstE (aNil))) (aNil)))) (sSeq (sAug 3 (ipO "Row" F_RowD_mulD (noG2)) (v 1)) (sSeq (sIf (tOr (tNo (tru (cal F_law_told_right (aCons (bin (rbinO "Row" F_RowD_rmulD (binO "Row" F_RowD_mulD (mulT))) (v 2) (v 1)) (aCons (v 4) (aNil)))))) (tOr (tNo (tru (cal F_law_told_right (aCons (bin (rbinO "Row" F_RowD_rmulD (binO "Row" F_RowD_mulD (mulT))) (v 1) (v 2)) (aCons (v 4) (aNil)))))) (tNo (tru (cal F_law_told_right (aCons (v 3) (aCons (v 4) (aNil)))))))) (sSeq (sRet (k (.bl false))) (sNil)) (sNil)) (sSeq (sRet (cal F_law_told_right (aCons (v 2) (aCons (v 0) (aNil))))) (sNil)))))))
theorem w_law_times_right (T : TX K mg) : FnFG P w K mg base 9 (He.ga K "_law_times_right") F_law_times_right := by
  obtain ⟨fd, F⟩ := T.says.def_ 25
  exact okFG (j := 8) (st := s_law_times_right) F sc_law_times_right rfl rfl (fun _ _ _ _ _ _ us hl => match us, hl with | [_, _], _ => rfl) (fun cdv A outer s H E hgd hr => qs_cons (qs_if (qt_cmp (of_gt) (qe_bin (of_rmulO (T.pl "Row" (by decide +kernel)) (Own.of (T.meth "Row" "__mul__" (by decide +kernel))) (Own.of (T.meth "Row" "__rmul__" (by decide +kernel))) (T.sc "Row" "int" (by decide +kernel)) (w_RowD_rmulD T) (hr.mono (by decide)) (of_binO (bi_RowDmulD T) (hr.mono (by decide)) (of_mulT))) (qe_blt cf_len (T.free "len" (by decide +kernel)) (qa_cons (qv 0) (qa_nil))) (qv 1)) (qk_int)) (qs_cons (qs_ret (qk_bl)) (qs_nil)) (qs_nil)) (qs_cons (qs_set 2 (qe_callG (w_law_made T) hgd (hr.mono (by decide)) (T.glo "_law_made" (by decide +kernel)) (kp_law_made T) (qa_cons (qv 0) (qa_nil))) sc_law_times_right.nd) (qs_cons (qs_par 3 4 rfl (qa_cons (qv 2) (qa_cons (qe_if (qt_cmp (of_ne hr.units) (qv 0) (qe_lst (qa_nil))) (qe_bin (of_rmulO (T.pl "Row" (by decide +kernel)) (Own.of (T.meth "Row" "__mul__" (by decide +kernel))) (Own.of (T.meth "Row" "__rmul__" (by decide +kernel))) (T.sc "Row" "int" (by decide +kernel)) (w_RowD_rmulD T) (hr.mono (by decide)) (of_binO (bi_RowDmulD T) (hr.mono (by decide)) (of_mulT))) (qv 0) (qv 1)) (qe_lst (qa_nil))) (qa_nil))) sc_law_times_right.nd) (qs_cons (qs_aug 3 (if_ipO (ip_RowDmulD T) (hr.mono (by decide)) (if_no)) (qv 1) sc_law_times_right.nd) (qs_cons (qs_if (qt_w (qw_or (qt_not (qt_tru (qe_callG (w_law_told_right T) hgd (hr.mono (by decide)) (T.glo "_law_told_right" (by decide +kernel)) (kp_law_told_right T) (qa_cons (qe_bin (of_rmulO (T.pl "Row" (by decide +kernel)) (Own.of (T.meth "Row" "__mul__" (by decide +kernel))) (Own.of (T.meth "Row" "__rmul__" (by decide +kernel))) (T.sc "Row" "int" (by decide +kernel)) (w_RowD_rmulD T) (hr.mono (by decide)) (of_binO (bi_RowDmulD T) (hr.mono (by decide)) (of_mulT))) (qv 2) (qv 1)) (qa_cons (qv 4) (qa_nil)))))) (qw_or (qt_not (qt_tru (qe_callG (w_law_told_right T) hgd (hr.mono (by decide)) (T.glo "_law_told_right" (by decide +kernel)) (kp_law_told_right T) (qa_cons (qe_bin (of_rmulO (T.pl "Row" (by decide +kernel)) (Own.of (T.meth "Row" "__mul__" (by decide +kernel))) (Own.of (T.meth "Row" "__rmul__" (by decide +kernel))) (T.sc "Row" "int" (by decide +kernel)) (w_RowD_rmulD T) (hr.mono (by decide)) (of_binO (bi_RowDmulD T) (hr.mono (by decide)) (of_mulT))) (qv 1) (qv 2)) (qa_cons (qv 4) (qa_nil)))))) (qw_or1 (qt_not (qt_tru (qe_callG (w_law_told_right T) hgd (hr.mono (by decide)) (T.glo "_law_told_right" (by decide +kernel)) (kp_law_told_right T) (qa_cons (qv 3) (qa_cons (qv 4) (qa_nil)))))))))) (qs_cons (qs_ret (qk_bl)) (qs_nil)) (qs_nil)) (qs_cons (qs_ret (qe_callG (w_law_told_right T) hgd (hr.mono (by decide)) (T.glo "_law_told_right" (by decide +kernel)) (kp_law_told_right T) (qa_cons (qv 2) (qa_cons (qv 0) (qa_nil))))) (qs_nil)))))))
/-! Row.turned -/
abbrev N_Row_turned : List Str := ["self", "k", "size", "pit"]
theorem sc_Row_turned : FnScope N_Row_turned ["self", "k", "size"] (defScope s_Row_turned) := ⟨rfl, rfl, rfl, by decide +kernel, rfl, by decide +kernel, by decide +kernel⟩
noncomputable def F_Row_turned : Fn := dfn 3 4 (sSeq (sRet (cmE "Row" F_Row_of (k (.cls "Row")) (aCons (lcE (.nm 3) (iSeq (una (fldG ["Row"] "pits") (v 0))) (tYs) (bin (modG) (bin (addG) (v 3) (v 1)) (v 2))) (aNil)))) (sNil))
theorem w_Row_turned (T : TX K mg) : FnF P w K mg base 6 (mO K "Row" "turned") F_Row_turned := by
  obtain ⟨fd, F⟩ := T.says.def_ 26
  exact okF (j := 5) (st := s_Row_turned) F sc_Row_turned rfl rfl (fun _ _ _ _ _ _ us hl => match us, hl with | [_, _, _], _ => rfl) (fun cdv A outer s H E hr => qs_cons (qs_ret (qe_cm (T.rd "Row" (by decide +kernel)) (T.cm "Row" "of" (by decide +kernel)) (w_Row_of T) (hr.mono (by decide)) (qg_cls (T.glo "Row" (by decide +kernel))) (qa_cons (qe_lc (own := [("pit", 3)]) (.nm 3) rfl rfl sc_Row_turned.nd (qi_seq (qe_fld (fl_pits T) (qv 0))) (blkOk_by (N := N_Row_turned) (sc := defScope s_Row_turned) (by decide +kernel)) (fun _ _ _ _ _ => qg_name 3 sc_Row_turned.nd) (fun _ _ _ _ _ => pts_yes) (fun _ _ _ _ _ => qe_bin (of_mod) (qe_bin (of_add) (qv 3) (qv 1)) (qv 2))) (qa_nil)))) (qs_nil))
/-! _law_pick -/
abbrev N_law_pick : List Str := ["_law_pen_here", "_law_some"]
theorem sc_law_pick : FnScope N_law_pick ["_law_pen_here", "_law_some"] (defScope s_law_pick) := ⟨rfl, rfl, rfl, by decide +kernel, rfl, by decide +kernel, by decide +kernel⟩
noncomputable def F_law_pick : Fn := dfn 2 2 (sSeq (sRet (bin ixG (v 1) (cal F_law_draw (aCons (v 0) (aCons (cal lenB (aCons (v 1) (aNil))) (aNil)))))) (sNil))
theorem w_law_pick (T : TX K mg) : FnFG P w K mg base 2 (He.ga K "_law_pick") F_law_pick := by
  obtain ⟨fd, F⟩ := T.says.def_ 27
  exact okFG (j := 1) (st := s_law_pick) F sc_law_pick rfl rfl (fun _ _ _ _ _ _ us hl => match us, hl with | [_, _], _ => rfl) (fun cdv A outer s H E hgd hr => qs_cons (qs_ret (qe_ix (qv 1) (qe_callG (w_law_draw T) hgd (hr.mono (by decide)) (T.glo "_law_draw" (by decide +kernel)) (kp_law_draw T) (qa_cons (qv 0) (qa_cons (qe_blt cf_len (T.free "len" (by decide +kernel)) (qa_cons (qv 1) (qa_nil))) (qa_nil)))))) (qs_nil))
/-! _law_turned_right -/
theorem mt_law_turned_right_turned_16 {X : Cx} (T : TX X.K X.mg) : Mths X 6 "turned" [("Row", F_Row_turned)] := by
  intro c F h
  have h := memLk h
  simp only [List.mem_cons, List.not_mem_nil, or_false, Prod.mk.injEq] at h
  rcases h with ⟨rfl, rfl⟩
  · exact ⟨T.cl "Row" (by decide +kernel), _, T.meth "Row" "turned" (by decide +kernel), (w_Row_turned T).mono (by decide)⟩
abbrev N_law_turned_right : List Str := ["_law_pen_here", "_law_pits_here", "_law_least", "_law_pit", "_law_size", "_law_k", "_law_first"]
theorem sc_law_turned_right : FnScope N_law_turned_right ["_law_pen_here", "_law_pits_here"] (defScope s_law_turned_right) := ⟨rfl, rfl, rfl, by decide +kernel, rfl, by decide +kernel, by decide +kernel⟩
noncomputable def F_law_turned_right : Fn := dfn 2 7 (sSeq (sSet 2 (cal maxL (aCons (lcE (.nm 3) (iSeq (bin (addG) (v 1) (lstE (aCons (k (.int 1)) (aNil))))) (tYs) (cal intB (aCons (bin (addG) (v 3) (k (.int 1))) (aNil)))) (aNil)))) (sSeq (sAsg (.tp [4, 5]) (tupE (aCons (bin (addG) (v 2) (cal F_law_draw (aCons (v 0) (aCons (bin (subG) (k (.int 7)) (v 2)) (aNil))))) (aCons (cal F_law_pick (aCons (v 0) (aCons (lstE (aCons (k (.int 0)) (aCons (k (.int 1)) (aCons (una negG (k (.int 1))) (aCons (k (.int 5)) (aCons (k (.int 6)) (aCons (una negG (k (.int 7))) (aCons (bin (powG) (k (.int 10)) (k (.int 30))) (aCons (cal F_law_draw (aCons (v 0) (aCons (k (.int 100)) (aNil)))) (aNil)))))))))) (aNil)))) (aNil))))) (sSeq (sSet 6 (cal F_law_made (aCons (v 1) (aNil)))) (sSeq (sRet (cal F_law_told_right (aCons (mtO [("Row", F_Row_turned)] "turned" (v 6) (aCons (v 5) (aCons (v 4) (aNil)))) (aCons (lcE (.nm 3) (iSeq (v 1)) (tYs) (bin (modG) (cal intB (aCons (bin (addG) (v 3) (v 5)) (aNil))) (v 4))) (aNil))))) (sNil)))))
theorem w_law_turned_right (T : TX K mg) : FnFG P w K mg base 9 (He.ga K "_law_turned_right") F_law_turned_right := by
  obtain ⟨fd, F⟩ := T.says.def_ 28
  exact okFG (j := 8) (st := s_law_turned_right) F sc_law_turned_right rfl rfl (fun _ _ _ _ _ _ us hl => match us, hl with | [_, _], _ => rfl) (fun cdv A outer s H E hgd hr => qs_cons (qs_set 2 (qe_blt (cf_maxL rfl) (T.free "max" (by decide +kernel)) (qa_cons (qe_lc (own := [("_law_pit", 3)]) (.nm 3) rfl rfl sc_law_turned_right.nd (qi_seq (qe_bin (of_add) (qv 1) (qe_lst (qa_cons (qk_int) (qa_nil))))) (blkOk_by (N := N_law_turned_right) (sc := defScope s_law_turned_right) (by decide +kernel)) (fun _ _ _ _ _ => qg_name 3 sc_law_turned_right.nd) (fun _ _ _ _ _ => pts_yes) (fun _ _ _ _ _ => qe_typ cf_int (T.free "int" (by decide +kernel)) (qa_cons (qe_bin (of_add) (qv 3) (qk_int)) (qa_nil)))) (qa_nil))) sc_law_turned_right.nd) (qs_cons (qs_asg (qe_tup (qa_cons (qe_bin (of_add) (qv 2) (qe_callG (w_law_draw T) hgd (hr.mono (by decide)) (T.glo "_law_draw" (by decide +kernel)) (kp_law_draw T) (qa_cons (qv 0) (qa_cons (qe_bin (of_sub) (qk_int) (qv 2)) (qa_nil))))) (qa_cons (qe_callG (w_law_pick T) hgd (hr.mono (by decide)) (T.glo "_law_pick" (by decide +kernel)) (kp_law_pick T) (qa_cons (qv 0) (qa_cons (qe_lst (qa_cons (qk_int) (qa_cons (qk_int) (qa_cons (qe_un of_neg (qk_int)) (qa_cons (qk_int) (qa_cons (qk_int) (qa_cons (qe_un of_neg (qk_int)) (qa_cons (qe_bin (of_pow) (qk_int) (qk_int)) (qa_cons (qe_callG (w_law_draw T) hgd (hr.mono (by decide)) (T.glo "_law_draw" (by decide +kernel)) (kp_law_draw T) (qa_cons (qv 0) (qa_cons (qk_int) (qa_nil)))) (qa_nil)))))))))) (qa_nil)))) (qa_nil)))) (qg_tup rfl (qgs_cons 4 (qgs_cons 5 (qgs_nil) sc_law_turned_right.nd) sc_law_turned_right.nd) rfl)) (qs_cons (qs_set 6 (qe_callG (w_law_made T) hgd (hr.mono (by decide)) (T.glo "_law_made" (by decide +kernel)) (kp_law_made T) (qa_cons (qv 1) (qa_nil))) sc_law_turned_right.nd) (qs_cons (qs_ret (qe_callG (w_law_told_right T) hgd (hr.mono (by decide)) (T.glo "_law_told_right" (by decide +kernel)) (kp_law_told_right T) (qa_cons (qe_mt (mt_law_turned_right_turned_16 T) (hr.mono (by decide)) (qv 6) (qa_cons (qv 5) (qa_cons (qv 4) (qa_nil)))) (qa_cons (qe_lc (own := [("_law_pit", 3)]) (.nm 3) rfl rfl sc_law_turned_right.nd (qi_seq (qv 1)) (blkOk_by (N := N_law_turned_right) (sc := defScope s_law_turned_right) (by decide +kernel)) (fun _ _ _ _ _ => qg_name 3 sc_law_turned_right.nd) (fun _ _ _ _ _ => pts_yes) (fun _ _ _ _ _ => qe_bin (of_mod) (qe_typ cf_int (T.free "int" (by decide +kernel)) (qa_cons (qe_bin (of_add) (qv 3) (qv 5)) (qa_nil))) (qv 4))) (qa_nil))))) (qs_nil)))))
/-! law -/
theorem ow_law_neg_17 {X : Cx} (T : TX X.K X.mg) : Owns X 6 "__neg__" [("Row", F_RowD_negD)] := by
  intro c F h
  have h := memLk h
  simp only [List.mem_cons, List.not_mem_nil, or_false, Prod.mk.injEq] at h
  rcases h with ⟨rfl, rfl⟩
  · exact ⟨_, Own.of (T.meth "Row" "__neg__" (by decide +kernel)), (w_RowD_negD T).mono (by decide)⟩
abbrev N_law : List Str := ["_law_script", "_law_pen_here", "_law_turn", "_law_one", "_law_other", "_law_lent", "_law_pit", "_law_first", "_law_k"]
theorem sc_law : FnScope N_law ["_law_script"] (defScope s_law) := ⟨rfl, rfl, rfl, by decide +kernel, rfl, by decide +kernel, by decide +kernel⟩
noncomputable def F_law : Fn := dfn 1 9 (sSeq (sSet 1 (cal F_law_pen (aCons (v 0) (aNil)))) (sSeq (sFor (.nm 2) (iR1 (aCons (k (.int 6)) (aNil))) (sSeq (sAsg (.tp [3, 4]) (tupE (aCons (cal F_law_pits (aCons (v 1) (aCons (k (.int 6)) (aNil)))) (aCons (cal F_law_pits (aCons (v 1) (aCons (k (.int 4)) (aNil)))) (aNil))))) (sSeq (sPar 5 6 (aCons (cal listM (aCons (v 3) (aNil))) (aCons (cal F_law_draw (aCons (v 1) (aCons (k (.int 6)) (aNil)))) (aNil)))) (sSeq (sSet 7 (cmE "Row" F_Row_of (k (.cls "Row")) (aCons (v 5) (aNil)))) (sSeq (sExp (mthL appG (v 5) (aCons (k (.int 3)) (aNil)))) (sSeq (sIf (tOr (tNo (tru (cal F_law_told_right (aCons (v 7) (aCons (v 3) (aNil)))))) (tOr (tNo (tru (cal F_law_parts_right (aCons (v 7) (aCons (v 3) (aNil)))))) (tNo (tru (cal F_law_joined_right (aCons (v 3) (aCons (v 4) (aNil)))))))) (sSeq (sRet (k (.bl false))) (sNil)) (sNil)) (sSeq (sIf (tAn (tst (bin (ltG) (cal lenB (aCons (v 3) (aNil))) (k (.int 6)))) (tNo (tru (cal F_law_told_right (aCons (bin (binO "Row" F_RowD_addD (addG)) (v 7) (v 6)) (aCons (bin (binO "Row" F_RowD_addD (addG)) (v 3) (lstE (aCons (v 6) (aNil)))) (aNil))))))) (sSeq (sRet (k (.bl false))) (sNil)) (sNil)) (sSeq (sIf (tOr (tNo (tru (cal F_law_told_right (aCons (una (unO [("Row", F_RowD_negD)] negG) (v 7)) (aCons (una revG (v 3)) (aNil)))))) (tNo (tru (cal F_law_turned_right (aCons (v 1) (aCons (v 3) (aNil))))))) (sSeq (sRet (k (.bl false))) (sNil)) (sNil)) (sSeq (sIf (tst (bin (eqG true) (lcE (.nm 8) (iSeq (lstE (aCons (k (.int 0)) (aCons (k (.int 1)) (aCons (k (.int 2)) (aCons (k (.int 3)) (aCons (k (.int 6)) (aNil)))))))) (tNo (tru (cal F_law_times_right (aCons (v 3) (aCons (v 8) (aNil)))))) (v 8)) (lstE (aNil)))) (sSeq (sRet (k (.bl false))) (sNil)) (sNil)) (sNil)))))))))) (sSeq (sRet (anE (cal F_law_times_right (aCons (lstE (aNil)) (aCons (bin (powG) (k (.int 10)) (k (.int 30))) (aNil)))) (bin (eqG false) (cal (reprI reprB) (aCons (ccE "Row" (.int 6) (k (.cls "Row"))) (aNil))) (k (.str "6"))))) (sNil))))
theorem w_law (T : TX K mg) : FnFG P w K mg base 10 (He.ga K "law") F_law := by
  obtain ⟨fd, F⟩ := T.says.def_ 29
  exact okFG (j := 9) (st := s_law) F sc_law rfl rfl (fun _ _ _ _ _ _ us hl => match us, hl with | [_], _ => rfl) (fun cdv A outer s H E hgd hr => qs_cons (qs_set 1 (qe_callG (w_law_pen T) hgd (hr.mono (by decide)) (T.glo "_law_pen" (by decide +kernel)) (kp_law_pen T) (qa_cons (qv 0) (qa_nil))) sc_law.nd) (qs_cons (qs_for (passes_of rfl) rfl (qi_range1 (T.free "range" (by decide +kernel)) (qa_cons (qk_int) (qa_nil))) (qg_name 2 sc_law.nd) (qs_cons (qs_asg (qe_tup (qa_cons (qe_callG (w_law_pits T) hgd (hr.mono (by decide)) (T.glo "_law_pits" (by decide +kernel)) (kp_law_pits T) (qa_cons (qv 1) (qa_cons (qk_int) (qa_nil)))) (qa_cons (qe_callG (w_law_pits T) hgd (hr.mono (by decide)) (T.glo "_law_pits" (by decide +kernel)) (kp_law_pits T) (qa_cons (qv 1) (qa_cons (qk_int) (qa_nil)))) (qa_nil)))) (qg_tup rfl (qgs_cons 3 (qgs_cons 4 (qgs_nil) sc_law.nd) sc_law.nd) rfl)) (qs_cons (qs_par 5 6 rfl (qa_cons (qe_typ cf_listM (T.free "list" (by decide +kernel)) (qa_cons (qv 3) (qa_nil))) (qa_cons (qe_callG (w_law_draw T) hgd (hr.mono (by decide)) (T.glo "_law_draw" (by decide +kernel)) (kp_law_draw T) (qa_cons (qv 1) (qa_cons (qk_int) (qa_nil)))) (qa_nil))) sc_law.nd) (qs_cons (qs_set 7 (qe_cm (T.rd "Row" (by decide +kernel)) (T.cm "Row" "of" (by decide +kernel)) (w_Row_of T) (hr.mono (by decide)) (qg_cls (T.glo "Row" (by decide +kernel))) (qa_cons (qv 5) (qa_nil))) sc_law.nd) (qs_cons (qs_exp (qe_mthL PySem.F.slot_list_append PySem.F.type_list_append mf_append (qv 5) (qa_cons (qk_int) (qa_nil)))) (qs_cons (qs_if (qt_w (qw_or (qt_not (qt_tru (qe_callG (w_law_told_right T) hgd (hr.mono (by decide)) (T.glo "_law_told_right" (by decide +kernel)) (kp_law_told_right T) (qa_cons (qv 7) (qa_cons (qv 3) (qa_nil)))))) (qw_or (qt_not (qt_tru (qe_callG (w_law_parts_right T) hgd (hr.mono (by decide)) (T.glo "_law_parts_right" (by decide +kernel)) (kp_law_parts_right T) (qa_cons (qv 7) (qa_cons (qv 3) (qa_nil)))))) (qw_or1 (qt_not (qt_tru (qe_callG (w_law_joined_right T) hgd (hr.mono (by decide)) (T.glo "_law_joined_right" (by decide +kernel)) (kp_law_joined_right T) (qa_cons (qv 3) (qa_cons (qv 4) (qa_nil)))))))))) (qs_cons (qs_ret (qk_bl)) (qs_nil)) (qs_nil)) (qs_cons (qs_if (qt_w (qw_and (qt_cmp (of_lt) (qe_blt cf_len (T.free "len" (by decide +kernel)) (qa_cons (qv 3) (qa_nil))) (qk_int)) (qw_and1 (qt_not (qt_tru (qe_callG (w_law_told_right T) hgd (hr.mono (by decide)) (T.glo "_law_told_right" (by decide +kernel)) (kp_law_told_right T) (qa_cons (qe_bin (of_binO (bi_RowDaddD T) (hr.mono (by decide)) (of_add)) (qv 7) (qv 6)) (qa_cons (qe_bin (of_binO (bi_RowDaddD T) (hr.mono (by decide)) (of_add)) (qv 3) (qe_lst (qa_cons (qv 6) (qa_nil)))) (qa_nil))))))))) (qs_cons (qs_ret (qk_bl)) (qs_nil)) (qs_nil)) (qs_cons (qs_if (qt_w (qw_or (qt_not (qt_tru (qe_callG (w_law_told_right T) hgd (hr.mono (by decide)) (T.glo "_law_told_right" (by decide +kernel)) (kp_law_told_right T) (qa_cons (qe_un (of_negO (ow_law_neg_17 T) (hr.mono (by decide)) of_neg) (qv 7)) (qa_cons (qe_rev (qv 3)) (qa_nil)))))) (qw_or1 (qt_not (qt_tru (qe_callG (w_law_turned_right T) hgd (hr.mono (by decide)) (T.glo "_law_turned_right" (by decide +kernel)) (kp_law_turned_right T) (qa_cons (qv 1) (qa_cons (qv 3) (qa_nil))))))))) (qs_cons (qs_ret (qk_bl)) (qs_nil)) (qs_nil)) (qs_cons (qs_if (qt_cmp (of_ne hr.units) (qe_lc (own := [("_law_k", 8)]) (.nm 8) rfl rfl sc_law.nd (qi_seq (qe_lst (qa_cons (qk_int) (qa_cons (qk_int) (qa_cons (qk_int) (qa_cons (qk_int) (qa_cons (qk_int) (qa_nil)))))))) (blkOk_by (N := N_law) (sc := defScope s_law) (by decide +kernel)) (fun _ _ _ _ _ => qg_name 8 sc_law.nd) (fun _ _ _ _ _ => qts_one (qt_not (qt_tru (qe_callG (w_law_times_right T) hgd (hr.mono (by decide)) (T.glo "_law_times_right" (by decide +kernel)) (kp_law_times_right T) (qa_cons (qv 3) (qa_cons (qv 8) (qa_nil))))))) (fun _ _ _ _ _ => qv 8)) (qe_lst (qa_nil))) (qs_cons (qs_ret (qk_bl)) (qs_nil)) (qs_nil)) (qs_nil)))))))))) (qs_cons (qs_ret (qe_and (qe_callG (w_law_times_right T) hgd (hr.mono (by decide)) (T.glo "_law_times_right" (by decide +kernel)) (kp_law_times_right T) (qa_cons (qe_lst (qa_nil)) (qa_cons (qe_bin (of_pow) (qk_int) (qk_int)) (qa_nil)))) (qe_one (qe_cmp (of_eq hr.units) (qe_blt (cf_reprI (cf_repr hgd hr.units)) (T.free "repr" (by decide +kernel)) (qa_cons (qe_cc (T.rd "Row" (by decide +kernel)) (T.cc "Row" "MOST" 6 (by decide +kernel)).choose_spec (fun _ => .int 6) (qg_cls (T.glo "Row" (by decide +kernel)))) (qa_nil))) (qk_str))))) (qs_nil))))
end
end K20
set_option Elab.async false
set_option linter.all false
set_option maxRecDepth 100000
set_option maxHeartbeats 4000000
namespace K20
open PySem PV
/-! ### what is an int -/
theorem e_whole_int (i : Int) (S : Sto) : F_is_whole [.int i] S = .ok (.bl true) S := run_ok rfl rfl rfl
theorem e_whole_bl (b : Bool) (S : Sto) : F_is_whole [.bl b] S = .ok (.bl false) S := run_ok rfl rfl rfl
theorem e_whole_non (S : Sto) : F_is_whole [.non] S = .ok (.bl false) S := run_ok rfl rfl rfl
theorem e_whole_str (b : Str) (S : Sto) : F_is_whole [.str b] S = .ok (.bl false) S := run_ok rfl rfl rfl
theorem e_whole_tup (b : List D) (S : Sto) : F_is_whole [.tup b] S = .ok (.bl false) S := run_ok rfl rfl rfl
theorem e_whole_lst (b : List D) (S : Sto) : F_is_whole [.lst b] S = .ok (.bl false) S := run_ok rfl rfl rfl
theorem e_whole_dic (S : Sto) : F_is_whole [.dic0] S = .ok (.bl false) S := run_ok rfl rfl rfl
theorem e_btw (i lo hi : Int) (S : Sto) : F_is_between [.int i, .int lo, .int hi] S = .ok (.bl (decide (lo ≤ i) && decide (i ≤ hi))) S := by
  refine run_ok rfl rfl ?_
  simp [sSeq, sIf, sNil, sRet, sRetN, sExp, sSet, sAsg, sPar, tst, tru, truD, tNo, tAn, tOr, bin, una, cal, chn, chn3, anE, orE, noE, ifE, v, k, isB, aCons, aNil, aStar, Out.bind, fin, setT, setAll, List.getElem?_cons_zero, List.getElem?_cons_succ, List.set_cons_zero, List.set_cons_succ, e_whole_int, leG]
  cases h : decide (lo ≤ i) <;> simp
theorem e_btw_no {d : D} {lo hi : Int} {S : Sto} (h : F_is_whole [d] S = .ok (.bl false) S) : F_is_between [d, .int lo, .int hi] S = .ok (.bl false) S := by
  refine run_ok rfl rfl ?_
  simp [sSeq, sIf, sNil, sRet, sRetN, sExp, sSet, sAsg, sPar, tst, tru, truD, tNo, tAn, tOr, bin, una, cal, chn, chn3, anE, orE, noE, ifE, v, k, isB, aCons, aNil, aStar, Out.bind, fin, setT, setAll, List.getElem?_cons_zero, List.getElem?_cons_succ, List.set_cons_zero, List.set_cons_succ, h]
theorem e_short {n : Int} {S : Sto} (h : n ≤ 6) : F_need_short [.int n] S = .ok .non S := by
  refine run_ok rfl rfl ?_
  have : ¬ (6 < n) := by omega
  simp [sSeq, sIf, sNil, sRet, sRetN, sExp, sSet, sAsg, sPar, tst, tru, truD, tNo, tAn, tOr, bin, una, cal, chn, chn3, anE, orE, noE, ifE, v, k, isB, aCons, aNil, aStar, Out.bind, fin, setT, setAll, List.getElem?_cons_zero, List.getElem?_cons_succ, List.set_cons_zero, List.set_cons_succ, gtG, this]
theorem e_are (ns : List Int) (hl : ns.length ≤ 1000) (S : Sto) : F_are_whole [.tup (ns.map .int)] S = .ok (.bl true) S := by
  refine run_ok rfl rfl ?_
  have e := lc_ints (i := 1) (it := iSeq (v 0)) (e := cal F_is_whole (aCons (v 1) aNil)) (ρ := [some (.tup (ns.map .int)), none]) (S := S) (fun _ => .bl true) rfl hl (by
    intro n hn
    simp only [sSeq, sIf, sNil, sRet, sRetN, sExp, sSet, sAsg, sPar, tst, tru, truD, tNo, tAn, tOr, bin, una, cal, chn, chn3, anE, orE, noE, ifE, v, k, isB, aCons, aNil, aStar, Out.bind, fin, setT, setAll, List.getElem?_cons_zero, List.getElem?_cons_succ, List.set_cons_zero, List.set_cons_succ, e_whole_int])
  show fin (Out.bind (Out.bind (Out.bind (Out.bind (lcE _ _ _ _ [some (.tup (ns.map .int)), none] S) _) _) _) _) = _
  rw [e]
  simp only [sSeq, sIf, sNil, sRet, sRetN, sExp, sSet, sAsg, sPar, tst, tru, truD, tNo, tAn, tOr, bin, una, cal, chn, chn3, anE, orE, noE, ifE, v, k, isB, aCons, aNil, aStar, Out.bind, fin, setT, setAll, List.getElem?_cons_zero, List.getElem?_cons_succ, List.set_cons_zero, List.set_cons_succ, all_true]
theorem e_part {i j n : Int} {S : Sto} : F_is_part [.tup [.int i, .int j], .int n] S = .ok (.bl (decide (0 ≤ i) && (decide (i ≤ j) && decide (j ≤ n)))) S := by
  refine run_ok rfl rfl ?_
  have ea := e_are [i, j] (by show 2 ≤ 1000; decide) S
  have e2 := eqD_int 2 2
  simp only [List.map_cons, List.map_nil] at ea
  simp [sSeq, sIf, sNil, sRet, sRetN, sExp, sSet, sAsg, sPar, tst, tru, truD, tNo, tAn, tOr, bin, una, cal, chn, chn3, anE, orE, noE, ifE, v, k, isB, aCons, aNil, aStar, Out.bind, fin, setT, setAll, List.getElem?_cons_zero, List.getElem?_cons_succ, List.set_cons_zero, List.set_cons_succ, isiF, isTy, tyD, isiB, subT, lenB, eqG, e2, ea, ixG, L2.atI, L2.ixN, leG]
  by_cases h1 : 0 ≤ i <;> by_cases h2 : i ≤ j <;> simp [h1, h2]
theorem e_part_int {i n : Int} {S : Sto} : F_is_part [.int i, .int n] S = .ok (.bl false) S := run_ok rfl rfl rfl
/-! ### rows -/
def Good (ns : List Int) : Prop := ns.length ≤ 6 ∧ ∀ n ∈ ns, 0 ≤ n ∧ n ≤ 5
def rowD (ns : List Int) : D := .obj "Row" [("pits", .tup (ns.map .int))]
theorem e_init {ns : List Int} {m : Nat} {S : Sto} (h : S[m]? = some (.ins "Row" [])) (hg : Good ns) : F_RowD_initD (.loc m :: ns.map .int) S = .ok .non (S.set m (.ins "Row" [("pits", .tup (ns.map .int))])) := by
  have hl := hg.1
  refine runV (by simp) (by simp; omega) (run_ok rfl (List.length_set ..) ?_)
  obtain ⟨ρ', S', hf, rfl, x, y, rfl⟩ := for_inv (T := .tp [2, 3]) (it := iEn (aCons (v 1) aNil)) (b := sSeq (sIf (tNo (tru (cal F_is_between (aCons (v 3) (aCons (k (.int 0)) (aCons (k (.int 5)) aNil)))))) (sSeq sNo sNil) sNil) sNil)
    (ρ := [some (.loc m), some (.tup (ns.map .int)), none, none]) (S := S) (xs := numbered 0 (ns.map .int)) (fun j ρ S' => S' = S ∧ ∃ x y, ρ = [some (.loc m), some (.tup (ns.map .int)), x, y]) rfl ⟨rfl, none, none, rfl⟩ (by
      rintro j x ρ S2 hx ⟨rfl, a, b, rfl⟩
      obtain ⟨z, hz, rfl⟩ := numbered_get hx
      rw [List.getElem?_map] at hz
      obtain ⟨n, hn, rfl⟩ := Option.map_eq_some_iff.mp hz
      have g := hg.2 n (List.mem_of_getElem? hn)
      refine ⟨[some (.loc m), some (.tup (ns.map .int)), some (.int (0 + (j : Int))), some (.int n)], [some (.loc m), some (.tup (ns.map .int)), some (.int (0 + (j : Int))), some (.int n)], S2, rfl, .inl ?_, rfl, _, _, rfl⟩
      simp [sSeq, sIf, sNil, sRet, sRetN, sExp, sSet, sAsg, sPar, tst, tru, truD, tNo, tAn, tOr, bin, una, cal, chn, chn3, anE, orE, noE, ifE, v, k, isB, aCons, aNil, aStar, Out.bind, fin, setT, setAll, List.getElem?_cons_zero, List.getElem?_cons_succ, List.set_cons_zero, List.set_cons_succ, e_btw, g.1, g.2])
  show fin (Out.bind (sFor _ _ _ _ _) _) = _
  have hf' : sFor (.tp [2, 3]) (iEn (aCons (v 1) aNil)) (sSeq (sIf (tNo (tru (cal F_is_between (aCons (v 3) (aCons (k (.int 0)) (aCons (k (.int 5)) aNil)))))) (sSeq sNo sNil) sNil) sNil) (List.map some (List.take 1 (.loc m :: ns.map .int) ++ [.tup (List.drop 1 (.loc m :: ns.map .int))]) ++ List.replicate (4 - (1 + 1)) none) S' = _ := hf
  rw [hf']
  have hs := e_short (n := (ns.length : Int)) (S := S') (by omega)
  simp [sSeq, sIf, sNil, sRet, sRetN, sExp, sSet, sAsg, sPar, tst, tru, truD, tNo, tAn, tOr, bin, una, cal, chn, chn3, anE, orE, noE, ifE, v, k, isB, aCons, aNil, aStar, Out.bind, fin, setT, setAll, List.getElem?_cons_zero, List.getElem?_cons_succ, List.set_cons_zero, List.set_cons_succ, lenB, hs, sFldS, h, putD]
theorem e_row {ns : List Int} (hg : Good ns) (S : Sto) : mkF "Row" F_RowD_initD (ns.map .int) S = .ok (rowD ns) S := by
  unfold mkF
  rw [e_init (by simp) hg]
  have e1 : (S ++ [Cell.ins "Row" []]).set S.length (.ins "Row" [("pits", .tup (ns.map .int))]) = S ++ [.ins "Row" [("pits", .tup (ns.map .int))]] := by simp
  rw [e1]
  simp only [List.getElem?_append_right (Nat.le_refl _), Nat.sub_self, List.getElem?_cons_zero, if_true]
  have e2 : (S ++ [Cell.ins "Row" [("pits", .tup (ns.map .int))]]).set S.length .dead = S ++ [.dead] := by simp
  rw [e2]
  exact gc_app (by simp [D.und, belowf, belows_ints])
theorem e_of_l {ns : List Int} (hg : Good ns) (S : Sto) : F_Row_of [.cls "Row", .lst (ns.map .int)] S = .ok (rowD ns) S := by
  refine run_ok rfl rfl ?_
  simp [sSeq, sIf, sNil, sRet, sRetN, sExp, sSet, sAsg, sPar, tst, tru, truD, tNo, tAn, tOr, bin, una, cal, chn, chn3, anE, orE, noE, ifE, v, k, isB, aCons, aNil, aStar, Out.bind, fin, setT, setAll, List.getElem?_cons_zero, List.getElem?_cons_succ, List.set_cons_zero, List.set_cons_succ, isiA, tyD, subT, itemsF, e_row hg]
theorem e_of_t {ns : List Int} (hg : Good ns) (S : Sto) : F_Row_of [.cls "Row", .tup (ns.map .int)] S = .ok (rowD ns) S := by
  refine run_ok rfl rfl ?_
  simp [sSeq, sIf, sNil, sRet, sRetN, sExp, sSet, sAsg, sPar, tst, tru, truD, tNo, tAn, tOr, bin, una, cal, chn, chn3, anE, orE, noE, ifE, v, k, isB, aCons, aNil, aStar, Out.bind, fin, setT, setAll, List.getElem?_cons_zero, List.getElem?_cons_succ, List.set_cons_zero, List.set_cons_succ, isiA, tyD, subT, itemsF, e_row hg]
theorem f_pits (ns : List Int) (S : Sto) : fldG ["Row"] "pits" (rowD ns) S = .ok (.tup (ns.map .int)) S := rfl
theorem Good.rev {ns : List Int} (h : Good ns) : Good ns.reverse := ⟨by simpa using h.1, fun n hn => h.2 n (by simpa using hn)⟩
theorem e_neg {ns : List Int} (hg : Good ns) (S : Sto) : F_RowD_negD [rowD ns] S = .ok (rowD ns.reverse) S := by
  refine run_ok rfl rfl ?_
  have e := e_of_t hg.rev S
  rw [List.map_reverse] at e
  simp [sSeq, sIf, sNil, sRet, sRetN, sExp, sSet, sAsg, sPar, tst, tru, truD, tNo, tAn, tOr, bin, una, cal, chn, chn3, anE, orE, noE, ifE, v, k, isB, aCons, aNil, aStar, Out.bind, fin, setT, setAll, List.getElem?_cons_zero, List.getElem?_cons_succ, List.set_cons_zero, List.set_cons_succ, cmE, isCl, f_pits, revG, e]
theorem e_len (ns : List Int) (S : Sto) : F_RowD_lenD [rowD ns] S = .ok (.int ns.length) S := by
  refine run_ok rfl rfl ?_
  simp [sSeq, sIf, sNil, sRet, sRetN, sExp, sSet, sAsg, sPar, tst, tru, truD, tNo, tAn, tOr, bin, una, cal, chn, chn3, anE, orE, noE, ifE, v, k, isB, aCons, aNil, aStar, Out.bind, fin, setT, setAll, List.getElem?_cons_zero, List.getElem?_cons_succ, List.set_cons_zero, List.set_cons_succ, f_pits, lenB]
end K20
set_option Elab.async false
set_option linter.all false
set_option maxRecDepth 100000
set_option maxHeartbeats 4000000
namespace K20
open PySem PV
/-! ### texts of rows -/
noncomputable def rowText (ns : List Int) : Str := if ns = [] then "none" else Txt.join " " (ns.map strOf)
theorem sum_digits : ∀ {ns : List Int}, (∀ n ∈ ns, 0 ≤ n ∧ n ≤ 5) → ((ns.map strOf).map (·.length)).sum = ns.length
  | [], _ => rfl
  | n :: ns, h => by
    have a := len_digit (h n List.mem_cons_self)
    have b := sum_digits (ns := ns) fun m hm => h m (List.mem_cons_of_mem _ hm)
    simp only [List.map_cons, List.sum_cons, a, b, List.length_cons]
    omega
theorem len_sp : ((" " : String) : Str).length = 1 := by decide +kernel
theorem join_row {ns : List Int} (hg : Good ns) (S : Sto) : joinG (.str " ") (.lst (ns.map fun n => .str (strOf n))) S = .ok (.str (Txt.join " " (ns.map strOf))) S := by
  have e : asStrs (ns.map fun n => D.str (strOf n)) = some (ns.map strOf) := by
    have := asStrs_map (ns.map strOf)
    rw [List.map_map] at this
    exact this
  have l : ((ns.map strOf).map (·.length)).sum + (ns.map strOf).length * ((" " : String) : Str).length ≤ 16777216 := by
    rw [sum_digits hg.2, List.length_map, len_sp]
    have := hg.1
    omega
  simp only [joinG, e]
  rw [if_pos l]
theorem e_text {ns : List Int} (hg : Good ns) (S : Sto) : F_law_text [.lst (ns.map .int)] S = .ok (.str (rowText ns)) S := by
  refine run_ok rfl rfl ?_
  have e := lc_ints (i := 1) (it := iSeq (v 0)) (e := cal strB (aCons (v 1) aNil)) (ρ := [some (.lst (ns.map .int)), none]) (S := S) (ns := ns) (fun n => .str (strOf n)) rfl (by have := hg.1; omega) (by
    intro n hn
    have := str_digit (hg.2 n hn) S
    simp only [sSeq, sIf, sNil, sRet, sRetN, sExp, sSet, sAsg, sPar, tst, tru, truD, tNo, tAn, tOr, bin, una, cal, chn, chn3, anE, orE, noE, ifE, v, k, isB, aCons, aNil, aStar, Out.bind, fin, setT, setAll, List.getElem?_cons_zero, List.getElem?_cons_succ, List.set_cons_zero, List.set_cons_succ, this])
  have e2 := eqD_lnil ns
  by_cases h : ns = []
  · subst h
    rfl
  · have ej := join_row hg S
    have e3 : decide (ns = []) = false := decide_eq_false h
    have ht : tst (bin (eqG true) (v 0) (lstE aNil)) [some (.lst (ns.map .int)), none] S = .ok true S := by
      simp only [sSeq, sIf, sNil, sRet, sRetN, sExp, sSet, sAsg, sPar, tst, tru, truD, tNo, tAn, tOr, bin, una, cal, chn, chn3, anE, orE, noE, ifE, v, k, isB, aCons, aNil, aStar, Out.bind, fin, setT, setAll, List.getElem?_cons_zero, List.getElem?_cons_succ, List.set_cons_zero, List.set_cons_succ, lstE, eqG, List.length_nil, Nat.zero_le, if_true, e2, e3]
      rfl
    have hj : mthS joinG (k (.str " ")) (lcE (.nm 1) (iSeq (v 0)) tYs (cal strB (aCons (v 1) aNil))) [some (.lst (ns.map .int)), none] S = .ok (.str (Txt.join " " (ns.map strOf))) S := by
      unfold mthS
      simp only [k, Out.bind, isStr, if_true]
      rw [e]
      exact ej
    have hr : rowText ns = Txt.join " " (ns.map strOf) := if_neg h
    show fin (sSeq (sRet (ifE _ _ _)) _ [some (.lst (ns.map .int)), none] S) = _
    simp only [sSeq, sRet, ifE, ht, Out.bind, if_true, hj, fin, hr]
theorem e_str {ns : List Int} (hg : Good ns) (S : Sto) : F_RowD_strD [rowD ns] S = .ok (.str (rowText ns)) S := by
  refine run_ok rfl rfl ?_
  have e := lc_ints (i := 1) (it := iSeq (una (fldG ["Row"] "pits") (v 0))) (e := cal strB (aCons (v 1) aNil)) (ρ := [some (rowD ns), none]) (S := S) (ns := ns) (fun n => .str (strOf n)) rfl (by have := hg.1; omega) (by
    intro n hn
    have := str_digit (hg.2 n hn) S
    simp only [sSeq, sIf, sNil, sRet, sRetN, sExp, sSet, sAsg, sPar, tst, tru, truD, tNo, tAn, tOr, bin, una, cal, chn, chn3, anE, orE, noE, ifE, v, k, isB, aCons, aNil, aStar, Out.bind, fin, setT, setAll, List.getElem?_cons_zero, List.getElem?_cons_succ, List.set_cons_zero, List.set_cons_succ, this])
  by_cases h : ns = []
  · subst h
    rfl
  · have ej := join_row hg S
    have hl : ¬ ((ns.length : Int) = 0) := by
      have := List.length_pos_iff.mpr h
      omega
    have e3 := eqD_int (ns.length : Int) 0
    rw [decide_eq_false hl] at e3
    have ht : tst (bin (eqG false) (cal lenB (aCons (una (fldG ["Row"] "pits") (v 0)) aNil)) (k (.int 0))) [some (rowD ns), none] S = .ok false S := by
      simp only [sSeq, sIf, sNil, sRet, sRetN, sExp, sSet, sAsg, sPar, tst, tru, truD, tNo, tAn, tOr, bin, una, cal, chn, chn3, anE, orE, noE, ifE, v, k, isB, aCons, aNil, aStar, Out.bind, fin, setT, setAll, List.getElem?_cons_zero, List.getElem?_cons_succ, List.set_cons_zero, List.set_cons_succ, f_pits, lenB, List.length_map, eqG, e3]
      rfl
    have hj : mthS joinG (k (.str " ")) (lcE (.nm 1) (iSeq (una (fldG ["Row"] "pits") (v 0))) tYs (cal strB (aCons (v 1) aNil))) [some (rowD ns), none] S = .ok (.str (Txt.join " " (ns.map strOf))) S := by
      unfold mthS
      simp only [k, Out.bind, isStr, if_true]
      rw [e]
      exact ej
    have hr : rowText ns = Txt.join " " (ns.map strOf) := if_neg h
    show fin (sSeq (sIf _ _ _) (sSeq (sRet _) sNil) [some (rowD ns), none] S) = _
    simp only [sSeq, sIf, sNil, sRet, ht, Out.bind, hj, fin, hr, Bool.false_eq_true, if_false]
/-! ### reading them -/
theorem dig_nosp {ns : List Int} (hg : Good ns) : ∀ p ∈ ns.map strOf, 32 ∉ TL.tl p := by
  intro p hp h
  obtain ⟨n, hn, rfl⟩ := List.mem_map.mp hp
  exact (near_digit (hg.2 n hn) 32 h).1 rfl
theorem near_row {ns : List Int} (hg : Good ns) : near (rowText ns) = true := by
  unfold rowText
  split
  · decide +kernel
  · refine near_join (by decide +kernel) fun p hp => ?_
    obtain ⟨n, hn, rfl⟩ := List.mem_map.mp hp
    exact near_iff.mpr fun c hc => by
      have := (near_digit (hg.2 n hn) c hc).2
      omega
theorem len_row {ns : List Int} (hg : Good ns) : (rowText ns).length ≤ 12 := by
  unfold rowText
  split
  · decide +kernel
  · have := len_join ((" " : String) : Str) (ns.map strOf)
    rw [sum_digits hg.2, List.length_map, len_sp] at this
    have := hg.1
    omega
theorem split_row {ns : List Int} (hg : Good ns) (h : ns ≠ []) (S : Sto) : splitG (.str (rowText ns)) (.str " ") S = .ok (.lst ((ns.map strOf).map .str)) S := by
  have l := len_row hg
  have e : sizeLine = 16777216 := by decide +kernel
  have hs : Txt.split (rowText ns) ((" " : String) : Str) = ns.map strOf := by
    unfold rowText
    rw [if_neg h]
    exact TL.split_join (s := 32) (S := []) (by decide +kernel) (by decide +kernel) (by simpa using h) (dig_nosp hg)
  have c : (((" " : String) : Str).length == 0) = false ∧ (rowText ns).length + 2 ≤ sizeLine := ⟨by decide +kernel, by rw [e]; omega⟩
  simp only [splitG, c, hs, and_self, if_true]
theorem in_digits {n : Int} (h : 0 ≤ n ∧ n ≤ 5) : strIn (strOf n) "012345" = true := by
  rcases digit_cases h.1 h.2 with rfl | rfl | rfl | rfl | rfl | rfl <;> decide +kernel
theorem dig_ne {n : Int} (h : 0 ≤ n ∧ n ≤ 5) : strOf n ≠ (("none" : String) : Str) := by
  rcases digit_cases h.1 h.2 with rfl | rfl | rfl | rfl | rfl | rfl <;> decide +kernel
theorem near_dig {n : Int} (h : 0 ≤ n ∧ n ≤ 5) : near (strOf n) = true := near_iff.mpr fun c hc => by
  have := (near_digit h c hc).2
  omega
def readLoop : MS := (sSeq (sIf (tOr (tst (bin (eqG false) (v 3) (k (.int 6)))) (tOr (tst (bin (eqG true) (cal lenB (aCons (v 4) (aNil))) (k (.int 1)))) (tst (bin (inG true) (v 4) (k (.str "012345")))))) (sSeq (sNo) (sNil)) (sNil)) (sNil))
theorem e_read {ns : List Int} (hg : Good ns) (S : Sto) : F_Row_read [.cls "Row", .str (rowText ns)] S = .ok (rowD ns) S := by
  by_cases h : ns = []
  · subst h
    refine run_ok rfl rfl ?_
    have er := e_row hg S
    have hs : splitG (.str (rowText [])) (.str " ") S = .ok (.lst [.str "none"]) S := by
      have : Txt.split (rowText []) ((" " : String) : Str) = [(("none" : String) : Str)] := by
        exact TL.split_join (y := " ") (s := 32) (S := []) (parts := [(("none" : String) : Str)]) (by decide +kernel) (by decide +kernel) (by simp) (by decide +kernel)
      have c : (((" " : String) : Str).length == 0) = false ∧ (rowText []).length + 2 ≤ sizeLine := by decide +kernel
      simp only [splitG, c, this, and_self, if_true]
      rfl
    have en := eqD_strs (a := "none") (b := "none") (by decide +kernel) (by decide +kernel)
    have er' : mkF "Row" F_RowD_initD [] S = .ok (rowD []) S := er
    simp [sSeq, sIf, sNil, sRet, sRetN, sExp, sSet, sAsg, sPar, tst, tru, truD, tNo, tAn, tOr, bin, una, cal, chn, chn3, anE, orE, noE, ifE, v, k, isB, aCons, aNil, aStar, Out.bind, fin, setT, setAll, List.getElem?_cons_zero, List.getElem?_cons_succ, List.set_cons_zero, List.set_cons_succ, isiF, isTy, tyD, isiB, subT, mthS, isStr, hs, ixG, L2.atI, L2.ixN, eqG, en, gtG, lenB, mk0L, isCl, er']
  · have hl := hg.1
    refine run_ok rfl rfl ?_
    obtain ⟨n0, r0, e0⟩ := List.exists_cons_of_ne_nil h
    have g0 : 0 ≤ n0 ∧ n0 ≤ 5 := hg.2 n0 (by rw [e0]; exact List.mem_cons_self)
    have hs := split_row hg h S
    have eix : ixG (.lst ((ns.map strOf).map .str)) (.int 0) S = .ok (.str (strOf n0)) S := by
      rw [e0]
      have hp : (0 : Int) < ((List.map D.str (List.map strOf r0)).length + 1 : Nat) := by omega
      simp only [ixG, L2.atI, L2.ixN, List.map_cons, List.length_cons, Int.le_refl, if_true, hp]
      rfl
    have en := eqD_strs (near_dig g0) (b := "none") (by decide +kernel)
    rw [decide_eq_false (dig_ne g0)] at en
    obtain ⟨ρ', S', hf, rfl, x, y, rfl⟩ := for_inv (T := .tp [3, 4]) (it := iEn (aCons (v 2) aNil)) (b := readLoop)
      (ρ := [some (.cls "Row"), some (.str (rowText ns)), some (.lst ((ns.map strOf).map .str)), none, none]) (S := S) (xs := numbered 0 ((ns.map strOf).map .str)) (fun j ρ S' => S' = S ∧ ∃ x y, ρ = [some (.cls "Row"), some (.str (rowText ns)), some (.lst ((ns.map strOf).map .str)), x, y]) rfl ⟨rfl, none, none, rfl⟩ (by
        rintro j x ρ S2 hx ⟨rfl, a, b, rfl⟩
        obtain ⟨z, hz, rfl⟩ := numbered_get hx
        rw [List.map_map, List.getElem?_map] at hz
        obtain ⟨n, hn, rfl⟩ := Option.map_eq_some_iff.mp hz
        have g := hg.2 n (List.mem_of_getElem? hn)
        have hj : j < ns.length := (List.getElem?_eq_some_iff.mp hn).1
        refine ⟨_, _, S2, rfl, .inl ?_, rfl, some (.int (0 + (j : Int))), some (.str (strOf n)), rfl⟩
        have e6 := eqD_int (j : Int) 6
        rw [decide_eq_false (by omega)] at e6
        have e1 := eqD_int 1 1
        have en : lenB [.str (strOf n)] S2 = .ok (.int 1) S2 := by
          have : (strOf n).length ≤ sizeLine := by rw [len_digit g] ; decide +kernel
          simp only [lenB, this, if_true, len_digit g]
          rfl
        have ei := in_digits g
        simp [sSeq, sIf, sNil, sRet, sRetN, sExp, sSet, sAsg, sPar, tst, tru, truD, tNo, tAn, tOr, bin, una, cal, chn, chn3, anE, orE, noE, ifE, v, k, isB, aCons, aNil, aStar, Out.bind, fin, setT, setAll, List.getElem?_cons_zero, List.getElem?_cons_succ, List.set_cons_zero, List.set_cons_succ, readLoop, eqG, e6, en, e1, inG, inD, ei])
    have ei := lc_strs (i := 4) (it := iSeq (v 2)) (e := cal intB (aCons (v 4) aNil)) (ρ := [some (.cls "Row"), some (.str (rowText ns)), some (.lst ((ns.map strOf).map .str)), x, y]) (S := S') (ns := ns.map strOf) (fun z => (match intB [.str z] S' with | .ok d _ => d | _ => .non)) rfl (by simp; omega) (by
      intro z hz
      obtain ⟨n, hn, rfl⟩ := List.mem_map.mp hz
      have g := int_digit (hg.2 n hn) S'
      simp only [sSeq, sIf, sNil, sRet, sRetN, sExp, sSet, sAsg, sPar, tst, tru, truD, tNo, tAn, tOr, bin, una, cal, chn, chn3, anE, orE, noE, ifE, v, k, isB, aCons, aNil, aStar, Out.bind, fin, setT, setAll, List.getElem?_cons_zero, List.getElem?_cons_succ, List.set_cons_zero, List.set_cons_succ, g])
    have em : (ns.map strOf).map (fun z => (match intB [.str z] S' with | .ok d _ => d | _ => .non)) = ns.map .int := by
      rw [List.map_map]
      refine List.map_congr_left fun n hn => ?_
      have g := int_digit (hg.2 n hn) S'
      simp only [Function.comp, g]
    rw [em] at ei
    have eo := e_of_l hg S'
    refine go_nx (ρ' := [some (.cls "Row"), some (.str (rowText ns)), none, none, none]) (S' := S') ?_ (go_nx (ρ' := [some (.cls "Row"), some (.str (rowText ns)), some (.lst ((ns.map strOf).map .str)), none, none]) (S' := S') ?_ (go_nx (ρ' := [some (.cls "Row"), some (.str (rowText ns)), some (.lst ((ns.map strOf).map .str)), none, none]) (S' := S') ?_ (go_nx hf (go_rt (ret_ok ?_)))))
    · rfl
    · simp [sSeq, sIf, sNil, sRet, sRetN, sExp, sSet, sAsg, sPar, tst, tru, truD, tNo, tAn, tOr, bin, una, cal, chn, chn3, anE, orE, noE, ifE, v, k, isB, aCons, aNil, aStar, Out.bind, fin, setT, setAll, List.getElem?_cons_zero, List.getElem?_cons_succ, List.set_cons_zero, List.set_cons_succ, mthS, isStr, hs]
    · refine if_no' (tst_ok (bin_ok (bin_ok rfl rfl eix) rfl ?_)) rfl
      simp only [k, Out.bind, eqG, en]
      rfl
    · unfold cmE
      simp only [v, List.getElem?_cons_zero, Out.bind, isCl, if_true, aCons, ei, aNil, eo, decide_true]
end K20
set_option Elab.async false
set_option linter.all false
set_option maxRecDepth 100000
set_option maxHeartbeats 4000000
namespace K20
open PySem PV
theorem in_tup (n : Int) (ns : List Int) (S : Sto) : inG false (.int n) (.tup (ns.map .int)) S = .ok (.bl (decide (n ∈ ns))) S := by
  simp only [inG, inD, toP, toPs_ints, flat_ints, inD.flat, and_self, if_true, PV.any_ints]
  simp
theorem in_lst (n : Int) (ns : List Int) (S : Sto) : inG false (.int n) (.lst (ns.map .int)) S = .ok (.bl (decide (n ∈ ns))) S := by
  simp only [inG, inD, toP, toPs_ints, shaped_int, shaped_lints, and_self, if_true, PV.any_ints]
  simp
theorem Good.mem {ns : List Int} (hg : Good ns) {n : Int} : decide (n ∈ ns) = true → 0 ≤ n ∧ n ≤ 5 := fun h => hg.2 n (of_decide_eq_true h)
theorem e_has {ns : List Int} (hg : Good ns) (n : Int) (S : Sto) : F_RowD_containsD [rowD ns, .int n] S = .ok (.bl (decide (n ∈ ns))) S := by
  refine run_ok rfl rfl ?_
  have e := in_tup n ns S
  by_cases h : 0 ≤ n ∧ n ≤ 5
  · simp [sSeq, sIf, sNil, sRet, sRetN, sExp, sSet, sAsg, sPar, tst, tru, truD, tNo, tAn, tOr, bin, una, cal, chn, chn3, anE, orE, noE, ifE, v, k, isB, aCons, aNil, aStar, Out.bind, fin, setT, setAll, List.getElem?_cons_zero, List.getElem?_cons_succ, List.set_cons_zero, List.set_cons_succ, e_btw, h.1, h.2, f_pits, e]
  · have e2 : decide (n ∈ ns) = false := by
      cases c : decide (n ∈ ns) with
      | false => rfl
      | true => exact absurd (hg.mem c) h
    have e3 : (decide (0 ≤ n) && decide (n ≤ 5)) = false := by
      by_cases h1 : 0 ≤ n
      · have : ¬ (n ≤ 5) := fun z => h ⟨h1, z⟩
        simp [this]
      · simp [h1]
    rw [e2]
    simp only [sSeq, sIf, sNil, sRet, sRetN, sExp, sSet, sAsg, sPar, tst, tru, truD, tNo, tAn, tOr, bin, una, cal, chn, chn3, anE, orE, noE, ifE, v, k, isB, aCons, aNil, aStar, Out.bind, fin, setT, setAll, List.getElem?_cons_zero, List.getElem?_cons_succ, List.set_cons_zero, List.set_cons_succ, List.map_cons, List.map_nil, List.cons_append, List.nil_append, List.replicate, Nat.reduceSub, e_btw, e3]
theorem e_has_no {ns : List Int} {d : D} {S : Sto} (h : F_is_whole [d] S = .ok (.bl false) S) : F_RowD_containsD [rowD ns, d] S = .ok (.bl false) S := by
  refine run_ok rfl rfl ?_
  have e := e_btw_no (lo := 0) (hi := 5) h
  simp [sSeq, sIf, sNil, sRet, sRetN, sExp, sSet, sAsg, sPar, tst, tru, truD, tNo, tAn, tOr, bin, una, cal, chn, chn3, anE, orE, noE, ifE, v, k, isB, aCons, aNil, aStar, Out.bind, fin, setT, setAll, List.getElem?_cons_zero, List.getElem?_cons_succ, List.set_cons_zero, List.set_cons_succ, e]
theorem e_eq (ns ms : List Int) (S : Sto) : F_RowD_eqD [rowD ns, rowD ms] S = .ok (.bl (decide (ns = ms))) S := by
  refine run_ok rfl rfl ?_
  have e := eqD_tints ns ms
  have f1 := f_pits ns S
  have f2 := f_pits ms S
  have i : isiF (isiC [("Row", true)]) (isCl "Row") [rowD ms, .cls "Row"] S = .ok (.bl true) S := rfl
  simp [sSeq, sIf, sNil, sRet, sRetN, sExp, sSet, sAsg, sPar, tst, tru, truD, tNo, tAn, tOr, bin, una, cal, chn, chn3, anE, orE, noE, ifE, v, k, isB, aCons, aNil, aStar, Out.bind, fin, setT, setAll, List.getElem?_cons_zero, List.getElem?_cons_succ, List.set_cons_zero, List.set_cons_succ, i, f1, f2, eqG, e]
theorem e_eq_tup (ns : List Int) (xs : List D) (S : Sto) : F_RowD_eqD [rowD ns, .tup xs] S = .ok (.bl false) S := run_ok rfl rfl rfl
theorem e_eq_lst (ns : List Int) (xs : List D) (S : Sto) : F_RowD_eqD [rowD ns, .lst xs] S = .ok (.bl false) S := run_ok rfl rfl rfl
theorem e_eq_str (ns : List Int) (xs : Str) (S : Sto) : F_RowD_eqD [rowD ns, .str xs] S = .ok (.bl false) S := run_ok rfl rfl rfl
theorem ix_tup {ns : List Int} {i : Int} {S : Sto} (h0 : 0 ≤ i) (h1 : i < ns.length) : ixG (.tup (ns.map .int)) (.int i) S = .ok (.int (ns.getD i.toNat 0)) S := by
  have e : L2.atI (ns.map D.int) i = some (.int (ns.getD i.toNat 0)) := by
    unfold L2.atI L2.ixN
    rw [List.length_map, if_pos h0]
    have hlt : i.toNat < ns.length := by omega
    rw [if_pos h1]
    simp [hlt]
  simp only [ixG, e]
theorem e_item {ns : List Int} {i : Int} (h0 : 0 ≤ i) (h1 : i < ns.length) (S : Sto) : F_RowD_getitemD [rowD ns, .int i] S = .ok (.int (ns.getD i.toNat 0)) S := by
  refine run_ok rfl rfl ?_
  have e := ix_tup (S := S) h0 h1
  have h2 : i ≤ (ns.length : Int) - 1 := by omega
  simp [sSeq, sIf, sNil, sRet, sRetN, sExp, sSet, sAsg, sPar, tst, tru, truD, tNo, tAn, tOr, bin, una, cal, chn, chn3, anE, orE, noE, ifE, v, k, isB, aCons, aNil, aStar, Out.bind, fin, setT, setAll, List.getElem?_cons_zero, List.getElem?_cons_succ, List.set_cons_zero, List.set_cons_succ, f_pits, lenB, e_part_int, subG, e_btw, h0, h2, e]
theorem cut_ints (ns : List Int) {a b : Nat} (ha : a ≤ b) (hb : b ≤ ns.length) : cutD (ns.map D.int) (some (a : Int)) (some (b : Int)) = ((ns.drop a).take (b - a)).map .int := by
  unfold cutD HT.sIx
  have e1 : (if (a : Int) < 0 then ((a : Int) + (ns.map D.int).length).toNat else min (a : Int).toNat (ns.map D.int).length) = a := by
    rw [if_neg (by omega), List.length_map]
    omega
  have e2 : (if (b : Int) < 0 then ((b : Int) + (ns.map D.int).length).toNat else min (b : Int).toNat (ns.map D.int).length) = b := by
    rw [if_neg (by omega), List.length_map]
    omega
  simp only [e1, e2]
  rw [List.map_take, List.map_drop]
theorem Good.cut {ns : List Int} (hg : Good ns) (a b : Nat) : Good ((ns.drop a).take b) := ⟨by
  have := hg.1
  rw [List.length_take, List.length_drop]
  omega, fun n hn => hg.2 n (List.mem_of_mem_drop (List.mem_of_mem_take hn))⟩
theorem e_cut {ns : List Int} (hg : Good ns) {a b : Nat} (ha : a ≤ b) (hb : b ≤ ns.length) (S : Sto) : F_RowD_getitemD [rowD ns, .tup [.int a, .int b]] S = .ok (rowD ((ns.drop a).take (b - a))) S := by
  refine run_ok rfl rfl ?_
  have e := e_of_t (hg.cut a (b - a)) S
  have c := cut_ints ns ha hb
  have hp : F_is_part [.tup [.int a, .int b], .int ns.length] S = .ok (.bl true) S := by
    rw [e_part]
    have h1 : (0 : Int) ≤ a := by omega
    have h2 : (a : Int) ≤ b := by omega
    have h3 : (b : Int) ≤ ns.length := by omega
    simp [h1, h2, h3]
  refine go_rt (if_yes (S' := S) ?_ ?_)
  · simp [sSeq, sIf, sNil, sRet, sRetN, sExp, sSet, sAsg, sPar, tst, tru, truD, tNo, tAn, tOr, bin, una, cal, chn, chn3, anE, orE, noE, ifE, v, k, isB, aCons, aNil, aStar, Out.bind, fin, setT, setAll, List.getElem?_cons_zero, List.getElem?_cons_succ, List.set_cons_zero, List.set_cons_succ, f_pits, lenB, hp]
  · simp only [sSeq, sIf, sNil, sRet, sRetN, sExp, sSet, sAsg, sPar, tst, tru, truD, tNo, tAn, tOr, bin, una, cal, chn, chn3, anE, orE, noE, ifE, v, k, isB, aCons, aNil, aStar, Out.bind, fin, setT, setAll, List.getElem?_cons_zero, List.getElem?_cons_succ, List.set_cons_zero, List.set_cons_succ, List.map_cons, List.map_nil, List.cons_append, List.nil_append, List.replicate, Nat.reduceSub, cmE, isCl, decide_true, if_true, sli, f_pits, oSo, ixG, L2.atI, L2.ixN, slG]
    rw [List.map_take, List.map_drop] at e
    simp [c, e]
theorem Good.app {ns ms : List Int} (h : Good ns) (h' : Good ms) (hl : ns.length + ms.length ≤ 6) : Good (ns ++ ms) := ⟨by rw [List.length_append]; exact hl, fun n hn => (List.mem_append.mp hn).elim (h.2 n) (h'.2 n)⟩
theorem e_add {ns ms : List Int} (h : Good ns) (h' : Good ms) (hl : ns.length + ms.length ≤ 6) (S : Sto) : F_RowD_addD [rowD ns, rowD ms] S = .ok (rowD (ns ++ ms)) S := by
  refine run_ok rfl rfl ?_
  have e := e_row (h.app h' hl) S
  have f1 := f_pits ns S
  have f2 := f_pits ms S
  have i : isiF (isiC [("Row", true)]) (isCl "Row") [rowD ms, .cls "Row"] S = .ok (.bl true) S := rfl
  rw [List.map_append] at e
  have l1 := h.1
  have l2 := h'.1
  simp [sSeq, sIf, sNil, sRet, sRetN, sExp, sSet, sAsg, sPar, tst, tru, truD, tNo, tAn, tOr, bin, una, cal, chn, chn3, anE, orE, noE, ifE, v, k, isB, aCons, aNil, aStar, Out.bind, fin, setT, setAll, List.getElem?_cons_zero, List.getElem?_cons_succ, List.set_cons_zero, List.set_cons_succ, i, f1, f2, itemsD, e]
theorem e_add1 {ns : List Int} {n : Int} (h : Good ns) (hn : 0 ≤ n ∧ n ≤ 5) (hl : ns.length < 6) (S : Sto) : F_RowD_addD [rowD ns, .int n] S = .ok (rowD (ns ++ [n])) S := by
  refine run_ok rfl rfl ?_
  have h' : Good [n] := ⟨by simp, by simpa using hn⟩
  have e := e_row (h.app h' (by simp; omega)) S
  have f1 := f_pits ns S
  have i : isiF (isiC [("Row", true)]) (isCl "Row") [.int n, .cls "Row"] S = .ok (.bl false) S := rfl
  rw [List.map_append] at e
  simp only [List.map_cons, List.map_nil] at e
  simp [sSeq, sIf, sNil, sRet, sRetN, sExp, sSet, sAsg, sPar, tst, tru, truD, tNo, tAn, tOr, bin, una, cal, chn, chn3, anE, orE, noE, ifE, v, k, isB, aCons, aNil, aStar, Out.bind, fin, setT, setAll, List.getElem?_cons_zero, List.getElem?_cons_succ, List.set_cons_zero, List.set_cons_succ, i, e_btw, hn.1, hn.2, f1, itemsD, e]
def rep (ns : List Int) (k : Int) : List Int := (List.replicate k.toNat ns).flatten
theorem rep_map (ns : List Int) (k : Nat) : (List.replicate k (ns.map D.int)).flatten = ((List.replicate k ns).flatten).map .int := by
  induction k with
  | zero => rfl
  | succ k ih => rw [List.replicate_succ, List.flatten_cons, List.replicate_succ, List.flatten_cons, List.map_append, ih]
theorem rep_len (ns : List Int) (k : Nat) : ((List.replicate k ns).flatten).length = ns.length * k := by
  induction k with
  | zero => simp
  | succ k ih => rw [List.replicate_succ, List.flatten_cons, List.length_append, ih, Nat.mul_succ]; omega
theorem rep_mem {ns : List Int} {k : Nat} {n : Int} (h : n ∈ (List.replicate k ns).flatten) : n ∈ ns := by
  obtain ⟨l, hl, hn⟩ := List.mem_flatten.mp h
  rw [List.eq_of_mem_replicate hl] at hn
  exact hn
theorem Good.reps {ns : List Int} (h : Good ns) {k : Int} (h0 : 0 ≤ k) (hl : (ns.length : Int) * k ≤ 6) : Good (rep ns k) := ⟨by
  have : ((rep ns k).length : Int) = ns.length * k := by
    unfold rep
    rw [rep_len, Int.natCast_mul, Int.toNat_of_nonneg h0]
  omega, fun n hn => h.2 n (rep_mem hn)⟩
theorem rep_min {ns : List Int} {k : Int} (h0 : 0 ≤ k) (hl : (ns.length : Int) * k ≤ 6) : rep ns (if 6 < k then 6 else k) = rep ns k := by
  split
  · rename_i h6
    by_cases h : ns = []
    · subst h
      unfold rep
      simp
    · have h1 : (1 : Int) ≤ ns.length := by
        have := List.length_pos_iff.mpr h
        omega
      have h2 : 1 * k ≤ ns.length * k := Int.mul_le_mul_of_nonneg_right h1 h0
      omega
  · rfl
theorem mul_row {ns : List Int} {m : Int} (h : Good ns) (h0 : 0 ≤ m) (hl : (ns.length : Int) * m ≤ 6) {q : Int} (hq : q = (if 6 < m then 6 else m)) (S : Sto) : mulT (.tup (ns.map .int)) (.int q) S = .ok (.tup ((rep ns m).map .int)) S := by
  have q0 : 0 ≤ q := by rw [hq]; split <;> omega
  have q6 : q ≤ 6 := by rw [hq]; split <;> omega
  have l := h.1
  have hr : repOkT (ns.map D.int).length q = true := by
    unfold repOkT
    rw [List.length_map, decide_eq_true (show -(2 ^ 63 : Int) ≤ q by omega), decide_eq_true (show q ≤ 1000 by omega), decide_eq_true (show ns.length ≤ 1000 by omega)]
    rfl
  have em := rep_min h0 hl
  rw [← hq] at em
  have em2 : (List.replicate q.toNat (ns.map D.int)).flatten = (rep ns m).map .int := by
    rw [rep_map, ← em]
    rfl
  show (if repOkT (ns.map D.int).length q = true then Out.ok (D.tup (List.replicate q.toNat (ns.map D.int)).flatten) S else .no) = _
  rw [if_pos hr, em2]
theorem hm_row {ns : List Int} {m : Int} (h : Good ns) : mulOk (ns.length : Int) m = true := by
  have l := h.1
  exact mulOk_l (by omega) (by omega)
theorem mul0_row {ns : List Int} {m : Int} (h : Good ns) (S : Sto) : mulT (.int ns.length) (.int m) S = .ok (.int (ns.length * m)) S := by
  show (if mulOk (ns.length : Int) m = true then Out.ok (D.int (ns.length * m)) S else .no) = _
  rw [if_pos (hm_row h)]
theorem min_row {m q : Int} (hq : q = (if 6 < m then 6 else m)) (S : Sto) : minB [.int m, .int 6] S = .ok (.int q) S := by
  rw [hq]
  rfl
theorem e_mul1 (ns : List Int) {m : Int} (n0 : ¬ (m < 0)) (S : Sto) : (sIf (tOr (tNo (tru (cal F_is_whole (aCons (v 1) (aNil))))) (tst (bin (ltG) (v 1) (k (.int 0))))) (sSeq (sNo) (sNil)) (sNil)) [some (rowD ns), some (.int m)] S = .ok (.nx [some (rowD ns), some (.int m)]) S := by
  have e : ltG (.int m) (.int 0) S = .ok (.bl false) S := by
    simp [ltG, n0]
  refine if_no' (or_no (not_tru (cal_ok (cons_ok rfl rfl) (e_whole_int m S))) (tst_ok (bin_ok rfl rfl e))) rfl
theorem e_mul2 {ns : List Int} {m : Int} (h : Good ns) (hl : (ns.length : Int) * m ≤ 6) (S : Sto) : (sExp (cal F_need_short (aCons (bin (mulT) (cal lenB (aCons (una (fldG ["Row"] "pits") (v 0)) (aNil))) (v 1)) (aNil)))) [some (rowD ns), some (.int m)] S = .ok (.nx [some (rowD ns), some (.int m)]) S := by
  have hs := e_short (S := S) hl
  have hmul0 := mul0_row (m := m) h S
  have hlen : lenB [.tup (ns.map .int)] S = .ok (.int ns.length) S := by
    show Out.ok (D.int (ns.map D.int).length) S = _
    rw [List.length_map]
  have e : cal F_need_short (aCons (bin (mulT) (cal lenB (aCons (una (fldG ["Row"] "pits") (v 0)) (aNil))) (v 1)) (aNil)) [some (rowD ns), some (.int m)] S = .ok .non S := cal_ok (cons_ok (bin_ok (cal_ok (cons_ok (una_ok rfl (f_pits ns S)) rfl) hlen) rfl hmul0) rfl) hs
  unfold sExp
  rw [e]
  rfl
theorem e_mul3 {ns : List Int} {m : Int} (h : Good ns) (h0 : 0 ≤ m) (hl : (ns.length : Int) * m ≤ 6) (S : Sto) : (cmE "Row" F_Row_of (k (.cls "Row")) (aCons (bin (mulT) (una (fldG ["Row"] "pits") (v 0)) (cal minB (aCons (cal intB (aCons (v 1) (aNil))) (aCons (k (.int 6)) (aNil))))) (aNil))) [some (rowD ns), some (.int m)] S = .ok (rowD (rep ns m)) S := by
  have e := e_of_t (h.reps h0 hl) S
  have f1 := f_pits ns S
  obtain ⟨q, hq⟩ : ∃ q, q = (if 6 < m then 6 else m) := ⟨_, rfl⟩
  have hmin := min_row hq S
  have hmul := mul_row h h0 hl hq S
  unfold cmE
  simp only [sSeq, sIf, sNil, sRet, sRetN, sExp, sSet, sAsg, sPar, tst, tru, truD, tNo, tAn, tOr, bin, una, cal, chn, chn3, anE, orE, noE, ifE, v, k, isB, aCons, aNil, aStar, Out.bind, fin, setT, setAll, List.getElem?_cons_zero, List.getElem?_cons_succ, List.set_cons_zero, List.set_cons_succ, isCl, decide_true, if_true, f1, intB, hmin, hmul, e]
theorem e_mul {ns : List Int} {m : Int} (h : Good ns) (h0 : 0 ≤ m) (hl : (ns.length : Int) * m ≤ 6) (S : Sto) : F_RowD_mulD [rowD ns, .int m] S = .ok (rowD (rep ns m)) S :=
  run_ok rfl rfl (go_nx (e_mul1 ns (by omega) S) (go_nx (e_mul2 h hl S) (go_rt (ret_ok (e_mul3 h h0 hl S)))))
theorem e_rmul {ns : List Int} {m : Int} (h : Good ns) (h0 : 0 ≤ m) (hl : (ns.length : Int) * m ≤ 6) (S : Sto) : F_RowD_rmulD [rowD ns, .int m] S = .ok (rowD (rep ns m)) S := by
  refine run_ok rfl rfl ?_
  have e := e_mul h h0 hl S
  simp [sSeq, sIf, sNil, sRet, sRetN, sExp, sSet, sAsg, sPar, tst, tru, truD, tNo, tAn, tOr, bin, una, cal, chn, chn3, anE, orE, noE, ifE, v, k, isB, aCons, aNil, aStar, Out.bind, fin, setT, setAll, List.getElem?_cons_zero, List.getElem?_cons_succ, List.set_cons_zero, List.set_cons_succ, binO, insOf, rowD] at e ⊢
  rw [e]
  rfl
theorem e_turned {ns : List Int} {m n : Int} (h : Good ns) (h1 : 1 ≤ n) (h6 : n ≤ 6) (S : Sto) : F_Row_turned [rowD ns, .int m, .int n] S = .ok (rowD (ns.map fun x => (x + m) % n)) S := by
  refine run_ok rfl rfl ?_
  have n0 : 0 < n := by omega
  have g : Good (ns.map fun x => (x + m) % n) := ⟨by simpa using h.1, fun y hy => by
    obtain ⟨x, _, rfl⟩ := List.mem_map.mp hy
    have a := Int.emod_nonneg (x + m) (b := n) (by omega)
    have b := Int.emod_lt_of_pos (x + m) n0
    omega⟩
  have e := e_of_l g S
  have el := lc_ints (i := 3) (it := iSeq (una (fldG ["Row"] "pits") (v 0))) (e := bin modG (bin addG (v 3) (v 1)) (v 2)) (ρ := [some (rowD ns), some (.int m), some (.int n), none]) (S := S) (ns := ns) (fun x => .int ((x + m) % n)) rfl (by have := h.1; omega) (by
    intro x hx
    simp only [sSeq, sIf, sNil, sRet, sRetN, sExp, sSet, sAsg, sPar, tst, tru, truD, tNo, tAn, tOr, bin, una, cal, chn, chn3, anE, orE, noE, ifE, v, k, isB, aCons, aNil, aStar, Out.bind, fin, setT, setAll, List.getElem?_cons_zero, List.getElem?_cons_succ, List.set_cons_zero, List.set_cons_succ, addG, modG, n0, if_true])
  rw [List.map_map] at e
  refine go_rt (ret_ok ?_)
  unfold cmE
  simp only [sSeq, sIf, sNil, sRet, sRetN, sExp, sSet, sAsg, sPar, tst, tru, truD, tNo, tAn, tOr, bin, una, cal, chn, chn3, anE, orE, noE, ifE, v, k, isB, aCons, aNil, aStar, Out.bind, fin, setT, setAll, List.getElem?_cons_zero, List.getElem?_cons_succ, List.set_cons_zero, List.set_cons_succ, List.map_cons, List.map_nil, List.cons_append, List.nil_append, List.replicate, Nat.reduceSub, isCl, decide_true, if_true]
  rw [el]
  exact e
end K20
set_option Elab.async false
set_option linter.all false
set_option maxRecDepth 100000
set_option maxHeartbeats 4000000
namespace K20
open PySem PV
/-! ### a row that tells just some moves -/
theorem lenO_lst (ns : List Int) (S : Sto) : lenO [("Row", F_RowD_lenD)] lenB [.lst (ns.map .int)] S = .ok (.int ns.length) S := len_lst _ ns S
theorem lenO_row {ns : List Int} (hg : Good ns) (S : Sto) : lenO [("Row", F_RowD_lenD)] lenB [rowD ns] S = .ok (.int ns.length) S := by
  show okLen (F_RowD_lenD [rowD ns] S) = _
  rw [e_len]
  have := hg.1
  exact okLen_ok (by omega) (by omega)
theorem strO_row {ns : List Int} (hg : Good ns) (S : Sto) : strO [("Row", F_RowD_strD)] strB [rowD ns] S = .ok (.str (rowText ns)) S := by
  show okStr (F_RowD_strD [rowD ns] S) = _
  rw [e_str hg]
  rfl
noncomputable def shownD (ns : List Int) : D := .lst [.tup (ns.map .int), .int ns.length, .str (rowText ns)]
theorem log_small {n : Int} (h0 : 0 ≤ n) (h : n < 100) : n.natAbs.log2 < 1920 := by
  have : n.natAbs.log2 < 7 := PySem.Flt.log2_lt_of (by decide) (by omega)
  omega
theorem shown_repr {ns : List Int} (hg : Good ns) : ∃ z, ∀ S, reprI reprB [shownD ns] S = .ok (.str z) S := by
  have hl := hg.1
  have ht := len_row hg
  have hn := neat_ints ns fun n hn => log_digit (hg.2 n hn)
  have hlog : (ns.length : Int).natAbs.log2 < 1920 := log_small (by omega) (by omega)
  have hok : reprOk (.list [.tuple (ns.map .int), .int ns.length, .str (rowText ns)]) = true := reprOk_of
    (by
      simp only [neat, neatAll, hn, near_row hg, Bool.and_true, Bool.true_and, decide_eq_true_eq]
      exact hlog)
    (by simp [PyData.depth, PyData.depthAll, depth_ints])
    (by
      simp only [bd, bdAll, bd_ints]
      omega)
  refine ⟨(PyData.list [.tuple (ns.map .int), .int ns.length, .str (rowText ns)]).shown, fun S => ?_⟩
  show reprB [shownD ns] S = _
  have hp : toP (shownD ns) = some (.list [.tuple (ns.map .int), .int ns.length, .str (rowText ns)]) := by
    simp [shownD, toP, toPs, toPs_ints]
  show (match toP (shownD ns) with | some p => if reprOk p = true then Out.ok (D.str p.shown) S else .no | none => .no) = _
  rw [hp]
  show (if reprOk _ = true then _ else _) = _
  rw [if_pos hok]
theorem ne_str (z : Str) (S : Sto) : neO [("Row", F_RowD_eqD)] ["Row"] (eqG true) (.str z) (.str z) S = .ok (.bl false) S := by
  show (match eqD (.str z) (.str z) with | some b => Out.ok (D.bl (true ^^ b)) S | none => .no) = _
  rw [eqD_str, decide_eq_true rfl]
  rfl
theorem ne_lst (ns : List Int) (S : Sto) : neO [("Row", F_RowD_eqD)] ["Row"] (eqG true) (.lst (ns.map .int)) (.lst (ns.map .int)) S = .ok (.bl false) S := by
  show (match eqD (.lst (ns.map .int)) (.lst (ns.map .int)) with | some b => Out.ok (D.bl (true ^^ b)) S | none => .no) = _
  rw [eqD_lints, decide_eq_true rfl]
  rfl
theorem ne_row (ns : List Int) (S : Sto) : neO [("Row", F_RowD_eqD)] ["Row"] (eqG true) (rowD ns) (rowD ns) S = .ok (.bl false) S := by
  show notB (F_RowD_eqD [rowD ns, rowD ns] S) = _
  rw [e_eq, decide_eq_true rfl]
  rfl
theorem has_row {ns : List Int} {d : D} {b : Bool} {S : Sto} (h : F_RowD_containsD [rowD ns, d] S = .ok (.bl b) S) : inO [("Row", F_RowD_containsD)] (inG false) d (rowD ns) S = .ok (.bl b) S := by
  show onlyB (F_RowD_containsD [rowD ns, d] S) = _
  rw [h]
  rfl
def things : List D := [.int 0, .int 1, .int 2, .int 3, .int 4, .int 5, .int 6, .int (-1), .bl true, .bl false, .non, .str "0", .tup [.int 0], .lst [.int 1], .dic0]
def hasB (ns : List Int) : List Bool := [decide ((0 : Int) ∈ ns), decide ((1 : Int) ∈ ns), decide ((2 : Int) ∈ ns), decide ((3 : Int) ∈ ns), decide ((4 : Int) ∈ ns), decide ((5 : Int) ∈ ns)]
def dueB (ns : List Int) : List Bool := hasB ns ++ List.replicate 9 false
theorem no_six {ns : List Int} (hg : Good ns) : decide ((6 : Int) ∈ ns) = false ∧ decide ((-1 : Int) ∈ ns) = false := by
  refine ⟨decide_eq_false fun h => ?_, decide_eq_false fun h => ?_⟩
  · have := hg.2 _ h
    omega
  · have := hg.2 _ h
    omega
def hasF (ns : List Int) : D → D
  | .int n => .bl (decide (n ∈ ns))
  | _ => .bl false
theorem things_has {ns : List Int} (hg : Good ns) : things.map (hasF ns) = (dueB ns).map .bl := by
  have h := no_six hg
  simp [things, hasF, dueB, hasB, h.1, h.2, List.replicate]
theorem things_each {ns : List Int} (hg : Good ns) (S : Sto) : ∀ x ∈ things, F_RowD_containsD [rowD ns, x] S = .ok (hasF ns x) S := by
  intro x hx
  simp only [things, List.mem_cons, List.not_mem_nil, or_false] at hx
  rcases hx with rfl | rfl | rfl | rfl | rfl | rfl | rfl | rfl | rfl | rfl | rfl | rfl | rfl | rfl | rfl
  · exact e_has hg 0 S
  · exact e_has hg 1 S
  · exact e_has hg 2 S
  · exact e_has hg 3 S
  · exact e_has hg 4 S
  · exact e_has hg 5 S
  · exact e_has hg 6 S
  · exact e_has hg (-1) S
  · exact e_has_no (e_whole_bl true S)
  · exact e_has_no (e_whole_bl false S)
  · exact e_has_no (e_whole_non S)
  · exact e_has_no (e_whole_str _ S)
  · exact e_has_no (e_whole_tup _ S)
  · exact e_has_no (e_whole_lst _ S)
  · exact e_has_no (e_whole_dic S)
theorem e_told {ns : List Int} (hg : Good ns) (S : Sto) : F_law_told_right [rowD ns, .lst (ns.map .int)] S = .ok (.bl true) S := by
  have hl := hg.1
  obtain ⟨z, hz⟩ := shown_repr hg
  -- the items
  have h3 : lcE (.nm 4) (iR1 (aCons (v 2) aNil)) tYs (bin (ixB "Row" F_RowD_getitemD) (v 0) (v 4)) [some (rowD ns), some (.lst (ns.map .int)), some (.int ns.length), some (shownD ns), none, none, none, none, none] S = .ok (.lst (ns.map .int)) S := by
    have e := lc_pure (i := 4) (it := iR1 (aCons (v 2) aNil)) (e := bin (ixB "Row" F_RowD_getitemD) (v 0) (v 4)) (ρ := [some (rowD ns), some (.lst (ns.map .int)), some (.int ns.length), some (shownD ns), none, none, none, none, none]) (S := S) (xs := ups 0 ns.length) (getF ns)
      (r1_ok (cons_ok rfl rfl) (near62_of (j := (ns.length : Int)) (by omega) (by omega))) (by rw [ups_len]; omega) (by
        intro x hx
        obtain ⟨i, rfl, h0, h1⟩ := ups_mem hx
        have := e_item (ns := ns) h0 (by omega) S
        refine bin_ok rfl rfl ?_
        exact this)
    rw [ups_items] at e
    exact e
  -- what is in it
  have h6 : lcE (.nm 7) (iR1 (aCons (k (.int 6)) aNil)) tYs (bin (inO [("Row", F_RowD_containsD)] (inG false)) (v 7) (v 1)) [some (rowD ns), some (.lst (ns.map .int)), some (.int ns.length), some (shownD ns), none, some (.lst things), none, none, none] S = .ok (.lst ((hasB ns).map .bl)) S := by
    refine lc_pure (i := 7) (xs := ups 0 6) (hasF ns) rfl (by decide) ?_
    intro x hx
    obtain ⟨i, rfl, h0, h1⟩ := ups_mem hx
    exact bin_ok rfl rfl (in_lst i ns S)
  have h8 : lcE (.nm 8) (iSeq (v 5)) tYs (bin (inO [("Row", F_RowD_containsD)] (inG false)) (v 8) (v 0)) [some (rowD ns), some (.lst (ns.map .int)), some (.int ns.length), some (shownD ns), none, some (.lst things), some (.lst ((dueB ns).map .bl)), none, none] S = .ok (.lst ((dueB ns).map .bl)) S := by
    rw [← things_has hg]
    refine lc_pure (i := 8) (xs := things) (hasF ns) rfl (by decide) ?_
    intro x hx
    have e := things_each hg S x hx
    refine bin_ok rfl rfl ?_
    cases x <;> exact has_row e
  have hb : ∀ S, reprI reprB [.lst ((dueB ns).map .bl)] S = .ok (.str (PyData.list ((dueB ns).map .bool)).shown) S := fun S => repr_bls (dueB ns) (by simp [dueB, hasB]) S
  refine run_ok rfl rfl (go_nx (ρ' := [some (rowD ns), some (.lst (ns.map .int)), some (.int ns.length), none, none, none, none, none, none]) (set_ok (cal_ok (cons_ok rfl rfl) (lenO_lst ns S))) (go_nx (ρ' := [some (rowD ns), some (.lst (ns.map .int)), some (.int ns.length), some (shownD ns), none, none, none, none, none]) (set_ok (lst_ok (cons_ok (una_ok rfl (f_pits ns S)) (cons_ok (cal_ok (cons_ok rfl rfl) (lenO_row hg S)) (cons_ok (cal_ok (cons_ok rfl rfl) (strO_row hg S)) rfl))) (by show 3 ≤ 1000; decide))) ?_))
  refine go_nx (if_no' (or_no (not_tru (cal_ok (cons_ok rfl (cons_ok rfl rfl)) (show isiF (isiC [("Row", true)]) (isCl "Row") [rowD ns, .cls "Row"] S = .ok (.bl true) S from rfl))) (tst_ok (bin_ok (cal_ok (cons_ok rfl rfl) (hz S)) (cal_ok (cons_ok (lst_ok (cons_ok (cal_ok (cons_ok rfl rfl) (show tupB [.lst (ns.map .int)] S = .ok (.tup (ns.map .int)) S from rfl)) (cons_ok rfl (cons_ok (cal_ok (cons_ok rfl rfl) (e_text hg S)) rfl))) (by show 3 ≤ 1000; decide)) rfl) (hz S)) (ne_str z S)))) rfl) ?_
  refine go_nx (if_no' (or_no (tst_ok (bin_ok h3 rfl (ne_lst ns S))) (tst_ok (bin_ok (cm_ok rfl (cons_ok (cal_ok (cons_ok rfl rfl) (e_text hg S)) rfl) (e_read hg S)) rfl (ne_row ns S)))) rfl) ?_
  refine go_nx (ρ' := [some (rowD ns), some (.lst (ns.map .int)), some (.int ns.length), some (shownD ns), none, some (.lst things), none, none, none]) (S' := S) rfl ?_
  refine go_nx (ρ' := [some (rowD ns), some (.lst (ns.map .int)), some (.int ns.length), some (shownD ns), none, some (.lst things), some (.lst ((dueB ns).map .bl)), none, none]) (S' := S) (set_ok (bin_ok h6 rfl ?_)) ?_
  · simp [bin, lstE, aCons, aNil, k, Out.bind, mulG, repOk, addG, fits, dueB, hasB]
    decide
  · refine go_rt (ret_ok (bin_ok (cal_ok (cons_ok h8 rfl) (hb S)) (cal_ok (cons_ok rfl rfl) (hb S)) ?_))
    show (match eqD (.str _) (.str _) with | some b => Out.ok (D.bl (false ^^ b)) S | none => .no) = _
    rw [eqD_str, decide_eq_true rfl]
    rfl
end K20
set_option Elab.async false
set_option linter.all false
set_option maxRecDepth 100000
set_option maxHeartbeats 4000000
namespace K20
open PySem PV
/-! ### draws -/
theorem e_draw {S : Sto} {p : Nat} {B m : Int} (h : Pen S p B) (hB : B ≤ 1000000) (hm : 1 ≤ m) (hm' : m < 2 ^ 60) : ∃ r S', F_law_draw [.loc p, .int m] S = .ok (.int r) S' ∧ 0 ≤ r ∧ r < m ∧ SamePen p S S' ∧ Pen S' p (B + 1) :=
  draw_ok (c1 := 58751) (c2 := 1423) (c3 := 71271) (c4 := 927) (c5 := 351) (c6 := 60353) (c7 := 61) h hB hm hm' (by decide) (by decide) (by decide) (by decide) (by decide) (by decide)
theorem e_pits {S : Sto} {p : Nat} {B m : Int} (h : Pen S p B) (hB : B ≤ 900000) (hm : 0 ≤ m) (hm' : m ≤ 6) : ∃ ns S', F_law_pits [.loc p, .int m] S = .ok (.lst (ns.map .int)) S' ∧ Good ns ∧ (ns.length : Int) ≤ m ∧ SamePen p S S' ∧ Pen S' p (B + 10) := by
  obtain ⟨r, S1, e1, r0, r1, s1, p1⟩ := e_draw (m := m + 1) h (by omega) (by omega) (by omega)
  have hi : iR1 (aCons (cal F_law_draw (aCons (v 0) (aCons (bin addG (v 1) (k (.int 1))) aNil))) aNil) [some (.loc p), some (.int m), none] S = .ok (ups 0 r.toNat, none) S1 :=
    r1_ok (cons_ok (cal_ok (cons_ok rfl (cons_ok (bin_ok rfl rfl rfl) rfl)) e1) rfl) (near62_of r0 (by omega))
  obtain ⟨ds, S2, e2, ns, rfl, hn, hlen, hs, hp⟩ := lc_invN (T := .nm 2) (e := cal F_law_draw (aCons (v 0) (aCons (k (.int 6)) aNil))) (fun n acc S' => ∃ ns : List Int, acc = ns.map .int ∧ (∀ x ∈ ns, 0 ≤ x ∧ x ≤ 5) ∧ ns.length = n ∧ SamePen p S S' ∧ Pen S' p (B + 1 + n)) hi (by rw [ups_len]; omega) ⟨[], rfl, by simp, rfl, s1, by simpa using p1⟩ (by
    intro x hx n acc S2 hc ⟨ns, ea, hn, hlen, hs, hp⟩
    rw [ups_len] at hc
    obtain ⟨q, S3, e3, q0, q1, s3, p3⟩ := e_draw (m := 6) hp (by omega) (by decide) (by decide)
    exact ⟨_, .int q, S3, rfl, cal_ok (cons_ok rfl (cons_ok rfl rfl)) e3, ns ++ [q], by rw [ea]; simp, fun y hy => by
      rcases List.mem_append.mp hy with hy | hy
      · exact hn y hy
      · have : y = q := by simpa using hy
        subst this
        omega, by simp [hlen], hs.trans s3, p3.mono (by omega)⟩)
  rw [ups_len] at hlen hp
  exact ⟨ns, S2, run_ok rfl hs.len (go_rt (ret_ok e2)), ⟨by omega, hn⟩, by omega, hs, hp.mono (by omega)⟩
/-! ### the row of some moves -/
theorem eqG_lnil (ns : List Int) (S : Sto) (b : Bool) : eqG b (.lst (ns.map .int)) (.lst []) S = .ok (.bl (b ^^ decide (ns = []))) S := by
  unfold eqG
  rw [eqD_lnil]
theorem eqG_len (n m : Int) (S : Sto) (b : Bool) : eqG b (.int n) (.int m) S = .ok (.bl (b ^^ decide (n = m))) S := by
  unfold eqG
  rw [eqD_int]
theorem e_made {ns : List Int} (hg : Good ns) (S : Sto) : F_law_made [.lst (ns.map .int)] S = .ok (rowD ns) S := by
  have er := e_row hg S
  have eo := e_of_t hg S
  have hl := hg.1
  have ix : ∀ (i : Nat) (a : Int), ns[i]? = some a → bin ixG (v 0) (k (.int i)) [some (.lst (ns.map .int))] S = .ok (.int a) S := fun i a h => by
    obtain ⟨h1, h2⟩ := List.getElem?_eq_some_iff.mp h
    refine bin_ok rfl rfl ?_
    rw [ix_ints (by omega) (by omega)]
    simp [h1, h2]
  have tl : ∀ m : Int, tst (bin (eqG false) (cal lenB (aCons (v 0) aNil)) (k (.int m))) [some (.lst (ns.map .int))] S = .ok (decide ((ns.length : Int) = m)) S := fun m => by
    refine tst_ok (bin_ok (cal_ok (cons_ok rfl rfl) (len_lst _ ns S)) rfl ?_)
    rw [eqG_len]
    simp
  refine run_ok rfl rfl ?_
  match ns, hg, er, eo, ix, tl with
  | [], hg, er, eo, ix, tl =>
    refine go_nx (if_no' (tl 1) rfl) (go_nx (if_no' (tl 2) rfl) (go_nx (if_no' (tl 6) rfl) (go_rt (ret_ok (ifE_yes (S' := S) (tst_ok (bin_ok rfl (lst_ok rfl (by decide)) (eqG_lnil [] S false))) (cal_ok rfl er))))))
  | [a], hg, er, eo, ix, tl => exact go_rt (if_yes (tl 1) (sq_rt (ret_ok (cal_ok (cons_ok (ix 0 a rfl) rfl) er))))
  | [a, b], hg, er, eo, ix, tl => exact go_nx (if_no' (tl 1) rfl) (go_rt (if_yes (tl 2) (sq_rt (ret_ok (cal_ok (cons_ok (ix 0 a rfl) (cons_ok (ix 1 b rfl) rfl)) er)))))
  | [a, b, c], hg, er, eo, ix, tl =>
    exact go_nx (if_no' (tl 1) rfl) (go_nx (if_no' (tl 2) rfl) (go_nx (if_no' (tl 6) rfl) (go_rt (ret_ok (ifE_no (S' := S) (tst_ok (bin_ok rfl (lst_ok rfl (by decide)) (eqG_lnil [a, b, c] S false))) (cm_ok rfl (cons_ok (cal_ok (cons_ok rfl rfl) rfl) rfl) eo))))))
  | [a, b, c, d], hg, er, eo, ix, tl =>
    exact go_nx (if_no' (tl 1) rfl) (go_nx (if_no' (tl 2) rfl) (go_nx (if_no' (tl 6) rfl) (go_rt (ret_ok (ifE_no (S' := S) (tst_ok (bin_ok rfl (lst_ok rfl (by decide)) (eqG_lnil [a, b, c, d] S false))) (cm_ok rfl (cons_ok (cal_ok (cons_ok rfl rfl) rfl) rfl) eo))))))
  | [a, b, c, d, e], hg, er, eo, ix, tl =>
    exact go_nx (if_no' (tl 1) rfl) (go_nx (if_no' (tl 2) rfl) (go_nx (if_no' (tl 6) rfl) (go_rt (ret_ok (ifE_no (S' := S) (tst_ok (bin_ok rfl (lst_ok rfl (by decide)) (eqG_lnil [a, b, c, d, e] S false))) (cm_ok rfl (cons_ok (cal_ok (cons_ok rfl rfl) rfl) rfl) eo))))))
  | [a, b, c, d, e, f], hg, er, eo, ix, tl => exact go_nx (if_no' (tl 1) rfl) (go_nx (if_no' (tl 2) rfl) (go_rt (if_yes (tl 6) (sq_rt (ret_ok (cal_ok (cons_ok (ix 0 a rfl) (cons_ok (ix 1 b rfl) (cons_ok (ix 2 c rfl) (cons_ok (ix 3 d rfl) (cons_ok (ix 4 e rfl) (cons_ok (ix 5 f rfl) rfl)))))) er))))))
  | a :: b :: c :: d :: e :: f :: g :: r, hg, er, eo, ix, tl => exact absurd hg.1 (by simp)
/-! ### parts -/
theorem e_parts {ns : List Int} (hg : Good ns) (S : Sto) : F_law_parts_right [rowD ns, .lst (ns.map .int)] S = .ok (.bl true) S := by
  have hl := hg.1
  obtain ⟨ρ', S', hf, rfl, x, y, rfl⟩ := for_inv (T := .nm 2) (it := iR1 (aCons (bin addG (cal lenB (aCons (v 1) aNil)) (k (.int 1))) aNil)) (b := (sSeq (sFor (.nm 3) (iR2 (aCons (v 2) (aCons (bin (addG) (cal lenB (aCons (v 1) (aNil))) (k (.int 1))) (aNil)))) (sSeq (sIf (tNo (tru (cal F_law_told_right (aCons (bin (ixB "Row" F_RowD_getitemD) (v 0) (tupE (aCons (v 2) (aCons (v 3) (aNil))))) (aCons (sli (v 1) (oSo (v 2)) (oSo (v 3))) (aNil)))))) (sSeq (sRet (k (.bl false))) (sNil)) (sNil)) (sNil))) (sNil)))
    (ρ := [some (rowD ns), some (.lst (ns.map .int)), none, none]) (S := S) (S1 := S) (xs := ups 0 (ns.length + 1)) (fun j ρ S' => S' = S ∧ ∃ x y, ρ = [some (rowD ns), some (.lst (ns.map .int)), x, y]) (r1_ok (j := ns.length + 1) (cons_ok (bin_ok (cal_ok (cons_ok rfl rfl) (len_lst _ ns S)) rfl rfl) rfl) (near62_of (by omega) (by omega))) ⟨rfl, none, none, rfl⟩ (by
      rintro i x ρ S2 hx ⟨rfl, a, b, rfl⟩
      obtain ⟨rfl, hi⟩ := ups_at hx
      obtain ⟨ρ', S', hf, rfl, y, rfl⟩ := for_inv (T := .nm 3) (it := iR2 (aCons (v 2) (aCons (bin (addG) (cal lenB (aCons (v 1) (aNil))) (k (.int 1))) (aNil)))) (b := (sSeq (sIf (tNo (tru (cal F_law_told_right (aCons (bin (ixB "Row" F_RowD_getitemD) (v 0) (tupE (aCons (v 2) (aCons (v 3) (aNil))))) (aCons (sli (v 1) (oSo (v 2)) (oSo (v 3))) (aNil)))))) (sSeq (sRet (k (.bl false))) (sNil)) (sNil)) (sNil)))
        (ρ := [some (rowD ns), some (.lst (ns.map .int)), some (.int (0 + (i : Nat))), b]) (S := S2) (S1 := S2) (fun j ρ S' => S' = S2 ∧ ∃ y, ρ = [some (rowD ns), some (.lst (ns.map .int)), some (.int (0 + (i : Nat))), y]) (r2_ok (i := 0 + (i : Nat)) (j := ns.length + 1) (cons_ok rfl (cons_ok (bin_ok (cal_ok (cons_ok rfl rfl) (len_lst _ ns S2)) rfl rfl) rfl)) (near62_of (by omega) (by omega)) (near62_of (by omega) (by omega))) ⟨rfl, b, rfl⟩ (by
          rintro j x ρ S3 hx ⟨rfl, c, rfl⟩
          obtain ⟨rfl, hj⟩ := ups_at hx
          have ei : (0 : Int) + (i : Nat) = (i : Nat) := by omega
          have ej : (0 : Int) + (i : Nat) + (j : Nat) = ((i + j : Nat) : Int) := by omega
          have ec := e_cut hg (a := i) (b := i + j) (by omega) (by omega) S3
          have et := e_told (hg.cut i (i + j - i)) S3
          refine ⟨_, _, S3, rfl, .inl (sq_nx (if_no' (not_tru (cal_ok (cons_ok (S1 := S3) (bin_ok rfl (tup_ok (cons_ok rfl (cons_ok rfl rfl)) (by show 2 ≤ 1000; decide)) ?_) (cons_ok (sli_ok rfl rfl rfl ?_) rfl)) et)) rfl) rfl), rfl, _, rfl⟩
          · rw [ej, ei]
            exact ec
          · rw [ej, ei]
            show Out.ok (D.lst (cutD (ns.map D.int) (some (i : Int)) (some ((i + j : Nat) : Int)))) S3 = _
            rw [cut_ints ns (by omega) (by omega)])
      exact ⟨_, _, S', rfl, .inl (sq_nx hf rfl), rfl, _, _, rfl⟩)
  exact run_ok rfl rfl (go_nx hf (go_rt rfl))
end K20
set_option Elab.async false
set_option linter.all false
set_option maxRecDepth 100000
set_option maxHeartbeats 4000000
namespace K20
open PySem PV
theorem add_rows {ns ms : List Int} (h : Good ns) (h' : Good ms) (hl : ns.length + ms.length ≤ 6) (S : Sto) : binO "Row" F_RowD_addD addG (rowD ns) (rowD ms) S = .ok (rowD (ns ++ ms)) S := by
  show okRes (F_RowD_addD [rowD ns, rowD ms] S) = _
  rw [e_add h h' hl]
  rfl
theorem add_row1 {ns : List Int} {n : Int} (h : Good ns) (hn : 0 ≤ n ∧ n ≤ 5) (hl : ns.length < 6) (S : Sto) : binO "Row" F_RowD_addD addG (rowD ns) (.int n) S = .ok (rowD (ns ++ [n])) S := by
  show okRes (F_RowD_addD [rowD ns, .int n] S) = _
  rw [e_add1 h hn hl]
  rfl
theorem add_lsts {ns ms : List Int} (h : ns.length ≤ 10) (h' : ms.length ≤ 10) (S : Sto) : binO "Row" F_RowD_addD addG (.lst (ns.map .int)) (.lst (ms.map .int)) S = .ok (.lst ((ns ++ ms).map .int)) S := by
  show (if fits (ns.map D.int).length (ms.map D.int).length = true then Out.ok (D.lst (ns.map D.int ++ ms.map D.int)) S else .no) = _
  rw [if_pos, List.map_append]
  unfold fits
  have e : sizeLine = 16777216 := by decide
  rw [List.length_map, List.length_map, e]
  exact decide_eq_true (by omega)
theorem cmp_rows (ns ms : List Int) (S : Sto) : cmpO [("Row", F_RowD_eqD)] ["Row"] (eqG false) (rowD ns) (rowD ms) S = .ok (.bl (decide (ns = ms))) S := by
  show onlyB (F_RowD_eqD [rowD ns, rowD ms] S) = _
  rw [e_eq]
  rfl
theorem cmp_lsts (ns ms : List Int) (S : Sto) : cmpO [("Row", F_RowD_eqD)] ["Row"] (eqG false) (.lst (ns.map .int)) (.lst (ms.map .int)) S = .ok (.bl (decide (ns = ms))) S := by
  show (match eqD (.lst (ns.map .int)) (.lst (ms.map .int)) with | some b => Out.ok (D.bl (false ^^ b)) S | none => .no) = _
  rw [eqD_lints]
  simp
theorem cmp_tup (ns : List Int) (xs : List D) (S : Sto) : cmpO [("Row", F_RowD_eqD)] ["Row"] (eqG false) (rowD ns) (.tup xs) S = .ok (.bl false) S := by
  show onlyB (F_RowD_eqD [rowD ns, .tup xs] S) = _
  rw [e_eq_tup]
  rfl
theorem cmp_str (ns : List Int) (xs : Str) (S : Sto) : cmpO [("Row", F_RowD_eqD)] ["Row"] (eqG false) (rowD ns) (.str xs) S = .ok (.bl false) S := by
  show onlyB (F_RowD_eqD [rowD ns, .str xs] S) = _
  rw [e_eq_str]
  rfl
theorem ne_rlst (ns : List Int) (xs : List D) (S : Sto) : neO [("Row", F_RowD_eqD)] ["Row"] (eqG true) (rowD ns) (.lst xs) S = .ok (.bl true) S := by
  show notB (F_RowD_eqD [rowD ns, .lst xs] S) = _
  rw [e_eq_lst]
  rfl
theorem ne_bls (b : Bool) (S : Sto) : neO [("Row", F_RowD_eqD)] ["Row"] (eqG true) (.bl b) (.bl b) S = .ok (.bl false) S := by
  cases b <;> rfl
theorem e_joined {ns ms : List Int} (h : Good ns) (h' : Good ms) (S : Sto) : F_law_joined_right [.lst (ns.map .int), .lst (ms.map .int)] S = .ok (.bl true) S := by
  have hl := h.1
  have hl' := h'.1
  have rest : ∀ x : Option D, fin ((sSeq (sIf (tOr (tst (bin (neO [("Row", F_RowD_eqD)] ["Row"] (eqG true)) (bin (cmpO [("Row", F_RowD_eqD)] ["Row"] (eqG false)) (v 2) (v 3)) (bin (cmpO [("Row", F_RowD_eqD)] ["Row"] (eqG false)) (v 0) (v 1)))) (tOr (tst (bin (cmpO [("Row", F_RowD_eqD)] ["Row"] (eqG false)) (v 2) (cal tupB (aCons (v 0) (aNil))))) (tOr (tst (bin (cmpO [("Row", F_RowD_eqD)] ["Row"] (eqG false)) (v 2) (cal (strO [("Row", F_RowD_strD)] strB) (aCons (v 2) (aNil))))) (tNo (tst (bin (neO [("Row", F_RowD_eqD)] ["Row"] (eqG true)) (v 2) (v 0))))))) (sSeq (sRet (k (.bl false))) (sNil)) (sNil)) (sSeq (sRet (anE (cal F_law_told_right (aCons (v 2) (aCons (v 0) (aNil)))) (cal F_law_told_right (aCons (v 3) (aCons (v 1) (aNil)))))) (sNil))) [some (.lst (ns.map .int)), some (.lst (ms.map .int)), some (rowD ns), some (rowD ms), x] S) = .ok (.bl true) S := fun x =>
    go_nx (if_no' (or_no (tst_ok (bin_ok (bin_ok rfl rfl (cmp_rows ns ms S)) (bin_ok rfl rfl (cmp_lsts ns ms S)) (ne_bls _ S))) (or_no (tst_ok (bin_ok rfl (cal_ok (cons_ok rfl rfl) rfl) (cmp_tup ns _ S))) (or_no (tst_ok (bin_ok rfl (cal_ok (cons_ok rfl rfl) (strO_row h S)) (cmp_str ns _ S))) (no_ok (tst_ok (bin_ok rfl rfl (ne_rlst ns _ S))))))) rfl) (go_rt (ret_ok (anE_yes (cal_ok (cons_ok rfl (cons_ok rfl rfl)) (e_told h S)) (cal_ok (cons_ok rfl (cons_ok rfl rfl)) (e_told h' S)))))
  have ht : tst (bin ltG (bin (binO "Row" F_RowD_addD addG) (cal lenB (aCons (v 0) aNil)) (cal lenB (aCons (v 1) aNil))) (k (.int 7))) [some (.lst (ns.map .int)), some (.lst (ms.map .int)), some (rowD ns), some (rowD ms), none] S = .ok (decide ((ns.length : Int) + ms.length < 7)) S :=
    tst_ok (bin_ok (bin_ok (cal_ok (cons_ok rfl rfl) (len_lst _ ns S)) (cal_ok (cons_ok rfl rfl) (len_lst _ ms S)) rfl) rfl rfl)
  refine run_ok rfl rfl (go_nx (ρ' := [some (.lst (ns.map .int)), some (.lst (ms.map .int)), some (rowD ns), some (rowD ms), none]) (S' := S) (par_ok (cons_ok (cal_ok (cons_ok rfl rfl) (e_made h S)) (cons_ok (cal_ok (cons_ok rfl rfl) (e_made h' S)) rfl))) ?_)
  by_cases c : ns.length + ms.length ≤ 6
  · have hg := h.app h' c
    rw [decide_eq_true (show (ns.length : Int) + ms.length < 7 by omega)] at ht
    refine go_nx (ρ' := [some (.lst (ns.map .int)), some (.lst (ms.map .int)), some (rowD ns), some (rowD ms), some (rowD (ns ++ ms))]) (S' := S) (if_yes ht (sq_nx (set_ok rfl) (sq_nx (aug_ok rfl rfl (add_rows h h' c S)) (sq_nx (if_no' (or_no (not_tru (cal_ok (cons_ok (bin_ok rfl rfl (add_rows h h' c S)) (cons_ok (bin_ok rfl rfl (add_lsts (by omega) (by omega) S)) rfl)) (e_told hg S))) (not_tru (cal_ok (cons_ok rfl (cons_ok (bin_ok rfl rfl (add_lsts (by omega) (by omega) S)) rfl)) (e_told hg S)))) rfl) rfl)))) (rest _)
  · rw [decide_eq_false (show ¬ ((ns.length : Int) + ms.length < 7) by omega)] at ht
    exact go_nx (if_no' ht rfl) (rest _)
/-! ### times -/
theorem times_row {ns : List Int} {m : Int} (h : Good ns) (h0 : 0 ≤ m) (hl : (ns.length : Int) * m ≤ 6) (S : Sto) : rbinO "Row" F_RowD_rmulD (binO "Row" F_RowD_mulD mulT) (rowD ns) (.int m) S = .ok (rowD (rep ns m)) S := by
  show okRes (F_RowD_mulD [rowD ns, .int m] S) = _
  rw [e_mul h h0 hl]
  rfl
theorem rtimes_row {ns : List Int} {m : Int} (h : Good ns) (h0 : 0 ≤ m) (hl : (ns.length : Int) * m ≤ 6) (S : Sto) : rbinO "Row" F_RowD_rmulD (binO "Row" F_RowD_mulD mulT) (.int m) (rowD ns) S = .ok (rowD (rep ns m)) S := by
  show okRes (F_RowD_rmulD [rowD ns, .int m] S) = _
  rw [e_rmul h h0 hl]
  rfl
theorem itimes_row {ns : List Int} {m : Int} (h : Good ns) (h0 : 0 ≤ m) (hl : (ns.length : Int) * m ≤ 6) (S : Sto) : ipO "Row" F_RowD_mulD noG2 (rowD ns) (.int m) S = .ok (rowD (rep ns m)) S := by
  show okRes (F_RowD_mulD [rowD ns, .int m] S) = _
  rw [e_mul h h0 hl]
  rfl
theorem times_len {ns : List Int} {m : Int} (h : Good ns) (S : Sto) : rbinO "Row" F_RowD_rmulD (binO "Row" F_RowD_mulD mulT) (.int ns.length) (.int m) S = .ok (.int (ns.length * m)) S := by
  have : ∀ n : Int, mulOk n m = true → rbinO "Row" F_RowD_rmulD (binO "Row" F_RowD_mulD mulT) (.int n) (.int m) S = .ok (.int (n * m)) S := fun n hn => by
    show (if mulOk n m = true then Out.ok (D.int (n * m)) S else .no) = _
    rw [if_pos hn]
  exact this _ (hm_row h)
theorem times_lst {ns : List Int} {m : Int} (h : Good ns) (hne : ns ≠ []) (h0 : 0 ≤ m) (hl : (ns.length : Int) * m ≤ 6) (S : Sto) : rbinO "Row" F_RowD_rmulD (binO "Row" F_RowD_mulD mulT) (.lst (ns.map .int)) (.int m) S = .ok (.lst ((rep ns m).map .int)) S := by
  have h1 : (1 : Int) ≤ ns.length := by
    have := List.length_pos_iff.mpr hne
    omega
  have h2 : 1 * m ≤ ns.length * m := Int.mul_le_mul_of_nonneg_right h1 h0
  have hk : repOk (ns.map D.int).length m = true := by
    unfold repOk
    have e : sizeLine = 16777216 := by decide
    have e2 : ((ns.length * m.toNat : Nat) : Int) = ns.length * m := by rw [Int.natCast_mul, Int.toNat_of_nonneg h0]
    rw [List.length_map, decide_eq_true (show -(2 ^ 63 : Int) ≤ m by omega), decide_eq_true (show m < 2 ^ 63 by omega), decide_eq_true (show ns.length * m.toNat ≤ sizeLine by rw [e]; omega)]
    rfl
  show (if repOk (ns.map D.int).length m = true then Out.ok (D.lst (List.replicate m.toNat (ns.map D.int)).flatten) S else .no) = _
  rw [if_pos hk, rep_map]
  rfl
theorem e_times {ns : List Int} {m : Int} (h : Good ns) (h0 : 0 ≤ m) (S : Sto) : F_law_times_right [.lst (ns.map .int), .int m] S = .ok (.bl true) S := by
  have ht : tst (bin gtG (bin (rbinO "Row" F_RowD_rmulD (binO "Row" F_RowD_mulD mulT)) (cal lenB (aCons (v 0) aNil)) (v 1)) (k (.int 6))) [some (.lst (ns.map .int)), some (.int m), none, none, none] S = .ok (decide (6 < (ns.length : Int) * m)) S :=
    tst_ok (bin_ok (bin_ok (cal_ok (cons_ok rfl rfl) (len_lst _ ns S)) rfl (times_len h S)) rfl rfl)
  by_cases c : (ns.length : Int) * m ≤ 6
  · rw [decide_eq_false (show ¬ (6 < (ns.length : Int) * m) by omega)] at ht
    have hg := h.reps h0 c
    have hd : ifE (tst (bin (eqG true) (v 0) (lstE aNil))) (bin (rbinO "Row" F_RowD_rmulD (binO "Row" F_RowD_mulD mulT)) (v 0) (v 1)) (lstE aNil) [some (.lst (ns.map .int)), some (.int m), some (rowD ns), none, none] S = .ok (.lst ((rep ns m).map .int)) S := by
      by_cases hne : ns = []
      · subst hne
        have er : rep [] m = [] := by unfold rep; simp
        rw [er]
        exact ifE_no (tst_ok (bin_ok rfl (lst_ok rfl (by decide)) (eqG_lnil [] S true))) (lst_ok rfl (by decide))
      · have e := eqG_lnil ns S true
        rw [decide_eq_false hne] at e
        exact ifE_yes (tst_ok (bin_ok rfl (lst_ok rfl (by decide)) e)) (bin_ok rfl rfl (times_lst h hne h0 c S))
    exact run_ok rfl rfl (go_nx (if_no' ht rfl) (go_nx (ρ' := [some (.lst (ns.map .int)), some (.int m), some (rowD ns), none, none]) (set_ok (cal_ok (cons_ok rfl rfl) (e_made h S))) (go_nx (ρ' := [some (.lst (ns.map .int)), some (.int m), some (rowD ns), some (rowD ns), some (.lst ((rep ns m).map .int))]) (par_ok (cons_ok rfl (cons_ok hd rfl))) (go_nx (ρ' := [some (.lst (ns.map .int)), some (.int m), some (rowD ns), some (rowD (rep ns m)), some (.lst ((rep ns m).map .int))]) (aug_ok rfl rfl (itimes_row h h0 c S))
      (go_nx (if_no' (or_no (not_tru (cal_ok (cons_ok (bin_ok rfl rfl (times_row h h0 c S)) (cons_ok rfl rfl)) (e_told hg S))) (or_no (not_tru (cal_ok (cons_ok (bin_ok rfl rfl (rtimes_row h h0 c S)) (cons_ok rfl rfl)) (e_told hg S))) (not_tru (cal_ok (cons_ok rfl (cons_ok rfl rfl)) (e_told hg S))))) rfl) (go_rt (ret_ok (cal_ok (cons_ok rfl (cons_ok rfl rfl)) (e_told h S)))))))))
  · rw [decide_eq_true (show 6 < (ns.length : Int) * m by omega)] at ht
    exact run_ok rfl rfl (go_rt (if_yes ht (sq_rt rfl)))
/-! ### turned -/
theorem e_turn {S : Sto} {p : Nat} {B : Int} {ns : List Int} (hp : Pen S p B) (hB : B ≤ 900000) (hg : Good ns) : ∃ S', F_law_turned_right [.loc p, .lst (ns.map .int)] S = .ok (.bl true) S' ∧ SamePen p S S' ∧ Pen S' p (B + 3) := by
  have hl := hg.1
  obtain ⟨L, hL⟩ : ∃ L, L = greatest ((ns ++ [1]).map (· + 1)) := ⟨_, rfl⟩
  have mx := max_ok (ns := (ns ++ [1]).map (· + 1)) (by simp)
  rw [← hL] at mx
  have L1 : 1 ≤ L := by
    have := mx.2 (1 + 1) (by simp)
    omega
  have L6 : L ≤ 6 := by
    obtain ⟨x, hx, e⟩ := List.mem_map.mp mx.1
    rcases List.mem_append.mp hx with hx | hx
    · have := hg.2 x hx
      omega
    · have : x = 1 := by simpa using hx
      omega
  have e1 : (cal maxL (aCons (lcE (.nm 3) (iSeq (bin (addG) (v 1) (lstE (aCons (k (.int 1)) (aNil))))) (tYs) (cal intB (aCons (bin (addG) (v 3) (k (.int 1))) (aNil)))) (aNil))) [some (.loc p), some (.lst (ns.map .int)), none, none, none, none, none] S = .ok (.int L) S := by
    have ea : addG (.lst (ns.map .int)) (.lst [.int 1]) S = .ok (.lst ((ns ++ [1]).map .int)) S := add_lsts (ms := [1]) (by omega) (by decide) S
    have el := lc_ints (i := 3) (it := iSeq (bin (addG) (v 1) (lstE (aCons (k (.int 1)) (aNil))))) (e := cal intB (aCons (bin (addG) (v 3) (k (.int 1))) (aNil))) (ρ := [some (.loc p), some (.lst (ns.map .int)), none, none, none, none, none]) (S := S) (ns := ns ++ [1]) (fun x => .int (x + 1)) (by
      unfold iSeq
      rw [bin_ok rfl (lst_ok (cons_ok rfl rfl) (by show 1 ≤ 1000; decide)) ea]
      rfl) (by simp; omega) (by
      intro x hx
      rfl)
    refine cal_ok (cons_ok el rfl) ?_
    have ei : asInts ((ns ++ [1]).map fun x => D.int (x + 1)) = some ((ns ++ [1]).map (· + 1)) := by
      have := asInts_map ((ns ++ [1]).map (· + 1))
      rw [List.map_map] at this
      exact this
    unfold maxL
    simp only [ei]
    rw [if_neg (by simp), hL]
  obtain ⟨r, S1, d1, r0, r1, s1, p1⟩ := e_draw (m := 7 - L) hp (by omega) (by omega) (by omega)
  obtain ⟨q, S2, d2, q0, q1, s2, p2⟩ := e_draw (m := 100) p1 (by omega) (by decide) (by decide)
  obtain ⟨t, S3, d3, t0, t1, s3, p3⟩ := e_draw (m := 8) p2 (by omega) (by decide) (by decide)
  have hpick : F_law_pick [.loc p, .lst ([0, 1, -1, 5, 6, -7, 10 ^ 30, q].map .int)] S2 = .ok (.int ([0, 1, -1, 5, 6, -7, 10 ^ 30, q].getD t.toNat 0)) S3 :=
    run_ok rfl s3.len (go_rt (ret_ok (bin_ok rfl (cal_ok (cons_ok rfl (cons_ok (cal_ok (cons_ok rfl rfl) (len_lst _ [0, 1, -1, 5, 6, -7, 10 ^ 30, q] S2)) rfl)) d3) (ix_ints t0 (by show t < 8; exact t1)))))
  obtain ⟨K, hK⟩ : ∃ K, K = [0, 1, -1, 5, 6, -7, 10 ^ 30, q].getD t.toNat 0 := ⟨_, rfl⟩
  rw [← hK] at hpick
  have hpow : bin powG (k (.int 10)) (k (.int 30)) [some (.loc p), some (.lst (ns.map .int)), some (.int L), none, none, none, none] S1 = .ok (.int (10 ^ 30)) S1 := by
    refine bin_ok rfl rfl ?_
    unfold powG
    simp only [show powOk 10 30 = true by decide, if_true]
    rfl
  have g : Good (ns.map fun x => (x + K) % (L + r)) := ⟨by simpa using hl, fun y hy => by
    obtain ⟨x, _, rfl⟩ := List.mem_map.mp hy
    have a := Int.emod_nonneg (x + K) (b := L + r) (by omega)
    have b := Int.emod_lt_of_pos (x + K) (show 0 < L + r by omega)
    omega⟩
  have el := lc_ints (i := 3) (it := iSeq (v 1)) (e := bin modG (cal intB (aCons (bin addG (v 3) (v 5)) aNil)) (v 4)) (ρ := [some (.loc p), some (.lst (ns.map .int)), some (.int L), none, some (.int (L + r)), some (.int K), some (rowD ns)]) (S := S3) (ns := ns) (fun x => .int ((x + K) % (L + r))) rfl (by omega) (by
    intro x hx
    refine bin_ok (cal_ok (cons_ok (bin_ok rfl rfl rfl) rfl) rfl) rfl ?_
    unfold modG
    simp only [show 0 < L + r by omega, if_true])
  have et := e_told g S3
  rw [List.map_map] at et
  have htu : mtO [("Row", F_Row_turned)] "turned" (v 6) (aCons (v 5) (aCons (v 4) aNil)) [some (.loc p), some (.lst (ns.map .int)), some (.int L), none, some (.int (L + r)), some (.int K), some (rowD ns)] S3 = .ok (rowD (ns.map fun x => (x + K) % (L + r))) S3 := by
    show F_Row_turned [rowD ns, .int K, .int (L + r)] S3 = _
    exact e_turned hg (by omega) (by omega) S3
  refine ⟨S3, run_ok rfl ((s1.trans s2).trans s3).len (go_nx (ρ' := [some (.loc p), some (.lst (ns.map .int)), some (.int L), none, none, none, none]) (set_ok e1) (go_nx (ρ' := [some (.loc p), some (.lst (ns.map .int)), some (.int L), none, some (.int (L + r)), some (.int K), none]) (S' := S3) (asg_ok (d := .tup [.int (L + r), .int K]) (tup_ok (cons_ok (S1 := S1) (bin_ok rfl (cal_ok (cons_ok rfl (cons_ok (bin_ok rfl rfl rfl) rfl)) d1) rfl) (cons_ok (cal_ok (cons_ok rfl (cons_ok (lst_ok (ds := [0, 1, -1, 5, 6, -7, 10 ^ 30, q].map .int) (S1 := S2) ?_ (by show 8 ≤ 1000; decide)) rfl)) hpick) rfl)) (by show 2 ≤ 1000; decide)) rfl) (go_nx (ρ' := [some (.loc p), some (.lst (ns.map .int)), some (.int L), none, some (.int (L + r)), some (.int K), some (rowD ns)]) (set_ok (cal_ok (cons_ok rfl rfl) (e_made hg S3))) (go_rt (ret_ok (cal_ok (cons_ok htu (cons_ok el rfl)) et)))))), (s1.trans s2).trans s3, p3.mono (by omega)⟩
  exact cons_ok rfl (cons_ok rfl (cons_ok rfl (cons_ok rfl (cons_ok rfl (cons_ok rfl (cons_ok hpow (cons_ok (cal_ok (cons_ok rfl (cons_ok rfl rfl)) d2) rfl)))))))
end K20
set_option Elab.async false
set_option linter.all false
set_option maxRecDepth 100000
set_option maxHeartbeats 4000000
namespace K20
open PySem PV
theorem e_of_loc {ns : List Int} (hg : Good ns) {S : Sto} {m : Nat} (h : S[m]? = some (.lst (ns.map .int))) : F_Row_of [.cls "Row", .loc m] S = .ok (rowD ns) S := by
  have er := e_row hg S
  refine run_ok rfl rfl (go_nx (ρ' := [some (.cls "Row"), some (.loc m)]) (S' := S) (if_no' (not_tru (b := true) ?_) rfl) (go_rt (ret_ok ?_)))
  · simp [isiA, v, Out.bind, tyD, h, subT]
  · simp [itemsF, v, Out.bind, h, er]
theorem Good.snoc {ns : List Int} {n : Int} (h : Good ns) (hl : ns.length < 6) (hn : 0 ≤ n ∧ n ≤ 5) : Good (ns ++ [n]) := h.app ⟨by simp, by simpa using hn⟩ (by simp; omega)
theorem rev_ints (ns : List Int) (S : Sto) : revG (.lst (ns.map .int)) S = .ok (.lst (ns.reverse.map .int)) S := by
  show Out.ok (D.lst (ns.map D.int).reverse) S = _
  rw [List.map_reverse]
theorem neg_row {ns : List Int} (hg : Good ns) (S : Sto) : unO [("Row", F_RowD_negD)] negG (rowD ns) S = .ok (rowD ns.reverse) S := e_neg hg S
theorem times_all {ns : List Int} (hg : Good ns) (S : Sto) {a b c d e f g h : Option D} : lcE (.nm 8) (iSeq (lstE (aCons (k (.int 0)) (aCons (k (.int 1)) (aCons (k (.int 2)) (aCons (k (.int 3)) (aCons (k (.int 6)) (aNil)))))))) (tNo (tru (cal F_law_times_right (aCons (v 3) (aCons (v 8) (aNil)))))) (v 8) [a, b, c, some (.lst (ns.map .int)), d, e, f, g, h] S = .ok (.lst []) S := by
  have z := lc_filt (i := 8) (it := iSeq (lstE (aCons (k (.int 0)) (aCons (k (.int 1)) (aCons (k (.int 2)) (aCons (k (.int 3)) (aCons (k (.int 6)) (aNil)))))))) (t := tNo (tru (cal F_law_times_right (aCons (v 3) (aCons (v 8) (aNil)))))) (e := v 8) (ρ := [a, b, c, some (.lst (ns.map .int)), d, e, f, g, h]) (S := S) (xs := [.int 0, .int 1, .int 2, .int 3, .int 6]) (fun d => d) (fun _ => false) rfl (by decide) (by
    intro x hx
    obtain ⟨n, rfl, hn⟩ : ∃ n : Int, x = .int n ∧ 0 ≤ n := by
      simp only [List.mem_cons, List.not_mem_nil, or_false] at hx
      rcases hx with rfl | rfl | rfl | rfl | rfl <;> exact ⟨_, rfl, by decide⟩
    exact not_tru (cal_ok (cons_ok rfl (cons_ok rfl rfl)) (e_times hg hn S))) (by
    intro x hx h
    cases h)
  simpa using z
noncomputable def body : MS := (sSeq (sAsg (.tp [3, 4]) (tupE (aCons (cal F_law_pits (aCons (v 1) (aCons (k (.int 6)) (aNil)))) (aCons (cal F_law_pits (aCons (v 1) (aCons (k (.int 4)) (aNil)))) (aNil))))) (sSeq (sPar 5 6 (aCons (cal listM (aCons (v 3) (aNil))) (aCons (cal F_law_draw (aCons (v 1) (aCons (k (.int 6)) (aNil)))) (aNil)))) (sSeq (sSet 7 (cmE "Row" F_Row_of (k (.cls "Row")) (aCons (v 5) (aNil)))) (sSeq (sExp (mthL appG (v 5) (aCons (k (.int 3)) (aNil)))) (sSeq (sIf (tOr (tNo (tru (cal F_law_told_right (aCons (v 7) (aCons (v 3) (aNil)))))) (tOr (tNo (tru (cal F_law_parts_right (aCons (v 7) (aCons (v 3) (aNil)))))) (tNo (tru (cal F_law_joined_right (aCons (v 3) (aCons (v 4) (aNil)))))))) (sSeq (sRet (k (.bl false))) (sNil)) (sNil)) (sSeq (sIf (tAn (tst (bin (ltG) (cal lenB (aCons (v 3) (aNil))) (k (.int 6)))) (tNo (tru (cal F_law_told_right (aCons (bin (binO "Row" F_RowD_addD (addG)) (v 7) (v 6)) (aCons (bin (binO "Row" F_RowD_addD (addG)) (v 3) (lstE (aCons (v 6) (aNil)))) (aNil))))))) (sSeq (sRet (k (.bl false))) (sNil)) (sNil)) (sSeq (sIf (tOr (tNo (tru (cal F_law_told_right (aCons (una (unO [("Row", F_RowD_negD)] negG) (v 7)) (aCons (una revG (v 3)) (aNil)))))) (tNo (tru (cal F_law_turned_right (aCons (v 1) (aCons (v 3) (aNil))))))) (sSeq (sRet (k (.bl false))) (sNil)) (sNil)) (sSeq (sIf (tst (bin (eqG true) (lcE (.nm 8) (iSeq (lstE (aCons (k (.int 0)) (aCons (k (.int 1)) (aCons (k (.int 2)) (aCons (k (.int 3)) (aCons (k (.int 6)) (aNil)))))))) (tNo (tru (cal F_law_times_right (aCons (v 3) (aCons (v 8) (aNil)))))) (v 8)) (lstE (aNil)))) (sSeq (sRet (k (.bl false))) (sNil)) (sNil)) (sNil)))))))))
theorem e_body {S : Sto} {B : Int} (hp : Pen S 0 B) (hB : B ≤ 800000) (a x2 x3 x4 x5 x6 x7 x8 : Option D) : ∃ ρ' S', body [a, some (.loc 0), x2, x3, x4, x5, x6, x7, x8] S = .ok (.nx ρ') S' ∧ (∃ y3 y4 y5 y6 y7 y8, ρ' = [a, some (.loc 0), x2, y3, y4, y5, y6, y7, y8]) ∧ Pen S' 0 (B + 50) := by
  obtain ⟨ns, S1, e1, g1, l1, s1, p1⟩ := e_pits (m := 6) hp (by omega) (by decide) (by decide)
  obtain ⟨ms, S2, e2, g2, l2, s2, p2⟩ := e_pits (m := 4) p1 (by omega) (by decide) (by decide)
  have p3 : Pen (S2 ++ [.lst (ns.map .int)]) 0 (B + 10 + 10) := p2.app
  obtain ⟨q, S3, e3, q0, q1, s3, p4⟩ := e_draw (m := 6) p3 (by omega) (by decide) (by decide)
  have hpos : 0 < S2.length := p2.lt
  have hm : S3[S2.length]? = some (.lst (ns.map .int)) := by
    rw [s3.get (by omega)]
    simp
  have e4 := e_of_loc g1 hm
  obtain ⟨S4, hS4⟩ : ∃ S4, S4 = S3.set S2.length (.lst (ns.map .int ++ [.int 3])) := ⟨_, rfl⟩
  have p5 : Pen S4 0 (B + 10 + 10 + 1) := by rw [hS4]; exact p4.set (by omega)
  have e5 : mthL appG (v 5) (aCons (k (.int 3)) aNil) [a, some (.loc 0), x2, some (.lst (ns.map .int)), some (.lst (ms.map .int)), some (.loc S2.length), some (.int q), some (rowD ns), x8] S3 = .ok .non S4 := by
    have hl := g1.1
    have : (ns.map D.int).length ≤ 1000 := by simp; omega
    simp only [mthL, v, List.getElem?_cons_succ, List.getElem?_cons_zero, Out.bind, isLoc, hm, if_true, aCons, k, aNil, appG, this, hS4]
  obtain ⟨S5, e6, s6, p6⟩ := e_turn p5 (by omega) g1
  have t6 : tAn (tst (bin ltG (cal lenB (aCons (v 3) aNil)) (k (.int 6)))) (tNo (tru (cal F_law_told_right (aCons (bin (binO "Row" F_RowD_addD addG) (v 7) (v 6)) (aCons (bin (binO "Row" F_RowD_addD addG) (v 3) (lstE (aCons (v 6) aNil))) aNil))))) [a, some (.loc 0), x2, some (.lst (ns.map .int)), some (.lst (ms.map .int)), some (.loc S2.length), some (.int q), some (rowD ns), x8] S4 = .ok false S4 := by
    have tl : tst (bin ltG (cal lenB (aCons (v 3) aNil)) (k (.int 6))) [a, some (.loc 0), x2, some (.lst (ns.map .int)), some (.lst (ms.map .int)), some (.loc S2.length), some (.int q), some (rowD ns), x8] S4 = .ok (decide ((ns.length : Int) < 6)) S4 := tst_ok (bin_ok (cal_ok (cons_ok rfl rfl) (len_lst _ ns S4)) rfl rfl)
    by_cases c : ns.length < 6
    · rw [decide_eq_true (show (ns.length : Int) < 6 by omega)] at tl
      exact an_yes tl (not_tru (cal_ok (cons_ok (bin_ok rfl rfl (add_row1 g1 (by omega) c S4)) (cons_ok (bin_ok rfl (lst_ok (cons_ok rfl rfl) (by show 1 ≤ 1000; decide)) (add_lsts (ms := [q]) (by omega) (by show 1 ≤ 10; decide) S4)) rfl)) (e_told (g1.snoc c (by omega)) S4)))
    · rw [decide_eq_false (show ¬ ((ns.length : Int) < 6) by omega)] at tl
      exact an_no tl
  refine ⟨[a, some (.loc 0), x2, some (.lst (ns.map .int)), some (.lst (ms.map .int)), some (.loc S2.length), some (.int q), some (rowD ns), x8], S5, ?_, ⟨_, _, _, _, _, _, rfl⟩, p6.mono (by omega)⟩
  exact sq_nx (ρ' := [a, some (.loc 0), x2, some (.lst (ns.map .int)), some (.lst (ms.map .int)), x5, x6, x7, x8]) (asg_ok (d := .tup [.lst (ns.map .int), .lst (ms.map .int)]) (tup_ok (cons_ok (cal_ok (cons_ok rfl (cons_ok rfl rfl)) e1) (cons_ok (cal_ok (cons_ok rfl (cons_ok rfl rfl)) e2) rfl)) (by show 2 ≤ 1000; decide)) rfl)
    (sq_nx (ρ' := [a, some (.loc 0), x2, some (.lst (ns.map .int)), some (.lst (ms.map .int)), some (.loc S2.length), some (.int q), x7, x8]) (par_ok (cons_ok (cal_ok (cons_ok rfl rfl) rfl) (cons_ok (cal_ok (cons_ok rfl (cons_ok rfl rfl)) e3) rfl)))
    (sq_nx (ρ' := [a, some (.loc 0), x2, some (.lst (ns.map .int)), some (.lst (ms.map .int)), some (.loc S2.length), some (.int q), some (rowD ns), x8]) (set_ok (cm_ok rfl (cons_ok rfl rfl) e4))
    (sq_nx (exp_ok e5)
    (sq_nx (if_no' (or_no (not_tru (cal_ok (cons_ok rfl (cons_ok rfl rfl)) (e_told g1 S4))) (or_no (not_tru (cal_ok (cons_ok rfl (cons_ok rfl rfl)) (e_parts g1 S4))) (not_tru (cal_ok (cons_ok rfl (cons_ok rfl rfl)) (e_joined g1 g2 S4))))) rfl)
    (sq_nx (if_no' t6 rfl)
    (sq_nx (if_no' (or_no (not_tru (cal_ok (cons_ok (una_ok rfl (neg_row g1 S4)) (cons_ok (una_ok rfl (rev_ints ns S4)) rfl)) (e_told g1.rev S4))) (not_tru (cal_ok (cons_ok rfl (cons_ok rfl rfl)) e6))) rfl)
    (sq_nx (if_no' (tst_ok (bin_ok (times_all g1 S5) (lst_ok rfl (by decide)) (eqG_lnil [] S5 true))) rfl) rfl)))))))
theorem e_law {cs : List Int} (h : cs.length ≤ 63) : F_law [.src (cs.map .int)] [] = .ok (.bl true) [] := by
  obtain ⟨ρ', S', hf, ⟨x2, x3, x4, x5, x6, x7, x8, rfl⟩, hp⟩ := for_inv (T := .nm 2) (it := iR1 (aCons (k (.int 6)) aNil)) (b := body) (ρ := [some (.src (cs.map .int)), some (.loc 0), none, none, none, none, none, none, none]) (S := [penC cs 0 0]) (S1 := [penC cs 0 0]) (xs := ups 0 6) (fun j ρ S' => (∃ x2 x3 x4 x5 x6 x7 x8, ρ = [some (.src (cs.map .int)), some (.loc 0), x2, x3, x4, x5, x6, x7, x8]) ∧ Pen S' 0 (50 * (j : Nat))) rfl ⟨⟨_, _, _, _, _, _, _, rfl⟩, cs, 0, 0, rfl, h, by omega, by omega⟩ (by
    rintro j x ρ S2 hx ⟨⟨x2, x3, x4, x5, x6, x7, x8, rfl⟩, hp⟩
    obtain ⟨rfl, hj⟩ := ups_at hx
    obtain ⟨ρ', S', hb, ⟨y3, y4, y5, y6, y7, y8, rfl⟩, hp'⟩ := e_body hp (by omega) (some (.src (cs.map .int))) (some (.int (0 + (j : Nat)))) x3 x4 x5 x6 x7 x8
    exact ⟨_, _, S', rfl, .inl hb, ⟨_, _, _, _, _, _, _, rfl⟩, hp'.mono (by omega)⟩)
  have hpow : bin powG (k (.int 10)) (k (.int 30)) [some (.src (cs.map .int)), some (.loc 0), x2, x3, x4, x5, x6, x7, x8] S' = .ok (.int (10 ^ 30)) S' := by
    refine bin_ok rfl rfl ?_
    unfold powG
    simp only [show powOk 10 30 = true by decide, if_true]
    rfl
  have g0 : Good [] := ⟨by decide, by simp⟩
  have ecc : ccE "Row" (.int 6) (k (.cls "Row")) [some (.src (cs.map .int)), some (.loc 0), x2, x3, x4, x5, x6, x7, x8] S' = .ok (.int 6) S' := by
    simp [ccE, k, Out.bind, isCl]
  have e6 : reprI reprB [.int 6] S' = .ok (.str (strOf 6)) S' := rfl
  exact run_nil rfl rfl (go_nx (ρ' := [some (.src (cs.map .int)), some (.loc 0), none, none, none, none, none, none, none]) (S' := [penC cs 0 0]) (set_ok (cal_ok (cons_ok rfl rfl) (pen_ok h))) (go_nx hf (go_rt (ret_ok (anE_yes (cal_ok (cons_ok (lst_ok rfl (by decide)) (cons_ok hpow rfl)) (e_times (ns := []) g0 (by decide) S')) (bin_ok (cal_ok (cons_ok ecc rfl) e6) rfl (by
    show (match eqD (.str (strOf 6)) (.str "6") with | some b => Out.ok (D.bl (false ^^ b)) S' | none => .no) = _
    rw [eqD_str, decide_eq_true (by decide +kernel)]
    rfl)))))))
end K20
open PySem PySem.W PySem.Calls PyProof.Rows
set_option maxRecDepth 100000
set_option maxHeartbeats 0
theorem PySem.Challenge.cw_lapseeds_k20_rows_put_together_holds : PySem.Challenge.rw_lapseeds_k20_rows_put_together.Holds := by
  w_on; o_law
  refine HandSHeadRun.head_any (r := OpenLaw.row PySem.Challenge.rw_lapseeds_k20_rows_put_together) (q := view (OpenLaw.row PySem.Challenge.rw_lapseeds_k20_rows_put_together).prog [30]) (H := K20.hk) (ob := K20.ob) (M := 8000) (loose := K20.loose) (d := HandSHeadRun.topDef (OpenLaw.row PySem.Challenge.rw_lapseeds_k20_rows_put_together).prog 30) (kwd := []) K20.ob_eq
    (by kernel_rfl) (fun s => by kernel_rfl) K20.run (by kernel_rfl) (by kernel_rfl) (by kernel_rfl) (by rfl) (by first | assumption | decide +kernel) (by decide +kernel) ⟨rfl, rfl, rfl, rfl, rfl, by decide +kernel⟩ ?hw ?hc
  case hw => w_witness2
  case hc =>
    refine ZL.walk_ofG (l := PySem.Challenge.rw_lapseeds_k20_rows_put_together) (n := 63) (k := 10) rfl (by decide) (by kernel_rfl) ⟨rfl, by decide, by decide⟩ ?F
    intro w mg fa h Y G hmg0
    obtain ⟨K, KX, c⟩ := Y
    have hmg : mg ("law" : PySem.Str) = some (.ref fa) := by
      have e : (HandSHeadRun.topDef (OpenLaw.row PySem.Challenge.rw_lapseeds_k20_rows_put_together).prog 30).name = ("law" : PySem.Str) := by kernel_rfl
      rw [← e]
      exact hmg0
    have T := K20.tx KX G c
    have efa : fa = He.ga K "law" := by
      have z := T.glo "law" (by decide +kernel)
      rw [hmg] at z
      exact Value.ref.inj (Option.some.inj z)
    subst efa
    exact ⟨K, PV.spEnd K K20.F_law, KX, fun H a ns hl _ hS => PV.end_at hS (K20.e_law hl), fun base _ _ => PV.end_of (K20.w_law T)⟩
