import PyProof.Rows.All
import Wide.All
import OpenK.AllK
import Wide.FinOn
import KE.KStateDown
import KE.DataCmp
import Lean
import HandS.ForMost
import HandS.Exc
import HandS.Defaults
import HandS.Star
import HandS.ClsMeth
import HandS.IsInst
import HandS.TupAny
import HandS.Style
import HandS.OwnEq
import HandS.Head0
import HandS.Head1
import HandS.Head2
import HandS.HeadEnd
import HandS.HeadHook1
import HandS.HeadHook2
import HandS.HeadNt
import KE.GoesEnum
import KE.KFmtOwn
import HandS.Walk
import HandS.Codes
import PySem.Challenge.RW_lapseeds_k22_rows_in_order
import KE.SortData
set_option Elab.async false
set_option linter.all false
set_option maxRecDepth 100000
set_option maxHeartbeats 4000000
/-! My own small layer over HandS: a head's Hook by any Bool; defs called where no repr is running; own operators; data by repr and order. -/
namespace ZH
open PySem PySem.W L2
def obsZ (chk : Frag → Bool) (fn : List He5.DefA) (K : Frag) : He.AlD := (chk K && fn.all fun d => d.ok K, fn.map fun d => He5.fnA K (d.at_ K))
def SaysZ (chk : Frag → Bool) (fn : List He5.DefA) (K : Frag) : Prop := obsZ chk fn K = He5.valA fn
def obsZG (n : Nat) (chk : Frag → Bool) (fn : List He5.DefA) (g : Addr → Option Obj) : He.AlD := obsZ chk fn (He.frG g (He5.asA g n))
def hookZ (n : Nat) (chk : Frag → Bool) (fn : List He5.DefA) : PySem.W.Hook where
  α := He.AlD
  obs := fun s => obsZG n chk fn s.heap.get?
  val := fun _ => He5.valA fn
  says := fun _ h => ∃ K : Frag, K.In h ∧ SaysZ chk fn K
  of := fun _ _ e => ⟨_, He.frG_in, e⟩
  keeps := fun _ _ _ z k => z.elim fun K q => ⟨K, Frag.In.keeps q.1 k, q.2⟩
theorem obsZG_eq {n : Nat} {chk : Frag → Bool} {fn : List He5.DefA} {g : Addr → Option Obj} {s : Shared} (h : ∀ a, g a = s.heap.get? a) : obsZG n chk fn g = (hookZ n chk fn).obs s := by
  rw [show g = s.heap.get? from funext h] <;> rfl
section
variable {chk : Frag → Bool} {fn : List He5.DefA} {K : Frag}
theorem SaysZ.two (c : SaysZ chk fn K) : chk K = true ∧ (fn.all fun d => d.ok K) = true := He.ba (show (chk K && fn.all fun d => d.ok K) = true from congrArg (fun z : He.AlD => z.1) c)
theorem SaysZ.fact (c : SaysZ chk fn K) : chk K = true := c.two.1
theorem SaysZ.def_ (c : SaysZ chk fn K) (i : Nat) {d : He5.DefA} (h : fn[i]? = some d := by rfl) : ∃ fd, L2.FunD K d.name d.qual d.params d.body d.scope (d.dvs K) (d.kws K) (d.at_ K) fd := by
  have e := congrArg (fun z : He.AlD => z.2[i]?) c
  have e' : (fn.map fun d => He5.fnA K (d.at_ K))[i]? = (fn.map He5.DefA.val)[i]? := e
  rw [List.getElem?_map, List.getElem?_map, h] at e'
  exact He5.DefA.funD (Option.some.inj e') (List.all_eq_true.mp c.two.2 d (List.mem_of_getElem? h))
end
end ZH
namespace ZL
open PySem PySem.Spec PyProof.Rows L2
/-! ### defs that are called where no repr is running -/
structure FnG (P : Program) (w : World) (K : PySem.W.Frag) (mg : Str → Option Value) (base : Heap) (CX : CXT) (k : Nat) (f : Addr) (fd : FuncData) (ps : List Str) (sp : Sp) : Prop where
  len : ∀ vs H Q E, sp vs H Q E → vs.length = ps.length
  run : ∀ (A : Around) (outer : List Env) (s : Shared) (H : Hp) (args : Args) (us : List Value) (vs : List V) (Q : VK) (E : XK), A.guards = some [] → Room k A → Env0 P w K mg base A outer s H → BindsTo s fd args (ps.zip us) → Vals vs us →
    sp vs H Q E → codeAny (model P w) A (.call (.ref f) args) (CR CX outer P w H s Q E) s
section
variable {P : Program} {w : World} {K : PySem.W.Frag} {mg : Str → Option Value} {base : Heap} {x qual : Str} {params : Arguments} {body : List Stmt} {scope : Scope} {dvs : List V} {kws : List (Str × V)} {f : Addr} {fd : FuncData} {CX : CXT} {N ps : List Str} {j k : Nat} {sp : Sp}
theorem FnG.of (F : FnOk P w K mg base CX k f fd ps sp) : FnG P w K mg base CX k f fd ps sp := ⟨F.len, fun A outer s H args us vs Q E _ hr e0 hb r h => F.run A outer s H args us vs Q E hr e0 hb r h⟩
theorem FnG.mono (F : FnG P w K mg base CX j f fd ps sp) (h : j ≤ k) : FnG P w K mg base CX k f fd ps sp := ⟨F.len, fun A outer s H args us vs Q E hg hr => F.run A outer s H args us vs Q E hg (hr.mono h)⟩
/-- a def's promise by its body, where no repr is running -/
theorem okG (F : FunD K x qual params body scope dvs kws f fd) (S : FnScope N ps scope) (len : ∀ vs H Q E, sp vs H Q E → vs.length = ps.length)
    (hbody : ∀ (cdv : Value) (A : Around) (outer : List Env) (s : Shared) (H : Hp) (vs : List V) (Q : VK) (E : XK), A.guards = some [] → Room k (A.deeper (envOfC qual scope s.heap.objs.size f cdv)) → sp vs H Q E →
      ∃ t, PSs (cxOf CX P w K mg base N qual scope f cdv A outer s H E) body t ∧ t { nx := fun _ H' => Q .non H', rt := Q } (start N vs) H) : FnG P w K mg base CX (k + 1) f fd ps sp := by
  obtain ⟨oc, od, dV, kV, doc, pm, an, cdv, ct, osl, rfl, lk, hcd, -, -⟩ := F.ex
  refine ⟨len, fun A outer s H args us vs Q E hg hr e0 hb r h => ?_⟩
  refine StX.run_bnd lk hcd S hr e0 (G := fun xs H2 => xs = vs ∧ H2 = H) (fun A' Ex Q' q => hb _ _ _ _ (q s H vs us e0 Un.refl rfl (fun _ _ z => z) r (len _ _ _ _ h) ⟨rfl, rfl⟩)) fun s2 H2 xs e hr' => ?_
  rw [e.1, e.2]
  exact hbody cdv A outer s2 H vs Q E hg hr' h
end
section
variable {X : Cx} {CX : CXT} {k : Nat} {f C : Addr} {fd : FuncData} {ps : List Str} {sp : Sp} {dvs : List V} {ds : List Value} {E : XK} {x m : Str} {p pos apos : Pos} {e o : Expr} {es : List Expr} {ta : TE} {t : TA}
theorem run_fnG {pins : List (Addr × Obj)} {σ : L2.St} {H : Hp} {s : Shared} {Q : VK} {us : List Value} {vs : List V} (F : FnG X.prog X.w X.K X.mg X.base CX k f fd ps sp) (hgd : X.A.guards = some []) (hr : Room k X.A) (hb : Binds X.K fd ps ds) (hd : Vals dvs ds) (hx : Passes CX X E)
    (I : Inv X pins σ H s) (r : Vals vs us) (h : sp (vs ++ dvs) H Q E) : wpAny (model X.prog X.w) X.A (call (.ref f) us) (EP X pins σ Q) X.xe s := by
  have r2 : Vals (vs ++ dvs) (us ++ ds) := r.append hd
  have hl : (us ++ ds).length = ps.length := r2.length ▸ F.len _ _ _ _ h
  refine wpAny_call (codeAny_mono (F.run X.A X.stack s H ⟨us, []⟩ (us ++ ds) (vs ++ dvs) Q E hgd hr I.env0 (hb s us I.kIn hl) r2 h) fun z s' hq => ?_)
  match z, hq with
  | .error e, hq => exact hx pins σ H s e s' I hq
  | .ok (.ret u), hq => exact I.after hq
  | .ok .next, hq => exact False.elim hq
  | .ok .brk, hq => exact False.elim hq
  | .ok .cont, hq => exact False.elim hq
/-- f(e, ..) of such a def -/
theorem pe_callG (F : FnG X.prog X.w X.K X.mg X.base CX k f fd ps sp) (hgd : X.A.guards = some []) (hr : Room k X.A) (hg : Gl X x) (hm : X.mg x = some (.ref f)) (hk : PySem.W.keepIn X.K (.ref f) = true) (hb : Binds X.K fd ps ds) (hd : Vals dvs ds) (hx : Passes CX X E)
    (ha : PA X (e :: es) t) (hdb : (x == ("__debug__" : Str)) = false := by decide) (he : starEach (e :: es) X.env = (false, eval e X.env) :: starEach es X.env := by rfl) (hpl : (backTo pos (starEach es X.env)).any (·.1) = false := by rfl) :
    PE X (.Call (.Name x p) (e :: es) [] pos) (tCall sp dvs E t) :=
  ⟨fun pins s σ H Q I h => wpAny_Call_Name_kw (ld_glob I hg hm (PySem.W.callWith_K (h₀ := X.base) I.ok.mod.kin hk (thn (ha.run pos pins s σ H _ I h) fun us s1 z => by
    obtain ⟨vs, H1, I1, r, q⟩ := z
    exact ⟨I1.kIn, run_fnG F hgd hr hb hd hx I1 r q⟩) he hpl) hdb)⟩
end
/-! ### a callee run from anywhere below a body -/
section
variable {X : Cx} {CX : CXT} {k : Nat} {f C g : Addr} {sp : Sp} {E : XK} {pins : List (Addr × Obj)} {σ : L2.St} {H : Hp} {s : Shared}
theorem run_at {A : Around} {Q : VK} {us : List Value} {vs : List V} (F : FnR X.prog X.w X.K X.mg X.base CX k f sp) (hr : Room k A) (hf : A.frames = X.A.frames) (hx : Passes CX X E) (I : Inv X pins σ H s) (r : Vals vs us) (h : sp vs H Q E) :
    wpAny (model X.prog X.w) A (call (.ref f) us) (EP X pins σ Q) X.xe s := by
  have e0 : Env0 X.prog X.w X.K X.mg X.base A X.stack s H := { I.env0 with frames := hf.trans I.env0.frames }
  refine wpAny_call (codeAny_mono (F A X.stack s H us vs Q E hr e0 r h) fun z s' hq => ?_)
  match z, hq with
  | .error e, hq => exact hx pins σ H s e s' I hq
  | .ok (.ret u), hq => exact I.after hq
  | .ok .next, hq => exact False.elim hq
  | .ok .brk, hq => exact False.elim hq
  | .ok .cont, hq => exact False.elim hq
theorem inst_at {a dx : Addr} {fs : List (Str × V)} (I : Inv X pins σ H s) (h : H a = some (.ins C dx fs)) : ∃ od, PySem.W.InstAt s.heap a (PySem.W.instObj C dx) C (some od) := by
  obtain ⟨mA, O, -⟩ := ins_get I.hok h
  obtain ⟨od, J, -⟩ := O.look
  exact ⟨od, J⟩
/-- a special method of a class of the text -/
structure Own (K : PySem.W.Frag) (C : Addr) (m : Str) (f : Addr) : Prop where
  at_ : PySem.W.findIn K (.ref C) m = some (some (.ref f))
  fn : PySem.W.isFn K (.ref f) = true
theorem Own.of {K : PySem.W.Frag} {m : Str} (h : Meth K C m f) : Own K C m f := ⟨h.at_, h.fn⟩
/-! ### own operators -/
/-- -x, ~x -/
def rOwn1 (C : Addr) (sp : Sp) (E : XK) : V → Hp → VK → Prop := fun x H Q => ∃ a dx fs, x = .ref a ∧ H a = some (.ins C dx fs) ∧ sp [x] H Q E
theorem un_negO (o : Own X.K C "__neg__" f) (F : FnR X.prog X.w X.K X.mg X.base CX k f sp) (hr : Room k X.A) (hx : Passes CX X E) : UnR X (unaryOp .USub) (rOwn1 C sp E) := by
  intro pins s σ H x u Q I rx h
  obtain ⟨a, dx, fs, rfl, ha, q⟩ := h
  cases rx
  obtain ⟨od, J⟩ := inst_at I ha
  obtain ⟨m, hF⟩ := I.fr
  exact PySem.W.ksp_neg hF I.ok.mod.kin J o.at_ o.fn (run_at (vs := [.ref a]) F hr rfl hx I (.cons rfl .nil) q)
theorem un_invO (o : Own X.K C "__invert__" f) (F : FnR X.prog X.w X.K X.mg X.base CX k f sp) (hr : Room k X.A) (hx : Passes CX X E) : UnR X (unaryOp .Invert) (rOwn1 C sp E) := by
  intro pins s σ H x u Q I rx h
  obtain ⟨a, dx, fs, rfl, ha, q⟩ := h
  cases rx
  obtain ⟨od, J⟩ := inst_at I ha
  obtain ⟨m, hF⟩ := I.fr
  exact PySem.W.ksp_inv hF I.ok.mod.kin J o.at_ o.fn (run_at (vs := [.ref a]) F hr rfl hx I (.cons rfl .nil) q)
/-- what an own comparison hands back -/
theorem cmpBack_bl {Q : VK} {u : Value} {s' : Shared} (h : EP X pins σ (fun v H' => (∃ b, v = .bl b) ∧ Q v H') u s') : PySem.W.CmpBack (EP X pins σ Q) u s' := by
  obtain ⟨v, H', I', r, ⟨b, rfl⟩, q⟩ := h
  cases r
  exact ⟨.bl b, H', I', rfl, q⟩
/-- x op y, x and y instances of the class at C -/
def rOwn2 (C : Addr) (sp : Sp) (E : XK) : R2 := fun x y H Q => ∃ a b dx dy fs gs, x = .ref a ∧ y = .ref b ∧ H a = some (.ins C dx fs) ∧ H b = some (.ins C dy gs) ∧ sp [x, y] H (fun v H' => (∃ b, v = .bl b) ∧ Q v H') E
theorem rc_own {op : CmpOp} {Q : VK} {a b dx dy : Addr} {fs gs : List (Str × V)} (o : Own X.K C (cmpInfo op).2.1 f) (F : FnR X.prog X.w X.K X.mg X.base CX k f sp) (hr : Room k X.A) (hx : Passes CX X E) (I : Inv X pins σ H s) (ha : H a = some (.ins C dx fs)) (hb : H b = some (.ins C dy gs))
    (q : sp [.ref a, .ref b] H (fun v H' => (∃ b, v = .bl b) ∧ Q v H') E) : wpAny (model X.prog X.w) X.A (richCompare op (.ref a) (.ref b)) (EP X pins σ Q) X.xe s := by
  obtain ⟨od, J⟩ := inst_at I ha
  obtain ⟨od', J'⟩ := inst_at I hb
  obtain ⟨m, hF⟩ := I.fr
  exact PySem.W.cmp_K hr.units0 hF I.ok.mod.kin J J'.type (by simp [PySem.W.notFirst]) o.at_ o.fn (thn (run_at (vs := [.ref a, .ref b]) F hr rfl hx I (.cons rfl (.cons rfl .nil)) q) fun u s' z => cmpBack_bl z)
theorem op_ltO (o : Own X.K C "__lt__" f) (F : FnR X.prog X.w X.K X.mg X.base CX k f sp) (hr : Room k X.A) (hx : Passes CX X E) : OpR X (compareOp .Lt) (rOwn2 C sp E) := by
  rintro pins s σ H x y v u Q I rx ry ⟨a, b, dx, dy, fs, gs, rfl, rfl, ha, hb, q⟩
  cases rx
  cases ry
  exact rc_own (op := .Lt) o F hr hx I ha hb q
theorem op_leO (o : Own X.K C "__le__" f) (F : FnR X.prog X.w X.K X.mg X.base CX k f sp) (hr : Room k X.A) (hx : Passes CX X E) : OpR X (compareOp .LtE) (rOwn2 C sp E) := by
  rintro pins s σ H x y v u Q I rx ry ⟨a, b, dx, dy, fs, gs, rfl, rfl, ha, hb, q⟩
  cases rx
  cases ry
  exact rc_own (op := .LtE) o F hr hx I ha hb q
theorem op_gtO (o : Own X.K C "__gt__" f) (F : FnR X.prog X.w X.K X.mg X.base CX k f sp) (hr : Room k X.A) (hx : Passes CX X E) : OpR X (compareOp .Gt) (rOwn2 C sp E) := by
  rintro pins s σ H x y v u Q I rx ry ⟨a, b, dx, dy, fs, gs, rfl, rfl, ha, hb, q⟩
  cases rx
  cases ry
  exact rc_own (op := .Gt) o F hr hx I ha hb q
theorem op_geO (o : Own X.K C "__ge__" f) (F : FnR X.prog X.w X.K X.mg X.base CX k f sp) (hr : Room k X.A) (hx : Passes CX X E) : OpR X (compareOp .GtE) (rOwn2 C sp E) := by
  rintro pins s σ H x y v u Q I rx ry ⟨a, b, dx, dy, fs, gs, rfl, rfl, ha, hb, q⟩
  cases rx
  cases ry
  exact rc_own (op := .GtE) o F hr hx I ha hb q
theorem op_eqO (o : Own X.K C "__eq__" f) (F : FnR X.prog X.w X.K X.mg X.base CX k f sp) (hr : Room k X.A) (hx : Passes CX X E) : OpR X (compareOp .Eq) (rOwn2 C sp E) := by
  rintro pins s σ H x y v u Q I rx ry ⟨a, b, dx, dy, fs, gs, rfl, rfl, ha, hb, q⟩
  cases rx
  cases ry
  exact rc_own (op := .Eq) o F hr hx I ha hb q
end
/-! ### order of data -/
section
open PySem.W (alike dataLt lt_data le_data)
variable {X : Cx}
def rLtD (K : PySem.W.Frag) : R2 := fun x y H Q => ∃ d e, Dp K H x d ∧ Dp K H y e ∧ alike d e = true ∧ d ≠ .none ∧ d.depth ≤ 60 ∧ Q (.bl (dataLt d e)) H
def rGtD (K : PySem.W.Frag) : R2 := fun x y H Q => ∃ d e, Dp K H x d ∧ Dp K H y e ∧ alike d e = true ∧ d ≠ .none ∧ d.depth ≤ 60 ∧ Q (.bl (dataLt e d)) H
def rLeD (K : PySem.W.Frag) : R2 := fun x y H Q => ∃ d e, Dp K H x d ∧ Dp K H y e ∧ alike d e = true ∧ d ≠ .none ∧ d.depth ≤ 60 ∧ Q (.bl (!dataLt e d)) H
def rGeD (K : PySem.W.Frag) : R2 := fun x y H Q => ∃ d e, Dp K H x d ∧ Dp K H y e ∧ alike d e = true ∧ d ≠ .none ∧ d.depth ≤ 60 ∧ Q (.bl (!dataLt d e)) H
theorem op_ltD (hu : X.A.units + 64 < cLine) : OpR X (compareOp .Lt) (rLtD X.K) := by
  rintro pins s σ H x y v u Q I rx ry ⟨d, e, hd, he, al, nn, dp, q⟩
  obtain ⟨as, r1⟩ := Dp.reads I d x v hd rx
  obtain ⟨bs, r2⟩ := Dp.reads I e y u he ry
  exact lt_data r1 r2 al nn (by omega) ⟨.bl _, H, I, rfl, q⟩
theorem op_leD (hu : X.A.units + 64 < cLine) : OpR X (compareOp .LtE) (rLeD X.K) := by
  rintro pins s σ H x y v u Q I rx ry ⟨d, e, hd, he, al, nn, dp, q⟩
  obtain ⟨as, r1⟩ := Dp.reads I d x v hd rx
  obtain ⟨bs, r2⟩ := Dp.reads I e y u he ry
  exact le_data r1 r2 al nn (by omega) ⟨.bl _, H, I, rfl, q⟩
/-! ### repr of data -/
def rReprD (K : PySem.W.Frag) : List V → Hp → VK → Prop := fun xs H Q => ∃ (a : Addr) (d : PyData), xs = [.ref a] ∧ Dp K H (.ref a) d ∧ d.showable = true ∧ d.hasDict = false ∧ d.depth ≤ 60 ∧ d.shown.length ≤ sizeLine ∧ Q (.str d.shown) H
theorem call_reprD (hg : X.A.guards = some []) (hu : X.A.units + 64 < cLine) : CallR X (.builtin "repr") (rReprD X.K) := by
  rintro pins s σ H xs us Q I r ⟨a, d, rfl, hd, hs, nd, dp, hz, q⟩
  match us, r with
  | [u], .cons r1 .nil =>
    cases r1
    obtain ⟨as, rd⟩ := Dp.reads I d (.ref a) (.ref a) hd rfl
    refine repr_of_reads' rd hs (fun z => ?_) hg (by omega) (fun _ _ z => z) (fun h' u tk hk => ⟨.str d.shown, H, I.kept hk, ⟨u, rfl⟩, q⟩) hz
    rw [nd] at z
    cases z
end
end ZL
set_option Elab.async false
set_option linter.all false
set_option maxRecDepth 100000
set_option maxHeartbeats 4000000
namespace ZL
open PySem PySem.Spec PyProof.Rows L2
/-! ### != where the class has an own == alone -/
structure OwnNe (K : PySem.W.Frag) (C : Addr) : Prop where
  ne : PySem.W.findIn K (.ref C) "__ne__" = some (some (.builtin "object.__ne__"))
  ob : PySem.W.mroIn K C (.type "object") = some true
section
variable {prog : Program} {w : World} {A : Around} {E : Value → Shared → Prop} {s : Shared} {K : PySem.W.Frag} {x C f : Addr} {ox : Obj} {od : Option Obj} {b : Value}
theorem ne_obj {Q : Value → Shared → Prop} (N : OwnNe K C) (o : Own K C "__eq__" f) (hu : A.in1.units < cLine) (X : K.In s.heap) (I : PySem.W.InstAt s.heap x ox C od)
    (h : wpAny (model prog w) A.in1 (call (.ref f) [.ref x, b]) (fun v s' => ∃ r, v = .bool r ∧ Q (.bool (!r)) s') E s) : wpAny (model prog w) A (call (.builtin "object.__ne__") [.ref x, b]) Q E s := by
  refine wpAny_call (codeAny_call_builtin PySem.F.cmp_object.ne.plain PySem.F.cmpEntry_ne (PySem.W.check_slot (i := "object.__ne__") (owner := "object") (n := "__ne__") PySem.F.cmpKind_ne PySem.F.cmpSplit_ne (I.type.andThen (PySem.W.looks_mroIn X N.ob)) (PySem.F.cmpArgs_ne _ _) ?_))
  unfold Builtin.«object.__ne__»
  refine wpAny_bind (m := slotArgs "__ne__" 1 _) (wpAny_pure ?_)
  refine wpAny_bind (m := cRoomFor _ _) (wpAny_cRoomFor hu ?_)
  refine wpAny_bind (m := callSpecialIfBound? (.ref x) (Str.ofString "__eq__") [b]) (PySem.W.ifBound_K X I o.at_ o.fn (thn h fun v s' z => ?_))
  obtain ⟨r, rfl, q⟩ := z
  exact wpAny_bind (m := truthy (.bool r)) (wpAny_truthy_bool (wpAny_pure q))
theorem ifBound_B {M : Model} {name : Str} {id : String} {args : List Value} {Q : Option Value → Shared → Prop} (X : K.In s.heap) (I : PySem.W.InstAt s.heap x ox C od) (hs : PySem.W.findIn K (.ref C) name = some (some (.builtin id)))
    (hb : ∀ self, bindSpecial (.builtin id) self = pure (.builtin id, [self])) (h : wpAny M A (call (.builtin id) (.ref x :: args)) (fun v => Q (some v)) E s) : wpAny M A (callSpecialIfBound? (.ref x) name args) Q E s := by
  have fin : wpAny M A (call (.builtin id) ([.ref x] ++ args) >>= fun v => pure (some v)) Q E s := wpAny_bind (thn h fun _ _ z => wpAny_pure z)
  simp only [callSpecialIfBound?, bindSpecialIfBound?]
  refine wpAny_holding (wpAny_bind (wpAny_bind (wpAny_bind (I.type.here ((PySem.W.looks_findIn X hs).here ?_)))))
  refine wpAny_bind (wpAny_askSetting (wpAny_ite ?_))
  split
  · exact wpAny_bind ((PySem.W.Looks.of_pure (hb _)).here (wpAny_pure (by exact fin)))
  · exact wpAny_tryCatch (wpAny_bind ((PySem.W.Looks.of_pure (hb _)).here (wpAny_pure (by exact fin))))
theorem ne_rc {tb : Value} {Q : Value → Shared → Prop} (N : OwnNe K C) (o : Own K C "__eq__" f) (hu : A.units + 1 < cLine) (X : K.In s.heap) (I : PySem.W.InstAt s.heap x ox C od) (hb : PySem.W.Looks (model prog w) s.heap (typeOf b) tb) (hn : PySem.W.notFirst K C tb = true)
    (h : wpAny (model prog w) A.in1 (call (.ref f) [.ref x, b]) (fun v s' => ∃ r, v = .bool r ∧ Q (.bool (!r)) s') E s) : wpAny (model prog w) A (richCompare .NotEq (.ref x) b) Q E s := by
  have one : wpAny (model prog w) A (tryCompare (.ref x) (cmpInfo .NotEq).2.1 b) (fun r s' => ∃ v, r = some v ∧ Q v s') E s := by
    unfold tryCompare
    refine wpAny_bind (ifBound_B X I N.ne PySem.F.cmp_object.ne.bind (ne_obj N o (by show A.units + 1 < cLine; exact hu) X I (thn h fun v s' z => ?_)))
    obtain ⟨r, rfl, q⟩ := z
    exact ⟨r, rfl, wpAny_pure ⟨_, rfl, q⟩⟩
  have fin : ∀ {k : Option Value → Sem Value}, (∀ v, k (some v) = pure v) → wpAny (model prog w) A (tryCompare (.ref x) (cmpInfo .NotEq).2.1 b >>= k) Q E s := fun {k} hk => wpAny_bind (thn one fun r s' z => by
    obtain ⟨v, rfl, q⟩ := z
    rw [hk]
    exact wpAny_pure q)
  unfold richCompare
  simp only [oneThing_ref]
  refine wpAny_holding (wpAny_bind (wpAny_cRoomFor (by omega) ?_))
  refine wpAny_bind (I.type.here (wpAny_bind (hb.here ?_)))
  split
  · rename_i q
    have e : PySem.W.subIn K tb (.ref C) = some false := by
      rcases Bool.or_eq_true_iff.mp hn with e | e
      · rw [beq_iff_eq.mp e] at q; simp at q
      · exact beq_iff_eq.mp e
    refine wpAny_bind ((PySem.W.looks_subIn X e).here ?_)
    simp only [Bool.false_eq_true, if_false]
    refine wpAny_bind (thn one fun r s' z => ?_)
    obtain ⟨v, rfl, hq⟩ := z
    exact wpAny_pure hq
  · refine wpAny_bind (wpAny_pure ?_)
    simp only [Bool.false_eq_true, if_false]
    refine wpAny_bind (thn one fun r s' z => ?_)
    obtain ⟨v, rfl, hq⟩ := z
    exact wpAny_pure hq
end
section
variable {X : Cx} {CX : CXT} {k : Nat} {f C g : Addr} {sp : Sp} {E : XK}
/-- x != y, instances of the class at C with an own == alone -/
def rOwnNe (C : Addr) (sp : Sp) (E : XK) : R2 := fun x y H Q => ∃ a b dx dy fs gs, x = .ref a ∧ y = .ref b ∧ H a = some (.ins C dx fs) ∧ H b = some (.ins C dy gs) ∧ sp [x, y] H (fun v H' => ∃ r, v = .bl r ∧ Q (.bl (!r)) H') E
theorem op_neO (N : OwnNe X.K C) (o : Own X.K C "__eq__" f) (F : FnR X.prog X.w X.K X.mg X.base CX k f sp) (hr : Room (k + 1) X.A) (hx : Passes CX X E) : OpR X (compareOp .NotEq) (rOwnNe C sp E) := by
  rintro pins s σ H x y v u Q I rx ry ⟨a, b, dx, dy, fs, gs, rfl, rfl, ha, hb, q⟩
  cases rx
  cases ry
  obtain ⟨od, J⟩ := inst_at I ha
  obtain ⟨od', J'⟩ := inst_at I hb
  show wpAny (model X.prog X.w) X.A (richCompare .NotEq (.ref a) (.ref b)) (EP X pins σ Q) X.xe s
  refine ne_rc N o (by have := hr.un; omega) I.kIn J J'.type (by simp [PySem.W.notFirst]) (thn (run_at (A := X.A.in1) (vs := [.ref a, .ref b]) F hr.in1 rfl hx I (.cons rfl (.cons rfl .nil)) q) fun u s' z => ?_)
  obtain ⟨v, H', I', r, b', rfl, q'⟩ := z
  cases r
  exact ⟨b', rfl, .bl (!b'), H', I', rfl, q'⟩
/-! ### x[i] by an own __getitem__ -/
theorem pe_makeS1 {x : Str} {e : Expr} {te : TE} {p pos sp_ : Pos} (M : Mk X.K C f) (F : FnR X.prog X.w X.K X.mg X.base CX k f sp) (hr : Room (k + 1) X.A) (hg : Gl X x) (hm : X.mg x = some (.ref C)) (hx : Passes CX X E) (he : PE X e te) (hd : (x == ("__debug__" : Str)) = false := by decide)
    (hst : starEach [.Starred e sp_] X.env = [(true, eval e X.env)] := by rfl) :
    PE X (.Call (.Name x p) [.Starred e sp_] [] pos) (fun σ H Q => te σ H fun y H1 => ∃ a xs, y = V.ref a ∧ (SqT X.K H1 a xs ∨ SqL X.K H1 a xs) ∧ ∀ x dx, H1 x = none → H1 dx = none → dx ≠ x →
      sp (V.ref x :: xs) (upd (upd H1 dx (.own x)) x (.ins C dx [])) (fun v H2 => v = .non ∧ Q (.ref x) H2) E) :=
  ⟨fun pins s σ H Q I h => wpAny_Call_Name_kw (ld_glob I hg hm (PySem.W.callWith_S (h₀ := X.base) I.ok.mod.kin M.kp (thn (he.run pins s σ H _ I h) fun v s1 z => by
    obtain ⟨y, H1, I1, ry, a, xs, rfl, hxs, q⟩ := z
    cases ry
    exact StX.star_any I1 hxs fun us s2 I2 rv => ⟨I2.kIn, StX.run_makeR M F hr hx I2 rv q⟩) hst) hd)⟩
end
/-! ### a op b op c op d -/
section
variable {X : Cx} {a b c d : Expr} {ta tb tc td : TE} {pos : Pos}
def tChain3 (r r' r'' : R2) (ta tb tc td : TE) : TE := fun σ H Q => ta σ H fun x H1 => tb σ H1 fun y H2 => r x y H2 fun z H3 => ∃ k, z = .bl k ∧ (if k = true then tc σ H3 fun w H4 => r' y w H4 fun z' H5 => ∃ k', z' = .bl k' ∧ (if k' = true then td σ H5 fun u H6 => r'' w u H6 Q else Q (.bl false) H5) else Q (.bl false) H3)
theorem pe_chain3 {op op' op'' : CmpOp} {r r' r'' : R2} (ho : OpR X (compareOp op) r) (ho' : OpR X (compareOp op') r') (ho'' : OpR X (compareOp op'') r'') (ha : PE X a ta) (hb : PE X b tb) (hc : PE X c tc) (hd : PE X d td)
    (hm : lastMarks [op, op', op''] [b, c, d] = false := by with_unfolding_all rfl) : PE X (.Compare a [op, op', op''] [b, c, d] pos) (tChain3 r r' r'' ta tb tc td) := by
  refine ⟨fun pins s σ H Q I h => ?_⟩
  refine Compare_chain (thn (ha.run pins s σ H _ I h) fun v s1 z1 => ?_) hm
  obtain ⟨x, H1, I1, r1, q1⟩ := z1
  refine chain_link (thn (hb.run pins s1 σ H1 _ I1 q1) fun u s2 z2 => ?_)
  obtain ⟨y, H2, I2, r2, q2⟩ := z2
  refine thn (ho pins s2 σ H2 x y v u _ I2 r1 r2 q2) fun dd s3 z3 => ?_
  obtain ⟨z, H3, I3, r3, k, rfl, q3⟩ := z3
  cases r3
  refine wpAny_truthy_bool ?_
  cases k with
  | false => exact ite_ff ⟨.bl false, H3, I3, rfl, q3⟩
  | true =>
    refine ite_tt (chain_link (thn (hc.run pins s3 σ H3 _ I3 q3) fun w' s4 z4 => ?_))
    obtain ⟨w, H4, I4, r4, q4⟩ := z4
    refine thn (ho' pins s4 σ H4 y w u w' _ I4 r2 r4 q4) fun dd s5 z5 => ?_
    obtain ⟨z', H5, I5, r5, k', rfl, q5⟩ := z5
    cases r5
    refine wpAny_truthy_bool ?_
    cases k' with
    | false => exact ite_ff ⟨.bl false, H5, I5, rfl, q5⟩
    | true =>
      refine ite_tt (chain_last (thn (hd.run pins s5 σ H5 _ I5 q5) fun t' s6 z6 => ?_))
      obtain ⟨t, H6, I6, r6, q6⟩ := z6
      exact ho'' pins s6 σ H6 w t w' t' Q I6 r4 r6 q6
end
end ZL
set_option Elab.async false
set_option linter.all false
set_option maxRecDepth 100000
set_option maxHeartbeats 4000000
namespace ZL
open PySem PySem.Spec PyProof.Rows L2
/-! ### x[i] by an own __getitem__ -/
section
variable {X : Cx} {CX : CXT} {k : Nat} {f C g : Addr} {sp : Sp} {E : XK} {a b : Expr} {ta tb : TE} {pos : Pos}
def rOwnIx (C : Addr) (sp : Sp) (E : XK) : R2 := fun x y H Q => ∃ a dx fs, x = .ref a ∧ H a = some (.ins C dx fs) ∧ sp [x, y] H Q E
theorem pe_ixO (o : Own X.K C "__getitem__" f) (hf : PySem.W.fnIn X.K f = true) (F : FnR X.prog X.w X.K X.mg X.base CX k f sp) (hr : Room (k + 1) X.A) (hx : Passes CX X E) (ha : PE X a ta) (hb : PE X b tb)
    (hs : ∀ x i, subscripted b true (.ref x) i = runValue (.builtin "lifetime.subscript" ⟨[.ref x, i], []⟩)) : PE X (.Subscript a b pos) (tOp (rOwnIx C sp E) ta tb) := by
  refine ⟨fun pins s σ H Q I h => ?_⟩
  refine Subscript_ (binT ha hb I h fun v u s2 x y H2 I2 rx ry q => ?_)
  obtain ⟨c, dx, fs, rfl, hc, q⟩ := q
  cases rx
  obtain ⟨od, J⟩ := inst_at I2 hc
  obtain ⟨m, hF⟩ := I2.fr
  exact PySem.W.sub_K hF I2.ok.mod.kin J o.at_ hf o.fn (run_at (A := X.A.in1) (vs := [.ref c, y]) F hr.in1 rfl hx I2 (.cons rfl (.cons ry .nil)) q) (hs _ _)
end
/-! ### t[::-1] of a tuple -/
section
variable {prog : Program} {w : World} {A : Around} {E : Value → Shared → Prop} {s : Shared}
theorem places_rev (n : Nat) : Builtin.Slice.slicePlaces ((n : Int) - 1) (-1) (-1) = n := by
  unfold Builtin.Slice.slicePlaces
  rw [if_neg (by decide)]
  by_cases h : (n : Int) - 1 > -1
  · rw [if_pos h, show ((n : Int) - 1 - -1 - 1) / (- -1) + 1 = (n : Int) by rw [show (- -1 : Int) = 1 by decide, Int.ediv_one]; omega]
    exact Int.toNat_natCast n
  · rw [if_neg h]
    show 0 = n
    omega
theorem applied_rev {sl : Addr} {vk : Value} {n : Nat} {Q : Int × Int × Nat → Shared → Prop} (hs : s.heap.IsSliceOf sl .none .none vk) (pk : IsPart vk (some (-1))) (h : Q ((n : Int) - 1, -1, n) s) :
    wpAny (model prog w) A (Builtin.Slice.sliceApplied (.ref sl) (pure (n : Int))) Q E s := by
  obtain ⟨os, hos, hcs, hds⟩ := id hs
  unfold Builtin.Slice.sliceApplied Builtin.Slice.sliceFields
  refine wpAny_bind (wpAny_bind (wpAny_field hos hds (x := .none) rfl (wpAny_bind (wpAny_field hos hds (x := .none) rfl (wpAny_bind (wpAny_field hos hds (x := vk) rfl (wpAny_pure ?_)))))))
  refine wpAny_bind (HT.slicePart_ pk ?_)
  show wpAny _ _ (if ((-1 : Int) == 0) = true then _ else _) _ _ s
  rw [if_neg (by decide)]
  refine wpAny_bind (HT.slicePart_ .none (wpAny_bind (HT.slicePart_ .none (wpAny_bind (wpAny_pure ?_)))))
  show wpAny _ _ (pure ((n : Int) - 1, (-1 : Int), Builtin.Slice.slicePlaces ((n : Int) - 1) (-1) (-1))) _ _ s
  rw [places_rev]
  exact wpAny_pure h
theorem fm_congr {α β : Type} {f g : α → Option β} : ∀ {l : List α}, (∀ m ∈ l, f m = g m) → l.filterMap f = l.filterMap g
  | [], _ => rfl
  | x :: l, h => by
    rw [List.filterMap_cons, List.filterMap_cons, h x List.mem_cons_self, fm_congr fun m hm => h m (List.mem_cons_of_mem _ hm)]
theorem pick_rev (xs : Array Value) : ((List.range xs.size).filterMap fun (m : Nat) => xs[(((xs.size : Int) - 1) + (m : Int) * -1).toNat]?).toArray = xs.toList.reverse.toArray := by
  have e : ((List.range xs.size).filterMap fun (m : Nat) => xs[(((xs.size : Int) - 1) + (m : Int) * -1).toNat]?) = ((List.range xs.size).map fun k => xs.size - 1 - k).filterMap (xs[·]?) := by
    rw [List.filterMap_map]
    refine fm_congr fun m hm => ?_
    have := List.mem_range.mp hm
    show xs[(((xs.size : Int) - 1) + (m : Int) * -1).toNat]? = xs[xs.size - 1 - m]?
    rw [show (((xs.size : Int) - 1) + (m : Int) * -1).toNat = xs.size - 1 - m by omega]
  rw [e, PySem.W.krv_range, List.filterMap_reverse, PySem.W.krv_all]
theorem getItem_tuple_rev {t sl : Addr} {items : Array Value} {vk : Value} {Q : Value → Shared → Prop} (ht : IsTup s.heap t items) (hs : s.heap.IsSliceOf sl .none .none vk) (pk : IsPart vk (some (-1)))
    (h : Q (.ref s.heap.objs.size) { s with heap := s.heap.push { cls := .type "tuple", data := .seq items.toList.reverse.toArray } }) (hsz : items.size ≤ sizeLine) : wpAny (model prog w) A (getItem (.ref t) (.ref sl)) Q E s := by
  have htake : sizeOk (.seq items.toList.reverse.toArray) := by
    show items.toList.reverse.toArray.size ≤ sizeLine
    rw [List.size_toArray, List.length_reverse, Array.length_toList]
    exact hsz
  obtain ⟨os, hos, hcs, hds⟩ := id hs
  have hTs : s.TypeIs (.ref sl) "slice" := ⟨os, hos, hcs⟩
  unfold getItem
  try with_reducible refine wpAny_holding ?_
  first | refine wpAny_bind (wpAny_pure ?_) | skip
  refine wpAny_bind (wpAny_sequenceKey ht.typeIs (by decide) ?_)
  refine wpAny_bind (wpAny_callSpecial?_slot (name := Str.ofString "__getitem__") ht.typeIs PyProof.Rows.slot_tuple_getitem (wpAny_call_entry PyProof.Rows.slot_tuple_getitem ht.typeIs entry_tuple_getitem ?_ (args_tuple_getitem _ _)))
  show wpAny _ _ (Builtin.Tuple.tupleItemsOf (.ref t) >>= _) _ _ s
  refine wpAny_bind (tupleItemsOf_ ht ?_)
  refine wpAny_bind (wpAny_typeOf hTs ?_)
  rw [if_pos (by decide)]
  refine wpAny_bind (applied_rev hs pk ?_)
  have hno : ¬ (((((items.size : Int) - 1) : Int) == 0 && (-1 : Int) == 1 && items.size == items.size) = true) := by
    rw [show ((-1 : Int) == 1) = false by decide, Bool.and_false, Bool.false_and]
    exact Bool.false_ne_true
  show wpAny _ _ (if ((((items.size : Int) - 1) : Int) == 0 && (-1 : Int) == 1 && items.size == items.size) = true then _ else _) _ _ s
  rw [if_neg hno, pick_rev]
  first
    | exact wpAny_bind (m := Builtin.Tuple.tupleExact _) (wpAny_newObj_type (wpAny_pure ⟨_, rfl, wpAny_pure h⟩) htake)
    | exact wpAny_bind (m := Builtin.Tuple.tupleExact _) (wpAny_newObj_type (wpAny_bind (wpAny_pure (wpAny_pure ⟨_, rfl, wpAny_pure h⟩))) htake)
    | exact wpAny_bind (wpAny_bind (m := Builtin.Tuple.tupleExact _) (wpAny_newObj_type (wpAny_pure (wpAny_pure ⟨_, rfl, wpAny_pure h⟩)) htake))
    | exact wpAny_bind (wpAny_bind (m := Builtin.Tuple.tupleExact _) (wpAny_newObj_type (wpAny_pure ⟨_, rfl, wpAny_pure h⟩) htake))
end
section
variable {X : Cx}
def tRevT (K : PySem.W.Frag) (te : TE) : TE := fun σ H Q => te σ H fun x H1 => ∃ a xs, x = .ref a ∧ SqT K H1 a xs ∧ ∀ p, H1 p = none → Q (.ref p) (upd H1 p (.tup xs.reverse))
theorem pe_revT {e : Expr} {te : TE} {k : Nat} {p1 p2 p3 pos : Pos} (he : PE X e te) : PE X (.Subscript e (.Slice none none (some (.UnaryOp .USub (.Constant (.int 1) k p1) p2)) p3) pos) (tRevT X.K te) := by
  refine ⟨fun pins s σ H Q I h => ?_⟩
  refine Subscript_ (thn (he.run pins s σ H _ I h) fun v s1 z1 => ?_)
  obtain ⟨x, H1, I1, r1, a, xs, rfl, hx, q⟩ := z1
  cases r1
  have hst : PO X (some (.UnaryOp .USub (.Constant (.int 1) k p1) p2)) (tPart (tUn (rU fun i => .int (-i)) (tC (.int 1)))) := po_some (pe_un un_neg pe_int)
  refine wpAny_Slice (thn (po_none.run pins s1 σ H1 (fun o H2 => o = none ∧ H2 = H1) I1 ⟨rfl, rfl⟩) fun vl s2 z2 => ?_)
  obtain ⟨l, H2, I2, pl, rfl, rfl⟩ := z2
  refine thn (po_none.run pins s2 σ H2 (fun o H3 => o = none ∧ H3 = H2) I2 ⟨rfl, rfl⟩) fun vu s3 z3 => ?_
  obtain ⟨u, H3, I3, pu, rfl, rfl⟩ := z3
  refine thn (hst.run pins s3 σ H3 (fun o H4 => o = some (-1) ∧ H4 = H3) I3 ⟨1, rfl, -1, rfl, rfl, rfl⟩) fun vs s4 z4 => ?_
  obtain ⟨o, H4, I4, ps, rfl, rfl⟩ := z4
  cases pl
  cases pu
  have I5 : Inv X pins σ H4 { s4 with heap := s4.heap.push { cls := .type "slice", data := .fields #[.none, .none, vs] } } := I4.kept (t' := s4.toks) fun b ob q => Heap.get?_push_of_some _ q
  obtain ⟨its, r, ht, hz⟩ := I5.tuple hx
  have hlen := r.length
  show wpAny (model X.prog X.w) X.A (subscriptTail e (.Slice none none (some (.UnaryOp .USub (.Constant (.int 1) k p1) p2)) p3) (.ref a) (.ref s4.heap.objs.size)) (EP X pins σ Q) X.xe _
  refine tail_any (ops := [.ref a, .ref s4.heap.objs.size]) ht.typeIs PyProof.Rows.slot_tuple_getitem.lookup ?_ (by with_unfolding_all rfl)
  refine getItem_tuple_rev ht (Heap.IsSliceOf.new _ .none .none vs) ps ?_ (by rw [List.size_toArray]; omega)
  have e1 : its.toArray.toList.reverse.toArray = its.reverse.toArray := by simp
  rw [e1]
  have hz2 : xs.reverse.length ≤ sizeLine := by
    rw [List.length_reverse]
    exact hz
  exact ⟨.ref _, _, I5.laid (t' := s4.toks) (o := .tup xs.reverse) (fun b ob q => Heap.get?_push_of_some _ q) (Nat.le_refl _) ⟨hz2, its.reverse, r.reverse, ⟨_, Heap.get?_push_size _ rfl, rfl, _, rfl⟩⟩, rfl, q _ (I5.hok.fresh (Nat.le_refl _))⟩
end
/-! ### enumerate(t) of a tuple -/
theorem meets_enumerate_new1 {v : Value} {o : Obj} {H : Heap → Prop} (B : Begins v o H) :
    Meets (Builtin.«enumerate.__new__» ⟨[.type "enumerate", v], []⟩) (fun _ R s => H s.heap ∧
      R (.ok (.ret (.ref (s.heap.push o).objs.size))) { s with heap := (s.heap.push o).push { cls := .type "enumerate", data := .fields #[.none, .bool false, .ref s.heap.objs.size, rawInt 0, .none, .none] } }) :=
  .of_wp fun prog w A R s h => by
    obtain ⟨hp, g, d, tk, os⟩ := s
    obtain ⟨h1, h⟩ := h
    have hsub := sub_enumerate
    have q1 : ∀ {A' : Around} {E : Value → Shared → Prop} {Q : Value → Shared → Prop}, Q (.ref hp.objs.size) ⟨hp.push o, g, d, tk, os⟩ → wpAny (model prog w) A' (pyIter v) Q E ⟨hp, g, d, tk, os⟩ :=
      fun q => B.iter prog w _ _ ⟨hp, g, d, tk, os⟩ _ h1 q
    wp_walk using q1
    refine wpAny_stack_any fun st => wpAny_pure ?_
    split
    · rename_i c _ _ _ _ _
      cases (c == Value.type "enumerate")
      · wp_walk using q1
        exact ⟨_, rfl, h⟩
      · wp_walk using q1
        exact ⟨_, rfl, h⟩
    · wp_walk using q1
      exact ⟨_, rfl, h⟩
theorem enum_begins1 {prog : Program} {w : World} {A : Around} {E : Value → Shared → Prop} {s : Shared} {v : Value} {o : Obj} {H : Heap → Prop} {Q : Value → Shared → Prop} (B : Begins v o H) (h1 : H s.heap)
    (h : ∀ h', IsEnum h' (s.heap.objs.size + 1) s.heap.objs.size 0 .none → h'.get? s.heap.objs.size = some o → (∀ b o, s.heap.get? b = some o → h'.get? b = some o) → Q (.ref (s.heap.objs.size + 1)) { s with heap := h' }) :
    wpAny (model prog w) A (call (.type "enumerate") [v]) Q E s := by
  have hz : (s.heap.push o).objs.size = s.heap.objs.size + 1 := Heap.size_push ..
  refine callType_new PySem.F.called_enumerate (by decide) (PySem.F.typeCall_enumerate_1 _) (PySem.F.newCall_enumerate_1 _) (fun obj => PySem.F.args_object_init_2 obj _) PySem.F.entry_enumerate_new (meets_enumerate_new1 B) ⟨h1, ?_⟩
  show _ ∧ _
  rw [hz]
  have he := Heap.get?_push_size (s.heap.push o) (o := { cls := .type "enumerate", data := .fields #[.none, .bool false, .ref s.heap.objs.size, rawInt 0, .none, .none] }) rfl
  rw [hz] at he
  exact ⟨⟨_, he, rfl⟩, h _ he (Heap.get?_push_of_some _ (Heap.get?_push_size _ B.free)) fun b o x => Heap.get?_push_of_some _ (Heap.get?_push_of_some _ x)⟩
def IteT (K : PySem.W.Frag) (a : Addr) : It :=
  ⟨fun i H => ∃ (xs : List V) (x : V), SqT K H a xs ∧ xs[i]? = some x, fun i H v H' => ∃ T x, v = .ref T ∧ H T = none ∧ H' = upd H T (.tup [.int (i : Nat), x]) ∧ ∀ xs, SqT K H a xs → xs[i]? = some x, fun i H => ∃ xs : List V, SqT K H a xs ∧ xs.length = i⟩
theorem turn_enumT {P : Program} {w : World} {K : PySem.W.Frag} {elts : List Expr} {kk : Nat} {tpos : Pos} (a e it : Addr) :
    Turn P w K (.Tuple elts kk tpos) (IteT K a) [e, it] e (fun i h => (∃ old, IsEnum h e it ((i : Nat) : Int) old) ∧ h.IsTupleIter it a i ∧ e ≠ it) where
  mem := by simp
  obj := fun i h st b hb => by
    obtain ⟨⟨old, he⟩, ⟨o, ho, hc, hd⟩, _⟩ := st
    rcases List.mem_cons.mp hb with z | z
    · rw [z]; exact ⟨_, he, fun v q => nomatch q⟩
    · rw [List.mem_singleton.mp z]; exact ⟨o, ho, fun v q => by rw [hd] at q; cases q⟩
  keep := fun i h h' st k => by
    obtain ⟨⟨old, he⟩, hi, hne⟩ := st
    exact ⟨⟨old, k e (by simp) _ he⟩, hi.at fun o q => k it (by simp) o q, hne⟩
  item := by
    intro X hP hw hK hc i pins s σ H E I hf st hg
    subst hP hw hK
    obtain ⟨⟨old, he⟩, hit, hne⟩ := st
    obtain ⟨xs, x, hq, hx⟩ := hg
    obtain ⟨its, rv, p, hz⟩ := I.tuple hq
    obtain ⟨u, hu, ru⟩ := rv.get hx
    have hel : e < s.heap.objs.size := Heap.lt_size he
    have hil : it < s.heap.objs.size := by obtain ⟨_, q, _⟩ := hit; exact Heap.lt_size q
    have hae : a ≠ e := fun z => by
      obtain ⟨o, ho, hcl, _⟩ := p
      rw [z, he] at ho
      cases ho
      injection hcl with q
      exact absurd q (by decide)
    have hai : a ≠ it := fun z => by
      obtain ⟨o, ho, hcl, _⟩ := p
      obtain ⟨o2, ho2, hc2, _⟩ := hit
      rw [z, ho2] at ho
      cases ho
      rw [hc2] at hcl
      injection hcl with q
      exact absurd q (by decide)
    refine wpAny_pyNext_enum_itemC (Draws.tuple (by exact I.ok.hd hc) it a hai its.toArray) he ⟨hit, p⟩ (by rw [List.size_toArray, ← rv.length]; exact (List.getElem?_eq_some_iff.mp hx).1) hne (by simp [hne, hae.symm]) fun y h' tk hP ho hst hT hsz hk => ?_
    have hy : y = u := by
      have q : its.toArray[i]? = some y := hP
      rw [List.getElem?_toArray, hu] at q
      exact (Option.some.inj q).symm
    subst hy
    refine ⟨_, rfl, wpAny_letOwnedTupleGo_enum (s := { s with heap := h', toks := tk + 1 }) ho fun h'' he' sb => ?_⟩
    have hT2 : h''.get? s.heap.objs.size = some { cls := .type "tuple", data := .seq #[.int i tk, y] } := (sb.2 _ (Nat.ne_of_gt hel)).trans hT
    have new : ObjOk X.prog X.w (upd H s.heap.objs.size (.tup [.int (i : Nat), x])) h'' s.heap.objs.size (.tup [.int (i : Nat), x]) :=
      ⟨by show 2 ≤ sizeLine; decide, [.int i tk, y], .cons ⟨_, rfl⟩ (.cons ru .nil), ⟨_, hT2, rfl, _, rfl⟩⟩
    have I1 : Inv X pins σ (upd H s.heap.objs.size (.tup [.int (i : Nat), x])) { s with heap := h'', toks := tk + 1 } :=
      I.turnedNew (ch := [e, it]) (fun b ob hb q => (sb.2 b (fun z => hb (by simp [z]))).trans (hk b ob (fun z => hb (by simp [z])) (fun z => hb (by simp [z])) q)) hf (Nat.le_refl _) new
    refine ⟨.ref s.heap.objs.size, _, I1, rfl, ⟨_, x, rfl, I.hok.fresh (Nat.le_refl _), rfl, fun ys hy => by rw [I.tuple_inj hy hq]; exact hx⟩, ⟨⟨y, ?_⟩, hst.1.at fun o q => (sb.2 it (Ne.symm hne)).trans q, hne⟩, fun b hb => ?_⟩
    · rw [show ((i + 1 : Nat) : Int) = (i : Int) + 1 by omega]
      exact he'
    · have hb' : b < s.heap.objs.size := by
        rcases List.mem_cons.mp hb with z | z
        · rw [z]; exact hel
        · rw [List.mem_singleton.mp z]; exact hil
      rw [upd_ne (Nat.ne_of_lt hb')]
      exact (hf b hb).1
  done := by
    intro X hP hw hK hc i pins s σ H E I hf st hg
    subst hP hw hK
    obtain ⟨⟨old, he⟩, hit, hne⟩ := st
    obtain ⟨xs, hq, hx⟩ := hg
    obtain ⟨its, rv, p, hz⟩ := I.tuple hq
    obtain ⟨f0, f1, f2, f3, f4, f5⟩ := hf it (by simp)
    have hl := rv.length
    have hai : a ≠ it := fun z => by
      obtain ⟨o, ho, hcl, _⟩ := p
      obtain ⟨o2, ho2, hc2, _⟩ := hit
      rw [z, ho2] at ho
      cases ho
      rw [hc2] at hcl
      injection hcl with q
      exact absurd q (by decide)
    have hi : its.toArray.size = i := by rw [List.size_toArray, ← hl]; exact hx
    exact wpAny_pyNext_enum_endD (Draws.tuple (by exact I.ok.hd hc) it a hai its.toArray) he ⟨by rw [hi]; exact hit, p⟩ fun h' eb => ⟨rfl, I.turned (t' := s.toks) (fun b o hb q => eb b o hb q) f0 f1 f3 f4 f5⟩
  self := fun A i s Q E st h => by
    obtain ⟨⟨_, he⟩, _⟩ := st
    exact wpAny_pyIter_enum he h
def iEnumT (K : PySem.W.Frag) (ta : TA) : TI := fun σ H R => ta σ H fun vs H1 => ∃ a xs, vs = [.ref a] ∧ SqT K H1 a xs ∧ R (IteT K a) H1
theorem pi_enumT {X : Cx} {e : Expr} {ta : TA} {p pos tpos : Pos} {elts : List Expr} {kk : Nat} (hg : Gl X "enumerate") (hm : X.mg "enumerate" = none) (ha : PA X [e] ta) (hs : starEach [e] X.env = [(false, eval e X.env)] := by rfl) :
    PI X (.Tuple elts kk tpos) (.Call (.Name "enumerate" p) [e] [] pos) (iEnumT X.K ta) := by
  refine ⟨fun pins s σ H R I h => ?_⟩
  refine Call_ (ld_blt I hg hm boot_enumerate (PyProof.Rows.callWith_type1 (thn (ha.run pos pins s σ H _ I h) fun us s1 z => ?_) hs rfl))
  obtain ⟨vs, H1, I1, r1, a, xs, rfl, hq, q⟩ := z
  match us, r1 with
  | [u], .cons r .nil =>
    cases r
    obtain ⟨its, rv, p', hz⟩ := I1.tuple hq
    refine enum_begins1 (begins_tuple a its.toArray) p' fun h' he hit hk => wpAny_pyIter_enum he ?_
    have I2 : Inv X pins σ H1 { s1 with heap := h' } := I1.kept (t' := s1.toks) hk
    refine ⟨s1.heap.objs.size + 1, [s1.heap.objs.size + 1, s1.heap.objs.size], _, _, H1, rfl, I2, turn_enumT a (s1.heap.objs.size + 1) s1.heap.objs.size, ⟨⟨.none, he⟩, ⟨_, hit, rfl, rfl⟩, Nat.succ_ne_self _⟩, fun b hb => ?_, q⟩
    have hle : s1.heap.objs.size ≤ b := by
      rcases List.mem_cons.mp hb with z | z
      · rw [z]; exact Nat.le_add_right _ _
      · rw [List.mem_singleton.mp z]; exact Nat.le_refl _
    exact I1.fpOk hle (I1.hok.fresh hle)
theorem walk_enumT {K : PySem.W.Frag} {a : Addr} {xs : List V} : Walk (IteT K a) xs.length (fun H => SqT K H a xs) (YPair (fun i => some (.int (i : Nat))) (fun i => xs[i]?)) where
  goes := fun i _ hi q => ⟨xs, xs[i], q, by simp [hi]⟩
  stops := fun _ q => ⟨xs, q, rfl⟩
  yields := fun i H v H' _ q y => by
    obtain ⟨T, x, h1, h2, h3, h4⟩ := y
    exact ⟨T, .int (i : Nat), x, h1, h2, h3, rfl, h4 xs q⟩
end ZL
set_option Elab.async false
set_option linter.all false
set_option maxRecDepth 100000
set_option maxHeartbeats 4000000
namespace ZL
open PySem PySem.Spec PyProof.Rows L2
/-! ### defs by positional promises -/
def FnRG (P : Program) (w : World) (K : PySem.W.Frag) (mg : Str → Option Value) (base : Heap) (CX : CXT) (k : Nat) (f : Addr) (sp : Sp) : Prop :=
  ∀ (A : Around) (outer : List Env) (s : Shared) (H : Hp) (us : List Value) (vs : List V) (Q : VK) (E : XK), A.guards = some [] → Room k A → Env0 P w K mg base A outer s H → Vals vs us → sp vs H Q E →
    codeAny (model P w) A (.call (.ref f) ⟨us, []⟩) (CR CX outer P w H s Q E) s
section
variable {P : Program} {w : World} {K : PySem.W.Frag} {mg : Str → Option Value} {base : Heap} {x qual : Str} {st : Stmt} {kws : List (Str × V)} {f : Addr} {fd : FuncData} {N ps : List Str} {k : Nat} {sp : Sp} {CX : CXT}
theorem FnRG.of (F : FnR P w K mg base CX k f sp) : FnRG P w K mg base CX k f sp := fun A outer s H us vs Q E _ hr e0 r h => F A outer s H us vs Q E hr e0 r h
/-- a def from which nothing is raised -/
theorem okR (F : FunD K x qual (defArgs st) (defBody st) (defScope st) [] kws f fd) (S : FnScope N ps (defScope st)) (len : ∀ vs H Q E, sp vs H Q E → vs.length = ps.length)
    (hb : ∀ (kV doc pm : Value) (an : Option Addr) (cdv ct : Value) (us : List Value), us.length = ps.length → bindArgs (PySem.W.fnOf x qual (defArgs st) (defBody st) (defScope st) .none kV doc pm an cdv ct) ⟨us, []⟩ = pure (ps.zip us))
    (hbody : ∀ (cdv : Value) (A : Around) (outer : List Env) (s : Shared) (H : Hp) (vs : List V) (Q : VK) (E : XK), Room k (A.deeper (envOfC qual (defScope st) s.heap.objs.size f cdv)) → sp vs H Q E →
      ∃ t, PSs (cxOf CX0 P w K mg base N qual (defScope st) f cdv A outer s H E).nox (defBody st) t ∧ t { nx := fun _ H' => Q .non H', rt := Q } (start N vs) H) : FnR P w K mg base CX0 (k + 1) f sp := by
  have G : FnOk P w K mg base CX0 (k + 1) f fd ps sp := F.ok S len fun cdv A outer s H vs Q E hr h => by
    obtain ⟨t, ht, q⟩ := hbody cdv A outer s H vs Q E hr h
    exact ⟨t, ht.nox, q⟩
  exact (G.raw (F.bindsN hb) .nil).imp fun vs H Q E h => by rw [List.append_nil]; exact h
/-- .. called where no repr is running -/
theorem okRG (F : FunD K x qual (defArgs st) (defBody st) (defScope st) [] kws f fd) (S : FnScope N ps (defScope st)) (len : ∀ vs H Q E, sp vs H Q E → vs.length = ps.length)
    (hb : ∀ (kV doc pm : Value) (an : Option Addr) (cdv ct : Value) (us : List Value), us.length = ps.length → bindArgs (PySem.W.fnOf x qual (defArgs st) (defBody st) (defScope st) .none kV doc pm an cdv ct) ⟨us, []⟩ = pure (ps.zip us))
    (hbody : ∀ (cdv : Value) (A : Around) (outer : List Env) (s : Shared) (H : Hp) (vs : List V) (Q : VK) (E : XK), A.guards = some [] → Room k (A.deeper (envOfC qual (defScope st) s.heap.objs.size f cdv)) → sp vs H Q E →
      ∃ t, PSs (cxOf CX0 P w K mg base N qual (defScope st) f cdv A outer s H E).nox (defBody st) t ∧ t { nx := fun _ H' => Q .non H', rt := Q } (start N vs) H) : FnRG P w K mg base CX0 (k + 1) f sp := by
  have G : FnG P w K mg base CX0 (k + 1) f fd ps sp := okG F S len fun cdv A outer s H vs Q E hg hr h => by
    obtain ⟨t, ht, q⟩ := hbody cdv A outer s H vs Q E hg hr h
    exact ⟨t, ht.nox, q⟩
  intro A outer s H us vs Q E hg hr e0 r h
  have hl : us.length = ps.length := r.length ▸ G.len _ _ _ _ h
  have b := F.bindsN hb s us (e0.mod.kin.keeps fun b o e => (e0.bs b o e).1) (by simpa using hl)
  exact G.run A outer s H ⟨us, []⟩ us vs Q E hg hr e0 (by simpa using b) r h
end
section
variable {X : Cx} {CX : CXT} {k : Nat} {f C : Addr} {sp : Sp} {E : XK} {x m : Str} {p pos apos : Pos} {e o : Expr} {es : List Expr} {ta : TE} {t : TA}
def tCallR (sp : Sp) (E : XK) (t : TA) : TE := fun σ H Q => t σ H fun vs H1 => sp vs H1 Q E
theorem pe_callR (F : FnR X.prog X.w X.K X.mg X.base CX k f sp) (hr : Room k X.A) (hg : Gl X x) (hm : X.mg x = some (.ref f)) (hk : PySem.W.keepIn X.K (.ref f) = true) (hx : Passes CX X E)
    (ha : PA X (e :: es) t) (hdb : (x == ("__debug__" : Str)) = false := by decide) (he : starEach (e :: es) X.env = (false, eval e X.env) :: starEach es X.env := by rfl) (hpl : (backTo pos (starEach es X.env)).any (·.1) = false := by rfl) :
    PE X (.Call (.Name x p) (e :: es) [] pos) (tCallR sp E t) :=
  ⟨fun pins s σ H Q I h => wpAny_Call_Name_kw (ld_glob I hg hm (PySem.W.callWith_K (h₀ := X.base) I.ok.mod.kin hk (thn (ha.run pos pins s σ H _ I h) fun us s1 z => by
    obtain ⟨vs, H1, I1, r, q⟩ := z
    exact ⟨I1.kIn, wpAny_call (run_fnR F hr hx I1 r q)⟩) he hpl) hdb)⟩
theorem pe_callRG (F : FnRG X.prog X.w X.K X.mg X.base CX k f sp) (hgd : X.A.guards = some []) (hr : Room k X.A) (hg : Gl X x) (hm : X.mg x = some (.ref f)) (hk : PySem.W.keepIn X.K (.ref f) = true) (hx : Passes CX X E)
    (ha : PA X (e :: es) t) (hdb : (x == ("__debug__" : Str)) = false := by decide) (he : starEach (e :: es) X.env = (false, eval e X.env) :: starEach es X.env := by rfl) (hpl : (backTo pos (starEach es X.env)).any (·.1) = false := by rfl) :
    PE X (.Call (.Name x p) (e :: es) [] pos) (tCallR sp E t) :=
  ⟨fun pins s σ H Q I h => wpAny_Call_Name_kw (ld_glob I hg hm (PySem.W.callWith_K (h₀ := X.base) I.ok.mod.kin hk (thn (ha.run pos pins s σ H _ I h) fun us s1 z => by
    obtain ⟨vs, H1, I1, r, q⟩ := z
    refine ⟨I1.kIn, wpAny_call (codeAny_mono (F X.A X.stack s1 H1 us vs Q E hgd hr I1.env0 r q) fun z s' hq => ?_)⟩
    match z, hq with
    | .error e, hq => exact hx pins σ H1 s1 e s' I1 hq
    | .ok (.ret u), hq => exact I1.after hq
    | .ok .next, hq => exact False.elim hq
    | .ok .brk, hq => exact False.elim hq
    | .ok .cont, hq => exact False.elim hq) he hpl) hdb)⟩
end
/-! ### small words -/
theorem qT {Q : VK} {c : Prop} [Decidable c] {H : Hp} (hc : c) (q : Q (.bl true) H) : Q (.bl (decide c)) H := by
  rw [decide_eq_true hc]
  exact q
theorem qF {Q : VK} {c : Prop} [Decidable c] {H : Hp} (hc : ¬ c) (q : Q (.bl false) H) : Q (.bl (decide c)) H := by
  rw [decide_eq_false hc]
  exact q
theorem Ext.updD {H H1 : Hp} {p : Addr} {o : HO} (x : Ext H H1) (h : H p = none) : Ext H (upd H1 p o) := fun a u e => by
  rw [upd_ne (ne_of_none e h)]
  exact x a u e
/-- what a comprehension's element must leave: the list so far stands, what holds of it goes on -/
def LcN (D : Addr) (Pv : Nat → List V → Hp → Prop) (i : Nat) (y : V) (H4 : Hp) : Prop := ∃ acc, H4 D = some (.lst acc) ∧ acc.length < sizeLine ∧ ∃ ys, ys.length = i + 1 ∧ upd H4 D (.lst (acc ++ [y])) D = some (.lst ys) ∧ Pv (i + 1) ys (upd H4 D (.lst (acc ++ [y])))
theorem LcN.mk {D : Addr} {Pv : Nat → List V → Hp → Prop} {i : Nat} {ys : List V} {y : V} {H4 : Hp} (hl : ys.length = i) (hi : i < 1000) (hD : H4 D = some (.lst ys)) (h : Pv (i + 1) (ys ++ [y]) (upd H4 D (.lst (ys ++ [y])))) : LcN D Pv i y H4 :=
  ⟨ys, hD, small1000 (by omega), ys ++ [y], by rw [List.length_append, hl]; rfl, upd_same, h⟩
/-- a comprehension without tests by what holds of the list so far -/
theorem lc_acc {J : It} {n : Nat} {G : Hp → Prop} {Y : Nat → Hp → V → Hp → Prop} (w : Walk J n G Y) {g : TG} {te : TE} {vs : List Nat} {σ : L2.St} {H1 : Hp} {D : Addr} {Qd : Hp → Prop} (Pv : Nat → List V → Hp → Prop)
    (h0 : Pv 0 [] (upd H1 D (.lst []))) (hG : ∀ i ys H, i ≤ n → Pv i ys H → H D = some (.lst ys) → G H)
    (hs : ∀ i ys x H H', i < n → ys.length = i → Pv i ys H → H D = some (.lst ys) → Y i H x H' → g x (wipe σ vs) H' fun σ2 H2 => wipe σ2 vs = wipe σ vs ∧ te σ2 H2 (LcN D Pv i))
    (hd : ∀ ys H, ys.length = n → Pv n ys H → H D = some (.lst ys) → Qd H) :
    ∃ W : Nat → Nat → Hp → Prop, (∃ m, W 0 m (upd H1 D (.lst []))) ∧ ∀ i m H, W i m H →
      (J.stop i H ∧ Qd H) ∨ (J.go i H ∧ ∃ Nx : Hp → Prop, (∀ H', Nx H' → ∃ m', m' < m ∧ W (i + 1) m' H') ∧ ∀ x H', J.yld i H x H' → g x (wipe σ vs) H' fun σ2 H2 => wipe σ2 vs = wipe σ vs ∧ tYes σ2 H2 fun b H3 =>
        if b = true then te σ2 H3 fun y H4 => ∃ acc, H4 D = some (.lst acc) ∧ acc.length < sizeLine ∧ Nx (upd H4 D (.lst (acc ++ [y]))) else Nx H3) := by
  refine lc_it w (fun i H => ∃ ys, ys.length = i ∧ H D = some (.lst ys) ∧ Pv i ys H) ⟨[], rfl, upd_same, h0⟩ (fun i H hi z => ?_) (fun i x H H' hi z y => ?_) fun H z => ?_
  · obtain ⟨ys, _, hD, p⟩ := z
    exact hG i ys H hi p hD
  · obtain ⟨ys, hl, hD, p⟩ := z
    have q := hs i ys x H H' hi hl p hD y
    simp only [tYes, if_true]
    exact q
  · obtain ⟨ys, hl, hD, p⟩ := z
    exact hd ys H hl p hD
end ZL
set_option Elab.async false
set_option linter.all false
set_option maxRecDepth 100000
set_option maxHeartbeats 4000000
namespace ZL
open PySem PySem.Spec PyProof.Rows L2
section
variable {P : Program} {w : World} {K : PySem.W.Frag} {mg mb : Str → Option Value} {k : Nat} {fa a : Addr} {sp : Sp} {s₁ : Shared} {vs : List Value} {ns : List Int}
abbrev ended (s₁ : Shared) : Except Value Flow → Shared → Prop := fun r s' => r = .ok (.ret (.bool true)) ∧ OldK s₁.heap s'.heap ∧ s'.os = s₁.os ∧ AllBare s'.gens
/-- from a heap in which at most the script is told -/
theorem ended_of {H : Hp} (hO : Only H) (hok : HOk P w H s₁.heap) {r : Except Value Flow} {s' : Shared} (h : CR CX0 [] P w H s₁ (fun v _ => v = .bl true) (fun _ _ _ => False) r s') : ended s₁ r s' := by
  match r, h with
  | .error _, h => exact False.elim h
  | .ok .next, h => exact False.elim h
  | .ok .brk, h => exact False.elim h
  | .ok .cont, h => exact False.elim h
  | .ok (.ret u), h =>
    obtain ⟨v, H', os, bare, un, hok', r', q⟩ := h
    have q' : v = .bl true := q
    subst q'
    have r2 : u = Value.bool true := r'
    refine ⟨by rw [r2], OldK.of_keep fun b o e => ?_, os, bare⟩
    rcases hO b with z | ⟨ob, xs, z⟩
    · exact un.keep b o e z (fun y => nomatch y) (fun y => nomatch y)
    · have e1 := (hok b _ z).1
      rw [e] at e1
      rw [Option.some.inj e1]
      exact (hok' b _ (un.frzs b ob _ z)).1
theorem lawG_core {H : Hp} (KX : K.In s₁.heap) (hns : s₁.heap.Ns mainGlobals mg) (hb : s₁.heap.Ns builtinsNs mb) (hbb : ∀ x : Str, x ≠ "__name__" → mb x = bootBuiltins x) (hlim : s₁.heap.NoLimit) (hg : s₁.gens = #[])
    (hr : Room k callerA) (F : ∀ base : Heap, K.In base → base.Ns mainGlobals mg → FnRG P w K mg base CX0 k fa sp) (hO : Only H) (hok : HOk P w H s₁.heap)
    (hK : ∀ b o, K.lookup b = some o → H b = none) (hD : ∀ b o es ep, s₁.heap.get? b = some o → o.data = .dict es ep → H b = none)
    (h : sp [.ref a] H (fun v _ => v = .bl true) fun _ _ _ => False) : codeAny (model P w) callerA (.call (.ref fa) ⟨[.ref a], []⟩) (ended s₁) s₁ := by
  have nsK : ∀ {b : Addr} {m : Str → Option Value}, s₁.heap.Ns b m → (hidT s₁.heap H).Ns b m := fun {b m} z => by
    obtain ⟨o, es, ep, e, d, r⟩ := z
    exact ⟨o, es, ep, hidT_get e (hD b o es ep e d), d, r⟩
  have hKb : K.In (hidT s₁.heap H) := fun b o e => hidT_get (KX b o e) (hK b o e)
  obtain ⟨mc, l1, l2⟩ := hlim
  have e0 : Env0 P w K mg (hidT s₁.heap H) callerA [] s₁ H := ⟨rfl, ⟨hKb, nsK hns, ⟨mb, nsK hb, hbb⟩, ⟨mc, nsK l1, l2⟩⟩, fun b o e => of_hidT e, Nat.le_of_eq (hidT_size _ _), trivial, fun b z => (nomatch (show b ∈ ([] : List Addr) from z)), hok, .of_eq hg⟩
  exact codeAny_mono (F _ hKb (nsK hns) callerA [] s₁ H [.ref a] [.ref a] _ _ rfl hr e0 (.cons rfl .nil) h) fun r s' z => ended_of hO hok z
theorem law_callG (KX : K.In s₁.heap) (hns : s₁.heap.Ns mainGlobals mg) (hb : s₁.heap.Ns builtinsNs mb) (hbb : ∀ x : Str, x ≠ "__name__" → mb x = bootBuiltins x) (hlim : s₁.heap.NoLimit) (hg : s₁.gens = #[])
    (ha : s₁.heap.get? a = some { cls := .type "list", data := .seq vs.toArray }) (hi : IntsAre vs ns) (hl : ns.length ≤ sizeLine) (hr : Room k callerA)
    (F : ∀ base : Heap, K.In base → base.Ns mainGlobals mg → FnRG P w K mg base CX0 k fa sp)
    (hsp : ∀ H : Hp, Only H → SqL K H a (ns.map V.int) → sp [.ref a] H (fun v _ => v = .bl true) fun _ _ _ => False) :
    codeAny (model P w) callerA (.call (.ref fa) ⟨[.ref a], []⟩) (ended s₁) s₁ := by
  have rv := vals_ints hi
  cases hk : K.lookup a with
  | some o =>
    have e := KX a o hk
    rw [ha] at e
    have e' := (Option.some.inj e).symm
    subst e'
    have hO : Only (fun _ => none) := fun _ => .inl rfl
    refine lawG_core (H := fun _ => none) KX hns hb hbb hlim hg hr F hO (fun b u z => nomatch z) (fun _ _ _ => rfl) (fun _ _ _ _ _ _ => rfl) (hsp _ hO (.inr ⟨_, vs.toArray, _, hk, rfl, rfl, rfl, ?_, ?_⟩))
    · rw [List.size_toArray, hi.length]
      exact hl
    · simpa using rv
  | none =>
    let o : Obj := { cls := .type "list", data := .seq vs.toArray }
    let H : Hp := fun b => if b = a then some (.frz o (.lst (ns.map V.int))) else none
    have h1 : H a = some (.frz o (.lst (ns.map V.int))) := if_pos rfl
    have h2 : ∀ b, b ≠ a → H b = none := fun b z => if_neg z
    have hO : Only H := fun b => by
      by_cases z : b = a
      · exact .inr ⟨o, _, by rw [z]; exact h1⟩
      · exact .inl (h2 b z)
    refine lawG_core (H := H) KX hns hb hbb hlim hg hr F hO (fun b u z => ?_) (fun b o' z => h2 b fun y => ?_) (fun b o' es ep e d => h2 b fun y => ?_) (hsp _ hO (.inl (.inr ⟨o, h1⟩)))
    · by_cases y : b = a
      · subst y
        rw [h1] at z
        have z' := Option.some.inj z
        subst z'
        exact ⟨ha, by rw [List.length_map]; exact hl, vs, _, rv, ha⟩
      · rw [h2 b y] at z
        cases z
    · rw [y, hk] at z
      cases z
    · rw [y, ha] at e
      have e' := (Option.some.inj e).symm
      subst e'
      cases d
end
/-- a law called where no repr is running -/
theorem walk_ofG {l : PySem.W.OpenLaw} {n k : Nat} {q : Program} {loose : List Str} {XP : (Str → Option Value) → Heap → Prop} {YP : World → Heap → Prop} {d : DefRec}
    (hn : l.most = some n) (hn2 : n ≤ sizeLine) (hdf : d.params.defaults = []) (hr : Room k callerA)
    (F : ∀ (w : World) (mg : Str → Option Value) (fa : Addr) (h : Heap), YP w h → h.Ns mainGlobals mg → mg d.name = some (.ref fa) →
      ∃ (K : PySem.W.Frag) (sp : Sp), K.In h ∧ (∀ (H : Hp) (a : Addr) (ns : List Int), ns.length ≤ n → Only H → SqL K H a (ns.map V.int) → sp [.ref a] H (fun v _ => v = .bl true) fun _ _ _ => False) ∧
        ∀ base : Heap, K.In base → base.Ns mainGlobals mg → FnRG l.prog w K mg base CX0 k fa sp) :
    PySem.W.WalkO q loose XP YP l.row.toRowW d [] (fun f vs => PySem.call f vs) := by
  refine Att.attach_call hn hdf fun w s₀ s₁ mg mb fa o pm cd doc a vs ns G Y ho hd hcd hmg hobj hi hlen hg => ?_
  obtain ⟨K, sp, KX, hsp, hF⟩ := F w mg fa _ Y G.T.g hmg
  exact law_callG KX G.T.g G.T.b G.T.builtins G.T.nolimit hg hobj hi (Nat.le_trans hlen hn2) hr hF fun H hO hS => hsp H a ns hlen hO hS
end ZL
set_option Elab.async false
set_option linter.all false
set_option maxRecDepth 100000
set_option maxHeartbeats 4000000
namespace ZL
open PySem PySem.Spec PyProof.Rows L2
section
variable {X : Cx} {CX : CXT} {k : Nat} {f C : Addr} {sp : Sp} {E : XK}
/-- C() -/
theorem pe_makeR0 {x : Str} {p pos : Pos} (M : Mk X.K C f) (F : FnR X.prog X.w X.K X.mg X.base CX k f sp) (hr : Room (k + 1) X.A) (hg : Gl X x) (hm : X.mg x = some (.ref C)) (hx : Passes CX X E) (hd : (x == ("__debug__" : Str)) = false := by decide) :
    PE X (.Call (.Name x p) [] [] pos) (fun σ H Q => ∀ x dx, H x = none → H dx = none → dx ≠ x → sp [V.ref x] (upd (upd H dx (.own x)) x (.ins C dx [])) (fun v H2 => v = .non ∧ Q (.ref x) H2) E) :=
  ⟨fun pins s σ H Q I h => wpAny_Call_Name_kw (ld_glob I hg hm (PySem.W.callWith_K0 I.kIn M.kp (StX.run_makeR M F hr hx (I.tok _) .nil h)) hd)⟩
end
end ZL
set_option Elab.async false
set_option linter.all false
set_option maxRecDepth 100000
set_option maxHeartbeats 0
namespace K22
open PySem PySem.W L2
def top (i : Nat) : Stmt := PySem.Challenge.pw_lapseeds_k22_rows_in_order.main.body.getD i (.Pass ⟨0, 0, 0, 0⟩)
abbrev sWhole : Stmt := top 1
abbrev sBetween : Stmt := top 2
abbrev sAreWhole : Stmt := top 3
abbrev sShort : Stmt := top 15
abbrev sPart : Stmt := top 16
abbrev sInit : Stmt := inClass (top 17) 1
abbrev sOf : Stmt := inClass (top 17) 2
abbrev sNeed : Stmt := inClass (top 17) 5
abbrev sNeg : Stmt := inClass (top 17) 9
abbrev sItem : Stmt := inClass (top 17) 11
abbrev sLt : Stmt := inClass (top 17) 14
abbrev sLe : Stmt := inClass (top 17) 15
abbrev sGt : Stmt := inClass (top 17) 16
abbrev sGe : Stmt := inClass (top 17) 17
abbrev sEq : Stmt := inClass (top 17) 18
abbrev sPen : Stmt := top 19
abbrev sDraw : Stmt := top 20
abbrev sNear : Stmt := top 22
abbrev sSign : Stmt := top 23
abbrev sLaw : Stmt := top 24
def gD (x : Str) (st : Stmt) : He5.DefA := ⟨fun K => He.ga K x, x, x, defArgs st, defBody st, defScope st, [], []⟩
def mD (c m q : Str) (st : Stmt) : He5.DefA := ⟨fun K => He.ma K (He.ga K c) m, m, q, defArgs st, defBody st, defScope st, [], []⟩
def cD (c m q : Str) (st : Stmt) : He5.DefA := ⟨fun K => He5.wf K (He.ga K c) "classmethod" m, m, q, defArgs st, defBody st, defScope st, [], []⟩
def fn : List He5.DefA := [gD "is_whole" sWhole, gD "is_between" sBetween, gD "are_whole" sAreWhole, gD "need_short" sShort, gD "is_part" sPart,
  mD "Row" "__init__" "Row.__init__" sInit, cD "Row" "of" "Row.of" sOf, mD "Row" "need_row" "Row.need_row" sNeed, mD "Row" "__neg__" "Row.__neg__" sNeg, mD "Row" "__getitem__" "Row.__getitem__" sItem,
  mD "Row" "__lt__" "Row.__lt__" sLt, mD "Row" "__le__" "Row.__le__" sLe, mD "Row" "__gt__" "Row.__gt__" sGt, mD "Row" "__ge__" "Row.__ge__" sGe, mD "Row" "__eq__" "Row.__eq__" sEq,
  gD "_law_pen" sPen, gD "_law_draw" sDraw, gD "_law_near" sNear, gD "_law_sign" sSign, gD "law" sLaw]
abbrev cR (K : Frag) : Addr := He.ga K "Row"
abbrev mR (K : Frag) (m : Str) : Addr := He.ma K (cR K) m
abbrev fOf (K : Frag) : Addr := He5.wf K (cR K) "classmethod" "of"
def glos : List Str := ["is_whole", "is_between", "are_whole", "need_short", "is_part", "Row", "_law_pen", "_law_draw", "_law_near", "_law_sign", "law"]
def frees : List Str := ["isinstance", "int", "bool", "all", "len", "tuple", "list", "enumerate", "range", "str", "repr", "abs"]
def meths : List Str := ["need_row", "__neg__", "__getitem__", "__lt__", "__le__", "__gt__", "__ge__", "__eq__"]
def chk (K : Frag) : Bool :=
  (glos.all fun x => (He.Fa.glo x).ok K) && ((frees.all fun x => (He.Fa.free x).ok K) && ((meths.all fun m => (He.Fa.meth "Row" m).ok K) && ((He.Fa.int "MOST_MOVES" 6).ok K && ((He.Fa.int "LAST_PIT" 5).ok K && ((He.Fa.cls "Row").ok K && ((He.Fa.mkr "Row").ok K && ((He.Fa.noat "Row" "pits").ok K &&
  (He5.wrapB K (cR K) "classmethod" "classmethod.__get__" "of" && (fnIn K (fOf K) && (readsIn K (cR K) (.type "type") && (He.eqO (specialIn K (.ref (cR K)) "__getattribute__") (some (some (.builtin "type.__getattribute__"))) &&
  (He.eqO (findIn K (.ref (cR K)) "__ne__") (some (some (.builtin "object.__ne__"))) && (decide (mroIn K (cR K) (.type "object") = some true) && (fnIn K (mR K "__getitem__") &&
  (He.eqO (findIn K (.ref (cR K)) "__class__") (some (some (.builtin "object.__class__"))) && (He.eqO (specialIn K (.builtin "object.__class__") "__get__") (some (some (.builtin "getset_descriptor.__get__"))) && (decide (takesIn K (.builtin "object.__class__") = some true))))))))))))))))))
structure TX (K : Frag) (mg : Str → Option Value) : Prop where
  says : ZH.SaysZ chk fn K
  glo : ∀ x ∈ glos, mg x = some (.ref (He.ga K x))
  free : ∀ x ∈ frees, mg x = none
  meth : ∀ m ∈ meths, Meth K (cR K) m (mR K m)
  mm : ∃ t, mg "MOST_MOVES" = some (.int 6 t)
  lp : ∃ t, mg "LAST_PIT" = some (.int 5 t)
  cl : Cls K (cR K)
  mkr : Mk K (cR K) (mR K "__init__")
  na : NoAttr K (cR K) "pits"
  rd : ClX.CRead K (cR K) (.type "type")
  cm : ClX.CMet K (cR K) (.type "type") "of" (mR K "of") (fOf K)
  ne : ZL.OwnNe K (cR K)
  gi : fnIn K (mR K "__getitem__") = true
  ca : findIn K (.ref (cR K)) "__class__" = some (some (.builtin "object.__class__"))
  cg : specialIn K (.builtin "object.__class__") "__get__" = some (some (.builtin "getset_descriptor.__get__"))
  ct : takesIn K (.builtin "object.__class__") = some true
theorem tx {K : Frag} {mg : Str → Option Value} {h : Heap} (X : K.In h) (G : h.Ns mainGlobals mg) (c : ZH.SaysZ chk fn K) : TX K mg := by
  have z := c.fact
  obtain ⟨z1, z⟩ := He.ba z
  obtain ⟨z2, z⟩ := He.ba z
  obtain ⟨z3, z⟩ := He.ba z
  obtain ⟨z4, z⟩ := He.ba z
  obtain ⟨z5, z⟩ := He.ba z
  obtain ⟨z6, z⟩ := He.ba z
  obtain ⟨z7, z⟩ := He.ba z
  obtain ⟨z8, z⟩ := He.ba z
  obtain ⟨z9, z⟩ := He.ba z
  obtain ⟨z10, z⟩ := He.ba z
  obtain ⟨z11, z⟩ := He.ba z
  obtain ⟨z12, z⟩ := He.ba z
  obtain ⟨z13, z⟩ := He.ba z
  obtain ⟨z14, z⟩ := He.ba z
  obtain ⟨z15, z⟩ := He.ba z
  obtain ⟨z16, z⟩ := He.ba z
  obtain ⟨z17, z18⟩ := He.ba z
  exact { says := c, glo := fun x hx => He.glo_ok X G (List.all_eq_true.mp z1 x hx), free := fun x hx => He.free_ok X G (List.all_eq_true.mp z2 x hx), meth := (fun m hm => He.meth_ok (List.all_eq_true.mp z3 m hm)), mm := He.int_ok X G z4, lp := He.int_ok X G z5, cl := He.cls_ok z6, mkr := He.mkr_ok z7, na := He.noat_ok z8, rd := ⟨z11, He.eqO_ok z12⟩, cm := He5.cmet_of z9 z10, ne := ⟨He.eqO_ok z13, of_decide_eq_true z14⟩, gi := z15, ca := He.eqO_ok z16, cg := He.eqO_ok z17, ct := of_decide_eq_true z18 }
abbrev R : PySem.W.OpenRow := PySem.W.OpenLaw.row PySem.Challenge.rw_lapseeds_k22_rows_in_order
abbrev hk : PySem.W.Hook := ZH.hookZ 7 chk fn
def ob (s : PySem.W.SharedT) : He.AlD := ZH.obsZG 7 chk fn (HandSHeadRun.getT s)
theorem ob_eq (s : PySem.W.SharedT) : ob s = hk.obs s.abs := ZH.obsZG_eq (HandSHeadRun.getT_eq s)
def loose : List Str := ["is_whole", "is_between", "are_whole", "LapError", "BadNumber", "BadRow", "BadText", "Unlike", "TooMany", "MOST_MOVES", "LAST_PIT", "FIGURES", "need_short", "is_part", "Row", "_law_pen", "_law_draw", "_law_pick", "_law_near", "_law_sign"]
theorem run (w : World) : HandSHeadRun.RunEq R (PySem.W.view R.prog [24]) hk ob 3000 loose w := by
  intro os
  kernel_rfl
end K22
set_option Elab.async false
set_option linter.all false
set_option maxRecDepth 100000
set_option maxHeartbeats 4000000
namespace K22
open PySem PySem.Spec PyProof.Rows L2 ZL
/-! ### the data -/
def isBl : V → Bool
  | .bl _ => true
  | _ => false
def wholeV : V → Bool
  | .int _ => true
  | _ => false
/-- what is_whole asks of a value -/
def Kind (K : PySem.W.Frag) (H : Hp) (x : V) : Prop := ∃ t, TyX K H x t ∧ PySem.W.kitOne K t (.type "int") = some (wholeV x || isBl x) ∧ PySem.W.kitOne K t (.type "bool") = some (isBl x)
theorem kind_int {K : PySem.W.Frag} {H : Hp} (i : Int) : Kind K H (.int i) := ⟨_, .base (.int i), kit_ty (show kitB "int" "int" = some true by decide +kernel), kit_ty (show kitB "int" "bool" = some false by decide +kernel)⟩
def btw (x : V) (lo hi : Int) : Bool := match x with
  | .int i => decide (lo ≤ i) && decide (i ≤ hi)
  | _ => false
def spWhole (K : PySem.W.Frag) : Sp := fun vs H Q _ => ∃ x, vs = [x] ∧ Kind K H x ∧ Q (.bl (wholeV x)) H
def spBetween (K : PySem.W.Frag) : Sp := fun vs H Q _ => ∃ x lo hi, vs = [x, .int lo, .int hi] ∧ Kind K H x ∧ Q (.bl (btw x lo hi)) H
def spAreWhole (K : PySem.W.Frag) : Sp := fun vs H Q _ => ∃ a xs, vs = [.ref a] ∧ SqT K H a xs ∧ xs.length ≤ 999 ∧ (∀ x ∈ xs, ∃ i, x = .int i) ∧ ∀ H', Ext H H' → Q (.bl true) H'
def spShort : Sp := fun vs H Q _ => ∃ n : Int, vs = [.int n] ∧ n ≤ 6 ∧ Q .non H
def spPart (K : PySem.W.Frag) : Sp := fun vs H Q _ => ∃ a i j n, vs = [.ref a, .int n] ∧ H a = some (.tup [.int i, .int j]) ∧ 0 ≤ i ∧ i ≤ j ∧ j ≤ n ∧ ∀ H', Ext H H' → Q (.bl true) H'
section
variable {P : Program} {w : World} {K : PySem.W.Frag} {mg : Str → Option Value} {base : Heap}
theorem scWhole : FnScope ["value"] ["value"] (defScope sWhole) := ⟨rfl, rfl, rfl, by decide +kernel, rfl, by decide +kernel, by decide +kernel⟩
theorem r_whole (T : TX K mg) : FnR P w K mg base CX0 1 (He.ga K "is_whole") (spWhole K) := by
  obtain ⟨fd, F⟩ := T.says.def_ 0
  refine okR (st := sWhole) F scWhole (fun vs H Q E h => ?_) (fun _ _ _ _ _ _ us hl => match us, hl with | [_], _ => rfl) (fun cdv A outer s H vs Q E hr h => ?_)
  · obtain ⟨x, rfl, _⟩ := h
    rfl
  · obtain ⟨x, rfl, ⟨t, ty, k1, k2⟩, q⟩ := h
    refine ⟨_, pss_one (ps_ret (pe_and (pe_callB call_isi (by rfl) (T.free "isinstance" (by decide +kernel)) PyProof.Rows.boot_isinstance (pa_cons (pv 0) (pa_cons (pe_bltn (v := .ty "int") (by rfl) (T.free "int" (by decide +kernel)) PyProof.Rows.boot_int rfl) pa_nil)))
      (pe_one (pe_not (pe_callB call_isi (by rfl) (T.free "isinstance" (by decide +kernel)) PyProof.Rows.boot_isinstance (pa_cons (pv 0) (pa_cons (pe_bltn (v := .ty "bool") (by rfl) (T.free "bool" (by decide +kernel)) PyProof.Rows.boot_bool rfl) pa_nil))))))), ?_⟩
    refine ⟨_, rfl, _, _, _, _, _, rfl, .ty _, ty, k1, _, rfl, ?_⟩
    cases x <;> first
      | (refine iteT ?_
         exact ⟨_, rfl, _, _, _, _, _, rfl, .ty _, ty, k2, _, rfl, q⟩)
      | (refine iteF ?_
         exact q)
theorem scBetween : FnScope ["value", "low", "high"] ["value", "low", "high"] (defScope sBetween) := ⟨rfl, rfl, rfl, by decide +kernel, rfl, by decide +kernel, by decide +kernel⟩
theorem r_between (T : TX K mg) : FnR P w K mg base CX0 2 (He.ga K "is_between") (spBetween K) := by
  obtain ⟨fd, F⟩ := T.says.def_ 1
  obtain ⟨fd0, F0⟩ := T.says.def_ 0
  refine okR (st := sBetween) F scBetween (fun vs H Q E h => ?_) (fun _ _ _ _ _ _ us hl => match us, hl with | [_, _, _], _ => rfl) (fun cdv A outer s H vs Q E hr h => ?_)
  · obtain ⟨x, lo, hi, rfl, _⟩ := h
    rfl
  · obtain ⟨x, lo, hi, rfl, kd, q⟩ := h
    refine ⟨_, pss_one (ps_ret (pe_and (pe_callR (r_whole T) hr rfl (T.glo "is_whole" (by decide +kernel)) F0.kp pass0 (pa_cons (pv 0) pa_nil)) (pe_one (pe_chain op_le op_le (pv 1) (pv 0) (pv 2))))), ?_⟩
    refine ⟨_, rfl, x, rfl, kd, _, rfl, ?_⟩
    cases x <;> first
      | (refine iteF ?_
         exact q)
      | (rename_i i
         refine iteT ?_
         refine ⟨_, rfl, _, rfl, _, _, rfl, rfl, _, rfl, ?_⟩
         by_cases c : lo ≤ i
         · rw [decide_eq_true c]
           refine iteT ?_
           refine ⟨_, rfl, _, _, rfl, rfl, ?_⟩
           have e : btw (.int i) lo hi = decide (i ≤ hi) := by
             show (decide (lo ≤ i) && decide (i ≤ hi)) = _
             rw [decide_eq_true c, Bool.true_and]
           rw [e] at q
           exact q
         · rw [decide_eq_false c]
           refine iteF ?_
           have e : btw (.int i) lo hi = false := by
             show (decide (lo ≤ i) && decide (i ≤ hi)) = _
             rw [decide_eq_false c, Bool.false_and]
           rw [e] at q
           exact q)
theorem scAre : FnScope ["values", "value"] ["values"] (defScope sAreWhole) := ⟨rfl, rfl, rfl, by decide +kernel, rfl, by decide +kernel, by decide +kernel⟩
theorem r_are (T : TX K mg) : FnR P w K mg base CX0 2 (He.ga K "are_whole") (spAreWhole K) := by
  obtain ⟨fd, F⟩ := T.says.def_ 2
  obtain ⟨fd0, F0⟩ := T.says.def_ 0
  refine okR (st := sAreWhole) F scAre (fun vs H Q E h => ?_) (fun _ _ _ _ _ _ us hl => match us, hl with | [_], _ => rfl) (fun cdv A outer s H vs Q E hr h => ?_)
  · obtain ⟨a, xs, rfl, _⟩ := h
    rfl
  · obtain ⟨a, xs, rfl, ha, hn, hi', q⟩ := h
    refine ⟨_, pss_one (ps_ret (pe_callB (cr_all rfl) (by rfl) (T.free "all" (by decide +kernel)) PyProof.Rows.boot_all (pa_cons (pe_lc (own := [("value", 1)]) (g := gName 1) (tt := tYes) rfl scAre.nd (pi_tup (pv 0)) (blkOk_by (N := ["values", "value"]) (sc := defScope sAreWhole) (by decide +kernel))
      (fun _ _ _ _ _ => pg_name (i := 1) scAre.nd rfl (Or.inl rfl)) (fun _ _ _ _ _ => pts_nil) (fun _ _ _ _ _ => pe_callR (r_whole T) hr rfl (T.glo "is_whole" (by decide +kernel)) F0.kp pass0 (pa_cons (pv 1) pa_nil))) pa_nil))), ?_⟩
    refine ⟨_, rfl, a, rfl, ⟨_, ha⟩, fun D hD => ?_⟩
    refine lc_acc walk_tup (fun i ys H' => Ext H H' ∧ ys = (List.replicate i true).map V.bl) ⟨Ext.upd hD, rfl⟩ (fun i ys H' _ z _ => SqT.ext ha z.1) ?_ ?_
    · rintro i ys x H' H2 hi hl ⟨e, rfl⟩ hd ⟨rfl, hx⟩
      obtain ⟨n, rfl⟩ := hi' x (List.mem_of_getElem? hx)
      refine ⟨rfl, _, rfl, _, rfl, kind_int n, LcN.mk hl (by omega) hd ⟨Ext.updD e hD, ?_⟩⟩
      rw [List.replicate_succ', List.map_append]
      rfl
    · rintro ys H' _ ⟨e, rfl⟩ hd
      refine ⟨D, List.replicate xs.length true, rfl, SqL.of hd, ?_⟩
      have : (List.replicate xs.length true).all id = true := by
        rw [List.all_eq_true]
        intro x hx
        exact (List.mem_replicate.mp hx).2
      rw [this]
      exact q H' e
theorem scShort : FnScope ["many"] ["many"] (defScope sShort) := ⟨rfl, rfl, rfl, by decide +kernel, rfl, by decide +kernel, by decide +kernel⟩
theorem r_short (T : TX K mg) : FnR P w K mg base CX0 1 (He.ga K "need_short") spShort := by
  obtain ⟨fd, F⟩ := T.says.def_ 3
  obtain ⟨t, ht⟩ := T.mm
  refine okR (st := sShort) F scShort (fun vs H Q E h => ?_) (fun _ _ _ _ _ _ us hl => match us, hl with | [_], _ => rfl) (fun cdv A outer s H vs Q E hr h => ?_)
  · obtain ⟨n, rfl, _⟩ := h
    rfl
  · obtain ⟨n, rfl, hn, q⟩ := h
    refine ⟨_, pss_one (ps_if (pt_cmpR op_gt (pv 0) (pe_glob (v := .int 6) rfl ht ⟨t, rfl⟩) (nomark _)) pss_never pss_nil), ?_⟩
    refine ⟨_, rfl, _, _, rfl, rfl, _, rfl, ?_⟩
    rw [decide_eq_false (by omega)]
    exact iteF q
theorem scPart : FnScope ["thing", "many"] ["thing", "many"] (defScope sPart) := ⟨rfl, rfl, rfl, by decide +kernel, rfl, by decide +kernel, by decide +kernel⟩
theorem r_part (T : TX K mg) : FnR P w K mg base CX0 3 (He.ga K "is_part") (spPart K) := by
  obtain ⟨fd, F⟩ := T.says.def_ 4
  obtain ⟨fd0, F0⟩ := T.says.def_ 2
  refine okR (st := sPart) F scPart (fun vs H Q E h => ?_) (fun _ _ _ _ _ _ us hl => match us, hl with | [_, _], _ => rfl) (fun cdv A outer s H vs Q E hr h => ?_)
  · obtain ⟨a, i, j, n, rfl, _⟩ := h
    rfl
  · obtain ⟨a, i, j, n, rfl, ha, h0, h1, h2, q⟩ := h
    refine ⟨_, pss_cons (ps_if (PW.pt (pw_or (pt_not (pt_val (pe_callB call_isi (by rfl) (T.free "isinstance" (by decide +kernel)) PyProof.Rows.boot_isinstance (pa_cons (pv 0) (pa_cons (pe_bltn (v := .ty "tuple") (by rfl) (T.free "tuple" (by decide +kernel)) PyProof.Rows.boot_tuple rfl) pa_nil)))))
      (pw_or (pt_cmpR op_ne (pe_callB call_len_seq (by rfl) (T.free "len" (by decide +kernel)) PySem.boot_len (pa_cons (pv 0) pa_nil)) pe_int (nomark _))
        (pw_or1 (pt_not (pt_val (pe_callR (r_are T) hr rfl (T.glo "are_whole" (by decide +kernel)) F0.kp pass0 (pa_cons (pv 0) pa_nil)))))))) (pss_one (ps_ret pe_bl)) pss_nil)
      (pss_one (ps_ret (pe_chain3 op_le op_le op_le pe_int (pe_ix ix_tup (pv 0) pe_int (fun _ _ => rfl)) (pe_ix ix_tup (pv 0) pe_int (fun _ _ => rfl)) (pv 1)))), ?_⟩
    refine ⟨_, rfl, _, _, _, _, _, rfl, .ty _, .base (.tup ha), kit_ty (show kitB "tuple" "tuple" = some true by decide +kernel), _, rfl, ?_⟩
    refine iteF ⟨_, rfl, a, _, rfl, .inr (SqT.of ha), rfl, _, rfl, ?_⟩
    refine iteF ⟨_, rfl, a, _, rfl, SqT.of ha, (by show 2 ≤ 999; decide), fun x hx => ?_, fun H' e => ⟨_, rfl, ?_⟩⟩
    · rcases List.mem_cons.mp hx with z | z
      · exact ⟨_, z⟩
      · exact ⟨_, List.mem_singleton.mp z⟩
    · refine iteF ?_
      have ha' := e _ _ ha
      refine ⟨_, rfl, a, _, _, _, rfl, rfl, SqT.of ha', rfl, _, _, rfl, rfl, _, rfl, ?_⟩
      rw [decide_eq_true h0]
      refine iteT ⟨_, rfl, a, _, _, _, rfl, rfl, SqT.of ha', rfl, _, _, rfl, rfl, _, rfl, ?_⟩
      rw [decide_eq_true h1]
      exact iteT ⟨_, rfl, _, _, rfl, rfl, qT h2 (q H' e)⟩
end
end K22
set_option Elab.async false
set_option linter.all false
set_option maxRecDepth 100000
set_option maxHeartbeats 4000000
namespace K22
open PySem PySem.Spec PyProof.Rows L2 ZL
/-! ### rows -/
abbrev iv (ns : List Int) : List V := ns.map V.int
def Good (ns : List Int) : Prop := ns.length ≤ 6 ∧ ∀ n ∈ ns, 0 ≤ n ∧ n ≤ 5
def rowF (t : Addr) : List (Str × V) := [("pits", .ref t)]
def RowAt (K : PySem.W.Frag) (H : Hp) (a : Addr) (ns : List Int) : Prop := ∃ dx t, H a = some (.ins (cR K) dx (rowF t)) ∧ H t = some (.tup (iv ns))
theorem RowAt.ext {K : PySem.W.Frag} {H H' : Hp} {a : Addr} {ns : List Int} (h : RowAt K H a ns) (e : Ext H H') : RowAt K H' a ns := by
  obtain ⟨dx, t, h1, h2⟩ := h
  exact ⟨dx, t, e _ _ h1, e _ _ h2⟩
theorem rowF_pits (t : Addr) : (rowF t).lookup ("pits" : Str) = some (.ref t) := rfl
theorem rowF_no (t : Addr) {m : Str} (h : ¬ m = "pits") : (rowF t).lookup m = none := by
  show (match m == ("pits" : Str) with | true => some (V.ref t) | false => none) = none
  rw [show (m == ("pits" : Str)) = false from by simpa using h]
theorem tyL {K : PySem.W.Frag} {H : Hp} {a : Addr} {xs : List V} (h : SqL K H a xs) : TyX K H (.ref a) (.type "list") := by
  rcases h with (h | ⟨o, h⟩) | ⟨o, its, n, h, hc, _⟩
  · exact .base (.lst h)
  · exact .base (.frz h)
  · exact .kList h hc
theorem tyT {K : PySem.W.Frag} {H : Hp} {a : Addr} {xs : List V} (h : SqT K H a xs) : TyX K H (.ref a) (.type "tuple") := by
  rcases h with (h | ⟨o, h⟩) | ⟨o, its, n, h, hc, _⟩
  · exact .base (.tup h)
  · exact .fTuple h
  · exact .kTuple h hc
theorem iv_get {ns : List Int} {i : Nat} {x : V} (h : (iv ns)[i]? = some x) : ∃ n, ns[i]? = some n ∧ x = .int n := by
  rw [List.getElem?_map] at h
  cases e : ns[i]? with
  | none => rw [e] at h; cases h
  | some n => rw [e] at h; exact ⟨n, rfl, (Option.some.inj h).symm⟩
/-- __init__, its pits bound to a tuple at p -/
def spInit2 (K : PySem.W.Frag) : Sp := fun vs H Q _ => ∃ x p dx ns, vs = [.ref x, .ref p] ∧ H x = some (.ins (cR K) dx []) ∧ H p = some (.tup (iv ns)) ∧ Good ns ∧
  ∀ H', (∀ b o, H b = some o → b ≠ x → H' b = some o) → H' x = some (.ins (cR K) dx (rowF p)) → Q .non H'
def spInit (K : PySem.W.Frag) : Sp := fun vs H Q _ => ∃ x dx ns, vs = .ref x :: iv ns ∧ H x = some (.ins (cR K) dx []) ∧ Good ns ∧
  ∀ H', (∀ b o, H b = some o → b ≠ x → H' b = some o) → RowAt K H' x ns → Q .non H'
def spOf (K : PySem.W.Frag) : Sp := fun vs H Q _ => ∃ C a ns, vs = [.ref C, .ref a] ∧ (SqT K H a (iv ns) ∨ SqL K H a (iv ns)) ∧ Good ns ∧ ∀ H' r, Ext H H' → RowAt K H' r ns → Q (.ref r) H'
def spNeed (K : PySem.W.Frag) : Sp := fun vs H Q _ => ∃ a b ns, vs = [.ref a, .ref b] ∧ RowAt K H b ns ∧ Q .non H
def spNeg (K : PySem.W.Frag) : Sp := fun vs H Q _ => ∃ a ns, vs = [.ref a] ∧ RowAt K H a ns ∧ Good ns ∧ ∀ H' r, Ext H H' → RowAt K H' r ns.reverse → Q (.ref r) H'
def spItem (K : PySem.W.Frag) : Sp := fun vs H Q _ => ∃ a t ns, vs = [.ref a, .ref t] ∧ RowAt K H a ns ∧ Good ns ∧ H t = some (.tup [.int 0, .int (ns.length : Int)]) ∧ ∀ H' r, Ext H H' → RowAt K H' r ns → Q (.ref r) H'
abbrev datR (ns : List Int) : PyData := .tuple [.int (ns.length : Int), .tuple (ns.map PyData.int)]
def ltR (ns ms : List Int) : Bool := PySem.W.dataLt (datR ns) (datR ms)
def spCmp (K : PySem.W.Frag) (f : List Int → List Int → Bool) : Sp := fun vs H Q _ => ∃ a b ns ms, vs = [.ref a, .ref b] ∧ RowAt K H a ns ∧ RowAt K H b ms ∧ ∀ H', Ext H H' → Q (.bl (f ns ms)) H'
section
variable {P : Program} {w : World} {K : PySem.W.Frag} {mg : Str → Option Value} {base : Heap}
theorem tyR (T : TX K mg) {H : Hp} {a dx : Addr} {fs : List (Str × V)} (h : H a = some (.ins (cR K) dx fs)) : TyX K H (.ref a) (.ref (cR K)) := .base (.ins h T.cl T.ca T.cg T.ct T.ne.ob)
theorem scInit : FnScope ["self", "pits", "at", "pit"] ["self", "pits"] (defScope sInit) := ⟨rfl, rfl, rfl, by decide +kernel, rfl, by decide +kernel, by decide +kernel⟩
theorem r_init (T : TX K mg) : FnR P w K mg base CX0 3 (mR K "__init__") (spInit K) := by
  obtain ⟨fd, F⟩ := T.says.def_ 5
  obtain ⟨fd1, F1⟩ := T.says.def_ 1
  obtain ⟨fd2, F2⟩ := T.says.def_ 3
  obtain ⟨oc, od, dV, kV, doc, pm, an, cdv, ct, osl, e, lk, hcd, hD, -⟩ := F.ex
  obtain ⟨tl, hl⟩ := T.lp
  have dN : dV = .none := by
    rcases hD with ⟨_, q⟩ | ⟨q, _⟩
    · exact q
    · exact absurd rfl q
  subst dN
  have G : FnR P w K mg base CX0 3 (mR K "__init__") (fun vs H Q E => ∃ ws rest, vs = ws ++ rest ∧ ws.length = ["self"].length ∧ rest.length ≤ sizeLine ∧ ∀ p, H p = none → spInit2 K (ws ++ [V.ref p]) (upd H p (.tup rest)) Q E) := by
    subst e
    refine StX.fn_star (k := 2) (ps := ["self"]) (pv := "pits") lk hcd scInit StX.cxUp_none (StX.bind_star1 (B := fun us => bindArgs (PySem.W.fnOf _ _ _ _ _ .none kV doc pm an cdv ct) ⟨us, []⟩) (fun _ => rfl) (fun _ _ _ => rfl)) fun A outer s H vs Q E hr h => ?_
    obtain ⟨x, p, dx, ns, rfl, hx, hp, hg, q⟩ := h
    have hr1 : Room 1 _ := hr.mono (by decide)
    refine ⟨_, PSs.nox (pss_cons (ps_for PassesOwn.never rfl (pi_enumT (by rfl) (T.free "enumerate" (by decide +kernel)) (pa_cons (pv 1) pa_nil)) (pg_tup rfl (pgs_cons (pg_name (i := 2) scInit.nd rfl (.inl rfl)) (pgs_cons (pg_name (i := 3) scInit.nd rfl (.inl rfl)) pgs_nil)))
        (pss_one (ps_if (pt_not (pt_val (pe_callR (r_between T) hr rfl (T.glo "is_between" (by decide +kernel)) F1.kp pass0 (pa_cons (pv 3) (pa_cons pe_int (pa_cons (pe_glob (v := .int 5) rfl hl ⟨tl, rfl⟩) pa_nil)))))) pss_never pss_nil)))
      (pss_cons (ps_expr (pe_callR (r_short T) hr1 rfl (T.glo "need_short" (by decide +kernel)) F2.kp pass0 (pa_cons (pe_callB call_len_seq (by rfl) (T.free "len" (by decide +kernel)) PySem.boot_len (pa_cons (pv 1) pa_nil)) pa_nil)))
      (pss_one (ps_fld (pv 0) (pv 1) rfl)))), ?_⟩
    refine ⟨_, rfl, p, iv ns, rfl, SqT.of hp, for_it (walk_enumT (K := K) (a := p) (xs := iv ns)) (fun i σ H' => ∃ u v, σ = [some (.ref x), some (.ref p), u, v] ∧ Ext H H') ⟨none, none, rfl, Ext.rfl'⟩ (fun i σ H' _ z => ?_) (fun i y σ H1 H2 hi z hy => ?_) fun σ H' z => ?_⟩
    · obtain ⟨u, v, _, e⟩ := z
      exact SqT.ext (SqT.of hp) e
    · obtain ⟨u, v, rfl, e⟩ := z
      obtain ⟨T', a, b, rfl, hT, rfl, ha, hb⟩ := hy
      obtain ⟨n, hn, rfl⟩ := iv_get hb
      have hn' := hg.2 n (List.mem_of_getElem? hn)
      refine ⟨T', _, rfl, SqT.of upd_same, rfl, ?_⟩
      refine ⟨_, _, rfl, _, _, rfl, rfl, ?_⟩
      refine ⟨_, rfl, _, 0, 5, rfl, kind_int n, _, rfl, ?_⟩
      have eb : btw (.int n) 0 5 = true := by
        show (decide (0 ≤ n) && decide (n ≤ 5)) = true
        rw [decide_eq_true hn'.1, decide_eq_true hn'.2] <;> rfl
      rw [eb]
      exact iteF ⟨_, _, rfl, e.upd' hT⟩
    · obtain ⟨u, v, rfl, e⟩ := z
      have hx' := e _ _ hx
      have hp' := e _ _ hp
      refine ⟨_, rfl, p, _, rfl, .inr (SqT.of hp'), _, rfl, ?_, ?_⟩
      · have := hg.1
        simp
        omega
      · refine ⟨_, rfl, _, rfl, x, cR K, dx, [], rfl, hx', T.cl, T.na, by decide, ?_⟩
        exact q _ (fun b o z hb => by rw [upd_ne hb]; exact e _ _ z) upd_same
  refine G.imp fun vs H Q E h => ?_
  obtain ⟨x, dx, ns, rfl, hx, hg, q⟩ := h
  refine ⟨[.ref x], iv ns, rfl, rfl, ?_, fun p hp => ?_⟩
  · have := hg.1
    rw [List.length_map]
    exact Nat.le_trans this (by decide)
  · refine ⟨x, p, dx, ns, rfl, by rw [upd_ne (ne_of_none hx hp)]; exact hx, upd_same, hg, fun H' k hx' => q H' (fun b o z hb => k b o (by rw [upd_ne (ne_of_none z hp)]; exact z) hb) ⟨dx, p, hx', k p _ upd_same (ne_of_none hx hp).symm⟩⟩
theorem kitR {K : PySem.W.Frag} : PySem.W.kitOne K (.ref (cR K)) (.ref (cR K)) = some true := by
  show (if (Value.ref (cR K) == Value.ref (cR K)) = true then some true else _) = some true
  rw [if_pos (by simp)]
theorem scOf : FnScope ["cls", "pits"] ["cls", "pits"] (defScope sOf) := ⟨rfl, rfl, rfl, by decide +kernel, rfl, by decide +kernel, by decide +kernel⟩
theorem r_of (T : TX K mg) : FnR P w K mg base CX0 5 (fOf K) (spOf K) := by
  obtain ⟨fd, F⟩ := T.says.def_ 6
  refine okR (st := sOf) F scOf (fun vs H Q E h => ?_) (fun _ _ _ _ _ _ us hl => match us, hl with | [_, _], _ => rfl) (fun cdv A outer s H vs Q E hr h => ?_)
  · obtain ⟨C, a, ns, rfl, _⟩ := h
    rfl
  · obtain ⟨C, a, ns, rfl, hS, hg, q⟩ := h
    refine ⟨_, pss_cons (ps_if (pt_not (pt_val (pe_callB call_isiT (by rfl) (T.free "isinstance" (by decide +kernel)) PyProof.Rows.boot_isinstance (pa_cons (pv 1) (pa_cons (pe_tup (pa_cons (pe_bltn (v := .ty "list") (by rfl) (T.free "list" (by decide +kernel)) PyProof.Rows.boot_list rfl)
      (pa_cons (pe_bltn (v := .ty "tuple") (by rfl) (T.free "tuple" (by decide +kernel)) PyProof.Rows.boot_tuple rfl) pa_nil))) pa_nil))))) pss_never pss_nil)
      (pss_one (ps_ret (pe_makeS1 T.mkr (r_init T) hr rfl (T.glo "Row" (by decide +kernel)) pass0 (pv 1)))), ?_⟩
    refine ⟨_, rfl, (by show 2 ≤ sizeLine; decide), fun tp htp => ?_⟩
    have e1 : Ext H (upd H tp (.tup [.ty "list", .ty "tuple"])) := Ext.upd htp
    obtain ⟨t, ty, kt, hS'⟩ : ∃ t, TyX K (upd H tp (.tup [.ty "list", .ty "tuple"])) (.ref a) t ∧ PySem.W.kitAny K t [.type "list", .type "tuple"] = some true ∧ (SqT K (upd H tp (.tup [.ty "list", .ty "tuple"])) a (iv ns) ∨ SqL K (upd H tp (.tup [.ty "list", .ty "tuple"])) a (iv ns)) := by
      rcases hS with hS | hS
      · exact ⟨_, tyT (SqT.ext hS e1), kitAny_cons (kit_ty (show kitB "tuple" "list" = some false by decide +kernel)) (fun _ => kitAny_cons (kit_ty (show kitB "tuple" "tuple" = some true by decide +kernel)) (fun z => nomatch z) fun _ => rfl) (fun z => nomatch z), .inl (SqT.ext hS e1)⟩
      · exact ⟨_, tyL (SqL.ext hS e1), kitAny_cons (kit_ty (show kitB "list" "list" = some true by decide +kernel)) (fun z => nomatch z) fun _ => rfl, .inr (SqL.ext hS e1)⟩
    refine ⟨_, tp, _, t, _, true, rfl, upd_same, .cons (.ty _) (.cons (.ty _) .nil), ty, kt, _, rfl, iteF ?_⟩
    refine ⟨_, rfl, a, iv ns, rfl, hS', fun x dx hx hdx hne => ⟨x, dx, ns, rfl, upd_same, hg, fun H' k hr' => ⟨rfl, q H' x (fun b o z => ?_) hr'⟩⟩⟩
    have z1 := e1 b o z
    exact k b o (by rw [upd_ne (ne_of_none z1 hx), upd_ne (ne_of_none z1 hdx)]; exact z1) (ne_of_none z1 hx)
theorem scNeed : FnScope ["self", "other"] ["self", "other"] (defScope sNeed) := ⟨rfl, rfl, rfl, by decide +kernel, rfl, by decide +kernel, by decide +kernel⟩
theorem r_need (T : TX K mg) : FnR P w K mg base CX0 1 (mR K "need_row") (spNeed K) := by
  obtain ⟨fd, F⟩ := T.says.def_ 7
  refine okR (st := sNeed) F scNeed (fun vs H Q E h => ?_) (fun _ _ _ _ _ _ us hl => match us, hl with | [_, _], _ => rfl) (fun cdv A outer s H vs Q E hr h => ?_)
  · obtain ⟨a, b, ns, rfl, _⟩ := h
    rfl
  · obtain ⟨a, b, ns, rfl, ⟨dx, t, hb, ht⟩, q⟩ := h
    refine ⟨_, pss_one (ps_if (pt_not (pt_val (pe_callB call_isi (by rfl) (T.free "isinstance" (by decide +kernel)) PyProof.Rows.boot_isinstance (pa_cons (pv 1) (pa_cons (pe_glob (v := .ref (cR K)) rfl (T.glo "Row" (by decide +kernel)) rfl) pa_nil))))) pss_never pss_nil), ?_⟩
    exact ⟨_, rfl, _, _, _, _, true, rfl, .own _, tyR T hb, kitR, _, rfl, iteF q⟩
theorem scNeg : FnScope ["self"] ["self"] (defScope sNeg) := ⟨rfl, rfl, rfl, by decide +kernel, rfl, by decide +kernel, by decide +kernel⟩
theorem Good.rev {ns : List Int} (h : Good ns) : Good ns.reverse := ⟨by rw [List.length_reverse]; exact h.1, fun n hn => h.2 n (List.mem_reverse.mp hn)⟩
theorem iv_rev (ns : List Int) : (iv ns).reverse = iv ns.reverse := List.map_reverse.symm
theorem r_neg (T : TX K mg) : FnR P w K mg base CX0 6 (mR K "__neg__") (spNeg K) := by
  obtain ⟨fd, F⟩ := T.says.def_ 8
  refine okR (st := sNeg) F scNeg (fun vs H Q E h => ?_) (fun _ _ _ _ _ _ us hl => match us, hl with | [_], _ => rfl) (fun cdv A outer s H vs Q E hr h => ?_)
  · obtain ⟨a, ns, rfl, _⟩ := h
    rfl
  · obtain ⟨a, ns, rfl, ⟨dx, t, ha, ht⟩, hg, q⟩ := h
    refine ⟨_, pss_one (ps_ret (ClX.pe_cmeth (pe_glob (v := .ref (cR K)) rfl (T.glo "Row" (by decide +kernel)) rfl) T.rd T.cm (r_of T) hr pass0 (pa_cons (pe_revT (pe_fld (pv 0) rfl)) pa_nil))), ?_⟩
    refine ⟨rfl, _, rfl, a, cR K, dx, _, _, rfl, ha, T.cl, T.na, rowF_pits t, t, _, rfl, SqT.of ht, fun p hp => ?_⟩
    refine ⟨cR K, p, ns.reverse, rfl, .inl (SqT.of (by rw [upd_same, iv_rev])), hg.rev, fun H' r e hr' => q H' r ((Ext.upd hp).trans e) hr'⟩
theorem scItem : FnScope ["self", "at"] ["self", "at"] (defScope sItem) := ⟨rfl, rfl, rfl, by decide +kernel, rfl, by decide +kernel, by decide +kernel⟩
theorem r_item (T : TX K mg) : FnR P w K mg base CX0 6 (mR K "__getitem__") (spItem K) := by
  obtain ⟨fd, F⟩ := T.says.def_ 9
  obtain ⟨fd1, F1⟩ := T.says.def_ 4
  refine okR (st := sItem) F scItem (fun vs H Q E h => ?_) (fun _ _ _ _ _ _ us hl => match us, hl with | [_, _], _ => rfl) (fun cdv A outer s H vs Q E hr h => ?_)
  · obtain ⟨a, t, ns, rfl, _⟩ := h
    rfl
  · obtain ⟨a, u, ns, rfl, ⟨dx, t, ha, ht⟩, hg, hu, q⟩ := h
    have hr3 : Room 3 _ := hr.mono (by decide)
    refine ⟨_, pss_cons (ps_if (pt_val (pe_callR (r_part T) hr3 rfl (T.glo "is_part" (by decide +kernel)) F1.kp pass0 (pa_cons (pv 1) (pa_cons (pe_callB call_len_seq (by rfl) (T.free "len" (by decide +kernel)) PySem.boot_len (pa_cons (pe_fld (pv 0) rfl) pa_nil)) pa_nil))))
      (pss_one (ps_ret (ClX.pe_cmeth (pe_glob (v := .ref (cR K)) rfl (T.glo "Row" (by decide +kernel)) rfl) T.rd T.cm (r_of T) hr pass0 (pa_cons (pe_slice sl_tupA (pe_fld (pv 0) rfl) (po_some (pe_ix ix_tup (pv 1) pe_int (fun _ _ => rfl))) (po_some (pe_ix ix_tup (pv 1) pe_int (fun _ _ => rfl)))) pa_nil)))) pss_nil) pss_never, ?_⟩
    refine ⟨_, rfl, _, rfl, a, cR K, dx, _, _, rfl, ha, T.cl, T.na, rowF_pits t, t, _, rfl, .inr (SqT.of ht), u, 0, (ns.length : Int), _, rfl, hu, by omega, by omega, ?_, fun H1 e1 => ⟨_, rfl, iteT ?_⟩⟩
    · rw [List.length_map]
      omega
    have ha1 := e1 _ _ ha
    have ht1 := e1 _ _ ht
    have hu1 := e1 _ _ hu
    refine ⟨rfl, _, rfl, a, cR K, dx, _, _, rfl, ha1, T.cl, T.na, rowF_pits t, _, rfl, u, _, _, _, rfl, rfl, SqT.of hu1, rfl, _, rfl, _, rfl, u, _, _, _, rfl, rfl, SqT.of hu1, rfl, _, rfl, t, _, rfl, SqT.of ht1, fun _ => ?_, fun hw => ?_⟩
    · exact ⟨cR K, t, ns, rfl, .inl (SqT.of ht1), hg, fun H' r e hr' => q H' r (e1.trans e) hr'⟩
    · refine absurd ⟨?_, ?_⟩ hw
      · exact (HT.sIx_nat _ _ 0).trans (Nat.zero_min _)
      · rw [List.length_map, HT.sIx_nat]
        exact Nat.min_self _
end
end K22
set_option Elab.async false
set_option linter.all false
set_option maxRecDepth 100000
set_option maxHeartbeats 4000000
namespace K22
open PySem PySem.Spec PyProof.Rows L2 ZL
theorem dp_iv {K : PySem.W.Frag} {H : Hp} : ∀ ns : List Int, DpAll K H (iv ns) (ns.map PyData.int)
  | [] => .nil
  | n :: ns => .cons (.int n) (dp_iv ns)
theorem dp_tup {K : PySem.W.Frag} {H : Hp} {t : Addr} {ns : List Int} (h : H t = some (.tup (iv ns))) : Dp K H (.ref t) (.tuple (ns.map PyData.int)) := .tup (SqT.of h) (dp_iv ns)
theorem dp_row {K : PySem.W.Frag} {H : Hp} {p t : Addr} {ns : List Int} (hp : H p = some (.tup [.int ((iv ns).length : Int), .ref t])) (h : H t = some (.tup (iv ns))) : Dp K H (.ref p) (datR ns) := by
  have e : ((iv ns).length : Int) = (ns.length : Int) := by rw [List.length_map]
  rw [e] at hp
  exact .tup (SqT.of hp) (.cons (.int _) (.cons (dp_tup h) .nil))
theorem alike_iv : ∀ ns ms : List Int, PySem.W.alikeAll (ns.map PyData.int) (ms.map PyData.int) = true
  | [], _ => by simp [PySem.W.alikeAll]
  | _ :: _, [] => by simp [PySem.W.alikeAll]
  | n :: ns, m :: ms => by
    show PySem.W.alikeAll (PyData.int n :: ns.map PyData.int) (PyData.int m :: ms.map PyData.int) = true
    rw [PySem.W.alikeAll, alike_iv ns ms, PySem.W.alike]
    rfl
theorem alike_row (ns ms : List Int) : PySem.W.alike (datR ns) (datR ms) = true := by
  rw [PySem.W.alike, PySem.W.alikeAll, PySem.W.alikeAll, PySem.W.alike, PySem.W.alike, alike_iv, PySem.W.alikeAll]
  rfl
theorem depth_iv : ∀ ns : List Int, PyData.depthAll (ns.map PyData.int) ≤ 1
  | [] => by simp [PyData.depthAll]
  | n :: ns => by
    have := depth_iv ns
    simp [PyData.depthAll, PyData.depth]
    omega
theorem depth_row (ns : List Int) : (datR ns).depth ≤ 60 := by
  have := depth_iv ns
  simp [PyData.depth, PyData.depthAll]
  omega
def eqR (ns ms : List Int) : Bool := PyData.eqv (.tuple (ns.map PyData.int)) (.tuple (ms.map PyData.int))
theorem lay_iv : ∀ ns : List Int, PyData.canLayAll0 (ns.map PyData.int) = true
  | [] => by simp [PyData.canLayAll0]
  | n :: ns => by
    simp [PyData.canLayAll0, PyData.canLay0]
    simpa using lay_iv ns
theorem shaped_iv (ns : List Int) : SeqAt.shaped (.tuple (ns.map PyData.int)) = true := by
  unfold SeqAt.shaped
  have h1 := lay_iv ns
  have h2 := depth_iv ns
  rw [PyData.canLay0, h1, PyData.depth, decide_eq_true (by omega)]
  rfl
section
variable {P : Program} {w : World} {K : PySem.W.Frag} {mg : Str → Option Value} {base : Heap}
theorem scLt : FnScope ["self", "other"] ["self", "other"] (defScope sLt) := ⟨rfl, rfl, rfl, by decide +kernel, rfl, by decide +kernel, by decide +kernel⟩
theorem r_lt (T : TX K mg) : FnR P w K mg base CX0 2 (mR K "__lt__") (spCmp K (fun ns ms => ltR ns ms)) := by
  obtain ⟨fd, F⟩ := T.says.def_ 10
  refine okR (st := sLt) F scLt (fun vs H Q E h => ?_) (fun _ _ _ _ _ _ us hl => match us, hl with | [_, _], _ => rfl) (fun cdv A outer s H vs Q E hr h => ?_)
  · obtain ⟨a, b, ns, ms, rfl, _⟩ := h
    rfl
  · obtain ⟨a, b, ns, ms, rfl, ⟨dx, t, ha, ht⟩, ⟨dy, u, hb, hu⟩, q⟩ := h
    refine ⟨_, pss_cons (ps_expr (pe_methR (pv 0) T.cl (T.meth "need_row" (by decide +kernel)) (r_need T) hr pass0 (pa_cons (pv 1) pa_nil)))
      (pss_one (ps_ret (pe_cmpR (op_ltD hr.units) (pe_tup (pa_cons (pe_callB call_len_seq (by rfl) (T.free "len" (by decide +kernel)) PySem.boot_len (pa_cons (pe_fld (pv 0) rfl) pa_nil)) (pa_cons (pe_fld (pv 0) rfl) pa_nil))) (pe_tup (pa_cons (pe_callB call_len_seq (by rfl) (T.free "len" (by decide +kernel)) PySem.boot_len (pa_cons (pe_fld (pv 1) rfl) pa_nil)) (pa_cons (pe_fld (pv 1) rfl) pa_nil))) (nomark _)))), ?_⟩
    refine ⟨_, rfl, a, dx, _, rfl, ha, rowF_no t (by decide +kernel), _, rfl, a, b, ms, rfl, ⟨dy, u, hb, hu⟩, ?_⟩
    refine ⟨_, rfl, a, cR K, dx, _, _, rfl, ha, T.cl, T.na, rowF_pits t, t, _, rfl, .inr (SqT.of ht), _, rfl, a, cR K, dx, _, _, rfl, ha, T.cl, T.na, rowF_pits t, (by show 2 ≤ sizeLine; decide), fun p hp => ?_⟩
    have e1 : Ext H (upd H p (.tup [.int ((iv ns).length : Int), .ref t])) := Ext.upd hp
    have h1 := e1 _ _ hb
    have h2 := e1 _ _ hu
    refine ⟨_, rfl, b, cR K, dy, _, _, rfl, h1, T.cl, T.na, rowF_pits u, u, _, rfl, .inr (SqT.of h2), _, rfl, b, cR K, dy, _, _, rfl, h1, T.cl, T.na, rowF_pits u, (by show 2 ≤ sizeLine; decide), fun r hr2 => ?_⟩
    have e2 := Ext.upd (o := .tup [.int ((iv ms).length : Int), .ref u]) hr2
    refine ⟨datR ns, datR ms, dp_row (e2 _ _ upd_same) ((e1.trans e2) _ _ ht), dp_row upd_same ((e1.trans e2) _ _ hu), alike_row _ _, (fun z => nomatch z), depth_row _, ?_⟩
    exact q _ (e1.trans e2)
theorem scLe : FnScope ["self", "other"] ["self", "other"] (defScope sLe) := ⟨rfl, rfl, rfl, by decide +kernel, rfl, by decide +kernel, by decide +kernel⟩
theorem r_le (T : TX K mg) : FnR P w K mg base CX0 2 (mR K "__le__") (spCmp K (fun ns ms => !ltR ms ns)) := by
  obtain ⟨fd, F⟩ := T.says.def_ 11
  refine okR (st := sLe) F scLe (fun vs H Q E h => ?_) (fun _ _ _ _ _ _ us hl => match us, hl with | [_, _], _ => rfl) (fun cdv A outer s H vs Q E hr h => ?_)
  · obtain ⟨a, b, ns, ms, rfl, _⟩ := h
    rfl
  · obtain ⟨a, b, ns, ms, rfl, ⟨dx, t, ha, ht⟩, ⟨dy, u, hb, hu⟩, q⟩ := h
    refine ⟨_, pss_cons (ps_expr (pe_methR (pv 0) T.cl (T.meth "need_row" (by decide +kernel)) (r_need T) hr pass0 (pa_cons (pv 1) pa_nil)))
      (pss_one (ps_ret (pe_cmpR (op_leD hr.units) (pe_tup (pa_cons (pe_callB call_len_seq (by rfl) (T.free "len" (by decide +kernel)) PySem.boot_len (pa_cons (pe_fld (pv 0) rfl) pa_nil)) (pa_cons (pe_fld (pv 0) rfl) pa_nil))) (pe_tup (pa_cons (pe_callB call_len_seq (by rfl) (T.free "len" (by decide +kernel)) PySem.boot_len (pa_cons (pe_fld (pv 1) rfl) pa_nil)) (pa_cons (pe_fld (pv 1) rfl) pa_nil))) (nomark _)))), ?_⟩
    refine ⟨_, rfl, a, dx, _, rfl, ha, rowF_no t (by decide +kernel), _, rfl, a, b, ms, rfl, ⟨dy, u, hb, hu⟩, ?_⟩
    refine ⟨_, rfl, a, cR K, dx, _, _, rfl, ha, T.cl, T.na, rowF_pits t, t, _, rfl, .inr (SqT.of ht), _, rfl, a, cR K, dx, _, _, rfl, ha, T.cl, T.na, rowF_pits t, (by show 2 ≤ sizeLine; decide), fun p hp => ?_⟩
    have e1 : Ext H (upd H p (.tup [.int ((iv ns).length : Int), .ref t])) := Ext.upd hp
    have h1 := e1 _ _ hb
    have h2 := e1 _ _ hu
    refine ⟨_, rfl, b, cR K, dy, _, _, rfl, h1, T.cl, T.na, rowF_pits u, u, _, rfl, .inr (SqT.of h2), _, rfl, b, cR K, dy, _, _, rfl, h1, T.cl, T.na, rowF_pits u, (by show 2 ≤ sizeLine; decide), fun r hr2 => ?_⟩
    have e2 := Ext.upd (o := .tup [.int ((iv ms).length : Int), .ref u]) hr2
    refine ⟨datR ns, datR ms, dp_row (e2 _ _ upd_same) ((e1.trans e2) _ _ ht), dp_row upd_same ((e1.trans e2) _ _ hu), alike_row _ _, (fun z => nomatch z), depth_row _, ?_⟩
    exact q _ (e1.trans e2)
theorem scGt : FnScope ["self", "other"] ["self", "other"] (defScope sGt) := ⟨rfl, rfl, rfl, by decide +kernel, rfl, by decide +kernel, by decide +kernel⟩
theorem r_gt (T : TX K mg) : FnR P w K mg base CX0 2 (mR K "__gt__") (spCmp K (fun ns ms => ltR ms ns)) := by
  obtain ⟨fd, F⟩ := T.says.def_ 12
  refine okR (st := sGt) F scGt (fun vs H Q E h => ?_) (fun _ _ _ _ _ _ us hl => match us, hl with | [_, _], _ => rfl) (fun cdv A outer s H vs Q E hr h => ?_)
  · obtain ⟨a, b, ns, ms, rfl, _⟩ := h
    rfl
  · obtain ⟨a, b, ns, ms, rfl, ⟨dx, t, ha, ht⟩, ⟨dy, u, hb, hu⟩, q⟩ := h
    refine ⟨_, pss_cons (ps_expr (pe_methR (pv 0) T.cl (T.meth "need_row" (by decide +kernel)) (r_need T) hr pass0 (pa_cons (pv 1) pa_nil)))
      (pss_one (ps_ret (pe_cmpR (op_ltD hr.units) (pe_tup (pa_cons (pe_callB call_len_seq (by rfl) (T.free "len" (by decide +kernel)) PySem.boot_len (pa_cons (pe_fld (pv 1) rfl) pa_nil)) (pa_cons (pe_fld (pv 1) rfl) pa_nil))) (pe_tup (pa_cons (pe_callB call_len_seq (by rfl) (T.free "len" (by decide +kernel)) PySem.boot_len (pa_cons (pe_fld (pv 0) rfl) pa_nil)) (pa_cons (pe_fld (pv 0) rfl) pa_nil))) (nomark _)))), ?_⟩
    refine ⟨_, rfl, a, dx, _, rfl, ha, rowF_no t (by decide +kernel), _, rfl, a, b, ms, rfl, ⟨dy, u, hb, hu⟩, ?_⟩
    refine ⟨_, rfl, b, cR K, dy, _, _, rfl, hb, T.cl, T.na, rowF_pits u, u, _, rfl, .inr (SqT.of hu), _, rfl, b, cR K, dy, _, _, rfl, hb, T.cl, T.na, rowF_pits u, (by show 2 ≤ sizeLine; decide), fun p hp => ?_⟩
    have e1 : Ext H (upd H p (.tup [.int ((iv ms).length : Int), .ref u])) := Ext.upd hp
    have h1 := e1 _ _ ha
    have h2 := e1 _ _ ht
    refine ⟨_, rfl, a, cR K, dx, _, _, rfl, h1, T.cl, T.na, rowF_pits t, t, _, rfl, .inr (SqT.of h2), _, rfl, a, cR K, dx, _, _, rfl, h1, T.cl, T.na, rowF_pits t, (by show 2 ≤ sizeLine; decide), fun r hr2 => ?_⟩
    have e2 := Ext.upd (o := .tup [.int ((iv ns).length : Int), .ref t]) hr2
    refine ⟨datR ms, datR ns, dp_row (e2 _ _ upd_same) ((e1.trans e2) _ _ hu), dp_row upd_same ((e1.trans e2) _ _ ht), alike_row _ _, (fun z => nomatch z), depth_row _, ?_⟩
    exact q _ (e1.trans e2)
theorem scGe : FnScope ["self", "other"] ["self", "other"] (defScope sGe) := ⟨rfl, rfl, rfl, by decide +kernel, rfl, by decide +kernel, by decide +kernel⟩
theorem r_ge (T : TX K mg) : FnR P w K mg base CX0 2 (mR K "__ge__") (spCmp K (fun ns ms => !ltR ns ms)) := by
  obtain ⟨fd, F⟩ := T.says.def_ 13
  refine okR (st := sGe) F scGe (fun vs H Q E h => ?_) (fun _ _ _ _ _ _ us hl => match us, hl with | [_, _], _ => rfl) (fun cdv A outer s H vs Q E hr h => ?_)
  · obtain ⟨a, b, ns, ms, rfl, _⟩ := h
    rfl
  · obtain ⟨a, b, ns, ms, rfl, ⟨dx, t, ha, ht⟩, ⟨dy, u, hb, hu⟩, q⟩ := h
    refine ⟨_, pss_cons (ps_expr (pe_methR (pv 0) T.cl (T.meth "need_row" (by decide +kernel)) (r_need T) hr pass0 (pa_cons (pv 1) pa_nil)))
      (pss_one (ps_ret (pe_cmpR (op_leD hr.units) (pe_tup (pa_cons (pe_callB call_len_seq (by rfl) (T.free "len" (by decide +kernel)) PySem.boot_len (pa_cons (pe_fld (pv 1) rfl) pa_nil)) (pa_cons (pe_fld (pv 1) rfl) pa_nil))) (pe_tup (pa_cons (pe_callB call_len_seq (by rfl) (T.free "len" (by decide +kernel)) PySem.boot_len (pa_cons (pe_fld (pv 0) rfl) pa_nil)) (pa_cons (pe_fld (pv 0) rfl) pa_nil))) (nomark _)))), ?_⟩
    refine ⟨_, rfl, a, dx, _, rfl, ha, rowF_no t (by decide +kernel), _, rfl, a, b, ms, rfl, ⟨dy, u, hb, hu⟩, ?_⟩
    refine ⟨_, rfl, b, cR K, dy, _, _, rfl, hb, T.cl, T.na, rowF_pits u, u, _, rfl, .inr (SqT.of hu), _, rfl, b, cR K, dy, _, _, rfl, hb, T.cl, T.na, rowF_pits u, (by show 2 ≤ sizeLine; decide), fun p hp => ?_⟩
    have e1 : Ext H (upd H p (.tup [.int ((iv ms).length : Int), .ref u])) := Ext.upd hp
    have h1 := e1 _ _ ha
    have h2 := e1 _ _ ht
    refine ⟨_, rfl, a, cR K, dx, _, _, rfl, h1, T.cl, T.na, rowF_pits t, t, _, rfl, .inr (SqT.of h2), _, rfl, a, cR K, dx, _, _, rfl, h1, T.cl, T.na, rowF_pits t, (by show 2 ≤ sizeLine; decide), fun r hr2 => ?_⟩
    have e2 := Ext.upd (o := .tup [.int ((iv ns).length : Int), .ref t]) hr2
    refine ⟨datR ms, datR ns, dp_row (e2 _ _ upd_same) ((e1.trans e2) _ _ hu), dp_row upd_same ((e1.trans e2) _ _ ht), alike_row _ _, (fun z => nomatch z), depth_row _, ?_⟩
    exact q _ (e1.trans e2)
theorem scEq : FnScope ["self", "other"] ["self", "other"] (defScope sEq) := ⟨rfl, rfl, rfl, by decide +kernel, rfl, by decide +kernel, by decide +kernel⟩
theorem r_eq (T : TX K mg) : FnR P w K mg base CX0 1 (mR K "__eq__") (spCmp K eqR) := by
  obtain ⟨fd, F⟩ := T.says.def_ 14
  refine okR (st := sEq) F scEq (fun vs H Q E h => ?_) (fun _ _ _ _ _ _ us hl => match us, hl with | [_, _], _ => rfl) (fun cdv A outer s H vs Q E hr h => ?_)
  · obtain ⟨a, b, ns, ms, rfl, _⟩ := h
    rfl
  · obtain ⟨a, b, ns, ms, rfl, ⟨dx, t, ha, ht⟩, ⟨dy, u, hb, hu⟩, q⟩ := h
    refine ⟨_, pss_one (ps_ret (pe_and (pe_callB call_isi (by rfl) (T.free "isinstance" (by decide +kernel)) PyProof.Rows.boot_isinstance (pa_cons (pv 1) (pa_cons (pe_glob (v := .ref (cR K)) rfl (T.glo "Row" (by decide +kernel)) rfl) pa_nil)))
      (pe_one (pe_cmpR (op_eqD hr.units) (pe_fld (pv 0) rfl) (pe_fld (pv 1) rfl) (nomark _))))), ?_⟩
    refine ⟨_, rfl, _, _, _, _, true, rfl, .own _, tyR T hb, kitR, _, rfl, iteT ?_⟩
    refine ⟨_, rfl, a, cR K, dx, _, _, rfl, ha, T.cl, T.na, rowF_pits t, _, rfl, b, cR K, dy, _, _, rfl, hb, T.cl, T.na, rowF_pits u, _, _, dp_tup ht, dp_tup hu, shaped_iv _, shaped_iv _, ?_⟩
    exact q H Ext.rfl'
end
end K22
set_option Elab.async false
set_option linter.all false
set_option maxRecDepth 100000
set_option maxHeartbeats 4000000
namespace K22
open PySem PySem.Spec PyProof.Rows L2 ZL
/-! ### the pen that draws -/
def PenAt (H : Hp) (p c : Addr) (ns : List Int) (B : Int) : Prop := ∃ at_ rest, H p = some (.lst [.ref c, .int at_, .int rest]) ∧ H c = some (.lst (iv ns)) ∧ ns.length ≤ 63 ∧ 0 ≤ at_ ∧ at_ ≤ B ∧ 0 ≤ rest
/-- all but what stands at p is kept -/
def But (p : Addr) (H H' : Hp) : Prop := ∀ a o, H a = some o → a ≠ p → H' a = some o
theorem But.refl {p : Addr} {H : Hp} : But p H H := fun _ _ h _ => h
theorem But.trans {p : Addr} {H H1 H2 : Hp} (a : But p H H1) (b : But p H1 H2) : But p H H2 := fun c o h n => b c o (a c o h n) n
theorem But.ext {p : Addr} {H H1 H2 : Hp} (a : But p H H1) (b : Ext H1 H2) : But p H H2 := fun c o h n => b c o (a c o h n)
theorem But.of {p : Addr} {H H' : Hp} (e : Ext H H') : But p H H' := fun c o h _ => e c o h
theorem But.upd {p : Addr} {H : Hp} {o : HO} : But p H (upd H p o) := fun a u h n => by rw [upd_ne n]; exact h
theorem PenAt.ext {H H' : Hp} {p c : Addr} {ns : List Int} {B : Int} (h : PenAt H p c ns B) (e : Ext H H') : PenAt H' p c ns B := by
  obtain ⟨a, r, h1, h2, h3⟩ := h
  exact ⟨a, r, e _ _ h1, e _ _ h2, h3⟩
theorem PenAt.mono {H : Hp} {p c : Addr} {ns : List Int} {B B' : Int} (h : PenAt H p c ns B) (e : B ≤ B') : PenAt H p c ns B' := by
  obtain ⟨a, r, h1, h2, h3, h4, h5, h6⟩ := h
  exact ⟨a, r, h1, h2, h3, h4, Int.le_trans h5 e, h6⟩
theorem PenAt.updD {H : Hp} {p c D : Addr} {ns : List Int} {B : Int} {o : HO} (h : PenAt H p c ns B) (n1 : p ≠ D) (n2 : c ≠ D) : PenAt (upd H D o) p c ns B := by
  obtain ⟨a, r, h1, h2, h3⟩ := h
  exact ⟨a, r, by rw [upd_ne n1]; exact h1, by rw [upd_ne n2]; exact h2, h3⟩
theorem But.updD {p D : Addr} {H H1 H2 : Hp} {o : HO} (b : But p H H1) (b2 : But p H1 H2) (h : H1 D = none) : But p H (L2.upd H2 D o) := fun x u e n => by
  rw [upd_ne (ne_of_none (b x u e n) h)]
  exact b2 x u (b x u e n) n
theorem pen_ne {H : Hp} {p c : Addr} {at_ rest : Int} {a : Addr} {ns : List Int} (h1 : H p = some (.lst [.ref c, .int at_, .int rest])) (h2 : H a = some (.lst (iv ns))) : a ≠ p := by
  refine ne_of h2 h1 fun z => ?_
  injection z with z
  cases ns with
  | nil => cases z
  | cons n ns => cases z
def spPen (K : PySem.W.Frag) : Sp := fun vs H Q _ => ∃ a ns, vs = [.ref a] ∧ SqL K H a (iv ns) ∧ ns.length ≤ 63 ∧ ∀ H' p c cs, Ext H H' → PenAt H' p c cs 0 → Q (.ref p) H'
def spDraw : Sp := fun vs H Q _ => ∃ p c cs m B, vs = [.ref p, .int m] ∧ PenAt H p c cs B ∧ B ≤ 100000 ∧ 1 ≤ m ∧ m < 1000000000 ∧ ∀ H' r, But p H H' → PenAt H' p c cs (B + 1) → 0 ≤ r → r < m → Q (.int r) H'
theorem mul_bd {x y a b : Int} (h0 : 0 ≤ x) (h1 : x ≤ a) (h2 : 0 ≤ y) (h3 : y ≤ b) : 0 ≤ x * y ∧ x * y ≤ a * b :=
  ⟨Int.mul_nonneg h0 h2, Int.mul_le_mul h1 h3 h2 (Int.le_trans h0 h1)⟩
theorem draw_bd {m a : Int} (h0 : 0 ≤ m) (h1 : m ≤ 2147483628) (h2 : 0 ≤ a) (h3 : a ≤ 100000) : (m * (2 * a + 355) + 60387 * a * a + 63).natAbs < 2 ^ 64 := by
  have q1 := mul_bd h0 h1 (show 0 ≤ 2 * a + 355 by omega) (show 2 * a + 355 ≤ 200355 by omega)
  have q2 := mul_bd (show 0 ≤ 60387 * a by omega) (show 60387 * a ≤ 6038700000 by omega) h2 h3
  have e1 : (2147483628 : Int) * 200355 = 430261082287140 + 0 ∨ True := .inr trivial
  have : (2147483628 : Int) * 200355 + 6038700000 * 100000 + 63 < 2 ^ 64 := by decide
  omega
theorem shapedL (ns : List Int) : SeqAt.shaped (.list (ns.map PyData.int)) = true := by
  unfold SeqAt.shaped
  have h1 := lay_iv ns
  have h2 := depth_iv ns
  rw [PyData.canLay0, h1, PyData.depth, decide_eq_true (by omega)]
  rfl
theorem cut63 {ns : List Int} : cutV (iv ns) none (some 63) = iv (ns.take 63) := by
  have e : HT.sIx (iv ns).length (iv ns).length (some (63 : Int)) = min 63 (iv ns).length := HT.sIx_nat _ _ 63
  unfold cutV
  rw [HT.sIx_none, e, List.drop_zero, Nat.sub_zero, show iv (ns.take 63) = (iv ns).take 63 from List.map_take]
  by_cases h : 63 ≤ (iv ns).length
  · rw [Nat.min_eq_left h]
  · rw [Nat.min_eq_right (by omega), List.take_length, List.take_of_length_le (by omega)]
section
variable {P : Program} {w : World} {K : PySem.W.Frag} {mg : Str → Option Value} {base : Heap}
theorem scPen : FnScope ["_law_script"] ["_law_script"] (defScope sPen) := ⟨rfl, rfl, rfl, by decide +kernel, rfl, by decide +kernel, by decide +kernel⟩
theorem r_pen (T : TX K mg) : FnR P w K mg base CX0 1 (He.ga K "_law_pen") (spPen K) := by
  obtain ⟨fd, F⟩ := T.says.def_ 15
  refine okR (st := sPen) F scPen (fun vs H Q E h => ?_) (fun _ _ _ _ _ _ us hl => match us, hl with | [_], _ => rfl) (fun cdv A outer s H vs Q E hr h => ?_)
  · obtain ⟨a, ns, rfl, _⟩ := h
    rfl
  · obtain ⟨a, ns, rfl, ha, hl, q⟩ := h
    refine ⟨_, pss_one (ps_ret (pe_lst (pa_cons (pe_callTy call_list_of (by rfl) (T.free "list" (by decide +kernel)) PyProof.Rows.boot_list (pa_cons (pe_slice sl_list (pv 0) po_none (po_some pe_int)) pa_nil)) (pa_cons pe_int (pa_cons pe_int pa_nil))))), ?_⟩
    refine ⟨_, rfl, _, rfl, a, _, rfl, ha, fun b hb => ?_⟩
    have e1 := Ext.upd (o := .lst (cutV (iv ns) none (some 63))) hb
    refine ⟨b, _, rfl, .inl (SqL.of upd_same), fun c hc => ?_⟩
    have e2 := Ext.upd (o := .lst (cutV (iv ns) none (some 63))) hc
    refine ⟨(by show 3 ≤ sizeLine; decide), fun p hp => ?_⟩
    have e3 := Ext.upd (o := .lst [.ref c, .int 0, .int 0]) hp
    have ec : cutV (iv ns) none (some 63) = iv (ns.take 63) := cut63
    refine q _ p c (ns.take 63) ((e1.trans e2).trans e3) ⟨0, 0, upd_same, ?_, by rw [List.length_take]; omega, by omega, by omega, by omega⟩
    rw [← ec]
    exact e3 _ _ upd_same
theorem scDraw : FnScope ["_law_pen_here", "_law_many", "_law_digit", "_law_at", "_law_cell", "_law_great", "_law_mixed"] ["_law_pen_here", "_law_many"] (defScope sDraw) := ⟨rfl, rfl, rfl, by decide +kernel, rfl, by decide +kernel, by decide +kernel⟩
theorem r_draw (T : TX K mg) : FnR P w K mg base CX0 1 (He.ga K "_law_draw") spDraw := by
  obtain ⟨fd, F⟩ := T.says.def_ 16
  refine okR (st := sDraw) F scDraw (fun vs H Q E h => ?_) (fun _ _ _ _ _ _ us hl => match us, hl with | [_, _], _ => rfl) (fun cdv A outer s H vs Q E hr h => ?_)
  · obtain ⟨p, c, ns, m, B, rfl, _⟩ := h
    rfl
  · obtain ⟨p, c, ns, m, B, rfl, ⟨a, r, hp, hc, hl, ha0, haB, hr0⟩, hB, hm, hm2, q⟩ := h
    refine' ⟨_, pss_cons ?s1 (pss_cons ?s2 (pss_cons ?s3 (pss_cons ?s4 (C8.pss_cut ?s5 (C8.pss_cut ?s6 (pss_cons ?s7 (pss_cons ?s8 (pss_one ?s9)))))))), ?rd⟩
    case s1 => exact ps_if (pt_cmpR op_gt (pe_ix ix_list (pv 0) pe_int (fun _ _ => rfl)) pe_int (nomark _)) (pss_cons (ps_set (i := 2) scDraw.nd rfl (.inl rfl) (pe_op op_mod (pe_callTy call_int1 (by rfl) (T.free "int" (by decide +kernel)) PyProof.Rows.boot_int (pa_cons (pe_ix ix_list (pv 0) pe_int (fun _ _ => rfl)) pa_nil)) (pv 1))) (pss_cons (ps_asg (pe_op op_fdiv (pe_callTy call_int1 (by rfl) (T.free "int" (by decide +kernel)) PyProof.Rows.boot_int (pa_cons (pe_ix ix_list (pv 0) pe_int (fun _ _ => rfl)) pa_nil)) (pv 1)) (pg_sub (pv 0) pe_int set_list)) (pss_one (ps_ret (pv 2))))) pss_nil
    case s2 => exact ps_set (i := 3) scDraw.nd rfl (.inl rfl) (pe_ix ix_list (pv 0) pe_int (fun _ _ => rfl))
    case s3 => exact ps_asg (pe_op op_add (pv 3) pe_int) (pg_sub (pv 0) pe_int set_list)
    case s4 => exact ps_set (i := 4) scDraw.nd rfl (.inl rfl) (pe_op op_add (pe_op op_mul pe_int (pv 3)) pe_int)
    case s5 => exact ps_if (pt_cmpR (op_neD hr.units) (pe_ix ix_list (pv 0) pe_int (fun _ _ => rfl)) (pe_lst pa_nil) (nomark _)) (pss_one (ps_set (i := 4) scDraw.nd rfl (.inl rfl) (pe_ix ix_list (pe_ix ix_list (pv 0) pe_int (fun _ _ => rfl)) (pe_op op_mod (pe_callTy call_int1 (by rfl) (T.free "int" (by decide +kernel)) PyProof.Rows.boot_int (pa_cons (pv 3) pa_nil)) (pe_callB call_len_seq (by rfl) (T.free "len" (by decide +kernel)) PySem.boot_len (pa_cons (pe_ix ix_list (pv 0) pe_int (fun _ _ => rfl)) pa_nil))) (fun _ _ => rfl)))) pss_nil
    case s6 => exact ps_if (PW.pt (pw_and (pt_cmpR op_lt (pv 3) (pe_callB call_len_seq (by rfl) (T.free "len" (by decide +kernel)) PySem.boot_len (pa_cons (pe_ix ix_list (pv 0) pe_int (fun _ _ => rfl)) pa_nil)) (nomark _)) (pw_and1 (pt_cmpR op_ge (pe_callB call_abs (by rfl) (T.free "abs" (by decide +kernel)) PyProof.Rows.boot_abs (pa_cons (pv 4) pa_nil)) (pe_op op_pow pe_int pe_int) (nomark _))))) (pss_cons (ps_set (i := 5) scDraw.nd rfl (.inl rfl) (pe_op op_add (pe_op op_mul pe_int (pe_op op_sub (pe_callB call_abs (by rfl) (T.free "abs" (by decide +kernel)) PyProof.Rows.boot_abs (pa_cons (pv 4) pa_nil)) (pe_op op_pow pe_int pe_int))) (pe_callTy call_int1 (by rfl) (T.free "int" (by decide +kernel)) PyProof.Rows.boot_int (pa_cons (pe_cmpR op_lt (pv 4) pe_int (nomark _)) pa_nil))))
      (pss_cons (ps_asg (pe_op op_fdiv (pe_callTy call_int1 (by rfl) (T.free "int" (by decide +kernel)) PyProof.Rows.boot_int (pa_cons (pv 5) pa_nil)) (pv 1)) (pg_sub (pv 0) pe_int set_list)) (pss_one (ps_ret (pe_op op_mod (pe_callTy call_int1 (by rfl) (T.free "int" (by decide +kernel)) PyProof.Rows.boot_int (pa_cons (pv 5) pa_nil)) (pv 1)))))) pss_nil
    case s7 => exact ps_set (i := 6) scDraw.nd rfl (.inl rfl) (pe_op op_mod (pe_callTy call_int1 (by rfl) (T.free "int" (by decide +kernel)) PyProof.Rows.boot_int (pa_cons (pe_op op_pow (pe_op op_add (pe_op op_add (pe_op op_mod (pe_callTy call_int1 (by rfl) (T.free "int" (by decide +kernel)) PyProof.Rows.boot_int (pa_cons (pv 4) pa_nil)) pe_int) (pe_op op_mul pe_int (pv 3))) pe_int) pe_int) pa_nil)) pe_int)
    case s8 => exact ps_set (i := 6) scDraw.nd rfl (.inl rfl) (pe_op op_mod (pe_callTy call_int1 (by rfl) (T.free "int" (by decide +kernel)) PyProof.Rows.boot_int (pa_cons (pe_op op_pow (pe_op op_add (pe_op op_add (pe_op op_mul (pv 6) (pe_op op_add (pe_op op_mul pe_int (pv 3)) pe_int)) (pe_op op_mul (pe_op op_mul pe_int (pv 3)) (pv 3))) pe_int) pe_int) pa_nil)) pe_int)
    case s9 => exact ps_ret (pe_op op_mod (pe_callTy call_int1 (by rfl) (T.free "int" (by decide +kernel)) PyProof.Rows.boot_int (pa_cons (pe_op op_fdiv (pv 6) pe_int) pa_nil)) (pv 1))
    case rd =>
      have hcp := pen_ne hp hc
      refine ⟨_, rfl, p, _, _, _, rfl, rfl, SqL.of hp, rfl, _, _, rfl, rfl, _, rfl, ?_⟩
      by_cases c1 : 0 < r
      · rw [decide_eq_true c1]
        refine iteT ?_
        refine ⟨_, rfl, p, _, _, _, rfl, rfl, SqL.of hp, rfl, .inl ⟨_, rfl, _, rfl, _, _, rfl, rfl, (by show 0 < m; omega), ?_⟩⟩
        refine ⟨_, rfl, p, _, _, _, rfl, rfl, SqL.of hp, rfl, .inl ⟨_, rfl, _, rfl, _, _, rfl, rfl, ⟨(by show 0 < m; omega), (by show m < _; omega)⟩, _, rfl, p, _, _, 2, rfl, rfl, hp, rfl, ?_⟩⟩
        refine ⟨_, rfl, ?_⟩
        exact q _ _ But.upd ⟨a, r / m, upd_same, by rw [upd_ne hcp]; exact hc, hl, ha0, by omega, Int.ediv_nonneg hr0 (by omega)⟩ (Int.emod_nonneg _ (by omega)) (Int.emod_lt_of_pos _ (by omega))
      · rw [decide_eq_false c1]
        refine iteF ?_
        obtain rfl : r = 0 := by omega
        refine ⟨_, rfl, p, _, _, _, rfl, rfl, SqL.of hp, rfl, ?_⟩
        refine ⟨_, rfl, _, _, rfl, rfl, _, rfl, p, _, _, 1, rfl, rfl, hp, rfl, ?_⟩
        obtain ⟨H1, eH⟩ : ∃ H1, H1 = upd H p (.lst [.ref c, .int (a + 1), .int 0]) := ⟨_, rfl⟩
        have hp1 : H1 p = some (.lst [.ref c, .int (a + 1), .int 0]) := by rw [eH]; exact upd_same
        have hc1 : H1 c = some (.lst (iv ns)) := by rw [eH, upd_ne hcp]; exact hc
        have b1 : But p H H1 := by rw [eH]; exact But.upd
        rw [show upd H p (HO.lst ([V.ref c, V.int a, V.int 0].set 1 ((fun i j => V.int (i + j)) a 1))) = H1 from eH.symm]
        refine ⟨_, rfl, _, _, rfl, rfl, .inl ⟨by decide, by decide⟩, _, _, rfl, rfl, ?_⟩
        refine ⟨fun σ' H' => ∃ v, σ' = [some (.ref p), some (.int m), none, some (.int a), some (.int v), none, none] ∧ Ext H1 H', ?_, ?_⟩
        · refine ⟨_, rfl, p, _, _, _, rfl, rfl, SqL.of hp1, rfl, Nat.zero_le _, fun l hl' => ?_⟩
          have e := Ext.upd (o := .lst []) hl'
          have hp2 := e _ _ hp1
          have hc2 := e _ _ hc1
          refine ⟨.list (ns.map .int), .list [], .lst (SqL.of hc2) (dp_iv ns), .lst (SqL.of upd_same) .nil, shapedL ns, shapedL [], _, rfl, ?_⟩
          cases ns with
          | nil =>
            have z : PyData.eqv (.list (([] : List Int).map .int)) (.list []) = true := by simp [PyData.eqv, PyData.eqvAll]
            rw [z]
            exact iteF ⟨_, rfl, e⟩
          | cons n ns' =>
            have z : PyData.eqv (.list ((n :: ns').map .int)) (.list []) = false := by simp [PyData.eqv, PyData.eqvAll]
            rw [z]
            refine iteT ?_
            have hlen : (0 : Int) < ((iv (n :: ns')).length : Int) := by rw [List.length_map, List.length_cons]; omega
            have j1 := Int.emod_nonneg a (show ((iv (n :: ns')).length : Int) ≠ 0 by omega)
            have j2 := Int.emod_lt_of_pos a hlen
            have j3 : (a % ((iv (n :: ns')).length : Int)).toNat < (n :: ns').length := by
              have e0 : (iv (n :: ns')).length = (n :: ns').length := List.length_map _
              omega
            refine ⟨_, rfl, p, _, _, _, rfl, rfl, SqL.of hp2, rfl, _, rfl, .inl ⟨_, rfl, _, rfl, p, _, _, _, rfl, rfl, SqL.of hp2, rfl, c, _, rfl, .inl (SqL.of hc2), _, _, rfl, rfl, hlen, c, _, _, .int ((n :: ns')[(a % ((iv (n :: ns')).length : Int)).toNat]), rfl, rfl, SqL.of hc2, ?_, ?_⟩⟩
            · refine at_of (j := (a % ((iv (n :: ns')).length : Int)).toNat) (by omega) ?_
              rw [List.getElem?_map, List.getElem?_eq_getElem j3]
              rfl
            · exact ⟨_, rfl, e⟩
        · rintro σ' H' ⟨v, rfl, e⟩
          have hp2 := e _ _ hp1
          have hc2 := e _ _ hc1
          have b2 := b1.ext e
          refine ⟨fun σ'' H'' => σ'' = [some (.ref p), some (.int m), none, some (.int a), some (.int v), none, none] ∧ H'' = H', ?_, ?_⟩
          · refine ⟨_, rfl, _, rfl, p, _, _, _, rfl, rfl, SqL.of hp2, rfl, c, _, rfl, .inl (SqL.of hc2), _, _, rfl, rfl, _, rfl, ?_⟩
            refine ite2 (fun c2 => ?_) (fun c2 => ?_)
            · refine ⟨_, rfl, _, rfl, _, _, rfl, rfl, ⟨by decide, by decide, by decide⟩, _, _, rfl, rfl, _, rfl, ?_⟩
              refine ite2 (fun c3 => ?_) (fun c3 => ?_)
              · have c3' : (10 : Int) ^ (18 : Int).toNat ≤ (if v < 0 then -v else v) := of_decide_eq_true c3
                refine ⟨_, rfl, _, rfl, _, _, rfl, rfl, ⟨by decide, by decide, by decide⟩, _, _, rfl, rfl, _, _, rfl, rfl, .inl ⟨by decide, by decide⟩, _, rfl, _, _, rfl, rfl, .inr ⟨_, rfl, _, _, rfl, rfl, ?_⟩⟩
                have hgt : 0 ≤ 2 * ((if v < 0 then -v else v) - (10 : Int) ^ (18 : Int).toNat) + (if decide (v < 0) = true then 1 else 0) := by
                  have : 0 ≤ (if decide (v < 0) = true then (1 : Int) else 0) := by split <;> omega
                  omega
                refine ⟨_, rfl, .inl ⟨_, rfl, _, rfl, _, _, rfl, rfl, ⟨(by show 0 < m; omega), (by show m < _; omega)⟩, _, rfl, p, _, _, 2, rfl, rfl, hp2, rfl, ?_⟩⟩
                refine ⟨_, rfl, .inl ⟨_, rfl, _, rfl, _, _, rfl, rfl, (by show 0 < m; omega), ?_⟩⟩
                exact q _ _ (b2.trans But.upd) ⟨a + 1, _, upd_same, by rw [upd_ne hcp]; exact hc2, hl, by omega, by omega, Int.ediv_nonneg hgt (by omega)⟩ (Int.emod_nonneg _ (by omega)) (Int.emod_lt_of_pos _ (by omega))
              · exact ⟨rfl, rfl⟩
            · exact iteF ⟨rfl, rfl⟩
          · rintro σ'' H'' ⟨rfl, rfl⟩
            have m1 := Int.emod_nonneg v (show (2147483549 : Int) ≠ 0 by decide)
            have m2 := Int.emod_lt_of_pos v (show (0 : Int) < 2147483549 by decide)
            refine ⟨_, rfl, .inl ⟨_, rfl, _, _, rfl, rfl, (by show (0 : Int) < 2147483549; decide), _, rfl, _, _, rfl, rfl, .inl ⟨by decide, by decide⟩, _, _, rfl, rfl, _, _, rfl, rfl, _, _, rfl, rfl, ⟨by decide, by decide, ?_⟩, .inl ⟨_, rfl, _, _, rfl, rfl, (by show (0 : Int) < 2147483629; decide), ?_⟩⟩⟩
            · show (v % 2147483549 + 71297 * a + 929).natAbs < 2 ^ 64
              omega
            generalize (v % 2147483549 + 71297 * a + 929) ^ (5 : Int).toNat = y1
            have m3 := Int.emod_nonneg y1 (show (2147483629 : Int) ≠ 0 by decide)
            have m4 := Int.emod_lt_of_pos y1 (show (0 : Int) < 2147483629 by decide)
            refine ⟨_, rfl, _, rfl, _, _, rfl, rfl, .inl ⟨by decide, by decide⟩, _, _, rfl, rfl, _, _, rfl, rfl, .inl ⟨by omega, by omega⟩, _, rfl, _, _, rfl, rfl, .inl ⟨by decide, by decide⟩, _, rfl, _, _, rfl, rfl, .inl ⟨by omega, by omega⟩, _, _, rfl, rfl, _, _, rfl, rfl, _, _, rfl, rfl, ⟨by decide, by decide, ?_⟩, .inl ⟨_, rfl, _, _, rfl, rfl, (by show (0 : Int) < 2147483587; decide), ?_⟩⟩
            · exact draw_bd m3 (by omega) ha0 (by omega)
            refine ⟨_, rfl, _, _, rfl, rfl, ⟨by decide, by decide⟩, .inl ⟨_, rfl, _, rfl, _, _, rfl, rfl, (by show 0 < m; omega), ?_⟩⟩
            exact q _ _ b2 ⟨a + 1, 0, hp2, hc2, hl, by omega, by omega, by omega⟩ (Int.emod_nonneg _ (by omega)) (Int.emod_lt_of_pos _ (by omega))
end
end K22
set_option Elab.async false
set_option linter.all false
set_option maxRecDepth 100000
set_option maxHeartbeats 4000000
namespace K22
open PySem PySem.Spec PyProof.Rows L2 ZL
/-! ### slices of lists of ints -/
theorem cut_lo {ns : List Int} {k : Int} (h0 : 0 ≤ k) : cutV (iv ns) none (some k) = iv (ns.take k.toNat) := by
  obtain ⟨n, rfl⟩ : ∃ n : Nat, k = (n : Int) := ⟨k.toNat, by omega⟩
  unfold cutV
  rw [HT.sIx_none, HT.sIx_nat, List.drop_zero, Nat.sub_zero, Int.toNat_natCast, show iv (ns.take n) = (iv ns).take n from List.map_take]
  by_cases h : n ≤ (iv ns).length
  · rw [Nat.min_eq_left h]
  · rw [Nat.min_eq_right (by omega), List.take_length, List.take_of_length_le (by omega)]
theorem cut_hi {ns : List Int} {k : Int} (h0 : 0 ≤ k) : cutV (iv ns) (some k) none = iv (ns.drop k.toNat) := by
  obtain ⟨n, rfl⟩ : ∃ n : Nat, k = (n : Int) := ⟨k.toNat, by omega⟩
  unfold cutV
  rw [HT.sIx_none, HT.sIx_nat, Int.toNat_natCast, show iv (ns.drop n) = (iv ns).drop n from List.map_drop]
  by_cases h : n ≤ (iv ns).length
  · rw [Nat.min_eq_left h, List.take_of_length_le (by rw [List.length_drop]; omega)]
  · rw [Nat.min_eq_right (by omega), List.drop_length, List.drop_of_length_le (by omega), List.take_nil]
/-- all of them are pits -/
def Pits (ns : List Int) : Prop := ∀ n ∈ ns, 0 ≤ n ∧ n ≤ 5
theorem Pits.take {ns : List Int} (h : Pits ns) (k : Nat) : Pits (ns.take k) := fun n hn => h n (List.mem_of_mem_take hn)
theorem Pits.drop {ns : List Int} (h : Pits ns) (k : Nat) : Pits (ns.drop k) := fun n hn => h n (List.mem_of_mem_drop hn)
theorem Pits.app {ns ms : List Int} (h : Pits ns) (h' : Pits ms) : Pits (ns ++ ms) := fun n hn => (List.mem_append.mp hn).elim (h n) (h' n)
theorem Pits.one {r : Int} (h0 : 0 ≤ r) (h1 : r < 6) : Pits [r] := fun n hn => by
  rw [List.mem_singleton.mp hn]
  omega
def spNear : Sp := fun vs H Q _ => ∃ p c cs a ns B, vs = [.ref p, .ref a] ∧ PenAt H p c cs B ∧ B ≤ 90000 ∧ H a = some (.lst (iv ns)) ∧ Good ns ∧
  ∀ H' r ms, But p H H' → PenAt H' p c cs (B + 20) → H' r = some (.lst (iv ms)) → Good ms → Q (.ref r) H'
section
variable {P : Program} {w : World} {K : PySem.W.Frag} {mg : Str → Option Value} {base : Heap}
theorem scNear : FnScope ["_law_pen_here", "_law_pits", "_law_way", "_law_at", "_law_k"] ["_law_pen_here", "_law_pits"] (defScope sNear) := ⟨rfl, rfl, rfl, by decide +kernel, rfl, by decide +kernel, by decide +kernel⟩
theorem r_near (T : TX K mg) : FnR P w K mg base CX0 2 (He.ga K "_law_near") spNear := by
  obtain ⟨fd, F⟩ := T.says.def_ 17
  obtain ⟨fd0, F0⟩ := T.says.def_ 16
  refine okR (st := sNear) F scNear (fun vs H Q E h => ?_) (fun _ _ _ _ _ _ us hl => match us, hl with | [_, _], _ => rfl) (fun cdv A outer s H vs Q E hr h => ?_)
  · obtain ⟨p, c, cs, a, ns, B, rfl, _⟩ := h
    rfl
  · obtain ⟨p, c, cs, a, ns, B, rfl, pn, hB, ha, hg, q⟩ := h
    refine' ⟨_, pss_cons ?s1 (C8.pss_cut ?s2 (pss_cons ?s3 (pss_cons ?s4 (pss_cons ?s5 (C8.pss_cut ?s6 (pss_one ?s7)))))), ?rd⟩
    case s1 => exact ps_par (i := 2) (j := 3) (by rfl) scNear.nd rfl rfl (by decide) rfl rfl (pa_cons (pe_callR (r_draw T) hr rfl (T.glo "_law_draw" (by decide +kernel)) F0.kp pass0 (pa_cons (pv 0) (pa_cons pe_int pa_nil))) (pa_cons (pe_callR (r_draw T) hr rfl (T.glo "_law_draw" (by decide +kernel)) F0.kp pass0 (pa_cons (pv 0) (pa_cons (pe_op op_add (pe_callB call_len_seq (by rfl) (T.free "len" (by decide +kernel)) PySem.boot_len (pa_cons (pv 1) pa_nil)) pe_int) pa_nil))) pa_nil)) (by rfl)
    case s2 => exact ps_if (PW.pt (pw_and (pt_cmpR op_eq (pv 2) pe_int (nomark _)) (pw_and1 (pt_cmpR op_lt (pe_callB call_len_seq (by rfl) (T.free "len" (by decide +kernel)) PySem.boot_len (pa_cons (pv 1) pa_nil)) pe_int (nomark _))))) (pss_one (ps_ret (pe_op op_cat (pe_op op_cat (pe_slice sl_list (pv 1) po_none (po_some (pv 3))) (pe_lst (pa_cons (pe_callR (r_draw T) hr rfl (T.glo "_law_draw" (by decide +kernel)) F0.kp pass0 (pa_cons (pv 0) (pa_cons pe_int pa_nil))) pa_nil))) (pe_slice sl_list (pv 1) (po_some (pv 3)) po_none)))) pss_nil
    case s3 => exact ps_if (pt_cmpR op_eq (pv 2) pe_int (nomark _)) (pss_one (ps_ret (pe_op op_cat (pe_slice sl_list (pv 1) po_none (po_some (pv 3))) (pe_slice sl_list (pv 1) (po_some (pe_op op_add (pv 3) pe_int)) po_none)))) pss_nil
    case s4 => exact ps_if (pt_cmpR op_eq (pv 2) pe_int (nomark _)) (pss_one (ps_ret (pe_revL (pv 1)))) pss_nil
    case s5 => exact ps_if (pt_cmpR op_eq (pv 2) pe_int (nomark _)) (pss_one (ps_ret (pe_lc (own := [("_law_k", 4)]) (g := gName 4) (tt := tYes) rfl scNear.nd (pi_range1 rfl (T.free "range" (by decide +kernel)) (pa_cons (pe_callR (r_draw T) hr rfl (T.glo "_law_draw" (by decide +kernel)) F0.kp pass0 (pa_cons (pv 0) (pa_cons pe_int pa_nil))) pa_nil)) (blkOk_by (N := ["_law_pen_here", "_law_pits", "_law_way", "_law_at", "_law_k"]) (sc := defScope sNear) (by decide +kernel)) (fun _ _ _ _ _ => pg_name (i := 4) scNear.nd rfl (Or.inl rfl)) (fun _ _ _ _ _ => pts_nil) (fun _ _ _ _ _ => pe_callR (r_draw T) hr rfl (T.glo "_law_draw" (by decide +kernel)) F0.kp pass0 (pa_cons (pv 0) (pa_cons pe_int pa_nil)))))) pss_nil
    case s6 => exact ps_if (PW.pt (pw_and (pt_cmpR op_eq (pv 2) pe_int (nomark _)) (pw_and1 (pt_cmpR op_lt (pv 3) (pe_callB call_len_seq (by rfl) (T.free "len" (by decide +kernel)) PySem.boot_len (pa_cons (pv 1) pa_nil)) (nomark _))))) (pss_one (ps_ret (pe_op op_cat (pe_op op_cat (pe_slice sl_list (pv 1) po_none (po_some (pv 3))) (pe_lst (pa_cons (pe_callR (r_draw T) hr rfl (T.glo "_law_draw" (by decide +kernel)) F0.kp pass0 (pa_cons (pv 0) (pa_cons pe_int pa_nil))) pa_nil))) (pe_slice sl_list (pv 1) (po_some (pe_op op_add (pv 3) pe_int)) po_none)))) pss_nil
    case s7 => exact ps_ret (pe_callTy call_list_of (by rfl) (T.free "list" (by decide +kernel)) PyProof.Rows.boot_list (pa_cons (pv 1) pa_nil))
    case rd =>
      have hap : ∀ {H'}, But p H H' → H' a = some (.lst (iv ns)) := fun b => b _ _ ha (by obtain ⟨_, _, hp, _⟩ := pn; exact pen_ne hp ha)
      refine ⟨_, rfl, p, c, cs, 6, B, rfl, pn, by omega, by decide, by decide, fun H1 way b1 pn1 w0 w6 => ?_⟩
      have ha1 := hap b1
      refine ⟨_, rfl, _, rfl, a, _, rfl, .inl (SqL.of ha1), _, _, rfl, rfl, p, c, cs, _, B + 1, rfl, pn1, by omega, ?_, ?_, fun H2 at_ b2 pn2 t0 t1 => ?_⟩
      · omega
      · have := hg.1
        rw [List.length_map]
        omega
      have b12 := b1.trans b2
      have ha2 := hap b12
      rw [List.length_map] at t1
      have hlen := hg.1
      refine ⟨_, _, rfl, ?_⟩
      have hpp : ∀ (H' : Hp) (B' : Int) (D : Addr), PenAt H' p c cs B' → H' D = none → p ≠ D ∧ c ≠ D := fun H' B' D z hD => by
        obtain ⟨_, _, h1, h2, _⟩ := z
        exact ⟨ne_of_none h1 hD, ne_of_none h2 hD⟩
      have hk : at_.toNat ≤ ns.length := by omega
      -- pits[:at] + [draw] + pits[k:]
      have len6 : ∀ (xs ys : List V), xs.length + ys.length ≤ 100 → xs.length + ys.length ≤ sizeLine := fun xs ys h => Nat.le_trans h (by decide)
      refine ⟨fun σ' H' => σ' = [some (.ref p), some (.ref a), some (.int way), some (.int at_), none] ∧ H2 = H', ?_, ?_⟩
      · refine ⟨_, rfl, rfl, _, rfl, ?_⟩
        refine ite2 (fun c0 => ?_) (fun c0 => ?_)
        · refine ⟨_, rfl, a, _, rfl, .inl (SqL.of ha2), _, _, rfl, rfl, _, rfl, ?_⟩
          refine ite2 (fun c1 => ?_) (fun c1 => ?_)
          · have c1' : ((iv ns).length : Int) < 6 := of_decide_eq_true c1
            rw [List.length_map] at c1'
            refine ⟨_, rfl, _, rfl, _, rfl, a, _, rfl, SqL.of ha2, fun l1 hl1 => ?_⟩
            rw [cut_lo t0]
            have e3 := Ext.upd (o := .lst (iv (ns.take at_.toNat))) hl1
            have n1 := hpp _ _ _ pn2 hl1
            refine ⟨_, rfl, p, c, cs, 6, _, rfl, pn2.ext e3, by omega, by decide, by decide, fun H4 r b4 pn4 r0 r6 => ?_⟩
            have b04 := (b12.ext e3).trans b4
            refine ⟨(by show 1 ≤ sizeLine; decide), fun l2 hl2 => ?_⟩
            have e5 := Ext.upd (o := .lst [.int r]) hl2
            refine ⟨l1, l2, _, _, rfl, rfl, e5 _ _ (b4 _ _ upd_same n1.1.symm), upd_same, len6 _ _ (by simp; omega), fun l3 hl3 => ?_⟩
            have e6 := Ext.upd (o := .lst (iv (ns.take at_.toNat) ++ [.int r])) hl3
            have ha6 := hap ((b04.ext e5).ext e6)
            refine ⟨_, rfl, _, rfl, _, rfl, a, _, rfl, SqL.of ha6, fun l4 hl4 => ?_⟩
            rw [cut_hi t0]
            have e7 := Ext.upd (o := .lst (iv (ns.drop at_.toNat))) hl4
            refine ⟨l3, l4, _, _, rfl, rfl, e7 _ _ upd_same, upd_same, len6 _ _ (by simp; omega), fun l5 hl5 => ?_⟩
            have e8 := Ext.upd (o := .lst ((iv (ns.take at_.toNat) ++ [.int r]) ++ iv (ns.drop at_.toNat))) hl5
            refine q _ l5 ((ns.take at_.toNat ++ [r]) ++ ns.drop at_.toNat) ((((b04.ext e5).ext e6).ext e7).ext e8) (((((pn4.ext e5).ext e6).ext e7).ext e8).mono (by omega)) ?_ ⟨by simp; omega, ((Pits.take hg.2 _).app (Pits.one r0 r6)).app (Pits.drop hg.2 _)⟩
            rw [upd_same, show iv ((ns.take at_.toNat ++ [r]) ++ ns.drop at_.toNat) = (iv (ns.take at_.toNat) ++ [.int r]) ++ iv (ns.drop at_.toNat) by simp]
          · exact ⟨rfl, rfl⟩
        · exact iteF ⟨rfl, rfl⟩

      rintro σ' H' ⟨rfl, rfl⟩
      refine ⟨_, rfl, rfl, _, rfl, ?_⟩
      refine ite2 (fun c0 => ?_) (fun c0 => ?_)
      · refine ⟨_, rfl, _, rfl, _, rfl, a, _, rfl, SqL.of ha2, fun l1 hl1 => ?_⟩
        rw [cut_lo t0]
        have e3 := Ext.upd (o := .lst (iv (ns.take at_.toNat))) hl1
        refine ⟨_, rfl, _, rfl, _, _, rfl, rfl, _, rfl, a, _, rfl, SqL.of (e3 _ _ ha2), fun l2 hl2 => ?_⟩
        have e : cutV (iv ns) (some (at_ + 1)) none = iv (ns.drop (at_+1).toNat) := cut_hi (by omega)
        rw [e]
        have e4 := Ext.upd (o := .lst (iv (ns.drop (at_+1).toNat))) hl2
        refine ⟨l1, l2, _, _, rfl, rfl, e4 _ _ upd_same, upd_same, len6 _ _ (by simp; omega), fun l3 hl3 => ?_⟩
        have e5 := Ext.upd (o := .lst (iv (ns.take at_.toNat) ++ iv (ns.drop (at_+1).toNat))) hl3
        refine q _ l3 (ns.take at_.toNat ++ ns.drop (at_+1).toNat) (((b12.ext e3).ext e4).ext e5) ((((pn2.ext e3).ext e4).ext e5).mono (by omega)) ?_ ⟨by simp; omega, (Pits.take hg.2 _).app (Pits.drop hg.2 _)⟩
        rw [upd_same, show iv (ns.take at_.toNat ++ ns.drop (at_+1).toNat) = iv (ns.take at_.toNat) ++ iv (ns.drop (at_+1).toNat) by simp]
      refine ⟨_, rfl, rfl, _, rfl, ?_⟩
      refine ite2 (fun c0 => ?_) (fun c0 => ?_)
      · refine ⟨_, rfl, a, _, rfl, SqL.of ha2, fun l hl => ?_⟩
        have e3 := Ext.upd (o := .lst (iv ns).reverse) hl
        exact q _ l ns.reverse (b12.ext e3) ((pn2.ext e3).mono (by omega)) (by rw [upd_same, iv_rev]) hg.rev
      refine ⟨_, rfl, rfl, _, rfl, ?_⟩
      refine ite2 (fun c0 => ?_) (fun c0 => ?_)
      · refine ⟨_, rfl, p, c, cs, 7, _, rfl, pn2, by omega, by decide, by decide, fun H3 n b3 pn3 n0 n7 => ?_⟩
        refine ⟨n, rfl, by omega, by omega, fun D hD => ?_⟩
        have nD := hpp _ _ _ pn3 hD
        refine lc_acc (walk_range (lo := 0) (n := n.toNat)) (fun i ys H' => But p H3 H' ∧ PenAt H' p c cs (B + 1 + 1 + 1 + (i : Int)) ∧ ∃ zs, ys = iv zs ∧ Pits zs) ⟨But.updD But.refl But.refl hD, (pn3.updD nD.1 nD.2).mono (by omega), [], rfl, fun _ z => by cases z⟩ (fun _ _ _ _ _ _ => trivial) ?_ ?_
        · rintro i ys x H' H'' hi hl ⟨b, pn', zs, rfl, hz⟩ hd ⟨rfl, rfl⟩
          refine ⟨rfl, _, rfl, p, c, cs, 6, _, rfl, pn', by omega, by decide, by decide, fun H4 r b4 pn4 r0 r6 => LcN.mk hl (by omega) (b4 _ _ hd nD.1.symm) ⟨But.updD But.refl (b.trans b4) hD, (pn4.updD nD.1 nD.2).mono (by omega), zs ++ [r], by simp, hz.app (Pits.one r0 r6)⟩⟩
        · rintro ys H' hl ⟨b, pn', zs, rfl, hz⟩ hd
          rw [List.length_map] at hl
          exact q H' D zs (b12.trans (b3.trans b)) (pn'.mono (by omega)) hd ⟨by omega, hz⟩
      refine ⟨fun σ' H' => σ' = [some (.ref p), some (.ref a), some (.int way), some (.int at_), none] ∧ H2 = H', ?_, ?_⟩
      · refine ⟨_, rfl, rfl, _, rfl, ?_⟩
        refine ite2 (fun c0 => ?_) (fun c0 => ?_)
        · refine ⟨_, rfl, _, rfl, a, _, rfl, .inl (SqL.of ha2), _, _, rfl, rfl, _, rfl, ?_⟩
          refine ite2 (fun c1 => ?_) (fun c1 => ?_)
          · have c1' : at_ < ((iv ns).length : Int) := of_decide_eq_true c1
            rw [List.length_map] at c1'
            refine ⟨_, rfl, _, rfl, _, rfl, a, _, rfl, SqL.of ha2, fun l1 hl1 => ?_⟩
            rw [cut_lo t0]
            have e3 := Ext.upd (o := .lst (iv (ns.take at_.toNat))) hl1
            have n1 := hpp _ _ _ pn2 hl1
            refine ⟨_, rfl, p, c, cs, 6, _, rfl, pn2.ext e3, by omega, by decide, by decide, fun H4 r b4 pn4 r0 r6 => ?_⟩
            have b04 := (b12.ext e3).trans b4
            refine ⟨(by show 1 ≤ sizeLine; decide), fun l2 hl2 => ?_⟩
            have e5 := Ext.upd (o := .lst [.int r]) hl2
            refine ⟨l1, l2, _, _, rfl, rfl, e5 _ _ (b4 _ _ upd_same n1.1.symm), upd_same, len6 _ _ (by simp; omega), fun l3 hl3 => ?_⟩
            have e6 := Ext.upd (o := .lst (iv (ns.take at_.toNat) ++ [.int r])) hl3
            have ha6 := hap ((b04.ext e5).ext e6)
            refine ⟨_, rfl, _, rfl, _, _, rfl, rfl, _, rfl, a, _, rfl, SqL.of ha6, fun l4 hl4 => ?_⟩
            have e : cutV (iv ns) (some (at_ + 1)) none = iv (ns.drop (at_+1).toNat) := cut_hi (by omega)
            rw [e]
            have e7 := Ext.upd (o := .lst (iv (ns.drop (at_+1).toNat))) hl4
            refine ⟨l3, l4, _, _, rfl, rfl, e7 _ _ upd_same, upd_same, len6 _ _ (by simp; omega), fun l5 hl5 => ?_⟩
            have e8 := Ext.upd (o := .lst ((iv (ns.take at_.toNat) ++ [.int r]) ++ iv (ns.drop (at_+1).toNat))) hl5
            refine q _ l5 ((ns.take at_.toNat ++ [r]) ++ ns.drop (at_+1).toNat) ((((b04.ext e5).ext e6).ext e7).ext e8) (((((pn4.ext e5).ext e6).ext e7).ext e8).mono (by omega)) ?_ ⟨by simp; omega, ((Pits.take hg.2 _).app (Pits.one r0 r6)).app (Pits.drop hg.2 _)⟩
            rw [upd_same, show iv ((ns.take at_.toNat ++ [r]) ++ ns.drop (at_+1).toNat) = (iv (ns.take at_.toNat) ++ [.int r]) ++ iv (ns.drop (at_+1).toNat) by simp]
          · exact ⟨rfl, rfl⟩
        · exact iteF ⟨rfl, rfl⟩
      rintro σ' H' ⟨rfl, rfl⟩
      refine ⟨_, rfl, a, _, rfl, .inl (SqL.of ha2), fun l hl => ?_⟩
      have e3 := Ext.upd (o := .lst (iv ns)) hl
      exact q _ l ns (b12.ext e3) ((pn2.ext e3).mono (by omega)) upd_same hg
end
end K22
set_option Elab.async false
set_option linter.all false
set_option maxRecDepth 100000
set_option maxHeartbeats 4000000
namespace K22
open PySem PySem.Spec PyProof.Rows L2 ZL
/-! ### the sign of a row -/
abbrev ts (n : Int) : Str := Str.ofString (toString n)
def sgn (ns : List Int) : Str := ts (ns.length : Int) ++ Txt.join (Str.ofString "") (ns.map ts)
theorem ts_tl {n : Int} (h0 : 0 ≤ n) (h1 : n ≤ 6) : TL.tl (ts n) = [48 + n.toNat] := by
  have : n = 0 ∨ n = 1 ∨ n = 2 ∨ n = 3 ∨ n = 4 ∨ n = 5 ∨ n = 6 := by omega
  rcases this with rfl | rfl | rfl | rfl | rfl | rfl | rfl <;> decide +kernel
theorem joinL_nil : ∀ l : List (List Nat), TL.joinL [] l = l.flatten
  | [] => rfl
  | [p] => by simp [TL.joinL]
  | p :: q :: r => by
    rw [TL.joinL, joinL_nil (q :: r)]
    simp
theorem join_tl : ∀ {ns : List Int}, (∀ n ∈ ns, 0 ≤ n ∧ n ≤ 5) → TL.tl (Txt.join (Str.ofString "") (ns.map ts)) = ns.map fun n => 48 + n.toNat := by
  intro ns h
  rw [TL.join_eq, TL.tl_join, show TL.tl (Str.ofString "") = [] from by decide +kernel, joinL_nil, List.map_map]
  induction ns with
  | nil => rfl
  | cons n ns ih =>
    have hn := h n (List.mem_cons_self ..)
    rw [List.map_cons, List.map_cons, List.flatten_cons, ih (fun m hm => h m (List.mem_cons_of_mem _ hm)), Function.comp, ts_tl hn.1 (by omega)]
    rfl
theorem sgn_tl {ns : List Int} (h : Good ns) : TL.tl (sgn ns) = (48 + ns.length) :: ns.map fun n => 48 + n.toNat := by
  have := h.1
  unfold sgn
  rw [TL.tl_append, ts_tl (by omega) (by omega), join_tl h.2]
  simp
theorem lt_map : ∀ {ns ms : List Int}, (∀ n ∈ ns, 0 ≤ n ∧ n ≤ 5) → (∀ n ∈ ms, 0 ≤ n ∧ n ≤ 5) → ((ns.map fun n => 48 + n.toNat) < (ms.map fun n => 48 + n.toNat) ↔ ns < ms)
  | [], [], _, _ => by simp
  | [], _ :: _, _, _ => by simp
  | _ :: _, [], _, _ => by simp
  | n :: ns, m :: ms, h, h' => by
    have hn := h n (List.mem_cons_self ..)
    have hm := h' m (List.mem_cons_self ..)
    have ih := lt_map (fun x hx => h x (List.mem_cons_of_mem _ hx)) (fun x hx => h' x (List.mem_cons_of_mem _ hx))
    rw [List.map_cons, List.map_cons, List.cons_lt_cons_iff, List.cons_lt_cons_iff, ih]
    have e1 : 48 + n.toNat < 48 + m.toNat ↔ n < m := by omega
    have e2 : 48 + n.toNat = 48 + m.toNat ↔ n = m := by omega
    rw [e1, e2]
theorem eqv_iv : ∀ ns ms : List Int, PyData.eqvAll (ns.map PyData.int) (ms.map PyData.int) = decide (ns = ms)
  | [], [] => by simp [PyData.eqvAll]
  | [], _ :: _ => by simp [PyData.eqvAll]
  | _ :: _, [] => by simp [PyData.eqvAll]
  | n :: ns, m :: ms => by
    rw [List.map_cons, List.map_cons, PyData.eqvAll, eqv_iv ns ms, PyData.eqv]
    by_cases h1 : n = m <;> by_cases h2 : ns = ms <;> simp [h1, h2]
theorem eqR_eq (ns ms : List Int) : eqR ns ms = decide (ns = ms) := by
  unfold eqR
  rw [PyData.eqv, eqv_iv]
theorem sgn_inj {ns ms : List Int} (h : Good ns) (h' : Good ms) : sgn ns = sgn ms ↔ ns = ms := by
  constructor
  · intro e
    have z := congrArg TL.tl e
    rw [sgn_tl h, sgn_tl h'] at z
    have z2 := (List.cons.inj z).2
    have : ∀ {as bs : List Int}, (∀ n ∈ as, 0 ≤ n ∧ n ≤ 5) → (∀ n ∈ bs, 0 ≤ n ∧ n ≤ 5) → (as.map fun n => 48 + n.toNat) = (bs.map fun n => 48 + n.toNat) → as = bs := by
      intro as
      induction as with
      | nil => intro bs _ _ e; cases bs with
        | nil => rfl
        | cons _ _ => simp at e
      | cons a as ih => intro bs ha hb e; cases bs with
        | nil => simp at e
        | cons b bs =>
          have z1 := ha a (List.mem_cons_self ..)
          have z2 := hb b (List.mem_cons_self ..)
          rw [List.map_cons, List.map_cons] at e
          have e1 := (List.cons.inj e).1
          have e2 := (List.cons.inj e).2
          have : a = b := by omega
          rw [this, ih (fun x hx => ha x (List.mem_cons_of_mem _ hx)) (fun x hx => hb x (List.mem_cons_of_mem _ hx)) e2]
    exact this h.2 h'.2 z2
  · rintro rfl
    rfl
theorem eq_sgn {ns ms : List Int} (h : Good ns) (h' : Good ms) : eqR ns ms = decide (sgn ns = sgn ms) := by
  rw [eqR_eq, decide_eq_decide, sgn_inj h h']
theorem ltR_eq (ns ms : List Int) : ltR ns ms = decide (ns.length < ms.length ∨ ns.length = ms.length ∧ ns < ms) := by
  unfold ltR datR
  rw [PySem.W.dataLt_pair (by rw [PySem.W.alike]) (by rw [PySem.W.alike]; exact alike_iv ns ms), PySem.W.dataLt_int, PyData.eqv, PyData.eqv, eqv_iv, PySem.W.dataLt_tuple]
  have e := PySem.W.dataLt_ints ns ms
  unfold PySem.W.rowLt at e
  rw [e]
  by_cases h1 : ns.length = ms.length
  · by_cases h2 : ns = ms
    · subst h2
      simp [List.lt_irrefl]
    · simp [h1, h2]
  · have : ¬ ((ns.length : Int) = (ms.length : Int)) := by omega
    simp [h1, this]
theorem lt_sgn {ns ms : List Int} (h : Good ns) (h' : Good ms) : ltR ns ms = decide ((sgn ns).cps.toList < (sgn ms).cps.toList) := by
  have e1 : (sgn ns).cps.toList = _ := sgn_tl h
  have e2 : (sgn ms).cps.toList = _ := sgn_tl h'
  rw [ltR_eq, e1, e2, decide_eq_decide, List.cons_lt_cons_iff, lt_map h.2 h'.2]
  have a1 : 48 + ns.length < 48 + ms.length ↔ ns.length < ms.length := by omega
  have a2 : 48 + ns.length = 48 + ms.length ↔ ns.length = ms.length := by omega
  rw [a1, a2]
end K22
set_option Elab.async false
set_option linter.all false
set_option maxRecDepth 100000
set_option maxHeartbeats 4000000
namespace K22
open PySem PySem.Spec PyProof.Rows L2 ZL
def spSign : Sp := fun vs H Q _ => ∃ a ns, vs = [.ref a] ∧ H a = some (.lst (iv ns)) ∧ Good ns ∧ ∀ H', Ext H H' → Q (.str (sgn ns)) H'
theorem log6 {n : Int} (h0 : 0 ≤ n) (h1 : n ≤ 6) : n.natAbs.log2 < 1920 := by
  have : n = 0 ∨ n = 1 ∨ n = 2 ∨ n = 3 ∨ n = 4 ∨ n = 5 ∨ n = 6 := by omega
  rcases this with rfl | rfl | rfl | rfl | rfl | rfl | rfl <;> decide +kernel
theorem ts_len {n : Int} (h0 : 0 ≤ n) (h1 : n ≤ 6) : (ts n).length = 1 := by
  have : n = 0 ∨ n = 1 ∨ n = 2 ∨ n = 3 ∨ n = 4 ∨ n = 5 ∨ n = 6 := by omega
  rcases this with rfl | rfl | rfl | rfl | rfl | rfl | rfl <;> decide +kernel
theorem ts_sum : ∀ {ns : List Int}, (∀ n ∈ ns, 0 ≤ n ∧ n ≤ 5) → ((ns.map ts).map (·.length)).sum = ns.length
  | [], _ => rfl
  | n :: ns, h => by
    have hn := h n (List.mem_cons_self ..)
    have ih := ts_sum (ns := ns) fun m hm => h m (List.mem_cons_of_mem _ hm)
    rw [List.map_cons, List.map_cons, List.sum_cons, ih, ts_len hn.1 (by omega), List.length_cons]
    omega
theorem join_len {ns : List Int} (h : Good ns) : (Txt.join (Str.ofString "") (ns.map ts)).length ≤ 6 := by
  have e := congrArg List.length (join_tl h.2)
  have := h.1
  rw [List.length_map] at e
  have z : (TL.tl (Txt.join (Str.ofString "") (ns.map ts))).length = (Txt.join (Str.ofString "") (ns.map ts)).length := by
    show (Txt.join (Str.ofString "") (ns.map ts)).cps.toList.length = (Txt.join (Str.ofString "") (ns.map ts)).cps.size
    simp
  omega
section
variable {P : Program} {w : World} {K : PySem.W.Frag} {mg : Str → Option Value} {base : Heap}
theorem scSign : FnScope ["_law_pits", "_law_pit"] ["_law_pits"] (defScope sSign) := ⟨rfl, rfl, rfl, by decide +kernel, rfl, by decide +kernel, by decide +kernel⟩
theorem r_sign (T : TX K mg) : FnR P w K mg base CX0 1 (He.ga K "_law_sign") spSign := by
  obtain ⟨fd, F⟩ := T.says.def_ 18
  refine okR (st := sSign) F scSign (fun vs H Q E h => ?_) (fun _ _ _ _ _ _ us hl => match us, hl with | [_], _ => rfl) (fun cdv A outer s H vs Q E hr h => ?_)
  · obtain ⟨a, ns, rfl, _⟩ := h
    rfl
  · obtain ⟨a, ns, rfl, ha, hg, q⟩ := h
    refine' ⟨_, pss_one (ps_ret ?s1), ?rd⟩
    case s1 => exact pe_op op_add_str (pe_callTy call_str_int (by rfl) (T.free "str" (by decide +kernel)) PyProof.Rows.boot_str (pa_cons (pe_callB call_len_seq (by rfl) (T.free "len" (by decide +kernel)) PySem.boot_len (pa_cons (pv 0) pa_nil)) pa_nil)) (pe_join pe_str (pe_lc (own := [("_law_pit", 1)]) (g := gName 1) (tt := tYes) rfl scSign.nd (pi_list (pv 0)) (blkOk_by (N := ["_law_pits", "_law_pit"]) (sc := defScope sSign) (by decide +kernel)) (fun _ _ _ _ _ => pg_name (i := 1) scSign.nd rfl (Or.inl rfl)) (fun _ _ _ _ _ => pts_nil) (fun _ _ _ _ _ => pe_callTy call_str_int (by rfl) (T.free "str" (by decide +kernel)) PyProof.Rows.boot_str (pa_cons (pv 1) pa_nil))))
    case rd =>
      have hl := hg.1
      refine ⟨_, rfl, a, _, rfl, .inl (SqL.of ha), _, rfl, ?_, ?_⟩
      · rw [List.length_map]
        exact log6 (by omega) (by omega)
      refine ⟨⟨_, rfl⟩, _, rfl, a, rfl, ⟨_, SqL.of ha⟩, fun D hD => ?_⟩
      refine lc_acc (walk_list (K := K) (a := a) (xs := iv ns)) (fun i ys H' => Ext H H' ∧ ys = (ns.take i).map (fun n => V.str (ts n))) ⟨Ext.upd hD, rfl⟩ (fun _ _ H' _ p _ => SqL.of (p.1 _ _ ha)) ?_ ?_
      · rintro i ys x H' H'' hi hl' ⟨b, rfl⟩ hd ⟨rfl, hx⟩
        obtain ⟨n, hn, rfl⟩ := iv_get hx
        have hm := hg.2 n (List.mem_of_getElem? hn)
        refine ⟨rfl, _, rfl, _, rfl, log6 hm.1 (by omega), LcN.mk hl' (by rw [List.length_map] at hi; omega) hd ⟨Ext.updD b hD, ?_⟩⟩
        rw [List.take_add_one, hn, List.map_append]
        rfl
      · rintro ys H' hl' ⟨b, rfl⟩ hd
        rw [List.length_map, List.take_length] at hd
        have e : (ns.map fun n => V.str (ts n)) = (ns.map ts).map V.str := by rw [List.map_map]; rfl
        rw [e] at hd
        refine ⟨_, D, ns.map ts, rfl, rfl, .inl (SqL.of hd), ?_, _, _, rfl, rfl, ?_, ?_⟩
        · rw [ts_sum hg.2, show (Str.ofString "").length = 0 from by decide +kernel]
          omega
        · have z1 := join_len hg
          have z2 : (ts (ns.length : Int)).length = 1 := ts_len (by omega) (by omega)
          rw [List.length_map]
          have z3 : (Str.ofString (toString ((ns.length : Nat) : Int))).length = 1 := z2
          rw [z3]
          exact Nat.le_trans (Nat.add_le_add_left z1 1) (by decide)
        · have z := q H' b
          unfold sgn at z
          rw [List.length_map]
          exact z
end
end K22
set_option Elab.async false
set_option linter.all false
set_option maxRecDepth 100000
set_option maxHeartbeats 4000000
namespace K22
open PySem PySem.Spec PyProof.Rows L2 ZL
/-! ### lists of rows -/
abbrev rl (rs : List Addr) : List V := rs.map V.ref
theorem iv_rl {ns : List Int} {rs : List Addr} (h : 0 < rs.length) : (HO.lst (iv ns)) ≠ .lst (rl rs) := fun z => by
  injection z with z
  cases rs with
  | nil => cases h
  | cons r rs =>
    cases ns with
    | nil => cases z
    | cons n ns => cases z
theorem rl_pen {rs : List Addr} {c : Addr} {a b : Int} : (HO.lst (rl rs)) ≠ .lst [.ref c, .int a, .int b] := fun z => by
  injection z with z
  match rs, z with
  | [], z => cases z
  | [_], z => cases z
  | _ :: _ :: _, z => cases z
theorem rl_get {rs : List Addr} {i : Nat} {r : Addr} (h : rs[i]? = some r) : (rl rs)[i]? = some (.ref r) := by
  rw [List.getElem?_map, h]
  rfl
def LsAt (H : Hp) (R : Addr) (rs : List Addr) (nss : List (List Int)) : Prop := H R = some (.lst (rl rs)) ∧ rs.length = nss.length ∧ 0 < rs.length ∧ ∀ (i : Nat) (r : Addr) (ns : List Int), rs[i]? = some r → nss[i]? = some ns → H r = some (.lst (iv ns)) ∧ Good ns
def MsAt (K : PySem.W.Frag) (H : Hp) (M : Addr) (ms : List Addr) (nss : List (List Int)) : Prop := H M = some (.lst (rl ms)) ∧ ms.length = nss.length ∧ 0 < ms.length ∧ ∀ (i : Nat) (m : Addr) (ns : List Int), ms[i]? = some m → nss[i]? = some ns → RowAt K H m ns
theorem LsAt.ext {H H' : Hp} {R : Addr} {rs : List Addr} {nss : List (List Int)} (h : LsAt H R rs nss) (e : Ext H H') : LsAt H' R rs nss := by
  obtain ⟨h1, h2, h3, h4⟩ := h
  exact ⟨e _ _ h1, h2, h3, fun i r ns a b => ⟨e _ _ (h4 i r ns a b).1, (h4 i r ns a b).2⟩⟩
theorem MsAt.ext {K : PySem.W.Frag} {H H' : Hp} {R : Addr} {rs : List Addr} {nss : List (List Int)} (h : MsAt K H R rs nss) (e : Ext H H') : MsAt K H' R rs nss := by
  obtain ⟨h1, h2, h3, h4⟩ := h
  exact ⟨e _ _ h1, h2, h3, fun i r ns a b => (h4 i r ns a b).ext e⟩
theorem LsAt.but {H H' : Hp} {p c R : Addr} {cs : List Int} {B : Int} {rs : List Addr} {nss : List (List Int)} (h : LsAt H R rs nss) (pn : PenAt H p c cs B) (e : But p H H') : LsAt H' R rs nss := by
  obtain ⟨h1, h2, h3, h4⟩ := h
  obtain ⟨a, r, hp, hc, _⟩ := pn
  exact ⟨e _ _ h1 (ne_of h1 hp rl_pen), h2, h3, fun i r ns a b => ⟨e _ _ (h4 i r ns a b).1 (pen_ne hp (h4 i r ns a b).1), (h4 i r ns a b).2⟩⟩
theorem PenAt.updR {H : Hp} {p c R : Addr} {cs : List Int} {B : Int} {rs : List Addr} {o : HO} (pn : PenAt H p c cs B) (h : H R = some (.lst (rl rs))) (h0 : 0 < rs.length) : PenAt (upd H R o) p c cs B := by
  have pn' := pn
  obtain ⟨a, r, hp, hc, _⟩ := pn'
  exact pn.updD (Ne.symm (ne_of h hp rl_pen)) (ne_of hc h (iv_rl h0))
theorem get_snoc {α : Type} {xs : List α} {x y : α} {i : Nat} (h : (xs ++ [x])[i]? = some y) : (i < xs.length ∧ xs[i]? = some y) ∨ (i = xs.length ∧ x = y) := by
  by_cases hi : i < xs.length
  · rw [List.getElem?_append_left hi] at h
    exact .inl ⟨hi, h⟩
  · rw [List.getElem?_append_right (by omega)] at h
    have hl : i - xs.length < 1 := by
      have := (List.getElem?_eq_some_iff.mp h).1
      simpa using this
    have e : i - xs.length = 0 := by omega
    rw [e] at h
    exact .inr ⟨by omega, Option.some.inj h⟩
theorem LsAt.snoc {H : Hp} {R x : Addr} {rs : List Addr} {nss : List (List Int)} {ns : List Int} (h : LsAt H R rs nss) (hx : H x = some (.lst (iv ns))) (g : Good ns) : LsAt (upd H R (.lst (rl rs ++ [.ref x]))) R (rs ++ [x]) (nss ++ [ns]) := by
  obtain ⟨h1, h2, h3, h4⟩ := h
  refine ⟨?_, by rw [List.length_append, List.length_append, h2]; rfl, by rw [List.length_append]; omega, fun i r ms a b => ?_⟩
  · rw [upd_same, show rl (rs ++ [x]) = rl rs ++ [.ref x] by simp]
  · rcases get_snoc a with ⟨a1, a2⟩ | ⟨a1, a2⟩
    · rcases get_snoc b with ⟨b1, b2⟩ | ⟨b1, b2⟩
      · have z := h4 i r ms a2 b2
        exact ⟨by rw [upd_ne (ne_of z.1 h1 (iv_rl h3))]; exact z.1, z.2⟩
      · omega
    · rcases get_snoc b with ⟨b1, b2⟩ | ⟨b1, b2⟩
      · omega
      · subst a2
        subst b2
        exact ⟨by rw [upd_ne (ne_of hx h1 (iv_rl h3))]; exact hx, g⟩
theorem RowAt.updL {K : PySem.W.Frag} {H : Hp} {m M : Addr} {ns : List Int} {xs : List V} {o : HO} (h : RowAt K H m ns) (hM : H M = some (.lst xs)) : RowAt K (upd H M o) m ns := by
  obtain ⟨dx, t, h1, h2⟩ := h
  exact ⟨dx, t, by rw [upd_ne (ne_of h1 hM (fun z => nomatch z))]; exact h1, by rw [upd_ne (ne_of h2 hM (fun z => nomatch z))]; exact h2⟩
theorem MsAt.put {K : PySem.W.Frag} {H : Hp} {M x : Addr} {ms : List Addr} {nss : List (List Int)} {ns : List Int} {j : Nat} (h : MsAt K H M ms nss) (hx : RowAt K H x ns) (hj : nss[j]? = some ns) : MsAt K (upd H M (.lst ((rl ms).set j (.ref x)))) M (ms.set j x) nss := by
  obtain ⟨h1, h2, h3, h4⟩ := h
  refine ⟨?_, by rw [List.length_set]; exact h2, by rw [List.length_set]; exact h3, fun i m ms' a b => ?_⟩
  · rw [upd_same]
    show _ = some (HO.lst ((ms.set j x).map V.ref))
    rw [List.map_set]
  · by_cases e : j = i
    · subst e
      rw [hj] at b
      have b' := Option.some.inj b
      subst b'
      have hl : j < ms.length := by
        have := (List.getElem?_eq_some_iff.mp a).1
        rwa [List.length_set] at this
      rw [List.getElem?_set_self hl] at a
      have a' := Option.some.inj a
      subst a'
      exact hx.updL h1
    · rw [List.getElem?_set_ne e] at a
      exact (h4 i m ms' a b).updL h1
theorem LsAt.updM {H : Hp} {R M : Addr} {rs ms : List Addr} {nss : List (List Int)} {o : HO} (h : LsAt H R rs nss) (hM : H M = some (.lst (rl ms))) (h0 : 0 < ms.length) (hne : R ≠ M) : LsAt (upd H M o) R rs nss := by
  obtain ⟨h1, h2, h3, h4⟩ := h
  exact ⟨by rw [upd_ne hne]; exact h1, h2, h3, fun i r ns a b => ⟨by rw [upd_ne (ne_of (h4 i r ns a b).1 hM (iv_rl h0))]; exact (h4 i r ns a b).1, (h4 i r ns a b).2⟩⟩
theorem made_ext {H H' : Hp} {x dx : Addr} {o u : HO} (hx : H x = none) (hd : H dx = none) (k : ∀ b v, upd (upd H dx o) x u b = some v → b ≠ x → H' b = some v) : Ext H H' := fun b v z => by
  refine k b v ?_ (ne_of_none z hx)
  rw [upd_ne (ne_of_none z hx), upd_ne (ne_of_none z hd)]
  exact z
theorem ix_of {n : Nat} {k : Int} {j : Nat} (e : k = (j : Int)) (h : j < n) : ixN n k = some j := by
  subst e
  unfold ixN
  rw [if_pos (Int.natCast_nonneg j), if_pos (by omega), Int.toNat_natCast]
/-! ### six answers -/
def ans (l g e : Bool) : List Bool := [l, !g, g, !l, e, !e]
theorem dp_bools {K : PySem.W.Frag} {H : Hp} : ∀ bs : List Bool, DpAll K H (bs.map V.bl) (bs.map PyData.bool)
  | [] => .nil
  | b :: bs => .cons (.bl b) (dp_bools bs)
theorem ans_ok (l g e : Bool) : (PyData.list ((ans l g e).map PyData.bool)).showable = true ∧ (PyData.list ((ans l g e).map PyData.bool)).hasDict = false ∧ (PyData.list ((ans l g e).map PyData.bool)).depth ≤ 60 ∧ (PyData.list ((ans l g e).map PyData.bool)).shown.length ≤ sizeLine := by
  cases l <;> cases g <;> cases e <;> refine ⟨by decide +kernel, by decide +kernel, by decide +kernel, ?_⟩ <;> exact Nat.le_trans (show _ ≤ 200 by decide +kernel) (by decide)
theorem dec_strV {i j : Str} : decide (V.str i = V.str j) = decide (i = j) := by
  rw [decide_eq_decide]
  exact ⟨fun z => V.str.inj z, fun z => by rw [z]⟩
theorem lt1 : ltR [] [0] = true := by rw [ltR_eq]; decide
theorem lt2 : ltR [5] [0, 0] = true := by rw [ltR_eq]; decide
theorem lt3 : ltR [] [] = false := by rw [ltR_eq]; decide
theorem gd0 : Good [] := ⟨by decide, fun _ h => nomatch h⟩
theorem gd1 : Good [0] := ⟨by decide, by decide⟩
theorem gd2 : Good [5] := ⟨by decide, by decide⟩
theorem gd3 : Good [0, 0] := ⟨by decide, by decide⟩
end K22
set_option Elab.async false
set_option linter.all false
set_option maxRecDepth 100000
set_option maxHeartbeats 4000000
namespace K22
open PySem PySem.Spec PyProof.Rows L2 ZL
abbrev NL : List Str := ["_law_script", "_law_pen_here", "_law_turn", "_law_rows", "_law_k", "_law_made", "_law_i", "_law_j", "_law_one", "_law_other", "_law_mine", "_law_yours", "_law_shown", "_law_due", "_law_pits"]
def spLaw (K : PySem.W.Frag) : Sp := fun vs H Q _ => ∃ a ns, vs = [.ref a] ∧ SqL K H a (iv ns) ∧ ns.length ≤ 63 ∧ ∀ H', Q (.bl true) H'
section
variable {P : Program} {w : World} {K : PySem.W.Frag} {mg : Str → Option Value} {base : Heap}
theorem scLaw : FnScope NL ["_law_script"] (defScope sLaw) := ⟨rfl, rfl, rfl, by decide +kernel, rfl, by decide +kernel, by decide +kernel⟩
theorem r_law (T : TX K mg) : FnRG P w K mg base CX0 9 (He.ga K "law") (spLaw K) := by
  obtain ⟨fd, F⟩ := T.says.def_ 19
  obtain ⟨fdP, FP⟩ := T.says.def_ 15
  obtain ⟨fdD, FD⟩ := T.says.def_ 16
  obtain ⟨fdN, FN⟩ := T.says.def_ 17
  obtain ⟨fdS, FS⟩ := T.says.def_ 18
  refine okRG (st := sLaw) F scLaw (fun vs H Q E h => ?_) (fun _ _ _ _ _ _ us hl => match us, hl with | [_], _ => rfl) (fun cdv A outer s H vs Q E hgd hr h => ?_)
  · obtain ⟨a, ns, rfl, _⟩ := h
    rfl
  · have r1 := hr.mono (show 1 ≤ 8 by decide)
    have r2 := hr.mono (show 2 ≤ 8 by decide)
    have r4 := hr.mono (show 4 ≤ 8 by decide)
    have r5 := hr.mono (show 5 ≤ 8 by decide)
    have r6 := hr.mono (show 6 ≤ 8 by decide)
    have r7 := hr.mono (show 7 ≤ 8 by decide)
    have gG := fun x h => T.glo x h
    refine' ⟨_, pss_cons ?s1 (pss_cons (ps_for PassesOwn.never rfl ?it (pg_name (i := 2) scLaw.nd rfl (.inl rfl)) (pss_cons ?b1 (pss_cons ?b2 (pss_cons ?b3 (pss_cons ?b4 (pss_cons ?b5 (pss_one (ps_for PassesOwn.never rfl ?it5 (pg_name (i := 6) scLaw.nd rfl (.inl rfl)) (pss_one (ps_for PassesOwn.never rfl ?it6 (pg_name (i := 7) scLaw.nd rfl (.inl rfl)) (pss_cons ?c1 (pss_cons ?c2 (pss_cons ?c3 (pss_cons ?c4 (pss_one ?c5))))))))))))))) (pss_one ?s3)), ?rd⟩
    case s1 => exact ps_set (i := 1) scLaw.nd rfl (.inr rfl) (pe_callR (r_pen T) r1 rfl (T.glo "_law_pen" (by decide +kernel)) FP.kp pass0 (pa_cons (pv 0) pa_nil))
    case it => exact pi_range1 rfl (T.free "range" (by decide +kernel)) (pa_cons pe_int pa_nil)
    case it5 => exact pi_range1 rfl (T.free "range" (by decide +kernel)) (pa_cons pe_int pa_nil)
    case it6 => exact pi_range1 rfl (T.free "range" (by decide +kernel)) (pa_cons pe_int pa_nil)
    case b1 => exact ps_set (i := 3) scLaw.nd rfl (.inl rfl) (pe_lst (pa_cons (pe_lc (own := [("_law_k", 4)]) (g := gName 4) (tt := tYes) rfl scLaw.nd (pi_range1 rfl (T.free "range" (by decide +kernel)) (pa_cons (pe_callR (r_draw T) r1 rfl (T.glo "_law_draw" (by decide +kernel)) FD.kp pass0 (pa_cons (pv 1) (pa_cons pe_int pa_nil))) pa_nil)) (blkOk_by (N := NL) (sc := defScope sLaw) (by decide +kernel)) (fun _ _ _ _ _ => pg_name (i := 4) scLaw.nd rfl (Or.inl rfl)) (fun _ _ _ _ _ => pts_nil) (fun _ _ _ _ _ => pe_callR (r_draw T) r1 rfl (T.glo "_law_draw" (by decide +kernel)) FD.kp pass0 (pa_cons (pv 1) (pa_cons pe_int pa_nil)))) pa_nil))
    case b2 => exact ps_for PassesOwn.never rfl (pi_range1 rfl (T.free "range" (by decide +kernel)) (pa_cons pe_int pa_nil)) (pg_name (i := 4) scLaw.nd rfl (.inl rfl)) (pss_one (ps_expr (pe_bm PySem.F.plainAttrs_list PySem.F.slot_list_append PySem.F.type_list_append mt_append (pv 3) (pa_cons (pe_callR (r_near T) r2 rfl (T.glo "_law_near" (by decide +kernel)) FN.kp pass0 (pa_cons (pv 1) (pa_cons (pe_ix ix_list (pv 3) (pe_callR (r_draw T) r1 rfl (T.glo "_law_draw" (by decide +kernel)) FD.kp pass0 (pa_cons (pv 1) (pa_cons (pe_callB call_len_seq (by rfl) (T.free "len" (by decide +kernel)) PySem.boot_len (pa_cons (pv 3) pa_nil)) pa_nil))) (fun _ _ => rfl)) pa_nil))) pa_nil))))
    case b3 => exact ps_setLc (i := 5) (own := [("_law_pits", 14)]) (g := gName 14) (tt := tYes) rfl scLaw.nd rfl rfl (by rfl) (pi_list (pv 3)) (blkOk_by (N := NL) (sc := defScope sLaw) (by decide +kernel)) (fun _ _ _ _ _ => pg_name (i := 14) scLaw.nd rfl (Or.inl rfl)) (fun _ _ _ _ _ => pts_nil) (fun _ _ _ _ _ => ClX.pe_cmeth (pe_glob (v := .ref (cR K)) rfl (T.glo "Row" (by decide +kernel)) rfl) T.rd T.cm (r_of T) r5 pass0 (pa_cons (pv 14) pa_nil))
    case b4 => exact ps_asg (pe_un (un_negO (Own.of (T.meth "__neg__" (by decide +kernel))) (r_neg T) r6 pass0) (ClX.pe_cmeth (pe_glob (v := .ref (cR K)) rfl (T.glo "Row" (by decide +kernel)) rfl) T.rd T.cm (r_of T) r5 pass0 (pa_cons (pe_revL (pe_ix ix_list (pv 3) pe_int (fun _ _ => rfl))) pa_nil))) (pg_sub (pv 5) pe_int set_list)
    case b5 => exact ps_asg (pe_ixO (Own.of (T.meth "__getitem__" (by decide +kernel))) T.gi (r_item T) r7 pass0 (pe_ix ix_list (pv 5) pe_int (fun _ _ => rfl)) (pe_tup (pa_cons pe_int (pa_cons (pe_callB call_len_seq (by rfl) (T.free "len" (by decide +kernel)) PySem.boot_len (pa_cons (pe_ix ix_list (pv 3) pe_int (fun _ _ => rfl)) pa_nil)) pa_nil))) (fun _ _ => rfl)) (pg_sub (pv 5) pe_int set_list)
    case c1 => exact ps_par (i := 8) (j := 9) (by rfl) scLaw.nd rfl rfl (by decide) rfl rfl (pa_cons (pe_ix ix_list (pv 5) (pv 6) (fun _ _ => rfl)) (pa_cons (pe_ix ix_list (pv 5) (pv 7) (fun _ _ => rfl)) pa_nil)) (by rfl)
    case c2 => exact ps_par (i := 10) (j := 11) (by rfl) scLaw.nd rfl rfl (by decide) rfl rfl (pa_cons (pe_callR (r_sign T) r1 rfl (T.glo "_law_sign" (by decide +kernel)) FS.kp pass0 (pa_cons (pe_ix ix_list (pv 3) (pv 6) (fun _ _ => rfl)) pa_nil)) (pa_cons (pe_callR (r_sign T) r1 rfl (T.glo "_law_sign" (by decide +kernel)) FS.kp pass0 (pa_cons (pe_ix ix_list (pv 3) (pv 7) (fun _ _ => rfl)) pa_nil)) pa_nil)) (by rfl)
    case c3 => exact ps_set (i := 12) scLaw.nd rfl (.inl rfl) (pe_lst (pa_cons (pe_cmpR (op_ltO (Own.of (T.meth "__lt__" (by decide +kernel))) (r_lt T) r2 pass0) (pv 8) (pv 9) (nomark _)) (pa_cons (pe_cmpR (op_leO (Own.of (T.meth "__le__" (by decide +kernel))) (r_le T) r2 pass0) (pv 8) (pv 9) (nomark _)) (pa_cons (pe_cmpR (op_gtO (Own.of (T.meth "__gt__" (by decide +kernel))) (r_gt T) r2 pass0) (pv 8) (pv 9) (nomark _)) (pa_cons (pe_cmpR (op_geO (Own.of (T.meth "__ge__" (by decide +kernel))) (r_ge T) r2 pass0) (pv 8) (pv 9) (nomark _)) (pa_cons (pe_cmpR (op_eqO (Own.of (T.meth "__eq__" (by decide +kernel))) (r_eq T) r1 pass0) (pv 8) (pv 9) (nomark _)) (pa_cons (pe_cmpR (op_neO T.ne (Own.of (T.meth "__eq__" (by decide +kernel))) (r_eq T) r2 pass0) (pv 8) (pv 9) (nomark _)) pa_nil)))))))
    case c4 => exact ps_set (i := 13) scLaw.nd rfl (.inl rfl) (pe_lst (pa_cons (pe_cmpR op_lt_str (pv 10) (pv 11) (nomark _)) (pa_cons (pe_cmpR op_le_str (pv 10) (pv 11) (nomark _)) (pa_cons (pe_cmpR op_gt_str (pv 10) (pv 11) (nomark _)) (pa_cons (pe_cmpR op_ge_str (pv 10) (pv 11) (nomark _)) (pa_cons (pe_cmpR op_eq (pv 10) (pv 11) (nomark _)) (pa_cons (pe_cmpR op_ne (pv 10) (pv 11) (nomark _)) pa_nil)))))))
    case c5 => exact ps_if (pt_cmpR op_ne (pe_callB (call_reprD hgd r1.units) (by rfl) (T.free "repr" (by decide +kernel)) PyProof.Rows.boot_repr (pa_cons (pv 12) pa_nil)) (pe_callB (call_reprD hgd r1.units) (by rfl) (T.free "repr" (by decide +kernel)) PyProof.Rows.boot_repr (pa_cons (pv 13) pa_nil)) (nomark _)) (pss_one (ps_ret pe_bl)) pss_nil
    case s3 => exact ps_ret (pe_and (pe_cmpR (op_ltO (Own.of (T.meth "__lt__" (by decide +kernel))) (r_lt T) r2 pass0) (pe_makeR0 T.mkr (r_init T) r4 rfl (T.glo "Row" (by decide +kernel)) pass0) (StX.pe_makeR T.mkr (r_init T) r4 rfl (T.glo "Row" (by decide +kernel)) pass0 (pa_cons pe_int pa_nil)) (nomark _)) (pe_and (pe_cmpR (op_ltO (Own.of (T.meth "__lt__" (by decide +kernel))) (r_lt T) r2 pass0) (StX.pe_makeR T.mkr (r_init T) r4 rfl (T.glo "Row" (by decide +kernel)) pass0 (pa_cons pe_int pa_nil)) (StX.pe_makeR T.mkr (r_init T) r4 rfl (T.glo "Row" (by decide +kernel)) pass0 (pa_cons pe_int (pa_cons pe_int pa_nil))) (nomark _)) (pe_one (pe_not (pe_cmpR (op_ltO (Own.of (T.meth "__lt__" (by decide +kernel))) (r_lt T) r2 pass0) (pe_makeR0 T.mkr (r_init T) r4 rfl (T.glo "Row" (by decide +kernel)) pass0) (pe_makeR0 T.mkr (r_init T) r4 rfl (T.glo "Row" (by decide +kernel)) pass0) (nomark _))))))
    case rd =>
      obtain ⟨a, cells, rfl, ha, hcl, q⟩ := h
      refine ⟨_, rfl, a, cells, rfl, ha, hcl, fun H1 p c cs x1 pn => ?_⟩
      refine ⟨4, rfl, by decide, by decide, for_it (walk_range (lo := 0) (n := 4)) (fun i σ H' => (∃ x2 x3 x4 x5 x6 x7 x8 x9 x10 x11 x12 x13 x14, σ = [some (.ref a), some (.ref p), x2, x3, x4, x5, x6, x7, x8, x9, x10, x11, x12, x13, x14]) ∧ PenAt H' p c cs (1000 * (i : Int))) ⟨⟨_, _, _, _, _, _, _, _, _, _, _, _, _, rfl⟩, pn.mono (by omega)⟩ (fun _ _ _ _ _ => trivial) ?_ ?_⟩
      · rintro t _ _ H2 _ ht ⟨⟨x2, x3, x4, x5, x6, x7, x8, x9, x10, x11, x12, x13, x14, rfl⟩, pn2⟩ ⟨rfl, rfl⟩
        have hp2 : ∀ (H' : Hp) (B' : Int) (D : Addr), PenAt H' p c cs B' → H' D = none → p ≠ D ∧ c ≠ D := fun H' B' D z hD => by
          obtain ⟨_, _, h1, h2, _⟩ := z
          exact ⟨ne_of_none h1 hD, ne_of_none h2 hD⟩
        refine ⟨_, rfl, p, c, cs, 7, _, rfl, pn2, by omega, by decide, by decide, fun H3 n b3 pn3 n0 n7 => ?_⟩
        refine ⟨n, rfl, by omega, by omega, fun D hD => ?_⟩
        have nD := hp2 _ _ _ pn3 hD
        refine lc_acc (walk_range (lo := 0) (n := n.toNat)) (fun i ys H' => But p H3 H' ∧ PenAt H' p c cs (1000 * (t : Int) + 1 + (i : Int)) ∧ ∃ zs, ys = iv zs ∧ Pits zs) ⟨But.updD But.refl But.refl hD, (pn3.updD nD.1 nD.2).mono (by omega), [], rfl, fun _ z => by cases z⟩ (fun _ _ _ _ _ _ => trivial) ?_ ?_
        · rintro i ys x H' H'' hi hl ⟨b, pn', zs, rfl, hz⟩ hd ⟨rfl, rfl⟩
          exact ⟨rfl, _, rfl, p, c, cs, 6, _, rfl, pn', by omega, by decide, by decide, fun H4 r b4 pn4 r0 r6 => LcN.mk hl (by omega) (b4 _ _ hd nD.1.symm) ⟨But.updD But.refl (b.trans b4) hD, (pn4.updD nD.1 nD.2).mono (by omega), zs ++ [r], by simp, hz.app (Pits.one r0 r6)⟩⟩
        rintro ys H4 hl ⟨-, pn4, zs, rfl, hz⟩ hd
        rw [List.length_map] at hl
        have gz : Good zs := ⟨by omega, hz⟩
        refine ⟨(by show 1 ≤ sizeLine; decide), fun R hR => ?_⟩
        have e4 := Ext.upd (o := .lst [.ref D]) hR
        have L0 : LsAt (upd H4 R (.lst [.ref D])) R [D] [zs] := ⟨upd_same, rfl, Nat.zero_lt_one, fun i r ns a b => by
          match i, a, b with
          | 0, a, b =>
            have a' := Option.some.inj a
            have b' := Option.some.inj b
            subst a'
            subst b'
            exact ⟨e4 _ _ hd, gz⟩⟩
        refine ⟨4, rfl, by decide, by decide, for_it (walk_range (lo := 0) (n := 4)) (fun i σ H' => ∃ x4 rs nss, σ = [some (.ref a), some (.ref p), some (.int (0 + (t : Int))), some (.ref R), x4, x5, x6, x7, x8, x9, x10, x11, x12, x13, x14] ∧ LsAt H' R rs nss ∧ rs.length = i + 1 ∧ PenAt H' p c cs (1000 * (t : Int) + 20 + 30 * (i : Int))) ⟨_, _, _, rfl, L0, rfl, (pn4.ext e4).mono (by omega)⟩ (fun _ _ _ _ _ => trivial) ?_ ?_⟩
        · rintro k _ _ H5 _ hk ⟨y4, rs, nss, rfl, L, hrs, pn5⟩ ⟨rfl, rfl⟩
          refine ⟨_, rfl, .inl ⟨rfl, _, SqL.of L.1⟩, _, rfl, _, rfl, _, rfl, _, rfl, R, _, rfl, .inl (SqL.of L.1), p, c, cs, _, _, rfl, pn5, by omega, ?_, ?_, fun H6 r b6 pn6 q0 q1 => ?_⟩
          · rw [List.length_map]
            omega
          · rw [List.length_map]
            omega
          rw [List.length_map] at q1
          have L6 := L.but pn5 b6
          obtain ⟨x, hx⟩ : ∃ x, rs[r.toNat]? = some x := ⟨_, List.getElem?_eq_getElem (by omega)⟩
          obtain ⟨ns, hns⟩ : ∃ x, nss[r.toNat]? = some x := ⟨_, List.getElem?_eq_getElem (by have := L.2.1; omega)⟩
          have w := L6.2.2.2 _ _ _ hx hns
          refine ⟨R, _, _, .ref x, rfl, rfl, SqL.of L6.1, at_of (j := r.toNat) (by omega) (rl_get hx), p, c, cs, x, ns, _, rfl, pn6, by omega, w.1, w.2, fun H7 y ms b7 pn7 hy gy => ?_⟩
          have L7 := L6.but pn6 b7
          refine ⟨R, _, _, rfl, rfl, L7.1, small1000 (by rw [List.length_map]; omega), ?_⟩
          exact ⟨_, rs ++ [y], nss ++ [ms], rfl, L7.snoc hy gy, by rw [List.length_append, hrs]; rfl, (pn7.updR L7.1 L7.2.2.1).mono (by omega)⟩
        rintro _ H8 ⟨y4, rs, nss, rfl, L, hrs, pn8⟩
        have hns : nss.length = 5 := by have := L.2.1; omega
        refine ⟨_, rfl, R, rfl, ⟨_, SqL.of L.1⟩, fun M hM => ?_⟩
        have nR : R ≠ M := ne_of_none L.1 hM
        refine lc_acc (walk_list (K := K) (a := R) (xs := rl rs)) (fun i ys H' => Ext H8 H' ∧ ∃ ms : List Addr, ys = rl ms ∧ ∀ (j : Nat) (m : Addr) (ns : List Int), ms[j]? = some m → nss[j]? = some ns → RowAt K H' m ns) ⟨Ext.upd hM, [], rfl, fun j m ns z => by cases z⟩ (fun _ _ H' _ z _ => SqL.of (z.1 _ _ L.1)) ?_ ?_
        · rintro i ys x H' H'' hi hl ⟨b, ms, rfl, hz⟩ hd ⟨rfl, hx⟩
          rw [List.length_map] at hi hl
          obtain ⟨r, hr'⟩ : ∃ x, rs[i]? = some x := ⟨_, List.getElem?_eq_getElem hi⟩
          obtain ⟨ns, hn⟩ : ∃ x, nss[i]? = some x := ⟨_, List.getElem?_eq_getElem (by omega)⟩
          rw [rl_get hr'] at hx
          have hx' := (Option.some.inj hx).symm
          subst hx'
          have w := L.2.2.2 _ _ _ hr' hn
          refine ⟨rfl, rfl, _, rfl, _, r, ns, rfl, .inr (SqL.of (b _ _ w.1)), w.2, fun H9 y e9 w9 => LcN.mk (by rw [List.length_map]; exact hl) (by omega) (e9 _ _ hd) ⟨Ext.updD (b.trans e9) hM, ms ++ [y], by simp, fun j m ns' z1 z2 => ?_⟩⟩
          rcases get_snoc z1 with ⟨a1, a2⟩ | ⟨a1, a2⟩
          · exact ((hz j m ns' a2 z2).ext e9).updL (e9 _ _ hd)
          · subst a2
            rw [a1, hl, hn] at z2
            have z3 := Option.some.inj z2
            subst z3
            exact w9.updL (e9 _ _ hd)
        rintro ys H9 hl ⟨e9, ms, rfl, hms⟩ hd
        rw [List.length_map, List.length_map] at hl
        have M0 : MsAt K H9 M ms nss := ⟨hd, by omega, by omega, hms⟩
        have L9 := L.ext e9
        have pn9 := pn8.ext e9
        -- made[4] = -Row.of(rows[4][::-1])
        obtain ⟨r4, hr4⟩ : ∃ x, rs[4]? = some x := ⟨_, List.getElem?_eq_getElem (by omega)⟩
        obtain ⟨n4, hn4⟩ : ∃ x, nss[4]? = some x := ⟨_, List.getElem?_eq_getElem (by omega)⟩
        have w4 := L9.2.2.2 _ _ _ hr4 hn4
        refine ⟨rfl, _, rfl, R, _, _, .ref r4, rfl, rfl, SqL.of L9.1, at_of (j := 4) rfl (rl_get hr4), r4, _, rfl, SqL.of w4.1, fun l hl' => ?_⟩
        have e10 := Ext.upd (o := .lst (iv n4).reverse) hl'
        refine ⟨_, l, n4.reverse, rfl, .inr (SqL.of (by rw [upd_same, iv_rev])), w4.2.rev, fun H11 y e11 w11 => ?_⟩
        have v11 := w11
        obtain ⟨d11, t11, g11, -⟩ := v11
        refine ⟨y, d11, _, rfl, g11, y, n4.reverse, rfl, w11, w4.2.rev, fun H12 z e12 w12 => ?_⟩
        rw [List.reverse_reverse] at w12
        have x12 := (e10.trans e11).trans e12
        have M12 := M0.ext x12
        have L12 := L9.ext x12
        have pn12 := pn9.ext x12
        refine ⟨_, rfl, M, _, _, 4, rfl, rfl, M12.1, ix_of (j := 4) rfl (by rw [List.length_map]; omega), ?_⟩
        have M13 := M12.put w12 hn4
        have L13 := L12.updM (o := .lst ((rl ms).set 4 (.ref z))) M12.1 M12.2.2.1 nR
        have pn13 := pn12.updR (o := .lst ((rl ms).set 4 (.ref z))) M12.1 M12.2.2.1
        obtain ⟨H13, eH⟩ : ∃ H', H' = upd H12 M (.lst ((rl ms).set 4 (.ref z))) := ⟨_, rfl⟩
        rw [← eH] at M13 L13 pn13
        obtain ⟨ms2, em⟩ : ∃ m, m = ms.set 4 z := ⟨_, rfl⟩
        rw [← em] at M13
        rw [← eH]
        have lm2 := M13.2.1
        -- made[3] = made[3][0, len(rows[3])]
        obtain ⟨r3, hr3⟩ : ∃ x, rs[3]? = some x := ⟨_, List.getElem?_eq_getElem (by omega)⟩
        obtain ⟨n3, hn3⟩ : ∃ x, nss[3]? = some x := ⟨_, List.getElem?_eq_getElem (by omega)⟩
        obtain ⟨m3, hm3⟩ : ∃ x, ms2[3]? = some x := ⟨_, List.getElem?_eq_getElem (by omega)⟩
        have w3 := L13.2.2.2 _ _ _ hr3 hn3
        have k3 := M13.2.2.2 _ _ _ hm3 hn3
        refine ⟨_, rfl, M, _, _, .ref m3, rfl, rfl, SqL.of M13.1, at_of (j := 3) rfl (rl_get hm3), _, rfl, R, _, _, .ref r3, rfl, rfl, SqL.of L13.1, at_of (j := 3) rfl (rl_get hr3), r3, _, rfl, .inl (SqL.of w3.1), (by show 2 ≤ sizeLine; decide), fun tp htp => ?_⟩
        have e14 := Ext.upd (o := .tup [.int 0, .int ((iv n3).length : Int)]) htp
        have k3' := k3.ext e14
        have v3 := k3'
        obtain ⟨d3, t3, g3, -⟩ := v3
        refine ⟨m3, d3, _, rfl, g3, m3, tp, n3, rfl, k3', w3.2, by rw [upd_same, List.length_map], fun H15 z' e15 w15 => ?_⟩
        have x15 := e14.trans e15
        have M15 := M13.ext x15
        refine ⟨_, rfl, M, _, _, 3, rfl, rfl, M15.1, ix_of (j := 3) rfl (by rw [List.length_map]; omega), ?_⟩
        have M16 := M15.put w15 hn3
        have L16 := (L13.ext x15).updM (o := .lst ((rl ms2).set 3 (.ref z'))) M15.1 M15.2.2.1 nR
        have pn16 := (pn13.ext x15).updR (o := .lst ((rl ms2).set 3 (.ref z'))) M15.1 M15.2.2.1
        obtain ⟨H16, eH2⟩ : ∃ H', H' = upd H15 M (.lst ((rl ms2).set 3 (.ref z'))) := ⟨_, rfl⟩
        rw [← eH2] at M16 L16 pn16
        obtain ⟨ms3, em3⟩ : ∃ m, m = ms2.set 3 z' := ⟨_, rfl⟩
        rw [← em3] at M16
        rw [← eH2]
        have lm3 := M16.2.1
        -- all pairs
        refine ⟨5, rfl, by decide, by decide, for_it (walk_range (lo := 0) (n := 5)) (fun i σ H' => (∃ x6 x7 x8 x9 x10 x11 x12 x13, σ = [some (.ref a), some (.ref p), some (.int (0 + (t : Int))), some (.ref R), y4, some (.ref M), x6, x7, x8, x9, x10, x11, x12, x13, x14]) ∧ Ext H16 H') ⟨⟨_, _, _, _, _, _, _, _, rfl⟩, Ext.rfl'⟩ (fun _ _ _ _ _ => trivial) ?_ ?_⟩
        · rintro i _ _ H17 _ hi ⟨⟨x6, x7, x8, x9, x10, x11, x12, x13, rfl⟩, e17⟩ ⟨rfl, rfl⟩
          refine ⟨5, rfl, by decide, by decide, for_it (walk_range (lo := 0) (n := 5)) (fun j σ H' => (∃ x7 x8 x9 x10 x11 x12 x13, σ = [some (.ref a), some (.ref p), some (.int (0 + (t : Int))), some (.ref R), y4, some (.ref M), some (.int (0 + (i : Int))), x7, x8, x9, x10, x11, x12, x13, x14]) ∧ Ext H16 H') ⟨⟨_, _, _, _, _, _, _, rfl⟩, e17⟩ (fun _ _ _ _ _ => trivial) ?_ ?_⟩
          · rintro j _ _ H18 _ hj ⟨⟨x7, x8, x9, x10, x11, x12, x13, rfl⟩, e18⟩ ⟨rfl, rfl⟩
            have M18 := M16.ext e18
            have L18 := L16.ext e18
            obtain ⟨r1, hr1⟩ : ∃ x, rs[i]? = some x := ⟨_, List.getElem?_eq_getElem (by omega)⟩
            obtain ⟨n1, hn1⟩ : ∃ x, nss[i]? = some x := ⟨_, List.getElem?_eq_getElem (by omega)⟩
            obtain ⟨m1, hm1⟩ : ∃ x, ms3[i]? = some x := ⟨_, List.getElem?_eq_getElem (by omega)⟩
            obtain ⟨r2', hr2⟩ : ∃ x, rs[j]? = some x := ⟨_, List.getElem?_eq_getElem (by omega)⟩
            obtain ⟨n2, hn2⟩ : ∃ x, nss[j]? = some x := ⟨_, List.getElem?_eq_getElem (by omega)⟩
            obtain ⟨m2, hm2⟩ : ∃ x, ms3[j]? = some x := ⟨_, List.getElem?_eq_getElem (by omega)⟩
            have u1 := L18.2.2.2 _ _ _ hr1 hn1
            have u2 := L18.2.2.2 _ _ _ hr2 hn2
            have z1 := M18.2.2.2 _ _ _ hm1 hn1
            have z2 := M18.2.2.2 _ _ _ hm2 hn2
            refine ⟨_, rfl, _, rfl, M, _, _, .ref m1, rfl, rfl, SqL.of M18.1, at_of (j := i) (by omega) (rl_get hm1), _, rfl, _, rfl, M, _, _, .ref m2, rfl, rfl, SqL.of M18.1, at_of (j := j) (by omega) (rl_get hm2), _, _, rfl, ?_⟩
            refine ⟨_, rfl, _, rfl, R, _, _, .ref r1, rfl, rfl, SqL.of L18.1, at_of (j := i) (by omega) (rl_get hr1), r1, n1, rfl, u1.1, u1.2, fun H19 e19 => ?_⟩
            have L19 := L18.ext e19
            refine ⟨_, rfl, _, rfl, R, _, _, .ref r2', rfl, rfl, SqL.of L19.1, at_of (j := j) (by omega) (rl_get hr2), r2', n2, rfl, e19 _ _ u2.1, u2.2, fun H20 e20 => ⟨_, _, rfl, ?_⟩⟩
            have two : ∀ {H'}, Ext H20 H' → RowAt K H' m1 n1 ∧ RowAt K H' m2 n2 := fun e => ⟨((z1.ext e19).ext e20).ext e, ((z2.ext e19).ext e20).ext e⟩
            have cm : ∀ {H'}, Ext H20 H' → ∃ d1 d2 f1 f2, H' m1 = some (.ins (cR K) d1 f1) ∧ H' m2 = some (.ins (cR K) d2 f2) := fun e => by
              obtain ⟨⟨d1, t1, g1, -⟩, ⟨d2, t2, g2, -⟩⟩ := two e
              exact ⟨d1, d2, _, _, g1, g2⟩
            obtain ⟨d1, d2, f1, f2, g1, g2⟩ := cm Ext.rfl'
            refine ⟨_, rfl, _, rfl, m1, m2, d1, d2, _, _, rfl, rfl, g1, g2, m1, m2, n1, n2, rfl, (two Ext.rfl').1, (two Ext.rfl').2, fun H21 e21 => ⟨⟨_, rfl⟩, ?_⟩⟩
            obtain ⟨d1, d2, f1, f2, g1, g2⟩ := cm e21
            refine ⟨_, rfl, _, rfl, m1, m2, d1, d2, _, _, rfl, rfl, g1, g2, m1, m2, n1, n2, rfl, (two e21).1, (two e21).2, fun H22 e22 => ⟨⟨_, rfl⟩, ?_⟩⟩
            have x22 := e21.trans e22
            obtain ⟨d1, d2, f1, f2, g1, g2⟩ := cm x22
            refine ⟨_, rfl, _, rfl, m1, m2, d1, d2, _, _, rfl, rfl, g1, g2, m1, m2, n1, n2, rfl, (two x22).1, (two x22).2, fun H23 e23 => ⟨⟨_, rfl⟩, ?_⟩⟩
            have x23 := x22.trans e23
            obtain ⟨d1, d2, f1, f2, g1, g2⟩ := cm x23
            refine ⟨_, rfl, _, rfl, m1, m2, d1, d2, _, _, rfl, rfl, g1, g2, m1, m2, n1, n2, rfl, (two x23).1, (two x23).2, fun H24 e24 => ⟨⟨_, rfl⟩, ?_⟩⟩
            have x24 := x23.trans e24
            obtain ⟨d1, d2, f1, f2, g1, g2⟩ := cm x24
            refine ⟨_, rfl, _, rfl, m1, m2, d1, d2, _, _, rfl, rfl, g1, g2, m1, m2, n1, n2, rfl, (two x24).1, (two x24).2, fun H25 e25 => ⟨⟨_, rfl⟩, ?_⟩⟩
            have x25 := x24.trans e25
            obtain ⟨d1, d2, f1, f2, g1, g2⟩ := cm x25
            refine ⟨_, rfl, _, rfl, m1, m2, d1, d2, _, _, rfl, rfl, g1, g2, m1, m2, n1, n2, rfl, (two x25).1, (two x25).2, fun H26 e26 => ⟨_, rfl, ?_⟩⟩
            have x26 := x25.trans e26
            refine ⟨(by show 6 ≤ sizeLine; decide), fun S hS => ?_⟩
            have e27 := Ext.upd (o := .lst ((ans (ltR n1 n2) (ltR n2 n1) (eqR n1 n2)).map V.bl)) hS
            refine ⟨_, rfl, _, rfl, _, _, rfl, rfl, ?_⟩
            refine ⟨_, rfl, _, rfl, _, _, rfl, rfl, ?_⟩
            refine ⟨_, rfl, _, rfl, _, _, rfl, rfl, ?_⟩
            refine ⟨_, rfl, _, rfl, _, _, rfl, rfl, ?_⟩
            refine ⟨_, rfl, _, rfl, rfl, ?_⟩
            refine ⟨_, rfl, _, rfl, rfl, ?_⟩
            refine ⟨(by show 6 ≤ sizeLine; decide), fun U hU => ?_⟩
            have eq6 : [V.bl (decide ((sgn n1).cps.toList < (sgn n2).cps.toList)), V.bl (!decide ((sgn n2).cps.toList < (sgn n1).cps.toList)), V.bl (decide ((sgn n2).cps.toList < (sgn n1).cps.toList)), V.bl (!decide ((sgn n1).cps.toList < (sgn n2).cps.toList)), V.bl (decide (V.str (sgn n1) = V.str (sgn n2))), V.bl (!decide (V.str (sgn n1) = V.str (sgn n2)))] = (ans (ltR n1 n2) (ltR n2 n1) (eqR n1 n2)).map V.bl := by
              rw [lt_sgn u1.2 u2.2, lt_sgn u2.2 u1.2, eq_sgn u1.2 u2.2, dec_strV]
              rfl
            rw [eq6]
            have e28 := Ext.upd (o := .lst ((ans (ltR n1 n2) (ltR n2 n1) (eqR n1 n2)).map V.bl)) hU
            obtain ⟨k1, k2, k3, k4⟩ := ans_ok (ltR n1 n2) (ltR n2 n1) (eqR n1 n2)
            refine ⟨_, rfl, S, .list ((ans (ltR n1 n2) (ltR n2 n1) (eqR n1 n2)).map .bool), rfl, .lst (SqL.of (e28 _ _ upd_same)) (dp_bools (ans (ltR n1 n2) (ltR n2 n1) (eqR n1 n2))), k1, k2, k3, k4, _, rfl, U, .list ((ans (ltR n1 n2) (ltR n2 n1) (eqR n1 n2)).map .bool), rfl, .lst (SqL.of upd_same) (dp_bools (ans (ltR n1 n2) (ltR n2 n1) (eqR n1 n2))), k1, k2, k3, k4, rfl, _, rfl, ?_⟩
            rw [decide_eq_true rfl]
            refine iteF ?_
            exact ⟨⟨_, _, _, _, _, _, _, rfl⟩, ((((e18.trans e19).trans e20).trans x26).trans e27).trans e28⟩
          · rintro σ H' ⟨⟨x7, x8, x9, x10, x11, x12, x13, rfl⟩, e⟩
            exact ⟨⟨_, _, _, _, _, _, _, _, rfl⟩, e⟩
        · rintro σ H' ⟨⟨x6, x7, x8, x9, x10, x11, x12, x13, rfl⟩, e⟩
          exact ⟨⟨_, _, _, _, _, _, _, _, _, _, _, _, _, rfl⟩, (pn16.ext e).mono (by omega)⟩
      · rintro σ H' ⟨⟨x2, x3, x4, x5, x6, x7, x8, x9, x10, x11, x12, x13, x14, rfl⟩, -⟩
        refine fun y0 d0 h1 h2 h3 => ⟨y0, d0, [], rfl, upd_same, gd0, fun J0 k0 w0 => ⟨rfl, ?_⟩⟩
        refine fun y1 d1 h4 h5 h6 => ⟨y1, d1, [0], rfl, upd_same, gd1, fun J1 k1 w1 => ⟨rfl, ?_⟩⟩
        have w0' := w0.ext (made_ext h4 h5 k1)
        have v0 := w0'
        have v1 := w1
        obtain ⟨f0, t0, g0, -⟩ := v0
        obtain ⟨f1, t1, g1, -⟩ := v1
        refine ⟨y0, y1, f0, f1, _, _, rfl, rfl, g0, g1, y0, y1, [], [0], rfl, w0', w1, fun J2 e2 => ⟨⟨_, rfl⟩, ?_⟩⟩
        refine ⟨true, congrArg V.bl lt1, iteT ?_⟩
        refine fun y2 d2 h1 h2 h3 => ⟨y2, d2, [5], rfl, upd_same, gd2, fun J3 k3 w3 => ⟨rfl, ?_⟩⟩
        refine fun y3 d3 h4 h5 h6 => ⟨y3, d3, [0, 0], rfl, upd_same, gd3, fun J4 k4 w4 => ⟨rfl, ?_⟩⟩
        have w3' := w3.ext (made_ext h4 h5 k4)
        have v3 := w3'
        have v4 := w4
        obtain ⟨f3, t3, g3, -⟩ := v3
        obtain ⟨f4, t4, g4, -⟩ := v4
        refine ⟨y2, y3, f3, f4, _, _, rfl, rfl, g3, g4, y2, y3, [5], [0, 0], rfl, w3', w4, fun J5 e5 => ⟨⟨_, rfl⟩, ?_⟩⟩
        refine ⟨true, congrArg V.bl lt2, iteT ?_⟩
        refine fun y4 d4 h1 h2 h3 => ⟨y4, d4, [], rfl, upd_same, gd0, fun J6 k6 w6 => ⟨rfl, ?_⟩⟩
        refine fun y5 d5 h4 h5 h6 => ⟨y5, d5, [], rfl, upd_same, gd0, fun J7 k7 w7 => ⟨rfl, ?_⟩⟩
        have w6' := w6.ext (made_ext h4 h5 k7)
        have v6 := w6'
        have v7 := w7
        obtain ⟨f6, t6, g6, -⟩ := v6
        obtain ⟨f7, t7, g7, -⟩ := v7
        refine ⟨y4, y5, f6, f7, _, _, rfl, rfl, g6, g7, y4, y5, [], [], rfl, w6', w7, fun J8 e8 => ⟨⟨_, rfl⟩, ?_⟩⟩
        exact ⟨false, congrArg V.bl lt3, q _⟩
end
end K22
open PySem PySem.W PySem.Calls PyProof.Rows
set_option maxRecDepth 100000
set_option maxHeartbeats 0
theorem PySem.Challenge.cw_lapseeds_k22_rows_in_order_holds : PySem.Challenge.rw_lapseeds_k22_rows_in_order.Holds := by
  w_on; o_law
  refine HandSHeadRun.head_any (r := OpenLaw.row PySem.Challenge.rw_lapseeds_k22_rows_in_order) (q := view (OpenLaw.row PySem.Challenge.rw_lapseeds_k22_rows_in_order).prog [24]) (H := K22.hk) (ob := K22.ob) (M := 3000) (loose := K22.loose) (d := HandSHeadRun.topDef (OpenLaw.row PySem.Challenge.rw_lapseeds_k22_rows_in_order).prog 24) (kwd := []) K22.ob_eq
    (by kernel_rfl) (fun s => by kernel_rfl) K22.run (by kernel_rfl) (by kernel_rfl) (by kernel_rfl) (by rfl) (by first | assumption | decide +kernel) (by decide +kernel) ⟨rfl, rfl, rfl, rfl, rfl, by decide +kernel⟩ ?hw ?hc
  case hw => w_witness2
  case hc =>
    refine ZL.walk_ofG (l := PySem.Challenge.rw_lapseeds_k22_rows_in_order) (n := 63) (k := 9) rfl (by decide) (by kernel_rfl) ⟨rfl, by decide, by decide⟩ ?F
    intro w mg fa h Y G hmg0
    obtain ⟨K, KX, c⟩ := Y
    have hmg : mg ("law" : PySem.Str) = some (.ref fa) := by
      have e : (HandSHeadRun.topDef (OpenLaw.row PySem.Challenge.rw_lapseeds_k22_rows_in_order).prog 24).name = ("law" : PySem.Str) := by kernel_rfl
      rw [← e]
      exact hmg0
    have T := K22.tx KX G c
    have efa : fa = He.ga K "law" := by
      have z := T.glo "law" (by decide +kernel)
      rw [hmg] at z
      exact Value.ref.inj (Option.some.inj z)
    subst efa
    exact ⟨K, K22.spLaw K, KX, fun H a ns hl _ hS => ⟨a, ns, rfl, hS, hl, fun _ => rfl⟩, fun base _ _ => K22.r_law T⟩
