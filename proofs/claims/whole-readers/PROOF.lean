import PyProof.Rows.All
import Wide.All
import OpenK.AllK
import Wide.FinOn
import PyProof.EqAt
import PyProof.EqKinds
import PyProof.TupleCall
import KE.KCallOwn
import KE.KOpsOwn
import HandS.Base
import HandS.Call
import HandS.List
import HandS.Comp
import HandS.Ends
import HandS.Exc
import HandS.ExcOwn
import HandS.TryOnly
import HandS.Words
import HandS.WordsList
import HandS.WordsExc
import HandS.Defaults
import HandS.MakeKwOnly
import HandS.Property
import HandS.IsInst
import HandS.Codes
import PySem.Challenge.RW_ringindexes_k57_whole_readers_in_time
import HandS.HeadHook1
import KE.KStateDown
import HandS.Head0
import HandS.Head1
import HandS.Head2
import HandS.HeadEnd
import HandS.HeadHook2
set_option Elab.async false
set_option linter.all false
set_option maxRecDepth 100000
set_option maxHeartbeats 0
/-! Rules of my own over the hand layer: a property stored, own `+=`, own `[]` read, an instance called with nothing, a class made with keywords whose `__init__` may raise. -/
namespace RgX
open PySem PySem.Spec PyProof.Rows L2
/-- the class has the name as a property at p whose setter is the def at g -/
structure SetOf (K : PySem.W.Frag) (C : Addr) (f : Str) (p g : Addr) : Prop where
  tk : PySem.W.takerIn K C f = some (some (.ref p))
  ty : PySem.W.typeIn K (.ref p) = some (.type "property")
  rc : ∃ a rest, PySem.W.recIn K p "property" = some (a :: .ref g :: rest)
/-- e.f = value, f a property: the setter's promise -/
def sProp (C : Addr) (sp : Sp) (E : XK) (ta tv : TE) : TS := fun D σ H =>
  tv σ H fun y H1 => ta σ H1 fun x H2 => ∃ a dx fs, x = .ref a ∧ H2 a = some (.ins C dx fs) ∧ sp [.ref a, y] H2 (fun _ H3 => D.nx σ H3) E
section
variable {X : Cx} {CX : CXT} {k : Nat} {C p g : Addr} {f : Str} {fd : FuncData} {ps : List Str} {sp : Sp} {E : XK} {o value : Expr} {pos pos' : Pos} {ta tv : TE}
theorem ps_prop (ho : PE X o ta) (hv : PE X value tv) (c : Cls X.K C) (hp : SetOf X.K C f p g) (F : FnOk X.prog X.w X.K X.mg X.base CX k g fd ps sp) (hr : Room (k + 2) X.A) (hb : Binds X.K fd ps [])
    (hx : Passes CX X.nox E) (hs : swapsWith value (some (.Attribute o f pos')) pos.line X.env = pure false) : PS X (.Assign [.Attribute o f pos'] value pos) (sProp C sp E ta tv) := by
  constructor
  intro pins s σ H D I h
  refine plainObj_wpAny_Assign_Attribute ?_ hs
  refine thn (hv.run pins s σ H _ I h) ?_
  rintro u s1 ⟨y, H1, I1, ry, q1⟩
  refine thn (ho.run pins s1 σ H1 _ I1 q1) ?_
  rintro ov s2 ⟨x, H2, I2, rx, a, dx, fs, rfl, ea, q2⟩
  cases rx
  obtain ⟨mA, O, _⟩ := ins_get I2.hok ea
  obtain ⟨od, J, _⟩ := O.look
  obtain ⟨z, more, hrec⟩ := hp.rc
  have I3 := I2.tok (s2.toks + 1)
  have hlen : ([Value.ref a, u] ++ []).length = ps.length := (F.len _ _ _ _ q2)
  have hbb := hb { s2 with toks := s2.toks + 1 } [.ref a, u] I3.kIn hlen
  refine PySem.W.set_plain I2.kIn J c.sa ?_
  refine PySem.W.osa_descr (s := { s2 with toks := s2.toks + 1 }) PySem.W.KF.slot_pset I2.kIn J c.po hp.tk hp.ty ?_
  refine PySem.W.prop_set (s := { s2 with toks := s2.toks + 1 }) I2.kIn hrec ?_
  refine codeAny_mono (F.run X.A.in1.in1 X.stack { s2 with toks := s2.toks + 1 } H2 ⟨[.ref a, u], []⟩ [.ref a, u] [.ref a, y] _ E hr.in1.in1 I3.env0.in1.in1 hbb (.cons rfl (.cons ry .nil)) q2) ?_
  intro r s' hq
  rcases r with er | (w' | _ | _ | _)
  · exact (hx pins σ H2 _ er s' (I3.wish _) hq).elim
  · exact hq.elim
  · exact hq.elim
  · exact hq.elim
  · obtain ⟨v, H4, I4, rv, q4⟩ := I3.after hq
    exact ⟨σ, H4, I4, q4⟩
end
/-! ### own += -/
structure AddTo (K : PySem.W.Frag) (C f : Addr) : Prop where
  sf : PySem.W.selfFirst K C = true
  at_ : PySem.W.findIn K (.ref C) "__iadd__" = some (some (.ref f))
  fn : PySem.W.isFn K (.ref f) = true
theorem iadd_name : PySem.dunderI (Operator.info .Add).2 = ("__iadd__" : Str) := by decide +kernel
/-- x += y where x is an instance: the method's promise; what comes back is an object -/
def ipOwn (C : Addr) (sp : Sp) (E : XK) : TIp := fun x y H Q => ∃ a dx fs, x = .ref a ∧ H a = some (.ins C dx fs) ∧ sp [.ref a, y] H (fun v H' => (∃ b, v = V.ref b) ∧ Q v H') E
section
variable {X : Cx} {CX : CXT} {k : Nat} {C f : Addr} {fd : FuncData} {ps : List Str} {sp : Sp} {E : XK}
theorem ip_own (g : AddTo X.K C f) (F : FnOk X.prog X.w X.K X.mg X.base CX k f fd ps sp) (hr : Room k X.A) (hb : Binds X.K fd ps []) (hx : Passes CX X E) : PIp X .Add (ipOwn C sp E) := by
  rintro pins s σ H x y v u Q I rx ry ⟨a, dx, fs, rfl, ea, q⟩
  cases rx
  obtain ⟨mA, O, _⟩ := ins_get I.hok ea
  obtain ⟨od, J, _⟩ := O.look
  obtain ⟨m, hF⟩ := I.fr
  refine PySem.W.ksp_inplace hF I.ok.mod.kin J g.sf (by rw [iadd_name]; exact g.at_) g.fn ?_
  refine wpAny_mono (run_fn (dvs := []) (vs := [.ref a, y]) F hr hb .nil hx I (.cons rfl (.cons ry .nil)) q) ?_ fun _ _ z => z
  rintro r s' ⟨w', H', I', rw', ⟨b, rfl⟩, q'⟩
  cases rw'
  exact ⟨V.ref b, H', I', rfl, q'⟩
end
/-! ### own [] read -/
structure GetIt (K : PySem.W.Frag) (C f : Addr) : Prop where
  at_ : PySem.W.findIn K (.ref C) "__getitem__" = some (some (.ref f))
  fi : PySem.W.fnIn K f = true
  fn : PySem.W.isFn K (.ref f) = true
def tIxO (C : Addr) (sp : Sp) (E : XK) (ta tb : TE) : TE := fun σ H Q => ta σ H fun x H1 => tb σ H1 fun y H2 => ∃ a dx fs, x = .ref a ∧ H2 a = some (.ins C dx fs) ∧ sp [.ref a, y] H2 Q E
section
variable {X : Cx} {CX : CXT} {k : Nat} {C f : Addr} {fd : FuncData} {ps : List Str} {sp : Sp} {E : XK} {a b : Expr} {pos : Pos} {ta tb : TE}
theorem pe_ixO (ha : PE X a ta) (hb : PE X b tb) (g : GetIt X.K C f) (F : FnOk X.prog X.w X.K X.mg X.base CX k f fd ps sp) (hr : Room (k + 1) X.A) (bb : Binds X.K fd ps []) (hx : Passes CX X E)
    (hs : ∀ o i, subscripted b true o i = runValue (.builtin "lifetime.subscript" ⟨[o, i], []⟩)) : PE X (.Subscript a b pos) (tIxO C sp E ta tb) := by
  constructor
  intro pins s σ H Q I h
  refine Subscript_ (binT ha hb I h ?_)
  rintro v u s2 x y H2 I2 rx ry ⟨c, dx, fs, rfl, ea, q⟩
  cases rx
  obtain ⟨mA, O, _⟩ := ins_get I2.hok ea
  obtain ⟨od, J, _⟩ := O.look
  obtain ⟨m, hF⟩ := I2.fr
  have hlen : ([Value.ref c, u] ++ []).length = ps.length := (F.len _ _ _ _ q)
  have hbb := bb s2 [.ref c, u] I2.kIn hlen
  refine PySem.W.sub_K hF I2.ok.mod.kin J g.at_ g.fi g.fn ?_ (hs _ _)
  refine wpAny_call (codeAny_mono (F.run X.A.in1 X.stack s2 H2 ⟨[.ref c, u], []⟩ [.ref c, u] [.ref c, y] Q E hr.in1 I2.env0.in1 hbb (.cons rfl (.cons ry .nil)) q) ?_)
  intro r s' hq
  rcases r with er | (w' | _ | _ | _)
  · exact hx pins σ H2 s2 er s' I2 hq
  · exact hq.elim
  · exact hq.elim
  · exact hq.elim
  · exact I2.after hq
end
/-! ### an instance called with nothing -/
structure CallIt (K : PySem.W.Frag) (C f : Addr) : Prop where
  at_ : PySem.W.findIn K (.ref C) "__call__" = some (some (.ref f))
  fi : PySem.W.fnIn K f = true
  fn : PySem.W.isFn K (.ref f) = true
def tCall00 (C : Addr) (sp : Sp) (E : XK) (tf : TE) : TE := fun σ H Q => tf σ H fun y H1 => ∃ a dx fs, y = V.ref a ∧ H1 a = some (.ins C dx fs) ∧ sp [.ref a] H1 Q E
section
variable {X : Cx} {CX : CXT} {k : Nat} {C f : Addr} {fd : FuncData} {ps : List Str} {sp : Sp} {E : XK} {fe : Expr} {pos : Pos} {tf : TE}
theorem pe_call00 (hf : PE X fe tf) (g : CallIt X.K C f) (F : FnOk X.prog X.w X.K X.mg X.base CX k f fd ps sp) (hr : Room k X.A) (bb : Binds X.K fd ps []) (hx : Passes CX X E)
    (ht : eval (.Call fe [] [] pos) X.env = (do callWith pos (← eval fe X.env) [] (backTo pos (starEach [] X.env)) (backToKw pos (keywordEach [] X.env))) := by rfl) : PE X (.Call fe [] [] pos) (tCall00 C sp E tf) := by
  constructor
  intro pins s σ H Q I h
  refine Call_ (thn (hf.run pins s σ H _ I h) ?_) ht
  rintro u s1 ⟨y, H1, I1, ry, a, dx, fs, rfl, ea, q⟩
  cases ry
  obtain ⟨mA, O, _⟩ := ins_get I1.hok ea
  obtain ⟨od, J, _⟩ := O.look
  have hlen : ([Value.ref a] ++ []).length = ps.length := (F.len _ _ _ _ q)
  have hbb := bb s1 [.ref a] I1.kIn hlen
  refine PySem.W.kco_callWith0 (f := f) I1.kIn J rfl g.at_ ?_
  refine wpAny_call (PySem.W.kco_code (a := ⟨[], []⟩) I1.kIn J rfl g.at_ g.fn g.fi ?_)
  refine codeAny_mono (F.run X.A X.stack s1 H1 ⟨[.ref a], []⟩ [.ref a] [.ref a] Q E hr I1.env0 hbb (.cons rfl .nil) q) ?_
  intro r s' hq
  rcases r with er | (w' | _ | _ | _)
  · exact hx pins σ H1 s1 er s' I1 hq
  · exact hq.elim
  · exact hq.elim
  · exact hq.elim
  · exact I1.after hq
end
/-! ### C(e, .., k = v, ..) whose __init__ may raise, the wish at the caller's slots -/
def tMakeS (C : Addr) (n m : Nat) (sp : Sp) (gV : List V → List V → List V) (E : L2.St → XK) (t tk : TA) : TE := fun σ H Q =>
  t σ H fun vs H1 => tk σ H1 fun zs H2 => vs.length = n ∧ zs.length = m ∧ ∀ x dx, H2 x = none → H2 dx = none → dx ≠ x →
    sp (gV (.ref x :: vs) zs) (upd (upd H2 dx (.own x)) x (.ins C dx [])) (fun v H3 => v = .non ∧ Q (.ref x) H3) (E σ)
section
variable {X : Cx} {CX : CXT} {k n : Nat} {f C : Addr} {fd : FuncData} {ps ks : List Str} {sp : Sp} {E : L2.St → XK} {x : Str} {p pos : Pos} {e : Expr} {es : List Expr} {kws : List Keyword} {t tk : TA}
  {g : List Value → List Value → List Value} {gV : List V → List V → List V}
theorem pe_makeS (M : Mk X.K C f) (F : FnOk X.prog X.w X.K X.mg X.base CX k f fd ps sp) (hr : Room (k + 1) X.A) (hg : Gl X x) (hm : X.mg x = some (.ref C)) (hb : KBn X.K fd ps (n + 1) ks g gV) (hx : ∀ σ, PassesAt CX X σ (E σ))
    (ha : PA X (e :: es) t) (hkw : PK X kws tk) (hall : (backToKw pos (keywordEach kws X.env)).all (·.1.isSome) = true := by rfl) (hks : (backToKw pos (keywordEach kws X.env)).filterMap (·.1) = ks := by rfl)
    (hdb : (x == ("__debug__" : Str)) = false := by decide) (he : starEach (e :: es) X.env = (false, eval e X.env) :: starEach es X.env := by rfl)
    (hpl : ((backTo pos (starEach (e :: es) X.env)).any (·.1) || (backToKw pos (keywordEach kws X.env)).any (·.1.isNone)) = false := by rfl) :
    PE X (.Call (.Name x p) (e :: es) kws pos) (tMakeS C n ks.length sp gV E t tk) := by
  constructor
  intro pins s σ H Q I h
  refine wpAny_Call_Name_kw (ld_glob I hg hm ?_ hdb)
  refine PySem.W.callWith_KW (h₀ := X.base) I.ok.mod.kin M.kp hall ?_ hpl he
  refine thn (ha.run pos pins s σ H _ I h) ?_
  rintro us s1 ⟨vs, H1, I1, rv, q1⟩
  refine thn (hkw.run pos pins s1 σ H1 _ I1 q1) ?_
  rintro ws s2 ⟨zs, H2, I2, rz, l1, l2, q2⟩
  refine ⟨I2.kIn, ?_⟩
  rw [hks]
  -- the object's dict stands at the end of the heap, the object itself behind it
  have nx : H2 (s2.heap.objs.size + 1) = none := I2.hok.fresh (Nat.le_succ _)
  have nd : H2 s2.heap.objs.size = none := I2.hok.fresh (Nat.le_refl _)
  have hq := q2 _ _ nx nd (Nat.ne_of_lt (Nat.lt_succ_self _))
  have J := Inv.made (C := C) I2
  have rx : Vals (V.ref (s2.heap.objs.size + 1) :: vs) (Value.ref (s2.heap.objs.size + 1) :: us) := .cons rfl rv
  have n1 : (Value.ref (s2.heap.objs.size + 1) :: us).length = n + 1 := by rw [← rx.length, List.length_cons, l1]
  refine wpAny_call (make_map (f := f) I2.kIn M.makes M.init (beq_iff_eq.mp M.fn) ?_)
  refine codeAny_mono (F.run _ X.stack _ _ ⟨Value.ref (s2.heap.objs.size + 1) :: us, ks.zip ws⟩ (g (Value.ref (s2.heap.objs.size + 1) :: us) ws) _ _ (E σ) (hr.make C us (ks.zip ws)) (J.env0.make C us (ks.zip ws))
    (hb.to _ (Value.ref (s2.heap.objs.size + 1) :: us) ws J.kIn n1 (rz.length.symm.trans l2)) (hb.rel rx rz) hq) ?_
  intro r s' hr'
  rcases r with er | (w' | _ | _ | _)
  · exact hx σ pins _ _ er s' J hr'
  · exact hr'.elim
  · exact hr'.elim
  · exact hr'.elim
  · obtain ⟨v, H4, I4, rv4, ev, q4⟩ := J.after hr'
    subst ev
    exact ⟨rv4, ⟨V.ref (s2.heap.objs.size + 1), H4, I4, rfl, q4⟩⟩
end
end RgX
/-! The text by places, what the top must have left (facts by names), bundles of promises. -/
namespace Rg
open PySem L2 RgX
/-! ### the text by places -/
def top (i : Nat) : Stmt := PySem.Challenge.pw_ringindexes_k57_whole_readers_in_time.main.body.getD i (.Pass ⟨0, 0, 0, 0⟩)
/-! ### addresses by names -/
abbrev cForm (K : PySem.W.Frag) : Addr := He.ga K "Form"
abbrev cSch (K : PySem.W.Frag) : Addr := He.ga K "Scheme"
abbrev cLog (K : PySem.W.Frag) : Addr := He.ga K "Log"
abbrev cRd (K : PySem.W.Frag) : Addr := He.ga K "Reader"
abbrev cNoLag (K : PySem.W.Frag) : Addr := He.ga K "NoLag"
/-! ### what the top leaves -/
structure Tx (K : PySem.W.Frag) (mg : Str → Option Value) : Prop where
  fIsi : mg "isinstance" = none
  fInt : mg "int" = none
  fBool : mg "bool" = none
  fStr : mg "str" = none
  fTup : mg "tuple" = none
  fLen : mg "len" = none
  fMax : mg "max" = none
  fRange : mg "range" = none
  kLARGEST : ∃ u, mg "LARGEST" = some u ∧ RelV (.int 1000000000000000000000000000000) u
  kFARTHEST : ∃ u, mg "FARTHEST" = some u ∧ RelV (.int 10000000000000000000000000000000000000000) u
  kWIDEST : ∃ u, mg "WIDEST" = some u ∧ RelV (.int 100) u
  gForm : mg "Form" = some (.ref (cForm K))
  gSch : mg "Scheme" = some (.ref (cSch K))
  gLog : mg "Log" = some (.ref (cLog K))
  gRd : mg "Reader" = some (.ref (cRd K))
  gNoLag : mg "NoLag" = some (.ref (cNoLag K))
  clForm : Cls K (cForm K)
  clSch : Cls K (cSch K)
  clLog : Cls K (cLog K)
  clRd : Cls K (cRd K)
  insForm : C8.InsC K (cForm K)
  formInt : PySem.W.kitOne K (.ref (cForm K)) (.type "int") = some false
  naSlope : NoAttr K (cForm K) "slope"
  naBase : NoAttr K (cForm K) "base"
  naWrap : NoAttr K (cSch K) "own_wrap"
  naSlot : NoAttr K (cSch K) "own_slot"
  naEmpty : NoAttr K (cSch K) "own_empty"
  naFull : NoAttr K (cSch K) "own_full"
  naWhen : NoAttr K (cSch K) "own_when"
  naMod : NoAttr K (cLog K) "modulus"
  naSize : NoAttr K (cLog K) "size"
  naLaid : NoAttr K (cLog K) "laid"
  naSrc : NoAttr K (cRd K) "source"
  naPas : NoAttr K (cRd K) "passed"
  exNoLag : PySem.W.excIn K (cNoLag K) [.type "ValueError", .type "Exception", .type "BaseException", .type "object"] "ValueError.__new__" = true
  kpNoLag : PySem.W.keepIn K (.ref (cNoLag K)) = true
  suNoLag : PySem.W.subIn K (.ref (cNoLag K)) (.type "BaseException") = some true
  tyNoLag : PySem.W.typeIn K (.ref (cNoLag K)) = some (.type "type")
  emNoLag : PySem.W.exmOne K (.ref (cNoLag K)) (.ref (cNoLag K)) = some true
/-! ### defs of the module, getters, setters -/
abbrev FnQ (K : PySem.W.Frag) (x qual : Str) (st : Stmt) (kws : List (Str × V)) (f : Addr) (fd : FuncData) : Prop := FunD K x qual (defArgs st) (defBody st) (defScope st) [] kws f fd
structure Dg (K : PySem.W.Frag) (mg : Str → Option Value) (x : Str) (st : Stmt) : Prop where
  ex : ∃ f fd, FnQ K x x st [] f fd ∧ mg x = some (.ref f)
/-- a property's getter, the def st -/
structure DPr (K : PySem.W.Frag) (C : Addr) (f qual : Str) (st : Stmt) : Prop where
  ex : ∃ p g fd, PropOf K C f p g ∧ FnQ K f qual st [] g fd
/-- its setter -/
structure DSt (K : PySem.W.Frag) (C : Addr) (f qual : Str) (st : Stmt) : Prop where
  ex : ∃ p g fd, SetOf K C f p g ∧ FnQ K f qual st [] g fd
section
variable {P : Program} {w : World} {K : PySem.W.Frag} {mg : Str → Option Value} {base : Heap}
/-- how all parameters bind where every one is written -/
abbrev BindAll (x qual : Str) (st : Stmt) (ps : List Str) : Prop := ∀ (kV doc pm : Value) (an : Option Addr) (cdv ct : Value) (us : List Value), us.length = ps.length →
  bindArgs (PySem.W.fnOf x qual (defArgs st) (defBody st) (defScope st) .none kV doc pm an cdv ct) ⟨us, []⟩ = pure (ps.zip us)
/-- what a body must show -/
abbrev BodyOk (P : Program) (w : World) (K : PySem.W.Frag) (mg : Str → Option Value) (base : Heap) (qual : Str) (st : Stmt) (N : List Str) (k : Nat) (sp : Sp) : Prop :=
  ∀ (f : Addr) (cdv : Value) (A : Around) (outer : List Env) (s : Shared) (H : Hp) (vs : List V) (Q : VK) (E : XK), Room k (A.deeper (PyProof.Rows.envOfC qual (defScope st) s.heap.objs.size f cdv)) → sp vs H Q E →
    ∃ t, PSs (cxOf CX0 P w K mg base N qual (defScope st) f cdv A outer s H E).nox (defBody st) t ∧ t { nx := fun _ H' => Q .non H', rt := Q } (start N vs) H
theorem okB {x qual : Str} {st : Stmt} {kws : List (Str × V)} {f : Addr} {fd : FuncData} {N ps : List Str} {k : Nat} {sp : Sp} (F : FnQ K x qual st kws f fd) (S : FnScope N ps (defScope st))
    (len : ∀ vs H Q E, sp vs H Q E → vs.length = ps.length) (hb : BodyOk P w K mg base qual st N k sp) : FnOk P w K mg base CX0 (k + 1) f fd ps sp := by
  refine F.ok S len ?_
  intro cdv A outer s H vs Q E hr h
  obtain ⟨t, a, b⟩ := hb f cdv A outer s H vs Q E hr h
  exact ⟨t, a.nox, b⟩
theorem cal_of {x : Str} {st : Stmt} {N ps : List Str} {k : Nat} {sp : Sp} (D : Dg K mg x st) (S : FnScope N ps (defScope st)) (bs : BindAll x x st ps)
    (len : ∀ vs H Q E, sp vs H Q E → vs.length = ps.length) (hb : BodyOk P w K mg base x st N k sp) : C8.Cal P w K mg base (k + 1) x sp [] := by
  obtain ⟨f, fd, F, hm⟩ := D.ex
  exact ⟨f, fd, ps, [], okB F S len hb, hm, F.kp, F.bindsN bs, .nil⟩
structure Prp (P : Program) (w : World) (K : PySem.W.Frag) (mg : Str → Option Value) (base : Heap) (k : Nat) (C : Addr) (f : Str) (sp : Sp) : Prop where
  ex : ∃ (p g : Addr) (fd : FuncData) (ps : List Str), PropOf K C f p g ∧ FnOk P w K mg base CX0 k g fd ps sp ∧ Binds K fd ps []
structure Stp (P : Program) (w : World) (K : PySem.W.Frag) (mg : Str → Option Value) (base : Heap) (k : Nat) (C : Addr) (f : Str) (sp : Sp) : Prop where
  ex : ∃ (p g : Addr) (fd : FuncData) (ps : List Str), SetOf K C f p g ∧ FnOk P w K mg base CX0 k g fd ps sp ∧ Binds K fd ps []
theorem prp_of {C : Addr} {x qual : Str} {st : Stmt} {N ps : List Str} {k : Nat} {sp : Sp} (D : DPr K C x qual st) (S : FnScope N ps (defScope st)) (bs : BindAll x qual st ps)
    (len : ∀ vs H Q E, sp vs H Q E → vs.length = ps.length) (hb : BodyOk P w K mg base qual st N k sp) : Prp P w K mg base (k + 1) C x sp := by
  obtain ⟨p, g, fd, hp, F⟩ := D.ex
  exact ⟨p, g, fd, ps, hp, okB F S len hb, F.bindsN bs⟩
theorem stp_of {C : Addr} {x qual : Str} {st : Stmt} {N ps : List Str} {k : Nat} {sp : Sp} (D : DSt K C x qual st) (S : FnScope N ps (defScope st)) (bs : BindAll x qual st ps)
    (len : ∀ vs H Q E, sp vs H Q E → vs.length = ps.length) (hb : BodyOk P w K mg base qual st N k sp) : Stp P w K mg base (k + 1) C x sp := by
  obtain ⟨p, g, fd, hp, F⟩ := D.ex
  exact ⟨p, g, fd, ps, hp, okB F S len hb, F.bindsN bs⟩
end
section
variable {X : Cx} {k j : Nat} {C : Addr} {f : Str} {sp : Sp} {e o value : Expr} {pos pos' : Pos} {ta tv : TE}
theorem pe_p (c : Prp X.prog X.w X.K X.mg X.base k C f sp) (cl : Cls X.K C) (he : PE X e ta) (hr : Room j X.A) (hk : k + 1 ≤ j) (hab : attributeBase e f X.env (eval e X.env) = eval e X.env) :
    PE X (.Attribute e f pos) (tProp C sp [] E0 ta) := by
  obtain ⟨p, g, fd, ps, hp, F, b⟩ := c.ex
  exact pe_prop he cl hp F (hr.mono hk) b .nil pass0 hab
theorem ps_st (c : Stp X.prog X.w X.K X.mg X.base k C f sp) (cl : Cls X.K C) (ho : PE X o ta) (hv : PE X value tv) (hr : Room j X.A) (hk : k + 2 ≤ j) (hs : swapsWith value (some (.Attribute o f pos')) pos.line X.env = pure false) :
    PS X (.Assign [.Attribute o f pos'] value pos) (sProp C sp E0 ta tv) := by
  obtain ⟨p, g, fd, ps, hp, F, b⟩ := c.ex
  exact ps_prop ho hv cl hp F (hr.mono hk) b pass0 hs
end
/-! ### objects by their attributes -/
def fForm (sl ba : Int) : List (Str × V) := [("slope", .int sl), ("base", .int ba)]
def fSch (wv : V) (sl : Str) (em fu : V) (wh : Str) : List (Str × V) := [("own_wrap", wv), ("own_slot", .str sl), ("own_empty", em), ("own_full", fu), ("own_when", .str wh)]
def fLog (m n l : Int) : List (Str × V) := [("modulus", .int m), ("size", .int n), ("laid", .int l)]
def fRd (src : Addr) (p : Int) : List (Str × V) := [("source", .ref src), ("passed", .int p)]
theorem fForm_1 (sl ba : Int) : (fForm sl ba).lookup ("slope" : Str) = some (.int sl) := by kernel_rfl
theorem fForm_2 (sl ba : Int) : (fForm sl ba).lookup ("base" : Str) = some (.int ba) := by kernel_rfl
theorem fForm_mk (sl ba : Int) : putF "base" (.int ba) (putF "slope" (.int sl) []) = fForm sl ba := by kernel_rfl
section
variable (wv : V) (sl : Str) (em fu : V) (wh : Str)
theorem fSch_1 : (fSch wv sl em fu wh).lookup ("own_wrap" : Str) = some wv := by kernel_rfl
theorem fSch_2 : (fSch wv sl em fu wh).lookup ("own_slot" : Str) = some (.str sl) := by kernel_rfl
theorem fSch_5 : (fSch wv sl em fu wh).lookup ("own_when" : Str) = some (.str wh) := by kernel_rfl
theorem fSch_c : (fSch wv sl em fu wh).lookup ("change" : Str) = none := by kernel_rfl
theorem fSch_mk : putF "own_when" (.str wh) (putF "own_full" fu (putF "own_empty" em (putF "own_slot" (.str sl) (putF "own_wrap" wv [])))) = fSch wv sl em fu wh := by kernel_rfl
theorem fSch_when (z : Str) : putF "own_when" (.str z) (fSch wv sl em fu wh) = fSch wv sl em fu z := by kernel_rfl
theorem fSch_wrap (z : V) : putF "own_wrap" z (fSch wv sl em fu wh) = fSch z sl em fu wh := by kernel_rfl
end
section
variable (m n l : Int) (src : Addr) (p : Int)
theorem fLog_1 : (fLog m n l).lookup ("modulus" : Str) = some (.int m) := by kernel_rfl
theorem fLog_2 : (fLog m n l).lookup ("size" : Str) = some (.int n) := by kernel_rfl
theorem fLog_3 : (fLog m n l).lookup ("laid" : Str) = some (.int l) := by kernel_rfl
theorem fLog_mk : putF "laid" (.int l) (putF "size" (.int n) (putF "modulus" (.int m) [])) = fLog m n l := by kernel_rfl
theorem fLog_laid (z : Int) : putF "laid" (.int z) (fLog m n l) = fLog m n z := by kernel_rfl
theorem fRd_1 : (fRd src p).lookup ("source" : Str) = some (.ref src) := by kernel_rfl
theorem fRd_2 : (fRd src p).lookup ("passed" : Str) = some (.int p) := by kernel_rfl
theorem fRd_mk : putF "passed" (.int p) (putF "source" (.ref src) []) = fRd src p := by kernel_rfl
theorem fRd_pas (z : Int) : putF "passed" (.int z) (fRd src p) = fRd src z := by kernel_rfl
end
end Rg
namespace Rg
open PySem L2 RgX
abbrev sIsWhole : Stmt := top 13
abbrev sIsBetween : Stmt := top 14
abbrev sIsSize : Stmt := top 15
abbrev sModAt : Stmt := top 19
abbrev sModOf : Stmt := top 20
abbrev sOut : Stmt := top 21
abbrev sLogMod : Stmt := top 24
abbrev sGWrap : Stmt := inClass (top 38) 1
abbrev sGSlot : Stmt := inClass (top 38) 3
abbrev sGWhen : Stmt := inClass (top 38) 9
/-! ### promises -/
def spWhole (K : PySem.W.Frag) : Sp := fun vs H Q _ => (∃ i, vs = [.int i] ∧ Q (.bl true) H) ∨ ∃ a dx fs, vs = [.ref a] ∧ H a = some (.ins (cForm K) dx fs) ∧ Q (.bl false) H
def spBetween (K : PySem.W.Frag) : Sp := fun vs H Q _ => (∃ i lo hi, vs = [.int i, .int lo, .int hi] ∧ Q (.bl (decide (lo ≤ i ∧ i ≤ hi))) H) ∨ ∃ a dx fs lo hi, vs = [.ref a, .int lo, .int hi] ∧ H a = some (.ins (cForm K) dx fs) ∧ Q (.bl false) H
def spSize : Sp := fun vs H Q _ => ∃ i, vs = [.int i] ∧ Q (.bl (decide (1 ≤ i ∧ i ≤ 1000000000000000000000000000000))) H
/-- at size n the wrap v has the modulus m -/
def WrapAt (K : PySem.W.Frag) (H : Hp) (v : V) (n m : Int) : Prop := (∃ w, v = .int w ∧ 1 ≤ w ∧ w ≤ 100 ∧ m = 2 ^ w.toNat) ∨ ∃ a dx sl ba, v = .ref a ∧ H a = some (.ins (cForm K) dx (fForm sl ba)) ∧ 0 ≤ sl ∧ sl ≤ 4 ∧ m = sl * n + ba
def spModAt (K : PySem.W.Frag) : Sp := fun vs H Q _ => ∃ v n m, vs = [v, .int n] ∧ WrapAt K H v n m ∧ Q (.int m) H
/-- a scheme's object -/
abbrev SchAt (K : PySem.W.Frag) (H : Hp) (s : Addr) (dx : Addr) (wv : V) (sl : Str) (em fu : V) (wh : Str) : Prop := H s = some (.ins (cSch K) dx (fSch wv sl em fu wh))
def spModOf (K : PySem.W.Frag) : Sp := fun vs H Q _ => ∃ s n m dx wv sl em fu wh, vs = [.ref s, .int n] ∧ SchAt K H s dx wv sl em fu wh ∧ WrapAt K H wv n m ∧ 1 ≤ n ∧ n ≤ 1000000000000000000000000000000 ∧ 1 ≤ m ∧ Q (.int m) H
def spOut : Sp := fun vs H Q _ => ∃ sl n m, vs = [.str sl, .int n, .int m] ∧ Q (.bl (decide (sl = "off" ∧ 2 * n < m))) H
def spLogMod (K : PySem.W.Frag) : Sp := fun vs H Q _ => ∃ s n m dx wv sl em fu, vs = [.ref s, .int n] ∧ SchAt K H s dx wv sl em fu "over" ∧ WrapAt K H wv n m ∧ 1 ≤ n ∧ n ≤ 1000000000000000000000000000000 ∧ 1 ≤ m ∧ m % n = 0 ∧ (sl = "off" → m ≤ 2 * n) ∧ Q (.int m) H
def spGWrap (K : PySem.W.Frag) : Sp := fun vs H Q _ => ∃ s dx wv sl em fu wh, vs = [.ref s] ∧ SchAt K H s dx wv sl em fu wh ∧ Q wv H
def spGSlot (K : PySem.W.Frag) : Sp := fun vs H Q _ => ∃ s dx wv sl em fu wh, vs = [.ref s] ∧ SchAt K H s dx wv sl em fu wh ∧ Q (.str sl) H
def spGWhen (K : PySem.W.Frag) : Sp := fun vs H Q _ => ∃ s dx wv sl em fu wh, vs = [.ref s] ∧ SchAt K H s dx wv sl em fu wh ∧ Q (.str wh) H
/-! ### small helps -/
theorem dec_false {p : Prop} [Decidable p] (h : ¬ p) : decide p = false := decide_eq_false h
theorem q_bl {Q : VK} {H : Hp} {a b : Bool} (h : Q (.bl b) H) (e : a = b) : Q (.bl a) H := by rw [e]; exact h
theorem ite_of {c : Bool} {A B : Prop} {b : Bool} (e : c = b) (h : if b = true then A else B) : if c = true then A else B := by rw [e]; exact h
theorem iteFd {c A B : Prop} [Decidable c] (hc : ¬ c) (h : B) : if decide c = true then A else B := by rw [decide_eq_false hc]; exact iteF h
theorem iteTd {c A B : Prop} [Decidable c] (hc : c) (h : A) : if decide c = true then A else B := by rw [decide_eq_true hc]; exact iteT h
theorem iteNF {c A B : Prop} [Decidable c] (hc : c) (h : B) : if (!decide c) = true then A else B := by rw [decide_eq_true hc]; exact iteF h
theorem tyForm {K : PySem.W.Frag} {mg : Str → Option Value} (T : Tx K mg) {H : Hp} {a dx : Addr} {fs : List (Str × V)} (e : H a = some (.ins (cForm K) dx fs)) : TyX K H (.ref a) (.ref (cForm K)) :=
  .base (.ins e T.clForm T.insForm.ha T.insForm.hn T.insForm.htk T.insForm.hm)
section
variable {P : Program} {w : World} {K : PySem.W.Frag} {mg : Str → Option Value} {base : Heap}
/-! ### is_whole -/
theorem scWhole : FnScope ["thing"] ["thing"] (defScope sIsWhole) := ⟨rfl, rfl, rfl, by decide +kernel, rfl, by decide +kernel, by decide +kernel⟩
theorem ok_whole (T : Tx K mg) (D : Dg K mg "is_whole" sIsWhole) : C8.Cal P w K mg base 1 "is_whole" (spWhole K) [] := by
  refine cal_of D scWhole (fun _ _ _ _ _ _ us hl => match us, hl with | [_], _ => rfl) ?_ ?_
  · rintro vs H Q E (⟨i, rfl, _⟩ | ⟨a, dx, fs, rfl, _⟩) <;> rfl
  · intro f cdv A outer s H vs Q E hr h
    refine ⟨_, pss_one (ps_ret (pe_and (pe_callB call_isi (by rfl) T.fIsi (by decide +kernel) (pa_cons (pv 0) (pa_cons (pe_bltn (v := .ty "int") rfl T.fInt (by decide +kernel) rfl) pa_nil)))
      (pe_one (pe_not (pe_callB call_isi (by rfl) T.fIsi (by decide +kernel) (pa_cons (pv 0) (pa_cons (pe_bltn (v := .ty "bool") rfl T.fBool (by decide +kernel) rfl) pa_nil))))))), ?_⟩
    rcases h with ⟨i, rfl, q⟩ | ⟨a, dx, fs, rfl, ea, q⟩
    · refine ⟨_, rfl, _, _, _, _, true, rfl, .ty "int", .base (.int i), kit_ty (by decide +kernel), true, rfl, ?_⟩
      refine iteT ⟨_, rfl, _, _, _, _, false, rfl, .ty "bool", .base (.int i), kit_ty (by decide +kernel), false, rfl, q⟩
    · exact ⟨_, rfl, _, _, _, _, false, rfl, .ty "int", tyForm T ea, T.formInt, false, rfl, iteF q⟩
/-! ### is_between -/
theorem scBetween : FnScope ["thing", "low", "high"] ["thing", "low", "high"] (defScope sIsBetween) := ⟨rfl, rfl, rfl, by decide +kernel, rfl, by decide +kernel, by decide +kernel⟩
theorem ok_between (D : Dg K mg "is_between" sIsBetween) (c_is_whole : C8.Cal P w K mg base 1 "is_whole" (spWhole K) []) : C8.Cal P w K mg base 2 "is_between" (spBetween K) [] := by
  refine cal_of D scBetween (fun _ _ _ _ _ _ us hl => match us, hl with | [_, _, _], _ => rfl) ?_ ?_
  · rintro vs H Q E (⟨i, lo, hi, rfl, _⟩ | ⟨a, dx, fs, lo, hi, rfl, _⟩) <;> rfl
  · intro f cdv A outer s H vs Q E hr h
    refine ⟨_, pss_one (ps_ret (pe_and (C8.pe_c c_is_whole hr (by decide) rfl (pa_cons (pv 0) pa_nil)) (pe_one (pe_chain op_le op_le (pv 1) (pv 0) (pv 2))))), ?_⟩
    rcases h with ⟨i, lo, hi, rfl, q⟩ | ⟨a, dx, fs, lo, hi, rfl, ea, q⟩
    · refine ⟨_, rfl, .inl ⟨i, rfl, true, rfl, iteT ?_⟩⟩
      refine ⟨_, rfl, _, rfl, _, _, rfl, rfl, _, rfl, ?_⟩
      by_cases h1 : lo ≤ i
      · refine iteTd h1 ⟨_, rfl, _, _, rfl, rfl, q_bl q ?_⟩
        simp [h1]
      · refine iteFd h1 (q_bl q ?_)
        simp [h1]
    · exact ⟨_, rfl, .inr ⟨a, dx, fs, rfl, ea, false, rfl, iteF q⟩⟩
/-! ### is_size -/
theorem scSize : FnScope ["thing"] ["thing"] (defScope sIsSize) := ⟨rfl, rfl, rfl, by decide +kernel, rfl, by decide +kernel, by decide +kernel⟩
theorem ok_size (T : Tx K mg) (D : Dg K mg "is_size" sIsSize) (c_is_between : C8.Cal P w K mg base 2 "is_between" (spBetween K) []) : C8.Cal P w K mg base 3 "is_size" spSize [] := by
  refine cal_of D scSize (fun _ _ _ _ _ _ us hl => match us, hl with | [_], _ => rfl) ?_ ?_
  · rintro vs H Q E ⟨i, rfl, _⟩; rfl
  · rintro f cdv A outer s H vs Q E hr ⟨i, rfl, q⟩
    refine ⟨_, pss_one (ps_ret (C8.pe_c c_is_between hr (by decide) rfl (pa_cons (pv 0) (pa_cons pe_int (pa_cons (C8.pe_gc rfl T.kLARGEST) pa_nil))))), ?_⟩
    exact ⟨_, rfl, .inl ⟨i, 1, _, rfl, q⟩⟩
/-! ### modulus_at -/
theorem scModAt : FnScope ["wrap", "n"] ["wrap", "n"] (defScope sModAt) := ⟨rfl, rfl, rfl, by decide +kernel, rfl, by decide +kernel, by decide +kernel⟩
theorem ok_modAt (T : Tx K mg) (D : Dg K mg "modulus_at" sModAt) (c_is_whole : C8.Cal P w K mg base 1 "is_whole" (spWhole K) []) : C8.Cal P w K mg base 2 "modulus_at" (spModAt K) [] := by
  refine cal_of D scModAt (fun _ _ _ _ _ _ us hl => match us, hl with | [_, _], _ => rfl) ?_ ?_
  · rintro vs H Q E ⟨v, n, m, rfl, _⟩; rfl
  · rintro f cdv A outer s H vs Q E hr ⟨v, n, m, rfl, hw, q⟩
    refine ⟨_, pss_cons (ps_if (pt_val (C8.pe_c c_is_whole hr (by decide) rfl (pa_cons (pv 0) pa_nil))) (pss_one (ps_ret (pe_op op_shl pe_int (pv 0)))) pss_nil)
      (pss_one (ps_ret (pe_op op_add (pe_op op_mul (pe_fld (pv 0) rfl) (pv 1)) (pe_fld (pv 0) rfl)))), ?_⟩
    rcases hw with ⟨z, rfl, h1, h2, rfl⟩ | ⟨a, dx, sl, ba, rfl, ea, h0, h4, rfl⟩
    · refine ⟨_, rfl, .inl ⟨z, rfl, true, rfl, iteT ?_⟩⟩
      refine ⟨_, rfl, 1, z, rfl, rfl, ⟨by omega, by omega, by decide⟩, ?_⟩
      show Q (V.int (1 * 2 ^ z.toNat)) H
      rw [Int.one_mul]
      exact q
    · refine ⟨_, rfl, .inr ⟨a, dx, _, rfl, ea, false, rfl, iteF ?_⟩⟩
      refine ⟨_, rfl, a, _, dx, _, _, rfl, ea, T.clForm, T.naSlope, fForm_1 _ _, _, rfl, sl, n, rfl, rfl, .inl ⟨by omega, by omega⟩, ?_⟩
      exact ⟨_, rfl, a, _, dx, _, _, rfl, ea, T.clForm, T.naBase, fForm_2 _ _, _, _, rfl, rfl, q⟩
/-! ### has_outside -/
theorem scOut : FnScope ["rule", "n", "modulus"] ["rule", "n", "modulus"] (defScope sOut) := ⟨rfl, rfl, rfl, by decide +kernel, rfl, by decide +kernel, by decide +kernel⟩
theorem ok_out (D : Dg K mg "has_outside" sOut) : C8.Cal P w K mg base 1 "has_outside" spOut [] := by
  refine cal_of D scOut (fun _ _ _ _ _ _ us hl => match us, hl with | [_, _, _], _ => rfl) ?_ ?_
  · rintro vs H Q E ⟨v, n, m, rfl, _⟩; rfl
  · rintro f cdv A outer s H vs Q E hr ⟨sl, n, m, rfl, q⟩
    refine ⟨_, pss_one (ps_ret (pe_and (pe_cmpR op_eq (pv 0) pe_str (nomark _)) (pe_one (pe_cmpR op_gt (pv 2) (pe_op op_mul pe_int (pv 1)) (nomark _))))), ?_⟩
    refine ⟨_, rfl, rfl, _, rfl, ?_⟩
    by_cases h1 : sl = "off"
    · subst h1
      refine iteTd rfl ⟨_, rfl, _, rfl, 2, n, rfl, rfl, .inl ⟨by decide, by decide⟩, _, _, rfl, rfl, q_bl q ?_⟩
      simp
    · refine iteFd (fun z => h1 (V.str.inj z)) (q_bl q ?_)
      simp [h1]
/-! ### the scheme's getters -/
theorem scG1 : FnScope ["self"] ["self"] (defScope sGWrap) := ⟨rfl, rfl, rfl, by decide +kernel, rfl, by decide +kernel, by decide +kernel⟩
theorem ok_gwrap (T : Tx K mg) (D : DPr K (cSch K) "wrap" "Scheme.wrap" sGWrap) : Prp P w K mg base 1 (cSch K) "wrap" (spGWrap K) := by
  refine prp_of D scG1 (fun _ _ _ _ _ _ us hl => match us, hl with | [_], _ => rfl) ?_ ?_
  · rintro vs H Q E ⟨s, dx, wv, sl, em, fu, wh, rfl, _⟩; rfl
  · rintro f cdv A outer s H vs Q E hr ⟨s, dx, wv, sl, em, fu, wh, rfl, es, q⟩
    refine ⟨_, pss_one (ps_ret (pe_fld (pv 0) rfl)), ?_⟩
    exact ⟨_, rfl, s, _, dx, _, _, rfl, es, T.clSch, T.naWrap, fSch_1 .., q⟩
theorem scG2 : FnScope ["self"] ["self"] (defScope sGSlot) := ⟨rfl, rfl, rfl, by decide +kernel, rfl, by decide +kernel, by decide +kernel⟩
theorem ok_gslot (T : Tx K mg) (D : DPr K (cSch K) "slot" "Scheme.slot" sGSlot) : Prp P w K mg base 1 (cSch K) "slot" (spGSlot K) := by
  refine prp_of D scG2 (fun _ _ _ _ _ _ us hl => match us, hl with | [_], _ => rfl) ?_ ?_
  · rintro vs H Q E ⟨s, dx, wv, sl, em, fu, wh, rfl, _⟩; rfl
  · rintro f cdv A outer s H vs Q E hr ⟨s, dx, wv, sl, em, fu, wh, rfl, es, q⟩
    refine ⟨_, pss_one (ps_ret (pe_fld (pv 0) rfl)), ?_⟩
    exact ⟨_, rfl, s, _, dx, _, _, rfl, es, T.clSch, T.naSlot, fSch_2 .., q⟩
theorem scG5 : FnScope ["self"] ["self"] (defScope sGWhen) := ⟨rfl, rfl, rfl, by decide +kernel, rfl, by decide +kernel, by decide +kernel⟩
theorem ok_gwhen (T : Tx K mg) (D : DPr K (cSch K) "when" "Scheme.when" sGWhen) : Prp P w K mg base 1 (cSch K) "when" (spGWhen K) := by
  refine prp_of D scG5 (fun _ _ _ _ _ _ us hl => match us, hl with | [_], _ => rfl) ?_ ?_
  · rintro vs H Q E ⟨s, dx, wv, sl, em, fu, wh, rfl, _⟩; rfl
  · rintro f cdv A outer s H vs Q E hr ⟨s, dx, wv, sl, em, fu, wh, rfl, es, q⟩
    refine ⟨_, pss_one (ps_ret (pe_fld (pv 0) rfl)), ?_⟩
    exact ⟨_, rfl, s, _, dx, _, _, rfl, es, T.clSch, T.naWhen, fSch_5 .., q⟩
/-! ### modulus_of -/
theorem scModOf : FnScope ["scheme", "n", "modulus"] ["scheme", "n"] (defScope sModOf) := ⟨rfl, rfl, rfl, by decide +kernel, rfl, by decide +kernel, by decide +kernel⟩
theorem ok_modOf (T : Tx K mg) (D : Dg K mg "modulus_of" sModOf) (c_is_size : C8.Cal P w K mg base 3 "is_size" spSize []) (c_modulus_at : C8.Cal P w K mg base 2 "modulus_at" (spModAt K) []) (pWrap : Prp P w K mg base 1 (cSch K) "wrap" (spGWrap K)) :
    C8.Cal P w K mg base 4 "modulus_of" (spModOf K) [] := by
  refine cal_of D scModOf (fun _ _ _ _ _ _ us hl => match us, hl with | [_, _], _ => rfl) ?_ ?_
  · rintro vs H Q E ⟨s, n, m, dx, wv, sl, em, fu, wh, rfl, _⟩; rfl
  · rintro f cdv A outer s H vs Q E hr ⟨s, n, m, dx, wv, sl, em, fu, wh, rfl, es, hw, h1, h2, hm, q⟩
    refine ⟨_, pss_cons (ps_if (pt_not (pt_val (C8.pe_c c_is_size hr (by decide) rfl (pa_cons (pv 1) pa_nil)))) (pss_one ps_never) pss_nil)
      (pss_cons (ps_set (i := 2) scModOf.nd rfl (Or.inl rfl) (C8.pe_c c_modulus_at hr (by decide) rfl (pa_cons (pe_p pWrap T.clSch (pv 0) hr (by decide) rfl) (pa_cons (pv 1) pa_nil))))
      (pss_cons (ps_if (pt_cmpR op_lt (pv 2) pe_int (nomark _)) (pss_one ps_never) pss_nil)
      (pss_one (ps_ret (pv 2))))), ?_⟩
    refine ⟨_, rfl, n, rfl, _, rfl, iteNF ⟨h1, h2⟩ ?_⟩
    refine ⟨_, rfl, s, dx, _, rfl, es, s, dx, wv, sl, em, fu, wh, rfl, es, _, rfl, wv, n, m, rfl, hw, ?_⟩
    refine ⟨_, rfl, _, _, rfl, rfl, _, rfl, iteFd (by omega) ?_⟩
    exact ⟨_, rfl, q⟩
/-! ### log_modulus -/
theorem scLogMod : FnScope ["scheme", "n", "modulus"] ["scheme", "n"] (defScope sLogMod) := ⟨rfl, rfl, rfl, by decide +kernel, rfl, by decide +kernel, by decide +kernel⟩
theorem ok_logMod (T : Tx K mg) (D : Dg K mg "log_modulus" sLogMod) (c_modulus_of : C8.Cal P w K mg base 4 "modulus_of" (spModOf K) []) (c_has_outside : C8.Cal P w K mg base 1 "has_outside" spOut [])
    (pWhen : Prp P w K mg base 1 (cSch K) "when" (spGWhen K)) (pSlot : Prp P w K mg base 1 (cSch K) "slot" (spGSlot K)) : C8.Cal P w K mg base 5 "log_modulus" (spLogMod K) [] := by
  refine cal_of D scLogMod (fun _ _ _ _ _ _ us hl => match us, hl with | [_, _], _ => rfl) ?_ ?_
  · rintro vs H Q E ⟨s, n, m, dx, wv, sl, em, fu, rfl, _⟩; rfl
  · rintro f cdv A outer s H vs Q E hr ⟨s, n, m, dx, wv, sl, em, fu, rfl, es, hw, h1, h2, hm, hd, ho, q⟩
    refine ⟨_, pss_cons (ps_set (i := 2) scLogMod.nd rfl (Or.inl rfl) (C8.pe_c c_modulus_of hr (by decide) rfl (pa_cons (pv 0) (pa_cons (pv 1) pa_nil))))
      (pss_cons (ps_if (PW.pt (pw_or (pt_cmpR op_ne (pe_p pWhen T.clSch (pv 0) hr (by decide) rfl) pe_str (nomark _)) (pw_or (pt_cmpR op_ne (pe_op op_mod (pv 2) (pv 1)) pe_int (nomark _))
        (pw_or1 (pt_val (C8.pe_c c_has_outside hr (by decide) rfl (pa_cons (pe_p pSlot T.clSch (pv 0) hr (by decide) rfl) (pa_cons (pv 1) (pa_cons (pv 2) pa_nil)))))))))
        (pss_one ps_never) pss_nil)
      (pss_one (ps_ret (pv 2)))), ?_⟩
    refine ⟨_, rfl, _, rfl, s, n, m, dx, wv, sl, em, fu, _, rfl, es, hw, h1, h2, hm, ?_⟩
    refine ⟨_, rfl, s, dx, _, rfl, es, s, dx, wv, sl, em, fu, _, rfl, es, rfl, _, rfl, iteNF rfl ?_⟩
    refine ⟨_, rfl, _, rfl, _, _, rfl, rfl, (by show (0 : Int) < n; omega), rfl, _, rfl, iteNF (by show V.int (m % n) = V.int 0; rw [hd]) ?_⟩
    refine ⟨_, rfl, s, dx, _, rfl, es, s, dx, wv, sl, em, fu, _, rfl, es, _, rfl, _, rfl, sl, n, m, rfl, _, rfl, iteFd ?_ ?_⟩
    · rintro ⟨a, b⟩
      have := ho a
      omega
    · exact ⟨_, rfl, q⟩
end
end Rg
namespace Rg
open PySem L2 RgX
abbrev sFormI : Stmt := inClass (top 28) 0
abbrev sSchI : Stmt := inClass (top 38) 0
abbrev sSWrap : Stmt := inClass (top 38) 2
abbrev sSWhen : Stmt := inClass (top 38) 10
abbrev sChange : Stmt := inClass (top 38) 11
abbrev sIsWord : Stmt := top 40
abbrev sIsPart : Stmt := top 41
abbrev sIsWrap : Stmt := top 42
abbrev sIsSlot : Stmt := top 43
abbrev sIsFull : Stmt := top 44
/-- all but the object at x is as it was -/
def Kp (x : Addr) (H H' : Hp) : Prop := ∀ b o, b ≠ x → H b = some o → H' b = some o
theorem Kp.refl (x : Addr) (H : Hp) : Kp x H H := fun _ _ _ h => h
theorem Kp.trans {x : Addr} {H H1 H2 : Hp} (a : Kp x H H1) (b : Kp x H1 H2) : Kp x H H2 := fun c o n h => b c o n (a c o n h)
theorem Kp.upd {x : Addr} {H : Hp} {o : HO} : Kp x H (L2.upd H x o) := fun b u n h => by rw [upd_ne n]; exact h
theorem Same.kp {x : Addr} {H H' : Hp} (s : Same H H') : Kp x H H' := fun b o _ h => s b o h
theorem same_upd {H : Hp} {p : Addr} {o : HO} (h : H p = none) : Same H (upd H p o) := fun b u e => by rw [upd_ne (ne_of_none e h)]; exact e
/-! ### what may stand in a scheme -/
def FormAt (K : PySem.W.Frag) (H : Hp) (a : Addr) (sl ba : Int) : Prop := ∃ dx, H a = some (.ins (cForm K) dx (fForm sl ba))
def FormOk (K : PySem.W.Frag) (H : Hp) (a : Addr) : Prop := ∃ sl ba, FormAt K H a sl ba ∧ 0 ≤ sl ∧ sl ≤ 4 ∧ -20 ≤ ba ∧ ba ≤ 20
def WrapOk (K : PySem.W.Frag) (H : Hp) (v : V) : Prop := (∃ w, v = .int w ∧ 1 ≤ w ∧ w ≤ 100) ∨ ∃ a, v = .ref a ∧ FormOk K H a
def SlotOk (z : Str) : Prop := z ∈ (["rest", "off", "mask"] : List Str)
def EmptyOk (z : Str) : Prop := z ∈ (["same", "count", "note"] : List Str)
def WhenOk (z : Str) : Prop := z ∈ (["refuse", "drop", "over"] : List Str)
def FullOk (K : PySem.W.Frag) (H : Hp) (t : Addr) : Prop := (∃ z, H t = some (.tup [.str z]) ∧ z ∈ (["next", "note"] : List Str)) ∨
  ∃ y z f, H t = some (.tup [.str y, .str z, .ref f]) ∧ y ∈ (["diff", "count"] : List Str) ∧ z ∈ (["=", ">="] : List Str) ∧ FormOk K H f
theorem FormOk.same {K : PySem.W.Frag} {H H' : Hp} {a : Addr} (s : Same H H') : FormOk K H a → FormOk K H' a := fun ⟨sl, ba, ⟨dx, e⟩, r⟩ => ⟨sl, ba, ⟨dx, s _ _ e⟩, r⟩
theorem WrapOk.same {K : PySem.W.Frag} {H H' : Hp} {v : V} (s : Same H H') : WrapOk K H v → WrapOk K H' v
  | .inl h => .inl h
  | .inr ⟨a, e, f⟩ => .inr ⟨a, e, f.same s⟩
theorem FullOk.same {K : PySem.W.Frag} {H H' : Hp} {t : Addr} (s : Same H H') : FullOk K H t → FullOk K H' t
  | .inl ⟨z, e, h⟩ => .inl ⟨z, s _ _ e, h⟩
  | .inr ⟨y, z, f, e, h1, h2, h3⟩ => .inr ⟨y, z, f, s _ _ e, h1, h2, h3.same s⟩
/-! ### promises -/
def spWord : Sp := fun vs H Q _ => ∃ (z : Str) (t : Addr) (ws : List Str), vs = [.str z, .ref t] ∧ H t = some (.tup (ws.map V.str)) ∧ z ∈ ws ∧ Q (.bl true) H
def spPart (K : PySem.W.Frag) : Sp := fun vs H Q _ => ∃ a, vs = [.ref a] ∧ FormOk K H a ∧ Q (.bl true) H
def spWrap (K : PySem.W.Frag) : Sp := fun vs H Q _ => ∃ v, vs = [v] ∧ WrapOk K H v ∧ Q (.bl true) H
def spSlot : Sp := fun vs H Q _ => ∃ z v, vs = [.str z, v] ∧ SlotOk z ∧ (z = "mask" → ∃ w, v = .int w) ∧ ∀ H', Same H H' → Q (.bl true) H'
def spFull (K : PySem.W.Frag) : Sp := fun vs H Q _ => ∃ t, vs = [.ref t] ∧ FullOk K H t ∧ ∀ H', Same H H' → Q (.bl true) H'
def spFormI (K : PySem.W.Frag) : Sp := fun vs H Q _ => ∃ x dx sl ba, vs = [.ref x, .int sl, .int ba] ∧ H x = some (.ins (cForm K) dx []) ∧ Q .non (upd H x (.ins (cForm K) dx (fForm sl ba)))
def spSchI (K : PySem.W.Frag) : Sp := fun vs H Q _ => ∃ x dx wv sl em fu wh, vs = [.ref x, wv, .str sl, .str em, .ref fu, .str wh] ∧ H x = some (.ins (cSch K) dx []) ∧ WrapOk K H wv ∧ SlotOk sl ∧ (sl = "mask" → ∃ w, wv = .int w) ∧
  EmptyOk em ∧ FullOk K H fu ∧ WhenOk wh ∧ ∀ H', Kp x H H' → SchAt K H' x dx wv sl (.str em) (.ref fu) wh → Q .non H'
def spSWrap (K : PySem.W.Frag) : Sp := fun vs H Q _ => ∃ s dx wv sl em fu wh v, vs = [.ref s, v] ∧ SchAt K H s dx wv sl em fu wh ∧ SlotOk sl ∧ WrapOk K H v ∧ (sl = "mask" → ∃ w, v = .int w) ∧ ∀ H', Kp s H H' → SchAt K H' s dx v sl em fu wh → Q .non H'
def spSWhen (K : PySem.W.Frag) : Sp := fun vs H Q _ => ∃ s dx wv sl em fu wh z, vs = [.ref s, .str z] ∧ SchAt K H s dx wv sl em fu wh ∧ WhenOk z ∧ ∀ H', Kp s H H' → SchAt K H' s dx wv sl em fu z → Q .non H'
def spChange (K : PySem.W.Frag) : Sp := fun vs H Q _ => ∃ s dx wv sl em fu wh, SchAt K H s dx wv sl em fu wh ∧
  ((∃ z, vs = [.ref s, .str "when", .str z] ∧ WhenOk z ∧ ∀ H', Kp s H H' → SchAt K H' s dx wv sl em fu z → Q .non H') ∨
   (∃ v, vs = [.ref s, .str "wrap", v] ∧ SlotOk sl ∧ WrapOk K H v ∧ (sl = "mask" → ∃ w, v = .int w) ∧ ∀ H', Kp s H H' → SchAt K H' s dx v sl em fu wh → Q .non H'))
/-! ### words of a list -/
theorem inV_mem {z : Str} {ws : List Str} (h : z ∈ ws) : inV (.str z) (ws.map V.str) = true := by
  unfold inV
  rw [List.any_eq_true]
  exact ⟨.str z, List.mem_map.mpr ⟨z, h, rfl⟩, by simp [eqV]⟩
theorem flat_strs (ws : List Str) : (ws.map V.str).all flatV = true := by
  rw [List.all_eq_true]
  intro v hv
  obtain ⟨z, _, rfl⟩ := List.mem_map.mp hv
  rfl
section
variable {P : Program} {w : World} {K : PySem.W.Frag} {mg : Str → Option Value} {base : Heap}
/-! ### is_word -/
theorem scWord : FnScope ["thing", "words"] ["thing", "words"] (defScope sIsWord) := ⟨rfl, rfl, rfl, by decide +kernel, rfl, by decide +kernel, by decide +kernel⟩
theorem ok_word (T : Tx K mg) (D : Dg K mg "is_word" sIsWord) : C8.Cal P w K mg base 1 "is_word" spWord [] := by
  refine cal_of D scWord (fun _ _ _ _ _ _ us hl => match us, hl with | [_, _], _ => rfl) ?_ ?_
  · rintro vs H Q E ⟨z, t, ws, rfl, _⟩; rfl
  · rintro f cdv A outer s H vs Q E hr ⟨z, t, ws, rfl, et, hz, q⟩
    refine ⟨_, pss_one (ps_ret (pe_and (pe_callB call_isi (by rfl) T.fIsi (by decide +kernel) (pa_cons (pv 0) (pa_cons (pe_bltn (v := .ty "str") rfl T.fStr (by decide +kernel) rfl) pa_nil))) (pe_one (pe_cmpR op_in_seq (pv 0) (pv 1) rfl)))), ?_⟩
    refine ⟨_, rfl, _, _, _, _, true, rfl, .ty "str", .base (.str z), kit_ty (by decide +kernel), true, rfl, iteT ?_⟩
    refine ⟨_, rfl, _, rfl, t, _, rfl, .inr (SqT.of et), rfl, flat_strs ws, q_bl q ?_⟩
    exact inV_mem hz
/-! ### is_part_form -/
theorem scPart : FnScope ["thing"] ["thing"] (defScope sIsPart) := ⟨rfl, rfl, rfl, by decide +kernel, rfl, by decide +kernel, by decide +kernel⟩
theorem ok_part (T : Tx K mg) (D : Dg K mg "is_part_form" sIsPart) : C8.Cal P w K mg base 1 "is_part_form" (spPart K) [] := by
  refine cal_of D scPart (fun _ _ _ _ _ _ us hl => match us, hl with | [_], _ => rfl) ?_ ?_
  · rintro vs H Q E ⟨a, rfl, _⟩; rfl
  · rintro f cdv A outer s H vs Q E hr ⟨a, rfl, ⟨sl, ba, ⟨dx, ea⟩, h0, h4, h5, h6⟩, q⟩
    refine ⟨_, pss_one (ps_ret (pe_and (pe_callB call_isi (by rfl) T.fIsi (by decide +kernel) (pa_cons (pv 0) (pa_cons (pe_glob (v := .ref _) rfl T.gForm rfl) pa_nil)))
      (pe_and (pe_chain op_le op_le pe_int (pe_fld (pv 0) rfl) pe_int) (pe_one (pe_chain op_le op_le (pe_un un_neg pe_int) (pe_fld (pv 0) rfl) pe_int))))), ?_⟩
    refine ⟨_, rfl, _, _, _, _, true, rfl, .own _, tyForm T ea, T.insForm.me, true, rfl, iteT ?_⟩
    refine ⟨_, rfl, a, _, dx, _, _, rfl, ea, T.clForm, T.naSlope, fForm_1 _ _, _, _, rfl, rfl, _, rfl, iteTd h0 ?_⟩
    refine ⟨_, _, rfl, rfl, _, rfl, iteTd h4 ?_⟩
    refine ⟨20, rfl, _, rfl, a, _, dx, _, _, rfl, ea, T.clForm, T.naBase, fForm_2 _ _, _, _, rfl, rfl, _, rfl, iteTd h5 ?_⟩
    exact ⟨_, _, rfl, rfl, q_bl q (decide_eq_true h6)⟩
/-! ### is_wrap -/
theorem scWrap : FnScope ["thing"] ["thing"] (defScope sIsWrap) := ⟨rfl, rfl, rfl, by decide +kernel, rfl, by decide +kernel, by decide +kernel⟩
theorem ok_wrap (T : Tx K mg) (D : Dg K mg "is_wrap" sIsWrap) (c_is_between : C8.Cal P w K mg base 2 "is_between" (spBetween K) []) (c_is_part_form : C8.Cal P w K mg base 1 "is_part_form" (spPart K) []) : C8.Cal P w K mg base 3 "is_wrap" (spWrap K) [] := by
  refine cal_of D scWrap (fun _ _ _ _ _ _ us hl => match us, hl with | [_], _ => rfl) ?_ ?_
  · rintro vs H Q E ⟨a, rfl, _⟩; rfl
  · rintro f cdv A outer s H vs Q E hr ⟨v, rfl, hv, q⟩
    refine ⟨_, pss_one (ps_ret (pe_or (C8.pe_c c_is_between hr (by decide) rfl (pa_cons (pv 0) (pa_cons pe_int (pa_cons (C8.pe_gc rfl T.kWIDEST) pa_nil)))) (pe_one (C8.pe_c c_is_part_form hr (by decide) rfl (pa_cons (pv 0) pa_nil))))), ?_⟩
    rcases hv with ⟨z, rfl, h1, h2⟩ | ⟨a, rfl, sl, ba, ⟨dx, ea⟩, r⟩
    · exact ⟨_, rfl, .inl ⟨z, 1, 100, rfl, _, rfl, iteTd ⟨h1, h2⟩ q⟩⟩
    · exact ⟨_, rfl, .inr ⟨a, dx, _, 1, 100, rfl, ea, _, rfl, iteF ⟨_, rfl, a, rfl, ⟨sl, ba, ⟨dx, ea⟩, r⟩, q⟩⟩⟩
/-! ### is_slot -/
theorem scSlot : FnScope ["thing", "wrap"] ["thing", "wrap"] (defScope sIsSlot) := ⟨rfl, rfl, rfl, by decide +kernel, rfl, by decide +kernel, by decide +kernel⟩
theorem ok_slot (D : Dg K mg "is_slot" sIsSlot) (c_is_word : C8.Cal P w K mg base 1 "is_word" spWord []) (c_is_whole : C8.Cal P w K mg base 1 "is_whole" (spWhole K) []) : C8.Cal P w K mg base 2 "is_slot" spSlot [] := by
  refine cal_of D scSlot (fun _ _ _ _ _ _ us hl => match us, hl with | [_, _], _ => rfl) ?_ ?_
  · rintro vs H Q E ⟨z, v, rfl, _⟩; rfl
  · rintro f cdv A outer s H vs Q E hr ⟨z, v, rfl, hz, hm, q⟩
    refine ⟨_, pss_one (ps_ret (pe_and (C8.pe_c c_is_word hr (by decide) rfl (pa_cons (pv 0) (pa_cons (pe_tup (pa_cons pe_str (pa_cons pe_str (pa_cons pe_str pa_nil)))) pa_nil)))
      (pe_one (pe_or (pe_cmpR op_ne (pv 0) pe_str (nomark _)) (pe_one (C8.pe_c c_is_whole hr (by decide) rfl (pa_cons (pv 1) pa_nil))))))), ?_⟩
    refine ⟨_, rfl, by decide, fun t ht => ⟨z, t, ["rest", "off", "mask"], rfl, upd_same, hz, true, rfl, iteT ?_⟩⟩
    refine ⟨_, rfl, rfl, _, rfl, ?_⟩
    by_cases e : z = "mask"
    · obtain ⟨i, rfl⟩ := hm e
      subst e
      exact iteNF rfl ⟨_, rfl, .inl ⟨i, rfl, q _ (same_upd ht)⟩⟩
    · have e2 : (!decide (V.str z = V.str "mask")) = true := by
        rw [decide_eq_false (fun y => e (V.str.inj y))] <;> rfl
      exact ite_of e2 (iteT (q _ (same_upd ht)))
/-! ### is_full_rule -/
theorem scFull : FnScope ["thing"] ["thing"] (defScope sIsFull) := ⟨rfl, rfl, rfl, by decide +kernel, rfl, by decide +kernel, by decide +kernel⟩
theorem ok_full (T : Tx K mg) (D : Dg K mg "is_full_rule" sIsFull) (c_is_word : C8.Cal P w K mg base 1 "is_word" spWord []) (c_is_part_form : C8.Cal P w K mg base 1 "is_part_form" (spPart K) []) : C8.Cal P w K mg base 2 "is_full_rule" (spFull K) [] := by
  refine cal_of D scFull (fun _ _ _ _ _ _ us hl => match us, hl with | [_], _ => rfl) ?_ ?_
  · rintro vs H Q E ⟨t, rfl, _⟩; rfl
  · rintro f cdv A outer s H vs Q E hr ⟨t, rfl, ht, q⟩
    refine ⟨_, pss_cons (ps_if (PW.pt (pw_or (pt_not (pt_val (pe_callB call_isi (by rfl) T.fIsi (by decide +kernel) (pa_cons (pv 0) (pa_cons (pe_bltn (v := .ty "tuple") rfl T.fTup (by decide +kernel) rfl) pa_nil)))))
        (pw_or1 (pt_cmpR op_notIn_seq (pe_callB call_len (by rfl) T.fLen PySem.boot_len (pa_cons (pv 0) pa_nil)) (pe_tup (pa_cons pe_int (pa_cons pe_int pa_nil))) rfl)))) (pss_one (ps_ret pe_bl)) pss_nil)
      (pss_cons (ps_if (pt_cmpR op_eq (pe_callB call_len (by rfl) T.fLen PySem.boot_len (pa_cons (pv 0) pa_nil)) pe_int (nomark _))
        (pss_one (ps_ret (C8.pe_c c_is_word hr (by decide) rfl (pa_cons (pe_ix ix_tup (pv 0) pe_int (fun _ _ => rfl)) (pa_cons (pe_tup (pa_cons pe_str (pa_cons pe_str pa_nil))) pa_nil))))) pss_nil)
      (pss_one (ps_ret (pe_and (C8.pe_c c_is_word hr (by decide) rfl (pa_cons (pe_ix ix_tup (pv 0) pe_int (fun _ _ => rfl)) (pa_cons (pe_tup (pa_cons pe_str (pa_cons pe_str pa_nil))) pa_nil)))
        (pe_and (C8.pe_c c_is_word hr (by decide) rfl (pa_cons (pe_ix ix_tup (pv 0) pe_int (fun _ _ => rfl)) (pa_cons (pe_tup (pa_cons pe_str (pa_cons pe_str pa_nil))) pa_nil)))
        (pe_one (C8.pe_c c_is_part_form hr (by decide) rfl (pa_cons (pe_ix ix_tup (pv 0) pe_int (fun _ _ => rfl)) pa_nil)))))))), ?_⟩
    rcases ht with ⟨z, et, hz⟩ | ⟨y, z, g, et, hy, hz, hg⟩
    · refine ⟨_, rfl, _, _, _, _, true, rfl, .ty "tuple", .base (.tup et), kit_ty (by decide +kernel), true, rfl, iteF ?_⟩
      refine ⟨_, rfl, _, 1, rfl, .inr ⟨_, SqT.of et, rfl⟩, by decide, fun u hu => ?_⟩
      have s1 : Same H (upd H u (.tup [.int 1, .int 3])) := same_upd hu
      refine ⟨u, _, rfl, .inr (SqT.of upd_same), rfl, rfl, _, rfl, iteF ?_⟩
      refine ⟨_, rfl, _, 1, rfl, .inr ⟨_, SqT.of (s1 _ _ et), rfl⟩, rfl, _, rfl, iteTd rfl ?_⟩
      refine ⟨_, rfl, t, _, 0, .str z, rfl, rfl, SqT.of (s1 _ _ et), rfl, by decide, fun v hv => ⟨z, v, ["next", "note"], rfl, upd_same, hz, ?_⟩⟩
      exact q _ (s1.trans (same_upd hv))
    · refine ⟨_, rfl, _, _, _, _, true, rfl, .ty "tuple", .base (.tup et), kit_ty (by decide +kernel), true, rfl, iteF ?_⟩
      refine ⟨_, rfl, _, 3, rfl, .inr ⟨_, SqT.of et, rfl⟩, by decide, fun u hu => ?_⟩
      have s1 : Same H (upd H u (.tup [.int 1, .int 3])) := same_upd hu
      refine ⟨u, _, rfl, .inr (SqT.of upd_same), rfl, rfl, _, rfl, iteF ?_⟩
      refine ⟨_, rfl, _, 3, rfl, .inr ⟨_, SqT.of (s1 _ _ et), rfl⟩, rfl, _, rfl, iteFd (by decide) ?_⟩
      refine ⟨_, rfl, t, _, 0, .str y, rfl, rfl, SqT.of (s1 _ _ et), rfl, by decide, fun v hv => ⟨y, v, ["diff", "count"], rfl, upd_same, hy, true, rfl, iteT ?_⟩⟩
      have s2 := s1.trans (same_upd (o := .tup [.str "diff", .str "count"]) hv)
      refine ⟨_, rfl, t, _, 1, .str z, rfl, rfl, SqT.of (s2 _ _ et), rfl, by decide, fun x hx => ⟨z, x, ["=", ">="], rfl, upd_same, hz, true, rfl, iteT ?_⟩⟩
      have s3 := s2.trans (same_upd (o := .tup [.str "=", .str ">="]) hx)
      exact ⟨_, rfl, t, _, 2, .ref g, rfl, rfl, SqT.of (s3 _ _ et), rfl, g, rfl, hg.same s3, q _ s3⟩
end
end Rg
namespace Rg
open PySem L2 RgX
theorem lenP {f : Str} {v : V} {fs : List (Str × V)} {n : Nat} (h : fs.length ≤ n) : (putF f v fs).length ≤ n + 1 := Nat.le_trans (length_putF f v fs) (Nat.succ_le_succ h)
theorem lt1000 {n m : Nat} (h : n ≤ m) (hm : m < 1000) : n < 1000 := Nat.lt_of_le_of_lt h hm
/-! ### classes made -/
/-- a class that is made by its name, the def of its __init__ -/
structure DMk (K : PySem.W.Frag) (C : Addr) (qual : Str) (st : Stmt) (kws : List (Str × V)) : Prop where
  ex : ∃ f fd, Mk K C f ∧ FnQ K "__init__" qual st kws f fd
/-- .. by keywords -/
structure MakK (P : Program) (w : World) (K : PySem.W.Frag) (mg : Str → Option Value) (base : Heap) (CX : CXT) (k : Nat) (x : Str) (C : Addr) (sp : Sp) (n : Nat) (ks : List Str) (gV : List V → List V → List V) : Prop where
  ex : ∃ (f : Addr) (fd : FuncData) (ps : List Str) (g : List Value → List Value → List Value), Mk K C f ∧ FnOk P w K mg base CX k f fd ps sp ∧ mg x = some (.ref C) ∧ KBn K fd ps (n + 1) ks g gV
section
variable {X : Cx} {CX : CXT} {k j n : Nat} {C : Addr} {x : Str} {sp : Sp} {ks : List Str} {gV : List V → List V → List V} {p pos : Pos} {e : Expr} {es : List Expr} {kws : List Keyword} {t tk : TA}
theorem pe_mkK0 (c : MakK X.prog X.w X.K X.mg X.base CX k x C sp 0 ks gV) (hr : Room j X.A) (hk : k + 1 ≤ j) (hg : Gl X x) (hx : Passes CX X E0) (hkw : PK X kws tk)
    (hall : (backToKw pos (keywordEach kws X.env)).all (·.1.isSome) = true := by rfl) (hks : (backToKw pos (keywordEach kws X.env)).filterMap (·.1) = ks := by rfl) (hdb : (x == ("__debug__" : Str)) = false := by decide)
    (hpl : ((backTo pos (starEach [] X.env)).any (·.1) || (backToKw pos (keywordEach kws X.env)).any (·.1.isNone)) = false := by rfl) : PE X (.Call (.Name x p) [] kws pos) (tMakeK C 0 ks.length sp gV E0 tNil tk) := by
  obtain ⟨f, fd, ps, g, M, F, hm, hb⟩ := c.ex
  exact pe_makeK0 M F (hr.mono hk) hg hm hb hx hkw hall hks hdb hpl
theorem pe_mkK (c : MakK X.prog X.w X.K X.mg X.base CX k x C sp n ks gV) (hr : Room j X.A) (hk : k + 1 ≤ j) (hg : Gl X x) (hx : Passes CX X E0) (ha : PA X (e :: es) t) (hkw : PK X kws tk)
    (hall : (backToKw pos (keywordEach kws X.env)).all (·.1.isSome) = true := by rfl) (hks : (backToKw pos (keywordEach kws X.env)).filterMap (·.1) = ks := by rfl) (hdb : (x == ("__debug__" : Str)) = false := by decide)
    (he : starEach (e :: es) X.env = (false, eval e X.env) :: starEach es X.env := by rfl) (hpl : ((backTo pos (starEach (e :: es) X.env)).any (·.1) || (backToKw pos (keywordEach kws X.env)).any (·.1.isNone)) = false := by rfl) :
    PE X (.Call (.Name x p) (e :: es) kws pos) (tMakeK C n ks.length sp gV E0 t tk) := by
  obtain ⟨f, fd, ps, g, M, F, hm, hb⟩ := c.ex
  exact pe_makeK M F (hr.mono hk) hg hm hb hx ha hkw hall hks hdb he hpl
theorem pe_mkS {E : L2.St → XK} (c : MakK X.prog X.w X.K X.mg X.base CX k x C sp n ks gV) (hr : Room j X.A) (hk : k + 1 ≤ j) (hg : Gl X x) (hx : ∀ σ, PassesAt CX X σ (E σ)) (ha : PA X (e :: es) t) (hkw : PK X kws tk)
    (hall : (backToKw pos (keywordEach kws X.env)).all (·.1.isSome) = true := by rfl) (hks : (backToKw pos (keywordEach kws X.env)).filterMap (·.1) = ks := by rfl) (hdb : (x == ("__debug__" : Str)) = false := by decide)
    (he : starEach (e :: es) X.env = (false, eval e X.env) :: starEach es X.env := by rfl) (hpl : ((backTo pos (starEach (e :: es) X.env)).any (·.1) || (backToKw pos (keywordEach kws X.env)).any (·.1.isNone)) = false := by rfl) :
    PE X (.Call (.Name x p) (e :: es) kws pos) (tMakeS C n ks.length sp gV E t tk) := by
  obtain ⟨f, fd, ps, g, M, F, hm, hb⟩ := c.ex
  exact pe_makeS M F (hr.mono hk) hg hm hb hx ha hkw hall hks hdb he hpl
end
section
variable {P : Program} {w : World} {K : PySem.W.Frag} {mg : Str → Option Value} {base : Heap}
/-! ### Form -/
theorem scFormI : FnScope ["self", "slope", "base"] ["self", "slope", "base"] (defScope sFormI) := ⟨rfl, rfl, rfl, by decide +kernel, rfl, by decide +kernel, by decide +kernel⟩
theorem ok_form (T : Tx K mg) (D : DMk K (cForm K) "Form.__init__" sFormI []) (c_is_whole : C8.Cal P w K mg base 1 "is_whole" (spWhole K) []) : C8.Mak P w K mg base 2 "Form" (cForm K) (spFormI K) [] := by
  obtain ⟨f, fd, M, F⟩ := D.ex
  refine ⟨f, fd, ["self", "slope", "base"], [], M, okB F scFormI ?_ ?_, T.gForm, F.bindsN (fun _ _ _ _ _ _ us hl => match us, hl with | [_, _, _], _ => rfl), .nil⟩
  · rintro vs H Q E ⟨x, dx, sl, ba, rfl, _⟩; rfl
  · rintro f cdv A outer s H vs Q E hr ⟨x, dx, sl, ba, rfl, ex, q⟩
    refine ⟨_, pss_cons (ps_if (PW.pt (pw_or (pt_not (pt_val (C8.pe_c c_is_whole hr (by decide) rfl (pa_cons (pv 1) pa_nil)))) (pw_or1 (pt_not (pt_val (C8.pe_c c_is_whole hr (by decide) rfl (pa_cons (pv 2) pa_nil))))))) (pss_one ps_never) pss_nil)
      (pss_cons (ps_fld (pv 0) (pv 1) rfl) (pss_one (ps_fld (pv 0) (pv 2) rfl))), ?_⟩
    refine ⟨_, rfl, .inl ⟨sl, rfl, true, rfl, iteF ⟨_, rfl, .inl ⟨ba, rfl, true, rfl, iteF ?_⟩⟩⟩⟩
    refine ⟨_, rfl, _, rfl, x, _, dx, _, rfl, ex, T.clForm, T.naSlope, by decide, ?_⟩
    refine ⟨_, rfl, _, rfl, x, _, dx, _, rfl, upd_same, T.clForm, T.naBase, lt1000 (lenP (Nat.le_refl 0)) (by decide), ?_⟩
    have e : upd (upd H x (HO.ins (cForm K) dx (putF "slope" (V.int sl) []))) x (HO.ins (cForm K) dx (putF "base" (V.int ba) (putF "slope" (V.int sl) []))) = upd H x (HO.ins (cForm K) dx (fForm sl ba)) := by rw [upd_upd, fForm_mk]
    rw [← e] at q
    exact q
/-! ### Scheme -/
theorem scSchI : FnScope ["self", "wrap", "slot", "empty", "full", "when", "truths"] ["self", "wrap", "slot", "empty", "full", "when"] (defScope sSchI) := ⟨rfl, rfl, rfl, by decide +kernel, rfl, by decide +kernel, by decide +kernel⟩
theorem ok_sch (T : Tx K mg) (D : DMk K (cSch K) "Scheme.__init__" sSchI [("when", .str "refuse")]) (c_is_wrap : C8.Cal P w K mg base 3 "is_wrap" (spWrap K) []) (c_is_slot : C8.Cal P w K mg base 2 "is_slot" spSlot [])
    (c_is_word : C8.Cal P w K mg base 1 "is_word" spWord []) (c_is_full_rule : C8.Cal P w K mg base 2 "is_full_rule" (spFull K) []) :
    MakK P w K mg base CX0 4 "Scheme" (cSch K) (spSchI K) 0 ["wrap", "slot", "empty", "full", "when"] (fun vs zs => vs ++ zs) := by
  obtain ⟨f, fd, M, F⟩ := D.ex
  obtain ⟨mv, hb⟩ := FunD.kbinds0 (ps := ["self", "wrap", "slot", "empty", "full", "when"]) F 1 ["wrap", "slot", "empty", "full", "when"] [] (fun us _ ws => us ++ ws) (by simp) (by simp) (fun r1 _ r3 => r1.append r3)
    (fun D doc pm an cdv ct us mv ws l1 l2 l3 => match us, ws, l1, l3 with | [_], [_, _, _, _, _], _, _ => rfl)
  refine ⟨f, fd, ["self", "wrap", "slot", "empty", "full", "when"], _, M, okB F scSchI ?_ ?_, T.gSch, hb⟩
  · rintro vs H Q E ⟨x, dx, wv, sl, em, fu, wh, rfl, _⟩; rfl
  · rintro f cdv A outer s H vs Q E hr ⟨x, dx, wv, sl, em, fu, wh, rfl, ex, hw, hsl, hmask, hem, hfu, hwh, q⟩
    refine ⟨_, pss_cons (ps_set (i := 6) scSchI.nd rfl (Or.inl rfl) (pe_lst (pa_cons (C8.pe_c c_is_wrap hr (by decide) rfl (pa_cons (pv 1) pa_nil)) (pa_cons (C8.pe_c c_is_slot hr (by decide) rfl (pa_cons (pv 2) (pa_cons (pv 1) pa_nil)))
        (pa_cons (C8.pe_c c_is_word hr (by decide) rfl (pa_cons (pv 3) (pa_cons (pe_tup (pa_cons pe_str (pa_cons pe_str (pa_cons pe_str pa_nil)))) pa_nil))) (pa_cons (C8.pe_c c_is_full_rule hr (by decide) rfl (pa_cons (pv 4) pa_nil)) pa_nil))))))
      (pss_cons (ps_expr (pe_bm PySem.F.plainAttrs_list PySem.F.slot_list_append PySem.F.type_list_append mt_append (pv 6) (pa_cons (C8.pe_c c_is_word hr (by decide) rfl (pa_cons (pv 5) (pa_cons (pe_tup (pa_cons pe_str (pa_cons pe_str (pa_cons pe_str pa_nil)))) pa_nil))) pa_nil)))
      (pss_cons (ps_if (pt_cmpR op_in_seq pe_bl (pv 6) rfl) (pss_one ps_never) pss_nil)
      (pss_cons (ps_fld (pv 0) (pv 1) rfl) (pss_cons (ps_fld (pv 0) (pv 2) rfl) (pss_cons (ps_fld (pv 0) (pv 3) rfl) (pss_cons (ps_fld (pv 0) (pv 4) rfl) (pss_one (ps_fld (pv 0) (pv 5) rfl)))))))), ?_⟩
    refine ⟨_, rfl, wv, rfl, hw, _, rfl, _, rfl, sl, wv, rfl, hsl, hmask, fun H1 s1 => ?_⟩
    refine ⟨_, rfl, by decide, fun t ht => ⟨em, t, ["same", "count", "note"], rfl, upd_same, hem, ?_⟩⟩
    have s2 := s1.trans (same_upd (o := .tup [.str "same", .str "count", .str "note"]) ht)
    refine ⟨_, rfl, fu, rfl, hfu.same s2, fun H3 s3' => ?_⟩
    have s3 := s2.trans s3'
    refine ⟨by decide, fun p hp => ?_⟩
    have s4 := s3.trans (same_upd (o := .lst [.bl true, .bl true, .bl true, .bl true]) hp)
    refine ⟨_, rfl, .inl ⟨rfl, _, SqL.of upd_same⟩, _, rfl, by decide, fun u hu => ⟨wh, u, ["refuse", "drop", "over"], rfl, upd_same, hwh, ?_⟩⟩
    have s5 := s4.trans (same_upd (o := .tup [.str "refuse", .str "drop", .str "over"]) hu)
    have npu : p ≠ u := fun z => by rw [← z, upd_same] at hu; cases hu
    refine ⟨p, _, _, rfl, rfl, (by rw [upd_ne npu]; exact upd_same), by decide, ?_⟩
    have hxp : x ≠ p := fun z => by
      have := s3 _ _ ex
      rw [z, hp] at this; cases this
    have s6 : ∀ b o, b ≠ p → H b = some o → (upd (upd (upd H3 p (.lst [.bl true, .bl true, .bl true, .bl true])) u (.tup [.str "refuse", .str "drop", .str "over"])) p (.lst ([.bl true, .bl true, .bl true, .bl true] ++ [.bl true]))) b = some o := fun b o n h => by
      rw [upd_ne n]; exact s5 b o h
    refine ⟨_, rfl, p, _, rfl, .inl (SqL.of upd_same), rfl, rfl, _, rfl, iteF ?_⟩
    refine ⟨_, rfl, _, rfl, x, _, dx, _, rfl, s6 _ _ hxp ex, T.clSch, T.naWrap, by decide, ?_⟩
    refine ⟨_, rfl, _, rfl, x, _, dx, _, rfl, upd_same, T.clSch, T.naSlot, lt1000 (lenP (Nat.le_refl 0)) (by decide), ?_⟩
    refine ⟨_, rfl, _, rfl, x, _, dx, _, rfl, upd_same, T.clSch, T.naEmpty, lt1000 (lenP (lenP (Nat.le_refl 0))) (by decide), ?_⟩
    refine ⟨_, rfl, _, rfl, x, _, dx, _, rfl, upd_same, T.clSch, T.naFull, lt1000 (lenP (lenP (lenP (Nat.le_refl 0)))) (by decide), ?_⟩
    refine ⟨_, rfl, _, rfl, x, _, dx, _, rfl, upd_same, T.clSch, T.naWhen, lt1000 (lenP (lenP (lenP (lenP (Nat.le_refl 0))))) (by decide), ?_⟩
    refine q _ (fun b o n h => ?_) (upd_same.trans (congrArg (fun l => some (HO.ins (cSch K) dx l)) (fSch_mk wv sl (.str em) (.ref fu) wh)))
    rw [upd_ne n, upd_ne n, upd_ne n, upd_ne n, upd_ne n]
    by_cases hb : b = p
    · have := s3 _ _ h
      rw [hb, hp] at this; cases this
    · exact s6 b o hb h
/-! ### the setters -/
theorem scSWrap : FnScope ["self", "wrap"] ["self", "wrap"] (defScope sSWrap) := ⟨rfl, rfl, rfl, by decide +kernel, rfl, by decide +kernel, by decide +kernel⟩
theorem ok_swrap (T : Tx K mg) (D : DSt K (cSch K) "wrap" "Scheme.wrap" sSWrap) (c_is_wrap : C8.Cal P w K mg base 3 "is_wrap" (spWrap K) []) (c_is_slot : C8.Cal P w K mg base 2 "is_slot" spSlot []) : Stp P w K mg base 4 (cSch K) "wrap" (spSWrap K) := by
  refine stp_of D scSWrap (fun _ _ _ _ _ _ us hl => match us, hl with | [_, _], _ => rfl) ?_ ?_
  · rintro vs H Q E ⟨s, dx, wv, sl, em, fu, wh, v, rfl, _⟩; rfl
  · rintro f cdv A outer st H vs Q E hr ⟨s, dx, wv, sl, em, fu, wh, v, rfl, es, hsl, hv, hmask, q⟩
    refine ⟨_, pss_cons (ps_if (PW.pt (pw_or (pt_not (pt_val (C8.pe_c c_is_wrap hr (by decide) rfl (pa_cons (pv 1) pa_nil)))) (pw_or1 (pt_not (pt_val (C8.pe_c c_is_slot hr (by decide) rfl (pa_cons (pe_fld (pv 0) rfl) (pa_cons (pv 1) pa_nil)))))))) (pss_one ps_never) pss_nil)
      (pss_one (ps_fld (pv 0) (pv 1) rfl)), ?_⟩
    refine ⟨_, rfl, v, rfl, hv, true, rfl, iteF ?_⟩
    refine ⟨_, rfl, s, _, dx, _, _, rfl, es, T.clSch, T.naSlot, fSch_2 .., _, rfl, sl, v, rfl, hsl, hmask, fun H1 s1 => ⟨true, rfl, iteF ?_⟩⟩
    refine ⟨_, rfl, _, rfl, s, _, dx, _, rfl, s1 _ _ es, T.clSch, T.naWrap, (by show 5 < 1000; decide), ?_⟩
    exact q _ ((Rg.Same.kp s1).trans Kp.upd) (upd_same.trans (congrArg (fun l => some (HO.ins (cSch K) dx l)) (fSch_wrap wv sl em fu wh v)))
theorem scSWhen : FnScope ["self", "when"] ["self", "when"] (defScope sSWhen) := ⟨rfl, rfl, rfl, by decide +kernel, rfl, by decide +kernel, by decide +kernel⟩
theorem ok_swhen (T : Tx K mg) (D : DSt K (cSch K) "when" "Scheme.when" sSWhen) (c_is_word : C8.Cal P w K mg base 1 "is_word" spWord []) : Stp P w K mg base 2 (cSch K) "when" (spSWhen K) := by
  refine stp_of D scSWhen (fun _ _ _ _ _ _ us hl => match us, hl with | [_, _], _ => rfl) ?_ ?_
  · rintro vs H Q E ⟨s, dx, wv, sl, em, fu, wh, v, rfl, _⟩; rfl
  · rintro f cdv A outer st H vs Q E hr ⟨s, dx, wv, sl, em, fu, wh, z, rfl, es, hz, q⟩
    refine ⟨_, pss_cons (ps_if (pt_not (pt_val (C8.pe_c c_is_word hr (by decide) rfl (pa_cons (pv 1) (pa_cons (pe_tup (pa_cons pe_str (pa_cons pe_str (pa_cons pe_str pa_nil)))) pa_nil))))) (pss_one ps_never) pss_nil)
      (pss_one (ps_fld (pv 0) (pv 1) rfl)), ?_⟩
    refine ⟨_, rfl, by decide, fun u hu => ⟨z, u, ["refuse", "drop", "over"], rfl, upd_same, hz, true, rfl, iteF ?_⟩⟩
    have s1 := same_upd (o := .tup [.str "refuse", .str "drop", .str "over"]) hu
    refine ⟨_, rfl, _, rfl, s, _, dx, _, rfl, s1 _ _ es, T.clSch, T.naWhen, (by show 5 < 1000; decide), ?_⟩
    exact q _ ((Rg.Same.kp s1).trans Kp.upd) (upd_same.trans (congrArg (fun l => some (HO.ins (cSch K) dx l)) (fSch_when wv sl em fu wh z)))
/-! ### change -/
theorem scChange : FnScope ["self", "part", "value"] ["self", "part", "value"] (defScope sChange) := ⟨rfl, rfl, rfl, by decide +kernel, rfl, by decide +kernel, by decide +kernel⟩
/-- a method as it stands behind the top -/
structure DMe (K : PySem.W.Frag) (C : Addr) (m qual : Str) (st : Stmt) : Prop where
  ex : ∃ f fd, Meth K C m f ∧ FnQ K m qual st [] f fd
theorem ok_change (T : Tx K mg) (D : DMe K (cSch K) "change" "Scheme.change" sChange) (tWrap : Stp P w K mg base 4 (cSch K) "wrap" (spSWrap K)) (tWhen : Stp P w K mg base 2 (cSch K) "when" (spSWhen K)) : C8.Met P w K mg base 7 (cSch K) "change" (spChange K) [] := by
  obtain ⟨f, fd, M, F⟩ := D.ex
  refine ⟨f, fd, ["self", "part", "value"], [], T.clSch, M, okB F scChange ?_ ?_, F.bindsN (fun _ _ _ _ _ _ us hl => match us, hl with | [_, _, _], _ => rfl), .nil⟩
  · rintro vs H Q E ⟨s, dx, wv, sl, em, fu, wh, es, ⟨z, rfl, _⟩ | ⟨v, rfl, _⟩⟩ <;> rfl
  · rintro f cdv A outer st H vs Q E hr ⟨s, dx, wv, sl, em, fu, wh, es, h⟩
    refine ⟨_, pss_one (ps_if (pt_cmpR op_eq (pv 1) pe_str (nomark _)) (pss_one (ps_st tWrap T.clSch (pv 0) (pv 2) hr (by decide) rfl))
      (pss_one (ps_if (pt_cmpR op_eq (pv 1) pe_str (nomark _)) (pss_one ps_never)
      (pss_one (ps_if (pt_cmpR op_eq (pv 1) pe_str (nomark _)) (pss_one ps_never)
      (pss_one (ps_if (pt_cmpR op_eq (pv 1) pe_str (nomark _)) (pss_one ps_never)
      (pss_one (ps_if (pt_cmpR op_eq (pv 1) pe_str (nomark _)) (pss_one (ps_st tWhen T.clSch (pv 0) (pv 2) hr (by decide) rfl)) (pss_one ps_never)))))))))), ?_⟩
    rcases h with ⟨z, rfl, hz, q⟩ | ⟨v, rfl, hsl, hv, hmask, q⟩
    · refine ⟨_, rfl, rfl, _, rfl, iteFd (by decide +kernel) ?_⟩
      refine ⟨_, rfl, rfl, _, rfl, iteFd (by decide +kernel) ?_⟩
      refine ⟨_, rfl, rfl, _, rfl, iteFd (by decide +kernel) ?_⟩
      refine ⟨_, rfl, rfl, _, rfl, iteFd (by decide +kernel) ?_⟩
      refine ⟨_, rfl, rfl, _, rfl, iteTd rfl ?_⟩
      exact ⟨_, rfl, _, rfl, s, dx, _, rfl, es, s, dx, wv, sl, em, fu, wh, z, rfl, es, hz, q⟩
    · refine ⟨_, rfl, rfl, _, rfl, iteTd rfl ?_⟩
      exact ⟨_, rfl, _, rfl, s, dx, _, rfl, es, s, dx, wv, sl, em, fu, wh, v, rfl, es, hsl, hv, hmask, q⟩
end
end Rg
namespace Rg
open PySem L2 RgX
abbrev sLogI : Stmt := inClass (top 25) 0
abbrev sPut : Stmt := inClass (top 25) 1
abbrev sIadd : Stmt := inClass (top 25) 3
abbrev sGetit : Stmt := inClass (top 25) 4
abbrev sRdI : Stmt := inClass (top 26) 0
abbrev sLag : Stmt := inClass (top 26) 1
abbrev sBel : Stmt := inClass (top 26) 2
abbrev sCall : Stmt := inClass (top 26) 3
/-! ### bundles: own += , own [], own call -/
structure Adt (P : Program) (w : World) (K : PySem.W.Frag) (mg : Str → Option Value) (base : Heap) (k : Nat) (C : Addr) (sp : Sp) : Prop where
  ex : ∃ (f : Addr) (fd : FuncData) (ps : List Str), AddTo K C f ∧ FnOk P w K mg base CX0 k f fd ps sp ∧ Binds K fd ps []
structure Git (P : Program) (w : World) (K : PySem.W.Frag) (mg : Str → Option Value) (base : Heap) (k : Nat) (C : Addr) (sp : Sp) : Prop where
  ex : ∃ (f : Addr) (fd : FuncData) (ps : List Str), GetIt K C f ∧ FnOk P w K mg base CX0 k f fd ps sp ∧ Binds K fd ps []
structure Clt (P : Program) (w : World) (K : PySem.W.Frag) (mg : Str → Option Value) (base : Heap) (k : Nat) (C : Addr) (sp : Sp) : Prop where
  ex : ∃ (f : Addr) (fd : FuncData) (ps : List Str), CallIt K C f ∧ FnOk P w K mg base CX0 k f fd ps sp ∧ Binds K fd ps []
structure DAd (K : PySem.W.Frag) (C : Addr) (qual : Str) (st : Stmt) : Prop where
  ex : ∃ f fd, AddTo K C f ∧ FnQ K "__iadd__" qual st [] f fd
structure DGi (K : PySem.W.Frag) (C : Addr) (qual : Str) (st : Stmt) : Prop where
  ex : ∃ f fd, GetIt K C f ∧ FnQ K "__getitem__" qual st [] f fd
structure DCl (K : PySem.W.Frag) (C : Addr) (qual : Str) (st : Stmt) : Prop where
  ex : ∃ f fd, CallIt K C f ∧ FnQ K "__call__" qual st [] f fd
section
variable {X : Cx} {k j : Nat} {C : Addr} {sp : Sp} {a b fe : Expr} {pos : Pos} {ta tb tf : TE}
theorem ip_ad (c : Adt X.prog X.w X.K X.mg X.base k C sp) (hr : Room j X.A) (hk : k ≤ j) : PIp X .Add (ipOwn C sp E0) := by
  obtain ⟨f, fd, ps, g, F, hb⟩ := c.ex
  exact ip_own g F (hr.mono hk) hb pass0
theorem pe_gi (c : Git X.prog X.w X.K X.mg X.base k C sp) (ha : PE X a ta) (hb : PE X b tb) (hr : Room j X.A) (hk : k + 1 ≤ j) (hs : ∀ o i, subscripted b true o i = runValue (.builtin "lifetime.subscript" ⟨[o, i], []⟩)) : PE X (.Subscript a b pos) (tIxO C sp E0 ta tb) := by
  obtain ⟨f, fd, ps, g, F, bb⟩ := c.ex
  exact pe_ixO ha hb g F (hr.mono hk) bb pass0 hs
theorem pe_cl (c : Clt X.prog X.w X.K X.mg X.base k C sp) (hf : PE X fe tf) (hr : Room j X.A) (hk : k ≤ j)
    (ht : eval (.Call fe [] [] pos) X.env = (do callWith pos (← eval fe X.env) [] (backTo pos (starEach [] X.env)) (backToKw pos (keywordEach [] X.env))) := by rfl) : PE X (.Call fe [] [] pos) (tCall00 C sp E0 tf) := by
  obtain ⟨f, fd, ps, g, F, bb⟩ := c.ex
  exact pe_call00 hf g F (hr.mono hk) bb pass0 ht
end
/-! ### what stands: a log, a reader -/
abbrev LogAt (K : PySem.W.Frag) (H : Hp) (g dx : Addr) (m n l : Int) : Prop := H g = some (.ins (cLog K) dx (fLog m n l))
abbrev RdAt (K : PySem.W.Frag) (H : Hp) (r dx g : Addr) (p : Int) : Prop := H r = some (.ins (cRd K) dx (fRd g p))
/-! ### promises -/
def spLogI (K : PySem.W.Frag) : Sp := fun vs H Q _ => ∃ x dxx s n m dx wv sl em fu, vs = [.ref x, .ref s, .int n] ∧ H x = some (.ins (cLog K) dxx []) ∧ SchAt K H s dx wv sl em fu "over" ∧ WrapAt K H wv n m ∧ 1 ≤ n ∧ n ≤ 1000000000000000000000000000000 ∧ 1 ≤ m ∧ m % n = 0 ∧ (sl = "off" → m ≤ 2 * n) ∧
  Q .non (upd H x (.ins (cLog K) dxx (fLog m n 0)))
def spPut (K : PySem.W.Frag) : Sp := fun vs H Q _ => ∃ g dx m n l, vs = [.ref g] ∧ LogAt K H g dx m n l ∧ Q (.int l) H
def spIadd (K : PySem.W.Frag) : Sp := fun vs H Q _ => ∃ g dx m n l z, vs = [.ref g, .int z] ∧ LogAt K H g dx m n l ∧ 0 ≤ z ∧ z ≤ 10000000000000000000000000000000000000000 ∧ Q (.ref g) (upd H g (.ins (cLog K) dx (fLog m n (l + z))))
def spGetit (K : PySem.W.Frag) : Sp := fun vs H Q _ => ∃ g dx m n l i r, vs = [.ref g, .int i] ∧ LogAt K H g dx m n l ∧ 0 ≤ i ∧ i < n ∧ (if l - (l - 1 - i) % n > 0 then l - (l - 1 - i) % n else 0) = r ∧ Q (.int r) H
def spRdI (K : PySem.W.Frag) : Sp := fun vs H Q E => ∃ x dxx g dx m n l b, vs = [.ref x, .ref g, .int b] ∧ H x = some (.ins (cRd K) dxx []) ∧ LogAt K H g dx m n l ∧
  ((0 ≤ b ∧ b ≤ l) → Q .non (upd H x (.ins (cRd K) dxx (fRd g (l - b))))) ∧ (¬ (0 ≤ b ∧ b ≤ l) → E (.ref (cNoLag K)) none H)
def spLag (K : PySem.W.Frag) : Sp := fun vs H Q _ => ∃ r dxr g dx m n l p, vs = [.ref r] ∧ RdAt K H r dxr g p ∧ LogAt K H g dx m n l ∧ Q (.int (l - p)) H
def spBel (K : PySem.W.Frag) : Sp := fun vs H Q _ => ∃ r dxr g dx m n l p, vs = [.ref r] ∧ RdAt K H r dxr g p ∧ LogAt K H g dx m n l ∧ 0 < m ∧ Q (.int ((l - p) % m)) H
/-- a call of a reader whose lag stays below the modulus -/
def spCall (K : PySem.W.Frag) : Sp := fun vs H Q _ => ∃ r dxr g dx m n l p, vs = [.ref r] ∧ RdAt K H r dxr g p ∧ LogAt K H g dx m n l ∧ 0 < m ∧ 0 < n ∧ m % n = 0 ∧ 0 ≤ p ∧ p ≤ l ∧ l - p < m ∧
  (l - p = 0 → Q .non H) ∧ (l - p ≠ 0 → ∀ (lost : Int) t H', lost = (if l - p - n > 0 then l - p - n else 0) → H' t = some (.tup [.int lost, .int (p + lost + 1)]) → RdAt K H' r dxr g (p + lost + 1) → Kp r H H' → Q (.ref t) H')
/-! ### the mathematics of a read -/
theorem read_val {l p lost m n : Int} (hm : 0 < m) (hn : 0 < n) (hd : m % n = 0) (hp : 0 ≤ p) (h0 : 0 ≤ lost) (h1 : lost < l - p) (h2 : l - p - lost ≤ n) :
    0 ≤ (p + lost) % m % n ∧ (p + lost) % m % n < n ∧ (if l - (l - 1 - (p + lost) % m % n) % n > 0 then l - (l - 1 - (p + lost) % m % n) % n else 0) = p + lost + 1 := by
  have dv : n ∣ m := Int.dvd_of_emod_eq_zero hd
  rw [Int.emod_emod_of_dvd _ dv]
  have b0 := Int.emod_nonneg (p + lost) (show n ≠ 0 by omega)
  have b1 := Int.emod_lt_of_pos (p + lost) hn
  have q := Int.emod_add_mul_ediv (p + lost) n
  have e : l - 1 - (p + lost) % n = (l - (p + lost + 1)) + n * ((p + lost) / n) := by omega
  have e2 : (l - 1 - (p + lost) % n) % n = l - (p + lost + 1) := by
    rw [e, Int.add_mul_emod_self_left]
    exact Int.emod_eq_of_lt (by omega) (by omega)
  refine ⟨b0, b1, ?_⟩
  rw [e2, if_pos (by omega)]
  omega
section
variable {P : Program} {w : World} {K : PySem.W.Frag} {mg : Str → Option Value} {base : Heap}
/-! ### Log -/
theorem scLogI : FnScope ["self", "scheme", "n"] ["self", "scheme", "n"] (defScope sLogI) := ⟨rfl, rfl, rfl, by decide +kernel, rfl, by decide +kernel, by decide +kernel⟩
theorem ok_log (T : Tx K mg) (D : DMk K (cLog K) "Log.__init__" sLogI []) (c_log_modulus : C8.Cal P w K mg base 5 "log_modulus" (spLogMod K) []) : C8.Mak P w K mg base 6 "Log" (cLog K) (spLogI K) [] := by
  obtain ⟨f, fd, M, F⟩ := D.ex
  refine ⟨f, fd, ["self", "scheme", "n"], [], M, okB F scLogI ?_ ?_, T.gLog, F.bindsN (fun _ _ _ _ _ _ us hl => match us, hl with | [_, _, _], _ => rfl), .nil⟩
  · rintro vs H Q E ⟨x, dxx, s, n, m, dx, wv, sl, em, fu, rfl, _⟩; rfl
  · rintro f cdv A outer s' H vs Q E hr ⟨x, dxx, s, n, m, dx, wv, sl, em, fu, rfl, ex, es, hw, h1, h2, hm, hd, ho, q⟩
    refine ⟨_, pss_cons (ps_fld (pv 0) (C8.pe_c c_log_modulus hr (by decide) rfl (pa_cons (pv 1) (pa_cons (pv 2) pa_nil))) rfl) (pss_cons (ps_fld (pv 0) (pv 2) rfl) (pss_one (ps_fld (pv 0) pe_int rfl))), ?_⟩
    refine ⟨_, rfl, _, rfl, s, n, m, dx, wv, sl, em, fu, rfl, es, hw, h1, h2, hm, hd, ho, ?_⟩
    refine ⟨_, rfl, x, _, dxx, _, rfl, ex, T.clLog, T.naMod, by decide, ?_⟩
    refine ⟨_, rfl, _, rfl, x, _, dxx, _, rfl, upd_same, T.clLog, T.naSize, lt1000 (lenP (Nat.le_refl 0)) (by decide), ?_⟩
    refine ⟨_, rfl, x, _, dxx, _, rfl, upd_same, T.clLog, T.naLaid, lt1000 (lenP (lenP (Nat.le_refl 0))) (by decide), ?_⟩
    have e : upd (upd (upd H x (HO.ins (cLog K) dxx (putF "modulus" (V.int m) []))) x (HO.ins (cLog K) dxx (putF "size" (V.int n) (putF "modulus" (V.int m) [])))) x (HO.ins (cLog K) dxx (putF "laid" (V.int 0) (putF "size" (V.int n) (putF "modulus" (V.int m) [])))) = upd H x (HO.ins (cLog K) dxx (fLog m n 0)) := by rw [upd_upd, upd_upd, fLog_mk]
    rw [← e] at q
    exact q
theorem scPut : FnScope ["self"] ["self"] (defScope sPut) := ⟨rfl, rfl, rfl, by decide +kernel, rfl, by decide +kernel, by decide +kernel⟩
theorem ok_put (T : Tx K mg) (D : DPr K (cLog K) "put_count" "Log.put_count" sPut) : Prp P w K mg base 1 (cLog K) "put_count" (spPut K) := by
  refine prp_of D scPut (fun _ _ _ _ _ _ us hl => match us, hl with | [_], _ => rfl) ?_ ?_
  · rintro vs H Q E ⟨g, dx, m, n, l, rfl, _⟩; rfl
  · rintro f cdv A outer s H vs Q E hr ⟨g, dx, m, n, l, rfl, eg, q⟩
    refine ⟨_, pss_one (ps_ret (pe_fld (pv 0) rfl)), ?_⟩
    exact ⟨_, rfl, g, _, dx, _, _, rfl, eg, T.clLog, T.naLaid, fLog_3 .., q⟩
theorem scIadd : FnScope ["self", "other"] ["self", "other"] (defScope sIadd) := ⟨rfl, rfl, rfl, by decide +kernel, rfl, by decide +kernel, by decide +kernel⟩
theorem ok_iadd (T : Tx K mg) (D : DAd K (cLog K) "Log.__iadd__" sIadd) (c_is_between : C8.Cal P w K mg base 2 "is_between" (spBetween K) []) : Adt P w K mg base 3 (cLog K) (spIadd K) := by
  obtain ⟨f, fd, g, F⟩ := D.ex
  refine ⟨f, fd, ["self", "other"], g, okB F scIadd ?_ ?_, F.bindsN (fun _ _ _ _ _ _ us hl => match us, hl with | [_, _], _ => rfl)⟩
  · rintro vs H Q E ⟨g, dx, m, n, l, z, rfl, _⟩; rfl
  · rintro f cdv A outer s H vs Q E hr ⟨g, dx, m, n, l, z, rfl, eg, h0, h1, q⟩
    refine ⟨_, pss_cons (ps_if (pt_not (pt_val (C8.pe_c c_is_between hr (by decide) rfl (pa_cons (pv 1) (pa_cons pe_int (pa_cons (C8.pe_gc rfl T.kFARTHEST) pa_nil)))))) (pss_one ps_never) pss_nil)
      (pss_cons (ps_fld (pv 0) (pe_op op_add (pe_fld (pv 0) rfl) (pv 1)) rfl) (pss_one (ps_ret (pv 0)))), ?_⟩
    refine ⟨_, rfl, .inl ⟨z, 0, _, rfl, _, rfl, iteNF ⟨h0, h1⟩ ?_⟩⟩
    refine ⟨_, rfl, g, _, dx, _, _, rfl, eg, T.clLog, T.naLaid, fLog_3 .., _, rfl, l, z, rfl, rfl, _, rfl, g, _, dx, _, rfl, eg, T.clLog, T.naLaid, (by show 3 < 1000; decide), ?_⟩
    refine ⟨_, rfl, ?_⟩
    rw [← fLog_laid m n l (l + z)] at q
    exact q
theorem scGetit : FnScope ["self", "at"] ["self", "at"] (defScope sGetit) := ⟨rfl, rfl, rfl, by decide +kernel, rfl, by decide +kernel, by decide +kernel⟩
theorem ok_getit (T : Tx K mg) (D : DGi K (cLog K) "Log.__getitem__" sGetit) (c_is_between : C8.Cal P w K mg base 2 "is_between" (spBetween K) []) : Git P w K mg base 3 (cLog K) (spGetit K) := by
  obtain ⟨f, fd, g, F⟩ := D.ex
  refine ⟨f, fd, ["self", "at"], g, okB F scGetit ?_ ?_, F.bindsN (fun _ _ _ _ _ _ us hl => match us, hl with | [_, _], _ => rfl)⟩
  · rintro vs H Q E ⟨g, dx, m, n, l, i, r, rfl, _⟩; rfl
  · rintro f cdv A outer s H vs Q E hr ⟨g, dx, m, n, l, i, r, rfl, eg, h0, h1, hv, q⟩
    refine ⟨_, pss_cons (ps_if (pt_not (pt_val (C8.pe_c c_is_between hr (by decide) rfl (pa_cons (pv 1) (pa_cons pe_int (pa_cons (pe_op op_sub (pe_fld (pv 0) rfl) pe_int) pa_nil)))))) (pss_one ps_never) pss_nil)
      (pss_one (ps_ret (pe_callB (call_max2 rfl) (by rfl) T.fMax (by decide +kernel) (pa_cons pe_int (pa_cons (pe_op op_sub (pe_fld (pv 0) rfl) (pe_op op_mod (pe_op op_sub (pe_op op_sub (pe_fld (pv 0) rfl) pe_int) (pv 1)) (pe_fld (pv 0) rfl))) pa_nil))))), ?_⟩
    refine ⟨_, rfl, _, rfl, g, _, dx, _, _, rfl, eg, T.clLog, T.naSize, fLog_2 .., n, 1, rfl, rfl, .inl ⟨i, 0, n - 1, rfl, _, rfl, iteNF ⟨h0, by omega⟩ ?_⟩⟩
    refine ⟨_, rfl, g, _, dx, _, _, rfl, eg, T.clLog, T.naLaid, fLog_3 .., _, rfl, g, _, dx, _, _, rfl, eg, T.clLog, T.naLaid, fLog_3 .., l, 1, rfl, rfl, _, rfl, l - 1, i, rfl, rfl, ?_⟩
    refine ⟨_, rfl, g, _, dx, _, _, rfl, eg, T.clLog, T.naSize, fLog_2 .., l - 1 - i, n, rfl, rfl, (by show (0 : Int) < n; omega), l, (l - 1 - i) % n, rfl, rfl, 0, l - (l - 1 - i) % n, rfl, ?_⟩
    rw [hv]
    exact q
/-! ### Reader -/
theorem scRdI : FnScope ["self", "log", "back"] ["self", "log", "back"] (defScope sRdI) := ⟨rfl, rfl, rfl, by decide +kernel, rfl, by decide +kernel, by decide +kernel⟩
theorem ok_rd (T : Tx K mg) (D : DMk K (cRd K) "Reader.__init__" sRdI [("back", .int 0)]) (c_is_between : C8.Cal P w K mg base 2 "is_between" (spBetween K) []) (pPut : Prp P w K mg base 1 (cLog K) "put_count" (spPut K)) :
    MakK P w K mg base (L2.CX P w) 3 "Reader" (cRd K) (spRdI K) 1 ["back"] (fun vs zs => vs ++ zs) := by
  obtain ⟨f, fd, M, F⟩ := D.ex
  obtain ⟨mv, hb⟩ := FunD.kbinds0 (ps := ["self", "log", "back"]) F 2 ["back"] [] (fun us _ ws => us ++ ws) (by simp) (by simp) (fun r1 _ r3 => r1.append r3)
    (fun D doc pm an cdv ct us mv ws l1 l2 l3 => match us, ws, l1, l3 with | [_, _], [_], _, _ => rfl)
  refine ⟨f, fd, ["self", "log", "back"], _, M, F.ok scRdI ?_ ?_, T.gRd, hb⟩
  · rintro vs H Q E ⟨x, dxx, g, dx, m, n, l, b, rfl, _⟩; rfl
  · rintro cdv A outer s H vs Q E hr ⟨x, dxx, g, dx, m, n, l, b, rfl, ex, eg, qy, qn⟩
    refine ⟨_, pss_cons (ps_if (pt_not (pt_val (C8.pe_c c_is_between hr (by decide) rfl (pa_cons (pv 2) (pa_cons pe_int (pa_cons (pe_p pPut T.clLog (pv 1) hr (by decide) rfl) pa_nil))))))
        (pss_one (ps_raise rfl (takes_of rfl rfl rfl rfl) (pmk_own PySem.F.excBase_ValueError T.exNoLag T.gNoLag T.kpNoLag (raises_own T.suNoLag T.tyNoLag) rfl))) pss_nil)
      (pss_cons (ps_fld (pv 0) (pv 1) rfl) (pss_one (ps_fld (pv 0) (pe_op op_sub (pe_p pPut T.clLog (pv 1) hr (by decide) rfl) (pv 2)) rfl))), ?_⟩
    refine ⟨_, rfl, _, rfl, g, dx, _, rfl, eg, g, dx, m, n, l, rfl, eg, .inl ⟨b, 0, l, rfl, _, rfl, ?_⟩⟩
    by_cases hb : 0 ≤ b ∧ b ≤ l
    · refine iteNF hb ?_
      refine ⟨_, rfl, _, rfl, x, _, dxx, _, rfl, ex, T.clRd, T.naSrc, by decide, ?_⟩
      have ngx : g ≠ x := ne_of eg ex (by intro z; injection z with _ _ e; exact absurd (show 3 = 0 from congrArg List.length e) (by decide))
      have eg2 : ∀ o, (upd H x o) g = some (.ins (cLog K) dx (fLog m n l)) := fun o => by rw [upd_ne ngx]; exact eg
      refine ⟨_, rfl, g, dx, _, rfl, eg2 _, g, dx, m, n, l, rfl, eg2 _, _, rfl, l, b, rfl, rfl, _, rfl, x, _, dxx, _, rfl, upd_same, T.clRd, T.naPas, lt1000 (lenP (Nat.le_refl 0)) (by decide), ?_⟩
      have e : upd (upd H x (HO.ins (cRd K) dxx (putF "source" (V.ref g) []))) x (HO.ins (cRd K) dxx (putF "passed" (V.int (l - b)) (putF "source" (V.ref g) []))) = upd H x (HO.ins (cRd K) dxx (fRd g (l - b))) := by rw [upd_upd, fRd_mk]
      have q := qy hb
      rw [← e] at q
      exact q
    · have e2 : (!decide (0 ≤ b ∧ b ≤ l)) = true := by
        rw [decide_eq_false hb] <;> rfl
      exact ite_of e2 (iteT (qn hb))
theorem scLag : FnScope ["self"] ["self"] (defScope sLag) := ⟨rfl, rfl, rfl, by decide +kernel, rfl, by decide +kernel, by decide +kernel⟩
theorem ok_lag (T : Tx K mg) (D : DPr K (cRd K) "lag" "Reader.lag" sLag) (pPut : Prp P w K mg base 1 (cLog K) "put_count" (spPut K)) : Prp P w K mg base 3 (cRd K) "lag" (spLag K) := by
  refine prp_of D scLag (fun _ _ _ _ _ _ us hl => match us, hl with | [_], _ => rfl) ?_ ?_
  · rintro vs H Q E ⟨r, dxr, g, dx, m, n, l, p, rfl, _⟩; rfl
  · rintro f cdv A outer s H vs Q E hr ⟨r, dxr, g, dx, m, n, l, p, rfl, er, eg, q⟩
    refine ⟨_, pss_one (ps_ret (pe_op op_sub (pe_p pPut T.clLog (pe_fld (pv 0) rfl) hr (by decide) rfl) (pe_fld (pv 0) rfl))), ?_⟩
    refine ⟨_, rfl, r, _, dxr, _, _, rfl, er, T.clRd, T.naSrc, fRd_1 .., g, dx, _, rfl, eg, g, dx, m, n, l, rfl, eg, ?_⟩
    exact ⟨_, rfl, r, _, dxr, _, _, rfl, er, T.clRd, T.naPas, fRd_2 .., l, p, rfl, rfl, q⟩
theorem scBel : FnScope ["self"] ["self"] (defScope sBel) := ⟨rfl, rfl, rfl, by decide +kernel, rfl, by decide +kernel, by decide +kernel⟩
theorem ok_bel (T : Tx K mg) (D : DPr K (cRd K) "believed" "Reader.believed" sBel) (pPut : Prp P w K mg base 1 (cLog K) "put_count" (spPut K)) : Prp P w K mg base 3 (cRd K) "believed" (spBel K) := by
  refine prp_of D scBel (fun _ _ _ _ _ _ us hl => match us, hl with | [_], _ => rfl) ?_ ?_
  · rintro vs H Q E ⟨r, dxr, g, dx, m, n, l, p, rfl, _⟩; rfl
  · rintro f cdv A outer s H vs Q E hr ⟨r, dxr, g, dx, m, n, l, p, rfl, er, eg, hm, q⟩
    refine ⟨_, pss_one (ps_ret (pe_op op_mod (pe_op op_sub (pe_p pPut T.clLog (pe_fld (pv 0) rfl) hr (by decide) rfl) (pe_fld (pv 0) rfl)) (pe_fld (pe_fld (pv 0) rfl) rfl))), ?_⟩
    refine ⟨_, rfl, r, _, dxr, _, _, rfl, er, T.clRd, T.naSrc, fRd_1 .., g, dx, _, rfl, eg, g, dx, m, n, l, rfl, eg, ?_⟩
    refine ⟨_, rfl, r, _, dxr, _, _, rfl, er, T.clRd, T.naPas, fRd_2 .., l, p, rfl, rfl, ?_⟩
    exact ⟨_, rfl, r, _, dxr, _, _, rfl, er, T.clRd, T.naSrc, fRd_1 .., g, _, dx, _, _, rfl, eg, T.clLog, T.naMod, fLog_1 .., l - p, m, rfl, rfl, hm, q⟩
theorem scCall : FnScope ["self", "believed", "lost", "counter"] ["self"] (defScope sCall) := ⟨rfl, rfl, rfl, by decide +kernel, rfl, by decide +kernel, by decide +kernel⟩
theorem ok_call (T : Tx K mg) (D : DCl K (cRd K) "Reader.__call__" sCall) (pBel : Prp P w K mg base 3 (cRd K) "believed" (spBel K)) (gi : Git P w K mg base 3 (cLog K) (spGetit K)) : Clt P w K mg base 5 (cRd K) (spCall K) := by
  obtain ⟨f, fd, g, F⟩ := D.ex
  refine ⟨f, fd, ["self"], g, okB F scCall ?_ ?_, F.bindsN (fun _ _ _ _ _ _ us hl => match us, hl with | [_], _ => rfl)⟩
  · rintro vs H Q E ⟨r, dxr, g, dx, m, n, l, p, rfl, _⟩; rfl
  · rintro f cdv A outer s H vs Q E hr ⟨r, dxr, g, dx, m, n, l, p, rfl, er, eg, hm, hn, hd, hp, hpl, hlm, q0, q1⟩
    refine ⟨_, pss_cons (ps_set (i := 1) scCall.nd rfl (Or.inl rfl) (pe_p pBel T.clRd (pv 0) hr (by decide) rfl))
      (pss_cons (ps_if (pt_cmpR op_eq (pv 1) pe_int (nomark _)) (pss_one (ps_ret pe_non)) pss_nil)
      (pss_cons (ps_set (i := 2) scCall.nd rfl (Or.inl rfl) (pe_callB (call_max2 rfl) (by rfl) T.fMax (by decide +kernel) (pa_cons pe_int (pa_cons (pe_op op_sub (pv 1) (pe_fld (pe_fld (pv 0) rfl) rfl)) pa_nil))))
      (pss_cons (ps_set (i := 3) scCall.nd rfl (Or.inl rfl) (pe_op op_mod (pe_op op_add (pe_fld (pv 0) rfl) (pv 2)) (pe_fld (pe_fld (pv 0) rfl) rfl)))
      (pss_cons (ps_fld (pv 0) (pe_op op_add (pe_op op_add (pe_fld (pv 0) rfl) (pv 2)) pe_int) rfl)
      (pss_one (ps_ret (pe_tup (pa_cons (pv 2) (pa_cons (pe_gi gi (pe_fld (pv 0) rfl) (pe_op op_mod (pv 3) (pe_fld (pe_fld (pv 0) rfl) rfl)) hr (by decide) (fun _ _ => rfl)) pa_nil))))))))), ?_⟩
    have eb : (l - p) % m = l - p := Int.emod_eq_of_lt (by omega) hlm
    refine ⟨_, rfl, r, dxr, _, rfl, er, r, dxr, g, dx, m, n, l, p, rfl, er, eg, hm, ?_⟩
    rw [eb]
    refine ⟨_, rfl, rfl, _, rfl, ?_⟩
    by_cases h0 : l - p = 0
    · rw [h0]
      exact iteTd rfl (q0 h0)
    · refine iteFd (fun z => h0 (V.int.inj z)) ?_
      have q2 := q1 h0
      refine ⟨_, rfl, _, rfl, r, _, dxr, _, _, rfl, er, T.clRd, T.naSrc, fRd_1 .., g, _, dx, _, _, rfl, eg, T.clLog, T.naSize, fLog_2 .., l - p, n, rfl, rfl, 0, l - p - n, rfl, ?_⟩
      generalize hlost : (if l - p - n > 0 then l - p - n else 0) = lost
      have b0 : 0 ≤ lost ∧ lost < l - p ∧ l - p - lost ≤ n := by
        rw [← hlost]; split <;> omega
      obtain ⟨v0, v1, v2⟩ := read_val hm hn hd hp b0.1 b0.2.1 b0.2.2
      refine ⟨_, rfl, r, _, dxr, _, _, rfl, er, T.clRd, T.naPas, fRd_2 .., _, rfl, p, lost, rfl, rfl, _, rfl, r, _, dxr, _, _, rfl, er, T.clRd, T.naSrc, fRd_1 .., g, _, dx, _, _, rfl, eg, T.clLog, T.naMod, fLog_1 .., p + lost, m, rfl, rfl, hm, ?_⟩
      refine ⟨_, rfl, r, _, dxr, _, _, rfl, er, T.clRd, T.naPas, fRd_2 .., _, rfl, p, lost, rfl, rfl, p + lost, 1, rfl, rfl, _, rfl, r, _, dxr, _, rfl, er, T.clRd, T.naPas, (by show 2 < 1000; decide), ?_⟩
      have ngr : g ≠ r := ne_of eg er (by intro z; injection z with _ _ e; exact absurd (show 3 = 2 from congrArg List.length e) (by decide))
      have er2 : (upd H r (.ins (cRd K) dxr (putF "passed" (.int (p + lost + 1)) (fRd g p)))) r = some (.ins (cRd K) dxr (fRd g (p + lost + 1))) := upd_same.trans (congrArg (fun z => some (HO.ins (cRd K) dxr z)) (fRd_pas g p (p + lost + 1)))
      have eg2 : (upd H r (.ins (cRd K) dxr (putF "passed" (.int (p + lost + 1)) (fRd g p)))) g = some (.ins (cLog K) dx (fLog m n l)) := by rw [upd_ne ngr]; exact eg
      refine ⟨_, rfl, _, rfl, r, _, dxr, _, _, rfl, er2, T.clRd, T.naSrc, fRd_1 .., _, rfl, _, rfl, r, _, dxr, _, _, rfl, er2, T.clRd, T.naSrc, fRd_1 .., g, _, dx, _, _, rfl, eg2, T.clLog, T.naSize, fLog_2 .., (p + lost) % m, n, rfl, rfl, hn, g, dx, _, rfl, eg2, ?_⟩
      refine ⟨g, dx, m, n, l, _, p + lost + 1, rfl, eg2, v0, v1, v2, (by show 2 ≤ sizeLine; decide), fun t ht => ?_⟩
      exact q2 lost t _ hlost.symm upd_same ((upd_ne (ne_of_none er2 ht)).trans er2) (Kp.upd.trans (Rg.Same.kp (same_upd ht)))
end
end Rg
namespace Rg
open PySem L2 RgX
abbrev sMixed : Stmt := top 50
abbrev sPool : Stmt := top 51
abbrev sDraw : Stmt := top 52
abbrev sWide : Stmt := top 53
abbrev sPower : Stmt := top 56
abbrev sStep : Stmt := top 57
/-! ### the pool of draws: a list of the cells and four ints -/
abbrev pl (c : Addr) (a b d e : Int) : HO := .lst [.ref c, .int a, .int b, .int d, .int e]
def PoolAt (H : Hp) (p c : Addr) (ns : List Int) : Prop := c ≠ p ∧ H c = some (.lst (ns.map V.int)) ∧ ∃ a b d e, 0 ≤ a ∧ H p = some (pl c a b d e)
theorem PoolAt.put {H : Hp} {p c : Addr} {ns : List Int} (h : PoolAt H p c ns) {a b d e : Int} (ha : 0 ≤ a) : PoolAt (upd H p (pl c a b d e)) p c ns :=
  ⟨h.1, by rw [upd_ne h.1]; exact h.2.1, a, b, d, e, ha, upd_same⟩
theorem PoolAt.same {H H' : Hp} {p c : Addr} {ns : List Int} (h : PoolAt H p c ns) (s : Same H H') : PoolAt H' p c ns := by
  obtain ⟨h1, h2, a, b, d, e, ha, h3⟩ := h
  exact ⟨h1, s _ _ h2, a, b, d, e, ha, s _ _ h3⟩
theorem PoolAt.kp {H H' : Hp} {p c x : Addr} {ns : List Int} (h : PoolAt H p c ns) (k : Kp x H H') (hp : p ≠ x) (hc : c ≠ x) : PoolAt H' p c ns := by
  obtain ⟨h1, h2, a, b, d, e, ha, h3⟩ := h
  exact ⟨h1, k _ _ hc h2, a, b, d, e, ha, k _ _ hp h3⟩
/-! ### promises -/
def spMixed : Sp := fun vs H Q _ => ∃ a b m : Int, vs = [.int a, .int b, .int m] ∧ 0 < m ∧ ∀ r : Int, 0 ≤ r → r < m → Q (.int r) H
def spPool (K : PySem.W.Frag) : Sp := fun vs H Q _ => ∃ s ns, vs = [.ref s] ∧ SqL K H s (ns.map V.int) ∧ ns.length ≤ 1000 ∧ ∀ p c H', PoolAt H' p c ns → Same H H' → H p = none → H c = none → Q (.ref p) H'
def spDraw : Sp := fun vs H Q _ => ∃ p c ns m, vs = [.ref p, .int m] ∧ PoolAt H p c ns ∧ 0 < m ∧ m < 1073741824 ∧ ∀ (r : Int) H', 0 ≤ r → r < m → PoolAt H' p c ns → Kp p H H' → Q (.int r) H'
def spWide : Sp := fun vs H Q _ => ∃ p c ns m, vs = [.ref p, .int m] ∧ PoolAt H p c ns ∧ 0 ≤ m ∧ ∀ (r : Int) H', 0 ≤ r → r ≤ m → PoolAt H' p c ns → Kp p H H' → Q (.int r) H'
def spPower : Sp := fun vs H Q _ => ∃ n : Int, vs = [.int n] ∧ 0 ≤ n ∧ n ≤ 1000 ∧ Q (.int (2 ^ n.toNat)) H
def spStep : Sp := fun vs H Q _ => ∃ p c ns l m, vs = [.ref p, .int l, .int m] ∧ PoolAt H p c ns ∧ l < m ∧ ∀ (r : Int) H', 0 ≤ r → r ≤ m - 1 - l → PoolAt H' p c ns → Kp p H H' → Q (.int r) H'
section
variable {P : Program} {w : World} {K : PySem.W.Frag} {mg : Str → Option Value} {base : Heap}
/-! ### _law_mixed -/
theorem scMixed : FnScope ["_law_number", "_law_place", "_law_many", "_law_first", "_law_second"] ["_law_number", "_law_place", "_law_many"] (defScope sMixed) := ⟨rfl, rfl, rfl, by decide +kernel, rfl, by decide +kernel, by decide +kernel⟩
theorem ok_mixed (T : Tx K mg) (D : Dg K mg "_law_mixed" sMixed) : C8.Cal P w K mg base 1 "_law_mixed" spMixed [] := by
  refine cal_of D scMixed (fun _ _ _ _ _ _ us hl => match us, hl with | [_, _, _], _ => rfl) ?_ ?_
  · rintro vs H Q E ⟨a, b, m, rfl, _⟩; rfl
  · rintro f cdv A outer s H vs Q E hr ⟨a, b, m, rfl, hm, q⟩
    refine ⟨_, pss_cons (ps_set (i := 3) scMixed.nd rfl (Or.inl rfl) (pe_op op_mod (pe_callTy call_int1 (by rfl) T.fInt (by decide +kernel) (pa_cons (pe_op op_add (pe_op op_add (pe_op op_mul (pv 0) pe_int) (pe_op op_mul (pv 1) pe_int)) pe_int) pa_nil)) pe_int))
      (pss_cons (ps_set (i := 4) scMixed.nd rfl (Or.inl rfl) (pe_op op_mod (pe_callTy call_int1 (by rfl) T.fInt (by decide +kernel) (pa_cons (pe_op op_add (pe_op op_add (pe_op op_mul (pv 3) pe_int) (pe_op op_mul (pv 1) pe_int)) pe_int) pa_nil)) pe_int))
      (pss_one (ps_ret (pe_op op_mod (pe_callTy call_int1 (by rfl) T.fInt (by decide +kernel) (pa_cons (pv 4) pa_nil)) (pv 2))))), ?_⟩
    refine ⟨_, rfl, a, 48271, rfl, rfl, .inr ⟨by decide, by decide⟩, _, rfl, b, 69621, rfl, rfl, .inr ⟨by decide, by decide⟩, _, _, rfl, rfl, _, _, rfl, rfl, .inl ⟨_, rfl, _, _, rfl, rfl, (by show (0 : Int) < 2147483647; decide), ?_⟩⟩
    generalize (a * 48271 + b * 69621 + 11) % 2147483647 = x1
    refine ⟨_, rfl, _, 16807, rfl, rfl, .inr ⟨by decide, by decide⟩, _, rfl, b, 40692, rfl, rfl, .inr ⟨by decide, by decide⟩, _, _, rfl, rfl, _, _, rfl, rfl, .inl ⟨_, rfl, _, _, rfl, rfl, (by show (0 : Int) < 2147483629; decide), ?_⟩⟩
    refine ⟨_, rfl, .inl ⟨_, rfl, _, rfl, _, m, rfl, rfl, hm, ?_⟩⟩
    exact q _ (Int.emod_nonneg _ (by omega)) (Int.emod_lt_of_pos _ hm)
/-! ### _law_pool -/
theorem scPool : FnScope ["_law_script", "_law_cell"] ["_law_script"] (defScope sPool) := ⟨rfl, rfl, rfl, by decide +kernel, rfl, by decide +kernel, by decide +kernel⟩
theorem ok_pool (T : Tx K mg) (D : Dg K mg "_law_pool" sPool) : C8.Cal P w K mg base 1 "_law_pool" (spPool K) [] := by
  refine cal_of D scPool (fun _ _ _ _ _ _ us hl => match us, hl with | [_], _ => rfl) ?_ ?_
  · rintro vs H Q E ⟨s, ns, rfl, _⟩; rfl
  · rintro f cdv A outer s' H vs Q E hr ⟨s, ns, rfl, hS, hlen, q⟩
    refine ⟨_, pss_one (ps_ret (pe_lst (pa_cons (pe_lc (own := [("_law_cell", 1)]) (g := gName 1) (tt := tYes) rfl scPool.nd (pi_list (pv 0)) (blkOk_by (own := [("_law_cell", 1)]) (N := ["_law_script", "_law_cell"]) (sc := defScope sPool) (by decide +kernel))
        (fun _ _ _ _ _ => pg_name (i := 1) scPool.nd rfl (Or.inl rfl)) (fun _ _ _ _ _ => pts_nil) (fun _ _ _ _ _ => pe_callTy call_int1 (by rfl) T.fInt (by decide +kernel) (pa_cons (pv 1) pa_nil)))
      (pa_cons pe_int (pa_cons pe_int (pa_cons pe_int (pa_cons (pe_un un_neg pe_int) pa_nil))))))), ?_⟩
    refine ⟨_, rfl, s, rfl, ⟨_, hS⟩, fun c hc => lc_list (K := K) (a := s) (xs := ns.map V.int) (fun i H' => H' = upd H c (.lst ((ns.take i).map V.int))) (by simp) ?_ ?_ ?_⟩
    · rintro i H' _ rfl
      exact (same_upd hc).seq hS
    · rintro i x H' hx rfl
      rw [List.getElem?_map] at hx
      cases ez : ns[i]? with
      | none => rw [ez] at hx; cases hx
      | some z =>
        rw [ez] at hx
        cases hx
        have hi : i < ns.length := (List.getElem?_eq_some_iff.mp ez).1
        refine ⟨rfl, _, rfl, .inl ⟨z, rfl, (ns.take i).map V.int, upd_same, ?_, ?_⟩⟩
        · rw [List.length_map, List.length_take]
          exact Nat.lt_of_le_of_lt (Nat.min_le_right _ _) (small1000 hlen)
        · show upd (upd H c _) c _ = _
          rw [upd_upd, List.take_add_one, ez, List.map_append] <;> rfl
    · rintro H' rfl
      rw [List.length_map, List.take_length]
      refine ⟨1, rfl, (by show 5 ≤ sizeLine; decide), fun p hp => ?_⟩
      have ncp : c ≠ p := ne_of_none upd_same hp
      refine q p c _ ⟨ncp, ?_, 0, 0, 0, -1, by decide, upd_same⟩ ((same_upd hc).trans (same_upd hp)) ((same_upd hc).free hp) hc
      rw [upd_ne ncp]
      exact upd_same
end
end Rg
namespace Rg
open PySem L2 RgX
section
variable {P : Program} {w : World} {K : PySem.W.Frag} {mg : Str → Option Value} {base : Heap}
/-! ### _law_draw -/
theorem scDraw : FnScope ["_law_pool_here", "_law_many", "_law_cells", "_law_cell", "_law_told", "_law_last"] ["_law_pool_here", "_law_many"] (defScope sDraw) := ⟨rfl, rfl, rfl, by decide +kernel, rfl, by decide +kernel, by decide +kernel⟩
theorem ok_draw (T : Tx K mg) (D : Dg K mg "_law_draw" sDraw) (c_law_mixed : C8.Cal P w K mg base 1 "_law_mixed" spMixed []) : C8.Cal P w K mg base 2 "_law_draw" spDraw [] := by
  refine cal_of D scDraw (fun _ _ _ _ _ _ us hl => match us, hl with | [_, _], _ => rfl) ?_ ?_
  · rintro vs H Q E ⟨p, c, ns, m, rfl, _⟩; rfl
  · rintro f cdv A outer s' H vs Q E hr ⟨p, c, ns, m, rfl, hP, hm, hm2, q⟩
    refine ⟨_, pss_cons (ps_set (i := 2) scDraw.nd rfl (Or.inl rfl) (pe_ix ix_list (pv 0) pe_int (fun _ _ => rfl)))
      (pss_cons (ps_asg (pe_op op_add (pe_ix ix_list (pv 0) pe_int (fun _ _ => rfl)) pe_int) (pg_sub (pv 0) pe_int set_list))
      (pss_cons (ps_if (pt_cmpR op_ge (pe_ix ix_list (pv 0) pe_int (fun _ _ => rfl)) (pe_callB call_len (by rfl) T.fLen PySem.boot_len (pa_cons (pv 2) pa_nil)) (nomark _))
        (pss_one (ps_ret (C8.pe_c c_law_mixed hr (by decide) rfl (pa_cons (pe_op op_add (pe_op op_mul (pe_ix ix_list (pv 0) pe_int (fun _ _ => rfl)) pe_int) (pe_callB call_len (by rfl) T.fLen PySem.boot_len (pa_cons (pv 2) pa_nil))) (pa_cons (pe_ix ix_list (pv 0) pe_int (fun _ _ => rfl)) (pa_cons (pv 1) pa_nil)))))) pss_nil)
      (pss_cons (ps_set (i := 3) scDraw.nd rfl (Or.inl rfl) (pe_ix ix_list (pv 2) (pe_ix ix_list (pv 0) pe_int (fun _ _ => rfl)) (fun _ _ => rfl)))
      (pss_cons (ps_asg (pe_op op_add (pe_ix ix_list (pv 0) pe_int (fun _ _ => rfl)) pe_int) (pg_sub (pv 0) pe_int set_list))
      (C8.pss_cut (ps_if (PW.pt (pw_and (pt_cmpR op_lt (pe_ix ix_list (pv 0) pe_int (fun _ _ => rfl)) pe_int (nomark _)) (pw_and1 (pt_cmpR op_ge (pv 3) (pe_op op_pow pe_int pe_int) (nomark _)))))
        (pss_one (ps_asg (pv 3) (pg_sub (pv 0) pe_int set_list))) pss_nil)
      (C8.pss_cut (ps_if (pt_cmpR op_lt (pe_ix ix_list (pv 0) pe_int (fun _ _ => rfl)) pe_int (nomark _))
        (pss_cons (ps_set (i := 4) scDraw.nd rfl (Or.inl rfl) (C8.pe_c c_law_mixed hr (by decide) rfl (pa_cons (pv 3) (pa_cons (pe_ix ix_list (pv 0) pe_int (fun _ _ => rfl)) (pa_cons (pv 1) pa_nil)))))
          (pss_one (ps_set (i := 5) scDraw.nd rfl (Or.inl rfl) pe_int)))
        (pss_cons (ps_set (i := 4) scDraw.nd rfl (Or.inl rfl) (pe_op op_mod (pe_callTy call_int1 (by rfl) T.fInt (by decide +kernel) (pa_cons (pe_ix ix_list (pv 0) pe_int (fun _ _ => rfl)) pa_nil)) (pv 1)))
          (pss_cons (ps_asg (pe_op op_fdiv (pe_ix ix_list (pv 0) pe_int (fun _ _ => rfl)) (pv 1)) (pg_sub (pv 0) pe_int set_list))
          (pss_one (ps_set (i := 5) scDraw.nd rfl (Or.inl rfl) pe_int)))))
      (C8.pss_cut (ps_if (PW.pt (pw_or (pt_cmpR op_ge (pe_ix ix_list (pv 0) pe_int (fun _ _ => rfl)) (pv 5) (nomark _)) (pw_or1 (pt_cmpR op_eq (pe_ix ix_list (pv 0) pe_int (fun _ _ => rfl)) pe_int (nomark _)))))
        (pss_cons (ps_asg (pe_op op_add (pe_ix ix_list (pv 0) pe_int (fun _ _ => rfl)) pe_int) (pg_sub (pv 0) pe_int set_list))
          (pss_cons (ps_asg pe_int (pg_sub (pv 0) pe_int set_list))
          (pss_one (ps_asg (pe_un un_neg pe_int) (pg_sub (pv 0) pe_int set_list))))) pss_nil)
      (pss_one (ps_ret (pv 4)))))))))), ?_⟩
    obtain ⟨ncp, hc, a, b, d, e, ha, hp⟩ := hP
    have hcu : ∀ o, (upd H p o) c = some (.lst (ns.map V.int)) := fun o => by rw [upd_ne ncp]; exact hc
    -- cells = pool[0]; pool[3] = pool[3] + 1
    refine ⟨_, rfl, p, _, 0, _, rfl, rfl, SqL.of hp, rfl, ?_⟩
    refine ⟨_, rfl, p, _, 3, _, rfl, rfl, SqL.of hp, rfl, d, 1, rfl, rfl, _, rfl, p, _, 3, 3, rfl, rfl, hp, rfl, ?_⟩
    -- if pool[1] >= len(cells): return mixed(..)
    refine ⟨_, rfl, p, _, 1, .int a, rfl, rfl, SqL.of upd_same, rfl, _, rfl, _, ns.length, rfl, .inl ⟨_, SqL.of (hcu _), by rw [List.length_map]⟩, _, _, rfl, rfl, _, rfl, ?_⟩
    by_cases hal : (ns.length : Int) ≤ a
    · refine iteTd hal ?_
      refine ⟨_, rfl, p, _, 3, .int (d + 1), rfl, rfl, SqL.of upd_same, rfl, _, 7, rfl, rfl, .inr ⟨by decide, by decide⟩, _, rfl, _, ns.length, rfl, .inl ⟨_, SqL.of (hcu _), by rw [List.length_map]⟩, _, _, rfl, rfl, ?_⟩
      refine ⟨_, rfl, p, _, 3, .int (d + 1), rfl, rfl, SqL.of upd_same, rfl, _, rfl, _, _, m, rfl, hm, fun r h0 h1 => ?_⟩
      exact q r _ h0 h1 ⟨ncp, hcu _, a, b, d + 1, e, ha, upd_same⟩ Kp.upd
    · refine iteFd hal ?_
      -- cell = cells[pool[1]]
      have hlt : a.toNat < ns.length := by omega
      have hz : (ns.map V.int)[a.toNat]? = some (V.int ns[a.toNat]) := by rw [List.getElem?_map, List.getElem?_eq_getElem hlt] <;> rfl
      refine ⟨_, rfl, _, rfl, p, _, 1, .int a, rfl, rfl, SqL.of upd_same, rfl, c, _, a, _, rfl, rfl, SqL.of (hcu _), at_of (by omega) hz, ?_⟩
      generalize ns[a.toNat] = z
      -- pool[2] = pool[2] + 1
      refine ⟨_, rfl, p, _, 2, .int b, rfl, rfl, SqL.of upd_same, rfl, b, 1, rfl, rfl, _, rfl, p, _, 2, 2, rfl, rfl, upd_same, rfl, ?_⟩
      have e1 : upd (upd H p (.lst ([V.ref c, .int a, .int b, .int d, .int e].set 3 (.int (d + 1))))) p (.lst (([V.ref c, .int a, .int b, .int d, .int e].set 3 (.int (d + 1))).set 2 (.int (b + 1)))) = upd H p (pl c a (b + 1) (d + 1) e) := upd_upd
      -- the first if
      refine ⟨fun σ' H' => σ' = [some (.ref p), some (.int m), some (.ref c), some (.int z), none, none] ∧ ∃ b d e, H' = upd H p (pl c a b d e), ?_, ?_⟩
      · refine ⟨_, rfl, p, _, 4, .int e, rfl, rfl, SqL.of upd_same, rfl, e, 0, rfl, rfl, _, rfl, ?_⟩
        by_cases he : e < 0
        · refine iteTd he ⟨_, rfl, 10, 18, rfl, rfl, ⟨by decide, by decide, by decide⟩, z, _, rfl, rfl, _, rfl, ?_⟩
          refine ite2 (fun _ => ?_) (fun _ => ?_)
          · refine ⟨_, rfl, _, rfl, p, _, 4, 4, rfl, rfl, upd_same, rfl, rfl, b + 1, d + 1, z, ?_⟩
            rw [e1, upd_upd]
            all_goals rfl
          · exact ⟨rfl, b + 1, d + 1, e, e1⟩
        · exact iteFd he (iteF ⟨rfl, b + 1, d + 1, e, e1⟩)
      · rintro _ _ ⟨rfl, b, d, e, rfl⟩
        -- the second if
        refine ⟨fun σ' H' => ∃ told last b d e, (0 : Int) ≤ told ∧ told < m ∧ σ' = [some (.ref p), some (.int m), some (.ref c), some (.int z), some (.int told), some (.int last)] ∧ H' = upd H p (pl c a b d e), ?_, ?_⟩
        · refine ⟨_, rfl, p, _, 4, .int e, rfl, rfl, SqL.of upd_same, rfl, e, 0, rfl, rfl, _, rfl, ?_⟩
          refine ite2 (fun _ => ?_) (fun _ => ?_)
          · exact ⟨_, rfl, _, rfl, p, _, 3, .int d, rfl, rfl, SqL.of upd_same, rfl, _, rfl, z, d, m, rfl, hm, fun r h0 h1 => ⟨r, 3, b, d, e, h0, h1, rfl, rfl⟩⟩
          · refine ⟨_, rfl, p, _, 4, .int e, rfl, rfl, SqL.of upd_same, rfl, .inl ⟨e, rfl, _, rfl, e, m, rfl, rfl, hm, ?_⟩⟩
            refine ⟨_, rfl, p, _, 4, .int e, rfl, rfl, SqL.of upd_same, rfl, _, rfl, e, m, rfl, rfl, ⟨hm, hm2⟩, _, rfl, p, _, 4, 4, rfl, rfl, upd_same, rfl, ?_⟩
            exact ⟨e % m, 60, b, d, e / m, Int.emod_nonneg _ (by omega), Int.emod_lt_of_pos _ hm, rfl, upd_upd⟩
        · rintro _ _ ⟨told, last, b, d, e, h0, h1, rfl, rfl⟩
          -- the third if
          refine ⟨fun σ' H' => ∃ a b d e, 0 ≤ a ∧ σ' = [some (.ref p), some (.int m), some (.ref c), some (.int z), some (.int told), some (.int last)] ∧ H' = upd H p (pl c a b d e), ?_, ?_⟩
          · refine ⟨_, rfl, p, _, 2, .int b, rfl, rfl, SqL.of upd_same, rfl, _, rfl, b, last, rfl, rfl, _, rfl, ?_⟩
            refine ite2 (fun _ => ?_) (fun _ => ?_)
            · refine iteT ?_
              refine ⟨_, rfl, p, _, 1, .int a, rfl, rfl, SqL.of upd_same, rfl, a, 1, rfl, rfl, _, rfl, p, _, 1, 1, rfl, rfl, upd_same, rfl, ?_⟩
              refine ⟨_, rfl, p, _, 2, 2, rfl, rfl, upd_same, rfl, ?_⟩
              refine ⟨1, rfl, _, rfl, p, _, 4, 4, rfl, rfl, upd_same, rfl, ?_⟩
              exact ⟨a + 1, 0, d, -1, by omega, rfl, by rw [upd_upd, upd_upd, upd_upd] <;> rfl⟩
            · refine ⟨_, rfl, p, _, 4, .int e, rfl, rfl, SqL.of upd_same, rfl, rfl, _, rfl, ?_⟩
              refine ite2 (fun _ => ?_) (fun _ => ?_)
              · refine ⟨_, rfl, p, _, 1, .int a, rfl, rfl, SqL.of upd_same, rfl, a, 1, rfl, rfl, _, rfl, p, _, 1, 1, rfl, rfl, upd_same, rfl, ?_⟩
                refine ⟨_, rfl, p, _, 2, 2, rfl, rfl, upd_same, rfl, ?_⟩
                refine ⟨1, rfl, _, rfl, p, _, 4, 4, rfl, rfl, upd_same, rfl, ?_⟩
                exact ⟨a + 1, 0, d, -1, by omega, rfl, by rw [upd_upd, upd_upd, upd_upd] <;> rfl⟩
              · exact ⟨a, b, d, e, ha, rfl, rfl⟩
          · rintro _ _ ⟨a, b, d, e, ha, rfl, rfl⟩
            exact ⟨_, rfl, q told _ h0 h1 ⟨ncp, hcu _, a, b, d, e, ha, upd_same⟩ Kp.upd⟩
end
end Rg
namespace Rg
open PySem L2 RgX
abbrev sRefused : Stmt := top 58
abbrev sReads : Stmt := top 59
def spRefused (K : PySem.W.Frag) : Sp := fun vs H Q _ => ∃ g dx m n l z, vs = [.ref g, .int z] ∧ LogAt K H g dx m n l ∧ ¬ (0 ≤ z ∧ z ≤ l) ∧ ∀ H', Same H H' → Q (.bl true) H'
/-- what a read has told is asked of the lag t, the total and the size -/
def spReads : Sp := fun vs H Q _ => ∃ x l t n, vs = [x, .int l, .int t, .int n] ∧
  ((l = 0 ∧ x = .non) ∨ (l ≠ 0 ∧ ∃ a lost, x = .ref a ∧ lost = (if l - n < 0 then 0 else l - n) ∧ H a = some (.tup [.int lost, .int (t - l + lost + 1)]))) ∧ ∀ H', Same H H' → Q (.bl true) H'
section
variable {P : Program} {w : World} {K : PySem.W.Frag} {mg : Str → Option Value} {base : Heap}
/-! ### _law_wide -/
theorem scWide : FnScope ["_law_pool_here", "_law_most", "_law_kind", "_law_told"] ["_law_pool_here", "_law_most"] (defScope sWide) := ⟨rfl, rfl, rfl, by decide +kernel, rfl, by decide +kernel, by decide +kernel⟩
theorem ok_wide (T : Tx K mg) (D : Dg K mg "_law_wide" sWide) (c_law_draw : C8.Cal P w K mg base 2 "_law_draw" spDraw []) : C8.Cal P w K mg base 3 "_law_wide" spWide [] := by
  refine cal_of D scWide (fun _ _ _ _ _ _ us hl => match us, hl with | [_, _], _ => rfl) ?_ ?_
  · rintro vs H Q E ⟨p, c, ns, m, rfl, _⟩; rfl
  · rintro f cdv A outer s' H vs Q E hr ⟨p, c, ns, m, rfl, hP, hm, q⟩
    refine ⟨_, pss_cons (ps_set (i := 2) scWide.nd rfl (Or.inl rfl) (C8.pe_c c_law_draw hr (by decide) rfl (pa_cons (pv 0) (pa_cons pe_int pa_nil))))
      (pss_cons (ps_if (pt_cmpR op_eq (pv 2) pe_int (nomark _))
        (pss_one (ps_ret (pe_op op_mod (pe_callTy call_int1 (by rfl) T.fInt (by decide +kernel) (pa_cons (C8.pe_c c_law_draw hr (by decide) rfl (pa_cons (pv 0) (pa_cons pe_int pa_nil))) pa_nil)) (pe_op op_add (pv 1) pe_int)))) pss_nil)
      (pss_cons (ps_if (pt_cmpR op_eq (pv 2) pe_int (nomark _))
        (pss_one (ps_ret (pe_op op_mod (pe_callTy call_int1 (by rfl) T.fInt (by decide +kernel) (pa_cons (C8.pe_c c_law_draw hr (by decide) rfl (pa_cons (pv 0) (pa_cons pe_int pa_nil))) pa_nil)) (pe_op op_add (pv 1) pe_int)))) pss_nil)
      (pss_cons (ps_set (i := 3) scWide.nd rfl (Or.inl rfl) (pe_op op_add (pe_op op_add (pe_op op_mul (C8.pe_c c_law_draw hr (by decide) rfl (pa_cons (pv 0) (pa_cons (pe_op op_pow pe_int pe_int) pa_nil))) (pe_op op_pow pe_int pe_int))
          (pe_op op_mul (C8.pe_c c_law_draw hr (by decide) rfl (pa_cons (pv 0) (pa_cons (pe_op op_pow pe_int pe_int) pa_nil))) (pe_op op_pow pe_int pe_int))) (C8.pe_c c_law_draw hr (by decide) rfl (pa_cons (pv 0) (pa_cons (pe_op op_pow pe_int pe_int) pa_nil)))))
      (C8.pss_cut (ps_if (pt_cmpR op_eq (pv 2) pe_int (nomark _))
        (pss_one (ps_set (i := 3) scWide.nd rfl (Or.inl rfl) (pe_op op_add (pe_op op_mul (pv 3) (pe_op op_pow pe_int pe_int)) (C8.pe_c c_law_draw hr (by decide) rfl (pa_cons (pv 0) (pa_cons (pe_op op_pow pe_int pe_int) pa_nil)))))) pss_nil)
      (pss_one (ps_ret (pe_op op_mod (pe_callTy call_int1 (by rfl) T.fInt (by decide +kernel) (pa_cons (pv 3) pa_nil)) (pe_op op_add (pv 1) pe_int)))))))), ?_⟩
    have pos : (0 : Int) < m + 1 := by omega
    have fin : ∀ (z : Int) H1, PoolAt H1 p c ns → Kp p H H1 → Q (.int (z % (m + 1))) H1 := fun z H1 h k => by
      have h0 := Int.emod_nonneg z (show m + 1 ≠ 0 by omega)
      have h1 := Int.emod_lt_of_pos z pos
      exact q _ H1 h0 (by omega) h k
    refine ⟨_, rfl, p, c, ns, 4, rfl, hP, by decide, by decide, fun kind H1 _ _ hP1 k1 => ?_⟩
    refine ⟨_, rfl, rfl, _, rfl, ite2 (fun _ => ?_) (fun _ => ?_)⟩
    · refine ⟨_, rfl, p, c, ns, 13, rfl, hP1, by decide, by decide, fun r H2 _ _ hP2 k2 => ?_⟩
      exact .inl ⟨r, rfl, _, rfl, m, 1, rfl, rfl, r, m + 1, rfl, rfl, pos, fin _ _ hP2 (k1.trans k2)⟩
    refine ⟨_, rfl, rfl, _, rfl, ite2 (fun _ => ?_) (fun _ => ?_)⟩
    · refine ⟨_, rfl, p, c, ns, 1000, rfl, hP1, by decide, by decide, fun r H2 _ _ hP2 k2 => ?_⟩
      exact .inl ⟨r, rfl, _, rfl, m, 1, rfl, rfl, r, m + 1, rfl, rfl, pos, fin _ _ hP2 (k1.trans k2)⟩
    refine ⟨_, rfl, 10, 9, rfl, rfl, ⟨by decide, by decide, by decide⟩, p, c, ns, _, rfl, hP1, by decide, by decide, fun r1 H2 _ _ hP2 k2 => ?_⟩
    refine ⟨10, 18, rfl, rfl, ⟨by decide, by decide, by decide⟩, r1, _, rfl, rfl, .inr ⟨by decide, by decide⟩, ?_⟩
    refine ⟨_, rfl, 10, 9, rfl, rfl, ⟨by decide, by decide, by decide⟩, p, c, ns, _, rfl, hP2, by decide, by decide, fun r2 H3 _ _ hP3 k3 => ?_⟩
    refine ⟨10, 9, rfl, rfl, ⟨by decide, by decide, by decide⟩, r2, _, rfl, rfl, .inr ⟨by decide, by decide⟩, _, _, rfl, rfl, ?_⟩
    refine ⟨_, rfl, 10, 9, rfl, rfl, ⟨by decide, by decide, by decide⟩, p, c, ns, _, rfl, hP3, by decide, by decide, fun r3 H4 _ _ hP4 k4 => ?_⟩
    refine ⟨_, _, rfl, rfl, ?_⟩
    have k14 := k1.trans (k2.trans (k3.trans k4))
    refine ⟨fun σ' H' => ∃ told : Int, σ' = [some (.ref p), some (.int m), some (.int kind), some (.int told)] ∧ PoolAt H' p c ns ∧ Kp p H H', ?_, ?_⟩
    · refine ⟨_, rfl, rfl, _, rfl, ite2 (fun _ => ?_) (fun _ => ?_)⟩
      · refine ⟨_, rfl, 10, 13, rfl, rfl, ⟨by decide, by decide, by decide⟩, _, _, rfl, rfl, .inr ⟨by decide, by decide⟩, ?_⟩
        refine ⟨_, rfl, 10, 9, rfl, rfl, ⟨by decide, by decide, by decide⟩, p, c, ns, _, rfl, hP4, by decide, by decide, fun r5 H5 _ _ hP5 k5 => ?_⟩
        exact ⟨_, _, rfl, rfl, _, rfl, hP5, k14.trans k5⟩
      · exact ⟨_, rfl, hP4, k14⟩
    · rintro _ H' ⟨told, rfl, hP', k'⟩
      exact ⟨_, rfl, .inl ⟨told, rfl, _, rfl, m, 1, rfl, rfl, told, m + 1, rfl, rfl, pos, fin _ _ hP' k'⟩⟩
/-! ### _law_power -/
theorem scPower : FnScope ["_law_many", "_law_found", "_law_k"] ["_law_many"] (defScope sPower) := ⟨rfl, rfl, rfl, by decide +kernel, rfl, by decide +kernel, by decide +kernel⟩
theorem ok_power (T : Tx K mg) (D : Dg K mg "_law_power" sPower) : C8.Cal P w K mg base 1 "_law_power" spPower [] := by
  refine cal_of D scPower (fun _ _ _ _ _ _ us hl => match us, hl with | [_], _ => rfl) ?_ ?_
  · rintro vs H Q E ⟨n, rfl, _⟩; rfl
  · rintro f cdv A outer s' H vs Q E hr ⟨n, rfl, h0, h1, q⟩
    refine ⟨_, pss_cons (ps_set (i := 1) scPower.nd rfl (Or.inl rfl) pe_int)
      (pss_cons (ps_for PassesOwn.never rfl (pi_range1 rfl T.fRange (pa_cons (pv 0) pa_nil)) (pg_name (i := 2) scPower.nd rfl (Or.inl rfl)) (pss_one (ps_set (i := 1) scPower.nd rfl (Or.inl rfl) (pe_op op_mul (pv 1) pe_int))))
      (pss_one (ps_ret (pv 1)))), ?_⟩
    refine ⟨_, rfl, n, rfl, by omega, by omega, for_range (lo := 0) (n := n.toNat) (fun i σ H' => H' = H ∧ ∃ v, σ = [some (.int n), some (.int (2 ^ i)), v]) ⟨rfl, none, rfl⟩ ?_ ?_⟩
    · rintro i _ _ hi ⟨rfl, v, rfl⟩
      exact ⟨_, rfl, 2 ^ i, 2, rfl, rfl, .inr ⟨by decide, by decide⟩, rfl, _, rfl⟩
    · rintro _ _ ⟨rfl, v, rfl⟩
      exact ⟨_, rfl, q⟩
/-! ### _law_step -/
theorem scStep : FnScope ["_law_pool_here", "_law_lag", "_law_modulus", "_law_room"] ["_law_pool_here", "_law_lag", "_law_modulus"] (defScope sStep) := ⟨rfl, rfl, rfl, by decide +kernel, rfl, by decide +kernel, by decide +kernel⟩
theorem ok_step (T : Tx K mg) (D : Dg K mg "_law_step" sStep) (c_law_draw : C8.Cal P w K mg base 2 "_law_draw" spDraw []) (c_law_wide : C8.Cal P w K mg base 3 "_law_wide" spWide []) : C8.Cal P w K mg base 4 "_law_step" spStep [] := by
  refine cal_of D scStep (fun _ _ _ _ _ _ us hl => match us, hl with | [_, _, _], _ => rfl) ?_ ?_
  · rintro vs H Q E ⟨p, c, ns, l, m, rfl, _⟩; rfl
  · rintro f cdv A outer s' H vs Q E hr ⟨p, c, ns, l, m, rfl, hP, hl, q⟩
    refine ⟨_, pss_cons (ps_set (i := 3) scStep.nd rfl (Or.inl rfl) (pe_op op_sub (pe_op op_sub (pv 2) pe_int) (pv 1)))
      (pss_cons (ps_if (pt_cmpR op_eq (C8.pe_c c_law_draw hr (by decide) rfl (pa_cons (pv 0) (pa_cons pe_int pa_nil))) pe_int (nomark _)) (pss_one (ps_ret (pv 3))) pss_nil)
      (pss_one (ps_ret (pe_op op_mod (pe_callTy call_int1 (by rfl) T.fInt (by decide +kernel) (pa_cons (C8.pe_c c_law_wide hr (by decide) rfl (pa_cons (pv 0) (pa_cons (pe_op op_pow pe_int pe_int) pa_nil))) pa_nil)) (pe_op op_add (pv 3) pe_int))))), ?_⟩
    refine ⟨_, rfl, m, 1, rfl, rfl, _, rfl, m - 1, l, rfl, rfl, ?_⟩
    refine ⟨_, rfl, p, c, ns, 3, rfl, hP, by decide, by decide, fun r H1 _ _ hP1 k1 => ⟨rfl, _, rfl, ite2 (fun _ => ?_) (fun _ => ?_)⟩⟩
    · exact ⟨_, rfl, q _ H1 (by omega) (by omega) hP1 k1⟩
    · refine ⟨_, rfl, 10, 40, rfl, rfl, ⟨by decide, by decide, by decide⟩, p, c, ns, _, rfl, hP1, by decide, fun z H2 _ _ hP2 k2 => ?_⟩
      have pos : (0 : Int) < m - 1 - l + 1 := by omega
      have h0 := Int.emod_nonneg z (show m - 1 - l + 1 ≠ 0 by omega)
      have h1 := Int.emod_lt_of_pos z pos
      exact .inl ⟨z, rfl, _, rfl, m - 1 - l, 1, rfl, rfl, z, m - 1 - l + 1, rfl, rfl, pos, q _ H2 h0 (by omega) hP2 (k1.trans k2)⟩
/-! ### _law_refused -/
theorem scRefused : FnScope ["_law_book", "_law_number"] ["_law_book", "_law_number"] (defScope sRefused) := ⟨rfl, rfl, rfl, by decide +kernel, rfl, by decide +kernel, by decide +kernel⟩
theorem ok_refused (T : Tx K mg) (D : Dg K mg "_law_refused" sRefused) (mRd : MakK P w K mg base (L2.CX P w) 3 "Reader" (cRd K) (spRdI K) 1 ["back"] (fun vs zs => vs ++ zs)) : C8.Cal P w K mg base 5 "_law_refused" (spRefused K) [] := by
  refine cal_of D scRefused (fun _ _ _ _ _ _ us hl => match us, hl with | [_, _], _ => rfl) ?_ ?_
  · rintro vs H Q E ⟨g, dx, m, n, l, z, rfl, _⟩; rfl
  · rintro f cdv A outer s' H vs Q E hr ⟨g, dx, m, n, l, z, rfl, eg, hz, q⟩
    refine ⟨_, pss_one (ps_try_only (c := .ref (cNoLag K)) (Wout := fun _ _ _ _ => False) rfl rfl ⟨rfl, by decide, .inl T.gNoLag⟩ takes0
      (fun W pn xe tk _ => pss_cons (ps_expr (pe_mkS mRd hr (by decide) rfl (fun σ => passAt tk σ) (pa_cons (pv 0) pa_nil) (pk_cons (pv 1) pk_nil))) (pss_one (ps_ret pe_bl)))
      (fun a oe cls d pn hz hf => pss_one (ps_ret pe_bl))), ?_⟩
    refine ⟨_, rfl, _, rfl, rfl, rfl, fun x dxx nx nd ne => ?_⟩
    have s1 : Same H (upd (upd H dxx (.own x)) x (.ins (cRd K) dxx [])) := fun b o e => by
      rw [upd_ne (ne_of_none e nx), upd_ne (ne_of_none e nd)]; exact e
    refine ⟨x, dxx, g, dx, m, n, l, z, rfl, upd_same, s1 _ _ eg, fun h => absurd h hz, fun _ => ?_⟩
    exact ⟨true, T.emNoLag, fun _ a ha => q _ s1, fun h => by cases h⟩
/-! ### _law_reads -/
theorem scReads : FnScope ["_law_found", "_law_lag", "_law_total", "_law_n", "_law_lost"] ["_law_found", "_law_lag", "_law_total", "_law_n"] (defScope sReads) := ⟨rfl, rfl, rfl, by decide +kernel, rfl, by decide +kernel, by decide +kernel⟩
theorem ok_reads (T : Tx K mg) (D : Dg K mg "_law_reads" sReads) : C8.Cal P w K mg base 2 "_law_reads" spReads [] := by
  refine cal_of D scReads (fun _ _ _ _ _ _ us hl => match us, hl with | [_, _, _, _], _ => rfl) ?_ ?_
  · rintro vs H Q E ⟨x, l, t, n, rfl, _⟩; rfl
  · rintro f cdv A outer s' H vs Q E hr ⟨x, l, t, n, rfl, h, q⟩
    refine ⟨_, pss_cons (ps_if (pt_cmpR op_eq (pv 1) pe_int (nomark _)) (pss_one (ps_ret (pe_cmpR op_isN (pv 0) pe_non (nomark _)))) pss_nil)
      (pss_cons (ps_set (i := 4) scReads.nd rfl (Or.inl rfl) (pe_op op_sub (pv 1) (pv 3)))
      (C8.pss_cut (ps_if (pt_cmpR op_lt (pv 4) pe_int (nomark _)) (pss_one (ps_set (i := 4) scReads.nd rfl (Or.inl rfl) pe_int)) pss_nil)
      (pss_one (ps_ret (pe_and (pe_cmpR (op_eqD hr.units) (pv 0) (pe_tup (pa_cons (pv 4) (pa_cons (pe_op op_add (pe_op op_add (pe_op op_sub (pv 2) (pv 1)) (pv 4)) pe_int) pa_nil))) (nomark _))
        (pe_one (pe_callB call_isi (by rfl) T.fIsi (by decide +kernel) (pa_cons (pv 0) (pa_cons (pe_bltn (v := .ty "tuple") rfl T.fTup (by decide +kernel) rfl) pa_nil))))))))), ?_⟩
    rcases h with ⟨rfl, rfl⟩ | ⟨hl, a, lost, rfl, hlost, ea⟩
    · exact ⟨_, rfl, rfl, _, rfl, iteTd rfl ⟨_, rfl, rfl, q _ (Same.refl H)⟩⟩
    · refine ⟨_, rfl, rfl, _, rfl, iteFd (fun z => hl (V.int.inj z)) ?_⟩
      refine ⟨_, rfl, _, rfl, l, n, rfl, rfl, ?_⟩
      refine ⟨fun σ' H' => H' = H ∧ σ' = [some (.ref a), some (.int l), some (.int t), some (.int n), some (.int lost)], ?_, ?_⟩
      · refine ⟨_, rfl, l - n, 0, rfl, rfl, _, rfl, ?_⟩
        by_cases hn : l - n < 0
        · rw [if_pos hn] at hlost
          exact iteTd hn ⟨rfl, by rw [hlost] <;> rfl⟩
        · rw [if_neg hn] at hlost
          exact iteFd hn ⟨rfl, by rw [hlost] <;> rfl⟩
      · rintro _ _ ⟨rfl, rfl⟩
        refine ⟨_, rfl, _, rfl, _, rfl, _, rfl, t, l, rfl, rfl, _, rfl, t - l, lost, rfl, rfl, t - l + lost, 1, rfl, rfl, (by show 2 ≤ sizeLine; decide), fun u hu => ?_⟩
        have s1 := same_upd (o := .tup [.int lost, .int (t - l + lost + 1)]) hu
        refine ⟨.tuple [.int lost, .int (t - l + lost + 1)], .tuple [.int lost, .int (t - l + lost + 1)], .tup (SqT.of (s1 _ _ ea)) (.cons (.int _) (.cons (.int _) .nil)), .tup (SqT.of upd_same) (.cons (.int _) (.cons (.int _) .nil)), rfl, rfl, true, ?_, iteT ?_⟩
        · rw [SeqAt.eqv_refl]
          all_goals rfl
        · exact ⟨_, rfl, _, _, _, _, true, rfl, .ty "tuple", .base (.tup (s1 _ _ ea)), kit_ty (by decide +kernel), q _ s1⟩
end
end Rg
namespace Rg
open PySem L2 RgX
abbrev sMade : Stmt := top 54
/-- the row's turn at size n: the modulus is m -/
def TurnMod (H : Hp) (v : V) (n m : Int) : Prop := (∃ w, v = .int w ∧ 1 ≤ w ∧ w ≤ 100 ∧ m = 2 ^ w.toNat) ∨ ∃ t a b, v = .ref t ∧ H t = some (.tup [.int a, .int b]) ∧ 0 ≤ a ∧ a ≤ 4 ∧ -20 ≤ b ∧ b ≤ 20 ∧ m = a * n + b
def BrimAt (H : Hp) (t : Addr) : Prop := (∃ z, H t = some (.tup [.str z]) ∧ z ∈ (["next", "note"] : List Str)) ∨
  ∃ y z u a b, H t = some (.tup [.str y, .str z, .ref u]) ∧ H u = some (.tup [.int a, .int b]) ∧ y ∈ (["diff", "count"] : List Str) ∧ z ∈ (["=", ">="] : List Str) ∧ 0 ≤ a ∧ a ≤ 4 ∧ -20 ≤ b ∧ b ≤ 20
theorem BrimAt.same {H H' : Hp} {t : Addr} (s : Same H H') : BrimAt H t → BrimAt H' t
  | .inl ⟨z, e, h⟩ => .inl ⟨z, s _ _ e, h⟩
  | .inr ⟨y, z, u, a, b, e1, e2, h⟩ => .inr ⟨y, z, u, a, b, s _ _ e1, s _ _ e2, h⟩
theorem TurnMod.same {H H' : Hp} {v : V} {n m : Int} (s : Same H H') : TurnMod H v n m → TurnMod H' v n m
  | .inl h => .inl h
  | .inr ⟨t, a, b, e, h, r⟩ => .inr ⟨t, a, b, e, s _ _ h, r⟩
theorem WrapAt.same {K : PySem.W.Frag} {H H' : Hp} {v : V} {n m : Int} (s : Same H H') : WrapAt K H v n m → WrapAt K H' v n m
  | .inl h => .inl h
  | .inr ⟨a, dx, sl, ba, e, h, r⟩ => .inr ⟨a, dx, sl, ba, e, s _ _ h, r⟩
theorem tup_kp {H H' : Hp} {p c t : Addr} {ns : List Int} {xs : List V} (hP : PoolAt H p c ns) (k : Kp p H H') (h : H t = some (.tup xs)) : H' t = some (.tup xs) := by
  obtain ⟨_, _, a, b, d, e, _, hp⟩ := hP
  exact k _ _ (ne_of h hp (by intro z; cases z)) h
theorem BrimAt.kp {H H' : Hp} {p c t : Addr} {ns : List Int} (hP : PoolAt H p c ns) (k : Kp p H H') : BrimAt H t → BrimAt H' t
  | .inl ⟨z, e, h⟩ => .inl ⟨z, tup_kp hP k e, h⟩
  | .inr ⟨y, z, u, a, b, e1, e2, h⟩ => .inr ⟨y, z, u, a, b, tup_kp hP k e1, tup_kp hP k e2, h⟩
theorem same_made {H : Hp} {x dx : Addr} {o1 o2 o3 : HO} (nx : H x = none) (nd : H dx = none) : Same H (upd (upd (upd H dx o1) x o2) x o3) := fun b o e => by
  rw [upd_ne (ne_of_none e nx), upd_ne (ne_of_none e nx), upd_ne (ne_of_none e nd)]
  exact e
def spMade (K : PySem.W.Frag) : Sp := fun vs H Q _ => ∃ row v sl em br n m, vs = [.ref row, .str "over"] ∧ H row = some (.tup [v, .str sl, .str em, .ref br]) ∧ TurnMod H v n m ∧ SlotOk sl ∧ (sl = "mask" → ∃ w, v = .int w) ∧ EmptyOk em ∧ BrimAt H br ∧
  ∀ s dx wv fu H', SchAt K H' s dx wv sl (.str em) (.ref fu) "over" → WrapAt K H' wv n m → Same H H' → H s = none → Q (.ref s) H'
section
variable {P : Program} {w : World} {K : PySem.W.Frag} {mg : Str → Option Value} {base : Heap}
theorem scMade : FnScope ["_law_row", "_law_manner", "_law_turn", "_law_rule", "_law_bare", "_law_brim"] ["_law_row", "_law_manner"] (defScope sMade) := ⟨rfl, rfl, rfl, by decide +kernel, rfl, by decide +kernel, by decide +kernel⟩
theorem ok_made (T : Tx K mg) (D : Dg K mg "_law_made" sMade) (mForm : C8.Mak P w K mg base 2 "Form" (cForm K) (spFormI K) []) (mSch : MakK P w K mg base CX0 4 "Scheme" (cSch K) (spSchI K) 0 ["wrap", "slot", "empty", "full", "when"] (fun vs zs => vs ++ zs)) :
    C8.Cal P w K mg base 6 "_law_made" (spMade K) [] := by
  refine cal_of D scMade (fun _ _ _ _ _ _ us hl => match us, hl with | [_, _], _ => rfl) ?_ ?_
  · rintro vs H Q E ⟨row, v, sl, em, br, n, m, rfl, _⟩; rfl
  · rintro f cdv A outer s' H vs Q E hr ⟨row, v, sl, em, br, n, m, rfl, hrow, hv, hsl, hmask, hem, hbr, q⟩
    refine ⟨_, pss_cons (ps_asg (pv 0) (pg_tup rfl (pgs_cons (pg_name (i := 2) scMade.nd rfl (Or.inl rfl)) (pgs_cons (pg_name (i := 3) scMade.nd rfl (Or.inl rfl)) (pgs_cons (pg_name (i := 4) scMade.nd rfl (Or.inl rfl)) (pgs_cons (pg_name (i := 5) scMade.nd rfl (Or.inl rfl)) pgs_nil))))))
      (C8.pss_cut (ps_if (pt_val (pe_callB call_isi (by rfl) T.fIsi (by decide +kernel) (pa_cons (pv 2) (pa_cons (pe_bltn (v := .ty "tuple") rfl T.fTup (by decide +kernel) rfl) pa_nil))))
        (pss_one (ps_set (i := 2) scMade.nd rfl (Or.inl rfl) (C8.pe_mk mForm hr (by decide) rfl (pa_cons (pe_ix ix_tup (pv 2) pe_int (fun _ _ => rfl)) (pa_cons (pe_ix ix_tup (pv 2) pe_int (fun _ _ => rfl)) pa_nil))))) pss_nil)
      (C8.pss_cut (ps_if (pt_cmpR op_eq (pe_callB call_len (by rfl) T.fLen PySem.boot_len (pa_cons (pv 5) pa_nil)) pe_int (nomark _))
        (pss_one (ps_set (i := 5) scMade.nd rfl (Or.inl rfl) (pe_tup (pa_cons (pe_ix ix_tup (pv 5) pe_int (fun _ _ => rfl)) (pa_cons (pe_ix ix_tup (pv 5) pe_int (fun _ _ => rfl)) (pa_cons
          (C8.pe_mk mForm hr (by decide) rfl (pa_cons (pe_ix ix_tup (pe_ix ix_tup (pv 5) pe_int (fun _ _ => rfl)) pe_int (fun _ _ => rfl)) (pa_cons (pe_ix ix_tup (pe_ix ix_tup (pv 5) pe_int (fun _ _ => rfl)) pe_int (fun _ _ => rfl)) pa_nil))) pa_nil)))))) pss_nil)
      (pss_one (ps_ret (pe_mkK0 mSch hr (by decide) rfl pass0 (pk_cons (pv 2) (pk_cons (pv 3) (pk_cons (pv 4) (pk_cons (pv 5) (pk_cons (pv 1) pk_nil)))))))))), ?_⟩
    refine ⟨_, rfl, row, _, rfl, SqT.of hrow, rfl, v, _, rfl, .str sl, _, rfl, .str em, _, rfl, .ref br, _, rfl, rfl, ?_⟩
    -- the turn
    refine ⟨fun σ' H' => ∃ wv, σ' = [some (.ref row), some (.str "over"), some wv, some (.str sl), some (.str em), some (.ref br)] ∧ WrapAt K H' wv n m ∧ WrapOk K H' wv ∧ (sl = "mask" → ∃ w, wv = .int w) ∧ Same H H', ?_, ?_⟩
    · rcases hv with ⟨z, rfl, h1, h2, h3⟩ | ⟨t, a, b, rfl, ht, a0, a4, b0, b2, h3⟩
      · refine ⟨_, rfl, _, _, _, _, false, rfl, .ty "tuple", .base (.int z), kit_ty (by decide +kernel), false, rfl, iteF ?_⟩
        exact ⟨_, rfl, .inl ⟨z, rfl, h1, h2, h3⟩, .inl ⟨z, rfl, h1, h2⟩, fun _ => ⟨z, rfl⟩, Same.refl H⟩
      · refine ⟨_, rfl, _, _, _, _, true, rfl, .ty "tuple", .base (.tup ht), kit_ty (by decide +kernel), true, rfl, iteT ?_⟩
        refine ⟨_, rfl, t, _, 0, .int a, rfl, rfl, SqT.of ht, rfl, _, rfl, t, _, 1, .int b, rfl, rfl, SqT.of ht, rfl, fun x dx nx nd ne => ?_⟩
        refine ⟨x, dx, a, b, rfl, upd_same, rfl, _, rfl, .inr ⟨x, dx, a, b, rfl, upd_same, a0, a4, h3⟩, .inr ⟨x, rfl, a, b, ⟨dx, upd_same⟩, a0, a4, b0, b2⟩, fun e => ?_, same_made nx nd⟩
        obtain ⟨z, e2⟩ := hmask e
        cases e2
    · rintro _ H1 ⟨wv, rfl, hw1, hw2, hmk, s1⟩
      -- the brim
      refine ⟨fun σ' H' => ∃ fu, σ' = [some (.ref row), some (.str "over"), some wv, some (.str sl), some (.str em), some (.ref fu)] ∧ FullOk K H' fu ∧ Same H1 H', ?_, ?_⟩
      · rcases hbr.same s1 with ⟨z, et, hz⟩ | ⟨y, z, u, a, b, et, eu, hy, hz, a0, a4, b0, b2⟩
        · refine ⟨_, rfl, _, 1, rfl, .inr ⟨_, SqT.of et, rfl⟩, rfl, _, rfl, iteFd (by decide) ?_⟩
          exact ⟨br, rfl, .inl ⟨z, et, hz⟩, Same.refl H1⟩
        · refine ⟨_, rfl, _, 3, rfl, .inr ⟨_, SqT.of et, rfl⟩, rfl, _, rfl, iteTd rfl ?_⟩
          refine ⟨_, rfl, br, _, 0, .str y, rfl, rfl, SqT.of et, rfl, _, rfl, br, _, 1, .str z, rfl, rfl, SqT.of et, rfl, ?_⟩
          refine ⟨_, rfl, br, _, 2, .ref u, rfl, rfl, SqT.of et, rfl, u, _, 0, .int a, rfl, rfl, SqT.of eu, rfl, ?_⟩
          refine ⟨_, rfl, br, _, 2, .ref u, rfl, rfl, SqT.of et, rfl, u, _, 1, .int b, rfl, rfl, SqT.of eu, rfl, fun x dx nx nd ne => ?_⟩
          refine ⟨x, dx, a, b, rfl, upd_same, rfl, (by show 3 ≤ sizeLine; decide), fun t ht => ?_⟩
          have s2 := same_upd (o := .tup [.str y, .str z, .ref x]) ht
          exact ⟨t, rfl, .inr ⟨y, z, x, upd_same, hy, hz, a, b, ⟨dx, s2 _ _ upd_same⟩, a0, a4, b0, b2⟩, (same_made nx nd).trans s2⟩
      · rintro _ H2 ⟨fu, rfl, hfu, s2⟩
        refine ⟨_, rfl, _, rfl, _, rfl, _, rfl, _, rfl, rfl, rfl, fun x dx nx nd ne => ?_⟩
        have s3 : Same H2 (upd (upd H2 dx (.own x)) x (.ins (cSch K) dx [])) := fun b o e => by
          rw [upd_ne (ne_of_none e nx), upd_ne (ne_of_none e nd)]; exact e
        refine ⟨x, dx, wv, sl, em, fu, "over", rfl, upd_same, (hw2.same s2).same s3, hsl, hmk, hem, hfu.same s3, (by unfold WhenOk; decide +kernel), fun H3 k3 es => ⟨rfl, ?_⟩⟩
        have s4 : Same H2 H3 := fun b o e => k3 b o (ne_of_none e nx) (s3 b o e)
        exact q x dx wv fu H3 es ((hw1.same s2).same s4) ((s1.trans s2).trans s4) ((s1.trans s2).free nx)
end
end Rg
namespace Rg
open PySem L2 RgX
abbrev sSetting : Stmt := top 55
/-- what the law may lean on of a setting -/
structure SetOk (H : Hp) (t row : Addr) (v : V) (sl em : Str) (br : Addr) (n m : Int) : Prop where
  tp : H t = some (.tup [.ref row, .int n, .int m])
  rw : H row = some (.tup [v, .str sl, .str em, .ref br])
  tm : TurnMod H v n m
  so : SlotOk sl
  ma : sl = "mask" → ∃ w, v = .int w
  eo : EmptyOk em
  br : BrimAt H br
  n1 : 1 ≤ n
  n2 : n ≤ 1000000000000000000000000000000
  m1 : 1 ≤ m
  m2 : m ≤ 10000000000000000000000000000000
  dv : m % n = 0
  of : sl = "off" → m ≤ 2 * n
def spSetting : Sp := fun vs H Q _ => ∃ p c ns, vs = [.ref p] ∧ PoolAt H p c ns ∧ ∀ t row v sl em br n m H', SetOk H' t row v sl em br n m → PoolAt H' p c ns → Kp p H H' → Q (.ref t) H'
/-! ### the mathematics -/
theorem two_cast (k : Nat) : (2 : Int) ^ k = ((2 ^ k : Nat) : Int) := by rw [Int.natCast_pow]; rfl
theorem two_le {j k : Nat} (h : j ≤ k) : (2 : Int) ^ j ≤ 2 ^ k := by
  rw [two_cast, two_cast]
  exact Int.ofNat_le.mpr (Nat.pow_le_pow_right (by decide) h)
theorem two_pos (k : Nat) : (1 : Int) ≤ 2 ^ k := by
  rw [two_cast]
  have := Nat.pow_pos (n := k) (show 0 < 2 by decide)
  omega
theorem two_dvd {j k : Nat} (h : j ≤ k) : (2 : Int) ^ k % 2 ^ j = 0 := by
  rw [two_cast, two_cast]
  have := Nat.mod_eq_zero_of_dvd (Nat.pow_dvd_pow 2 h)
  omega
theorem more_ok {n r : Int} (h1 : 1 ≤ n) (h0 : 0 ≤ r) : 0 ≤ n * (r % (1 + 20 / n)) ∧ n * (r % (1 + 20 / n)) ≤ 20 ∧ n * (r % (1 + 20 / n)) % n = 0 := by
  have d0 : 0 ≤ 20 / n := Int.ediv_nonneg (by decide) (by omega)
  have e0 := Int.emod_nonneg r (show 1 + 20 / n ≠ 0 by omega)
  have e1 := Int.emod_lt_of_pos r (show 0 < 1 + 20 / n by omega)
  have f := Int.mul_ediv_self_le (x := 20) (k := n) (by omega)
  have g : n * (r % (1 + 20 / n)) ≤ n * (20 / n) := Int.mul_le_mul_of_nonneg_left (by omega) (by omega)
  exact ⟨Int.mul_nonneg (by omega) e0, by omega, Int.mul_emod_right _ _⟩
theorem mod_ok {a n b : Int} (h1 : 1 ≤ n) (h2 : n ≤ 1000000000000000000000000000000) (a1 : 1 ≤ a) (a4 : a ≤ 4) (b0 : 0 ≤ b) (b20 : b ≤ 20) (d : b % n = 0) :
    1 ≤ a * n + b ∧ a * n + b ≤ 10000000000000000000000000000000 ∧ (a * n + b) % n = 0 := by
  have h : a = 1 ∨ a = 2 ∨ a = 3 ∨ a = 4 := by omega
  have e : (a * n + b) % n = 0 := by
    rw [Int.add_comm, Int.add_mul_emod_self_right]
    exact d
  refine ⟨?_, ?_, e⟩
  · rcases h with rfl | rfl | rfl | rfl <;> omega
  · rcases h with rfl | rfl | rfl | rfl <;> omega
section
variable {P : Program} {w : World} {K : PySem.W.Frag} {mg : Str → Option Value} {base : Heap}
theorem scSetting : FnScope ["_law_pool_here", "_law_many", "_law_brim", "_law_bare", "_law_n", "_law_more", "_law_kind", "_law_modulus", "_law_rule", "_law_wide_here"] ["_law_pool_here"] (defScope sSetting) := ⟨rfl, rfl, rfl, by decide +kernel, rfl, by decide +kernel, by decide +kernel⟩
theorem ok_setting (T : Tx K mg) (D : Dg K mg "_law_setting" sSetting) (c_law_draw : C8.Cal P w K mg base 2 "_law_draw" spDraw []) (c_law_wide : C8.Cal P w K mg base 3 "_law_wide" spWide []) (c_law_power : C8.Cal P w K mg base 1 "_law_power" spPower []) :
    C8.Cal P w K mg base 4 "_law_setting" spSetting [] := by
  refine cal_of D scSetting (fun _ _ _ _ _ _ us hl => match us, hl with | [_], _ => rfl) ?_ ?_
  · rintro vs H Q E ⟨p, c, ns, rfl, _⟩; rfl
  · rintro f cdv A outer s' H vs Q E hr ⟨p, c, ns, rfl, hP, q⟩
    refine ⟨_, pss_cons (ps_set (i := 1) scSetting.nd rfl (Or.inl rfl) (pe_op op_add pe_int (C8.pe_c c_law_draw hr (by decide) rfl (pa_cons (pv 0) (pa_cons pe_int pa_nil)))))
      (C8.pss_cut (ps_set (i := 2) scSetting.nd rfl (Or.inl rfl) (pe_ix ix_tup (pe_tup (pa_cons (pe_tup (pa_cons pe_str pa_nil)) (pa_cons (pe_tup (pa_cons pe_str pa_nil)) (pa_cons (pe_tup (pa_cons pe_str (pa_cons pe_str (pa_cons (pe_tup (pa_cons pe_int (pa_cons pe_int pa_nil))) pa_nil))))
          (pa_cons (pe_tup (pa_cons pe_str (pa_cons pe_str (pa_cons (pe_tup (pa_cons pe_int (pa_cons pe_int pa_nil))) pa_nil)))) pa_nil))))) (C8.pe_c c_law_draw hr (by decide) rfl (pa_cons (pv 0) (pa_cons pe_int pa_nil))) (fun _ _ => rfl)))
      (C8.pss_cut (ps_set (i := 3) scSetting.nd rfl (Or.inl rfl) (pe_ix ix_tup (pe_tup (pa_cons pe_str (pa_cons pe_str (pa_cons pe_str pa_nil)))) (C8.pe_c c_law_draw hr (by decide) rfl (pa_cons (pv 0) (pa_cons pe_int pa_nil))) (fun _ _ => rfl)))
      (pss_cons (ps_if (pt_cmpR op_eq (C8.pe_c c_law_draw hr (by decide) rfl (pa_cons (pv 0) (pa_cons pe_int pa_nil))) pe_int (nomark _))
        (pss_cons (ps_set (i := 4) scSetting.nd rfl (Or.inl rfl) (pe_op op_add pe_int (C8.pe_c c_law_draw hr (by decide) rfl (pa_cons (pv 0) (pa_cons pe_int pa_nil)))))
        (pss_cons (ps_set (i := 5) scSetting.nd rfl (Or.inl rfl) pe_int)
        (pss_cons (ps_set (i := 6) scSetting.nd rfl (Or.inl rfl) (C8.pe_c c_law_draw hr (by decide) rfl (pa_cons (pv 0) (pa_cons pe_int pa_nil))))
        (C8.pss_cut (ps_if (pt_cmpR op_eq (pv 6) pe_int (nomark _))
          (pss_one (ps_set (i := 5) scSetting.nd rfl (Or.inl rfl) (pe_op op_mul (pv 4) (pe_op op_mod (pe_callTy call_int1 (by rfl) T.fInt (by decide +kernel) (pa_cons (C8.pe_c c_law_draw hr (by decide) rfl (pa_cons (pv 0) (pa_cons pe_int pa_nil))) pa_nil)) (pe_op op_add pe_int (pe_op op_fdiv pe_int (pv 4))))))) pss_nil)
        (C8.pss_cut (ps_if (pt_cmpR op_eq (pv 6) pe_int (nomark _))
          (pss_one (ps_set (i := 4) scSetting.nd rfl (Or.inl rfl) (pe_op op_add pe_int (C8.pe_c c_law_wide hr (by decide) rfl (pa_cons (pv 0) (pa_cons (pe_op op_sub (pe_op op_pow pe_int pe_int) pe_int) pa_nil)))))) pss_nil)
        (pss_cons (ps_set (i := 7) scSetting.nd rfl (Or.inl rfl) (pe_op op_add (pe_op op_mul (pv 1) (pv 4)) (pv 5)))
        (C8.pss_cut (ps_set (i := 8) scSetting.nd rfl (Or.inl rfl) (pe_ix ix_tup (pe_tup (pa_cons pe_str (pa_cons pe_str pa_nil))) (pe_op op_mul (pe_callTy call_int1 (by rfl) T.fInt (by decide +kernel) (pa_cons (pe_cmpR op_le (pv 7) (pe_op op_mul pe_int (pv 4)) (nomark _)) pa_nil)) (C8.pe_c c_law_draw hr (by decide) rfl (pa_cons (pv 0) (pa_cons pe_int pa_nil)))) (fun _ _ => rfl)))
        (pss_one (ps_ret (pe_tup (pa_cons (pe_tup (pa_cons (pe_tup (pa_cons (pv 1) (pa_cons (pv 5) pa_nil))) (pa_cons (pv 8) (pa_cons (pv 3) (pa_cons (pv 2) pa_nil))))) (pa_cons (pv 4) (pa_cons (pv 7) pa_nil)))))))))))))
        pss_nil)
      (C8.pss_cut (ps_set (i := 9) scSetting.nd rfl (Or.inl rfl) (pe_op op_add pe_int (pe_ix ix_tup (pe_tup (pa_cons (C8.pe_c c_law_draw hr (by decide) rfl (pa_cons (pv 0) (pa_cons pe_int pa_nil))) (pa_cons (C8.pe_c c_law_draw hr (by decide) rfl (pa_cons (pv 0) (pa_cons pe_int pa_nil))) pa_nil))) (C8.pe_c c_law_draw hr (by decide) rfl (pa_cons (pv 0) (pa_cons pe_int pa_nil))) (fun _ _ => rfl))))
      (pss_cons (ps_set (i := 7) scSetting.nd rfl (Or.inl rfl) (C8.pe_c c_law_power hr (by decide) rfl (pa_cons (pv 9) pa_nil)))
      (pss_cons (ps_set (i := 4) scSetting.nd rfl (Or.inl rfl) (C8.pe_c c_law_power hr (by decide) rfl (pa_cons (pe_op op_mod (pe_callTy call_int1 (by rfl) T.fInt (by decide +kernel) (pa_cons (C8.pe_c c_law_draw hr (by decide) rfl (pa_cons (pv 0) (pa_cons pe_int pa_nil))) pa_nil))
          (pe_op op_add (pv 9) (pe_callTy call_int1 (by rfl) T.fInt (by decide +kernel) (pa_cons (pe_cmpR op_lt (pv 9) pe_int (nomark _)) pa_nil)))) pa_nil)))
      (C8.pss_cut (ps_set (i := 8) scSetting.nd rfl (Or.inl rfl) (pe_ix ix_tup (pe_tup (pa_cons pe_str (pa_cons pe_str (pa_cons pe_str pa_nil)))) (C8.pe_c c_law_draw hr (by decide) rfl (pa_cons (pv 0) (pa_cons (pe_op op_add pe_int (pe_callTy call_int1 (by rfl) T.fInt (by decide +kernel)
          (pa_cons (pe_cmpR op_le (pv 7) (pe_op op_mul pe_int (pv 4)) (nomark _)) pa_nil))) pa_nil))) (fun _ _ => rfl)))
      (pss_one (ps_ret (pe_tup (pa_cons (pe_tup (pa_cons (pv 9) (pa_cons (pv 8) (pa_cons (pv 3) (pa_cons (pv 2) pa_nil))))) (pa_cons (pv 4) (pa_cons (pv 7) pa_nil))))))))))))), ?_⟩
    refine ⟨_, rfl, p, c, ns, 4, rfl, hP, by decide, by decide, fun ra H1 a0 a1 hP1 k1 => ⟨1, ra, rfl, rfl, ?_⟩⟩
    -- the brim
    refine ⟨fun σ' H' => ∃ br, σ' = [some (.ref p), some (.int (1 + ra)), some (.ref br), none, none, none, none, none, none, none] ∧ BrimAt H' br ∧ PoolAt H' p c ns ∧ Kp p H H', ?_, ?_⟩
    · refine ⟨(by show 1 ≤ sizeLine; decide), fun t1 h1 => ⟨(by show 1 ≤ sizeLine; decide), fun t2 h2 => ⟨(by show 2 ≤ sizeLine; decide), fun t3 h3 => ⟨(by show 3 ≤ sizeLine; decide), fun t4 h4 => ⟨(by show 2 ≤ sizeLine; decide), fun t5 h5 => ⟨(by show 3 ≤ sizeLine; decide), fun t6 h6 => ⟨(by show 4 ≤ sizeLine; decide), fun t7 h7 => ?_⟩⟩⟩⟩⟩⟩⟩
      have s2 := same_upd (o := .tup [.str "note"]) h2
      have s3 := same_upd (o := .tup [.int 1, .int 0]) h3
      have s4 := same_upd (o := .tup [.str "diff", .str "=", .ref t3]) h4
      have s5 := same_upd (o := .tup [.int 0, .int 3]) h5
      have s6 := same_upd (o := .tup [.str "count", .str ">=", .ref t5]) h6
      have s7 := same_upd (o := .tup [.ref t1, .ref t2, .ref t4, .ref t6]) h7
      have hP7 := (hP1.same ((same_upd (o := .tup [.str "next"]) h1).trans (s2.trans (s3.trans (s4.trans (s5.trans (s6.trans s7)))))))
      have k7 := k1.trans (Rg.Same.kp ((same_upd (o := .tup [.str "next"]) h1).trans (s2.trans (s3.trans (s4.trans (s5.trans (s6.trans s7)))))))
      refine ⟨_, rfl, p, c, ns, 4, rfl, hP7, by decide, by decide, fun r H2 r0 r4 hP2 k2 => ?_⟩
      have hr4 : r = 0 ∨ r = 1 ∨ r = 2 ∨ r = 3 := by omega
      have ht := tup_kp hP7 k2 upd_same
      rcases hr4 with rfl | rfl | rfl | rfl
      · refine ⟨t7, _, 0, .ref t1, rfl, rfl, SqT.of ht, rfl, t1, rfl, BrimAt.kp hP7 k2 (.inl ⟨"next", ?_, by decide +kernel⟩), hP2, k7.trans k2⟩
        exact (s2.trans (s3.trans (s4.trans (s5.trans (s6.trans s7))))) _ _ upd_same
      · refine ⟨t7, _, 1, .ref t2, rfl, rfl, SqT.of ht, rfl, t2, rfl, BrimAt.kp hP7 k2 (.inl ⟨"note", ?_, by decide +kernel⟩), hP2, k7.trans k2⟩
        exact (s3.trans (s4.trans (s5.trans (s6.trans s7)))) _ _ upd_same
      · refine ⟨t7, _, 2, .ref t4, rfl, rfl, SqT.of ht, rfl, t4, rfl, BrimAt.kp hP7 k2 (.inr ⟨"diff", "=", t3, 1, 0, ?_, ?_, by decide +kernel, by decide +kernel, by decide, by decide, by decide, by decide⟩), hP2, k7.trans k2⟩
        · exact (s5.trans (s6.trans s7)) _ _ upd_same
        · exact (s4.trans (s5.trans (s6.trans s7))) _ _ upd_same
      · refine ⟨t7, _, 3, .ref t6, rfl, rfl, SqT.of ht, rfl, t6, rfl, BrimAt.kp hP7 k2 (.inr ⟨"count", ">=", t5, 0, 3, ?_, ?_, by decide +kernel, by decide +kernel, by decide, by decide, by decide, by decide⟩), hP2, k7.trans k2⟩
        · exact s7 _ _ upd_same
        · exact (s6.trans s7) _ _ upd_same
    · rintro _ H2 ⟨br, rfl, hbr, hP2, k2⟩
      -- the bare
      refine ⟨fun σ' H' => ∃ em, σ' = [some (.ref p), some (.int (1 + ra)), some (.ref br), some (.str em), none, none, none, none, none, none] ∧ EmptyOk em ∧ BrimAt H' br ∧ PoolAt H' p c ns ∧ Kp p H H', ?_, ?_⟩
      · refine ⟨(by show 3 ≤ sizeLine; decide), fun t1 h1 => ?_⟩
        have s1 := same_upd (o := .tup [.str "same", .str "count", .str "note"]) h1
        have hP3 := hP2.same s1
        refine ⟨_, rfl, p, c, ns, 3, rfl, hP3, by decide, by decide, fun r H3 r0 r3 hP4 k3 => ?_⟩
        have k4 := k2.trans ((Rg.Same.kp s1).trans k3)
        have hb := BrimAt.kp hP3 k3 (hbr.same s1)
        have ht := tup_kp hP3 k3 upd_same
        have hr3 : r = 0 ∨ r = 1 ∨ r = 2 := by omega
        rcases hr3 with rfl | rfl | rfl
        · exact ⟨t1, _, 0, .str "same", rfl, rfl, SqT.of ht, rfl, "same", rfl, by unfold EmptyOk; decide +kernel, hb, hP4, k4⟩
        · exact ⟨t1, _, 1, .str "count", rfl, rfl, SqT.of ht, rfl, "count", rfl, by unfold EmptyOk; decide +kernel, hb, hP4, k4⟩
        · exact ⟨t1, _, 2, .str "note", rfl, rfl, SqT.of ht, rfl, "note", rfl, by unfold EmptyOk; decide +kernel, hb, hP4, k4⟩
      · rintro _ H3 ⟨em, rfl, hem, hbr3, hP3, k3⟩
        refine ⟨_, rfl, p, c, ns, 2, rfl, hP3, by decide, by decide, fun rb H4 _ _ hP4 k4' => ⟨rfl, _, rfl, ?_⟩⟩
        have k4 := k3.trans k4'
        have hbr4 := BrimAt.kp hP3 k4' hbr3
        refine ite2 (fun _ => ?_) (fun _ => ?_)
        · -- forms
          refine ⟨_, rfl, p, c, ns, 16, rfl, hP4, by decide, by decide, fun rn H5 n0 n16 hP5 k5 => ⟨1, rn, rfl, rfl, ?_⟩⟩
          refine ⟨_, rfl, p, c, ns, 3, rfl, hP5, by decide, by decide, fun kind H6 _ _ hP6 k6 => ?_⟩
          have hbr6 := BrimAt.kp hP5 k6 (BrimAt.kp hP4 k5 hbr4)
          have kk6 := k4.trans (k5.trans k6)
          refine ⟨fun σ' H' => ∃ b : Int, σ' = [some (.ref p), some (.int (1 + ra)), some (.ref br), some (.str em), some (.int (1 + rn)), some (.int b), some (.int kind), none, none, none] ∧ 0 ≤ b ∧ b ≤ 20 ∧ b % (1 + rn) = 0 ∧ (kind = 1 → b = 0) ∧ BrimAt H' br ∧ PoolAt H' p c ns ∧ Kp p H H', ?_, ?_⟩
          · refine ⟨_, rfl, rfl, _, rfl, ite2 (fun hk => ?_) (fun _ => ?_)⟩
            · refine ⟨_, rfl, _, rfl, p, c, ns, 21, rfl, hP6, by decide, by decide, fun r H7 r0 r21 hP7 k7 => .inl ⟨r, rfl, ?_⟩⟩
              refine ⟨_, rfl, 20, 1 + rn, rfl, rfl, ⟨by omega, by omega⟩, 1, 20 / (1 + rn), rfl, rfl, r, 1 + 20 / (1 + rn), rfl, rfl, ?_, 1 + rn, r % (1 + 20 / (1 + rn)), rfl, rfl, .inl ⟨by omega, by omega⟩, ?_⟩
              · have : 0 ≤ 20 / (1 + rn) := Int.ediv_nonneg (by decide) (by omega)
                show (0 : Int) < 1 + 20 / (1 + rn)
                omega
              · obtain ⟨m0, m20, md⟩ := more_ok (n := 1 + rn) (r := r) (by omega) r0
                refine ⟨_, rfl, m0, m20, md, fun z => ?_, BrimAt.kp hP6 k7 hbr6, hP7, kk6.trans k7⟩
                have := V.int.inj (of_decide_eq_true hk)
                omega
            · exact ⟨0, rfl, by decide, by decide, Int.zero_emod _, fun _ => rfl, hbr6, hP6, kk6⟩
          · rintro _ H7 ⟨b, rfl, b0, b20, bd, bk, hbr7, hP7, k7⟩
            refine ⟨fun σ' H' => ∃ n : Int, σ' = [some (.ref p), some (.int (1 + ra)), some (.ref br), some (.str em), some (.int n), some (.int b), some (.int kind), none, none, none] ∧ 1 ≤ n ∧ n ≤ 1000000000000000000000000000000 ∧ b % n = 0 ∧ BrimAt H' br ∧ PoolAt H' p c ns ∧ Kp p H H', ?_, ?_⟩
            · refine ⟨_, rfl, rfl, _, rfl, ite2 (fun hk => ?_) (fun _ => ?_)⟩
              · refine ⟨_, rfl, 10, 30, rfl, rfl, ⟨by decide, by decide, by decide⟩, _, 1, rfl, rfl, p, c, ns, _, rfl, hP7, by decide, fun r H8 r0 r1 hP8 k8 => ⟨1, r, rfl, rfl, 1 + r, rfl, by omega, ?_, ?_, BrimAt.kp hP7 k8 hbr7, hP8, k7.trans k8⟩⟩
                · have e : (10 : Int) ^ Int.toNat 30 = 1000000000000000000000000000000 := by decide
                  have r1' : r ≤ 10 ^ Int.toNat 30 - 1 := r1
                  rw [e] at r1'
                  omega
                · rw [bk (V.int.inj (of_decide_eq_true hk))]
                  exact Int.zero_emod _
              · exact ⟨1 + rn, rfl, by omega, by omega, bd, hbr7, hP7, k7⟩
            · rintro _ H8 ⟨n, rfl, n1, n2, nd, hbr8, hP8, k8⟩
              obtain ⟨m1, m2, md⟩ := mod_ok n1 n2 (show 1 ≤ 1 + ra by omega) (by omega) b0 b20 nd
              refine ⟨_, rfl, _, rfl, 1 + ra, n, rfl, rfl, .inl ⟨by omega, by omega⟩, _, rfl, (1 + ra) * n, b, rfl, rfl, ?_⟩
              have tmod : ∀ H' : Hp, ∀ t, H' t = some (.tup [.int (1 + ra), .int b]) → TurnMod H' (.ref t) n ((1 + ra) * n + b) := fun H' t ht => .inr ⟨t, 1 + ra, b, rfl, ht, by omega, by omega, by omega, b20, rfl⟩
              revert m1 m2 md tmod
              generalize hmm : (1 + ra) * n + b = m
              intro m1 m2 md tmod
              have e7 : V.int ((1 + ra) * n + b) = V.int m := by rw [hmm]
              refine ⟨fun σ' H' => ∃ sl, σ' = [some (.ref p), some (.int (1 + ra)), some (.ref br), some (.str em), some (.int n), some (.int b), some (.int kind), some (.int m), some (.str sl), none] ∧ SlotOk sl ∧ sl ≠ "mask" ∧ (sl = "off" → m ≤ 2 * n) ∧ BrimAt H' br ∧ PoolAt H' p c ns ∧ Kp p H H', ?_, ?_⟩
              · refine ⟨(by show 2 ≤ sizeLine; decide), fun t1 h1 => ?_⟩
                have s1 := same_upd (o := .tup [.str "rest", .str "off"]) h1
                have hP9 := hP8.same s1
                refine ⟨_, rfl, _, rfl, 2, n, rfl, rfl, .inl ⟨by decide, by decide⟩, (1 + ra) * n + b, 2 * n, rfl, rfl, .inr ⟨_, rfl, ?_⟩⟩
                refine ⟨_, rfl, p, c, ns, 2, rfl, hP9, by decide, by decide, fun r H9 r0 r2 hP10 k9 => ?_⟩
                have kk := k8.trans ((Rg.Same.kp s1).trans k9)
                have hb := BrimAt.kp hP9 k9 (hbr8.same s1)
                have ht := tup_kp hP9 k9 upd_same
                have hr2 : r = 0 ∨ r = 1 := by omega
                rw [hmm]
                by_cases hle : m ≤ 2 * n
                · rw [decide_eq_true hle]
                  rcases hr2 with rfl | rfl
                  · exact ⟨1, 0, rfl, rfl, .inl ⟨by decide, by decide⟩, t1, _, 0, .str "rest", rfl, rfl, SqT.of ht, rfl, "rest", (by subst hmm; rfl), by unfold SlotOk; decide +kernel, by decide +kernel, fun _ => hle, hb, hP10, kk⟩
                  · exact ⟨1, 1, rfl, rfl, .inl ⟨by decide, by decide⟩, t1, _, 1, .str "off", rfl, rfl, SqT.of ht, rfl, "off", (by subst hmm; rfl), by unfold SlotOk; decide +kernel, by decide +kernel, fun _ => hle, hb, hP10, kk⟩
                · rw [decide_eq_false hle]
                  rcases hr2 with rfl | rfl
                  · exact ⟨0, 0, rfl, rfl, .inl ⟨by decide, by decide⟩, t1, _, 0, .str "rest", rfl, rfl, SqT.of ht, rfl, "rest", (by subst hmm; rfl), by unfold SlotOk; decide +kernel, by decide +kernel, fun z => absurd z (by decide +kernel), hb, hP10, kk⟩
                  · exact ⟨0, 1, rfl, rfl, .inl ⟨by decide, by decide⟩, t1, _, 0, .str "rest", rfl, rfl, SqT.of ht, rfl, "rest", (by subst hmm; rfl), by unfold SlotOk; decide +kernel, by decide +kernel, fun z => absurd z (by decide +kernel), hb, hP10, kk⟩
              · rintro _ H9 ⟨sl, rfl, hsl, hnm, hoff, hbr9, hP9, k9⟩
                refine ⟨_, rfl, _, rfl, (by show 2 ≤ sizeLine; decide), fun t1 h1 => ⟨_, rfl, _, rfl, _, rfl, (by show 4 ≤ sizeLine; decide), fun t2 h2 => ⟨_, rfl, _, rfl, (by show 3 ≤ sizeLine; decide), fun t3 h3 => ?_⟩⟩⟩
                have s1 := same_upd (o := .tup [.int (1 + ra), .int b]) h1
                have s2 := same_upd (o := .tup [.ref t1, .str sl, .str em, .ref br]) h2
                have s3 := same_upd (o := .tup [.ref t2, .int n, .int m]) h3
                have s13 := s1.trans (s2.trans s3)
                exact q t3 t2 (.ref t1) sl em br n m _ ⟨upd_same, s3 _ _ upd_same, tmod _ _ ((s2.trans s3) _ _ upd_same), hsl, fun z => absurd z hnm, hem, hbr9.same s13, n1, n2, m1, m2, md, hoff⟩ (hP9.same s13) (k9.trans (Rg.Same.kp s13))
        · -- widths
          refine ⟨fun σ' H' => ∃ w : Int, σ' = [some (.ref p), some (.int (1 + ra)), some (.ref br), some (.str em), none, none, none, none, none, some (.int w)] ∧ 1 ≤ w ∧ w ≤ 100 ∧ BrimAt H' br ∧ PoolAt H' p c ns ∧ Kp p H H', ?_, ?_⟩
          · refine ⟨_, rfl, p, c, ns, 6, rfl, hP4, by decide, by decide, fun r6 H5 u0 u6 hP5 k5 => ?_⟩
            refine ⟨_, rfl, p, c, ns, 100, rfl, hP5, by decide, by decide, fun r7 H6 v0 v7 hP6 k6 => ⟨(by show 2 ≤ sizeLine; decide), fun t1 h1 => ?_⟩⟩
            have s1 := same_upd (o := .tup [.int r6, .int r7]) h1
            have hP7 := hP6.same s1
            refine ⟨_, rfl, p, c, ns, 2, rfl, hP7, by decide, by decide, fun r H7 r0 r2 hP8 k8 => ?_⟩
            have kk8 := k4.trans (k5.trans (k6.trans ((Rg.Same.kp s1).trans k8)))
            have hbr8 := BrimAt.kp hP7 k8 ((BrimAt.kp hP5 k6 (BrimAt.kp hP4 k5 hbr4)).same s1)
            have ht := tup_kp hP7 k8 upd_same
            have hr2 : r = 0 ∨ r = 1 := by omega
            rcases hr2 with rfl | rfl
            · exact ⟨t1, _, 0, .int r6, rfl, rfl, SqT.of ht, rfl, 1, r6, rfl, rfl, 1 + r6, rfl, by omega, by omega, hbr8, hP8, kk8⟩
            · exact ⟨t1, _, 1, .int r7, rfl, rfl, SqT.of ht, rfl, 1, r7, rfl, rfl, 1 + r7, rfl, by omega, by omega, hbr8, hP8, kk8⟩
          · rintro _ H5 ⟨w, rfl, w1, w100, hbr5, hP5, k5⟩
            refine ⟨_, rfl, w, rfl, by omega, by omega, ?_⟩
            refine ⟨_, rfl, p, c, ns, 100, rfl, hP5, by decide, by decide, fun r H6 r0 r100 hP6 k6 => .inl ⟨r, rfl, ?_⟩⟩
            have hbr6 := BrimAt.kp hP5 k6 hbr5
            have k7 := k5.trans k6
            refine ⟨_, rfl, _, rfl, w, 100, rfl, rfl, .inr ⟨_, rfl, ?_⟩⟩
            obtain ⟨d, hd⟩ : ∃ d : Int, w + (if decide (w < 100) = true then 1 else 0) = d := ⟨_, rfl⟩
            have hd2 : 1 ≤ d ∧ d ≤ w + 1 ∧ d ≤ 100 := by
              rw [← hd]
              by_cases h : w < 100
              · rw [if_pos (decide_eq_true h)]
                omega
              · rw [if_neg (by rw [decide_eq_false h]; exact Bool.false_ne_true)]
                omega
            refine ⟨w, _, rfl, rfl, r, d, rfl, congrArg V.int hd, show 0 < d by omega, ?_⟩
            have j0 := Int.emod_nonneg r (show d ≠ 0 by omega)
            have j1 := Int.emod_lt_of_pos r (show 0 < d by omega)
            refine ⟨r % d, rfl, j0, by omega, ?_⟩
            revert j0 j1
            generalize r % d = j
            intro j0 j1
            obtain ⟨n, hn⟩ : ∃ n : Int, 2 ^ j.toNat = n := ⟨_, rfl⟩
            obtain ⟨m, hm⟩ : ∃ m : Int, 2 ^ w.toNat = m := ⟨_, rfl⟩
            have n1 : 1 ≤ n := hn ▸ two_pos _
            have m1 : 1 ≤ m := hm ▸ two_pos _
            have n2 : n ≤ 1000000000000000000000000000000 := by
              have := two_le (show j.toNat ≤ 99 by omega)
              rw [hn] at this
              exact Int.le_trans this (by decide)
            have m2 : m ≤ 10000000000000000000000000000000 := by
              have := two_le (show w.toNat ≤ 100 by omega)
              rw [hm] at this
              exact Int.le_trans this (by decide)
            have md : m % n = 0 := by
              rw [← hm, ← hn]
              exact two_dvd (by omega)
            refine ⟨fun σ' H' => ∃ sl, σ' = [some (.ref p), some (.int (1 + ra)), some (.ref br), some (.str em), some (.int n), none, none, some (.int m), some (.str sl), some (.int w)] ∧ SlotOk sl ∧ (sl = "off" → m ≤ 2 * n) ∧ BrimAt H' br ∧ PoolAt H' p c ns ∧ Kp p H H', ?_, ?_⟩
            · refine ⟨(by show 3 ≤ sizeLine; decide), fun t1 h1 => ?_⟩
              have s1 := same_upd (o := .tup [.str "rest", .str "mask", .str "off"]) h1
              have hP7 := hP6.same s1
              refine ⟨_, rfl, _, rfl, _, rfl, 2, 2 ^ j.toNat, rfl, rfl, .inl ⟨by decide, by decide⟩, 2 ^ w.toNat, 2 * 2 ^ j.toNat, rfl, rfl, .inr ⟨_, rfl, ?_⟩⟩
              rw [hm, hn]
              by_cases hle : m ≤ 2 * n
              · rw [decide_eq_true hle]
                refine ⟨2, 1, rfl, rfl, p, c, ns, 3, rfl, hP7, by decide, by decide, fun r H9 r0 r3 hP9 k9 => ?_⟩
                have kk := k7.trans ((Rg.Same.kp s1).trans k9)
                have hb := BrimAt.kp hP7 k9 (hbr6.same s1)
                have ht := tup_kp hP7 k9 upd_same
                have hr3 : r = 0 ∨ r = 1 ∨ r = 2 := by omega
                rcases hr3 with rfl | rfl | rfl
                · exact ⟨t1, _, 0, .str "rest", rfl, rfl, SqT.of ht, rfl, "rest", (by subst hm hn; rfl), by unfold SlotOk; decide +kernel, fun _ => hle, hb, hP9, kk⟩
                · exact ⟨t1, _, 1, .str "mask", rfl, rfl, SqT.of ht, rfl, "mask", (by subst hm hn; rfl), by unfold SlotOk; decide +kernel, fun _ => hle, hb, hP9, kk⟩
                · exact ⟨t1, _, 2, .str "off", rfl, rfl, SqT.of ht, rfl, "off", (by subst hm hn; rfl), by unfold SlotOk; decide +kernel, fun _ => hle, hb, hP9, kk⟩
              · rw [decide_eq_false hle]
                refine ⟨2, 0, rfl, rfl, p, c, ns, 2, rfl, hP7, by decide, by decide, fun r H9 r0 r2 hP9 k9 => ?_⟩
                have kk := k7.trans ((Rg.Same.kp s1).trans k9)
                have hb := BrimAt.kp hP7 k9 (hbr6.same s1)
                have ht := tup_kp hP7 k9 upd_same
                have hr2 : r = 0 ∨ r = 1 := by omega
                rcases hr2 with rfl | rfl
                · exact ⟨t1, _, 0, .str "rest", rfl, rfl, SqT.of ht, rfl, "rest", (by subst hm hn; rfl), by unfold SlotOk; decide +kernel, fun z => absurd z (by decide +kernel), hb, hP9, kk⟩
                · exact ⟨t1, _, 1, .str "mask", rfl, rfl, SqT.of ht, rfl, "mask", (by subst hm hn; rfl), by unfold SlotOk; decide +kernel, fun z => absurd z (by decide +kernel), hb, hP9, kk⟩
            · rintro _ H9 ⟨sl, rfl, hsl, hoff, hbr9, hP9, k9⟩
              refine ⟨_, rfl, _, rfl, _, rfl, _, rfl, (by show 4 ≤ sizeLine; decide), fun t2 h2 => ⟨_, rfl, _, rfl, (by show 3 ≤ sizeLine; decide), fun t3 h3 => ?_⟩⟩
              have s2 := same_upd (o := .tup [.int w, .str sl, .str em, .ref br]) h2
              have s3 := same_upd (o := .tup [.ref t2, .int n, .int m]) h3
              have s13 := s2.trans s3
              exact q t3 t2 (.int w) sl em br n m _ ⟨upd_same, s3 _ _ upd_same, .inl ⟨w, rfl, w1, w100, hm.symm⟩, hsl, fun _ => ⟨w, rfl⟩, hem, hbr9.same s13, n1, n2, m1, m2, md, hoff⟩ (hP9.same s13) (k9.trans (Rg.Same.kp s13))
end
end Rg
namespace Rg
open PySem L2 RgX
abbrev sLaw : Stmt := top 60
def spLaw (K : PySem.W.Frag) : Sp := fun vs H Q _ => ∃ (a : Addr) (ns : List Int), vs = [.ref a] ∧ SqL K H a (ns.map V.int) ∧ ns.length ≤ 63 ∧ ∀ H', Q (.bl true) H'
/-- what stands at the loop's head -/
structure LoopAt (K : PySem.W.Frag) (H : Hp) (p c : Addr) (ns : List Int) (g dg r dr : Addr) (m n total at_ lag begin read gone : Int) : Prop where
  pool : PoolAt H p c ns
  log : LogAt K H g dg m n total
  rd : RdAt K H r dr g at_
  lg : lag = total - at_
  p0 : 0 ≤ at_
  l0 : 0 ≤ lag
  lm : lag < m
  sum : read + gone + lag = total - begin
theorem pool_ins {H : Hp} {p c : Addr} {ns : List Int} {x C dx : Addr} {fs : List (Str × V)} (h : PoolAt H p c ns) (e : H x = some (.ins C dx fs)) : x ≠ p ∧ x ≠ c := by
  obtain ⟨_, h2, a, b, d, e', _, h3⟩ := h
  exact ⟨ne_of e h3 (by intro z; cases z), ne_of e h2 (by intro z; cases z)⟩
theorem rd_log {K : PySem.W.Frag} {H : Hp} {g dg r dr : Addr} {m n l p : Int} (a : LogAt K H g dg m n l) (b : RdAt K H r dr g p) : g ≠ r :=
  ne_of a b (by intro z; injection z with _ _ e; exact absurd (show 3 = 2 from congrArg List.length e) (by decide))
section
variable {P : Program} {w : World} {K : PySem.W.Frag} {mg : Str → Option Value} {base : Heap}
theorem scLaw : FnScope ["_law_script", "_law_pool_here", "_law_scheme", "_law_book", "_law_total", "_law_behind", "_law_reader", "_law_lag", "_law_begin", "_law_read", "_law_gone", "_law_k", "_law_row", "_law_n", "_law_modulus", "_law_many"] ["_law_script"] (defScope sLaw) := ⟨rfl, rfl, rfl, by decide +kernel, rfl, by decide +kernel, by decide +kernel⟩
theorem ok_law {f : Addr} {fd : FuncData} (T : Tx K mg) (F : FnQ K "law" "law" sLaw [] f fd)
    (c_law_pool : C8.Cal P w K mg base 1 "_law_pool" (spPool K) [])
    (c_law_draw : C8.Cal P w K mg base 2 "_law_draw" spDraw [])
    (c_law_wide : C8.Cal P w K mg base 3 "_law_wide" spWide [])
    (c_law_setting : C8.Cal P w K mg base 4 "_law_setting" spSetting [])
    (c_law_made : C8.Cal P w K mg base 6 "_law_made" (spMade K) [])
    (c_law_step : C8.Cal P w K mg base 4 "_law_step" spStep [])
    (c_law_refused : C8.Cal P w K mg base 5 "_law_refused" (spRefused K) [])
    (c_law_reads : C8.Cal P w K mg base 2 "_law_reads" spReads [])
    (mLog : C8.Mak P w K mg base 6 "Log" (cLog K) (spLogI K) [])
    (mRd : MakK P w K mg base (L2.CX P w) 3 "Reader" (cRd K) (spRdI K) 1 ["back"] (fun vs zs => vs ++ zs))
    (mtChange : C8.Met P w K mg base 7 (cSch K) "change" (spChange K) [])
    (ad : Adt P w K mg base 3 (cLog K) (spIadd K))
    (cl : Clt P w K mg base 5 (cRd K) (spCall K))
    (pPut : Prp P w K mg base 1 (cLog K) "put_count" (spPut K))
    (pLag : Prp P w K mg base 3 (cRd K) "lag" (spLag K))
    (pBel : Prp P w K mg base 3 (cRd K) "believed" (spBel K)) : FnOk P w K mg base CX0 9 f fd ["_law_script"] (spLaw K) := by
  refine okB F scLaw ?_ ?_
  · rintro vs H Q E ⟨a, ns, rfl, _⟩; rfl
  · rintro f cdv A outer st H vs Q E hr ⟨sc, ns, rfl, hS, hlen, q⟩
    refine ⟨_, pss_cons (ps_set (i := 1) scLaw.nd rfl (Or.inl rfl) (C8.pe_c c_law_pool hr (by decide) rfl (pa_cons (pv 0) pa_nil)))
      (pss_cons (ps_asg (C8.pe_c c_law_setting hr (by decide) rfl (pa_cons (pv 1) pa_nil)) (pg_tup rfl (pgs_cons (pg_name (i := 12) scLaw.nd rfl (Or.inl rfl)) (pgs_cons (pg_name (i := 13) scLaw.nd rfl (Or.inl rfl)) (pgs_cons (pg_name (i := 14) scLaw.nd rfl (Or.inl rfl)) pgs_nil)))))
      (pss_cons (ps_set (i := 2) scLaw.nd rfl (Or.inl rfl) (C8.pe_c c_law_made hr (by decide) rfl (pa_cons (pv 12) (pa_cons pe_str pa_nil))))
      (pss_cons (ps_set (i := 3) scLaw.nd rfl (Or.inl rfl) (C8.pe_mk mLog hr (by decide) rfl (pa_cons (pv 2) (pa_cons (pv 13) pa_nil))))
      (pss_cons (ps_expr (C8.pe_mt mtChange hr (by decide) (pv 2) (pa_cons pe_str (pa_cons pe_str pa_nil))))
      (pss_cons (ps_expr (C8.pe_mt mtChange hr (by decide) (pv 2) (pa_cons pe_str (pa_cons pe_int pa_nil))))
      (pss_cons (ps_set (i := 4) scLaw.nd rfl (Or.inl rfl) (C8.pe_c c_law_wide hr (by decide) rfl (pa_cons (pv 1) (pa_cons (pe_op op_pow pe_int pe_int) pa_nil))))
      (pss_cons (ps_aug (i := 3) scLaw.nd rfl (Or.inl rfl) (pv 4) (ip_ad ad hr (by decide)))
      (C8.pss_cut (ps_set (i := 5) scLaw.nd rfl (Or.inl rfl) (pe_op op_mod (pe_callTy call_int1 (by rfl) T.fInt (by decide +kernel) (pa_cons (C8.pe_c c_law_wide hr (by decide) rfl (pa_cons (pv 1) (pa_cons (pe_op op_pow pe_int pe_int) pa_nil))) pa_nil))
          (pe_op op_add pe_int (pe_ix ix_tup (pe_tup (pa_cons (pv 4) (pa_cons (pe_op op_sub (pv 14) pe_int) pa_nil))) (pe_callTy call_int1 (by rfl) T.fInt (by decide +kernel) (pa_cons (pe_cmpR op_ge (pv 4) (pv 14) (nomark _)) pa_nil)) (fun _ _ => rfl)))))
      (pss_cons (ps_if (PW.pt (pw_or (pt_not (pt_val (C8.pe_c c_law_refused hr (by decide) rfl (pa_cons (pv 3) (pa_cons (pe_op op_add (pv 4) pe_int) pa_nil))))) (pw_or1 (pt_not (pt_val (C8.pe_c c_law_refused hr (by decide) rfl (pa_cons (pv 3) (pa_cons (pe_un un_neg pe_int) pa_nil))))))))
        (pss_one (ps_ret pe_bl)) pss_nil)
      (pss_cons (ps_set (i := 6) scLaw.nd rfl (Or.inl rfl) (pe_mkK mRd hr (by decide) rfl passL (pa_cons (pv 3) pa_nil) (pk_cons (pv 5) pk_nil)))
      (pss_cons (ps_set (i := 7) scLaw.nd rfl (Or.inl rfl) (pv 5))
      (pss_cons (ps_set (i := 8) scLaw.nd rfl (Or.inl rfl) (pe_op op_sub (pv 4) (pv 5)))
      (pss_cons (ps_set (i := 9) scLaw.nd rfl (Or.inl rfl) pe_int)
      (C8.pss_cut (ps_set (i := 10) scLaw.nd rfl (Or.inl rfl) pe_int)
      (C8.pss_cut (ps_for PassesOwn.never rfl (pi_range1 rfl T.fRange (pa_cons (pe_op op_add pe_int (C8.pe_c c_law_draw hr (by decide) rfl (pa_cons (pv 1) (pa_cons pe_int pa_nil)))) pa_nil)) (pg_name (i := 11) scLaw.nd rfl (Or.inl rfl))
        (pss_cons (ps_if (PW.pt (pw_or (pt_cmpR op_ne (pe_p pLag T.clRd (pv 6) hr (by decide) rfl) (pv 7) (nomark _)) (pw_or1 (pt_cmpR op_ne (pe_p pBel T.clRd (pv 6) hr (by decide) rfl) (pv 7) (nomark _)))))
          (pss_one (ps_ret pe_bl)) pss_nil)
        (pss_one (ps_if (pt_cmpR op_eq (C8.pe_c c_law_draw hr (by decide) rfl (pa_cons (pv 1) (pa_cons pe_int pa_nil))) pe_int (nomark _))
          (pss_cons (ps_set (i := 15) scLaw.nd rfl (Or.inl rfl) (C8.pe_c c_law_step hr (by decide) rfl (pa_cons (pv 1) (pa_cons (pv 7) (pa_cons (pv 14) pa_nil)))))
          (pss_cons (ps_aug (i := 3) scLaw.nd rfl (Or.inl rfl) (pv 15) (ip_ad ad hr (by decide)))
          (pss_cons (ps_set (i := 4) scLaw.nd rfl (Or.inl rfl) (pe_op op_add (pv 4) (pv 15)))
          (pss_one (ps_set (i := 7) scLaw.nd rfl (Or.inl rfl) (pe_op op_add (pv 7) (pv 15)))))))
          (pss_cons (ps_if (pt_not (pt_val (C8.pe_c c_law_reads hr (by decide) rfl (pa_cons (pe_cl cl (pv 6) hr (by decide)) (pa_cons (pv 7) (pa_cons (pv 4) (pa_cons (pv 13) pa_nil)))))))
            (pss_one (ps_ret pe_bl)) pss_nil)
          (C8.pss_cut (ps_if (pt_cmpR op_gt (pv 7) (pv 13) (nomark _))
            (pss_cons (ps_set (i := 10) scLaw.nd rfl (Or.inl rfl) (pe_op op_sub (pe_op op_add (pv 10) (pv 7)) (pv 13)))
            (pss_one (ps_set (i := 7) scLaw.nd rfl (Or.inl rfl) (pv 13)))) pss_nil)
          (pss_one (ps_if (pt_cmpR op_gt (pv 7) pe_int (nomark _))
            (pss_cons (ps_set (i := 9) scLaw.nd rfl (Or.inl rfl) (pe_op op_add (pv 9) pe_int))
            (pss_one (ps_set (i := 7) scLaw.nd rfl (Or.inl rfl) (pe_op op_sub (pv 7) pe_int)))) pss_nil))))))))
      (pss_one (ps_ret (pe_and (pe_cmpR op_eq (pe_op op_add (pe_op op_add (pv 9) (pv 10)) (pv 7)) (pe_op op_sub (pv 4) (pv 8)) (nomark _))
        (pe_and (pe_cmpR op_eq (pe_p pLag T.clRd (pv 6) hr (by decide) rfl) (pv 7) (nomark _)) (pe_one (pe_cmpR op_eq (pe_p pPut T.clLog (pv 3) hr (by decide) rfl) (pv 4) (nomark _)))))))))))))))))))))), ?_⟩
    refine ⟨_, rfl, sc, ns, rfl, hS, by omega, fun p c H1 hP1 s1 _ _ => ?_⟩
    refine ⟨_, rfl, p, c, ns, rfl, hP1, fun t row v sl em br n m H2 S2 hP2 k2 => ?_⟩
    refine ⟨t, _, rfl, SqT.of S2.tp, rfl, .ref row, _, rfl, .int n, _, rfl, .int m, _, rfl, rfl, ?_⟩
    refine ⟨_, rfl, row, v, sl, em, br, n, m, rfl, S2.rw, S2.tm, S2.so, S2.ma, S2.eo, S2.br, fun s ds wv fu H3 eS3 w3 s3 _ => ?_⟩
    have hP3 := hP2.same s3
    refine ⟨_, rfl, _, rfl, fun g dg ng nd ne => ?_⟩
    have s4 : Same H3 (upd (upd H3 dg (.own g)) g (.ins (cLog K) dg [])) := fun b o e => by
      rw [upd_ne (ne_of_none e ng), upd_ne (ne_of_none e nd)]; exact e
    refine ⟨g, dg, s, n, m, ds, wv, sl, .str em, .ref fu, rfl, upd_same, s4 _ _ eS3, w3.same s4, S2.n1, S2.n2, S2.m1, S2.dv, S2.of, rfl, ?_⟩
    have s5 : Same H3 (upd (upd (upd H3 dg (.own g)) g (.ins (cLog K) dg [])) g (.ins (cLog K) dg (fLog m n 0))) := fun b o e => by
      rw [upd_ne (ne_of_none e ng), upd_ne (ne_of_none e ng), upd_ne (ne_of_none e nd)]; exact e
    have eL4 : LogAt K (upd (upd (upd H3 dg (.own g)) g (.ins (cLog K) dg [])) g (.ins (cLog K) dg (fLog m n 0))) g dg m n 0 := upd_same
    revert s5 eL4
    generalize (upd (upd (upd H3 dg (.own g)) g (.ins (cLog K) dg [])) g (.ins (cLog K) dg (fLog m n 0))) = H4
    intro s5 eL4
    have gs : g ≠ s := fun z => ne_of_none eS3 ng z.symm
    have eS4 := s5 _ _ eS3
    have hP4 := hP3.same s5
    obtain ⟨sp, scc⟩ := pool_ins hP4 eS4
    refine ⟨_, rfl, s, ds, _, rfl, eS4, fSch_c .., s, ds, wv, sl, .str em, .ref fu, "over", eS4, .inl ⟨"drop", rfl, (by unfold WhenOk; decide +kernel), fun H5 k5 eS5 => ?_⟩⟩
    refine ⟨_, rfl, s, ds, _, rfl, eS5, fSch_c .., s, ds, wv, sl, .str em, .ref fu, "drop", eS5, .inr ⟨.int 7, rfl, S2.so, .inl ⟨7, rfl, by decide, by decide⟩, fun _ => ⟨7, rfl⟩, fun H6 k6 eS6 => ?_⟩⟩
    have k46 := k5.trans k6
    have hP6 := hP4.kp k46 (Ne.symm sp) (Ne.symm scc)
    have eL6 : LogAt K H6 g dg m n 0 := k46 _ _ gs eL4
    obtain ⟨gp, gc⟩ := pool_ins hP6 eL6
    refine ⟨_, rfl, 10, 40, rfl, rfl, ⟨by decide, by decide, by decide⟩, p, c, ns, _, rfl, hP6, by decide, fun total H7 t0 t1 hP7 k7 => ?_⟩
    have e40 : (10 : Int) ^ Int.toNat 40 = 10000000000000000000000000000000000000000 := by decide
    have t1 : total ≤ 10 ^ Int.toNat 40 := t1
    rw [e40] at t1
    have eL7 : LogAt K H7 g dg m n 0 := k7 _ _ gp eL6
    refine ⟨_, rfl, _, rfl, g, dg, _, rfl, eL7, g, dg, m, n, 0, total, rfl, eL7, t0, t1, ⟨g, rfl⟩, ?_⟩
    have hP8 : PoolAt (upd H7 g (.ins (cLog K) dg (fLog m n (0 + total)))) p c ns := hP7.kp Kp.upd (Ne.symm gp) (Ne.symm gc)
    have eL8 : LogAt K (upd H7 g (.ins (cLog K) dg (fLog m n (0 + total)))) g dg m n total := by
      have : LogAt K (upd H7 g (.ins (cLog K) dg (fLog m n (0 + total)))) g dg m n (0 + total) := upd_same
      rw [Int.zero_add] at this ⊢
      exact this
    have m1 := S2.m1
    have n1 := S2.n1
    -- behind
    refine ⟨fun σ' H' => ∃ b : Int, σ' = [some (.ref sc), some (.ref p), some (.ref s), some (.ref g), some (.int total), some (.int b), none, none, none, none, none, none, some (.ref row), some (.int n), some (.int m), none] ∧ 0 ≤ b ∧ b ≤ total ∧ b < m ∧ PoolAt H' p c ns ∧ LogAt K H' g dg m n total, ?_, ?_⟩
    · refine ⟨_, rfl, 10, 40, rfl, rfl, ⟨by decide, by decide, by decide⟩, p, c, ns, _, rfl, hP8, by decide, fun z H9 z0 _ hP9 k9 => .inl ⟨z, rfl, ?_⟩⟩
      have eL9 : LogAt K H9 g dg m n total := k9 _ _ gp eL8
      refine ⟨_, rfl, _, rfl, m, 1, rfl, rfl, (by show 2 ≤ sizeLine; decide), fun t1 h1 => ?_⟩
      have s10 := same_upd (o := .tup [.int total, .int (m - 1)]) h1
      have hP10 := hP9.same s10
      have eL10 : LogAt K _ g dg m n total := s10 _ _ eL9
      refine ⟨_, rfl, _, rfl, total, m, rfl, rfl, .inr ⟨_, rfl, ?_⟩⟩
      by_cases hle : m ≤ total
      · rw [decide_eq_true hle]
        have e0 := Int.emod_nonneg z (show 1 + (m - 1) ≠ 0 by omega)
        have e1 := Int.emod_lt_of_pos z (show 0 < 1 + (m - 1) by omega)
        exact ⟨t1, _, 1, .int (m - 1), rfl, rfl, SqT.of upd_same, rfl, 1, m - 1, rfl, rfl, z, 1 + (m - 1), rfl, rfl, (show 0 < 1 + (m - 1) by omega), z % (1 + (m - 1)), rfl, e0, by omega, by omega, hP10, eL10⟩
      · rw [decide_eq_false hle]
        have e0 := Int.emod_nonneg z (show 1 + total ≠ 0 by omega)
        have e1 := Int.emod_lt_of_pos z (show 0 < 1 + total by omega)
        exact ⟨t1, _, 0, .int total, rfl, rfl, SqT.of upd_same, rfl, 1, total, rfl, rfl, z, 1 + total, rfl, rfl, (show 0 < 1 + total by omega), z % (1 + total), rfl, e0, by omega, by omega, hP10, eL10⟩
    · rintro _ H9 ⟨b, rfl, b0, bt, bm, hP9, eL9⟩
      refine ⟨_, rfl, _, rfl, total, 1, rfl, rfl, g, dg, m, n, total, total + 1, rfl, eL9, by omega, fun H10 s10 => ⟨true, rfl, iteF ?_⟩⟩
      refine ⟨_, rfl, 1, rfl, g, dg, m, n, total, -1, rfl, s10 _ _ eL9, by omega, fun H11 s11 => ⟨true, rfl, iteF ?_⟩⟩
      have s9 := s10.trans s11
      refine ⟨_, rfl, _, rfl, rfl, rfl, fun r dr nr nd ne => ?_⟩
      have eL11 := s9 _ _ eL9
      have gr : g ≠ r := fun z => ne_of_none eL11 nr z
      have hP11 := hP9.same s9
      have pr : p ≠ r := by
        obtain ⟨_, _, _, _, _, _, _, e⟩ := hP11
        exact ne_of_none e nr
      have cr : c ≠ r := ne_of_none hP11.2.1 nr
      have s12 : Same H11 (upd (upd H11 dr (.own r)) r (.ins (cRd K) dr [])) := fun b o e => by
        rw [upd_ne (ne_of_none e nr), upd_ne (ne_of_none e nd)]; exact e
      refine ⟨r, dr, g, dg, m, n, total, b, rfl, upd_same, s12 _ _ eL11, fun _ => ⟨rfl, ?_⟩, fun h => absurd ⟨b0, bt⟩ h⟩
      have hP12 : PoolAt (upd (upd (upd H11 dr (.own r)) r (.ins (cRd K) dr [])) r (.ins (cRd K) dr (fRd g (total - b)))) p c ns := (hP11.same s12).kp Kp.upd pr cr
      have eL12 : LogAt K (upd (upd (upd H11 dr (.own r)) r (.ins (cRd K) dr [])) r (.ins (cRd K) dr (fRd g (total - b)))) g dg m n total := by
        show upd _ _ _ g = _
        rw [upd_ne gr]
        exact s12 _ _ eL11
      have eR12 : RdAt K (upd (upd (upd H11 dr (.own r)) r (.ins (cRd K) dr [])) r (.ins (cRd K) dr (fRd g (total - b)))) r dr g (total - b) := upd_same
      refine ⟨_, rfl, _, rfl, _, rfl, total, b, rfl, rfl, ?_⟩
      refine ⟨fun σ' H' => σ' = [some (.ref sc), some (.ref p), some (.ref s), some (.ref g), some (.int total), some (.int b), some (.ref r), some (.int b), some (.int (total - b)), some (.int 0), some (.int 0), none, some (.ref row), some (.int n), some (.int m), none] ∧ LoopAt K H' p c ns g dg r dr m n total (total - b) b (total - b) 0 0, ⟨rfl, hP12, eL12, eR12, by omega, by omega, b0, bm, by omega⟩, ?_⟩
      rintro _ H13 ⟨rfl, L13⟩
      refine ⟨fun σ' H' => ∃ (total2 at_ lag read gone : Int) (kv mv : Option V), σ' = [some (.ref sc), some (.ref p), some (.ref s), some (.ref g), some (.int total2), some (.int b), some (.ref r), some (.int lag), some (.int (total - b)), some (.int read), some (.int gone), kv, some (.ref row), some (.int n), some (.int m), mv] ∧ LoopAt K H' p c ns g dg r dr m n total2 at_ lag (total - b) read gone, ?_, ?_⟩
      · refine ⟨_, rfl, p, c, ns, 40, rfl, L13.pool, by decide, by decide, fun turns H14 u0 u40 hP14 k14 => ⟨1, turns, rfl, rfl, 1 + turns, rfl, by omega, by omega, ?_⟩⟩
        have L14 : LoopAt K H14 p c ns g dg r dr m n total (total - b) b (total - b) 0 0 := ⟨hP14, k14 _ _ (pool_ins L13.pool L13.log).1 L13.log, k14 _ _ (pool_ins L13.pool L13.rd).1 L13.rd, L13.lg, L13.p0, L13.l0, L13.lm, L13.sum⟩
        refine for_range (lo := 0) (n := (1 + turns).toNat) (fun _ σ' H' => ∃ (total2 at_ lag read gone : Int) (kv mv : Option V), σ' = [some (.ref sc), some (.ref p), some (.ref s), some (.ref g), some (.int total2), some (.int b), some (.ref r), some (.int lag), some (.int (total - b)), some (.int read), some (.int gone), kv, some (.ref row), some (.int n), some (.int m), mv] ∧ LoopAt K H' p c ns g dg r dr m n total2 at_ lag (total - b) read gone) ⟨_, _, _, _, _, none, none, rfl, L14⟩ ?_ ?_
        · rintro i _ H15 _ ⟨total2, at_, lag, read, gone, kv, mv, rfl, L⟩
          have elag := L.lg
          have l0 := L.l0
          have lm := L.lm
          have p0 := L.p0
          have sum := L.sum
          have ebel : (total2 - at_) % m = lag := by
            rw [← elag]
            exact Int.emod_eq_of_lt l0 lm
          refine ⟨_, rfl, r, dr, _, rfl, L.rd, r, dr, g, dg, m, n, total2, at_, rfl, L.rd, L.log, _, rfl, rfl, _, rfl, iteNF (congrArg V.int elag.symm) ?_⟩
          refine ⟨_, rfl, r, dr, _, rfl, L.rd, r, dr, g, dg, m, n, total2, at_, rfl, L.rd, L.log, by omega, _, rfl, rfl, _, rfl, iteNF (congrArg V.int ebel) ?_⟩
          refine ⟨_, rfl, p, c, ns, 2, rfl, L.pool, by decide, by decide, fun d H16 _ _ hP16 k16 => ⟨rfl, _, rfl, ?_⟩⟩
          have eL16 : LogAt K H16 g dg m n total2 := k16 _ _ (pool_ins L.pool L.log).1 L.log
          have eR16 : RdAt K H16 r dr g at_ := k16 _ _ (pool_ins L.pool L.rd).1 L.rd
          refine ite2 (fun _ => ?_) (fun _ => ?_)
          · refine ⟨_, rfl, _, rfl, _, rfl, p, c, ns, lag, m, rfl, hP16, lm, fun many H17 v0 v1 hP17 k17 => ?_⟩
            have eL17 : LogAt K H17 g dg m n total2 := k17 _ _ (pool_ins hP16 eL16).1 eL16
            have eR17 : RdAt K H17 r dr g at_ := k17 _ _ (pool_ins hP16 eR16).1 eR16
            have mm := S2.m2
            refine ⟨_, rfl, _, rfl, g, dg, _, rfl, eL17, g, dg, m, n, total2, many, rfl, eL17, v0, by omega, ⟨g, rfl⟩, ?_⟩
            refine ⟨_, rfl, _, rfl, total2, many, rfl, rfl, _, rfl, _, rfl, lag, many, rfl, rfl, ?_⟩
            refine ⟨total2 + many, at_, lag + many, read, gone, _, _, rfl, ?_⟩
            exact ⟨hP17.kp Kp.upd (Ne.symm (pool_ins hP17 eL17).1) (Ne.symm (pool_ins hP17 eL17).2), upd_same, (by show upd _ _ _ r = _; rw [upd_ne (Ne.symm gr)]; exact eR17), by omega, p0, by omega, by omega, by omega⟩
          · refine ⟨_, rfl, r, dr, _, rfl, eR16, r, dr, g, dg, m, n, total2, at_, rfl, eR16, eL16, by omega, by omega, S2.dv, p0, by omega, by omega, fun h0 => ?_, fun hne lost t1 H17 hl ht hR17 k17 => ?_⟩
            · refine ⟨_, rfl, _, rfl, _, rfl, _, lag, total2, n, rfl, .inl ⟨by omega, rfl⟩, fun H18 s18 => ⟨true, rfl, iteF ?_⟩⟩
              have lz : lag = 0 := by omega
              subst lz
              refine ⟨fun σ' H' => σ' = [some (.ref sc), some (.ref p), some (.ref s), some (.ref g), some (.int total2), some (.int b), some (.ref r), some (.int 0), some (.int (total - b)), some (.int read), some (.int gone), some (.int (0 + i)), some (.ref row), some (.int n), some (.int m), mv] ∧ H' = H18, ?_, ?_⟩
              · exact ⟨_, rfl, _, rfl, 0, n, rfl, rfl, _, rfl, iteFd (by omega) ⟨rfl, rfl⟩⟩
              · rintro _ _ ⟨rfl, rfl⟩
                refine ⟨_, rfl, 0, 0, rfl, rfl, _, rfl, iteFd (by omega) ⟨total2, at_, 0, read, gone, _, _, rfl, ?_⟩⟩
                exact ⟨hP16.same s18, s18 _ _ eL16, s18 _ _ eR16, elag, p0, l0, lm, sum⟩
            · have eL17 : LogAt K H17 g dg m n total2 := k17 _ _ gr eL16
              have hP17 : PoolAt H17 p c ns := hP16.kp k17 pr cr
              have hl2 : lost = (if lag - n < 0 then 0 else lag - n) := by
                rw [hl, ← elag]
                by_cases h : lag - n > 0
                · rw [if_pos h, if_neg (by omega)]
                · rw [if_neg h]
                  by_cases h' : lag - n < 0
                  · rw [if_pos h']
                  · rw [if_neg h']
                    omega
              have et : at_ = total2 - lag := by omega
              refine ⟨_, rfl, _, rfl, _, rfl, _, lag, total2, n, rfl, .inr ⟨by omega, t1, lost, rfl, hl2, by rw [← et]; exact ht⟩, fun H18 s18 => ⟨true, rfl, iteF ?_⟩⟩
              refine ⟨fun σ' H' => ∃ lag2 gone2 : Int, σ' = [some (.ref sc), some (.ref p), some (.ref s), some (.ref g), some (.int total2), some (.int b), some (.ref r), some (.int lag2), some (.int (total - b)), some (.int read), some (.int gone2), some (.int (0 + i)), some (.ref row), some (.int n), some (.int m), mv] ∧ lag2 = lag - lost ∧ gone2 = gone + lost ∧ 0 < lag2 ∧ 0 ≤ lost ∧ H' = H18, ?_, ?_⟩
              · refine ⟨_, rfl, _, rfl, lag, n, rfl, rfl, _, rfl, ?_⟩
                by_cases h : n < lag
                · rw [if_neg (by omega)] at hl2
                  refine iteTd h ⟨_, rfl, _, rfl, gone, lag, rfl, rfl, _, rfl, gone + lag, n, rfl, rfl, _, rfl, n, gone + lag - n, rfl, by omega, by omega, by omega, by omega, rfl⟩
                · have : lost = 0 := by
                    rw [hl2]
                    by_cases h' : lag - n < 0
                    · rw [if_pos h']
                    · rw [if_neg h']
                      omega
                  refine iteFd h ⟨lag, gone, rfl, by omega, by omega, by omega, by omega, rfl⟩
              · rintro _ _ ⟨lag2, gone2, rfl, e1, e2, e3, e4, rfl⟩
                refine ⟨_, rfl, lag2, 0, rfl, rfl, _, rfl, iteTd e3 ⟨_, rfl, read, 1, rfl, rfl, _, rfl, lag2, 1, rfl, rfl, ?_⟩⟩
                refine ⟨total2, at_ + lost + 1, lag2 - 1, read + 1, gone2, _, _, rfl, ?_⟩
                exact ⟨hP17.same s18, s18 _ _ eL17, s18 _ _ hR17, by omega, by omega, by omega, by omega, by omega⟩
        · rintro _ H15 ⟨total2, at_, lag, read, gone, kv, mv, rfl, L⟩
          exact ⟨_, _, _, _, _, _, _, rfl, L⟩
      · rintro _ H15 ⟨total2, at_, lag, read, gone, kv, mv, rfl, L⟩
        have sum := L.sum
        refine ⟨_, rfl, _, rfl, read, gone, rfl, rfl, _, rfl, read + gone, lag, rfl, rfl, _, rfl, _, rfl, total2, total - b, rfl, rfl, rfl, _, rfl, iteTd (congrArg V.int sum) ?_⟩
        refine ⟨_, rfl, r, dr, _, rfl, L.rd, r, dr, g, dg, m, n, total2, at_, rfl, L.rd, L.log, _, rfl, rfl, _, rfl, iteTd (congrArg V.int L.lg.symm) ?_⟩
        refine ⟨_, rfl, g, dg, _, rfl, L.log, g, dg, m, n, total2, rfl, L.log, _, rfl, rfl, ?_⟩
        show Q (.bl (decide (V.int total2 = V.int total2))) _
        rw [decide_eq_true rfl]
        exact q _
end
end Rg
/-! A look at what the top leaves: defs at addresses of one's own (a getter, a setter), facts told by own Bools. -/
namespace RgK
open PySem L2 RgX Rg
abbrev KF := PySem.W.Frag
/-! ### addresses -/
def mAd (c m : Str) (K : KF) : Addr := He.ma K (He.ga K c) m
def getAd (c f : Str) (K : KF) : Addr := match PySem.W.recIn K (mAd c f K) "property" with
  | some (.ref g :: _) => g
  | _ => 0
def setAd (c f : Str) (K : KF) : Addr := match PySem.W.recIn K (mAd c f K) "property" with
  | some (_ :: .ref g :: _) => g
  | _ => 0
/-! ### a def at an address -/
structure DefP where
  spot : KF → Addr
  name : Str
  qual : Str
  st : Stmt
  kws : List (Str × V) := []
def DefP.says (d : DefP) : He.FnW := some (d.name, d.qual, defArgs d.st, .stmts (defBody d.st), defScope d.st, mainGlobals, [], builtinsNs)
def seenAt (K : KF) (a : Addr) : He.FnW := match K.lookup a with
  | some ⟨_, _, .func u, _⟩ => some (u.name, u.qualname, u.params, u.body, u.scope, u.globals, u.closure, u.builtins)
  | _ => none
def DefP.good (K : KF) (d : DefP) : Bool := match K.lookup (d.spot K) with
  | some ⟨_, _, .func u, _⟩ => PySem.W.keepIn K (.ref (d.spot K)) && (PySem.W.codeIn K u.code d.qual && (He.dflB K u.defaults [] && He.kwdB K u.kwdefaults d.kws))
  | _ => false
theorem DefP.fun_ {K : KF} {d : DefP} (e : seenAt K (d.spot K) = d.says) (c : d.good K = true) : ∃ fd, FnQ K d.name d.qual d.st d.kws (d.spot K) fd := by
  unfold DefP.good at c
  unfold seenAt at e
  cases z : K.lookup (d.spot K) with
  | none => rw [z] at c; cases c
  | some o =>
    rw [z] at c e
    obtain ⟨x1, x2, x3, x4⟩ := o
    cases x3 with
    | func u =>
      obtain ⟨y1, y2, y3, y4, y5, y6, y7, y8, y9, y10, y11, y12, y13, y14, y15⟩ := u
      obtain ⟨c0, c⟩ := He.ba c
      obtain ⟨c1, c⟩ := He.ba c
      obtain ⟨c2, c3⟩ := He.ba c
      have e' : (some (y1, y2, y3, y4, y5, y6, y7, y15) : He.FnW) = some (d.name, d.qual, defArgs d.st, .stmts (defBody d.st), defScope d.st, mainGlobals, [], builtinsNs) := e
      simp only [Option.some.injEq, Prod.mk.injEq] at e'
      obtain ⟨rfl, rfl, rfl, rfl, rfl, rfl, rfl, rfl⟩ := e'
      exact ⟨_, ⟨x1, x2, y8, y9, y10, y11, y12, y13, y14, x4, rfl, z, c1, He.dflB_ok c2, He.kwdB_ok c3⟩, c0⟩
    | _ => cases c
/-! ### Bools -/
def prpB (c f : Str) (K : KF) : Bool := He.eqO (PySem.W.findIn K (.ref (He.ga K c)) f) (some (some (.ref (mAd c f K)))) &&
  (He.eqO (PySem.W.specialIn K (.ref (mAd c f K)) "__get__") (some (some (.builtin "property.__get__"))) && (decide (PySem.W.takesIn K (.ref (mAd c f K)) = some true) &&
  (match PySem.W.recIn K (mAd c f K) "property" with
  | some (.ref _ :: _) => true
  | _ => false)))
theorem prpB_ok {c f : Str} {K : KF} (h : prpB c f K = true) : PropOf K (He.ga K c) f (mAd c f K) (getAd c f K) := by
  obtain ⟨h1, h⟩ := He.ba h
  obtain ⟨h2, h⟩ := He.ba h
  obtain ⟨h3, h4⟩ := He.ba h
  refine ⟨He.eqO_ok h1, He.eqO_ok h2, of_decide_eq_true h3, ?_⟩
  unfold getAd
  split at h4
  · rename_i g r e
    rw [e]
    exact ⟨r, rfl⟩
  · cases h4
def setB (c f : Str) (K : KF) : Bool := He.eqO (PySem.W.takerIn K (He.ga K c) f) (some (some (.ref (mAd c f K)))) && (decide (PySem.W.typeIn K (.ref (mAd c f K)) = some (.type "property")) &&
  (match PySem.W.recIn K (mAd c f K) "property" with
  | some (_ :: .ref _ :: _) => true
  | _ => false))
theorem setB_ok {c f : Str} {K : KF} (h : setB c f K = true) : SetOf K (He.ga K c) f (mAd c f K) (setAd c f K) := by
  obtain ⟨h1, h⟩ := He.ba h
  obtain ⟨h2, h3⟩ := He.ba h
  refine ⟨He.eqO_ok h1, of_decide_eq_true h2, ?_⟩
  unfold setAd
  split at h3
  · rename_i a g r e
    rw [e]
    exact ⟨a, r, rfl⟩
  · cases h3
def opB (c m : Str) (K : KF) : Bool := PySem.W.selfFirst K (He.ga K c) && (He.eqO (PySem.W.findIn K (.ref (He.ga K c)) m) (some (some (.ref (mAd c m K)))) && (PySem.W.fnIn K (mAd c m K) && PySem.W.isFn K (.ref (mAd c m K))))
theorem opB_add {c : Str} {K : KF} (h : opB c "__iadd__" K = true) : AddTo K (He.ga K c) (mAd c "__iadd__" K) := by
  obtain ⟨h1, h⟩ := He.ba h
  obtain ⟨h2, h⟩ := He.ba h
  obtain ⟨h3, h4⟩ := He.ba h
  exact ⟨h1, He.eqO_ok h2, h4⟩
theorem opB_get {c : Str} {K : KF} (h : opB c "__getitem__" K = true) : GetIt K (He.ga K c) (mAd c "__getitem__" K) := by
  obtain ⟨h1, h⟩ := He.ba h
  obtain ⟨h2, h⟩ := He.ba h
  obtain ⟨h3, h4⟩ := He.ba h
  exact ⟨He.eqO_ok h2, h3, h4⟩
theorem opB_call {c : Str} {K : KF} (h : opB c "__call__" K = true) : CallIt K (He.ga K c) (mAd c "__call__" K) := by
  obtain ⟨h1, h⟩ := He.ba h
  obtain ⟨h2, h⟩ := He.ba h
  obtain ⟨h3, h4⟩ := He.ba h
  exact ⟨He.eqO_ok h2, h3, h4⟩
def insB (c : Str) (K : KF) : Bool := He.eqO (PySem.W.findIn K (.ref (He.ga K c)) "__class__") (some (some (.builtin "object.__class__"))) && (He.eqO (PySem.W.specialIn K (.builtin "object.__class__") "__get__") (some (some (.builtin "getset_descriptor.__get__"))) &&
  (decide (PySem.W.takesIn K (.builtin "object.__class__") = some true) && (decide (PySem.W.mroIn K (He.ga K c) (.type "object") = some true) && decide (PySem.W.kitOne K (.ref (He.ga K c)) (.ref (He.ga K c)) = some true))))
theorem insB_ok {c : Str} {K : KF} (cl : Cls K (He.ga K c)) (h : insB c K = true) : C8.InsC K (He.ga K c) := by
  obtain ⟨h1, h⟩ := He.ba h
  obtain ⟨h2, h⟩ := He.ba h
  obtain ⟨h3, h⟩ := He.ba h
  obtain ⟨h4, h5⟩ := He.ba h
  exact ⟨cl, He.eqO_ok h1, He.eqO_ok h2, of_decide_eq_true h3, of_decide_eq_true h4, of_decide_eq_true h5⟩
def notB (c : Str) (n : String) (K : KF) : Bool := decide (PySem.W.kitOne K (.ref (He.ga K c)) (.type n) = some false)
/-! ### the Hook -/
section
variable (n : Nat) (fa : List He.Fa) (ex : List (KF → Bool)) (ds : List DefP)
def look (K : KF) : Bool × List He.FnW := ((fa.all fun f => f.ok K) && ((ex.all fun b => b K) && ds.all fun d => d.good K), ds.map fun d => seenAt K (d.spot K))
def told : Bool × List He.FnW := (true, ds.map fun d => d.says)
def lookG (g : Addr → Option Obj) : Bool × List He.FnW := look fa ex ds (He.frG g (He.asD g n))
def hookP : PySem.W.Hook where
  α := Bool × List He.FnW
  obs s := lookG n fa ex ds s.heap.get?
  val _ := told ds
  says _ h := ∃ K : KF, K.In h ∧ look fa ex ds K = told ds
  of _ s e := ⟨He.frG s.heap.get? (He.asD s.heap.get? n), He.frG_in, e⟩
  keeps _ _ _ c k := by
    obtain ⟨K, i, e⟩ := c
    exact ⟨K, PySem.W.Frag.In.keeps i k, e⟩
theorem lookG_eq {g : Addr → Option Obj} {s : Shared} (h : ∀ a, g a = s.heap.get? a) : lookG n fa ex ds g = (hookP n fa ex ds).obs s := by
  obtain rfl : g = s.heap.get? := funext h
  rfl
end
section
variable {fa : List He.Fa} {ex : List (KF → Bool)} {ds : List DefP} {K : KF} (c : look fa ex ds K = told ds)
include c
theorem all3 : (fa.all fun f => f.ok K) = true ∧ (ex.all fun b => b K) = true ∧ (ds.all fun d => d.good K) = true := by
  have c1 := congrArg (fun z : Bool × List He.FnW => z.1) c
  obtain ⟨h1, h⟩ := He.ba c1
  exact ⟨h1, He.ba h⟩
theorem fac (i : Nat) {f : He.Fa} (h : fa[i]? = some f := by rfl) : f.ok K = true := List.all_eq_true.mp (all3 c).1 f (List.mem_of_getElem? h)
theorem exf (i : Nat) {b : KF → Bool} (h : ex[i]? = some b := by rfl) : b K = true := List.all_eq_true.mp (all3 c).2.1 b (List.mem_of_getElem? h)
theorem dfn (i : Nat) {d : DefP} (h : ds[i]? = some d := by rfl) : ∃ fd, FnQ K d.name d.qual d.st d.kws (d.spot K) fd := by
  have c2 : (ds.map fun d => seenAt K (d.spot K)) = ds.map fun d => d.says := congrArg (fun z : Bool × List He.FnW => z.2) c
  have c3 : (ds.map fun d => seenAt K (d.spot K))[i]? = (ds.map fun d => d.says)[i]? := by rw [c2]
  rw [List.getElem?_map, List.getElem?_map, h] at c3
  exact DefP.fun_ (Option.some.inj c3) (List.all_eq_true.mp (all3 c).2.2 d (List.mem_of_getElem? h))
end
end RgK
namespace RgK
open PySem L2 RgX Rg
def faL : List He.Fa := [.free "isinstance", .free "int", .free "bool", .free "str", .free "tuple", .free "len",
  .free "max", .free "range", .int "LARGEST" 1000000000000000000000000000000, .int "FARTHEST" 10000000000000000000000000000000000000000, .int "WIDEST" 100, .glo "Form",
  .glo "Scheme", .glo "Log", .glo "Reader", .glo "NoLag", .cls "Form", .cls "Scheme",
  .cls "Log", .cls "Reader", .noat "Form" "slope", .noat "Form" "base", .noat "Scheme" "own_wrap", .noat "Scheme" "own_slot",
  .noat "Scheme" "own_empty", .noat "Scheme" "own_full", .noat "Scheme" "own_when", .noat "Log" "modulus", .noat "Log" "size", .noat "Log" "laid",
  .noat "Reader" "source", .noat "Reader" "passed", .exc "NoLag", .exm "NoLag" "NoLag" true, .mkr "Form", .mkr "Scheme",
  .mkr "Log", .mkr "Reader", .meth "Scheme" "change", .glo "is_whole", .glo "is_between", .glo "is_size",
  .glo "modulus_at", .glo "modulus_of", .glo "has_outside", .glo "log_modulus", .glo "is_word", .glo "is_part_form",
  .glo "is_wrap", .glo "is_slot", .glo "is_full_rule", .glo "_law_mixed", .glo "_law_pool", .glo "_law_draw",
  .glo "_law_wide", .glo "_law_made", .glo "_law_setting", .glo "_law_power", .glo "_law_step", .glo "_law_refused",
  .glo "_law_reads", .glo "law"]
def exL : List (KF → Bool) := [prpB "Scheme" "wrap", prpB "Scheme" "slot", prpB "Scheme" "when", prpB "Log" "put_count", prpB "Reader" "lag", prpB "Reader" "believed", setB "Scheme" "wrap", setB "Scheme" "when", opB "Log" "__iadd__", opB "Log" "__getitem__", opB "Reader" "__call__", insB "Form", notB "Form" "int"]
def dsL : List DefP := [⟨fun K => He.ga K "is_whole", "is_whole", "is_whole", sIsWhole, []⟩,
  ⟨fun K => He.ga K "is_between", "is_between", "is_between", sIsBetween, []⟩,
  ⟨fun K => He.ga K "is_size", "is_size", "is_size", sIsSize, []⟩,
  ⟨fun K => He.ga K "modulus_at", "modulus_at", "modulus_at", sModAt, []⟩,
  ⟨fun K => He.ga K "modulus_of", "modulus_of", "modulus_of", sModOf, []⟩,
  ⟨fun K => He.ga K "has_outside", "has_outside", "has_outside", sOut, []⟩,
  ⟨fun K => He.ga K "log_modulus", "log_modulus", "log_modulus", sLogMod, []⟩,
  ⟨fun K => He.ga K "is_word", "is_word", "is_word", sIsWord, []⟩,
  ⟨fun K => He.ga K "is_part_form", "is_part_form", "is_part_form", sIsPart, []⟩,
  ⟨fun K => He.ga K "is_wrap", "is_wrap", "is_wrap", sIsWrap, []⟩,
  ⟨fun K => He.ga K "is_slot", "is_slot", "is_slot", sIsSlot, []⟩,
  ⟨fun K => He.ga K "is_full_rule", "is_full_rule", "is_full_rule", sIsFull, []⟩,
  ⟨fun K => He.ga K "_law_mixed", "_law_mixed", "_law_mixed", sMixed, []⟩,
  ⟨fun K => He.ga K "_law_pool", "_law_pool", "_law_pool", sPool, []⟩,
  ⟨fun K => He.ga K "_law_draw", "_law_draw", "_law_draw", sDraw, []⟩,
  ⟨fun K => He.ga K "_law_wide", "_law_wide", "_law_wide", sWide, []⟩,
  ⟨fun K => He.ga K "_law_made", "_law_made", "_law_made", sMade, []⟩,
  ⟨fun K => He.ga K "_law_setting", "_law_setting", "_law_setting", sSetting, []⟩,
  ⟨fun K => He.ga K "_law_power", "_law_power", "_law_power", sPower, []⟩,
  ⟨fun K => He.ga K "_law_step", "_law_step", "_law_step", sStep, []⟩,
  ⟨fun K => He.ga K "_law_refused", "_law_refused", "_law_refused", sRefused, []⟩,
  ⟨fun K => He.ga K "_law_reads", "_law_reads", "_law_reads", sReads, []⟩,
  ⟨fun K => He.ga K "law", "law", "law", sLaw, []⟩,
  ⟨mAd "Form" "__init__", "__init__", "Form.__init__", sFormI, []⟩,
  ⟨mAd "Scheme" "__init__", "__init__", "Scheme.__init__", sSchI, [("when", .str "refuse")]⟩,
  ⟨mAd "Log" "__init__", "__init__", "Log.__init__", sLogI, []⟩,
  ⟨mAd "Reader" "__init__", "__init__", "Reader.__init__", sRdI, [("back", .int 0)]⟩,
  ⟨mAd "Scheme" "change", "change", "Scheme.change", sChange, []⟩,
  ⟨mAd "Log" "__iadd__", "__iadd__", "Log.__iadd__", sIadd, []⟩,
  ⟨mAd "Log" "__getitem__", "__getitem__", "Log.__getitem__", sGetit, []⟩,
  ⟨mAd "Reader" "__call__", "__call__", "Reader.__call__", sCall, []⟩,
  ⟨getAd "Scheme" "wrap", "wrap", "Scheme.wrap", sGWrap, []⟩,
  ⟨getAd "Scheme" "slot", "slot", "Scheme.slot", sGSlot, []⟩,
  ⟨getAd "Scheme" "when", "when", "Scheme.when", sGWhen, []⟩,
  ⟨getAd "Log" "put_count", "put_count", "Log.put_count", sPut, []⟩,
  ⟨getAd "Reader" "lag", "lag", "Reader.lag", sLag, []⟩,
  ⟨getAd "Reader" "believed", "believed", "Reader.believed", sBel, []⟩,
  ⟨setAd "Scheme" "wrap", "wrap", "Scheme.wrap", sSWrap, []⟩,
  ⟨setAd "Scheme" "when", "when", "Scheme.when", sSWhen, []⟩]
abbrev R : PySem.W.OpenRow := PySem.W.OpenLaw.row PySem.Challenge.rw_ringindexes_k57_whole_readers_in_time
def nope1 : List Str := ["_wall", "RingError", "NoForm", "NoScheme", "NoSize", "NoRing", "Outside", "NotDecided", "NoLag", "DIGITS", "LARGEST", "is_whole", "is_between", "is_size", "digits_in", "signed_in", "modulus_at", "modulus_of", "has_outside", "FARTHEST", "log_modulus", "Log", "Reader", "Form", "operand_of", "sign_of", "show_form"]
def nope2 : List Str := ["slope_in", "form_in", "PARTS", "HEADS", "WIDEST", "Scheme", "row_of", "is_word", "is_part_form", "is_wrap", "is_slot", "is_full_rule", "show_full", "show_scheme", "full_in", "scheme_in", "_law_mixed", "_law_pool", "_law_draw", "_law_wide", "_law_made", "_law_setting", "_law_power", "_law_step", "_law_refused", "_law_reads"]
def nope : List Str := nope1 ++ nope2
theorem int_told {mg : Str → Option Value} {x : Str} {i : Int} (h : ∃ t, mg x = some (.int i t)) : ∃ u, mg x = some u ∧ RelV (.int i) u := by
  obtain ⟨t, e⟩ := h
  exact ⟨_, e, t, rfl⟩
theorem txL {K : KF} {h : Heap} {mg : Str → Option Value} (X : K.In h) (G : h.Ns mainGlobals mg) (c : look faL exL dsL K = told dsL) : Tx K mg where
  fIsi := He.free_ok X G (fac c 0 (f := .free "isinstance") rfl)
  fInt := He.free_ok X G (fac c 1 (f := .free "int") rfl)
  fBool := He.free_ok X G (fac c 2 (f := .free "bool") rfl)
  fStr := He.free_ok X G (fac c 3 (f := .free "str") rfl)
  fTup := He.free_ok X G (fac c 4 (f := .free "tuple") rfl)
  fLen := He.free_ok X G (fac c 5 (f := .free "len") rfl)
  fMax := He.free_ok X G (fac c 6 (f := .free "max") rfl)
  fRange := He.free_ok X G (fac c 7 (f := .free "range") rfl)
  kLARGEST := int_told (He.int_ok X G (fac c 8 (f := .int "LARGEST" 1000000000000000000000000000000) rfl))
  kFARTHEST := int_told (He.int_ok X G (fac c 9 (f := .int "FARTHEST" 10000000000000000000000000000000000000000) rfl))
  kWIDEST := int_told (He.int_ok X G (fac c 10 (f := .int "WIDEST" 100) rfl))
  gForm := He.glo_ok X G (fac c 11 (f := .glo "Form") rfl)
  gSch := He.glo_ok X G (fac c 12 (f := .glo "Scheme") rfl)
  gLog := He.glo_ok X G (fac c 13 (f := .glo "Log") rfl)
  gRd := He.glo_ok X G (fac c 14 (f := .glo "Reader") rfl)
  gNoLag := He.glo_ok X G (fac c 15 (f := .glo "NoLag") rfl)
  clForm := He.cls_ok (fac c 16 (f := .cls "Form") rfl)
  clSch := He.cls_ok (fac c 17 (f := .cls "Scheme") rfl)
  clLog := He.cls_ok (fac c 18 (f := .cls "Log") rfl)
  clRd := He.cls_ok (fac c 19 (f := .cls "Reader") rfl)
  insForm := insB_ok (He.cls_ok (fac c 16 (f := .cls "Form") rfl)) (exf c 11 (b := insB "Form") rfl)
  formInt := of_decide_eq_true (exf c 12 (b := notB "Form" "int") rfl)
  naSlope := He.noat_ok (fac c 20 (f := .noat "Form" "slope") rfl)
  naBase := He.noat_ok (fac c 21 (f := .noat "Form" "base") rfl)
  naWrap := He.noat_ok (fac c 22 (f := .noat "Scheme" "own_wrap") rfl)
  naSlot := He.noat_ok (fac c 23 (f := .noat "Scheme" "own_slot") rfl)
  naEmpty := He.noat_ok (fac c 24 (f := .noat "Scheme" "own_empty") rfl)
  naFull := He.noat_ok (fac c 25 (f := .noat "Scheme" "own_full") rfl)
  naWhen := He.noat_ok (fac c 26 (f := .noat "Scheme" "own_when") rfl)
  naMod := He.noat_ok (fac c 27 (f := .noat "Log" "modulus") rfl)
  naSize := He.noat_ok (fac c 28 (f := .noat "Log" "size") rfl)
  naLaid := He.noat_ok (fac c 29 (f := .noat "Log" "laid") rfl)
  naSrc := He.noat_ok (fac c 30 (f := .noat "Reader" "source") rfl)
  naPas := He.noat_ok (fac c 31 (f := .noat "Reader" "passed") rfl)
  exNoLag := (He.exc_ok (fac c 32 (f := .exc "NoLag") rfl)).1
  kpNoLag := (He.exc_ok (fac c 32 (f := .exc "NoLag") rfl)).2.1
  suNoLag := (He.exc_ok (fac c 32 (f := .exc "NoLag") rfl)).2.2.1
  tyNoLag := (He.exc_ok (fac c 32 (f := .exc "NoLag") rfl)).2.2.2
  emNoLag := He.exm_ok (fac c 33 (f := .exm "NoLag" "NoLag" true) rfl)
section
variable {K : KF} {h : Heap} {mg : Str → Option Value} (X : K.In h) (G : h.Ns mainGlobals mg) (c : look faL exL dsL K = told dsL)
include X G c
theorem d_is_whole : Dg K mg "is_whole" sIsWhole := by
  obtain ⟨fd, F⟩ := dfn c 0 (d := ⟨fun K => He.ga K "is_whole", "is_whole", "is_whole", sIsWhole, []⟩) rfl
  exact ⟨_, fd, F, He.glo_ok X G (fac c 39 (f := .glo "is_whole") rfl)⟩
theorem d_is_between : Dg K mg "is_between" sIsBetween := by
  obtain ⟨fd, F⟩ := dfn c 1 (d := ⟨fun K => He.ga K "is_between", "is_between", "is_between", sIsBetween, []⟩) rfl
  exact ⟨_, fd, F, He.glo_ok X G (fac c 40 (f := .glo "is_between") rfl)⟩
theorem d_is_size : Dg K mg "is_size" sIsSize := by
  obtain ⟨fd, F⟩ := dfn c 2 (d := ⟨fun K => He.ga K "is_size", "is_size", "is_size", sIsSize, []⟩) rfl
  exact ⟨_, fd, F, He.glo_ok X G (fac c 41 (f := .glo "is_size") rfl)⟩
theorem d_modulus_at : Dg K mg "modulus_at" sModAt := by
  obtain ⟨fd, F⟩ := dfn c 3 (d := ⟨fun K => He.ga K "modulus_at", "modulus_at", "modulus_at", sModAt, []⟩) rfl
  exact ⟨_, fd, F, He.glo_ok X G (fac c 42 (f := .glo "modulus_at") rfl)⟩
theorem d_modulus_of : Dg K mg "modulus_of" sModOf := by
  obtain ⟨fd, F⟩ := dfn c 4 (d := ⟨fun K => He.ga K "modulus_of", "modulus_of", "modulus_of", sModOf, []⟩) rfl
  exact ⟨_, fd, F, He.glo_ok X G (fac c 43 (f := .glo "modulus_of") rfl)⟩
theorem d_has_outside : Dg K mg "has_outside" sOut := by
  obtain ⟨fd, F⟩ := dfn c 5 (d := ⟨fun K => He.ga K "has_outside", "has_outside", "has_outside", sOut, []⟩) rfl
  exact ⟨_, fd, F, He.glo_ok X G (fac c 44 (f := .glo "has_outside") rfl)⟩
theorem d_log_modulus : Dg K mg "log_modulus" sLogMod := by
  obtain ⟨fd, F⟩ := dfn c 6 (d := ⟨fun K => He.ga K "log_modulus", "log_modulus", "log_modulus", sLogMod, []⟩) rfl
  exact ⟨_, fd, F, He.glo_ok X G (fac c 45 (f := .glo "log_modulus") rfl)⟩
theorem d_is_word : Dg K mg "is_word" sIsWord := by
  obtain ⟨fd, F⟩ := dfn c 7 (d := ⟨fun K => He.ga K "is_word", "is_word", "is_word", sIsWord, []⟩) rfl
  exact ⟨_, fd, F, He.glo_ok X G (fac c 46 (f := .glo "is_word") rfl)⟩
theorem d_is_part_form : Dg K mg "is_part_form" sIsPart := by
  obtain ⟨fd, F⟩ := dfn c 8 (d := ⟨fun K => He.ga K "is_part_form", "is_part_form", "is_part_form", sIsPart, []⟩) rfl
  exact ⟨_, fd, F, He.glo_ok X G (fac c 47 (f := .glo "is_part_form") rfl)⟩
theorem d_is_wrap : Dg K mg "is_wrap" sIsWrap := by
  obtain ⟨fd, F⟩ := dfn c 9 (d := ⟨fun K => He.ga K "is_wrap", "is_wrap", "is_wrap", sIsWrap, []⟩) rfl
  exact ⟨_, fd, F, He.glo_ok X G (fac c 48 (f := .glo "is_wrap") rfl)⟩
theorem d_is_slot : Dg K mg "is_slot" sIsSlot := by
  obtain ⟨fd, F⟩ := dfn c 10 (d := ⟨fun K => He.ga K "is_slot", "is_slot", "is_slot", sIsSlot, []⟩) rfl
  exact ⟨_, fd, F, He.glo_ok X G (fac c 49 (f := .glo "is_slot") rfl)⟩
theorem d_is_full_rule : Dg K mg "is_full_rule" sIsFull := by
  obtain ⟨fd, F⟩ := dfn c 11 (d := ⟨fun K => He.ga K "is_full_rule", "is_full_rule", "is_full_rule", sIsFull, []⟩) rfl
  exact ⟨_, fd, F, He.glo_ok X G (fac c 50 (f := .glo "is_full_rule") rfl)⟩
theorem d__law_mixed : Dg K mg "_law_mixed" sMixed := by
  obtain ⟨fd, F⟩ := dfn c 12 (d := ⟨fun K => He.ga K "_law_mixed", "_law_mixed", "_law_mixed", sMixed, []⟩) rfl
  exact ⟨_, fd, F, He.glo_ok X G (fac c 51 (f := .glo "_law_mixed") rfl)⟩
theorem d__law_pool : Dg K mg "_law_pool" sPool := by
  obtain ⟨fd, F⟩ := dfn c 13 (d := ⟨fun K => He.ga K "_law_pool", "_law_pool", "_law_pool", sPool, []⟩) rfl
  exact ⟨_, fd, F, He.glo_ok X G (fac c 52 (f := .glo "_law_pool") rfl)⟩
theorem d__law_draw : Dg K mg "_law_draw" sDraw := by
  obtain ⟨fd, F⟩ := dfn c 14 (d := ⟨fun K => He.ga K "_law_draw", "_law_draw", "_law_draw", sDraw, []⟩) rfl
  exact ⟨_, fd, F, He.glo_ok X G (fac c 53 (f := .glo "_law_draw") rfl)⟩
theorem d__law_wide : Dg K mg "_law_wide" sWide := by
  obtain ⟨fd, F⟩ := dfn c 15 (d := ⟨fun K => He.ga K "_law_wide", "_law_wide", "_law_wide", sWide, []⟩) rfl
  exact ⟨_, fd, F, He.glo_ok X G (fac c 54 (f := .glo "_law_wide") rfl)⟩
theorem d__law_made : Dg K mg "_law_made" sMade := by
  obtain ⟨fd, F⟩ := dfn c 16 (d := ⟨fun K => He.ga K "_law_made", "_law_made", "_law_made", sMade, []⟩) rfl
  exact ⟨_, fd, F, He.glo_ok X G (fac c 55 (f := .glo "_law_made") rfl)⟩
theorem d__law_setting : Dg K mg "_law_setting" sSetting := by
  obtain ⟨fd, F⟩ := dfn c 17 (d := ⟨fun K => He.ga K "_law_setting", "_law_setting", "_law_setting", sSetting, []⟩) rfl
  exact ⟨_, fd, F, He.glo_ok X G (fac c 56 (f := .glo "_law_setting") rfl)⟩
theorem d__law_power : Dg K mg "_law_power" sPower := by
  obtain ⟨fd, F⟩ := dfn c 18 (d := ⟨fun K => He.ga K "_law_power", "_law_power", "_law_power", sPower, []⟩) rfl
  exact ⟨_, fd, F, He.glo_ok X G (fac c 57 (f := .glo "_law_power") rfl)⟩
theorem d__law_step : Dg K mg "_law_step" sStep := by
  obtain ⟨fd, F⟩ := dfn c 19 (d := ⟨fun K => He.ga K "_law_step", "_law_step", "_law_step", sStep, []⟩) rfl
  exact ⟨_, fd, F, He.glo_ok X G (fac c 58 (f := .glo "_law_step") rfl)⟩
theorem d__law_refused : Dg K mg "_law_refused" sRefused := by
  obtain ⟨fd, F⟩ := dfn c 20 (d := ⟨fun K => He.ga K "_law_refused", "_law_refused", "_law_refused", sRefused, []⟩) rfl
  exact ⟨_, fd, F, He.glo_ok X G (fac c 59 (f := .glo "_law_refused") rfl)⟩
theorem d__law_reads : Dg K mg "_law_reads" sReads := by
  obtain ⟨fd, F⟩ := dfn c 21 (d := ⟨fun K => He.ga K "_law_reads", "_law_reads", "_law_reads", sReads, []⟩) rfl
  exact ⟨_, fd, F, He.glo_ok X G (fac c 60 (f := .glo "_law_reads") rfl)⟩
end
section
variable {K : KF} (c : look faL exL dsL K = told dsL)
include c
theorem k_Form : DMk K (He.ga K "Form") "Form.__init__" sFormI [] := by
  obtain ⟨fd, F⟩ := dfn c 23 (d := ⟨mAd "Form" "__init__", "__init__", "Form.__init__", sFormI, []⟩) rfl
  exact ⟨_, fd, He.mkr_ok (fac c 34 (f := .mkr "Form") rfl), F⟩
theorem k_Scheme : DMk K (He.ga K "Scheme") "Scheme.__init__" sSchI [("when", .str "refuse")] := by
  obtain ⟨fd, F⟩ := dfn c 24 (d := ⟨mAd "Scheme" "__init__", "__init__", "Scheme.__init__", sSchI, [("when", .str "refuse")]⟩) rfl
  exact ⟨_, fd, He.mkr_ok (fac c 35 (f := .mkr "Scheme") rfl), F⟩
theorem k_Log : DMk K (He.ga K "Log") "Log.__init__" sLogI [] := by
  obtain ⟨fd, F⟩ := dfn c 25 (d := ⟨mAd "Log" "__init__", "__init__", "Log.__init__", sLogI, []⟩) rfl
  exact ⟨_, fd, He.mkr_ok (fac c 36 (f := .mkr "Log") rfl), F⟩
theorem k_Reader : DMk K (He.ga K "Reader") "Reader.__init__" sRdI [("back", .int 0)] := by
  obtain ⟨fd, F⟩ := dfn c 26 (d := ⟨mAd "Reader" "__init__", "__init__", "Reader.__init__", sRdI, [("back", .int 0)]⟩) rfl
  exact ⟨_, fd, He.mkr_ok (fac c 37 (f := .mkr "Reader") rfl), F⟩
theorem g_Scheme_wrap : DPr K (He.ga K "Scheme") "wrap" "Scheme.wrap" sGWrap := by
  obtain ⟨fd, F⟩ := dfn c 31 (d := ⟨getAd "Scheme" "wrap", "wrap", "Scheme.wrap", sGWrap, []⟩) rfl
  exact ⟨_, _, fd, prpB_ok (exf c 0 (b := prpB "Scheme" "wrap") rfl), F⟩
theorem g_Scheme_slot : DPr K (He.ga K "Scheme") "slot" "Scheme.slot" sGSlot := by
  obtain ⟨fd, F⟩ := dfn c 32 (d := ⟨getAd "Scheme" "slot", "slot", "Scheme.slot", sGSlot, []⟩) rfl
  exact ⟨_, _, fd, prpB_ok (exf c 1 (b := prpB "Scheme" "slot") rfl), F⟩
theorem g_Scheme_when : DPr K (He.ga K "Scheme") "when" "Scheme.when" sGWhen := by
  obtain ⟨fd, F⟩ := dfn c 33 (d := ⟨getAd "Scheme" "when", "when", "Scheme.when", sGWhen, []⟩) rfl
  exact ⟨_, _, fd, prpB_ok (exf c 2 (b := prpB "Scheme" "when") rfl), F⟩
theorem g_Log_put_count : DPr K (He.ga K "Log") "put_count" "Log.put_count" sPut := by
  obtain ⟨fd, F⟩ := dfn c 34 (d := ⟨getAd "Log" "put_count", "put_count", "Log.put_count", sPut, []⟩) rfl
  exact ⟨_, _, fd, prpB_ok (exf c 3 (b := prpB "Log" "put_count") rfl), F⟩
theorem g_Reader_lag : DPr K (He.ga K "Reader") "lag" "Reader.lag" sLag := by
  obtain ⟨fd, F⟩ := dfn c 35 (d := ⟨getAd "Reader" "lag", "lag", "Reader.lag", sLag, []⟩) rfl
  exact ⟨_, _, fd, prpB_ok (exf c 4 (b := prpB "Reader" "lag") rfl), F⟩
theorem g_Reader_believed : DPr K (He.ga K "Reader") "believed" "Reader.believed" sBel := by
  obtain ⟨fd, F⟩ := dfn c 36 (d := ⟨getAd "Reader" "believed", "believed", "Reader.believed", sBel, []⟩) rfl
  exact ⟨_, _, fd, prpB_ok (exf c 5 (b := prpB "Reader" "believed") rfl), F⟩
theorem s_Scheme_wrap : DSt K (He.ga K "Scheme") "wrap" "Scheme.wrap" sSWrap := by
  obtain ⟨fd, F⟩ := dfn c 37 (d := ⟨setAd "Scheme" "wrap", "wrap", "Scheme.wrap", sSWrap, []⟩) rfl
  exact ⟨_, _, fd, setB_ok (exf c 6 (b := setB "Scheme" "wrap") rfl), F⟩
theorem s_Scheme_when : DSt K (He.ga K "Scheme") "when" "Scheme.when" sSWhen := by
  obtain ⟨fd, F⟩ := dfn c 38 (d := ⟨setAd "Scheme" "when", "when", "Scheme.when", sSWhen, []⟩) rfl
  exact ⟨_, _, fd, setB_ok (exf c 7 (b := setB "Scheme" "when") rfl), F⟩
theorem m_change : DMe K (He.ga K "Scheme") "change" "Scheme.change" sChange := by
  obtain ⟨fd, F⟩ := dfn c 27 (d := ⟨mAd "Scheme" "change", "change", "Scheme.change", sChange, []⟩) rfl
  exact ⟨_, fd, He.meth_ok (fac c 38 (f := .meth "Scheme" "change") rfl), F⟩
theorem o__iadd__ : DAd K (He.ga K "Log") "Log.__iadd__" sIadd := by
  obtain ⟨fd, F⟩ := dfn c 28 (d := ⟨mAd "Log" "__iadd__", "__iadd__", "Log.__iadd__", sIadd, []⟩) rfl
  exact ⟨_, fd, opB_add (exf c 8 (b := opB "Log" "__iadd__") rfl), F⟩
theorem o__getitem__ : DGi K (He.ga K "Log") "Log.__getitem__" sGetit := by
  obtain ⟨fd, F⟩ := dfn c 29 (d := ⟨mAd "Log" "__getitem__", "__getitem__", "Log.__getitem__", sGetit, []⟩) rfl
  exact ⟨_, fd, opB_get (exf c 9 (b := opB "Log" "__getitem__") rfl), F⟩
theorem o__call__ : DCl K (He.ga K "Reader") "Reader.__call__" sCall := by
  obtain ⟨fd, F⟩ := dfn c 30 (d := ⟨mAd "Reader" "__call__", "__call__", "Reader.__call__", sCall, []⟩) rfl
  exact ⟨_, fd, opB_call (exf c 10 (b := opB "Reader" "__call__") rfl), F⟩
end
theorem lawL {P : Program} {w : World} {K : KF} {h : Heap} {mg : Str → Option Value} {f : Addr} (X : K.In h) (G : h.Ns mainGlobals mg) (hf : mg ("law" : Str) = some (.ref f)) (c : look faL exL dsL K = told dsL) :
    ∃ fd : FuncData, (∀ (s : Shared) (v : Value), BindsTo s fd ⟨[v], []⟩ [("_law_script", v)]) ∧ ∀ base : Heap, K.In base → base.Ns mainGlobals mg → FnOk P w K mg base CX0 9 f fd ["_law_script"] (spLaw K) := by
  obtain ⟨fd, F⟩ := dfn c 22 (d := ⟨fun K => He.ga K "law", "law", "law", sLaw, []⟩) rfl
  obtain rfl : f = He.ga K "law" := by
    have e := hf.symm.trans (He.glo_ok X G (fac c 61 (f := .glo "law") rfl))
    injection e with e
    injection e
  have b := FunD.bindsA (ps := ["_law_script"]) F fun _ _ _ _ _ _ us hl => match us, hl with | [_], _ => rfl
  refine ⟨fd, fun s v => b s [v] rfl, fun base _ _ => ?_⟩
  have T : Tx K mg := txL X G c
  have c1 := ok_whole (P := P) (w := w) (base := base) T (d_is_whole X G c)
  have c2 := ok_between (d_is_between X G c) c1
  have c3 := ok_size T (d_is_size X G c) c2
  have c4 := ok_modAt T (d_modulus_at X G c) c1
  have c5 := ok_out (P := P) (w := w) (base := base) (d_has_outside X G c)
  have gw := ok_gwrap (P := P) (w := w) (base := base) T (g_Scheme_wrap c)
  have gs := ok_gslot (P := P) (w := w) (base := base) T (g_Scheme_slot c)
  have gn := ok_gwhen (P := P) (w := w) (base := base) T (g_Scheme_when c)
  have c6 := ok_modOf T (d_modulus_of X G c) c3 c4 gw
  have c7 := ok_logMod T (d_log_modulus X G c) c6 c5 gn gs
  have c8 := ok_word (P := P) (w := w) (base := base) T (d_is_word X G c)
  have c9 := ok_part (P := P) (w := w) (base := base) T (d_is_part_form X G c)
  have c10 := ok_wrap T (d_is_wrap X G c) c2 c9
  have c11 := ok_slot (d_is_slot X G c) c8 c1
  have c12 := ok_full T (d_is_full_rule X G c) c8 c9
  have kF := ok_form T (k_Form c) c1
  have kS := ok_sch T (k_Scheme c) c10 c11 c8 c12
  have sw := ok_swrap T (s_Scheme_wrap c) c10 c11
  have sn := ok_swhen T (s_Scheme_when c) c8
  have mc := ok_change T (m_change c) sw sn
  have kL := ok_log T (k_Log c) c7
  have pp := ok_put (P := P) (w := w) (base := base) T (g_Log_put_count c)
  have ad := ok_iadd T (o__iadd__ c) c2
  have gi := ok_getit T (o__getitem__ c) c2
  have kR := ok_rd T (k_Reader c) c2 pp
  have pl := ok_lag T (g_Reader_lag c) pp
  have pb := ok_bel T (g_Reader_believed c) pp
  have cl := ok_call T (o__call__ c) pb gi
  have l1 := ok_mixed (P := P) (w := w) (base := base) T (d__law_mixed X G c)
  have l2 := ok_pool (P := P) (w := w) (base := base) T (d__law_pool X G c)
  have l3 := ok_draw T (d__law_draw X G c) l1
  have l4 := ok_wide T (d__law_wide X G c) l3
  have l5 := ok_power (P := P) (w := w) (base := base) T (d__law_power X G c)
  have l6 := ok_step T (d__law_step X G c) l3 l4
  have l7 := ok_refused T (d__law_refused X G c) kR
  have l8 := ok_reads (P := P) (w := w) (base := base) T (d__law_reads X G c)
  have l9 := ok_made T (d__law_made X G c) kF kS
  have l10 := ok_setting T (d__law_setting X G c) l3 l4 l5
  exact ok_law T F l2 l3 l4 l10 l9 l6 l7 l8 kL kR mc ad cl pp pl pb
abbrev hk : PySem.W.Hook := hookP 5 faL exL dsL
def ob (s : PySem.W.SharedT) : Bool × List He.FnW := lookG 5 faL exL dsL (HandSHeadRun.getT s)
theorem ob_eq (s : PySem.W.SharedT) : ob s = hk.obs s.abs := lookG_eq 5 faL exL dsL (HandSHeadRun.getT_eq s)
theorem run (w : World) : HandSHeadRun.RunEq R (PySem.W.view R.prog [60]) hk ob 10000 nope w := by
  intro os
  kernel_rfl
end RgK
open PySem PySem.W PySem.Calls PyProof.Rows
theorem PySem.Challenge.cw_ringindexes_k57_whole_readers_in_time_holds : PySem.Challenge.rw_ringindexes_k57_whole_readers_in_time.Holds := by
  w_on; o_law
  refine HandSHeadRun.head_any (r := RgK.R) (q := view RgK.R.prog [60]) (H := RgK.hk) (ob := RgK.ob) (M := 10000) (loose := RgK.nope) (d := HandSHeadRun.topDef RgK.R.prog 60) (kwd := []) RgK.ob_eq
    (by kernel_rfl) (fun s => by kernel_rfl) RgK.run (by kernel_rfl) (by kernel_rfl) (by kernel_rfl) (by rfl) (by first | assumption | decide +kernel) (by decide +kernel) ⟨rfl, rfl, rfl, rfl, rfl, by decide +kernel⟩ ?hw ?hc
  case hw => w_witness2
  case hc =>
    refine L2.walk_ofE (l := PySem.Challenge.rw_ringindexes_k57_whole_readers_in_time) (n := 63) (k := 9) (x := "_law_script") (CX := L2.CX0) rfl (by decide) (by kernel_rfl) ⟨rfl, by decide, by decide⟩ ?F (fun _ _ _ _ z => z)
    intro w mg fa h Y G hmg0
    obtain ⟨K, KX, c⟩ := Y
    have hmg : mg ("law" : PySem.Str) = some (.ref fa) := by
      have e : (HandSHeadRun.topDef RgK.R.prog 60).name = ("law" : PySem.Str) := by kernel_rfl
      rw [← e]
      exact hmg0
    obtain ⟨fd, hb, hF⟩ := RgK.lawL (P := (PySem.Challenge.rw_ringindexes_k57_whole_readers_in_time).prog) (w := w) KX G hmg c
    exact ⟨K, fd, Rg.spLaw K, KX, hb, fun H a ns hl _ hS => ⟨a, ns, rfl, hS, hl, fun _ => rfl⟩, hF⟩
