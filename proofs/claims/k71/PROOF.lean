import PyProof.Rows.All
import Wide.All
import OpenK.AllK
import Wide.FinOn
import KE.KOpsOwn
import KE.KCallOwn
import KE.KFmtOwn
import PyProof.ReprRoads
import HandS.ForMost
import HandS.Exc
import HandS.Lambda
import HandS.Defaults
import HandS.Property
import HandS.IsInst
import HandS.FStr
import HandS.WideBits
import HandS.EndTab
import HandS.SlotsOwn
import HandS.FStrTup
import HandS.RaiseMore
import HandS.Head0
import HandS.Head1
import HandS.Head2
import HandS.HeadEnd
import HandS.HeadHook1
import HandS.HeadHook2
import HandS.EndBits
import HandS.TryOnly
import HandS.TryMany
import HandS.ExcInit
import HandS.ExcField
import HandS.ExcIs
import HandS.HeadHook4
import HandS.Walk
import HandS.Zip
import KE.GoesZip
import KE.GoesMore
import HandS.SetFor
import HandS.Strs
import HandS.TupAny
import HandS.More
import HandS.Conv
import HandS.CallSlots
import HandS.ExcOwn
import HandS.Style
import KE.KExcInit
import KE.KExcPX
import PyProof.ExcBaseAll.LookupError
import PyProof.ExcBaseAll.RuntimeError
import PyProof.ExcBaseAll.ArithmeticError
import HandS.ClsMeth
import HandS.HeadNt
import HandS.MakeKw
import HandS.Small
import HandS.Deep
import PyProof.P3In
import PyProof.EqKinds
import HandS.DictComp
import HandS.DictSubView
import HandS.ListEq
import HandS.Rev
import PyProof.DictValues
import PySem.Challenge.RW_leastlog_k71_attempts
set_option Elab.async false
set_option linter.all false
set_option maxRecDepth 100000
set_option maxHeartbeats 2000000
/-! LLBase: the layer with one fact more: no repr is under way where a def is called. -/
namespace LL
open PySem PySem.Spec PyProof.Rows L2

/-- room for k calls, and no container's repr is under way -/
structure Rm (k : Nat) (A : Around) : Prop where
  r : Room k A
  g : A.guards = some []
theorem Rm.mono {j k : Nat} {A : Around} (h : Rm k A) (q : j ≤ k) : Rm j A := ⟨h.r.mono q, h.g⟩
theorem Rm.deeper {k : Nat} {A : Around} (h : Rm (k + 1) A) (env : Env) : Rm k (A.deeper env) := ⟨h.r.deeper env, h.g⟩
theorem Rm.in1 {k : Nat} {A : Around} (h : Rm (k + 1) A) : Rm k A.in1 := ⟨h.r.in1, h.g⟩
theorem Rm.make {k : Nat} {A : Around} (h : Rm (k + 1) A) (C : Addr) (us : List Value) (kw : List (Str × Value)) : Rm k (A.under (.builtin "type.__call__" ⟨.ref C :: us, kw⟩)) :=
  ⟨h.r.make C us kw, by
    have e : (Code.builtin "type.__call__" ⟨.ref C :: us, kw⟩).guards = [] := by
      first | rfl | simp [Code.guards, Code.isGuard, guardIds]
    unfold Around.under
    rw [e, h.g]
    rfl⟩

/-- a def keeps its promise wherever there is room and no repr is under way -/
structure FnG (P : Program) (w : World) (K : PySem.W.Frag) (mg : Str → Option Value) (base : Heap) (CX : CXT) (k : Nat) (f : Addr) (fd : FuncData) (ps : List Str) (sp : Sp) : Prop where
  len : ∀ vs H Q E, sp vs H Q E → vs.length = ps.length
  run : ∀ (A : Around) (outer : List Env) (s : Shared) (H : Hp) (args : Args) (us : List Value) (vs : List V) (Q : VK) (E : XK), Rm k A → Env0 P w K mg base A outer s H → BindsTo s fd args (ps.zip us) → Vals vs us → sp vs H Q E →
    codeAny (model P w) A (.call (.ref f) args) (CR CX outer P w H s Q E) s
section
variable {P : Program} {w : World} {K : PySem.W.Frag} {mg : Str → Option Value} {base : Heap} {CX : CXT} {k : Nat} {f : Addr} {fd : FuncData} {ps : List Str} {sp sp' : Sp}
theorem FnG.mono {j : Nat} (F : FnG P w K mg base CX j f fd ps sp) (h : j ≤ k) : FnG P w K mg base CX k f fd ps sp :=
  ⟨F.len, fun A outer s H args us vs Q E hr => F.run A outer s H args us vs Q E (hr.mono h)⟩
theorem FnG.imp (F : FnG P w K mg base CX k f fd ps sp) (h : ∀ vs H Q E, sp' vs H Q E → sp vs H Q E) : FnG P w K mg base CX k f fd ps sp' :=
  ⟨fun vs H Q E q => F.len vs H Q E (h _ _ _ _ q), fun A outer s H args us vs Q E hr he hb hv hs => F.run A outer s H args us vs Q E hr he hb hv (h _ _ _ _ hs)⟩
/-- a def by its body: it may raise -/
theorem okX {x qual : Str} {params : Arguments} {body : List Stmt} {scope : Scope} {dvs : List V} {kws : List (Str × V)} {N : List Str} (F : FunD K x qual params body scope dvs kws f fd) (S : FnScope N ps scope) (len : ∀ vs H Q E, sp vs H Q E → vs.length = ps.length)
    (hbody : ∀ (cdv : Value) (A : Around) (outer : List Env) (s : Shared) (H : Hp) (vs : List V) (Q : VK) (E : XK), Rm k (A.deeper (envOfC qual scope s.heap.objs.size f cdv)) → sp vs H Q E →
      ∃ t, PSs (cxOf CX P w K mg base N qual scope f cdv A outer s H E) body t ∧ t { nx := fun _ H' => Q .non H', rt := Q } (L2.start N vs) H) : FnG P w K mg base CX (k + 1) f fd ps sp := by
  obtain ⟨oc, od, dV, kV, doc, pm, an, cdv, ct, osl, rfl, lk, hcd, _, _⟩ := F.ex
  refine ⟨len, fun A outer s H args us vs Q E hr e0 hb r hsp => ?_⟩
  exact LamX.run_ofS (CX := CX) lk hcd S hr.r e0 hb r (len _ _ _ _ hsp) fun _ => hbody cdv A outer s H vs Q E (hr.deeper _) hsp
/-- a def by its body: nothing leaves it -/
theorem ok0 {x qual : Str} {params : Arguments} {body : List Stmt} {scope : Scope} {dvs : List V} {kws : List (Str × V)} {N : List Str} (F : FunD K x qual params body scope dvs kws f fd) (S : FnScope N ps scope) (len : ∀ vs H Q E, sp vs H Q E → vs.length = ps.length)
    (hbody : ∀ (cdv : Value) (A : Around) (outer : List Env) (s : Shared) (H : Hp) (vs : List V) (Q : VK) (E : XK), Rm k (A.deeper (envOfC qual scope s.heap.objs.size f cdv)) → sp vs H Q E →
      ∃ t, PSs (cxOf CX0 P w K mg base N qual scope f cdv A outer s H E).nox body t ∧ t { nx := fun _ H' => Q .non H', rt := Q } (L2.start N vs) H) : FnG P w K mg base CX0 (k + 1) f fd ps sp :=
  okX F S len fun cdv A outer s H vs Q E hr h => by
    obtain ⟨t, ht, q⟩ := hbody cdv A outer s H vs Q E hr h
    exact ⟨t, ht.nox, q⟩
end

section
variable {X : Cx} {CX : CXT} {k : Nat} {f C : Addr} {fd : FuncData} {ps : List Str} {sp : Sp} {dvs : List V} {ds : List Value} {E : XK} {x m : Str} {p pos apos : Pos} {e o : Expr} {es : List Expr} {ta : TE} {t : TA}
/-- the callee runs, at any place that stands for this body's -/
theorem run_g {pins : List (Addr × Obj)} {σ : L2.St} {H : Hp} {s : Shared} {Q : VK} {us : List Value} {vs : List V} {A : Around} (F : FnG X.prog X.w X.K X.mg X.base CX k f fd ps sp) (hr : Rm k A) (e0 : Env0 X.prog X.w X.K X.mg X.base A X.stack s H) (hb : Binds X.K fd ps ds) (hd : Vals dvs ds) (hx : Passes CX X E)
    (I : Inv X pins σ H s) (r : Vals vs us) (h : sp (vs ++ dvs) H Q E) : wpAny (model X.prog X.w) A (call (.ref f) us) (EP X pins σ Q) X.xe s := by
  have r2 : Vals (vs ++ dvs) (us ++ ds) := r.append hd
  have hl : (us ++ ds).length = ps.length := by
    have := F.len _ _ _ _ h
    rw [← this]
    exact r2.length.symm
  have go := F.run A X.stack s H ⟨us, []⟩ (us ++ ds) (vs ++ dvs) Q E hr e0 (hb s us I.kIn hl) r2 h
  refine wpAny_call (codeAny_mono go fun r s' hq => ?_)
  match r, hq with
  | .error er, hq => exact hx pins σ H s er s' I hq
  | .ok (.ret u), hq => exact I.after hq
  | .ok .next, hq => exact False.elim hq
  | .ok .brk, hq => exact False.elim hq
  | .ok .cont, hq => exact False.elim hq
/-- f(e, ..) -/
theorem pe_callG (F : FnG X.prog X.w X.K X.mg X.base CX k f fd ps sp) (hr : Rm k X.A) (hg : Gl X x) (hm : X.mg x = some (.ref f)) (hk : PySem.W.keepIn X.K (.ref f) = true) (hb : Binds X.K fd ps ds) (hd : Vals dvs ds) (hx : Passes CX X E)
    (ha : PA X (e :: es) t) (hdb : (x == ("__debug__" : Str)) = false := by decide) (he : starEach (e :: es) X.env = (false, eval e X.env) :: starEach es X.env := by rfl) (hpl : (backTo pos (starEach es X.env)).any (·.1) = false := by rfl) :
    PE X (.Call (.Name x p) (e :: es) [] pos) (tCall sp dvs E t) :=
  ⟨fun pins s σ H Q I h => wpAny_Call_Name_kw (ld_glob I hg hm (PySem.W.callWith_K (h₀ := X.base) I.ok.mod.kin hk (thn (ha.run pos pins s σ H _ I h) fun us s1 ⟨vs, H1, I1, r, q⟩ => ⟨I1.kIn, run_g F hr I1.env0 hb hd hx I1 r q⟩) he hpl) hdb)⟩
theorem pe_call0G (F : FnG X.prog X.w X.K X.mg X.base CX k f fd ps sp) (hr : Rm k X.A) (hg : Gl X x) (hm : X.mg x = some (.ref f)) (hk : PySem.W.keepIn X.K (.ref f) = true) (hb : Binds X.K fd ps ds) (hd : Vals dvs ds) (hx : Passes CX X E)
    (hdb : (x == ("__debug__" : Str)) = false := by decide) : PE X (.Call (.Name x p) [] [] pos) (tCall sp dvs E tNil) :=
  ⟨fun pins s σ H Q I h => wpAny_Call_Name_kw (ld_glob I hg hm (PySem.W.callWith_K0 I.kIn hk (run_g (us := []) F hr I.env0 hb hd hx I .nil h)) hdb)⟩
/-- o.m(e, ..) -/
theorem pe_methG {pl : Sem Bool} (he : PE X o ta) (c : Cls X.K C) (hm : Meth X.K C m f) (F : FnG X.prog X.w X.K X.mg X.base CX k f fd ps sp) (hr : Rm k X.A) (hb : Binds X.K fd ps ds) (hd : Vals dvs ds) (hx : Passes CX X E) (ha : PA X (e :: es) t)
    (hst : starEach (e :: es) X.env = (false, eval e X.env) :: starEach es X.env := by rfl) (hpl : (backTo pos (starEach es X.env)).any (·.1) = false := by rfl)
    (ht : eval (.Call (.Attribute o m apos) (e :: es) [] pos) X.env = (do
      let ov ← eval o X.env
      standAt apos.atName
      let (f, first) ← holding [ov] (getMethod ov m pl)
      callWith pos f first (backTo pos (starEach (e :: es) X.env)) (backToKw pos (keywordEach [] X.env))) := by rfl) :
    PE X (.Call (.Attribute o m apos) (e :: es) [] pos) (tMeth C m sp dvs E ta t) := by
  refine ⟨fun pins s σ H Q I h => PySem.W.methodCall_KW (pl := pl) (thn (he.run pins s σ H _ I h) fun u s1 hh => ?_) ht⟩
  obtain ⟨x, H1, I1, rx, a, dx, fs, rfl, ea, l, q⟩ := hh
  obtain rfl : u = Value.ref a := rx
  exact getmeth_ok I1 ea c hm l (PySem.W.callWith_K (first := [.ref a]) (h₀ := X.base) I.ok.mod.kin hm.kp (thn (ha.run pos pins s1 σ H1 _ I1 q) fun us s2 ⟨vs, H2, I2, r, q2⟩ =>
    ⟨I2.kIn, run_g (us := .ref a :: us) (vs := .ref a :: vs) F hr I2.env0 hb hd hx I2 (.cons rfl r) q2⟩) hst hpl)
theorem pe_meth0G {pl : Sem Bool} (he : PE X o ta) (c : Cls X.K C) (hm : Meth X.K C m f) (F : FnG X.prog X.w X.K X.mg X.base CX k f fd ps sp) (hr : Rm k X.A) (hb : Binds X.K fd ps ds) (hd : Vals dvs ds) (hx : Passes CX X E)
    (ht : eval (.Call (.Attribute o m apos) [] [] pos) X.env = (do
      let ov ← eval o X.env
      standAt apos.atName
      let (f, first) ← holding [ov] (getMethod ov m pl)
      callWith pos f first (backTo pos (starEach [] X.env)) (backToKw pos (keywordEach [] X.env))) := by rfl) :
    PE X (.Call (.Attribute o m apos) [] [] pos) (tMeth C m sp dvs E ta tNil) := by
  refine ⟨fun pins s σ H Q I h => PySem.W.methodCall_KW (pl := pl) (thn (he.run pins s σ H _ I h) fun u s1 hh => ?_) ht⟩
  obtain ⟨x, H1, I1, rx, a, dx, fs, rfl, ea, l, q⟩ := hh
  obtain rfl : u = Value.ref a := rx
  exact getmeth_ok I1 ea c hm l (PySem.W.callWith_K0 (first := [.ref a]) I1.kIn hm.kp (run_g (us := [.ref a]) (vs := [.ref a]) F hr I1.env0 hb hd hx I1 (.cons rfl .nil) q))
/-- C(e, ..): a new instance, then its __init__ -/
theorem run_makeG {pins : List (Addr × Obj)} {σ : L2.St} {H : Hp} {s : Shared} {Q : VK} {us : List Value} {vs : List V} (M : Mk X.K C f) (F : FnG X.prog X.w X.K X.mg X.base CX k f fd ps sp) (hr : Rm (k + 1) X.A) (hb : Binds X.K fd ps ds) (hd : Vals dvs ds)
    (hx : Passes CX X E) (I : Inv X pins σ H s) (r : Vals vs us)
    (h : ∀ x dx, H x = none → H dx = none → dx ≠ x → sp (.ref x :: (vs ++ dvs)) (upd (upd H dx (.own x)) x (.ins C dx [])) (fun v H2 => v = .non ∧ Q (.ref x) H2) E) :
    wpAny (model X.prog X.w) X.A (call (.ref C) us) (EP X pins σ Q) X.xe s := by
  have n1 : H (s.heap.objs.size + 1) = none := I.hok.fresh (Nat.le_succ _)
  have n0 : H s.heap.objs.size = none := I.hok.fresh (Nat.le_refl _)
  have hq := h (s.heap.objs.size + 1) s.heap.objs.size n1 n0 (Nat.ne_of_lt (Nat.lt_succ_self _))
  have I2 := Inv.made (C := C) I
  have r2 : Vals (V.ref (s.heap.objs.size + 1) :: (vs ++ dvs)) (Value.ref (s.heap.objs.size + 1) :: (us ++ ds)) := .cons rfl (r.append hd)
  have hl : (Value.ref (s.heap.objs.size + 1) :: us ++ ds).length = ps.length := r2.length.symm.trans (F.len _ _ _ _ hq)
  have go := F.run (X.A.under (.builtin "type.__call__" ⟨.ref C :: us, []⟩)) X.stack _ _ ⟨Value.ref (s.heap.objs.size + 1) :: us, []⟩ (Value.ref (s.heap.objs.size + 1) :: (us ++ ds)) _ _ E (hr.make C us [])
    (I2.env0.make C us []) (hb _ (Value.ref (s.heap.objs.size + 1) :: us) I2.kIn hl) r2 hq
  refine wpAny_call (make_map (f := f) I.kIn M.makes M.init (beq_iff_eq.mp M.fn) (codeAny_mono go fun r s' hq' => ?_))
  match r, hq' with
  | .error er, hq' => exact hx pins σ _ _ er s' I2 hq'
  | .ok (.ret u), hq' =>
    obtain ⟨v, H', I3, rv, rfl, q3⟩ := I2.after hq'
    exact ⟨rv, ⟨V.ref (s.heap.objs.size + 1), H', I3, rfl, q3⟩⟩
  | .ok .next, hq' => exact False.elim hq'
  | .ok .brk, hq' => exact False.elim hq'
  | .ok .cont, hq' => exact False.elim hq'
theorem pe_makeG (M : Mk X.K C f) (F : FnG X.prog X.w X.K X.mg X.base CX k f fd ps sp) (hr : Rm (k + 1) X.A) (hg : Gl X x) (hm : X.mg x = some (.ref C)) (hb : Binds X.K fd ps ds) (hd : Vals dvs ds) (hx : Passes CX X E)
    (ha : PA X (e :: es) t) (hdb : (x == ("__debug__" : Str)) = false := by decide) (he : starEach (e :: es) X.env = (false, eval e X.env) :: starEach es X.env := by rfl) (hpl : (backTo pos (starEach es X.env)).any (·.1) = false := by rfl) :
    PE X (.Call (.Name x p) (e :: es) [] pos) (tMake C sp dvs E t) :=
  ⟨fun pins s σ H Q I h => wpAny_Call_Name_kw (ld_glob I hg hm (PySem.W.callWith_K (h₀ := X.base) I.ok.mod.kin M.kp (thn (ha.run pos pins s σ H _ I h) fun us s1 ⟨vs, H1, I1, r, q⟩ => ⟨I1.kIn, run_makeG M F hr hb hd hx I1 r q⟩) he hpl) hdb)⟩
theorem pe_make0G (M : Mk X.K C f) (F : FnG X.prog X.w X.K X.mg X.base CX k f fd ps sp) (hr : Rm (k + 1) X.A) (hg : Gl X x) (hm : X.mg x = some (.ref C)) (hb : Binds X.K fd ps ds) (hd : Vals dvs ds) (hx : Passes CX X E)
    (hdb : (x == ("__debug__" : Str)) = false := by decide) : PE X (.Call (.Name x p) [] [] pos) (tMake C sp dvs E tNil) :=
  ⟨fun pins s σ H Q I h => wpAny_Call_Name_kw (ld_glob I hg hm (PySem.W.callWith_K0 I.kIn M.kp (run_makeG (us := []) M F hr hb hd hx I .nil h)) hdb)⟩
end
end LL

set_option Elab.async false
set_option linter.all false
set_option maxRecDepth 100000
set_option maxHeartbeats 2000000
/-! LLOwn: operators, ==, !=, str, repr of instances of own classes; repr of data. -/
namespace LL
open PySem PySem.Spec PyProof.Rows L2
/-! ### != by an own __eq__ -/
section
variable {prog : Program} {w : World} {A : Around} {E : Value → Shared → Prop} {s : Shared} {K : PySem.W.Frag} {x C f : Addr} {ox : Obj} {od : Option Obj} {b tb : Value}
/-- a special method that is a built-in's, bound if it can be -/
theorem ifBound_b {M : Model} {name : Str} {id : String} {args : List Value} {Q : Option Value → Shared → Prop} (X : K.In s.heap) (I : PySem.W.InstAt s.heap x ox C od) (hs : PySem.W.findIn K (.ref C) name = some (some (.builtin id)))
    (hb : ∀ self, bindSpecial (.builtin id) self = pure (.builtin id, [self])) (h : wpAny M A (call (.builtin id) (.ref x :: args)) (fun v => Q (some v)) E s) : wpAny M A (callSpecialIfBound? (.ref x) name args) Q E s := by
  have fin : wpAny M A (call (.builtin id) ([.ref x] ++ args) >>= fun v => pure (some v)) Q E s := wpAny_bind (thn h fun _ _ z => wpAny_pure z)
  have bnd : PySem.W.Looks M s.heap (bindSpecial (.builtin id) (.ref x)) (.builtin id, [.ref x]) := PySem.W.Looks.of_pure (hb _)
  unfold callSpecialIfBound? bindSpecialIfBound?
  refine wpAny_holding (wpAny_bind (wpAny_bind (wpAny_bind (I.type.here ((PySem.W.looks_findIn X hs).here ?_)))))
  refine wpAny_bind (wpAny_askSetting (wpAny_ite ?_))
  split
  · exact wpAny_bind (bnd.here (wpAny_pure (by exact fin)))
  · exact wpAny_tryCatch (wpAny_bind (bnd.here (wpAny_pure (by exact fin))))
open Builtin in
theorem ne_own {Q : Value → Shared → Prop} (hu : A.units + 1 < cLine) (X : K.In s.heap) (I : PySem.W.InstAt s.heap x ox C od) (hb : PySem.W.Looks (model prog w) s.heap (typeOf b) tb) (hn : PySem.W.notFirst K C tb = true) (hm : PySem.W.mroIn K C (.type "object") = some true)
    (hs : PySem.W.findIn K (.ref C) "__eq__" = some (some (.ref f))) (hf : PySem.W.isFn K (.ref f) = true) (hne : PySem.W.findIn K (.ref C) "__ne__" = some (some (.builtin "object.__ne__")))
    (h : wpAny (model prog w) A.in1 (call (.ref f) [.ref x, b]) (fun v s' => ∃ c, v = .bool c ∧ Q (.bool (!c)) s') E s) : wpAny (model prog w) A (richCompare .NotEq (.ref x) b) Q E s := by
  have one : wpAny (model prog w) A (tryCompare (.ref x) (cmpInfo .NotEq).2.1 b) (fun r s' => ∃ v, r = some v ∧ Q v s') E s := by
    unfold tryCompare
    refine wpAny_bind (ifBound_b (name := "__ne__") X I hne PySem.F.slot_tuple_iterator_ne.bind ?_)
    refine wpAny_call (codeAny_call_builtin PySem.F.slot_tuple_iterator_ne.plain PySem.F.cmpEntry_ne (PySem.W.check_slot PySem.F.cmpKind_ne PySem.F.cmpSplit_ne (I.type.andThen (PySem.W.looks_mroIn X hm)) (PySem.F.cmpArgs_ne _ _) ?_))
    unfold Builtin.«object.__ne__»
    refine wpAny_bind (m := slotArgs "__ne__" 1 _) (wpAny_pure ?_)
    refine wpAny_bind (m := cRoomFor _ _) (wpAny_cRoomFor hu ?_)
    refine wpAny_bind (m := callSpecialIfBound? (.ref x) (Str.ofString "__eq__") _) (PySem.W.ifBound_K X I hs hf (thn h fun r s' hr => ?_))
    obtain ⟨c, rfl, hq⟩ := hr
    refine wpAny_bind (wpAny_truthy_bool (wpAny_pure ?_))
    exact wpAny_pure ⟨_, rfl, hq⟩
  unfold richCompare
  simp only [oneThing_ref]
  refine wpAny_holding (wpAny_bind (wpAny_cRoomFor (by omega) ?_))
  refine wpAny_bind (I.type.here (wpAny_bind (hb.here ?_)))
  split
  · rename_i q
    have e : PySem.W.subIn K tb (.ref C) = some false := by
      rcases Bool.or_eq_true_iff.mp hn with e | e
      · rw [beq_iff_eq.mp e] at q
        simp at q
      · exact beq_iff_eq.mp e
    refine wpAny_bind ((PySem.W.looks_subIn X e).here ?_)
    simp only [Bool.false_eq_true, if_false]
    refine wpAny_bind (thn one fun r s' z => ?_)
    obtain ⟨v, rfl, hq⟩ := z
    exact wpAny_pure hq
  · refine wpAny_bind (wpAny_pure ?_)
    simp only [Bool.false_eq_true, if_false]
    refine wpAny_bind (thn one fun r s' z => ?_)
    obtain ⟨v, rfl, hq⟩ := z
    exact wpAny_pure hq
end
/-! ### rules -/
section
variable {X : Cx} {CX : CXT} {k : Nat} {f C : Addr} {fd : FuncData} {ps : List Str} {sp : Sp} {E : XK}
/-- the object's own record -/
theorem inst_of {pins : List (Addr × Obj)} {σ : L2.St} {H : Hp} {s : Shared} {a dx : Addr} {fs : List (Str × V)} (I : Inv X pins σ H s) (e : H a = some (.ins C dx fs)) : ∃ od, PySem.W.InstAt s.heap a (PySem.W.instObj C dx) C (some od) := by
  obtain ⟨mA, O, _⟩ := ins_get I.hok e
  obtain ⟨od, J, _⟩ := O.look
  exact ⟨od, J⟩
/-- a number's operator that the class at C has as a def -/
structure OpAt (K : PySem.W.Frag) (C : Addr) (op : Operator) (f : Addr) : Prop where
  first : PySem.W.selfFirst K C = true
  at_ : PySem.W.findIn K (.ref C) (PySem.dunder op.info.2) = some (some (.ref f))
  fn : PySem.W.isFn K (.ref f) = true
/-- .. asked with an int at the right -/
structure OpInt (K : PySem.W.Frag) (C : Addr) (op : Operator) : Prop where
  back : PySem.W.findIn K (.ref C) (PySem.dunderR op.info.2) = some none
  io : ∃ fo, PySem.W.findIn K (.type "int") (PySem.dunder op.info.2) = some fo
  ir : ∃ ro, PySem.W.findIn K (.type "int") (PySem.dunderR op.info.2) = some ro
  sub : PySem.W.subIn K (.type "int") (.ref C) = some false
/-- x op y: both of the class at C; or y an int -/
def rBin (C : Addr) (sp : Sp) (E : XK) : R2 := fun x y H Q => ∃ a dx fs, x = .ref a ∧ H a = some (.ins C dx fs) ∧ ((∃ b dy gs, y = .ref b ∧ H b = some (.ins C dy gs)) ∨ ∃ i, y = .int i) ∧ sp [x, y] H Q E
theorem op_bin {op : Operator} (O : OpAt X.K C op f) (OI : OpInt X.K C op) (F : FnG X.prog X.w X.K X.mg X.base CX k f fd ps sp) (hr : Rm k X.A) (hb : Binds X.K fd ps []) (hx : Passes CX X E) : OpR X (binaryOp op) (rBin C sp E) := by
  intro pins s σ H x y v u Q I rx ry h
  obtain ⟨a, dx, fs, rfl, ha, hy, q⟩ := h
  cases (show v = Value.ref a from rx)
  obtain ⟨od, J⟩ := inst_of I ha
  obtain ⟨m, hF⟩ := I.fr
  have go : wpAny (model X.prog X.w) X.A (call (.ref f) [.ref a, u]) (PySem.W.CmpBack (EP X pins σ Q)) X.xe s := by
    refine thn (run_g (us := [.ref a, u]) (vs := [.ref a, y]) (dvs := []) F hr I.env0 hb .nil hx I (.cons rfl (.cons ry .nil)) q) fun w s' z => ?_
    obtain ⟨z', H', I', rz, qz⟩ := z
    exact SlX.cmpback rz ⟨z', H', I', rz, qz⟩
  rcases hy with ⟨b, dy, gs, rfl, hb⟩ | ⟨i, rfl⟩
  · cases (show u = Value.ref b from ry)
    obtain ⟨od', J'⟩ := inst_of I hb
    exact PySem.W.binop_K hF I.ok.mod.kin J J'.type O.first O.at_ O.fn go
  · obtain ⟨t, rfl⟩ := (show ∃ t, u = Value.int i t from ry)
    obtain ⟨fo, h1⟩ := OI.io
    obtain ⟨ro, h2⟩ := OI.ir
    exact PySem.W.ksp_binT (T := "int") hF I.ok.mod.kin J (by rfl) O.first O.at_ O.fn OI.back (.inl rfl) h1 h2 OI.sub go
/-- -x -/
def rNeg (C : Addr) (sp : Sp) (E : XK) : V → Hp → VK → Prop := fun x H Q => ∃ a dx fs, x = .ref a ∧ H a = some (.ins C dx fs) ∧ sp [x] H Q E
theorem un_own (hs : PySem.W.findIn X.K (.ref C) "__neg__" = some (some (.ref f))) (hf : PySem.W.isFn X.K (.ref f) = true) (F : FnG X.prog X.w X.K X.mg X.base CX k f fd ps sp) (hr : Rm k X.A) (hb : Binds X.K fd ps []) (hx : Passes CX X E) : UnR X (unaryOp .USub) (rNeg C sp E) := by
  intro pins s σ H x v Q I rx h
  obtain ⟨a, dx, fs, rfl, ha, q⟩ := h
  cases (show v = Value.ref a from rx)
  obtain ⟨od, J⟩ := inst_of I ha
  obtain ⟨m, hF⟩ := I.fr
  exact PySem.W.ksp_neg hF I.ok.mod.kin J hs hf (run_g (us := [.ref a]) (vs := [.ref a]) (dvs := []) F hr I.env0 hb .nil hx I (.cons rfl .nil) q)
/-- x == y by x's own __eq__, whatever y is -/
def rEqO (K : PySem.W.Frag) (C : Addr) (sp : Sp) (E : XK) : R2 := fun x y H Q => ∃ a dx fs t, x = .ref a ∧ H a = some (.ins C dx fs) ∧ TyX K H y t ∧ PySem.W.notFirst K C t = true ∧ sp [x, y] H Q E
theorem op_eqO (hs : PySem.W.findIn X.K (.ref C) "__eq__" = some (some (.ref f))) (hf : PySem.W.isFn X.K (.ref f) = true) (F : FnG X.prog X.w X.K X.mg X.base CX k f fd ps sp) (hr : Rm k X.A) (hb : Binds X.K fd ps []) (hx : Passes CX X E) : OpR X (compareOp .Eq) (rEqO X.K C sp E) := by
  intro pins s σ H x y v u Q I rx ry h
  obtain ⟨a, dx, fs, t, rfl, ha, ty, hn, q⟩ := h
  cases (show v = Value.ref a from rx)
  obtain ⟨od, J⟩ := inst_of I ha
  obtain ⟨m, hF⟩ := I.fr
  obtain ⟨P, Z, hp, _⟩ := kit_of I ry ty
  refine PySem.W.cmp_K (op := .Eq) hr.r.units0 hF I.ok.mod.kin J (Z.ty _ _ I.kIn hp) hn hs hf ?_
  refine thn (run_g (us := [.ref a, u]) (vs := [.ref a, y]) (dvs := []) F hr I.env0 hb .nil hx I (.cons rfl (.cons ry .nil)) q) fun w s' z => ?_
  obtain ⟨z', H', I', rz, qz⟩ := z
  exact SlX.cmpback rz ⟨z', H', I', rz, qz⟩
/-- x != y by x's own __eq__ -/
def rNeO (K : PySem.W.Frag) (C : Addr) (sp : Sp) (E : XK) : R2 := fun x y H Q => ∃ a dx fs t, x = .ref a ∧ H a = some (.ins C dx fs) ∧ TyX K H y t ∧ PySem.W.notFirst K C t = true ∧ sp [x, y] H (fun z H' => ∃ c, z = .bl c ∧ Q (.bl (!c)) H') E
theorem op_neO (hs : PySem.W.findIn X.K (.ref C) "__eq__" = some (some (.ref f))) (hf : PySem.W.isFn X.K (.ref f) = true) (hne : PySem.W.findIn X.K (.ref C) "__ne__" = some (some (.builtin "object.__ne__"))) (hm : PySem.W.mroIn X.K C (.type "object") = some true)
    (F : FnG X.prog X.w X.K X.mg X.base CX k f fd ps sp) (hr : Rm (k + 1) X.A) (hb : Binds X.K fd ps []) (hx : Passes CX X E) : OpR X (compareOp .NotEq) (rNeO X.K C sp E) := by
  intro pins s σ H x y v u Q I rx ry h
  obtain ⟨a, dx, fs, t, rfl, ha, ty, hn, q⟩ := h
  cases (show v = Value.ref a from rx)
  obtain ⟨od, J⟩ := inst_of I ha
  obtain ⟨P, Z, hp, _⟩ := kit_of I ry ty
  have hu := hr.r.units
  refine ne_own (by omega) I.kIn J (Z.ty _ _ I.kIn hp) hn hm hs hf hne ?_
  refine thn (run_g (us := [.ref a, u]) (vs := [.ref a, y]) (dvs := []) F hr.in1 I.env0.in1 hb .nil hx I (.cons rfl (.cons ry .nil)) q) fun w s' z => ?_
  obtain ⟨z', H', I', rz, c, rfl, qz⟩ := z
  cases (show w = Value.bool c from rz)
  exact ⟨c, rfl, .bl (!c), H', I', rfl, qz⟩
/-- repr(x), str(x) by the class's own def -/
def rShow (C : Addr) (sp : Sp) (E : XK) : List V → Hp → VK → Prop := fun xs H Q => ∃ a dx fs, xs = [.ref a] ∧ H a = some (.ins C dx fs) ∧ sp [.ref a] H (fun z H' => ∃ y, z = .str y ∧ Q z H') E
theorem call_reprO (hs : PySem.W.findIn X.K (.ref C) "__repr__" = some (some (.ref f))) (hf : PySem.W.isFn X.K (.ref f) = true) (F : FnG X.prog X.w X.K X.mg X.base CX k f fd ps sp) (hr : Rm (k + 1) X.A) (hb : Binds X.K fd ps []) (hx : Passes CX X E) : CallR X (.builtin "repr") (rShow C sp E) := by
  intro pins s σ H xs us Q I r h
  obtain ⟨a, dx, fs, rfl, ha, q⟩ := h
  obtain ⟨u, rfl, ru⟩ := r.one
  cases (show u = Value.ref a from ru)
  obtain ⟨od, J⟩ := inst_of I ha
  obtain ⟨m, hF⟩ := I.fr
  refine PySem.W.repr_K hr.in1.r.units0 hF I.ok.mod.kin J hs hf (thn (run_g (us := [.ref a]) (vs := [.ref a]) (dvs := []) F hr.in1 I.env0.in1 hb .nil hx I (.cons rfl .nil) q) fun w s' z => ?_)
  obtain ⟨z', H', I', rz, y, rfl, qz⟩ := z
  obtain ⟨t, rfl⟩ := (show ∃ t, w = Value.str y t from rz)
  exact ⟨.str y, H', I', ⟨t, rfl⟩, qz⟩
theorem call_strO (hs : PySem.W.findIn X.K (.ref C) "__str__" = some (some (.ref f))) (hf : PySem.W.isFn X.K (.ref f) = true) (F : FnG X.prog X.w X.K X.mg X.base CX k f fd ps sp) (hr : Rm (k + 2) X.A) (hb : Binds X.K fd ps []) (hx : Passes CX X E) : CallR X (.type "str") (rShow C sp E) := by
  intro pins s σ H xs us Q I r h
  obtain ⟨a, dx, fs, rfl, ha, q⟩ := h
  obtain ⟨u, rfl, ru⟩ := r.one
  cases (show u = Value.ref a from ru)
  obtain ⟨od, J⟩ := inst_of I ha
  have hr2 : Rm k X.A.in1.in1 := (show Rm (k + 1) X.A.in1 from hr.in1).in1
  refine PySem.W.kso_call hr2.r.units0 I.kIn J hs hf (thn (run_g (us := [.ref a]) (vs := [.ref a]) (dvs := []) F hr2 I.env0.in1.in1 hb .nil hx I (.cons rfl .nil) q) fun w s' z => ?_)
  obtain ⟨z', H', I', rz, y, rfl, qz⟩ := z
  obtain ⟨t, rfl⟩ := (show ∃ t, w = Value.str y t from rz)
  exact ⟨.str y, H', I', ⟨t, rfl⟩, qz⟩
/-- repr of data: ints, texts, bools, None, lists and tuples of these -/
def rRepD (K : PySem.W.Frag) : List V → Hp → VK → Prop := fun xs H Q => ∃ a d, xs = [.ref a] ∧ Dp K H (.ref a) d ∧ d.showable = true ∧ d.hasDict = false ∧ d.depth ≤ 40 ∧ d.shown.length ≤ sizeLine ∧ Q (.str d.shown) H
theorem call_reprD (hr : Rm k X.A) : CallR X (.builtin "repr") (rRepD X.K) := by
  intro pins s σ H xs us Q I r h
  obtain ⟨a, d, rfl, hd, hs, hn, hp, hz, q⟩ := h
  obtain ⟨u, rfl, ru⟩ := r.one
  obtain ⟨as, rd⟩ := Dp.reads I d _ _ hd ru
  cases (show u = Value.ref a from ru)
  have hu := hr.r.units
  exact repr_of_reads' rd hs (fun z => by rw [hn] at z; cases z) hr.g (by omega) (fun _ _ e => e) (fun h' u tk hk => ⟨.str d.shown, H, I.kept hk, ⟨_, rfl⟩, q⟩) hz
end
end LL

set_option Elab.async false
set_option linter.all false
set_option maxRecDepth 100000
set_option maxHeartbeats 2000000
/-! LLCall: a def, a method, a maker, a property, each as one fact; some operators. -/
namespace LL
open PySem PySem.Spec PyProof.Rows L2
section
variable (P : Program) (w : World) (K : PySem.W.Frag) (mg : Str → Option Value) (base : Heap) (CX : CXT) (k : Nat)
/-- the module's name x is a def that keeps sp; dvs fill up -/
structure Fnc (x : Str) (dvs : List V) (sp : Sp) : Prop where
  ex : ∃ (f : Addr) (fd : FuncData) (ps : List Str) (ds : List Value), mg x = some (.ref f) ∧ PySem.W.keepIn K (.ref f) = true ∧ Binds K fd ps ds ∧ Vals dvs ds ∧ FnG P w K mg base CX k f fd ps sp
/-- the class at C has the method m -/
structure Mth (C : Addr) (m : Str) (dvs : List V) (sp : Sp) : Prop where
  cl : Cls K C
  ex : ∃ (f : Addr) (fd : FuncData) (ps : List Str) (ds : List Value), Meth K C m f ∧ Binds K fd ps ds ∧ Vals dvs ds ∧ FnG P w K mg base CX k f fd ps sp
/-- the module's name x is the class at C, made by an __init__ that keeps sp -/
structure Mkr (x : Str) (C : Addr) (dvs : List V) (sp : Sp) : Prop where
  ex : ∃ (f : Addr) (fd : FuncData) (ps : List Str) (ds : List Value), Mk K C f ∧ mg x = some (.ref C) ∧ Binds K fd ps ds ∧ Vals dvs ds ∧ FnG P w K mg base CX k f fd ps sp
/-- the class at C has the property m -/
structure Prp (C : Addr) (m : Str) (sp : Sp) : Prop where
  cl : Cls K C
  ex : ∃ (p g : Addr) (fd : FuncData) (ps : List Str), PropOf K C m p g ∧ Binds K fd ps [] ∧ FnG P w K mg base CX k g fd ps sp
end
section
variable {X : Cx} {CX : CXT} {k : Nat} {C : Addr} {sp : Sp} {dvs : List V} {E : XK} {x m : Str} {p pos apos : Pos} {e o : Expr} {es : List Expr} {ta : TE} {t : TA}
theorem pe_fn (G : Fnc X.prog X.w X.K X.mg X.base CX k x dvs sp) (hr : Rm k X.A) (hx : Passes CX X E) (ha : PA X (e :: es) t) (hg : Gl X x := by rfl) (hdb : (x == ("__debug__" : Str)) = false := by decide)
    (he : starEach (e :: es) X.env = (false, eval e X.env) :: starEach es X.env := by rfl) (hpl : (backTo pos (starEach es X.env)).any (·.1) = false := by rfl) : PE X (.Call (.Name x p) (e :: es) [] pos) (tCall sp dvs E t) := by
  obtain ⟨f, fd, ps, ds, hm, hk, hb, hd, F⟩ := G.ex
  exact pe_callG F hr hg hm hk hb hd hx ha hdb he hpl
theorem pe_fn0 (G : Fnc X.prog X.w X.K X.mg X.base CX k x dvs sp) (hr : Rm k X.A) (hx : Passes CX X E) (hg : Gl X x := by rfl) (hdb : (x == ("__debug__" : Str)) = false := by decide) : PE X (.Call (.Name x p) [] [] pos) (tCall sp dvs E tNil) := by
  obtain ⟨f, fd, ps, ds, hm, hk, hb, hd, F⟩ := G.ex
  exact pe_call0G F hr hg hm hk hb hd hx hdb
theorem pe_mt {pl : Sem Bool} (G : Mth X.prog X.w X.K X.mg X.base CX k C m dvs sp) (hr : Rm k X.A) (hx : Passes CX X E) (he : PE X o ta) (ha : PA X (e :: es) t)
    (hst : starEach (e :: es) X.env = (false, eval e X.env) :: starEach es X.env := by rfl) (hpl : (backTo pos (starEach es X.env)).any (·.1) = false := by rfl)
    (ht : eval (.Call (.Attribute o m apos) (e :: es) [] pos) X.env = (do
      let ov ← eval o X.env
      standAt apos.atName
      let (f, first) ← holding [ov] (getMethod ov m pl)
      callWith pos f first (backTo pos (starEach (e :: es) X.env)) (backToKw pos (keywordEach [] X.env))) := by rfl) : PE X (.Call (.Attribute o m apos) (e :: es) [] pos) (tMeth C m sp dvs E ta t) := by
  obtain ⟨f, fd, ps, ds, hm, hb, hd, F⟩ := G.ex
  exact pe_methG he G.cl hm F hr hb hd hx ha hst hpl ht
theorem pe_mt0 {pl : Sem Bool} (G : Mth X.prog X.w X.K X.mg X.base CX k C m dvs sp) (hr : Rm k X.A) (hx : Passes CX X E) (he : PE X o ta)
    (ht : eval (.Call (.Attribute o m apos) [] [] pos) X.env = (do
      let ov ← eval o X.env
      standAt apos.atName
      let (f, first) ← holding [ov] (getMethod ov m pl)
      callWith pos f first (backTo pos (starEach [] X.env)) (backToKw pos (keywordEach [] X.env))) := by rfl) : PE X (.Call (.Attribute o m apos) [] [] pos) (tMeth C m sp dvs E ta tNil) := by
  obtain ⟨f, fd, ps, ds, hm, hb, hd, F⟩ := G.ex
  exact pe_meth0G he G.cl hm F hr hb hd hx ht
theorem pe_mk (G : Mkr X.prog X.w X.K X.mg X.base CX k x C dvs sp) (hr : Rm (k + 1) X.A) (hx : Passes CX X E) (ha : PA X (e :: es) t) (hg : Gl X x := by rfl) (hdb : (x == ("__debug__" : Str)) = false := by decide)
    (he : starEach (e :: es) X.env = (false, eval e X.env) :: starEach es X.env := by rfl) (hpl : (backTo pos (starEach es X.env)).any (·.1) = false := by rfl) : PE X (.Call (.Name x p) (e :: es) [] pos) (tMake C sp dvs E t) := by
  obtain ⟨f, fd, ps, ds, M, hm, hb, hd, F⟩ := G.ex
  exact pe_makeG M F hr hg hm hb hd hx ha hdb he hpl
theorem pe_mk0 (G : Mkr X.prog X.w X.K X.mg X.base CX k x C dvs sp) (hr : Rm (k + 1) X.A) (hx : Passes CX X E) (hg : Gl X x := by rfl) (hdb : (x == ("__debug__" : Str)) = false := by decide) : PE X (.Call (.Name x p) [] [] pos) (tMake C sp dvs E tNil) := by
  obtain ⟨f, fd, ps, ds, M, hm, hb, hd, F⟩ := G.ex
  exact pe_make0G M F hr hg hm hb hd hx hdb
/-- e.m, a property -/
def tPr (C : Addr) (sp : Sp) (E : XK) (ta : TE) : TE := fun σ H Q => ta σ H fun x H1 => ∃ a dx fs, x = .ref a ∧ H1 a = some (.ins C dx fs) ∧ sp [.ref a] H1 Q E
theorem pe_pr (G : Prp X.prog X.w X.K X.mg X.base CX k C m sp) (hr : Rm (k + 1) X.A) (hx : Passes CX X.nox E) (he : PE X e ta) (hab : attributeBase e m X.env (eval e X.env) = eval e X.env := by rfl) : PE X (.Attribute e m pos) (tPr C sp E ta) := by
  obtain ⟨p, g, fd, ps, hp, hb, F⟩ := G.ex
  refine ⟨fun pins s σ H Q I h => attr_of hab (thn (he.run pins s σ H _ I h) fun u s1 hh => ?_)⟩
  obtain ⟨x, H1, I1, rx, a, dx, fs, rfl, ea, q⟩ := hh
  obtain rfl : u = Value.ref a := rx
  obtain ⟨od, J⟩ := inst_of I1 ea
  have c := G.cl
  have hc : (PySem.W.clsIn X.K C).isSome = true := by
    obtain ⟨cd, hc, _⟩ := PySem.W.any_some c.hd
    rw [hc]
    rfl
  obtain ⟨rest, hrec⟩ := hp.rec_
  have I2 : Inv X pins σ H1 { s1 with toks := s1.toks + 1 } := I1.tok _
  have hl : ([Value.ref a] : List Value).length = ps.length := F.len _ _ _ _ q
  refine PySem.W.get_bind I1.kIn J (PySem.W.plainGet_of (c.get m)).1 (PySem.W.findObj_data hc hp.at_ hp.get hp.tak) (PySem.W.plainGet_of (c.get m)).2 (wpAny_call (PySem.W.prop_get (s := { s1 with toks := s1.toks + 1 }) I1.kIn hrec ?_))
  have go := F.run X.A.in1 X.stack { s1 with toks := s1.toks + 1 } H1 ⟨[.ref a], []⟩ [.ref a] [.ref a] Q E hr.in1 I2.env0.in1 (hb _ [.ref a] I2.kIn hl) (.cons rfl .nil) q
  refine codeAny_mono go fun r s' hq => ?_
  match r, hq with
  | .error er, hq => exact False.elim (hx pins σ H1 _ er s' (I2.wish _) hq)
  | .ok (.ret u), hq =>
    obtain ⟨v, H', I3, rv, q3⟩ := I2.after hq
    exact wpAny_of_eq (PySem.W.handedOut_of (handed_of rv)) ⟨v, H', I3, rv, q3⟩
  | .ok .next, hq => exact False.elim hq
  | .ok .brk, hq => exact False.elim hq
  | .ok .cont, hq => exact False.elim hq
/-! ### some operators -/
/-- // by any number but 0 -/
def CDivZ (_ j : Int) : Prop := j ≠ 0 ∧ j.natAbs.log2 < 9000
theorem op_fdivZ : OpR X (binaryOp .FloorDiv) (rI CDivZ fun i j => .int (i.fdiv j)) := opI fun _ _ _ _ _ _ _ hc q => floordiv_int hc.1 q (.inl (PyProof.noPylong_of_log2 hc.2))
theorem wide_divZ {i j : Int} {b : Nat} (h : j ≠ 0) (hb : j.natAbs < 2 ^ b) (h0 : 0 < b) (h9 : b ≤ 9000) : CDivZ i j := ⟨h, Nat.lt_of_lt_of_le (PySem.Flt.log2_lt_of h0 hb) h9⟩
end
/-! ### tests -/
theorem iteY {c : Bool} {A B : Prop} (h : c = true) (a : A) : if c = true then A else B := by
  rw [if_pos h]
  exact a
theorem iteN {c : Bool} {A B : Prop} (h : c = false) (b : B) : if c = true then A else B := by
  rw [if_neg (by rw [h]; exact Bool.false_ne_true)]
  exact b
theorem iteB {c : Bool} {A B : Prop} (h1 : c = true → A) (h2 : c = false → B) : if c = true then A else B := by
  cases c with
  | true => exact iteT (h1 rfl)
  | false => exact iteF (h2 rfl)
theorem dec_ne {i j : Int} (h : i ≠ j) : decide (V.int i = V.int j) = false := decide_eq_false fun z => h (V.int.inj z)
theorem dec_eq {i j : Int} (h : i = j) : decide (V.int i = V.int j) = true := decide_eq_true (by rw [h])
/-! ### heaps -/
/-- all that was tracked but p is as it was -/
def But (p : Addr) (H H' : Hp) : Prop := ∀ b o, H b = some o → b ≠ p → H' b = some o
theorem But.refl {p : Addr} {H : Hp} : But p H H := fun _ _ e _ => e
theorem But.trans {p : Addr} {H H1 H2 : Hp} (a : But p H H1) (b : But p H1 H2) : But p H H2 := fun c o e n => b c o (a c o e n) n
theorem But.of {p : Addr} {H H' : Hp} (a : Same H H') : But p H H' := fun c o e _ => a c o e
theorem same_upd {H : Hp} {p : Addr} {o : HO} (h : H p = none) : Same H (upd H p o) := fun b x e => by
  rw [upd_ne (ne_of_none e h)]
  exact e
theorem but_upd {H : Hp} {p : Addr} {o : HO} : But p H (upd H p o) := fun b x e n => by
  rw [upd_ne n]
  exact e
/-- what was new at p stands beside what was -/
theorem But.same {p : Addr} {H H' : Hp} (a : But p H H') (n : H p = none) : Same H H' := fun b o e => a b o e (ne_of_none e n)
theorem But.free {p : Addr} {H H' : Hp} (a : But p H H') {b : Addr} (hb : b ≠ p) (h : H' b = none) : H b = none := by
  cases q : H b with
  | none => rfl
  | some o =>
    rw [a b o q hb] at h
    cases h
end LL

set_option Elab.async false
set_option linter.all false
set_option maxRecDepth 100000
set_option maxHeartbeats 2000000
/-! LLData: what repr of data is, how long it is. -/
namespace LL
open PySem PySem.Spec PyProof.Rows L2
/-- signs as texts have them -/
def Asc (x : Str) : Prop := ∀ c ∈ x.cps.toList, c < 16 ^ 8
theorem asc_of (s : String) : Asc (Str.ofString s) := by
  intro c hc
  rw [signs_ofString] at hc
  obtain ⟨k, _, rfl⟩ := List.mem_map.mp hc
  have h : k.toNat < 1114112 := by
    have := k.valid
    rcases this with h | ⟨_, h⟩
    · exact Nat.lt_trans h (by decide)
    · exact h
  exact Nat.lt_trans h (by decide)
theorem Asc.app {x y : Str} (hx : Asc x) (hy : Asc y) : Asc (x ++ y) := by
  intro c hc
  rw [Str.cps_append, Array.toList_append] at hc
  rcases List.mem_append.mp hc with h | h
  · exact hx c h
  · exact hy c h
theorem textFrom_size : ∀ (ts : List Str) (k : Nat) (acc : Str), (textFrom k acc ts).length ≤ acc.length + piled ts
  | [], _, acc => Nat.le_add_right _ _
  | t :: r, k, acc => by
    have h := textFrom_size r (k + 1) (acc ++ (if k > 0 then ", " else "" : String) ++ t)
    have e : (((if k > 0 then ", " else "" : String) : Str)).length ≤ 2 := by split <;> decide +kernel
    rw [strLen_append, strLen_append] at h
    rw [piled_cons]
    show (textFrom (k + 1) _ r).length ≤ _
    omega
theorem listText_size (ts : List Str) : (listText ts).length ≤ piled ts + 2 := by
  have h := textFrom_size ts 0 "["
  unfold listText
  rw [strLen_append]
  have e1 : ((("[" : String) : Str)).length = 1 := rfl
  have e2 : ((("]" : String) : Str)).length = 1 := rfl
  omega
mutual
/-- a bound on the signs that are shown -/
def cost : PyData → Nat
  | .none => 5
  | .bool _ => 5
  | .int _ => 1930
  | .str x => 10 * x.length + 2
  | .list xs => costAll xs + 2
  | .tuple xs => costAll xs + 2
  | .dict _ => 0
def costAll : List PyData → Nat
  | [] => 0
  | x :: xs => cost x + 2 + costAll xs
end
mutual
/-- data without dicts that repr can show -/
def Shw : PyData → Prop
  | .none => True
  | .bool _ => True
  | .int i => i.natAbs.log2 < 1920
  | .str x => Asc x
  | .list xs => ShwAll xs
  | .tuple xs => ShwAll xs
  | .dict _ => False
def ShwAll : List PyData → Prop
  | [] => True
  | x :: xs => Shw x ∧ ShwAll xs
end
mutual
theorem Shw.all : ∀ d : PyData, Shw d → d.shown.length ≤ cost d ∧ d.showable = true ∧ d.hasDict = false
  | .none, _ => ⟨by simp only [PyData.shown, cost]; decide +kernel, by simp only [PyData.showable], by simp only [PyData.hasDict]⟩
  | .bool b, _ => ⟨by simp only [PyData.shown, cost]; cases b <;> decide +kernel, by simp only [PyData.showable], by simp only [PyData.hasDict]⟩
  | .int i, h => by
    simp only [Shw] at h
    refine ⟨?_, by simp only [PyData.showable]; exact decide_eq_true h, by simp only [PyData.hasDict]⟩
    simp only [PyData.shown, cost]
    have e := int_text_length_le (k := 1920) (by decide) h
    rw [PySem.ofString_length]
    omega
  | .str x, h => by
    simp only [Shw] at h
    exact ⟨by simp only [PyData.shown, cost]; exact StrLaws.reprText_len x h, by simp only [PyData.showable], by simp only [PyData.hasDict]⟩
  | .list xs, h => by
    simp only [Shw] at h
    obtain ⟨h1, h2, h3⟩ := ShwAll.all xs h
    refine ⟨?_, by simp only [PyData.showable]; exact h2, by simp only [PyData.hasDict]; exact h3⟩
    simp only [PyData.shown, cost]
    exact Nat.le_trans (listText_size _) (by omega)
  | .tuple xs, h => by
    simp only [Shw] at h
    obtain ⟨h1, h2, h3⟩ := ShwAll.all xs h
    refine ⟨?_, by simp only [PyData.showable]; exact h2, by simp only [PyData.hasDict]; exact h3⟩
    simp only [PyData.shown, cost]
    exact Nat.le_trans (fmt_text _) (by omega)
  | .dict _, h => by
    simp only [Shw] at h
theorem ShwAll.all : ∀ xs : List PyData, ShwAll xs → piled (PyData.shownAll xs) ≤ costAll xs ∧ PyData.showableAll xs = true ∧ PyData.hasDictAll xs = false
  | [], _ => ⟨by simp only [PyData.shownAll, costAll]; exact Nat.le_refl _, by simp only [PyData.showableAll], by simp only [PyData.hasDictAll]⟩
  | x :: xs, h => by
    simp only [ShwAll] at h
    obtain ⟨a1, a2, a3⟩ := Shw.all x h.1
    obtain ⟨b1, b2, b3⟩ := ShwAll.all xs h.2
    refine ⟨?_, by simp only [PyData.showableAll]; rw [a2, b2]; rfl, by simp only [PyData.hasDictAll]; rw [a3, b3]; rfl⟩
    simp only [PyData.shownAll, costAll]
    rw [piled_cons]
    omega
end
section
variable {X : Cx} {k : Nat}
/-- repr of a list or tuple of such -/
def rRepS (K : PySem.W.Frag) : List V → Hp → VK → Prop := fun xs H Q => ∃ a d, xs = [.ref a] ∧ Dp K H (.ref a) d ∧ Shw d ∧ d.depth ≤ 40 ∧ cost d ≤ sizeLine ∧ Q (.str d.shown) H
theorem call_reprS (hr : Rm k X.A) : CallR X (.builtin "repr") (rRepS X.K) := by
  intro pins s σ H xs us Q I r h
  obtain ⟨a, d, rfl, hd, hs, hp, hz, q⟩ := h
  obtain ⟨h1, h2, h3⟩ := Shw.all d hs
  exact call_reprD hr pins s σ H _ us Q I r ⟨a, d, rfl, hd, h2, h3, hp, Nat.le_trans h1 hz, q⟩
/-- repr of what is no object: None, a bool, an int, a text -/
def rRepF : List V → Hp → VK → Prop := fun xs H Q => (∃ i, xs = [.int i] ∧ i.natAbs.log2 < 1920 ∧ Q (.str (toString i)) H) ∨ (∃ b, xs = [.bl b] ∧ Q (.str (if b then "True" else "False")) H) ∨ (xs = [.non] ∧ Q (.str "None") H) ∨
  (∃ x, xs = [.str x] ∧ (reprText x).length ≤ sizeLine ∧ Q (.str (reprText x)) H)
theorem call_reprF : CallR X (.builtin "repr") rRepF := by
  intro pins s σ H xs us Q I r h
  rcases h with ⟨i, rfl, hi, q⟩ | ⟨b, rfl, q⟩ | ⟨rfl, q⟩ | ⟨x, rfl, hx, q⟩
  · obtain ⟨u, rfl, ru⟩ := r.one
    obtain ⟨t, rfl⟩ := (show ∃ t, u = Value.int i t from ru)
    exact PySem.P.repr_of_int hi ⟨.str _, H, I.tok _, ⟨_, rfl⟩, q⟩
  · obtain ⟨u, rfl, ru⟩ := r.one
    cases (show u = Value.bool b from ru)
    exact PySem.P.repr_of_bool ⟨.str _, H, I.tok _, ⟨_, rfl⟩, q⟩
  · obtain ⟨u, rfl, ru⟩ := r.one
    cases (show u = Value.none from ru)
    exact PySem.P.repr_of_none ⟨.str _, H, I.tok _, ⟨_, rfl⟩, q⟩
  · obtain ⟨u, rfl, ru⟩ := r.one
    obtain ⟨t, rfl⟩ := (show ∃ t, u = Value.str x t from ru)
    exact PySem.P.repr_of_str ⟨.str _, H, I.tok _, ⟨_, rfl⟩, q⟩ hx
end
/-! ### an operator, a special method of an own class, each as one fact -/
section
variable (P : Program) (w : World) (K : PySem.W.Frag) (mg : Str → Option Value) (base : Heap) (CX : CXT) (k : Nat)
structure OpF (C : Addr) (op : Operator) (sp : Sp) : Prop where
  ex : ∃ (f : Addr) (fd : FuncData) (ps : List Str), OpAt K C op f ∧ OpInt K C op ∧ Binds K fd ps [] ∧ FnG P w K mg base CX k f fd ps sp
structure SpF (C : Addr) (m : Str) (sp : Sp) : Prop where
  ex : ∃ (f : Addr) (fd : FuncData) (ps : List Str), PySem.W.findIn K (.ref C) m = some (some (.ref f)) ∧ PySem.W.isFn K (.ref f) = true ∧ Binds K fd ps [] ∧ FnG P w K mg base CX k f fd ps sp
end
section
variable {X : Cx} {CX : CXT} {k : Nat} {C : Addr} {sp : Sp} {E : XK}
theorem op_binF {op : Operator} (O : OpF X.prog X.w X.K X.mg X.base CX k C op sp) (hr : Rm k X.A) (hx : Passes CX X E) : OpR X (binaryOp op) (rBin C sp E) := by
  obtain ⟨f, fd, ps, o1, o2, hb, F⟩ := O.ex
  exact op_bin o1 o2 F hr hb hx
theorem un_negF (O : SpF X.prog X.w X.K X.mg X.base CX k C "__neg__" sp) (hr : Rm k X.A) (hx : Passes CX X E) : UnR X (unaryOp .USub) (rNeg C sp E) := by
  obtain ⟨f, fd, ps, o1, o2, hb, F⟩ := O.ex
  exact un_own o1 o2 F hr hb hx
theorem op_eqF (O : SpF X.prog X.w X.K X.mg X.base CX k C "__eq__" sp) (hr : Rm k X.A) (hx : Passes CX X E) : OpR X (compareOp .Eq) (rEqO X.K C sp E) := by
  obtain ⟨f, fd, ps, o1, o2, hb, F⟩ := O.ex
  exact op_eqO o1 o2 F hr hb hx
theorem op_neF (O : SpF X.prog X.w X.K X.mg X.base CX k C "__eq__" sp) (hne : PySem.W.findIn X.K (.ref C) "__ne__" = some (some (.builtin "object.__ne__"))) (hm : PySem.W.mroIn X.K C (.type "object") = some true) (hr : Rm (k + 1) X.A) (hx : Passes CX X E) : OpR X (compareOp .NotEq) (rNeO X.K C sp E) := by
  obtain ⟨f, fd, ps, o1, o2, hb, F⟩ := O.ex
  exact op_neO o1 o2 hne hm F hr hb hx
theorem call_reprOF (O : SpF X.prog X.w X.K X.mg X.base CX k C "__repr__" sp) (hr : Rm (k + 1) X.A) (hx : Passes CX X E) : CallR X (.builtin "repr") (rShow C sp E) := by
  obtain ⟨f, fd, ps, o1, o2, hb, F⟩ := O.ex
  exact call_reprO o1 o2 F hr hb hx
theorem call_strOF (O : SpF X.prog X.w X.K X.mg X.base CX k C "__str__" sp) (hr : Rm (k + 2) X.A) (hx : Passes CX X E) : CallR X (.type "str") (rShow C sp E) := by
  obtain ⟨f, fd, ps, o1, o2, hb, F⟩ := O.ex
  exact call_strO o1 o2 F hr hb hx
end
end LL

set_option Elab.async false
set_option linter.all false
set_option maxRecDepth 100000
set_option maxHeartbeats 2000000
/-! LLEnd: the law's end over FnG; the head's facts as any tests of the written part. -/
namespace LL
open PySem PySem.Spec PyProof.Rows L2
section
variable {P : Program} {w : World} {K : PySem.W.Frag} {mg mb : Str → Option Value} {CX : CXT} {k : Nat} {fa a : Addr} {fd : FuncData} {x : Str} {sp : Sp} {t : Shared} {us : List Value} {ns : List Int}
/-- what the caller asks of the law's call -/
abbrev LawEnd (t : Shared) (r : Result) (t' : Shared) : Prop := r = .ok (.ret (.bool true)) ∧ OldK t.heap t'.heap ∧ t'.os = t.os ∧ AllBare t'.gens
/-- the law's call where H tracks at most the script -/
theorem lawAt {H : Hp} {osc : Obj} (KX : K.In t.heap) (hns : t.heap.Ns mainGlobals mg) (hb : t.heap.Ns builtinsNs mb) (hbb : ∀ x : Str, x ≠ "__name__" → mb x = bootBuiltins x) (hlim : t.heap.NoLimit) (hg : t.gens = #[])
    (ha : t.heap.get? a = some osc) (hd : ∀ es ep, osc.data ≠ .dict es ep) (hr : Rm k callerA) (F : ∀ base : Heap, K.In base → base.Ns mainGlobals mg → FnG P w K mg base CX k fa fd [x] sp)
    (bd : ∀ (s : Shared) (u : Value), BindsTo s fd ⟨[u], []⟩ [(x, u)]) (hsp : sp [.ref a] H (fun v _ => v = .bl true) fun _ _ _ => False) (hCX : ∀ e s', CX [] H t (fun _ _ _ => False) e s' → False)
    (only : ∀ b, H b = none ∨ (b = a ∧ K.lookup a = none ∧ ∃ o l, H b = some (.frz o (.lst l)))) (hok : HOk P w H t.heap) : codeAny (model P w) callerA (.call (.ref fa) ⟨[.ref a], []⟩) (LawEnd t) t := by
  have free : ∀ {b : Addr} {o : Obj}, t.heap.get? b = some o → (b = a → K.lookup a = none → False) → H b = none := fun {b o} _ h =>
    (only b).elim id fun q => (h q.1 q.2.1).elim
  have nsB : ∀ {b : Addr} {m : Str → Option Value}, t.heap.Ns b m → (hidT t.heap H).Ns b m := by
    rintro b m ⟨o, es, ep, e, d, r⟩
    refine ⟨o, es, ep, hidT_get e (free e fun z _ => ?_), d, r⟩
    subst z
    rw [ha] at e
    cases e
    exact hd _ _ d
  have kB : K.In (hidT t.heap H) := by
    intro b o e
    refine hidT_get (KX b o e) (free (KX b o e) fun z q => ?_)
    rw [z, q] at e
    cases e
  obtain ⟨ml, l1, l2⟩ := hlim
  have env : Env0 P w K mg (hidT t.heap H) callerA [] t H :=
    { frames := rfl
      mod := ⟨kB, nsB hns, ⟨mb, nsB hb, hbb⟩, ⟨ml, nsB l1, l2⟩⟩
      bs := fun _ _ e => of_hidT e
      bsz := Nat.le_of_eq (hidT_size _ _)
      funs := trivial
      frf := fun _ z => by cases (show _ ∈ ([] : List Addr) from z)
      hok := hok
      bare := .of_eq hg }
  have go := (F _ kB (nsB hns)).run callerA [] t H ⟨[.ref a], []⟩ [.ref a] [.ref a] _ _ hr env (bd t (.ref a)) (.cons rfl .nil) hsp
  refine codeAny_mono go fun r t' h => ?_
  match r, h with
  | .error e, h => exact (hCX e t' h).elim
  | .ok .next, h => exact False.elim h
  | .ok .brk, h => exact False.elim h
  | .ok .cont, h => exact False.elim h
  | .ok (.ret u), h =>
    obtain ⟨v, H', e1, e2, un, hok', rv, (rfl : v = .bl true)⟩ := h
    cases (show u = Value.bool true from rv)
    refine ⟨rfl, OldK.of_keep fun b o e => ?_, e1, e2⟩
    rcases only b with n | ⟨_, _, ob, l, z⟩
    · exact un.keep b o e n (fun z => by cases (show b ∈ ([] : List Addr) from z)) (fun z => by cases z)
    · have z1 := (hok b _ z).1
      have z2 := (hok' b _ (un.frzs b ob _ z)).1
      rw [e] at z1
      cases z1
      exact z2
/-- the law's call -/
theorem lawG (KX : K.In t.heap) (hns : t.heap.Ns mainGlobals mg) (hb : t.heap.Ns builtinsNs mb) (hbb : ∀ x : Str, x ≠ "__name__" → mb x = bootBuiltins x) (hlim : t.heap.NoLimit) (hg : t.gens = #[])
    (ha : t.heap.get? a = some { cls := .type "list", data := .seq us.toArray }) (hi : IntsAre us ns) (hl : ns.length ≤ sizeLine) (hr : Rm k callerA) (F : ∀ base : Heap, K.In base → base.Ns mainGlobals mg → FnG P w K mg base CX k fa fd [x] sp)
    (bd : ∀ (s : Shared) (u : Value), BindsTo s fd ⟨[u], []⟩ [(x, u)]) (hsp : ∀ H : Hp, SqL K H a (ns.map V.int) → sp [.ref a] H (fun v _ => v = .bl true) fun _ _ _ => False) (hCX : ∀ H e s', CX [] H t (fun _ _ _ => False) e s' → False) :
    codeAny (model P w) callerA (.call (.ref fa) ⟨[.ref a], []⟩) (LawEnd t) t := by
  have rv := vals_ints hi
  have dd : ∀ es ep, ({ cls := .type "list", data := .seq us.toArray } : Obj).data ≠ .dict es ep := fun _ _ z => by cases z
  cases q : K.lookup a with
  | none =>
    let H : Hp := fun b => if b = a then some (.frz { cls := .type "list", data := .seq us.toArray } (.lst (ns.map V.int))) else none
    have Ha : H a = some (.frz { cls := .type "list", data := .seq us.toArray } (.lst (ns.map V.int))) := if_pos rfl
    have Hn : ∀ b, b ≠ a → H b = none := fun b n => if_neg n
    refine lawAt (H := H) KX hns hb hbb hlim hg ha dd hr F bd (hsp H (.inl (.inr ⟨_, Ha⟩))) (hCX H) (fun b => ?_) fun b u z => ?_
    · by_cases c : b = a
      · exact .inr ⟨c, q, _, _, by rw [c]; exact Ha⟩
      · exact .inl (Hn b c)
    · by_cases c : b = a
      · subst c
        rw [Ha] at z
        cases z
        exact ⟨ha, by rw [List.length_map]; exact hl, us, _, rv, ha⟩
      · rw [Hn b c] at z
        cases z
  | some o =>
    have e := KX a o q
    rw [ha] at e
    cases e
    refine lawAt (H := fun _ => none) KX hns hb hbb hlim hg ha dd hr F bd (hsp _ (.inr ⟨_, us.toArray, _, q, rfl, rfl, rfl, ?_, by simpa using rv⟩)) (hCX _) (fun _ => .inl rfl) fun b u z => by cases z
    rw [List.size_toArray, hi.length]
    exact hl
end
/-- the goal that the head leaves, from the law's promise -/
theorem walkG {l : PySem.W.OpenLaw} {n k : Nat} {q : Program} {loose : List Str} {XP : (Str → Option Value) → Heap → Prop} {YP : World → Heap → Prop} {d : DefRec} {CX : CXT} {x : Str} (hn : l.most = some n) (hn2 : n ≤ sizeLine) (hdf : d.params.defaults = []) (hr : Rm k callerA)
    (F : ∀ (w : World) (mg : Str → Option Value) (fa : Addr) (h : Heap), YP w h → h.Ns mainGlobals mg → mg d.name = some (.ref fa) →
      ∃ (K : PySem.W.Frag) (fd : FuncData) (sp : Sp), K.In h ∧ (∀ (s : Shared) (u : Value), BindsTo s fd ⟨[u], []⟩ [(x, u)]) ∧
        (∀ (H : Hp) (a : Addr) (ns : List Int), ns.length ≤ n → (∀ i ∈ ns, Builtin.Int.intBits i ≤ 1048576) → SqL K H a (ns.map V.int) → sp [.ref a] H (fun v _ => v = .bl true) fun _ _ _ => False) ∧ ∀ base : Heap, K.In base → base.Ns mainGlobals mg → FnG l.prog w K mg base CX k fa fd [x] sp)
    (hCX : ∀ (H : Hp) (s : Shared) (e : Value) (s' : Shared), CX [] H s (fun _ _ _ => False) e s' → False) : PySem.W.WalkO q loose XP YP l.row.toRowW d [] (fun f vs => PySem.call f vs) := by
  refine Att.attach_callB hn hdf fun w _ t mg mb fa _ _ _ _ a us ns G Y _ _ _ hm ho hi hlen hbits hg => ?_
  obtain ⟨K, fd, sp, KX, bd, hs, hF⟩ := F w mg fa _ Y G.T.g hm
  exact lawG KX G.T.g G.T.b G.T.builtins G.T.nolimit hg ho hi (Nat.le_trans hlen hn2) hr hF bd (fun H hS => hs H a ns hlen hbits hS) fun H e s' => hCX H t e s'
/-! ### the Hook: tests of the written part, and defs -/
abbrev Ft : Type := PySem.W.Frag → Bool
def obsX (ft : List Ft) (fn : List He.DefD) (K : PySem.W.Frag) : He.AlD := ((ft.all fun f => f K) && fn.all fun d => d.ok K, fn.map fun d => He.fnW K d.at_)
def SaysX (ft : List Ft) (fn : List He.DefD) (K : PySem.W.Frag) : Prop := obsX ft fn K = He.valD fn
def obsXG (n : Nat) (ft : List Ft) (fn : List He.DefD) (g : Addr → Option Obj) : He.AlD := obsX ft fn (He.frG g (He.asD g n))
def hookX (n : Nat) (ft : List Ft) (fn : List He.DefD) : PySem.W.Hook where
  α := He.AlD
  obs := fun s => obsXG n ft fn s.heap.get?
  val := fun _ => He.valD fn
  says := fun _ h => ∃ K : PySem.W.Frag, K.In h ∧ SaysX ft fn K
  of := fun _ _ e => ⟨_, He.frG_in, e⟩
  keeps := fun _ _ _ ⟨K, hK, c⟩ k => ⟨K, PySem.W.Frag.In.keeps hK k, c⟩
theorem obsXG_eq {n : Nat} {ft : List Ft} {fn : List He.DefD} {g : Addr → Option Obj} {s : Shared} (h : ∀ a, g a = s.heap.get? a) : obsXG n ft fn g = (hookX n ft fn).obs s := by
  have e : g = s.heap.get? := funext h
  rw [e] <;> rfl
theorem SaysX.fact {ft : List Ft} {fn : List He.DefD} {K : PySem.W.Frag} (c : SaysX ft fn K) (i : Nat) {f : Ft} (h : ft[i]? = some f := by rfl) : f K = true := by
  have e : ((ft.all fun f => f K) && fn.all fun d => d.ok K) = true := congrArg Prod.fst c
  exact List.all_eq_true.mp (He.ba e).1 f (List.mem_of_getElem? h)
theorem SaysX.def_ {ft : List Ft} {fn : List He.DefD} {K : PySem.W.Frag} (c : SaysX ft fn K) (i : Nat) {d : He.DefD} (h : fn[i]? = some d := by rfl) : ∃ fd, FunD K d.name d.qual d.params d.body d.scope (d.dvs K) (d.kws K) (He.fAd K d.at_) fd := by
  have e : ((ft.all fun f => f K) && fn.all fun d => d.ok K) = true := congrArg Prod.fst c
  have e1 : (fn.map fun d => He.fnW K d.at_)[i]? = (fn.map He.DefD.val)[i]? := congrArg (fun z : He.AlD => z.2[i]?) c
  rw [List.getElem?_map, List.getElem?_map, h] at e1
  exact He.DefD.funD (Option.some.inj e1) (List.all_eq_true.mp (He.ba e).2 d (List.mem_of_getElem? h))
end LL

set_option Elab.async false
set_option linter.all false
set_option maxRecDepth 100000
set_option maxHeartbeats 2000000
/-! LLCut: a reading cut in two: what stands between is told once. -/
namespace LL
open PySem PySem.Spec PyProof.Rows L2
/-- behind a statement I holds -/
theorem seq_cut {t u : TS} {D : Ends} {σ : L2.St} {H : Hp} (I : L2.St → Hp → Prop) (h1 : ∀ N : L2.St → Hp → Prop, (∀ σ' H', I σ' H' → N σ' H') → t { D with nx := N } σ H) (h2 : ∀ σ' H', I σ' H' → u D σ' H') : tSeq t u D σ H := h1 _ h2
/-- an expression has a value of which I holds -/
theorem ex_cut {t : TE} {σ : L2.St} {H : Hp} {Q : VK} (I : VK) (h1 : ∀ R : VK, (∀ x H', I x H' → R x H') → t σ H R) (h2 : ∀ x H', I x H' → Q x H') : t σ H Q := h1 Q h2
/-- a test has an answer of which I holds -/
theorem tt_cut {t : TT} {σ : L2.St} {H : Hp} {Q : Bool → Hp → Prop} (I : Bool → Hp → Prop) (h1 : ∀ R : Bool → Hp → Prop, (∀ x H', I x H' → R x H') → t σ H R) (h2 : ∀ x H', I x H' → Q x H') : t σ H Q := h1 Q h2
/-- a and b, both without an effect -/
theorem and_of {ta tb : TE} {σ : L2.St} {H : Hp} {Q : VK} (c d : Bool) (h1 : ∀ R : VK, R (.bl c) H → ta σ H R) (h2 : c = true → ∀ R : VK, R (.bl d) H → tb σ H R) (q : Q (.bl (c && d)) H) : tAndV ta tb σ H Q := by
  refine h1 _ ⟨c, rfl, ?_⟩
  cases c with
  | true => exact iteT (h2 rfl _ q)
  | false => exact iteF q
theorem or_of {ta tb : TE} {σ : L2.St} {H : Hp} {Q : VK} (c d : Bool) (h1 : ∀ R : VK, R (.bl c) H → ta σ H R) (h2 : c = false → ∀ R : VK, R (.bl d) H → tb σ H R) (q : Q (.bl (c || d)) H) : tOrV ta tb σ H Q := by
  refine h1 _ ⟨c, rfl, ?_⟩
  cases c with
  | true => exact iteT q
  | false => exact iteF (h2 rfl _ q)
theorem seq_asg {te : TE} {g : TG} {u : TS} {D : Ends} {σ : L2.St} {H : Hp} (h : te σ H fun x H1 => g x σ H1 (u D)) : tSeq (tAsg te g) u D σ H := h
theorem ret_of {te : TE} {D : Ends} {σ : L2.St} {H : Hp} (h : te σ H D.rt) : tRet te D σ H := h
theorem nm_of {i : Nat} {v : V} {σ : L2.St} {H : Hp} {N : L2.St → Hp → Prop} (h : N (σ.set i (some v)) H) : gName i v σ H N := h
theorem nx_of {D : Ends} {σ : L2.St} {H : Hp} (h : D.nx σ H) : tNext D σ H := h
/-! ### a class called, as a def is -/
section
variable (P : Program) (w : World) (K : PySem.W.Frag) (mg : Str → Option Value) (base : Heap) (CX : CXT) (k : Nat)
/-- C(..) keeps sp: its __init__ does, at each new instance -/
structure Mkf (x : Str) (sp : Sp) : Prop where
  ex : ∃ (C : Addr) (dvs : List V) (si : Sp), Mkr P w K mg base CX k x C dvs si ∧ ∀ vs H Q E, sp vs H Q E → ∀ a dx, H a = none → H dx = none → dx ≠ a → si (.ref a :: (vs ++ dvs)) (upd (upd H dx (.own a)) a (.ins C dx [])) (fun v H2 => v = .non ∧ Q (.ref a) H2) E
end
section
variable {X : Cx} {CX : CXT} {k : Nat} {sp : Sp} {E : XK} {x : Str} {p pos : Pos} {e : Expr} {es : List Expr} {t : TA}
theorem pe_mf (G : Mkf X.prog X.w X.K X.mg X.base CX k x sp) (hr : Rm (k + 1) X.A) (hx : Passes CX X E) (ha : PA X (e :: es) t) (hg : Gl X x := by rfl) (hdb : (x == ("__debug__" : Str)) = false := by decide)
    (he : starEach (e :: es) X.env = (false, eval e X.env) :: starEach es X.env := by rfl) (hpl : (backTo pos (starEach es X.env)).any (·.1) = false := by rfl) : PE X (.Call (.Name x p) (e :: es) [] pos) (tCall sp [] E t) := by
  obtain ⟨C, dvs, si, ⟨f, fd, ps, ds, M, hm, hb, hd, F⟩, conv⟩ := G.ex
  refine ⟨fun pins s σ H Q I h => wpAny_Call_Name_kw (ld_glob I hg hm (PySem.W.callWith_K (h₀ := X.base) I.ok.mod.kin M.kp (thn (ha.run pos pins s σ H _ I h) fun us s1 z => ?_) he hpl) hdb)⟩
  obtain ⟨vs, H1, I1, r, q⟩ := z
  exact ⟨I1.kIn, run_makeG M F hr hb hd hx I1 r (conv vs H1 Q E (by simpa using q))⟩
theorem pe_mf0 (G : Mkf X.prog X.w X.K X.mg X.base CX k x sp) (hr : Rm (k + 1) X.A) (hx : Passes CX X E) (hg : Gl X x := by rfl) (hdb : (x == ("__debug__" : Str)) = false := by decide) : PE X (.Call (.Name x p) [] [] pos) (tCall sp [] E tNil) := by
  obtain ⟨C, dvs, si, ⟨f, fd, ps, ds, M, hm, hb, hd, F⟩, conv⟩ := G.ex
  exact ⟨fun pins s σ H Q I h => wpAny_Call_Name_kw (ld_glob I hg hm (PySem.W.callWith_K0 I.kIn M.kp (run_makeG (us := []) M F hr hb hd hx I .nil (conv [] H Q E h))) hdb)⟩
end
/-! ### rules within a comprehension: the written part by its name -/
theorem ix_tupK {X : Cx} {K : PySem.W.Frag} (h : X.K = K) : IxR X (rIxT K) := h ▸ ix_tup
theorem ix_listK {X : Cx} {K : PySem.W.Frag} (h : X.K = K) : IxR X (rIxL K) := h ▸ ix_list
/-! ### texts that == can read -/
theorem okt_iff {x : Str} : PyData.strOk x = true ↔ ∀ c ∈ x.cps.toList, c < 1114112 := by
  unfold PyData.strOk
  rw [← Array.all_toList, List.all_eq_true]
  exact ⟨fun h c hc => of_decide_eq_true (h c hc), fun h c hc => decide_eq_true (h c hc)⟩
theorem okt_of (s : String) : PyData.strOk (Str.ofString s) = true := by
  rw [okt_iff]
  intro c hc
  rw [signs_ofString] at hc
  obtain ⟨k, _, rfl⟩ := List.mem_map.mp hc
  rcases k.valid with h | ⟨_, h⟩
  · exact Nat.lt_trans h (by decide)
  · exact h
theorem okt_app {x y : Str} (hx : PyData.strOk x = true) (hy : PyData.strOk y = true) : PyData.strOk (x ++ y) = true := by
  rw [okt_iff] at *
  intro c hc
  rw [Str.cps_append, Array.toList_append] at hc
  rcases List.mem_append.mp hc with h | h
  · exact hx c h
  · exact hy c h
/-! ### all but lists stay -/
def Kp (H H' : Hp) : Prop := ∀ b o, H b = some o → (∀ xs, o ≠ .lst xs) → H' b = some o
theorem Kp.refl {H : Hp} : Kp H H := fun _ _ e _ => e
theorem Kp.trans {H H1 H2 : Hp} (a : Kp H H1) (b : Kp H1 H2) : Kp H H2 := fun c o e n => b c o (a c o e n) n
theorem Kp.of {H H' : Hp} (a : Same H H') : Kp H H' := fun c o e _ => a c o e
theorem But.kp {p : Addr} {H H' : Hp} {xs : List V} (a : But p H H') (h : H p = some (.lst xs)) : Kp H H' := fun c o e n => a c o e fun z => by
  rw [z, h] at e
  exact n xs (Option.some.inj e).symm
theorem kp_upd {H : Hp} {p : Addr} {o : HO} {xs : List V} (h : H p = some (.lst xs)) : Kp H (upd H p o) := (but_upd (o := o)).kp h
end LL

set_option Elab.async false
set_option linter.all false
set_option maxRecDepth 100000
set_option maxHeartbeats 2000000
/-! LLTry: try .. with several clauses 'except x as n', all of one name. -/
namespace LL
open PySem PySem.Spec PyProof.Rows L2
/-- behind a suite the clause's name is gone -/
def Dgone (D : Ends) (i : Nat) : Ends := { nx := fun τ G => D.nx (τ.set i none) G, rt := D.rt, bk := fun τ G => D.bk (τ.set i none) G, ct := fun τ G => D.ct (τ.set i none) G }
abbrev Clause : Type := Value × (Addr → Value → Option Addr → TS)
/-- what the clauses wish of what the body lets out -/
def wRow (K : PySem.W.Frag) (Wo : WX) (D : Ends) (i : Nat) : List Clause → WX
  | [] => Wo
  | q :: r => fun cls d τ G => ∃ b, PySem.W.exmOne K cls q.1 = some b ∧ (b = true → ∀ e, G e = none → q.2 e cls d (Dgone D i) (τ.set i (some (.ref e))) G) ∧ (b = false → wRow K Wo D i r cls d τ G)
inductive RowOk (X : Cx) (n : Str) : List ExceptHandler → List Clause → Prop
  | nil : RowOk X n [] []
  | cons {x : Str} {c : Value} {ts : Addr → Value → Option Addr → TS} {t₀ : Stmt} {more : List Stmt} {q1 q2 : Pos} {hs : List ExceptHandler} {l : List Clause} (nm : Names X x c)
      (su : ∀ (e : Addr) (oe : Obj) (cls : Value) (d : Option Addr) (pn : List (Addr × Obj)), Zc cls d oe → (∃ fs, oe.data = .fields fs) → PSs (X.suite e ((e, oe) :: pn)) (t₀ :: more) (ts e cls d)) (r : RowOk X n hs l) :
      RowOk X n (.ExceptHandler (some (.Name x q1)) (some n) (t₀ :: more) q2 :: hs) ((c, ts) :: l)
section
variable {X : Cx} {n : Str} {i : Nat} {body : List Stmt} {h₀ : ExceptHandler} {hs : List ExceptHandler} {l : List Clause} {pos : Pos} {tb : WX → TS} {Wo : WX}
theorem ps_tryRow (st : X.stack = X.env :: X.outer) (fr : X.env.frame = some X.env.locals) (nd : X.N.Nodup) (ni : X.N[i]? = some n) (nl : X.env.kindOf n = some .local) (tk : Takes X Wo)
    (bd : ∀ (W : WX) (pn : List (Addr × Obj)) (xe : Value → Shared → Prop), Takes (X.tr pn xe) W → PassesOwn (model X.prog X.w) X.A X.env xe → PSs (X.tr pn xe) body (tb W)) (hh : RowOk X n (h₀ :: hs) l) :
    PS X (.Try body (h₀ :: hs) [] [] pos) (fun D τ G => tb (wRow X.K Wo D i l) D τ G) := by
  constructor
  intro pins s τ G D I h
  have ok := I.ok
  have frs' : X.A.frames = some (X.env :: X.outer) := ok.frames.trans (by rw [st])
  refine wpAny_Try_except ?_
  let after : Value → Shared → Prop := fun e u => wpAny (model X.prog X.w) X.A (noteFrame e X.env)
    (fun _ u2 => wpAny (model X.prog X.w) X.A (setFlight e none)
      (fun _ u3 => wpAny (model X.prog X.w) X.A (handleBy e X.env (h₀ :: hs)) (SP X pins D) X.xe u3) X.xe u2) X.xe u
  have catch_ : Takes (X.tr (X.pn ++ pins) after) (wRow X.K Wo D i l) := by
    intro u s' xx
    obtain ⟨e, B, sI, pn', τ', G', cls, d, eu, J', nb, up, sky, ne, os, ag, w⟩ := xx
    subst eu
    have J : Inv X pins τ' G' sI := J'.ofTry ok
    have sky2 : Sky B (X.env :: X.outer) e (Zc cls d) X.env.locals s'.heap := st ▸ sky
    show wpAny (model X.prog X.w) X.A (noteFrame (.ref e) X.env) _ _ _
    refine Sky.land Zc.steady frs' fr sky2 fun h3 fl up3 => ?_
    have J3 : Inv X pins τ' G' { s' with heap := h3 } := J.landed nb fl.1 (up.trans up3) os ag
    obtain ⟨oe, fs, at3, z3, d3⟩ := fl.there
    have out : e ∉ frs (X.env :: X.outer) := fun hm => by
      obtain ⟨_, o', q, hnf⟩ := fl.2.2.1.mem hm
      rw [at3] at q
      cases q
      exact hnf _ d3
    have nL : e ≠ X.env.locals := fun z => out (List.mem_filterMap.mpr ⟨X.env, List.mem_cons_self, by rw [fr, z]⟩)
    have nF : e ∉ X.fs := fun hm => by
      obtain ⟨v, hv, q⟩ := List.mem_filterMap.mp hm
      exact out (List.mem_filterMap.mpr ⟨v, List.mem_cons_of_mem _ hv, q⟩)
    have S3 := J3.suite at3 d3 ne nL nF
    have row : ∀ {hs' : List ExceptHandler} {l' : List Clause}, RowOk X n hs' l' → wRow X.K Wo D i l' cls d τ' G' → wpAny (model X.prog X.w) X.A (handleBy (.ref e) X.env hs') (SP X pins D) X.xe { s' with heap := h3 } := by
      intro hs' l' hk
      induction hk with
      | nil =>
        intro w
        refine wpAny_handleBy_nil ?_
        obtain ⟨k1, k2, k3, o1, v1, T1, oT, t1, g1, g2, g3, g4, g5⟩ := id fl
        unfold PySem.passOn
        refine wpAny_bind (wpAny_field g1 g3 g4 ?_)
        rw [if_neg (by simp)]
        have go : wpAny (model X.prog X.w) X.A (setFlight (.ref e) X.env.frame) (fun _ u4 => wpAny (model X.prog X.w) X.A (throw (.ref e) : Sem Flow) (SP X pins D) X.xe u4) X.xe { s' with heap := h3 } := by
          rw [fr]
          refine HandSPX.setFlight_upZ fl fun h4 up4 upb => wpAny_throw (tk _ _ ?_)
          exact ⟨e, B, sI, pins, τ', G', cls, d, rfl, J, nb, (up.trans up3).trans upb, .inr (.inr (by rw [st]; exact up4)), ne, os, ag, w⟩
        first
          | exact wpAny_bind (wpAny_pure (wpAny_bind go))
          | exact wpAny_bind go
      | @cons x c ts t₀ more q1 q2 hs2 l2 nm su r ih =>
        intro w
        obtain ⟨b, e1, yes, no⟩ := w
        refine wpAny_handleBy_cons (codeAny_handlers_test ?_) (fun q => by cases q)
        have isC : PySem.W.Looks (model X.prog X.w) h3 (typeOf (.ref e)) cls := fun A Q E s k q => wpAny_typeOf_ref (k _ _ at3) (z3.1 ▸ q)
        have ask := PySem.W.exm_one (M := model X.prog X.w) J3.kIn isC e1
        have name_ : ∀ {Q : Value → Shared → Prop} {E : Value → Shared → Prop}, Q c { s' with heap := h3 } → wpAny (model X.prog X.w) (X.A.mark (some (.ref e))) (eval (.Name x q1) X.env) Q E { s' with heap := h3 } := by
          intro Q E q
          rcases nm with ⟨y1, y2, y3 | ⟨y3, y4, y5⟩⟩
          · exact ld_glob (X := X.suite e ((e, oe) :: (X.pn ++ pins))) S3 y1 y3 q y2
          · exact ld_blt (X := X.suite e ((e, oe) :: (X.pn ++ pins))) S3 y1 y3 y4 q y5 y2
        refine name_ (ask.here ?_)
        cases b with
        | false =>
          show wpAny _ X.A (handleBy (.ref e) X.env hs2) _ _ _
          exact ih (no rfl)
        | true =>
          refine codeAny_handlers_suite_as ?_
          refine HandSPX.lands_againZ fl fun h4 fl4 up4 => ?_
          have J4 : Inv X pins τ' G' { s' with heap := h4 } := J.landed nb fl4.1 ((up.trans up3).trans up4) os ag
          obtain ⟨oe4, fs4, at4, z4, d4⟩ := fl4.there
          have S4 := J4.suite at4 d4 ne nL nF
          refine store_ok (X := X.suite e ((e, oe4) :: (X.pn ++ pins))) (v := .ref e) S4 nd ni (.inl nl) rfl (fun s5 S5 => ?_) (.inr nl)
          refine wpAny_mono ((su e oe4 cls d (X.pn ++ pins) z4 ⟨_, d4⟩).run [] s5 _ G' _ S5 (yes rfl e ne)) (fun f s6 z => ?_) (fun _ _ z => z.elim)
          have fin : ∀ {τ6 : L2.St} {G6 : Hp} {Q : Shared → Prop}, Inv (X.suite e ((e, oe4) :: (X.pn ++ pins))) [] τ6 G6 s6 → (∀ s7, Inv X pins (τ6.set i none) G6 s7 → Q s7) →
              wpAny (model X.prog X.w) X.A (do bindName X.env n .none; unbindBehindTheSuite X.env n q2) (fun _ s7 => Q s7) X.xe s6 := fun S6 hq => gone_ok (S6.unsuite ok) nd ni nl hq
          match f, z with
          | .next, ⟨_, _, S6, q6⟩ => exact fin S6 fun s7 J7 => ⟨_, _, J7, q6⟩
          | .brk, ⟨_, _, S6, q6⟩ => exact fin S6 fun s7 J7 => ⟨_, _, J7, q6⟩
          | .cont, ⟨_, _, S6, q6⟩ => exact fin S6 fun s7 J7 => ⟨_, _, J7, q6⟩
          | .ret u, ⟨_, _, _, S6, r6, q6⟩ => exact fin S6 fun s7 J7 => ⟨_, _, _, J7, r6, q6⟩
    exact row hh w
  refine wpAny_mono ((bd (wRow X.K Wo D i l) (X.pn ++ pins) after catch_ PassesOwn.looking).run [] s τ G D (I.toTry _) h) (fun f s1 z => ?_) (fun _ _ z => z)
  match f, z with
  | .next, ⟨_, _, J', q⟩ => exact wpAny_execs_nil ⟨_, _, J'.ofTry ok, q⟩
  | .brk, ⟨_, _, J', q⟩ => exact ⟨_, _, J'.ofTry ok, q⟩
  | .cont, ⟨_, _, J', q⟩ => exact ⟨_, _, J'.ofTry ok, q⟩
  | .ret u, ⟨_, _, _, J', r, q⟩ => exact ⟨_, _, _, J'.ofTry ok, r, q⟩
end
end LL

set_option Elab.async false
set_option linter.all false
set_option maxRecDepth 100000
set_option maxHeartbeats 2000000
/-! LLExc: own error classes with one field; what a suite asks of the error it holds; repr of any data. -/
namespace LL
open PySem PySem.Spec PyProof.Rows L2
/-! ### B.__init__(self, ..), B an own class over ValueError without one -/
structure LeC (K : PySem.W.Frag) (B : Addr) : Prop where
  sp : PySem.W.specialIn K (.ref B) "__getattribute__" = some (some (.builtin "type.__getattribute__"))
  rd : PySem.W.readsIn K B (.type "type") = true
  fi : PySem.W.findCls K (.ref B) (.type "type") "__init__" = some (.val (.builtin "ValueError.__init__"))
section
variable {X : Cx} {B : Addr} {x : Str} {e : Expr} {es : List Expr} {ta : TA} {p1 p2 pos : Pos}
theorem pe_leinit {pl : Sem Bool} (L : LeC X.K B) (hg : Gl X x) (hm : X.mg x = some (.ref B)) (ha : PA X (e :: es) ta) (hdb : (x == ("__debug__" : Str)) = false := by decide)
    (ev : eval (.Call (.Attribute (.Name x p1) "__init__" p2) (e :: es) [] pos) X.env = (do
      let o ← eval (.Name x p1) X.env
      standAt p2.atName
      let (g, first) ← holding [o] (getMethod o "__init__" pl)
      callWith pos g first (backTo pos (starEach (e :: es) X.env)) (backToKw pos (keywordEach [] X.env))) := by rfl)
    (se : starEach (e :: es) X.env = (false, eval e X.env) :: starEach es X.env := by rfl) (sn : (backTo pos (starEach es X.env)).any (·.1) = false := by rfl) : PE X (.Call (.Attribute (.Name x p1) "__init__" p2) (e :: es) [] pos) (tVeI X.K ta) := by
  constructor
  intro pins s σ H Q I h
  refine PySem.W.methodCall_KW (ld_glob I hg hm ?_ hdb) ev
  refine PySem.W.method_cls I.kIn L.sp (PySem.W.cls_value I.kIn L.rd L.fi (by decide +kernel) ?_)
  show wpAny _ _ (callWith pos (Value.builtin "ValueError.__init__") [] (backTo pos (starEach (e :: es) X.env)) []) _ _ _
  refine PyProof.Rows.callWith_method1 (thn (ha.run pos pins _ σ H _ (I.tok _) h) fun us s1 z => ?_) se sn
  obtain ⟨vs, H1, I1, r, a, C, ws, rfl, hl, T, ea, q⟩ := z
  cases r with
  | @cons _ u _ ur ru rr =>
    cases (show u = Value.ref a from ru)
    have hz : ur.length ≤ sizeLine := Nat.le_trans (Nat.le_of_eq (Paired.length rr).symm) (Nat.le_trans hl (by rw [sizeLine_eq]; decide))
    exact oinit_ok T I1 ea hz fun s2 J => ⟨.non, H1, J, rfl, q⟩
end
/-! ### raise C(v) -/
/-- the promise of an __init__ that keeps one value in the field f -/
def spXI (C : Addr) (f : Str) : Sp := fun vs H Q _ => ∃ a v, vs = [.ref a, v] ∧ H a = some (exo a C none) ∧ ∀ dx, H dx = none → dx ≠ a → Q .non (upd (upd H dx (exd dx [(f, v)])) a (exo a C (some dx)))
section
variable (P : Program) (w : World) (K : PySem.W.Frag) (mg : Str → Option Value) (base : Heap) (k : Nat)
/-- the module's name x is the error class at C, its field is f -/
structure Xcl (x : Str) (C : Addr) (f : Str) : Prop where
  T : OexC K C
  nf : PySem.W.findIn K (.ref C) f = some none
  mx : mg x = some (.ref C)
  ex : ∃ (fI : Addr) (fd : FuncData) (ps : List Str), PySem.W.findIn K (.ref C) "__init__" = some (some (.ref fI)) ∧ PySem.W.typeIn K (.ref fI) = some (.type "function") ∧ Binds K fd ps [] ∧ FnOk P w K mg base CX0 k fI fd ps (spXI C f)
  xf : XfC K C
  ec : ExcC K C
end
section
variable {X : Cx} {k : Nat} {C : Addr} {x f : Str} {W : WX} {e : Expr} {te : TE} {p pos rpos : Pos}
theorem ps_raiseX (G : Xcl X.prog X.w X.K X.mg X.base k x C f) (hr : Room (k + 1) X.A) (tk : Takes X W) (he : PE X e te) (hc : X.calm = true := by rfl) (hg : Gl X x := by rfl) (hdb : (x == ("__debug__" : Str)) = false := by decide)
    (se : starEach [e] X.env = (false, eval e X.env) :: starEach [] X.env := by rfl) (sn : (backTo pos (starEach [] X.env)).any (·.1) = false := by rfl) :
    PS X (.Raise (some (.Call (.Name x p) [e] [] pos)) none rpos) (fun _ σ H => tMkO C (spXI C f) [] (tCons te tNil) σ H fun cls d H' => W cls d σ H') := by
  obtain ⟨fI, fd, ps, h1, h2, h3, h4⟩ := G.ex
  exact ps_raise hc tk (pmk_oex G.T h1 h2 h4 hr h3 .nil pass0 hg G.mx (pa_cons he pa_nil (hs := se)) hdb se sn)
/-- the error's own dict is new -/
theorem raise_of {v : V} {H : Hp} {Q : XK} (h : ∀ d, H d = none → Q (.ref C) (some d) (upd H d (.xd [(f, v)]))) : ([v] : List V).length ≤ 1000 ∧ ∀ a, H a = none → spXI C f (.ref a :: ([v] ++ [])) (upd H a (exo a C none))
    (fun z H2 => z = .non ∧ ∃ (d : Addr) (fs : List (Str × V)), H2 a = some (exo a C (some d)) ∧ H2 d = some (exd d fs) ∧ H d = none ∧ Q (.ref C) (some d) (upd (del H2 a) d (.xd fs))) (fun _ _ _ => False) := by
  refine ⟨(by show 1 ≤ 1000; decide), fun a ha => ⟨a, v, rfl, upd_same, fun dx hd ne => ⟨rfl, dx, [(f, v)], upd_same, ?_, ?_, ?_⟩⟩⟩
  · rw [upd_ne ne, upd_same]
  · rw [upd_ne ne] at hd
    exact hd
  · rw [upd_ne ne] at hd
    have e : upd (del (upd (upd (upd H a (exo a C none)) dx (exd dx [(f, v)])) a (exo a C (some dx))) a) dx (.xd [(f, v)]) = upd H dx (.xd [(f, v)]) := by
      funext b
      by_cases h1 : b = dx
      · rw [h1, upd_same, upd_same]
      · rw [upd_ne h1, upd_ne h1]
        by_cases h2 : b = a
        · rw [h2, del_same, ha]
        · rw [del_ne h2, upd_ne h2, upd_ne h1, upd_ne h2]
    rw [e]
    exact h dx hd
end
/-! ### isinstance(e, c) of a caught error that has its dict -/
section
variable {prog : Program} {w : World} {A : Around} {E : Value → Shared → Prop} {s : Shared} {K : PySem.W.Frag} {z D : Addr} {oz : Obj} {od : Option Obj}
open PySem.W in
theorem clsE {Q : Option Value → Shared → Prop} (C : ExcC K D) (kin : K.In s.heap) (I : InstAt s.heap z oz D od) (h : Q (some (.ref D)) { s with toks := s.toks + 1 }) : wpAny (model prog w) A (getAttr? (.ref z) "__class__") Q E s := by
  have isc : (clsIn K D).isSome = true := by
    obtain ⟨cd, hc, _⟩ := any_some C.hd
    rw [hc]
    rfl
  have found : findObj K D od "__class__" = some (.bind (.builtin "getset_descriptor.__get__") (.builtin "object.__class__")) := by
    cases od with
    | none => exact findObj_dataN isc C.ha C.hn C.ht
    | some o => exact findObj_data isc C.ha C.hn C.ht
  obtain ⟨hh, gg, dd, tt, oo⟩ := s
  have T0 := I.type (M := model prog w)
  have T1 := looks_findIn (M := model prog w) kin C.hg
  have T2 := looks_findIn (M := model prog w) kin C.hk
  have T3 := looks_find (M := model prog w) kin I found
  have isB : Looks (model prog w) hh (isInstance (.ref z) (.type "BaseException")) true := T0.andThen (looks_subIn kin C.hs)
  have n2 : (Value.builtin "BaseException.__getattribute__" == Value.builtin "object.__getattribute__") = false := by
    decide +kernel
  have n1 : (onTheHeap (Value.ref D) && Value.builtin "BaseException.__getattribute__" == Value.builtin "object.__getattribute__") = false := by
    rw [n2]
    rfl
  unfold getAttr?
  unfold getAttrBy?
  unfold getAttrBy
  refine wpAny_bind (wpAny_mkText (wpAny_bind (wpAny_attempt (wpAny_holding (wpAny_bind (T0.at (wpAny_bind (T1.at ?_))))))))
  show wpAny _ _ (ite ((onTheHeap (Value.ref D) && Value.builtin "BaseException.__getattribute__" == Value.builtin "object.__getattribute__") = true) _ _) _ _ _
  rw [n1]
  rw [if_neg Bool.false_ne_true]
  unfold getAttrByItsOwn
  unfold hookBefore
  refine wpAny_bind ?_
  rw [if_pos (show onTheHeap (.ref D) = true from rfl)]
  refine T2.at (wpAny_bind (wpAny_attempt (wpAny_holding ?_)))
  unfold callGetattribute
  rw [show (false && onTheHeap (Value.builtin "BaseException.__getattribute__")) = false from rfl]
  rw [if_neg Bool.false_ne_true]
  unfold boundAndCalled
  rw [PySem.F.excAttr_ValueError.ga.bind (.ref z)]
  refine wpAny_bind (wpAny_pure ?_)
  show wpAny _ _ (call (.builtin "BaseException.__getattribute__") [.ref z, .str "__class__" tt]) _ _ _
  refine wpAny_call (codeAny_call_builtin PySem.F.excAttr_ValueError.ga.plain PySem.F.entry_bexc_ga (@check_slot (model prog w) _ _ ⟨hh, gg, dd, tt + 1, oo⟩ "BaseException.__getattribute__" "BaseException" "__getattribute__" (.ref z) [.str "__class__" tt] [] _ (by decide +kernel) (by decide +kernel) isB (PySem.F.args_bexc_ga (.ref z) (.str "__class__" tt)) ?_))
  unfold Builtin.«object.__getattribute__»
  refine wpAny_bind (wpAny_of_eq (a := ((Value.ref z : Value), [Value.str "__class__" tt])) (by first | rfl | (simp only [slotArgs]; rfl)) ?_)
  refine wpAny_bind (wpAny_pure (wpAny_bind (T0.at (wpAny_bind (T3.at ?_)))))
  show wpAny _ _ (holding [Value.builtin "object.__class__"] (call (.builtin "getset_descriptor.__get__") [.builtin "object.__class__", .ref z, .ref D]) >>= ret) _ _ _
  refine wpAny_bind (wpAny_holding (wpAny_call (class_get (s := ⟨hh, gg, dd, tt + 1, oo⟩) (ox := oz) (od := od) kin I C.hm (wpAny_pure ?_))))
  show wpAny _ _ (handedOut (.ref D)) _ _ _
  rw [handedOut_of (v := .ref D) rfl]
  first
    | exact wpAny_pure (wpAny_pure h)
    | exact wpAny_pure h
    | exact wpAny_pure (wpAny_bind (wpAny_pure (wpAny_pure h)))
open PySem.W in
theorem kitE (C : ExcC K D) : KitX K (.ref z) (.ref D) (fun h => ∃ od, InstAt h z oz D od) where
  ty := fun _ _ _ ⟨_, I⟩ => I.type
  it := fun _ _ kin _ => by
    obtain ⟨cd, hc, _⟩ := any_some C.hd
    unfold clsIn at hc
    split at hc
    · rename_i ho
      intro A' Q' E' s' kp q
      unfold isType loadHead
      exact wpAny_bind (wpAny_loadPart (kp _ _ (kin _ _ ho)) (wpAny_pure q))
    · cases hc
  ne := fun h tp dd its n sl kin htp => by
    obtain ⟨cd, hc, _⟩ := any_some C.hd
    rw [Bool.eq_false_iff]
    intro q
    cases (Value.ref.inj (beq_iff_eq.mp q) : D = tp)
    unfold clsIn at hc
    split at hc
    · rename_i ho
      cases (kin _ _ ho).symm.trans htp
    · cases hc
  ca := fun kin ⟨_, I⟩ q => clsE C kin I q
end
/-- isinstance(e, c) in a suite: a the error, cls its class, d its dict -/
def rIsD (K : PySem.W.Frag) (D a : Addr) (cls : Value) (d : Option Addr) : List V → Hp → VK → Prop := fun xs H Q => ∃ (c : V) (cv : Value) (b : Bool) (dd : Addr) (fs : List (Str × V)), xs = [.ref a, c] ∧ (∀ u, RelV c u → u = cv) ∧ cls = .ref D ∧ d = some dd ∧ H dd = some (.xd fs) ∧ PySem.W.kitOne K (.ref D) cv = some b ∧ Q (.bl b) H
theorem call_isD {X : Cx} {a D : Addr} {oe : Obj} {cls : Value} {d : Option Addr} {pn : List (Addr × Obj)} (C : ExcC X.K D) (hz : Zc cls d oe) (hf : ∃ vs, oe.data = .fields vs) : CallR (X.suite a ((a, oe) :: pn)) (.builtin "isinstance") (rIsD X.K D a cls d) := by
  intro pins s σ H xs us Q I r h
  obtain ⟨c, cv, b, dd, fs, rfl, hcv, rfl, rfl, ed, e, q⟩ := h
  cases r with
  | cons rx rr =>
    cases rr with
    | cons rt rr =>
      cases rr
      cases rx
      cases hcv _ rt
      obtain ⟨at_, _⟩ := I.pin (a, oe) (List.mem_append.mpr (.inl List.mem_cons_self))
      obtain ⟨vs, hv⟩ := hf
      obtain ⟨mA, hns, _⟩ := (show ObjOk X.prog X.w H s.heap dd (.xd fs) from I.hok dd _ ed)
      obtain ⟨od, ho, _⟩ := lookIn_ns hns
      have J : PySem.W.InstAt s.heap a oe D (some od) := ⟨at_, hz.1, by unfold PySem.W.notCls; rw [hv] <;> rfl, by rw [hz.2]; exact ho⟩
      exact PySem.W.kia_one (kitE C) I.kIn ⟨_, J⟩ e (fun z => nomatch z) fun tk => ⟨.bl b, H, I.kept (t' := tk) fun _ _ z => z, rfl, q⟩
/-! ### repr of any data, an empty dict among it -/
/-- data, or an empty dict -/
inductive Dq (K : PySem.W.Frag) (H : Hp) : V → PyData → Prop
  | dat {v : V} {d : PyData} : Dp K H v d → Shw d → d.depth ≤ 40 → cost d ≤ sizeLine → Dq K H v d
  | emp {a : Addr} : H a = some (.dK []) → Dq K H (.ref a) (.dict [])
theorem empty_reads {X : Cx} {pins : List (Addr × Obj)} {σ : L2.St} {H : Hp} {s : Shared} {a : Addr} (I : Inv X pins σ H s) (e : H a = some (.dK [])) : Reads s.heap (.ref a) (.dict []) (a :: [] ++ []) ∧ a ≠ sysModules := by
  obtain ⟨_, ns, vs, kv, o, es, ep, h1, h2, h3, _, h5, _⟩ := (show ObjOk X.prog X.w H s.heap a (.dK []) from I.hok a _ e)
  cases kv
  have e0 : es.toList = [] := by
    cases q : es.toList with
    | nil => rfl
    | cons y ys =>
      rw [q] at h5
      cases h5
  refine ⟨.dict h1 h2.1 h3 ?_ ?_, fun z => ?_⟩
  · rw [e0]
    exact .nil
  · rw [e0]
    exact .nil
  · rw [z] at ns
    simp at ns
def rRepV (K : PySem.W.Frag) : List V → Hp → VK → Prop := fun xs H Q => ∃ v d, xs = [v] ∧ Dq K H v d ∧ Q (.str d.shown) H
theorem call_reprV {X : Cx} {K : PySem.W.Frag} (hk : X.K = K) (g : X.A.guards = some []) (hu : X.A.units + 64 < cLine) : CallR X (.builtin "repr") (rRepV K) := by
  subst hk
  intro pins s σ H xs us Q I r h
  obtain ⟨v, d, rfl, hd, q⟩ := h
  obtain ⟨u, rfl, ru⟩ := r.one
  cases hd with
  | emp e =>
    cases (show u = Value.ref _ from ru)
    obtain ⟨rd, ns⟩ := empty_reads I e
    refine repr_of_reads' rd (by decide +kernel) (fun _ z => ns (List.mem_singleton.mp z).symm) g ?_ (fun _ _ e => e) (fun h' u tk hk => ⟨.str _, H, I.kept hk, ⟨_, rfl⟩, q⟩) (by decide +kernel)
    have : (PyData.dict []).depth ≤ 2 := by decide +kernel
    omega
  | dat hp hs hd hc =>
    obtain ⟨h1, h2, h3⟩ := Shw.all d hs
    have fin : ∀ h' t' tk, (∀ b o, s.heap.get? b = some o → h'.get? b = some o) → EP X pins σ Q (.str d.shown t') { s with heap := h', toks := tk } := fun h' t' tk hk => ⟨.str d.shown, H, I.kept hk, ⟨_, rfl⟩, q⟩
    have ref_ : ∀ a : Addr, v = .ref a → wpAny (model X.prog X.w) X.A (call (.builtin "repr") [u]) (EP X pins σ Q) X.xe s := fun a ea => by
      subst ea
      obtain ⟨as, rd⟩ := Dp.reads I d _ _ hp ru
      cases (show u = Value.ref a from ru)
      exact repr_of_reads' rd h2 (fun z => by rw [h3] at z; cases z) g (by omega) (fun _ _ e => e) fin (Nat.le_trans h1 hc)
    cases hp with
    | non =>
      cases (show u = Value.none from ru)
      refine PySem.P.repr_of_none ⟨.str _, H, I.tok _, ⟨_, rfl⟩, ?_⟩
      simp only [PyData.shown] at q
      exact q
    | bl b =>
      cases (show u = Value.bool b from ru)
      refine PySem.P.repr_of_bool ⟨.str _, H, I.tok _, ⟨_, rfl⟩, ?_⟩
      simp only [PyData.shown] at q
      exact q
    | int i =>
      obtain ⟨t, rfl⟩ := (show ∃ t, u = Value.int i t from ru)
      simp only [Shw] at hs
      refine PySem.P.repr_of_int hs ⟨.str _, H, I.tok _, ⟨_, rfl⟩, ?_⟩
      simp only [PyData.shown] at q
      exact q
    | str x =>
      obtain ⟨t, rfl⟩ := (show ∃ t, u = Value.str x t from ru)
      simp only [PyData.shown] at q h1
      exact PySem.P.repr_of_str ⟨.str _, H, I.tok _, ⟨_, rfl⟩, q⟩ (Nat.le_trans h1 hc)
    | lst _ _ => exact ref_ _ rfl
    | tup _ _ => exact ref_ _ rfl
end LL

set_option Elab.async false
set_option linter.all false
set_option maxRecDepth 100000
set_option maxHeartbeats 2000000
/-! LLLam: x(lambda: body), with no repr under way; LamX's own layer for it lacks that. -/
namespace LL
open PySem PySem.Spec PyProof.Rows L2 LamX
section
variable {X : Cx} {pins : List (Addr × Obj)} {σ : L2.St} {H : Hp} {s : Shared}
/-- the call of the lambda, in the def that got it -/
theorem pe_run {CXg : CXT} {Eg : XK} {Ng : List Str} {qg : Str} {sg : Scope} {g f c' : Addr} {cdg pm ctv : Value} {params : Arguments} {body : Expr} {scope : Scope} {k i : Nat} {y : Str} {pn : List (Addr × Obj)} {xe : Value → Shared → Prop} {W : WX} {E : XK} {tb : TE} {p1 p2 : Pos}
    (I : Inv X pins σ H s) (L : LamS X.env.scope scope) (of : s.heap.get? f = some (PySem.W.kla_obj "<lambda>" (X.env.qual ++ "<lambda>") params body scope (cloFrom X.env.cells scope.names []) pm c' ctv)) (fn : H f = none) (fo : f ∉ frs X.stack)
    (ba : bindArgs (PySem.W.kla_fn "<lambda>" (X.env.qual ++ "<lambda>") params body scope (cloFrom X.env.cells scope.names []) pm (.ref c') ctv) ⟨[], []⟩ = pure [])
    (tk : Takes ((cxOf CXg X.prog X.w X.K X.mg X.base Ng qg sg g cdg X.A X.stack s H Eg).tr pn xe) W) (hr : Rm (k + 1) (X.A.deeper (envOfC qg sg s.heap.objs.size g cdg)))
    (hb : ∀ (A : Around) (outer : List Env) (s : Shared) (H : Hp), Rm k (A.deeper (lamEnv X scope s.heap.objs.size f c')) → PE (lamCx X A outer s H E scope f c') body tb)
    (hN : Ng[i]? = some y) (hv : Vis sg y) (hd : (y == ("__debug__" : Str)) = false := by decide) (hcd : (y == ("__classdict__" : Str)) = false := by decide) :
    PE ((cxOf CXg X.prog X.w X.K X.mg X.base Ng qg sg g cdg X.A X.stack s H Eg).tr pn xe) (.Call (.Name y p1) [] [] p2)
      (fun τ G Q => τ[i]? = some (some (.ref f)) ∧ G c' = some (CodeO c' (X.env.qual ++ "<lambda>")) ∧ (∀ cls d G', E cls d G' → W cls d τ G') ∧ tb σ G Q) := by
  constructor
  intro pz sz τ G Q J h
  obtain ⟨h1, h2, hW, h3⟩ := h
  have look := (pe_var (pos := p1) (i := i) hN hv hd hcd).run pz sz τ G (fun v G1 => v = .ref f ∧ G1 = G) J ⟨.ref f, h1, rfl, rfl⟩
  refine wpAny_Call_Name_kw (thn look fun u s1 z => ?_)
  obtain ⟨v, G1, J1, rv, rfl, rfl⟩ := z
  cases (show u = Value.ref f from rv)
  have of1 := J1.base.keep f _ of fn fo (fun z => nomatch (show f ∈ ([] : List Addr) from z))
  refine PySem.W.callWith_F0 ⟨_, _, _, _, of1⟩ ?_
  obtain ⟨⟨oc, vs, t, co1, co2, co3⟩, _, _⟩ := J1.hok c' _ h2
  have run : codeAny (model X.prog X.w) (X.A.deeper (envOfC qg sg s.heap.objs.size g cdg)) (.call (.ref f) ⟨[], []⟩) (CR (L2.CX X.prog X.w) (envOfC qg sg s.heap.objs.size g cdg :: X.stack) X.prog X.w G1 s1 Q E) s1 := by
    refine PySem.W.kla_callFunE hr.r.depth of1 rfl L.co L.gen rfl ⟨c', oc, vs, t, rfl, co1, co2, co3⟩ ?_
    rw [ba]
    refine wpAny_pure (wpAny_newFunctionEnv (fun n hn => (L.own n hn).2) (fun n hn => absurd hn (by simp)) (fun h₁ ns1 sb => ⟨J1.nolimit.fresh _ sb, ?_⟩) L.kind)
    show codeAny _ _ (.expr body (lamEnv X scope s1.heap.objs.size f c')) _ _
    have kp : ∀ b o, s1.heap.get? b = some o → h₁.get? b = some o := fun b o e => sb.extBut b o (Nat.ne_of_lt (Heap.lt_size e)) (Heap.get?_push_of_some _ e)
    have S : Inv (lamCx X (X.A.deeper (envOfC qg sg s.heap.objs.size g cdg)) (envOfC qg sg s.heap.objs.size g cdg :: X.stack) s1 G1 E scope f c') [] σ G1 { s1 with heap := h₁, toks := s1.toks + ([] : List (Str × Value)).length } :=
      lam_start2 I L J1.env0 hr.r.hd J1.base ns1 kp
    refine PySem.W.kla_codeExpr (wpAny_mono ((hb _ _ s1 G1 (hr.deeper _)).run [] _ _ G1 Q S h3) (fun v s2 z => ?_) fun _ _ z => z)
    obtain ⟨w', G2, S2, rv2, q⟩ := z
    exact ⟨w', G2, S2.os, S2.bare, S2.base, S2.hok, rv2, q⟩
  refine wpAny_call (codeAny_mono run fun r s2 z => ?_)
  match r, z with
  | .error e, z => exact tk _ _ (XE.of_call J1 hW z)
  | .ok (.ret u), z => exact J1.after z
  | .ok .next, z => exact z.elim
  | .ok .brk, z => exact z.elim
  | .ok .cont, z => exact z.elim
end
/-- the def x that calls what it got by its one name y: TT is what it makes of the lambda's reading -/
def Gives (X : Cx) (k : Nat) (Ng : List Str) (x : Str) (sg : Scope) (g : Addr) (cdg : Value) (bg : List Stmt) (y : Str) (q : Str) (TT : (XK → Hp → VK → Prop) → Hp → VK → Prop) : Prop :=
  ∀ (f c' : Addr) (s : Shared) (H : Hp) (Q : VK) (tl : XK → Hp → VK → Prop), Rm k (X.A.deeper (envOfC x sg s.heap.objs.size g cdg)) →
    (∀ (W : WX) (pn : List (Addr × Obj)) (xe : Value → Shared → Prop) (E : XK) (p1 p2 : Pos), Takes ((cxOf CX0 X.prog X.w X.K X.mg X.base Ng x sg g cdg X.A X.stack s H E0).tr pn xe) W →
      PE ((cxOf CX0 X.prog X.w X.K X.mg X.base Ng x sg g cdg X.A X.stack s H E0).tr pn xe) (.Call (.Name y p1) [] [] p2) (fun τ G Q => τ[0]? = some (some (.ref f)) ∧ G c' = some (CodeO c' q) ∧ (∀ cls d G', E cls d G' → W cls d τ G') ∧ tl E G Q)) →
    H c' = some (CodeO c' q) → TT tl H Q →
    ∃ t, PSs (cxOf CX0 X.prog X.w X.K X.mg X.base Ng x sg g cdg X.A X.stack s H E0).nox bg t ∧ t { nx := fun _ H' => Q .non H', rt := Q } (L2.start Ng [.ref f]) H
/-- the def x, as one fact: it calls what it gets, and makes TT of it -/
structure Taker (P : Program) (w : World) (K : PySem.W.Frag) (mg : Str → Option Value) (base : Heap) (k : Nat) (x y : Str) (TT : (XK → Hp → VK → Prop) → Hp → VK → Prop) : Prop where
  ex : ∃ (g : Addr) (fd : FuncData) (pg : Arguments) (bg : List Stmt) (sg : Scope) (Ng : List Str), mg x = some (.ref g) ∧ FunD K x x pg bg sg [] [] g fd ∧ FnScope Ng [y] sg ∧ Ng[0]? = some y ∧ Vis sg y ∧ Binds K fd [y] [] ∧
    ∀ (X : Cx) (cdg : Value) (q : Str), X.prog = P → X.w = w → X.K = K → X.mg = mg → X.base = base → Gives X k Ng x sg g cdg bg y q TT
section
variable {X : Cx}
/-- x(lambda: body) -/
theorem pe_lamG {T : List (Addr × Str)} {TT : (XK → Hp → VK → Prop) → Hp → VK → Prop} {x y : Str} {c P : Addr} {k : Nat} {params : Arguments} {body : Expr} {scope : Scope} {t : XK → TE} {p lpos pos : Pos} (G : Taker X.prog X.w X.K X.mg X.base (k + 1) x y TT)
    (TB : TabB X.base X.mg c P) (hcode : X.env.code = .ref c) (hmT : (P, X.env.qual ++ "<lambda>") ∈ T) (hu : ∀ p ∈ T, p.1 = P → p.2 = X.env.qual ++ "<lambda>") (hr : Rm (k + 2) X.A) (L : LamS X.env.scope scope)
    (hbody : ∀ (A : Around) (outer : List Env) (s : Shared) (H : Hp) (E : XK) (f c' : Addr), Rm k (A.deeper (lamEnv X scope s.heap.objs.size f c')) → PE (lamCx X A outer s H E scope f c') body (t E)) (hg : Gl X x := by rfl)
    (hdef : defaultsOf params X.env = ([], []) := by rfl) (hbind : ∀ (q : Str) (cl : List (Str × Addr)) (pm cv ctv : Value), bindArgs (PySem.W.kla_fn "<lambda>" q params body scope cl pm cv ctv) ⟨[], []⟩ = pure [] := by intros; rfl)
    (hdb : (x == ("__debug__" : Str)) = false := by decide) (hd : (y == ("__debug__" : Str)) = false := by decide) (hcd : (y == ("__classdict__" : Str)) = false := by decide) :
    PE X (.Call (.Name x p) [.Lambda params body scope lpos] [] pos) (tLam T TT t) := by
  obtain ⟨g, fd, pg, bg, sg, Ng, hm, FF, Sg, hNg, hva, hb, hG⟩ := G.ex
  obtain ⟨oc, od, dV, kV, doc, pm, an, cdv, ct, osl, rfl, lk, hcg, _, _⟩ := FF.ex
  constructor
  intro pins s σ H Q I h
  obtain ⟨hT, h⟩ := h
  refine wpAny_Call_Name_kw (ld_glob I hg hm (PySem.W.callWith_K (h₀ := X.base) I.ok.mod.kin FF.kp ?_ (by rfl) (by rfl)) hdb)
  show wpAny _ _ (spliced ((false, eval (.Lambda params body scope lpos) X.env) :: backTo pos (starEach [] X.env))) _ _ s
  refine Calls.spliced_cons (lam_make2 I TB hcode hmT hu hT hdef (L.has I.ok) fun f c' pm' ctv H1 s1 I1 eN T1 of fn fo co => Calls.spliced_nil ⟨I1.kIn, ?_⟩)
  have run : codeAny (model X.prog X.w) X.A (.call (.ref g) ⟨[.ref f], []⟩) (CR CX0 X.stack X.prog X.w H1 s1 Q E0) s1 := by
    refine run_ofS (N := Ng) (ps := [y]) (us := [.ref f]) (vs := [.ref f]) lk hcg Sg hr.r I1.env0 (hb s1 [.ref f] I1.kIn rfl) (.cons rfl .nil) rfl fun _ => ?_
    have hr1 : Rm (k + 1) (X.A.deeper (envOfC x sg s1.heap.objs.size g cdv)) := hr.deeper _
    obtain ⟨t', ht, hq⟩ := hG X cdv (X.env.qual ++ "<lambda>") rfl rfl rfl rfl rfl f c' s1 H1 Q (fun E H' Q' => t E σ H' Q') hr1
      (fun W pn xe E p1 p2 tk => pe_run (i := 0) I1 L of fn fo (hbind _ _ _ _ _) tk hr1 (fun A outer s H hr2 => hbody A outer s H E f c' hr2) hNg hva hd hcd) co (h H1 eN T1)
    exact ⟨t', ht.nox, hq⟩
  refine wpAny_call (codeAny_mono run fun r s2 z => ?_)
  match r, z with
  | .error e, z => exact (show False from z).elim
  | .ok (.ret u), z => exact I1.after z
  | .ok .next, z => exact z.elim
  | .ok .brk, z => exact z.elim
  | .ok .cont, z => exact z.elim
end
end LL

set_option Elab.async false
set_option linter.all false
set_option maxRecDepth 100000
set_option maxHeartbeats 2000000
/-! LLHead: defs of the text at any address of the written part; the Hook over them; facts as tests. -/
namespace LL
open PySem PySem.Spec PyProof.Rows L2
/-- a def: where it stands, what it is -/
structure DefX where
  adr : PySem.W.Frag → Addr
  name : Str
  qual : Str
  params : Arguments
  body : List Stmt
  scope : Scope
  dfl : PySem.W.Frag → List V := fun _ => []
def dX (adr : PySem.W.Frag → Addr) (name qual : Str) (st : Stmt) (dfl : List V := []) : DefX := ⟨adr, name, qual, defArgs st, defBody st, defScope st, fun _ => dfl⟩
/-- .. with defaults that lie in the written part -/
def dXK (adr : PySem.W.Frag → Addr) (name qual : Str) (st : Stmt) (dfl : PySem.W.Frag → List V) : DefX := ⟨adr, name, qual, defArgs st, defBody st, defScope st, dfl⟩
/-- the function object at a -/
def fdAt (K : PySem.W.Frag) (a : Addr) : Option FuncData := match K.lookup a with
  | some ⟨_, _, .func g, _⟩ => some g
  | _ => none
def shapeX (g : FuncData) : Str × Str × Arguments × FuncBody × Scope × Addr × List (Str × Addr) × Addr := (g.name, g.qualname, g.params, g.body, g.scope, g.globals, g.closure, g.builtins)
def DefX.shape (d : DefX) : Option (Str × Str × Arguments × FuncBody × Scope × Addr × List (Str × Addr) × Addr) := some (d.name, d.qual, d.params, .stmts d.body, d.scope, mainGlobals, [], builtinsNs)
def DefX.fine (K : PySem.W.Frag) (d : DefX) : Bool := PySem.W.keepIn K (.ref (d.adr K)) && ((fdAt K (d.adr K)).any fun g => PySem.W.codeIn K g.code d.qual && He.dflB K g.defaults (d.dfl K))
theorem fdAt_look {K : PySem.W.Frag} {a : Addr} {g : FuncData} (e : fdAt K a = some g) : ∃ oc od osl, K.lookup a = some ⟨oc, od, .func g, osl⟩ := by
  unfold fdAt at e
  split at e
  · rename_i c d z sl q
    cases e
    exact ⟨c, d, sl, q⟩
  · cases e
theorem DefX.fun_ {K : PySem.W.Frag} {d : DefX} (e : (fdAt K (d.adr K)).map shapeX = d.shape) (c : d.fine K = true) : ∃ fd, FunD K d.name d.qual d.params d.body d.scope (d.dfl K) [] (d.adr K) fd := by
  obtain ⟨kp, c2⟩ := He.ba c
  obtain ⟨g, eg, es⟩ := Option.map_eq_some_iff.mp e
  rw [eg] at c2
  obtain ⟨c3, c4⟩ := He.ba (show (PySem.W.codeIn K g.code d.qual && He.dflB K g.defaults (d.dfl K)) = true from c2)
  obtain ⟨oc, od, osl, lk⟩ := fdAt_look eg
  unfold shapeX at es
  simp only [Prod.mk.injEq] at es
  obtain ⟨e1, e2, e3, e4, e5, e6, e7, e8⟩ := es
  refine ⟨g, ⟨oc, od, g.defaults, g.kwdefaults, g.doc, g.pyModule, g.annotations, g.code, g.closureTuple, osl, ?_, lk, c3, He.dflB_ok c4, .inl rfl⟩, kp⟩
  obtain ⟨a1, a2, a3, a4, a5, a6, a7, a8, a9, a10, a11, a12, a13, a14, a15⟩ := g
  subst e1 e2 e3 e4 e5 e6 e7 e8
  rfl
/-! ### the Hook -/
abbrev AlX : Type := Bool × List (Option (Str × Str × Arguments × FuncBody × Scope × Addr × List (Str × Addr) × Addr))
def obsY (ft : List Ft) (fn : List DefX) (K : PySem.W.Frag) : AlX := ((ft.all fun f => f K) && fn.all fun d => d.fine K, fn.map fun d => (fdAt K (d.adr K)).map shapeX)
def valY (fn : List DefX) : AlX := (true, fn.map DefX.shape)
def SaysY (ft : List Ft) (fn : List DefX) (K : PySem.W.Frag) : Prop := obsY ft fn K = valY fn
def obsYG (n : Nat) (ft : List Ft) (fn : List DefX) (g : Addr → Option Obj) : AlX := obsY ft fn (He.frG g (He.asD g n))
def hookY (n : Nat) (ft : List Ft) (fn : List DefX) : PySem.W.Hook where
  α := AlX
  obs := fun s => obsYG n ft fn s.heap.get?
  val := fun _ => valY fn
  says := fun _ h => ∃ K : PySem.W.Frag, K.In h ∧ SaysY ft fn K
  of := fun _ _ e => ⟨_, He.frG_in, e⟩
  keeps := fun _ _ _ ⟨K, hK, c⟩ k => ⟨K, PySem.W.Frag.In.keeps hK k, c⟩
theorem obsYG_eq {n : Nat} {ft : List Ft} {fn : List DefX} {g : Addr → Option Obj} {s : Shared} (h : ∀ a, g a = s.heap.get? a) : obsYG n ft fn g = (hookY n ft fn).obs s := by
  cases (funext h : g = s.heap.get?)
  rfl
theorem SaysY.fact {ft : List Ft} {fn : List DefX} {K : PySem.W.Frag} (c : SaysY ft fn K) (i : Nat) {f : Ft} (h : ft[i]? = some f := by rfl) : f K = true := by
  have e : ((ft.all fun f => f K) && fn.all fun d => d.fine K) = true := congrArg Prod.fst c
  exact List.all_eq_true.mp (He.ba e).1 f (List.mem_of_getElem? h)
theorem SaysY.fn_ {ft : List Ft} {fn : List DefX} {K : PySem.W.Frag} (c : SaysY ft fn K) (i : Nat) {d : DefX} (h : fn[i]? = some d := by rfl) : ∃ fd, FunD K d.name d.qual d.params d.body d.scope (d.dfl K) [] (d.adr K) fd := by
  have e : ((ft.all fun f => f K) && fn.all fun d => d.fine K) = true := congrArg Prod.fst c
  have e1 : (fn.map fun d => (fdAt K (d.adr K)).map shapeX)[i]? = (fn.map DefX.shape)[i]? := congrArg (fun z : AlX => z.2[i]?) c
  rw [List.getElem?_map, List.getElem?_map, h] at e1
  exact DefX.fun_ (Option.some.inj e1) (List.all_eq_true.mp (He.ba e).2 d (List.mem_of_getElem? h))
/-! ### addresses and tests -/
/-- a global, a method, a property's getter -/
def gA (x : Str) (K : PySem.W.Frag) : Addr := He.ga K x
def mA (x m : Str) (K : PySem.W.Frag) : Addr := He.ma K (He.ga K x) m
def pA (x m : Str) (K : PySem.W.Frag) : Addr := match PySem.W.recIn K (mA x m K) "property" with
  | some (.ref g :: _) => g
  | _ => 0
def fGlo (x : Str) : Ft := fun K => (He.Fa.glo x).ok K
def fFree (x : Str) : Ft := fun K => (He.Fa.free x).ok K
def fCls (x : Str) : Ft := fun K => (He.Fa.cls x).ok K
def fNo (x f : Str) : Ft := fun K => (He.Fa.noat x f).ok K
def fMeth (x m : Str) : Ft := fun K => (He.Fa.meth x m).ok K
def fMkr (x : Str) : Ft := fun K => (He.Fa.mkr x).ok K
def fSame (a b : PySem.W.Frag → Option (Option Value)) : Ft := fun K => He.eqO (a K) (b K)
def fBool (a : PySem.W.Frag → Option Bool) (b : Bool) : Ft := fun K => decide (a K = some b)
def fProp (x m : Str) : Ft := fun K => He.eqO (PySem.W.findIn K (.ref (He.ga K x)) m) (some (some (.ref (mA x m K)))) && (He.eqO (PySem.W.specialIn K (.ref (mA x m K)) "__get__") (some (some (.builtin "property.__get__"))) && (decide (PySem.W.takesIn K (.ref (mA x m K)) = some true) &&
  (match PySem.W.recIn K (mA x m K) "property" with
  | some (.ref _ :: _) => true
  | _ => false)))
theorem fProp_ok {K : PySem.W.Frag} {x m : Str} (h : fProp x m K = true) : PropOf K (He.ga K x) m (mA x m K) (pA x m K) := by
  obtain ⟨h1, h2⟩ := He.ba h
  obtain ⟨h3, h4⟩ := He.ba h2
  obtain ⟨h5, h6⟩ := He.ba h4
  refine ⟨He.eqO_ok h1, He.eqO_ok h3, of_decide_eq_true h5, ?_⟩
  unfold pA
  split at h6
  · rename_i g rest q
    exact ⟨rest, by rw [q]⟩
  · cases h6
/-- an operator of the class x -/
def fOper (x : Str) (op : Operator) : Ft := fun K => PySem.W.selfFirst K (He.ga K x) && (He.eqO (PySem.W.findIn K (.ref (He.ga K x)) (PySem.dunder op.info.2)) (some (some (.ref (mA x (PySem.dunder op.info.2) K)))) && PySem.W.isFn K (.ref (mA x (PySem.dunder op.info.2) K)))
theorem fOper_ok {K : PySem.W.Frag} {x : Str} {op : Operator} (h : fOper x op K = true) : OpAt K (He.ga K x) op (mA x (PySem.dunder op.info.2) K) := by
  obtain ⟨h1, h2⟩ := He.ba h
  obtain ⟨h3, h4⟩ := He.ba h2
  exact ⟨h1, He.eqO_ok h3, h4⟩
def fOpInt (x : Str) (op : Operator) : Ft := fun K => He.eqO (PySem.W.findIn K (.ref (He.ga K x)) (PySem.dunderR op.info.2)) (some none) && ((PySem.W.findIn K (.type "int") (PySem.dunder op.info.2)).isSome && ((PySem.W.findIn K (.type "int") (PySem.dunderR op.info.2)).isSome && decide (PySem.W.subIn K (.type "int") (.ref (He.ga K x)) = some false)))
theorem fOpInt_ok {K : PySem.W.Frag} {x : Str} {op : Operator} (h : fOpInt x op K = true) : OpInt K (He.ga K x) op := by
  obtain ⟨h1, h2⟩ := He.ba h
  obtain ⟨h3, h4⟩ := He.ba h2
  obtain ⟨h5, h6⟩ := He.ba h4
  exact ⟨He.eqO_ok h1, Option.isSome_iff_exists.mp h3, Option.isSome_iff_exists.mp h5, of_decide_eq_true h6⟩
/-- a special method of the class x -/
def fSpec (x m : Str) : Ft := fun K => He.eqO (PySem.W.findIn K (.ref (He.ga K x)) m) (some (some (.ref (mA x m K)))) && PySem.W.isFn K (.ref (mA x m K))
theorem fSpec_ok {K : PySem.W.Frag} {x m : Str} (h : fSpec x m K = true) : PySem.W.findIn K (.ref (He.ga K x)) m = some (some (.ref (mA x m K))) ∧ PySem.W.isFn K (.ref (mA x m K)) = true := by
  obtain ⟨h1, h2⟩ := He.ba h
  exact ⟨He.eqO_ok h1, h2⟩
end LL

set_option Elab.async false
set_option linter.all false
set_option maxRecDepth 100000
set_option maxHeartbeats 2000000
/-! LLTab: the law's end, and the head's Hook, where some defs make lambdas (tables of code objects). -/
namespace LL
open PySem PySem.Spec PyProof.Rows L2 LamX
/-! ### a def by its body, its code object known -/
section
variable {P : Program} {w : World} {K : PySem.W.Frag} {mg : Str → Option Value} {base : Heap} {CX : CXT} {k : Nat} {f : Addr} {fd : FuncData} {ps : List Str} {sp : Sp}
theorem okC {x qual : Str} {params : Arguments} {body : List Stmt} {scope : Scope} {dvs : List V} {kws : List (Str × V)} {N : List Str} (F : FunD K x qual params body scope dvs kws f fd) (S : FnScope N ps scope) (len : ∀ vs H Q E, sp vs H Q E → vs.length = ps.length)
    (hbody : ∀ (cdv : Value), (fdAt K f).map FuncData.code = some cdv → ∀ (A : Around) (outer : List Env) (s : Shared) (H : Hp) (vs : List V) (Q : VK) (E : XK), Rm k (A.deeper (envOfC qual scope s.heap.objs.size f cdv)) → sp vs H Q E →
      ∃ t, PSs (cxOf CX0 P w K mg base N qual scope f cdv A outer s H E).nox body t ∧ t { nx := fun _ H' => Q .non H', rt := Q } (L2.start N vs) H) : FnG P w K mg base CX0 (k + 1) f fd ps sp := by
  obtain ⟨oc, od, dV, kV, doc, pm, an, cdv, ct, osl, rfl, lk, hcd, _, _⟩ := F.ex
  have ec : (fdAt K f).map FuncData.code = some cdv := by
    unfold fdAt
    rw [lk]
    rfl
  refine ⟨len, fun A outer s H args us vs Q E hr e0 hb r hsp => ?_⟩
  refine LamX.run_ofS (CX := CX0) lk hcd S hr.r e0 hb r (len _ _ _ _ hsp) fun _ => ?_
  obtain ⟨t, ht, q⟩ := hbody cdv ec A outer s H vs Q E (hr.deeper _) hsp
  exact ⟨t, ht.nox, q⟩
end
/-- the code object of the def at a, its table -/
def cOf (K : PySem.W.Frag) (a : Addr) : Addr := match (fdAt K a).map FuncData.code with
  | some (Value.ref c) => c
  | _ => 0
theorem cOf_of {K : PySem.W.Frag} {a c : Addr} (e : (fdAt K a).map FuncData.code = some (Value.ref c)) : cOf K a = c := by
  unfold cOf
  rw [e]
def tOf (K : PySem.W.Frag) (a : Addr) : Addr := He.tabOf K (cOf K a)
/-! ### the law's call -/
section
variable {P : Program} {w : World} {K : PySem.W.Frag} {mg mb : Str → Option Value} {CX : CXT} {k : Nat} {fa a : Addr} {fd : FuncData} {x : Str} {sp : Sp} {t : Shared} {us : List Value} {ns : List Int} {cs : List (Addr × Addr)}
/-- an empty table -/
abbrev tab0 : Obj := { cls := .none, data := .fields #[] }
theorem lawAtT {H : Hp} (KX : K.In t.heap) (hns : t.heap.Ns mainGlobals mg) (hb : t.heap.Ns builtinsNs mb) (hbb : ∀ x : Str, x ≠ "__name__" → mb x = bootBuiltins x) (hlim : t.heap.NoLimit) (hg : t.gens = #[])
    (tT : ∀ p ∈ cs, t.heap.get? p.2 = some tab0) (tK : ∀ p ∈ cs, K.lookup p.2 = none) (tC : ∀ p ∈ cs, PySem.W.codeHdIn K p.1 p.2 = true)
    (bm : ∃ (m : Addr) (om : Obj), mg "__builtins__" = some (.ref m) ∧ m ≠ builtinsNs ∧ t.heap.get? m = some om ∧ om.cls = .type "module" ∧ om.dict = some builtinsNs ∧ om.data = .plain)
    (ha : t.heap.get? a = some { cls := .type "list", data := .seq us.toArray }) (hr : Rm k callerA) (F : ∀ base : Heap, K.In base → base.Ns mainGlobals mg → (∀ p ∈ cs, TabB base mg p.1 p.2) → FnG P w K mg base CX k fa fd [x] sp)
    (bd : ∀ (s : Shared) (u : Value), BindsTo s fd ⟨[u], []⟩ [(x, u)]) (hsp : sp [.ref a] H (fun v _ => v = .bl true) fun _ _ _ => False) (hCX : ∀ e s', CX [] H t (fun _ _ _ => False) e s' → False)
    (only : ∀ b, H b = none ∨ (b = a ∧ K.lookup a = none ∧ ∃ o l, H b = some (.frz o (.lst l))) ∨ ∃ p ∈ cs, b = p.2 ∧ H b = some (.tbl #[])) (hok : HOk P w H t.heap) : codeAny (model P w) callerA (.call (.ref fa) ⟨[.ref a], []⟩) (LawEnd t) t := by
  -- what is neither a list nor a table is free
  have free : ∀ {b : Addr} {o : Obj}, t.heap.get? b = some o → (∀ vs m, o.data ≠ .seq vs m) → (o.data ≠ .fields #[]) → H b = none := fun {b o} e n1 n2 => by
    rcases only b with z | ⟨rfl, _, _⟩ | ⟨p, hp, rfl, _⟩
    · exact z
    · rw [ha] at e
      cases e
      exact (n1 _ _ rfl).elim
    · rw [tT p hp] at e
      cases e
      exact (n2 rfl).elim
  have nsB : ∀ {b : Addr} {m : Str → Option Value}, t.heap.Ns b m → (hidT t.heap H).Ns b m := by
    rintro b m ⟨o, es, ep, e, d, r⟩
    refine ⟨o, es, ep, hidT_get e (free e (fun vs m z => ?_) fun z => ?_), d, r⟩ <;> rw [d] at z <;> cases z
  have kB : K.In (hidT t.heap H) := by
    intro b o e
    refine hidT_get (KX b o e) ?_
    rcases only b with z | ⟨z, q, _⟩ | ⟨p, hp, z, _⟩
    · exact z
    · rw [z, q] at e
      cases e
    · rw [z, tK p hp] at e
      cases e
  have TB : ∀ p ∈ cs, TabB (hidT t.heap H) mg p.1 p.2 := fun p hp => by
    refine ⟨PySem.W.codeHd_of_K kB (tC p hp), ?_, fun z => ?_⟩
    · obtain ⟨m, om, m1, m2, m3, m4, m5, m6⟩ := bm
      refine ⟨m, om, m1, m2, fun z => ?_, fun z => ?_, hidT_get m3 (free m3 (fun vs n z => ?_) fun z => ?_), m4, m5, m6⟩
      · obtain ⟨o, es, ep, e, d, _⟩ := hns
        rw [z, e] at m3
        cases m3
        rw [d] at m6
        cases m6
      · rw [z, tT p hp] at m3
        cases m3
        cases m6
      · rw [m6] at z
        cases z
      · rw [m6] at z
        cases z
    · obtain ⟨o, es, ep, e, d, _⟩ := hns
      rw [z, tT p hp] at e
      cases e
      cases d
  obtain ⟨ml, l1, l2⟩ := hlim
  have env : Env0 P w K mg (hidT t.heap H) callerA [] t H :=
    { frames := rfl
      mod := ⟨kB, nsB hns, ⟨mb, nsB hb, hbb⟩, ⟨ml, nsB l1, l2⟩⟩
      bs := fun _ _ e => of_hidT e
      bsz := Nat.le_of_eq (hidT_size _ _)
      funs := trivial
      frf := fun _ z => by cases (show _ ∈ ([] : List Addr) from z)
      hok := hok
      bare := .of_eq hg }
  have go := (F _ kB (nsB hns) TB).run callerA [] t H ⟨[.ref a], []⟩ [.ref a] [.ref a] _ _ hr env (bd t (.ref a)) (.cons rfl .nil) hsp
  refine codeAny_mono go fun r t' h => ?_
  match r, h with
  | .error e, h => exact (hCX e t' h).elim
  | .ok .next, h => exact False.elim h
  | .ok .brk, h => exact False.elim h
  | .ok .cont, h => exact False.elim h
  | .ok (.ret u), h =>
    obtain ⟨v, H', e1, e2, un, hok', rv, (rfl : v = .bl true)⟩ := h
    cases (show u = Value.bool true from rv)
    have key : ∀ b o, t.heap.get? b = some o → t'.heap.get? b = some o ∨ ∃ p ∈ cs, b = p.2 ∧ o = tab0 ∧ ∃ more : Array Value, t'.heap.get? b = some { cls := .none, data := .fields more } := fun b o e => by
      rcases only b with n | ⟨_, _, ob, l, z⟩ | ⟨p, hp, rfl, z⟩
      · exact .inl (un.keep b o e n (fun z => by cases (show b ∈ ([] : List Addr) from z)) (fun z => by cases z))
      · have z1 := (hok b _ z).1
        have z2 := (hok' b _ (un.frzs b ob _ z)).1
        rw [e] at z1
        cases z1
        exact .inl z2
      · obtain ⟨more, y⟩ := un.tbls p.2 #[] z
        have y2 := tT p hp
        rw [e] at y2
        exact .inr ⟨p, hp, rfl, Option.some.inj y2, _, hok' p.2 _ y⟩
    refine ⟨rfl, ⟨fun b o e => ?_, fun b o e => ?_⟩, e1, e2⟩
    · rcases key b o e with z | ⟨p, hp, rfl, rfl, more, z⟩
      · exact .inl z
      · exact .inr (.inl ⟨((PySem.W.codeHd_of_K KX (tC p hp)).tab (tT p hp)).isCodeTable, rfl, #[], more, rfl, by rw [Array.empty_append]; exact z⟩)
    · rcases key b o e with z | ⟨p, hp, rfl, rfl, more, z⟩
      · exact ⟨o, z⟩
      · exact ⟨_, z⟩
theorem lawT (KX : K.In t.heap) (hns : t.heap.Ns mainGlobals mg) (hb : t.heap.Ns builtinsNs mb) (hbb : ∀ x : Str, x ≠ "__name__" → mb x = bootBuiltins x) (hlim : t.heap.NoLimit) (hg : t.gens = #[])
    (tT : ∀ p ∈ cs, t.heap.get? p.2 = some tab0) (tK : ∀ p ∈ cs, K.lookup p.2 = none) (tC : ∀ p ∈ cs, PySem.W.codeHdIn K p.1 p.2 = true)
    (bm : ∃ (m : Addr) (om : Obj), mg "__builtins__" = some (.ref m) ∧ m ≠ builtinsNs ∧ t.heap.get? m = some om ∧ om.cls = .type "module" ∧ om.dict = some builtinsNs ∧ om.data = .plain)
    (ha : t.heap.get? a = some { cls := .type "list", data := .seq us.toArray }) (hi : IntsAre us ns) (hl : ns.length ≤ sizeLine) (hr : Rm k callerA) (F : ∀ base : Heap, K.In base → base.Ns mainGlobals mg → (∀ p ∈ cs, TabB base mg p.1 p.2) → FnG P w K mg base CX k fa fd [x] sp)
    (bd : ∀ (s : Shared) (u : Value), BindsTo s fd ⟨[u], []⟩ [(x, u)]) (hsp : ∀ H : Hp, (∀ p ∈ cs, H p.2 = some (.tbl #[])) → SqL K H a (ns.map V.int) → sp [.ref a] H (fun v _ => v = .bl true) fun _ _ _ => False) (hCX : ∀ H e s', CX [] H t (fun _ _ _ => False) e s' → False) :
    codeAny (model P w) callerA (.call (.ref fa) ⟨[.ref a], []⟩) (LawEnd t) t := by
  classical
  have rv := vals_ints hi
  have na : ∀ p ∈ cs, p.2 ≠ a := fun p hp z => by
    have e := tT p hp
    rw [z, ha] at e
    cases e
  let T : Hp := fun b => if ∃ p ∈ cs, b = p.2 then some (.tbl #[]) else none
  have T1 : ∀ p ∈ cs, T p.2 = some (.tbl #[]) := fun p hp => if_pos ⟨p, hp, rfl⟩
  have T2 : ∀ b u, T b = some u → (∃ p ∈ cs, b = p.2) ∧ u = .tbl #[] := fun b u e => by
    by_cases c : ∃ p ∈ cs, b = p.2
    · have e' : some (HO.tbl #[]) = some u := (if_pos c).symm.trans e
      exact ⟨c, (Option.some.inj e').symm⟩
    · have e' : none = some u := (if_neg c).symm.trans e
      cases e'
  have T3 : ∀ b, T b = none ∨ ∃ p ∈ cs, b = p.2 ∧ T b = some (.tbl #[]) := fun b => by
    by_cases c : ∃ p ∈ cs, b = p.2
    · obtain ⟨p, hp, e⟩ := c
      exact .inr ⟨p, hp, e, e ▸ T1 p hp⟩
    · exact .inl (if_neg c)
  have T4 : HOk P w T t.heap := fun b u e => by
    obtain ⟨⟨p, hp, rfl⟩, rfl⟩ := T2 b u e
    exact tT p hp
  cases q : K.lookup a with
  | none =>
    let o : Obj := { cls := .type "list", data := .seq us.toArray }
    have Ha : upd T a (.frz o (.lst (ns.map V.int))) a = some (.frz o (.lst (ns.map V.int))) := upd_same
    refine lawAtT (H := upd T a (.frz o (.lst (ns.map V.int)))) KX hns hb hbb hlim hg tT tK tC bm ha hr F bd (hsp _ (fun p hp => ?_) (.inl (.inr ⟨_, Ha⟩))) (hCX _) (fun b => ?_) fun b u z => ?_
    · rw [upd_ne (na p hp)]
      exact T1 p hp
    · by_cases c : b = a
      · exact .inr (.inl ⟨c, q, o, _, by rw [c]; exact Ha⟩)
      · rw [upd_ne c]
        exact (T3 b).imp id fun z => .inr z
    · by_cases c : b = a
      · subst c
        rw [Ha] at z
        cases z
        exact ⟨ha, by rw [List.length_map]; exact hl, us, _, rv, ha⟩
      · rw [upd_ne c] at z
        obtain ⟨⟨p, hp, rfl⟩, rfl⟩ := T2 b u z
        exact tT p hp
  | some o =>
    have e := KX a o q
    rw [ha] at e
    cases e
    refine lawAtT (H := T) KX hns hb hbb hlim hg tT tK tC bm ha hr F bd (hsp _ T1 (.inr ⟨_, us.toArray, _, q, rfl, rfl, rfl, ?_, by simpa using rv⟩)) (hCX _) (fun b => (T3 b).imp id fun z => .inr z) T4
    rw [List.size_toArray, hi.length]
    exact hl
end
/-- the goal that the head leaves, from the law's promise -/
theorem walkT {l : PySem.W.OpenLaw} {n k : Nat} {q : Program} {loose : List Str} {XP : (Str → Option Value) → Heap → Prop} {YP : World → Heap → Prop} {d : DefRec} {CX : CXT} {x : Str} (hn : l.most = some n) (hn2 : n ≤ sizeLine) (hdf : d.params.defaults = []) (hr : Rm k callerA)
    (F : ∀ (w : World) (mg : Str → Option Value) (fa : Addr) (h : Heap), YP w h → h.Ns mainGlobals mg → mg d.name = some (.ref fa) →
      ∃ (K : PySem.W.Frag) (fd : FuncData) (sp : Sp) (cs : List (Addr × Addr)), K.In h ∧ (∀ p ∈ cs, h.get? p.2 = some tab0) ∧ (∀ p ∈ cs, K.lookup p.2 = none) ∧ (∀ p ∈ cs, PySem.W.codeHdIn K p.1 p.2 = true) ∧ (∀ (s : Shared) (u : Value), BindsTo s fd ⟨[u], []⟩ [(x, u)]) ∧
        (∀ (H : Hp) (a : Addr) (ns : List Int), ns.length ≤ n → (∀ i ∈ ns, Builtin.Int.intBits i ≤ 1048576) → (∀ p ∈ cs, H p.2 = some (.tbl #[])) → SqL K H a (ns.map V.int) → sp [.ref a] H (fun v _ => v = .bl true) fun _ _ _ => False) ∧
        ∀ base : Heap, K.In base → base.Ns mainGlobals mg → (∀ p ∈ cs, TabB base mg p.1 p.2) → FnG l.prog w K mg base CX k fa fd [x] sp)
    (hCX : ∀ (H : Hp) (s : Shared) (e : Value) (s' : Shared), CX [] H s (fun _ _ _ => False) e s' → False) : PySem.W.WalkO q loose XP YP l.row.toRowW d [] (fun f vs => PySem.call f vs) := by
  refine Att.attach_callB hn hdf fun w _ t mg mb fa _ _ _ _ a us ns G Y _ _ _ hm ho hi hlen hbits hg => ?_
  obtain ⟨K, fd, sp, cs, KX, tT, tK, tC, bd, hs, hF⟩ := F w mg fa _ Y G.T.g hm
  exact lawT KX G.T.g G.T.b G.T.builtins G.T.nolimit hg tT tK tC G.T.bmain ho hi (Nat.le_trans hlen hn2) hr hF bd (fun H hT hS => hs H a ns hlen hbits hT hS) fun H e s' => hCX H t e s'
/-! ### the Hook -/
/-- what the module's names reach in n steps, and the statics -/
def asY (g : Addr → Option Obj) : Nat → List Addr
  | 0 => [mainGlobals, cStatics]
  | n + 1 => He.growD g (asY g n)
def frY (n : Nat) (g : Addr → Option Obj) : PySem.W.Frag := He.frT g (asY g n)
def tabY (g : Addr → Option Obj) (tf : List (PySem.W.Frag → Addr)) (K : PySem.W.Frag) : Bool := tf.all fun a => PySem.W.codeHdIn K (cOf K (a K)) (tOf K (a K)) && (g (tOf K (a K))).any He.emptyTab
abbrev AlT : Type := AlX × Bool
def obsTG (n : Nat) (ft : List Ft) (fn : List DefX) (tf : List (PySem.W.Frag → Addr)) (g : Addr → Option Obj) : AlT := (obsY ft fn (frY n g), tabY g tf (frY n g))
structure SaysT (ft : List Ft) (fn : List DefX) (tf : List (PySem.W.Frag → Addr)) (h : Heap) (K : PySem.W.Frag) : Prop where
  y : SaysY ft fn K
  hd : ∀ a ∈ tf, PySem.W.codeHdIn K (cOf K (a K)) (tOf K (a K)) = true
  out : ∀ a ∈ tf, K.lookup (tOf K (a K)) = none
  emp : ∀ a ∈ tf, h.get? (tOf K (a K)) = some tab0
theorem saysT_of {n : Nat} {ft : List Ft} {fn : List DefX} {tf : List (PySem.W.Frag → Addr)} {h : Heap} (e : obsTG n ft fn tf h.get? = (valY fn, true)) : SaysT ft fn tf h (frY n h.get?) := by
  have e1 : obsY ft fn (frY n h.get?) = valY fn := congrArg Prod.fst e
  have e2 : tabY h.get? tf (frY n h.get?) = true := congrArg Prod.snd e
  have key : ∀ a ∈ tf, PySem.W.codeHdIn (frY n h.get?) (cOf (frY n h.get?) (a (frY n h.get?))) (tOf (frY n h.get?) (a (frY n h.get?))) = true ∧ ∃ o, h.get? (tOf (frY n h.get?) (a (frY n h.get?))) = some o ∧ He.emptyTab o = true := fun a ha => by
    obtain ⟨h1, h2⟩ := He.ba (List.all_eq_true.mp e2 a ha)
    cases q : h.get? (tOf (frY n h.get?) (a (frY n h.get?))) with
    | none =>
      rw [q] at h2
      cases h2
    | some o =>
      rw [q] at h2
      exact ⟨h1, o, rfl, h2⟩
  refine ⟨e1, fun a ha => (key a ha).1, fun a ha => ?_, fun a ha => ?_⟩
  · obtain ⟨_, o, q, z⟩ := key a ha
    exact He.frT_none q z
  · obtain ⟨_, o, q, z⟩ := key a ha
    rw [q, He.emptyTab_eq z]
def hookT (n : Nat) (ft : List Ft) (fn : List DefX) (tf : List (PySem.W.Frag → Addr)) : PySem.W.Hook where
  α := AlT
  obs := fun s => obsTG n ft fn tf s.heap.get?
  val := fun _ => (valY fn, true)
  says := fun _ h => ∃ K : PySem.W.Frag, K.In h ∧ SaysT ft fn tf h K
  of := fun _ _ e => ⟨_, He.frT_in, saysT_of e⟩
  keeps := fun _ _ _ ⟨K, hK, c⟩ k => ⟨K, PySem.W.Frag.In.keeps hK k, ⟨c.y, c.hd, c.out, fun a ha => k _ _ (c.emp a ha)⟩⟩
theorem obsTG_eq {n : Nat} {ft : List Ft} {fn : List DefX} {tf : List (PySem.W.Frag → Addr)} {g : Addr → Option Obj} {s : Shared} (h : ∀ a, g a = s.heap.get? a) : obsTG n ft fn tf g = (hookT n ft fn tf).obs s := by
  cases (funext h : g = s.heap.get?)
  rfl
/-! ### an error class of the text, over ValueError -/
def oexB (K : PySem.W.Frag) (C : Addr) : Bool := match K.lookup C with
  | some ⟨.type c, _, .cls cd, sl⟩ => c == "type" && (match cd.mro, sl.toList with
    | .ref D :: bm, [_, _, _, _, some (.builtin n), _] => D == C && (n == "ValueError.__new__" && (!cd.hasDel && (cd.hasDict && PySem.HandSPX.refsVE bm)))
    | _, _ => false)
  | _ => false
theorem oexB_ok {K : PySem.W.Frag} {C : Addr} (h : oexB K C = true) : ∃ nm q N bs bm sn sub ab col dd k0 k1 k2 k3 k5, K.lookup C = some (excClassObj nm q C N bs bm true sn sub ab col dd k0 k1 k2 k3 k5 "ValueError.__new__") ∧ PySem.HandSPX.refsVE bm = true := by
  unfold oexB at h
  split at h
  · rename_i c dd cd sl lk
    obtain ⟨h1, h2⟩ := He.ba h
    split at h2
    · rename_i D bm k0 k1 k2 k3 n k5 hm hs
      obtain ⟨g1, g2⟩ := He.ba h2
      obtain ⟨g3, g4⟩ := He.ba g2
      obtain ⟨g5, g6⟩ := He.ba g4
      obtain ⟨g7, g8⟩ := He.ba g6
      obtain ⟨c1, c2, c3, c4, c5, c6, c7, c8, c9, c10, c11⟩ := cd
      have es : sl = #[k0, k1, k2, k3, some (.builtin n), k5] := by
        have : sl = sl.toList.toArray := by simp
        rw [this, hs]
      have e1 : c = "type" := beq_iff_eq.mp h1
      have e2 : D = C := beq_iff_eq.mp g1
      have e3 : n = "ValueError.__new__" := beq_iff_eq.mp g3
      have e4 : c11 = false := by simpa using g5
      have e5 : c6 = true := g7
      have e6 : c3 = .ref D :: bm := hm
      subst es e1 e2 e3 e4 e5 e6
      exact ⟨_, _, _, _, _, _, _, _, _, _, _, _, _, _, _, lk, g8⟩
    · cases h2
  · cases h
/-- all that is asked of an error class x with the field f -/
def fXcl (x f : Str) : Ft := fun K => oexB K (He.ga K x) && (He.eqO (PySem.W.findIn K (.ref (He.ga K x)) "__setattr__") (some (some (.builtin "object.__setattr__"))) && (decide (PySem.W.subIn K (.ref (He.ga K x)) (.type "BaseException") = some true) && (decide (PySem.W.typeIn K (.ref (He.ga K x)) = some (.type "type")) &&
  (PySem.W.keepIn K (.ref (He.ga K x)) && (He.eqO (PySem.W.findIn K (.ref (He.ga K x)) f) (some none) && (He.eqO (PySem.W.findIn K (.ref (He.ga K x)) "__init__") (some (some (.ref (mA x "__init__" K)))) && (decide (PySem.W.typeIn K (.ref (mA x "__init__" K)) = some (.type "function")) &&
  (xfB K (He.ga K x) && (He.eqO (PySem.W.findIn K (.ref (He.ga K x)) "__class__") (some (some (.builtin "object.__class__"))) && (He.eqO (PySem.W.specialIn K (.builtin "object.__class__") "__get__") (some (some (.builtin "getset_descriptor.__get__"))) && (decide (PySem.W.takesIn K (.builtin "object.__class__") = some true) && decide (PySem.W.mroIn K (He.ga K x) (.type "object") = some true))))))))))))
theorem fXcl_ok {P : Program} {w : World} {K : PySem.W.Frag} {mg : Str → Option Value} {base : Heap} {k : Nat} {x f : Str} {fd : FuncData} {ps : List Str} (c : fXcl x f K = true) (hm : mg x = some (.ref (He.ga K x))) (B : Binds K fd ps []) (F : FnOk P w K mg base CX0 k (mA x "__init__" K) fd ps (spXI (He.ga K x) f)) :
    Xcl P w K mg base k x (He.ga K x) f := by
  obtain ⟨c1, c⟩ := He.ba c
  obtain ⟨c2, c⟩ := He.ba c
  obtain ⟨c3, c⟩ := He.ba c
  obtain ⟨c4, c⟩ := He.ba c
  obtain ⟨c5, c⟩ := He.ba c
  obtain ⟨c6, c⟩ := He.ba c
  obtain ⟨c7, c⟩ := He.ba c
  obtain ⟨c8, c⟩ := He.ba c
  obtain ⟨c9, c⟩ := He.ba c
  obtain ⟨c10, c⟩ := He.ba c
  obtain ⟨c11, c⟩ := He.ba c
  obtain ⟨c12, c13⟩ := He.ba c
  have xf := xfB_ok c9
  exact ⟨⟨oexB_ok c1, He.eqO_ok c2, of_decide_eq_true c3, of_decide_eq_true c4, c5⟩, He.eqO_ok c6, hm, ⟨_, fd, ps, He.eqO_ok c7, of_decide_eq_true c8, B, F⟩, xf, ⟨xf.ga, xf.gg, xf.exC, xf.hdC, He.eqO_ok c10, He.eqO_ok c11, of_decide_eq_true c12, of_decide_eq_true c13⟩⟩
theorem fXcl_pre {K : PySem.W.Frag} {x f : Str} (c : fXcl x f K = true) : OexC K (He.ga K x) ∧ PySem.W.findIn K (.ref (He.ga K x)) f = some none := by
  obtain ⟨c1, c⟩ := He.ba c
  obtain ⟨c2, c⟩ := He.ba c
  obtain ⟨c3, c⟩ := He.ba c
  obtain ⟨c4, c⟩ := He.ba c
  obtain ⟨c5, c⟩ := He.ba c
  obtain ⟨c6, _⟩ := He.ba c
  exact ⟨⟨oexB_ok c1, He.eqO_ok c2, of_decide_eq_true c3, of_decide_eq_true c4, c5⟩, He.eqO_ok c6⟩
/-- the class B over ValueError that has no __init__ of its own -/
def fLe (x : Str) : Ft := fun K => He.eqO (PySem.W.specialIn K (.ref (He.ga K x)) "__getattribute__") (some (some (.builtin "type.__getattribute__"))) && (PySem.W.readsIn K (He.ga K x) (.type "type") && (match PySem.W.findCls K (.ref (He.ga K x)) (.type "type") "__init__" with
  | some (.val (.builtin n)) => n == "ValueError.__init__"
  | _ => false))
theorem fLe_ok {K : PySem.W.Frag} {x : Str} (c : fLe x K = true) : LeC K (He.ga K x) := by
  obtain ⟨c1, c⟩ := He.ba c
  obtain ⟨c2, c3⟩ := He.ba c
  refine ⟨He.eqO_ok c1, c2, ?_⟩
  split at c3
  · rename_i n e
    rw [e, beq_iff_eq.mp c3]
  · cases c3
end LL

set_option Elab.async false
set_option linter.all false
set_option maxRecDepth 100000
set_option maxHeartbeats 2000000
/-! LLVal: values that are refused, and how repr tells them; heaps with tables; constants of the module. -/
namespace LL
open PySem PySem.Spec PyProof.Rows L2
theorem small {n : Nat} (h : n ≤ 100000) : n ≤ sizeLine := Nat.le_trans h (by rw [sizeLine_eq]; decide)
theorem passF {X : Cx} : Passes (L2.CX X.prog X.w) X E0 := fun _ _ _ _ _ _ _ h => by
  obtain ⟨_, _, _, _, _, _, _, _, _, _, _, _, z⟩ := h
  exact z.elim
/-- a constant of the module -/
theorem pe_gS {X : Cx} {x z : Str} {pos : Pos} (h : ∃ t, X.mg x = some (.str z t)) (hg : Gl X x := by rfl) (hd : (x == ("__debug__" : Str)) = false := by decide) : PE X (.Name x pos) (tC (.str z)) := by
  obtain ⟨t, h⟩ := h
  exact pe_glob hg h ⟨t, rfl⟩ hd
theorem pe_gI {X : Cx} {x : Str} {i : Int} {pos : Pos} (h : ∃ t, X.mg x = some (.int i t)) (hg : Gl X x := by rfl) (hd : (x == ("__debug__" : Str)) = false := by decide) : PE X (.Name x pos) (tC (.int i)) := by
  obtain ⟨t, h⟩ := h
  exact pe_glob hg h ⟨t, rfl⟩ hd
def fStr (x z : Str) : Ft := fun K => (He.Fa.str x z).ok K
def fInt (x : Str) (i : Int) : Ft := fun K => (He.Fa.int x i).ok K
/-- a value that is no text -/
def NoTxt (K : PySem.W.Frag) (H : Hp) (v : V) : Prop := ∃ t, (∀ H', LamX.ExtN H H' → TyX K H' v t) ∧ PySem.W.kitOne K t (.type "str") = some false
theorem NoTxt.ext {K : PySem.W.Frag} {H H' : Hp} {v : V} (h : NoTxt K H v) (s : LamX.ExtN H H') : NoTxt K H' v := let ⟨t, a, b⟩ := h; ⟨t, fun H2 s2 => a H2 (s.trans s2), b⟩
theorem NoTxt.same {K : PySem.W.Frag} {H H' : Hp} {v : V} (h : NoTxt K H v) (s : Same H H') : NoTxt K H' v := h.ext (.of s)
/-- an error with this value -/
def Err (Cx : Addr) (H : Hp) (v : V) (E : XK) : Prop := ∀ H' d, Same H H' → H d = none → H' d = some (.xd [("value", v)]) → E (.ref Cx) (some d) H'
theorem Err.now {Cx : Addr} {H : Hp} {v : V} {E : XK} (h : Err Cx H v E) : ∀ d, H d = none → E (.ref Cx) (some d) (upd H d (.xd [("value", v)])) := fun d hd => h _ d (same_upd hd) hd upd_same
theorem Err.same {Cx : Addr} {H H1 : Hp} {v : V} {E : XK} (h : Err Cx H v E) (s : Same H H1) : Err Cx H1 v E := fun H' d s2 hd e => h H' d (s.trans s2) (s.free hd) e
theorem kStr {K : PySem.W.Frag} : PySem.W.kitOne K (.type "str") (.type "str") = some true := kit_ty (by decide +kernel)
/-! ### heaps with tables -/
def ButN (p : Addr) (H H' : Hp) : Prop := ∀ b o, H b = some o → b ≠ p → (∀ ps, o ≠ .tbl ps) → H' b = some o
theorem ButN.trans {p : Addr} {H H1 H2 : Hp} (a : ButN p H H1) (b : ButN p H1 H2) : ButN p H H2 := fun c o e n t => b c o (a c o e n t) n t
theorem ButN.of {p : Addr} {H H' : Hp} (a : But p H H') : ButN p H H' := fun c o e n _ => a c o e n
theorem ButN.ext {p : Addr} {H H' : Hp} (a : LamX.ExtN H H') : ButN p H H' := fun c o e _ t => a c o e t
theorem ButN.same {p : Addr} {H H' : Hp} (a : Same H H') : ButN p H H' := fun c o e _ _ => a c o e
theorem lst_ext {H H' : Hp} {l : Addr} {xs : List V} (h : H l = some (.lst xs)) (b : LamX.ExtN H H') : H' l = some (.lst xs) := b _ _ h (fun _ z => by cases z)
theorem tabs_kp {T : List (Addr × Str)} {H H' : Hp} (t : LamX.Tabs T H) (k : Kp H H') : LamX.Tabs T H' := fun p hp => by
  obtain ⟨ps, h1, h2, h3⟩ := t p hp
  refine ⟨ps, k _ _ h1 (fun _ z => by cases z), h2, fun pos cv hc => ?_⟩
  obtain ⟨c, e1, e2⟩ := h3 pos cv hc
  exact ⟨c, e1, k _ _ e2 (fun _ z => by unfold LamX.CodeO at z; cases z)⟩
theorem tabs_same {T : List (Addr × Str)} {H H' : Hp} (t : LamX.Tabs T H) (k : Same H H') : LamX.Tabs T H' := tabs_kp t (Kp.of k)
theorem asc_okt {z : Str} (h : PyData.strOk z = true) : Asc z := fun c hc => Nat.lt_trans (okt_iff.mp h c hc) (by decide)
theorem log_small {n : Int} (h : n.natAbs < 2 ^ 100) : n.natAbs.log2 < 1920 := Nat.lt_of_lt_of_le (PySem.Flt.log2_lt_of (by decide) h) (by decide)
section
variable {K : PySem.W.Frag}
theorem dq_of {H : Hp} {v : V} {d : PyData} (h : Dp K H v d) (s : Shw d) (p : d.depth ≤ 40) (c : cost d ≤ sizeLine) : Dq K H v d := .dat h s p c
/-- told by repr as d, whatever else is made -/
def Tld (K : PySem.W.Frag) (H : Hp) (v : V) (d : PyData) : Prop := PyData.strOk d.shown = true ∧ ∀ H', LamX.ExtN H H' → Dq K H' v d
theorem Tld.ext {H H' : Hp} {v : V} {d : PyData} (h : Tld K H v d) (s : LamX.ExtN H H') : Tld K H' v d := ⟨h.1, fun H2 s2 => h.2 H2 (s.trans s2)⟩
theorem okt_int (i : Int) : PyData.strOk (PyData.shown (.int i)) = true := by
  simp only [PyData.shown]
  exact okt_of _
theorem tld_non {H : Hp} : Tld K H .non .none := ⟨by decide +kernel, fun _ _ => dq_of .non (by simp only [Shw]) (by decide +kernel) (by decide +kernel)⟩
theorem tld_bl {H : Hp} (b : Bool) : Tld K H (.bl b) (.bool b) := ⟨by cases b <;> decide +kernel, fun _ _ => dq_of (.bl b) (by simp only [Shw]) (by cases b <;> decide +kernel) (by cases b <;> decide +kernel)⟩
theorem tld_int {H : Hp} {i : Int} (h : i.natAbs < 2 ^ 100) : Tld K H (.int i) (.int i) := by
  refine ⟨okt_int i, fun _ _ => dq_of (.int i) (by simp only [Shw]; exact log_small h) ?_ ?_⟩
  · simp only [PyData.depth]
    decide
  · simp only [cost]
    exact small (by decide)
theorem tld_zero {H : Hp} : Tld K H (.str "0") (.str "0") := ⟨by decide +kernel, fun _ _ => dq_of (.str _) (by simp only [Shw]; exact asc_of _) (by decide +kernel) (by decide +kernel)⟩
theorem tld_list1 {H : Hp} {l : Addr} {i : Int} (h : i.natAbs < 2 ^ 100) (hl : H l = some (.lst [.int i])) : Tld K H (.ref l) (.list [.int i]) := by
  refine ⟨?_, fun H' s => dq_of (.lst (SqL.of (lst_ext hl s)) (.cons (.int _) .nil)) (by simp only [Shw, ShwAll]; exact ⟨log_small h, trivial⟩) ?_ ?_⟩
  · simp only [PyData.shown, PyData.shownAll, listText, textFrom]
    exact okt_app (okt_app (okt_app (okt_of _) (okt_of _)) (okt_of _)) (okt_of _)
  · simp only [PyData.depth, PyData.depthAll]
    decide
  · simp only [cost, costAll]
    exact small (by decide)
theorem tld_a {H : Hp} {l : Addr} (hl : H l = some (.lst [.str "a"])) : Tld K H (.ref l) (.list [.str "a"]) :=
  ⟨by decide +kernel, fun H' s => dq_of (.lst (SqL.of (lst_ext hl s)) (.cons (.str _) .nil)) (by simp only [Shw, ShwAll]; exact ⟨asc_of _, trivial⟩) (by decide +kernel) (by decide +kernel)⟩
theorem tld_nil {H : Hp} {l : Addr} (hl : H l = some (.lst [])) : Tld K H (.ref l) (.list []) :=
  ⟨by decide +kernel, fun H' s => dq_of (.lst (SqL.of (lst_ext hl s)) .nil) (by simp only [Shw, ShwAll]) (by decide +kernel) (by decide +kernel)⟩
theorem tld_t0 {H : Hp} {l : Addr} (hl : H l = some (.tup [.int 0])) : Tld K H (.ref l) (.tuple [.int 0]) :=
  ⟨by decide +kernel, fun H' s => dq_of (.tup (SqT.of (s _ _ hl (fun _ z => by cases z))) (.cons (.int _) .nil)) (by simp only [Shw, ShwAll]; decide +kernel) (by decide +kernel) (by decide +kernel)⟩
theorem tld_tnil {H : Hp} {l : Addr} (hl : H l = some (.tup [])) : Tld K H (.ref l) (.tuple []) :=
  ⟨by decide +kernel, fun H' s => dq_of (.tup (SqT.of (s _ _ hl (fun _ z => by cases z))) .nil) (by simp only [Shw, ShwAll]) (by decide +kernel) (by decide +kernel)⟩
theorem tld_d {H : Hp} {l : Addr} (hl : H l = some (.dK [])) : Tld K H (.ref l) (.dict []) := ⟨by decide +kernel, fun H' s => .emp (s _ _ hl (fun _ z => by cases z))⟩
theorem kNoneI : PySem.W.kitOne K (.type "NoneType") (.type "int") = some false := kit_ty (by decide +kernel)
theorem kStrI : PySem.W.kitOne K (.type "str") (.type "int") = some false := kit_ty (by decide +kernel)
theorem kLstI : PySem.W.kitOne K (.type "list") (.type "int") = some false := kit_ty (by decide +kernel)
theorem kTupI : PySem.W.kitOne K (.type "tuple") (.type "int") = some false := kit_ty (by decide +kernel)
theorem kDicI : PySem.W.kitOne K (.type "dict") (.type "int") = some false := kit_ty (by decide +kernel)
theorem kNoneS : PySem.W.kitOne K (.type "NoneType") (.type "str") = some false := kit_ty (by decide +kernel)
theorem kIntS : PySem.W.kitOne K (.type "int") (.type "str") = some false := kit_ty (by decide +kernel)
theorem kBoolS : PySem.W.kitOne K (.type "bool") (.type "str") = some false := kit_ty (by decide +kernel)
theorem kLstS : PySem.W.kitOne K (.type "list") (.type "str") = some false := kit_ty (by decide +kernel)
theorem kTupS : PySem.W.kitOne K (.type "tuple") (.type "str") = some false := kit_ty (by decide +kernel)
theorem kDicS : PySem.W.kitOne K (.type "dict") (.type "str") = some false := kit_ty (by decide +kernel)
theorem ty_lst {H H' : Hp} {l : Addr} {xs : List V} (h : H l = some (.lst xs)) (s : LamX.ExtN H H') : TyX K H' (.ref l) (.type "list") := .base (.lst (lst_ext h s))
theorem ty_tup {H H' : Hp} {l : Addr} {xs : List V} (h : H l = some (.tup xs)) (s : LamX.ExtN H H') : TyX K H' (.ref l) (.type "tuple") := .base (.tup (s _ _ h (fun _ z => by cases z)))
theorem ty_dK {H H' : Hp} {l : Addr} (h : H l = some (.dK [])) (s : LamX.ExtN H H') : TyX K H' (.ref l) (.type "dict") := .base (.dK (s _ _ h (fun _ z => by cases z)))
/-- a refusal as a tuple, and the one that is due -/
def rfs (x s : Str) : PyData := .tuple [.str x, .str s, .bool true]
theorem rfs_lay {x s : Str} (hx : PyData.strOk x = true) (hs : PyData.strOk s = true) : PyData.canLay0 (rfs x s) = true := by
  simp [rfs, PyData.canLay0, PyData.canLayAll0, hx, hs]
theorem rfs_shp {x s : Str} (hx : PyData.strOk x = true) (hs : PyData.strOk s = true) : SeqAt.shaped (rfs x s) = true := by
  unfold SeqAt.shaped
  rw [rfs_lay hx hs]
  simp [rfs, PyData.depth, PyData.depthAll]
theorem rfs_dp {H : Hp} {t : Addr} {x s : Str} (h : H t = some (.tup [.str x, .str s, .bl true])) : Dp K H (.ref t) (rfs x s) := .tup (SqT.of h) (.cons (.str _) (.cons (.str _) (.cons (.bl _) .nil)))
end
def Fre (H : Hp) (a : Addr) : Prop := ∀ o, H a = some o → ∃ ps, o = HO.tbl ps
/-- beside what was there, but p, an own a is changed -/
theorem bn_own {p a : Addr} {H H1 H2 : Hp} (b : ButN p H H1) (f : Fre H a) (c : But a H1 H2) : ButN p H H2 := fun x o e n t => c x o (b x o e n t) fun z => by
  obtain ⟨ps, q⟩ := f o (z ▸ e)
  exact t ps q
theorem code_ref {K : PySem.W.Frag} {f : Addr} {fd : FuncData} {x qual : Str} {params : Arguments} {body : List Stmt} {scope : Scope} {dvs : List V} {kws : List (Str × V)} (F : FunD K x qual params body scope dvs kws f fd) : (fdAt K f).map FuncData.code = some (.ref (cOf K f)) := by
  obtain ⟨oc, od, dV, kV, doc, pm, an, cdv, ct, osl, rfl, lk, hcd, _, _⟩ := F.ex
  obtain ⟨c, rfl⟩ := He.codeIn_ref hcd
  have e : (fdAt K f).map FuncData.code = some (.ref c) := by
    unfold fdAt
    rw [lk]
    rfl
  rw [cOf_of e]
  exact e
theorem look_v (v : V) : ([(("value" : Str), v)] : List (Str × V)).lookup ("value" : Str) = some v := by
  rw [show ([(("value" : Str), v)] : List (Str × V)) = putF "value" v [] from rfl, lookup_putF, if_pos rfl]
theorem sq_ext {K : PySem.W.Frag} {H H' : Hp} {a : Addr} {xs : List V} (h : SqL K H a xs) (e : LamX.ExtN H H') : SqL K H' a xs := by
  rcases h with (h | ⟨o, h⟩) | h
  · exact .inl (.inl (e _ _ h (fun _ z => by cases z)))
  · exact .inl (.inr ⟨o, e _ _ h (fun _ z => by cases z)⟩)
  · exact .inr h
/-! ### slices -/
theorem cutV_to (xs : List V) (n : Nat) : cutV xs none (some (n : Int)) = xs.take n := by
  unfold cutV
  rw [HT.sIx_none, HT.sIx_nat, List.drop_zero, Nat.sub_zero, List.take_eq_take_iff]
  omega
theorem cutV_from (xs : List V) (n : Nat) : cutV xs (some (n : Int)) none = xs.drop n := by
  unfold cutV
  rw [HT.sIx_none, HT.sIx_nat]
  by_cases h : n ≤ xs.length
  · rw [Nat.min_eq_left h, List.take_of_length_le (by rw [List.length_drop]; omega)]
  · rw [Nat.min_eq_right (by omega), List.drop_of_length_le (Nat.le_refl _), List.drop_of_length_le (by omega)]
    simp
theorem cutV_one (xs : List V) (n : Nat) : cutV xs (some (n : Int)) (some ((n : Int) + 1)) = (xs.drop n).take 1 := by
  unfold cutV
  rw [show ((n : Int) + 1) = ((n + 1 : Nat) : Int) by omega, HT.sIx_nat, HT.sIx_nat]
  by_cases h : n < xs.length
  · rw [Nat.min_eq_left (by omega), Nat.min_eq_left (by omega), Nat.add_sub_cancel_left]
  · rw [show min n xs.length = xs.length by omega, List.drop_of_length_le (Nat.le_refl _), List.drop_of_length_le (by omega)]
    simp
theorem cutV_last (xs : List V) : cutV xs none (some (-1)) = xs.dropLast := by
  unfold cutV
  have e : HT.sIx xs.length xs.length (some (-1)) = xs.length - 1 := by
    show (if (-1 : Int) < 0 then ((-1 : Int) + (xs.length : Int)).toNat else min (-1 : Int).toNat xs.length) = _
    rw [if_pos (by decide)]
    omega
  rw [HT.sIx_none, e, List.drop_zero, Nat.sub_zero, List.dropLast_eq_take]
theorem cutS_to (z : Str) (n : Nat) : cutS z none (some (n : Int)) = ⟨(z.cps.toList.take n).toArray⟩ := by
  have h : z.cps.toList.length = z.length := rfl
  unfold cutS
  rw [HT.sIx_none, HT.sIx_nat, List.drop_zero, Nat.sub_zero]
  congr 2
  rw [List.take_eq_take_iff]
  omega
theorem cutS_from (z : Str) (n : Nat) : cutS z (some (n : Int)) none = ⟨(z.cps.toList.drop n).toArray⟩ := by
  have e : z.cps.toList.length = z.length := rfl
  unfold cutS
  rw [HT.sIx_none, HT.sIx_nat]
  by_cases h : n ≤ z.length
  · rw [Nat.min_eq_left h, List.take_of_length_le (by rw [List.length_drop]; omega)]
  · rw [Nat.min_eq_right (by omega), List.drop_of_length_le (by omega), List.drop_of_length_le (by omega)]
    simp
/-! ### a text times a number; texts told by repr -/
def rMulS : R2 := fun x y H Q => ∃ z k, x = .str z ∧ y = .int k ∧ MulOk z k ∧ Q (.str (Txt.mul z k)) H
theorem op_mulS {X : Cx} : OpR X (binaryOp .Mult) rMulS := by
  intro pins s σ H x y v u Q I rx ry h
  obtain ⟨i, j, rfl, rfl, hz, q⟩ := h
  obtain ⟨t, rfl⟩ := rx
  obtain ⟨t', rfl⟩ := ry
  exact PySem.SB.mul hz (fun t' tk => ⟨.str (Txt.mul i j), H, I.tok _, ⟨_, rfl⟩, q⟩)
theorem repr_char (q c : Nat) (hq : q < 1114112) (h : c < 1114112) : ∀ d ∈ Builtin.Str.reprChar q c, d < 1114112 := by
  have hx : ∀ w d, d ∈ List.replicate (w - ((Nat.toDigits 16 c).map Char.toNat).length) 48 ++ (Nat.toDigits 16 c).map Char.toNat → d < 1114112 := fun w d hd => by
    rcases List.mem_append.mp hd with hd | hd
    · rw [List.eq_of_mem_replicate hd]
      decide
    · obtain ⟨k, _, rfl⟩ := List.mem_map.mp hd
      rcases k.valid with h | ⟨_, h⟩
      · exact Nat.lt_trans h (by decide)
      · exact h
  intro d hd
  unfold Builtin.Str.reprChar at hd
  dsimp only at hd
  repeat' split at hd
  all_goals first
    | (rcases List.mem_append.mp hd with z | z
       · rcases List.mem_cons.mp z with rfl | z
         · decide
         · rw [List.mem_singleton.mp z]; decide
       · exact hx _ _ z)
    | (rcases List.mem_cons.mp hd with rfl | z
       · decide
       · rw [List.mem_singleton.mp z]; first | decide | exact h)
    | (rw [List.mem_singleton.mp hd]; exact h)
theorem fold_repr (q : Nat) (hq : q < 1114112) : ∀ (l : List Nat) (acc : Array Nat), (∀ c ∈ l, c < 1114112) → (∀ c ∈ acc.toList, c < 1114112) → ∀ c ∈ (l.foldl (fun out c => out ++ (Builtin.Str.reprChar q c).toArray) acc).toList, c < 1114112
  | [], _, _, h => h
  | d :: r, acc, hl, h => by
    refine fold_repr q hq r _ (fun c hc => hl c (List.mem_cons_of_mem _ hc)) fun c hc => ?_
    rw [Array.toList_append] at hc
    rcases List.mem_append.mp hc with z | z
    · exact h c z
    · exact repr_char q d hq (hl d (List.mem_cons_self ..)) c z
theorem okt_repr {z : Str} (h : PyData.strOk z = true) : PyData.strOk (PyData.shown (.str z)) = true := by
  simp only [PyData.shown]
  rw [okt_iff] at h ⊢
  have hq : reprQuote z < 1114112 := by
    unfold reprQuote
    split <;> decide
  intro c hc
  unfold reprText at hc
  rw [Array.toList_push, ← Array.foldl_toList] at hc
  rcases List.mem_append.mp hc with w | w
  · refine fold_repr _ hq _ _ h (fun c hc => ?_) c w
    rw [List.mem_singleton.mp hc]
    exact hq
  · rw [List.mem_singleton.mp w]
    exact hq
theorem tld_str {K : PySem.W.Frag} {H : Hp} {z : Str} (h : PyData.strOk z = true) (l : z.length ≤ 9000) : Tld K H (.str z) (.str z) := by
  refine ⟨okt_repr h, fun _ _ => dq_of (.str _) (by simp only [Shw]; exact asc_okt h) ?_ ?_⟩
  · simp only [PyData.depth]
    decide
  · simp only [cost]
    exact small (by omega)
theorem kDicS' {K : PySem.W.Frag} : PySem.W.kitOne K (.type "dict") (.type "str") = some false := kit_ty (by decide +kernel)
end LL

set_option Elab.async false
set_option linter.all false
set_option maxRecDepth 100000
set_option maxHeartbeats 2000000
/-! LLZip: enumerate of a list or a tuple; zip of three lists or tuples. -/
namespace LL
open PySem PySem.Spec PyProof.Rows L2
/-! ### a list or a tuple -/
/-- a list (k) or a tuple -/
def sqK (k : Bool) (K : PySem.W.Frag) (H : Hp) (a : Addr) (xs : List V) : Prop := match k with | true => SqL K H a xs | false => SqT K H a xs
def itK (k : Bool) (h : Heap) (it a : Addr) (i : Nat) : Prop := match k with | true => h.IsListIter it a i | false => h.IsTupleIter it a i
def hpK (k : Bool) (h : Heap) (a : Addr) (items : Array Value) : Prop := match k with | true => h.IsList a items | false => h.IsTuple a items
def obK (k : Bool) (a : Addr) : Obj := match k with | true => { cls := .type "list_iterator", data := .fields #[.ref a, .int 0 0] } | false => { cls := .type "tuple_iterator", data := .fields #[.ref a, .int 0 0] }
theorem itK.at {k : Bool} {h h' : Heap} {it a : Addr} {i : Nat} (x : itK k h it a i) (e : ∀ o, h.get? it = some o → h'.get? it = some o) : itK k h' it a i := by
  cases k with
  | true => exact Heap.IsListIter.at x e
  | false => exact Heap.IsTupleIter.at x e
theorem itK.ob {k : Bool} {h : Heap} {it a : Addr} {i : Nat} (x : itK k h it a i) : ∃ o, h.get? it = some o ∧ ∀ v, o.data ≠ .cell v := by
  cases k with
  | true => obtain ⟨o, e, _, d⟩ := x; exact ⟨o, e, fun v q => by rw [d] at q; cases q⟩
  | false => obtain ⟨o, e, _, d⟩ := x; exact ⟨o, e, fun v q => by rw [d] at q; cases q⟩
theorem itK.new {k : Bool} {h : Heap} {it a : Addr} (e : h.get? it = some (obK k a)) : itK k h it a 0 := by
  cases k with
  | true => exact ⟨_, e, rfl, rfl⟩
  | false => exact ⟨_, e, rfl, rfl⟩
theorem begK (k : Bool) (a : Addr) (items : Array Value) : Begins (.ref a) (obK k a) fun h => hpK k h a items := by
  cases k with
  | true => exact begins_list a items
  | false => exact begins_tuple a items
theorem drwK {prog : Program} {w : World} {A : Around} (hh : A.handled = none) (k : Bool) (it a : Addr) (hne : a ≠ it) (items : Array Value) :
    Draws prog w A it [it, a] items.size (fun i v => items[i]? = some v) (fun i h => itK k h it a i ∧ hpK k h a items) := by
  cases k with
  | true => exact Draws.list hh it a hne items
  | false => exact Draws.tuple hh it a hne items
section
variable {X : Cx} {pins : List (Addr × Obj)} {σ : L2.St} {H : Hp} {s : Shared}
theorem inv_K {k : Bool} {a : Addr} {xs : List V} (I : Inv X pins σ H s) (h : sqK k X.K H a xs) : ∃ its : List Value, Vals xs its ∧ hpK k s.heap a its.toArray ∧ ∃ o, s.heap.get? a = some o := by
  cases k with
  | true =>
    obtain ⟨its, r, p, _⟩ := I.list h
    obtain ⟨o, e, _⟩ := id p.isList
    exact ⟨its, r, p.isList, o, e⟩
  | false =>
    obtain ⟨its, r, p, _⟩ := I.tuple h
    obtain ⟨o, e, _⟩ := id p
    exact ⟨its, r, p, o, e⟩
theorem inj_K {k : Bool} {a : Addr} {xs ys : List V} (I : Inv X pins σ H s) (h : sqK k X.K H a xs) (h' : sqK k X.K H a ys) : xs = ys := by
  cases k with
  | true => exact I.list_inj h h'
  | false => exact I.tuple_inj h h'
end
/-! ### enumerate -/
/-- enumerate(v) makes two new objects -/
theorem enum_new {v : Value} {o : Obj} {G : Heap → Prop} (B : Begins v o G) :
    Meets (Builtin.«enumerate.__new__» ⟨[.type "enumerate", v], []⟩) (fun _ R s => G s.heap ∧ R (.ok (.ret (.ref (s.heap.push o).objs.size)))
      { s with heap := (s.heap.push o).push { cls := .type "enumerate", data := .fields #[.none, .bool false, .ref s.heap.objs.size, rawInt 0, .none, .none] } }) :=
  .of_wp fun prog w A R s h => by
    obtain ⟨hp, g, d, tk, os⟩ := s
    have sub := sub_enumerate
    have it : ∀ {A' : Around} {E : Value → Shared → Prop} {Q : Value → Shared → Prop}, Q (.ref hp.objs.size) ⟨hp.push o, g, d, tk, os⟩ → wpAny (model prog w) A' (pyIter v) Q E ⟨hp, g, d, tk, os⟩ := fun q => B.iter _ _ _ _ _ _ h.1 q
    wp_walk using it
    refine wpAny_stack_any fun st => wpAny_pure ?_
    split <;> try (rename_i c _ _ _ _ _; cases (c == Value.type "enumerate"))
    all_goals
      wp_walk using it
      exact ⟨_, rfl, h.2⟩
/-- the things at a as they stand at each turn, each in a new pair behind its number -/
def IteK (K : PySem.W.Frag) (k : Bool) (a : Addr) : It where
  go := fun i H => ∃ (xs : List V) (x : V), sqK k K H a xs ∧ xs[i]? = some x
  yld := fun i H v H' => ∃ T x, v = .ref T ∧ H T = none ∧ H' = upd H T (.tup [.int (i : Nat), x]) ∧ ∀ xs, sqK k K H a xs → xs[i]? = some x
  stop := fun i H => ∃ xs : List V, sqK k K H a xs ∧ xs.length = i
theorem two_mem {x a b : Addr} (h : x ∈ [a, b]) : x = a ∨ x = b := (List.mem_cons.mp h).imp id List.mem_singleton.mp
theorem turn_enumK {P : Program} {w : World} {K : PySem.W.Frag} {elts : List Expr} {kk : Nat} {tpos : Pos} {k : Bool} (a e it : Addr) (n1 : a ≠ it) (n2 : e ≠ a) (n3 : e ≠ it) :
    Turn P w K (.Tuple elts kk tpos) (IteK K k a) [e, it] e (fun i h => (∃ v, IsEnum h e it (i : Nat) v) ∧ itK k h it a i) where
  mem := List.mem_cons_self ..
  obj := fun i h st b hb => (two_mem hb).elim (fun z => z ▸ let ⟨_, he⟩ := st.1; ⟨_, he, fun _ q => nomatch q⟩) fun z => z ▸ st.2.ob
  keep := fun i h h' st hk => ⟨st.1.imp fun v he => hk e (List.mem_cons_self ..) _ he, st.2.at fun o q => hk it (List.mem_cons_of_mem _ (List.mem_cons_self ..)) o q⟩
  item := by
    rintro X rfl rfl rfl calm i pins s σ H E I own ⟨⟨v0, he⟩, hit⟩ ⟨xs, x, hq, hx⟩
    obtain ⟨its, rv, p, _⟩ := inv_K I hq
    obtain ⟨u, hu, ru⟩ := rv.get hx
    have bound : ∀ b ∈ [e, it], b < s.heap.objs.size := fun b hb => (two_mem hb).elim (fun z => z ▸ Heap.lt_size he) fun z => z ▸ let ⟨_, q, _⟩ := hit.ob; Heap.lt_size q
    have eu : its.toArray[i]? = some u := by simpa using hu
    refine wpAny_pyNext_enum_itemD (drwK (A := X.A.in1) (show X.A.in1.handled = none from I.ok.hd calm) k it a n1 its.toArray) he ⟨hit, p⟩ (Array.getElem?_eq_some_iff.mp eu).1 n3 (fun q => (two_mem q).elim n3 n2) fun y h1 tk py ho st' hT _ far => ?_
    cases Option.some.inj ((show its.toArray[i]? = some y from py).symm.trans eu)
    refine ⟨_, rfl, wpAny_letOwnedTupleGo_enum (s := { s with heap := h1, toks := tk + 1 }) ho fun h2 he2 sb => ?_⟩
    have off {b : Addr} (hb : b ∉ [e, it]) : b ≠ e ∧ b ≠ it := ⟨fun z => hb (z ▸ List.mem_cons_self ..), fun z => hb (z ▸ List.mem_cons_of_mem _ (List.mem_cons_self ..))⟩
    have pair : h2.get? s.heap.objs.size = some { cls := .type "tuple", data := .seq #[.int i tk, u] } := (sb.2 _ (Nat.ne_of_gt (Heap.lt_size he))).trans hT
    have I1 : Inv X pins σ (upd H s.heap.objs.size (.tup [.int (i : Nat), x])) { s with heap := h2, toks := tk + 1 } :=
      I.turnedNew (ch := [e, it]) (fun b o hb q => (sb.2 b (off hb).1).trans (far b o (off hb).1 (off hb).2 q)) own (Nat.le_refl _) ⟨by show 2 ≤ sizeLine; decide, [.int i tk, u], .cons ⟨_, rfl⟩ (.cons ru .nil), ⟨_, pair, rfl, _, rfl⟩⟩
    refine ⟨.ref s.heap.objs.size, _, I1, rfl, ⟨_, x, rfl, I.hok.fresh (Nat.le_refl _), rfl, fun ys hy => inj_K I hy hq ▸ hx⟩, ⟨⟨u, ?_⟩, st'.1.at fun o q => (sb.2 it n3.symm).trans q⟩, fun b hb => ?_⟩
    · rw [show ((i + 1 : Nat) : Int) = (i : Int) + 1 by omega]
      exact he2
    · rw [upd_ne (Nat.ne_of_lt (bound b hb))]
      exact (own b hb).1
  done := by
    rintro X rfl rfl rfl calm i pins s σ H E I own ⟨⟨v0, he⟩, hit⟩ ⟨xs, hq, rfl⟩
    obtain ⟨its, rv, p, _⟩ := inv_K I hq
    have len : xs.length = its.toArray.size := by rw [List.size_toArray]; exact rv.length
    rw [len] at hit
    obtain ⟨f0, f1, _, f3, f4, f5⟩ := own it (List.mem_cons_of_mem _ (List.mem_cons_self ..))
    exact wpAny_pyNext_enum_endD (drwK (A := X.A.in1) (show X.A.in1.handled = none from I.ok.hd calm) k it a n1 its.toArray) he ⟨hit, p⟩ fun h1 far => ⟨rfl, I.turned (t' := s.toks) (fun b o hb q => far b o hb q) f0 f1 f3 f4 f5⟩
  self := fun A i s Q E st h => let ⟨_, he⟩ := st.1; wpAny_pyIter_enum he h
def iEnumA (K : PySem.W.Frag) (ta : TA) : TI := fun σ H R => ta σ H fun vs H1 => ∃ k a xs, vs = [.ref a] ∧ sqK k K H1 a xs ∧ R (IteK K k a) H1
theorem pi_enumA {X : Cx} {e : Expr} {ta : TA} {p pos tpos : Pos} {elts : List Expr} {kk : Nat} (hg : Gl X "enumerate") (hm : X.mg "enumerate" = none) (ha : PA X [e] ta) (hs : starEach [e] X.env = [(false, eval e X.env)] := by rfl) :
    PI X (.Tuple elts kk tpos) (.Call (.Name "enumerate" p) [e] [] pos) (iEnumA X.K ta) := by
  refine ⟨fun pins s σ H R I h => Call_ (ld_blt I hg hm boot_enumerate (PyProof.Rows.callWith_type1 (thn (ha.run pos pins s σ H _ I h) fun us s1 ⟨vs, H1, I1, r1, k, a, xs, ex, hq, q⟩ => ?_) hs rfl))⟩
  subst ex
  obtain ⟨u, rfl, ru⟩ := vals1 r1
  cases ru
  obtain ⟨its, rv, p1, o1, ho1⟩ := inv_K I1 hq
  have la := Heap.lt_size ho1
  refine callType_new F.called_enumerate (by decide) (F.typeCall_enumerate_1 _) (F.newCall_enumerate_1 _) (fun obj => F.args_object_init_2 obj _) F.entry_enumerate_new (enum_new (begK k a its.toArray)) ⟨p1, ?_⟩
  have sz : (s1.heap.push (obK k a)).objs.size = s1.heap.objs.size + 1 := Heap.size_push ..
  have he := Heap.get?_push_size (s1.heap.push (obK k a)) (o := { cls := .type "enumerate", data := .fields #[.none, .bool false, .ref s1.heap.objs.size, rawInt 0, .none, .none] }) rfl
  rw [sz] at he
  have hi : ((s1.heap.push (obK k a)).push { cls := .type "enumerate", data := .fields #[.none, .bool false, .ref s1.heap.objs.size, rawInt 0, .none, .none] }).get? s1.heap.objs.size = some (obK k a) := Heap.get?_push_of_some _ (Heap.get?_push_size _ (begK k a its.toArray).free)
  show _ ∧ _
  rw [sz]
  refine ⟨⟨_, he, rfl⟩, wpAny_pyIter_enum he ?_⟩
  refine ⟨s1.heap.objs.size + 1, [s1.heap.objs.size + 1, s1.heap.objs.size], _, _, H1, rfl, I1.kept (t' := s1.toks) (fun b o x => Heap.get?_push_of_some _ (Heap.get?_push_of_some _ x)), turn_enumK a _ _ (Nat.ne_of_lt la) (Nat.ne_of_gt (Nat.lt_succ_of_lt la)) (Nat.succ_ne_self _), ⟨⟨.none, he⟩, .new hi⟩, fun b hb => ?_, q⟩
  have hle : s1.heap.objs.size ≤ b := (two_mem hb).elim (fun z => z ▸ Nat.le_succ _) fun z => z ▸ Nat.le_refl _
  exact I1.fpOk hle (I1.hok.fresh hle)
theorem walk_enumK {K : PySem.W.Frag} {k : Bool} {a : Addr} {xs : List V} : Walk (IteK K k a) xs.length (fun H => sqK k K H a xs) (YPair (fun i => some (.int (i : Nat))) (fun i => xs[i]?)) where
  goes := fun i H hi h => ⟨xs, xs[i], h, List.getElem?_eq_getElem hi⟩
  stops := fun H h => ⟨xs, h, rfl⟩
  yields := fun i H x H' hi h y => let ⟨T, v, e1, e2, e3, e4⟩ := y; ⟨T, _, v, e1, e2, e3, rfl, e4 xs h⟩
/-! ### zip of three -/
/-- the three as they stand at each turn, the items in new triples -/
def Itz3 (K : PySem.W.Frag) (k1 k2 k3 : Bool) (a b c : Addr) : It :=
  ⟨fun i H => ∃ (xs ys zs : List V) (x y z : V), sqK k1 K H a xs ∧ sqK k2 K H b ys ∧ sqK k3 K H c zs ∧ xs[i]? = some x ∧ ys[i]? = some y ∧ zs[i]? = some z,
    fun i H v H' => ∃ T x y z, v = .ref T ∧ H T = none ∧ H' = upd H T (.tup [x, y, z]) ∧ (∀ xs, sqK k1 K H a xs → xs[i]? = some x) ∧ (∀ ys, sqK k2 K H b ys → ys[i]? = some y) ∧ ∀ zs, sqK k3 K H c zs → zs[i]? = some z,
    fun i H => ∃ xs ys zs : List V, sqK k1 K H a xs ∧ sqK k2 K H b ys ∧ sqK k3 K H c zs ∧ i ≤ xs.length ∧ i ≤ ys.length ∧ i ≤ zs.length ∧ (i = xs.length ∨ i = ys.length ∨ i = zs.length)⟩
theorem turn_zip3 {P : Program} {w : World} {K : PySem.W.Frag} {elts : List Expr} {kk : Nat} {tpos : Pos} {k1 k2 k3 : Bool} {a b c z TI TO i1 i2 i3 : Addr} (S : ZipSep3 z TI TO i1 i2 i3 [i1, a] [i2, b] [i3, c]) (n1 : a ≠ i1) (n2 : b ≠ i2) (n3 : c ≠ i3) :
    Turn P w K (.Tuple elts kk tpos) (Itz3 K k1 k2 k3 a b c) [z, TI, TO, i1, i2, i3] z (fun i h => IsZip h z TI TO .none ∧ IsTupOf3 h TI (.ref i1) (.ref i2) (.ref i3) ∧ (∃ x y u, IsTupOf3 h TO x y u) ∧ itK k1 h i1 a i ∧ itK k2 h i2 b i ∧ itK k3 h i3 c i) where
  mem := by simp
  obj := fun i h st d hd => by
    obtain ⟨hz, hTI, ⟨x, y, u, hTO⟩, h1, h2, h3⟩ := st
    have e' : d = z ∨ d = TI ∨ d = TO ∨ d = i1 ∨ d = i2 ∨ d = i3 := by simpa using hd
    rcases e' with q | q | q | q | q | q
    · rw [q]; exact ⟨_, hz, fun v q => nomatch q⟩
    · rw [q]; exact ⟨_, hTI, fun v q => nomatch q⟩
    · rw [q]; exact ⟨_, hTO, fun v q => nomatch q⟩
    · rw [q]; exact h1.ob
    · rw [q]; exact h2.ob
    · rw [q]; exact h3.ob
  keep := fun i h h' st k => by
    obtain ⟨hz, hTI, ⟨x, y, u, hTO⟩, h1, h2, h3⟩ := st
    exact ⟨k z (by simp) _ hz, k TI (by simp) _ hTI, ⟨x, y, u, k TO (by simp) _ hTO⟩, h1.at fun o q => k i1 (by simp) o q, h2.at fun o q => k i2 (by simp) o q, h3.at fun o q => k i3 (by simp) o q⟩
  item := by
    intro X hP hw hK hc i pins s σ H E I hf st hg
    subst hP hw hK
    obtain ⟨hz, hTI, ⟨x0, y0, u0, hTO⟩, h1, h2, h3⟩ := st
    obtain ⟨xs, ys, zs, x, y, u, hqx, hqy, hqz, hx, hy, hu⟩ := hg
    obtain ⟨its, rv, p, _⟩ := inv_K I hqx
    obtain ⟨its2, rv2, p2, _⟩ := inv_K I hqy
    obtain ⟨its3, rv3, p3, _⟩ := inv_K I hqz
    obtain ⟨w1, hw1, rw1⟩ := rv.get hx
    obtain ⟨w2, hw2, rw2⟩ := rv2.get hy
    obtain ⟨w3, hw3, rw3⟩ := rv3.get hu
    have hzl : z < s.heap.objs.size := Heap.lt_size hz
    have hA : X.A.in1.handled = none := I.ok.hd hc
    have lt {l : List Value} {v : Value} (q : l[i]? = some v) : i < l.toArray.size := by
      have := (List.getElem?_eq_some_iff.mp q).1
      simpa using this
    have same {l : List Value} {v v' : Value} (q : l[i]? = some v) (q' : l.toArray[i]? = some v') : v' = v := by
      have : l[i]? = some v' := by simpa using q'
      rw [q] at this
      exact (Option.some.inj this).symm
    refine wpAny_pyNext_zipD3_item S (drwK hA k1 i1 a n1 its.toArray) (drwK hA k2 i2 b n2 its2.toArray) (drwK hA k3 i3 c n3 its3.toArray) hz hTI hTO ⟨h1, p⟩ ⟨h2, p2⟩ ⟨h3, p3⟩ (lt hw1) (lt hw2) (lt hw3) fun v1 v2 v3 h' tk y1 y2 y3 z' TO' d1 d2 d3 hT hsz hk => ?_
    have e1 := same hw1 y1
    have e2 := same hw2 y2
    have e3 := same hw3 y3
    subst e1 e2 e3
    refine ⟨_, rfl, wpAny_letOwnedTupleGo_zip (s := { s with heap := h', toks := tk }) z' fun h'' z'' sb => ?_⟩
    have hT2 : h''.get? s.heap.objs.size = some { cls := .type "tuple", data := .seq #[v1, v2, v3] } := (sb.2 _ (Nat.ne_of_gt hzl)).trans hT
    have new : ObjOk X.prog X.w (upd H s.heap.objs.size (.tup [x, y, u])) h'' s.heap.objs.size (.tup [x, y, u]) :=
      ⟨by show 3 ≤ sizeLine; decide, [v1, v2, v3], .cons rw1 (.cons rw2 (.cons rw3 .nil)), ⟨_, hT2, rfl, _, rfl⟩⟩
    have I1 : Inv X pins σ (upd H s.heap.objs.size (.tup [x, y, u])) { s with heap := h'', toks := tk } :=
      I.turnedNew (ch := [z, TI, TO, i1, i2, i3]) (fun d o hb q => (sb.2 d (fun q' => hb (by simp [q']))).trans (hk d o (fun q' => hb (by simp [q'])) (fun q' => hb (by simp [q'])) (fun q' => hb (by simp [q'])) (fun q' => hb (by simp [q'])) (fun q' => hb (by simp [q'])) q)) hf (Nat.le_refl _) new
    refine ⟨.ref s.heap.objs.size, _, I1, rfl, ⟨_, x, y, u, rfl, I.hok.fresh (Nat.le_refl _), rfl, fun l hl => by rw [inj_K I hl hqx]; exact hx, fun l hl => by rw [inj_K I hl hqy]; exact hy, fun l hl => by rw [inj_K I hl hqz]; exact hu⟩, ⟨z'', ?_, ⟨v1, v2, v3, ?_⟩, ?_, ?_, ?_⟩, fun d hdm => ?_⟩
    · exact (sb.2 _ S.TIz).trans (hk _ _ S.TIz S.TITO S.TIi1 S.TIi2 S.TIi3 hTI)
    · exact (sb.2 _ S.TOz).trans TO'
    · exact d1.1.at fun o q => (sb.2 _ S.zi1.symm).trans q
    · exact d2.1.at fun o q => (sb.2 _ S.zi2.symm).trans q
    · exact d3.1.at fun o q => (sb.2 _ S.zi3.symm).trans q
    · have hlt : d < s.heap.objs.size := by
        have e' : d = z ∨ d = TI ∨ d = TO ∨ d = i1 ∨ d = i2 ∨ d = i3 := by simpa using hdm
        rcases e' with q | q | q | q | q | q
        · rw [q]; exact hzl
        · rw [q]; exact Heap.lt_size hTI
        · rw [q]; exact Heap.lt_size hTO
        · rw [q]; obtain ⟨_, e1, _⟩ := h1.ob; exact Heap.lt_size e1
        · rw [q]; obtain ⟨_, e2, _⟩ := h2.ob; exact Heap.lt_size e2
        · rw [q]; obtain ⟨_, e2, _⟩ := h3.ob; exact Heap.lt_size e2
      rw [upd_ne (Nat.ne_of_lt hlt)]
      exact (hf d hdm).1
  done := by
    intro X hP hw hK hc i pins s σ H E I hf st hg
    subst hP hw hK
    obtain ⟨hz, hTI, ⟨x0, y0, u0, hTO⟩, h1, h2, h3⟩ := st
    obtain ⟨xs, ys, zs, hqx, hqy, hqz, g1, g2, g3, g4⟩ := hg
    obtain ⟨its, rv, p, _⟩ := inv_K I hqx
    obtain ⟨its2, rv2, p2, _⟩ := inv_K I hqy
    obtain ⟨its3, rv3, p3, _⟩ := inv_K I hqz
    have l1 := rv.length
    have l2 := rv2.length
    have l3 := rv3.length
    have hA : X.A.in1.handled = none := I.ok.hd hc
    have z1 : its.toArray.size = its.length := List.size_toArray
    have z2 : its2.toArray.size = its2.length := List.size_toArray
    have z3 : its3.toArray.size = its3.length := List.size_toArray
    exact wpAny_pyNext_zipD3_end S (drwK hA k1 i1 a n1 its.toArray) (drwK hA k2 i2 b n2 its2.toArray) (drwK hA k3 i3 c n3 its3.toArray) hz hTI hTO ⟨h1, p⟩ ⟨h2, p2⟩ ⟨h3, p3⟩ (by omega) (by omega) (by omega) (by omega) fun h' tk hk => ⟨rfl, I.turnedL (ch := [z, TI, TO, i1, i2, i3]) (fun d o hb q =>
      hk d o (fun q' => hb (by simp [q'])) (fun q' => hb (by simp [q'])) (fun q' => hb (by simp [q'])) (fun q' => hb (by simp [q'])) (fun q' => hb (by simp [q'])) q) hf⟩
  self := fun A i s Q E st h => wpAny_pyIter_zip st.1 h
theorem no2 {x y z : Nat} (h1 : x ≠ y) (h2 : x ≠ z) : x ∉ [y, z] := fun q => (List.mem_cons.mp q).elim h1 fun q => h2 (List.mem_singleton.mp q)
theorem sep3 (N a b c : Nat) (la : a < N) (lb : b < N) (lc : c < N) : ZipSep3 (N + 5) (N + 3) (N + 4) N (N + 1) (N + 2) [N, a] [N + 1, b] [N + 2, c] where
  TIz := fun (q : N + 3 = N + 5) => by omega
  TOz := fun (q : N + 4 = N + 5) => by omega
  TITO := fun (q : N + 3 = N + 4) => by omega
  TIi1 := fun (q : N + 3 = N) => by omega
  mem1 := List.mem_cons_self ..
  zf1 := no2 (by omega) (by omega)
  Tf1 := no2 (by omega) (by omega)
  TIi2 := fun (q : N + 3 = N + 1) => by omega
  mem2 := List.mem_cons_self ..
  zf2 := no2 (by omega) (by omega)
  Tf2 := no2 (by omega) (by omega)
  TIi3 := fun (q : N + 3 = N + 2) => by omega
  mem3 := List.mem_cons_self ..
  zf3 := no2 (by omega) (by omega)
  Tf3 := no2 (by omega) (by omega)
  sep1_2 := no2 (by omega) (by omega)
  sep1_3 := no2 (by omega) (by omega)
  sep2_1 := no2 (by omega) (by omega)
  sep2_3 := no2 (by omega) (by omega)
  sep3_1 := no2 (by omega) (by omega)
  sep3_2 := no2 (by omega) (by omega)
def iZip3 (K : PySem.W.Frag) (ta : TA) : TI := fun σ H R => ta σ H fun vs H1 => ∃ k1 k2 k3 a b c xs ys zs, vs = [.ref a, .ref b, .ref c] ∧ sqK k1 K H1 a xs ∧ sqK k2 K H1 b ys ∧ sqK k3 K H1 c zs ∧ R (Itz3 K k1 k2 k3 a b c) H1
theorem pi_zip3 {X : Cx} {e e2 e3 : Expr} {ta : TA} {p pos tpos : Pos} {elts : List Expr} {kk : Nat} (hg : Gl X "zip") (hm : X.mg "zip" = none) (ha : PA X [e, e2, e3] ta)
    (hs : starEach [e, e2, e3] X.env = (false, eval e X.env) :: starEach [e2, e3] X.env := by rfl) (hpl : (backTo pos (starEach [e2, e3] X.env)).any (·.1) = false := by rfl) :
    PI X (.Tuple elts kk tpos) (.Call (.Name "zip" p) [e, e2, e3] [] pos) (iZip3 X.K ta) := by
  refine ⟨fun pins s σ H R I h => ?_⟩
  refine Call_ (ld_blt I hg hm PyProof.Rows.boot_zip (PyProof.Rows.callWith_type1 (thn (ha.run pos pins s σ H _ I h) fun us s1 ⟨vs, H1, I1, r1, q1⟩ => ?_) hs hpl))
  obtain ⟨k1, k2, k3, a, b, c, xs, ys, zs, ex, hqx, hqy, hqz, q⟩ := q1
  subst ex
  cases r1 with
  | cons r rr =>
    cases rr with
    | cons r' rr =>
      cases rr with
      | cons r'' rr =>
        cases rr
        cases r
        cases r'
        cases r''
        obtain ⟨its, rv, p1, o1, ho1⟩ := inv_K I1 hqx
        obtain ⟨its2, rv2, p2, o2, ho2⟩ := inv_K I1 hqy
        obtain ⟨its3, rv3, p3, o3, ho3⟩ := inv_K I1 hqz
        have la : a < s1.heap.objs.size := Heap.lt_size ho1
        have lb : b < s1.heap.objs.size := Heap.lt_size ho2
        have lc : c < s1.heap.objs.size := Heap.lt_size ho3
        refine zip_begins3 (begK k1 a its.toArray) (begK k2 b its2.toArray) (begK k3 c its3.toArray) p1 p2 p3 fun h' hz hTI hTO h1 h2 h3 hsz hk => wpAny_pyIter_zip hz ?_
        have I2 : Inv X pins σ H1 { s1 with heap := h' } := I1.kept (t' := s1.toks) hk
        have sep : ZipSep3 (s1.heap.objs.size + 5) (s1.heap.objs.size + 3) (s1.heap.objs.size + 4) s1.heap.objs.size (s1.heap.objs.size + 1) (s1.heap.objs.size + 2) [s1.heap.objs.size, a] [s1.heap.objs.size + 1, b] [s1.heap.objs.size + 2, c] := sep3 _ a b c la lb lc
        refine ⟨s1.heap.objs.size + 5, [s1.heap.objs.size + 5, s1.heap.objs.size + 3, s1.heap.objs.size + 4, s1.heap.objs.size, s1.heap.objs.size + 1, s1.heap.objs.size + 2], _, _, H1, rfl, I2, turn_zip3 sep (Nat.ne_of_lt la) (Nat.ne_of_lt (Nat.lt_succ_of_lt lb)) (Nat.ne_of_lt (Nat.lt_succ_of_lt (Nat.lt_succ_of_lt lc))), ⟨hz, hTI, ⟨_, _, _, hTO⟩, .new h1, .new h2, .new h3⟩, fun d hd => ?_, q⟩
        have hle : s1.heap.objs.size ≤ d := by
          simp only [List.mem_cons, List.not_mem_nil, or_false] at hd
          rcases hd with z | z | z | z | z | z
          · rw [z]; exact Nat.le_add_right _ _
          · rw [z]; exact Nat.le_add_right _ _
          · rw [z]; exact Nat.le_add_right _ _
          · rw [z]; exact Nat.le_refl _
          · rw [z]; exact Nat.le_add_right _ _
          · rw [z]; exact Nat.le_add_right _ _
        exact I1.fpOk hle (I1.hok.fresh hle)
theorem walk_zip3 {K : PySem.W.Frag} {k1 k2 k3 : Bool} {a b c : Addr} {xs ys zs : List V} (h1 : xs.length = ys.length) (h2 : xs.length = zs.length) : Walk (Itz3 K k1 k2 k3 a b c) xs.length (fun H => sqK k1 K H a xs ∧ sqK k2 K H b ys ∧ sqK k3 K H c zs)
    (fun i H v H' => ∃ T x y z, v = .ref T ∧ H T = none ∧ H' = upd H T (.tup [x, y, z]) ∧ xs[i]? = some x ∧ ys[i]? = some y ∧ zs[i]? = some z) where
  goes := fun i H hi h => ⟨xs, ys, zs, xs[i], ys[i], zs[i], h.1, h.2.1, h.2.2, List.getElem?_eq_getElem hi, List.getElem?_eq_getElem (by omega), List.getElem?_eq_getElem (by omega)⟩
  stops := fun H h => ⟨xs, ys, zs, h.1, h.2.1, h.2.2, Nat.le_refl _, by omega, by omega, .inl rfl⟩
  yields := fun i H x H' hi h y => by
    obtain ⟨T, x, y, z, e1, e2, e3, e4, e5, e6⟩ := y
    exact ⟨T, x, y, z, e1, e2, e3, e4 xs h.1, e5 ys h.2.1, e6 zs h.2.2⟩
end LL

set_option Elab.async false
set_option linter.all false
set_option maxRecDepth 100000
set_option maxHeartbeats 3200000
/-! LLSet: set(a list of ints). -/
namespace LL
open PySem PySem.Spec PyProof.Rows L2
/-- a set as it is born -/
abbrev born (w : World) : Obj := { cls := .type "set", dict := none, data := .set #[] 0 (.fresh 0 0 (!w.params.followText "set-order")) }
abbrev walker (l : Addr) : Obj := { cls := .type "list_iterator", data := .fields #[.ref l, .int 0 0] }
section
variable {P : Program} {w : World} {A : Around} {E : Value → Shared → Prop} {s : Shared}
/-- what is left when the set is filled -/
def Filled (w : World) (s : Shared) (ns : List Int) (s2 : Shared) : Prop := ∃ (h' : Heap) (tk c : Nat), s2 = { s with heap := h', toks := tk } ∧ SetR w h' s.heap.objs.size (fun j => decide (j ∈ ns)) c ∧ c ≤ ns.length ∧ ∀ b o, s.heap.get? b = some o → h'.get? b = some o
theorem set_of_ints {l : Addr} {items : Array Value} (ns : List Int) {Q : Value → Shared → Prop} (hh : A.handled = none) (hl : s.heap.IsList l items) (hit : IntsAre items.toList ns) (hb : ns.length + 1 < scanBound)
    (h : ∀ s2, Filled w s ns s2 → Q (.ref s.heap.objs.size) s2) : wpAny (model P w) A (call (.type "set") [.ref l]) Q E s := by
  have many : items.size = ns.length := by have q := IntsAre.length hit; rwa [Array.length_toList] at q
  obtain ⟨⟨_, dc, _, sl⟩, at0, cl, nn, dt⟩ := hl
  cases cl
  cases dt
  have below : l < s.heap.objs.size := Heap.lt_size at0
  have me : (s.heap.push (born w)).get? s.heap.objs.size = some (born w) := Heap.get?_push_size _ rfl
  have at1 : (s.heap.push (born w)).get? l = some { cls := .type "list", dict := dc, data := .seq items nn, slots := sl } := Heap.get?_push_of_some _ at0
  have lst : (s.heap.push (born w)).IsList l items := ⟨_, at1, rfl, nn, rfl⟩
  -- the class is called
  obtain ⟨_, _, g1⟩ := F.called_set.mro
  have g2 := F.called_set.made
  have g3 := F.called_set.sub
  have g4 := F.called_set.notType
  have g5 := F.called_set.canCreate
  have g6 := F.typeCall_set_1 (.ref l)
  refine wpAny_call (codeAny_of_tree (show wpAny _ _ (callAny (.type "set") _) _ _ _ from wpAny_pure ⟨Code.quiet_builtin _ (by decide +kernel), codeAny_builtin F.entry_type_call ?_⟩))
  rw [Around.under_plain (weight_type_call_type "set" [.ref l] []) rfl]
  repeat (any_goals (first | assumption | wp_step))
  -- it is born
  refine codeAny_mono (code_set_led1 (.ref l) (E := E) (Q₁ := fun v s1 => v = .ref s.heap.objs.size ∧ s1 = { s with heap := s.heap.push (born w) }) ⟨rfl, rfl⟩) fun r s1 e1 => ?_
  rcases r with _ | fl
  · exact e1
  rcases fl with _ | _ | _ | v
  any_goals exact e1.elim
  all_goals
    obtain ⟨rfl, rfl⟩ := e1
    have ty : Shared.TypeIs { s with heap := s.heap.push (born w) } (.ref s.heap.objs.size) "set" := ⟨_, me, rfl⟩
    have k1 := F.called_set.init.lookup
    have k2 := F.called_set.init.bind (.ref s.heap.objs.size)
    repeat (any_goals (first | assumption | wp_step))
    -- it is filled
    refine codeAny_mono (codeAny_call_builtin (R := wants (fun v s2 => v = .none ∧ Filled w s ns s2) E) F.called_set.init.plain F.entry_set_init (check_set_init_1 ty ?_)) fun r s2 e2 => ?_
    · have u1 := F.sub_list_set
      have u2 := F.sub_list_frozenset
      have u3 : (Value.type "list" == Value.type "dict") = false := by decide
      unfold Builtin.«set.__init__» noKeywords Builtin.Frozenset.updateFrom
      generalize keep : pyIter = pi
      wp_walk
      subst keep
      refine wpAny_pyIter_list lst (wpAny_bind (wpAny_runValue ?_))
      have size1 : (s.heap.push (born w)).objs.size = s.heap.objs.size + 1 := Heap.size_push ..
      have out : s.heap.objs.size ∉ [(s.heap.push (born w)).objs.size, l] := fun q => by
        rw [size1] at q
        rcases List.mem_cons.mp q with q | q
        · exact absurd q (Nat.ne_of_lt (Nat.lt_succ_self _))
        · exact absurd (List.mem_singleton.mp q) (Nat.ne_of_gt below)
      have val : ∀ (i : Nat) (v : Value), items[i]? = some v → ∃ k t, ns[i]? = some k ∧ v = .int k t := fun i v hv => by
        have hi : i < ns.length := many ▸ (Array.getElem?_eq_some_iff.mp hv).1
        obtain ⟨t, e⟩ := IntsAre.int_at hit i v (by rw [Array.getElem?_toList]; exact hv)
        exact ⟨ns[i], t, List.getElem?_eq_getElem hi, by rw [e, List.getD_eq_getElem?_getD, List.getElem?_eq_getElem hi]; rfl⟩
      refine set_update_ints ((Walks.list (by simp [hh]) _ l (by rw [size1]; exact Nat.ne_of_lt (Nat.lt_succ_of_lt below)) items).toS) s.heap.objs.size out ns many hb val items.size 0 _ rfl (Nat.zero_le _)
        ⟨⟨_, Heap.get?_push_size _ rfl, rfl, rfl⟩, lst.push _⟩ ⟨0, Nat.le_refl 0, setR_new_at (Heap.get?_push_of_some (walker l) me)⟩ ?_
      rintro ⟨h2, g', d', tk, os'⟩ c mv hc R
      cases (show g' = s.gens from mv.gens)
      cases (show d' = s.drawn from mv.drawn)
      cases (show os' = s.os from mv.os)
      refine wpAny_pure (wpAny_pure ⟨rfl, h2, tk, c, rfl, R, many ▸ hc, fun b o e => ?_⟩)
      have lt := Heap.lt_size e
      refine mv.heap b o (fun q => ?_) (Heap.get?_push_of_some _ (Heap.get?_push_of_some _ e))
      rcases List.mem_cons.mp q with q | q
      · exact Nat.ne_of_lt lt q
      · have q := List.mem_singleton.mp q
        rw [size1] at q
        exact Nat.ne_of_lt (Nat.lt_succ_of_lt lt) q
    · rcases r with _ | fl
      · exact e2
      rcases fl with _ | _ | _ | v
      any_goals exact e2.elim
      all_goals
        obtain ⟨rfl, e2⟩ := e2
        have done := h _ e2
        obtain ⟨h2, tk, c, rfl, _⟩ := e2
        repeat (any_goals (first | assumption | wp_step))
end
section
variable {X : Cx}
/-- set(a list of ints) -/
def rSetL (K : PySem.W.Frag) (w : World) : List V → Hp → VK → Prop := fun vs H Q => ∃ (p : Addr) (ns : List Int), vs = [.ref p] ∧ SqL K H p (ns.map V.int) ∧ ns.length ≤ 1000 ∧ ∀ a c, (∀ D : List Int, (∀ x ∈ ns, x ∈ D) → c ≤ D.length) → H a = none → Q (.ref a) (upd H a (SetO w a (fun j => decide (j ∈ ns)) c))
theorem cr_setL (hc : X.calm = true) : CallR X (.type "set") (rSetL X.K X.w) := by
  intro pins s σ H xs us Q I r h
  obtain ⟨p, ns, rfl, hq, hl, q⟩ := h
  obtain ⟨u, rfl, rx⟩ := vals1 r
  cases rx
  obtain ⟨its, rv, pt, hz⟩ := I.list hq
  refine set_of_ints ns (I.ok.hd hc) pt.isList (by simpa using ints_of_vals rv) (by unfold scanBound; omega) fun s2 z => ?_
  obtain ⟨h2, tk, c, rfl, R, hc2, hk⟩ := z
  refine ⟨.ref _, _, I.laid (t' := tk) hk (Nat.le_refl _) (setO_new R), rfl, q _ c (fun D hD => ?_) (I.hok.fresh (Nat.le_refl _))⟩
  obtain ⟨o, es, ep, t, _, _, _, _, nd, mem, _, _, sz, _⟩ := R
  rw [← sz, ← Array.length_toList, ← List.length_map (f := keyOf)]
  exact nd.length_le_of_subset fun x hx => hD x (of_decide_eq_true ((mem x).mpr hx))
end
end LL

set_option Elab.async false
set_option linter.all false
set_option maxRecDepth 100000
set_option maxHeartbeats 2000000
/-! LLSeq: lists or tuples; small rules. -/
namespace LL
open PySem PySem.Spec PyProof.Rows L2
theorem un1 {n : Nat} (h : n + 64 < cLine) : n + 1 < cLine := by omega
section
variable {X : Cx} {tg l : Expr} {tl : TE}
/-- for x in s, s a list or a tuple -/
def iSeqA (K : PySem.W.Frag) (tl : TE) : TI := fun σ H R => iList K tl σ H R ∨ iTup K tl σ H R
theorem pi_seqA (hl : PE X l tl) : PI X tg l (iSeqA X.K tl) := ⟨fun pins s σ H R I h => h.elim ((pi_list hl).run pins s σ H R I) ((pi_tup hl).run pins s σ H R I)⟩
theorem ix_seqK {K : PySem.W.Frag} (h : X.K = K) : IxR X (rIx K) := h ▸ ix_seq
end
/-- s stands at a -/
def Sq (K : PySem.W.Frag) (H : Hp) (a : Addr) (xs : List V) : Prop := SqL K H a xs ∨ SqT K H a xs
theorem Sq.k {K : PySem.W.Frag} {H : Hp} {a : Addr} {xs : List V} (h : Sq K H a xs) : ∃ k, sqK k K H a xs := h.elim (fun h => ⟨true, h⟩) fun h => ⟨false, h⟩
theorem sqL_same {K : PySem.W.Frag} {H H' : Hp} {a : Addr} {xs : List V} (h : SqL K H a xs) (s : Same H H') : SqL K H' a xs := sq_ext h (.of s)
theorem sqT_same {K : PySem.W.Frag} {H H' : Hp} {a : Addr} {xs : List V} (h : SqT K H a xs) (s : Same H H') : SqT K H' a xs := by
  rcases h with (h | ⟨o, h⟩) | h
  · exact .inl (.inl (s _ _ h))
  · exact .inl (.inr ⟨o, s _ _ h⟩)
  · exact .inr h
theorem Sq.same {K : PySem.W.Frag} {H H' : Hp} {a : Addr} {xs : List V} (h : Sq K H a xs) (s : Same H H') : Sq K H' a xs := h.imp (sqL_same · s) (sqT_same · s)
end LL

set_option Elab.async false
set_option linter.all false
set_option maxRecDepth 100000
set_option maxHeartbeats 2000000
/-! LLMix: sorted of a tuple, rules by the name of the written part, errors by their field, lists or tuples that are tracked. -/
namespace LL
open PySem PySem.Spec PyProof.Rows L2
section
variable {prog : Program} {w : World} {A : Around} {E : Value → Shared → Prop} {s : Shared}
/-- what is drawn of a list or a tuple -/
theorem collect_q {l : Addr} {vs : List Value} {T : String} {o : Obj} {n : Nat} {Q : List Value → Shared → Prop} (hT : T = "list" ∨ T = "tuple") (ho : s.heap.get? l = some o) (hc : o.cls = .type T) (hd : o.data = .seq vs.toArray n) (hsz : vs.length ≤ sizeLine)
    (h : Q vs { s with heap := (s.heap.push (seqObj "list" #[] 0)).update s.heap.objs.size (Obj.mapSeq (· ++ vs.toArray)) }) : wpAny (model prog w) A (collect (.ref l)) Q E s := by
  have ho' : (s.heap.push (seqObj "list" #[] 0)).get? l = some o := Heap.get?_push_of_some _ ho
  have ht : (Builtin.List.listSameRef (.ref s.heap.objs.size) (.ref l) || Value.type T == Value.type "list" || Value.type T == Value.type "tuple") = true := by
    rcases hT with rfl | rfl <;> simp
  unfold collect; refine wpAny_bind (wpAny_runValue (codeAny_builtin entry_proto_collect' ?_))
  show wpAny _ _ (do again (.builtin "list.__iadd__" ⟨[← newList [], .ref l], []⟩)) _ _ s; refine wpAny_bind (wpAny_newList (wpAny_pure ⟨Code.quiet_builtin _ (by decide +kernel), codeAny_builtin entry_list_iadd' ?_⟩))
  show wpAny _ _ (Builtin.List.listExtendWith (.ref s.heap.objs.size) (.ref l) (.ref s.heap.objs.size)) _ _ { s with heap := s.heap.push (seqObj "list" #[] 0) }; unfold Builtin.List.listExtendWith
  refine wpAny_bind (wpAny_typeOf (T := T) ⟨o, ho', hc⟩ ?_); rw [if_pos ht]
  refine wpAny_bind (listItems_at ho' hd (wpAny_bind (listItems_at (xs := #[]) (n := 0) (Heap.get?_push_size _ rfl) rfl ?_))); rw [if_neg (by simp)]
  refine wpAny_bind (listUpdate_at (xs := #[]) (n := 0) (Heap.get?_push_size _ rfl) rfl (wpAny_pure ?_) (Nat.zero_le _) (by show (#[] ++ vs.toArray).size ≤ sizeLine + 1; simp only [Array.size_append, List.size_toArray, List.length_nil]; omega))
  refine wpAny_bind (m := load s.heap.objs.size) (wpAny_load (get?_update_seq (Heap.get?_push_size _ rfl) _) ?_)
  show wpAny _ _ (pure ((#[] : Array Value) ++ vs.toArray).toList) Q E _; rw [show ((#[] : Array Value) ++ vs.toArray).toList = vs by simp]; exact wpAny_pure h
theorem sorted_q {l : Addr} {vs : List Value} {ns : List Int} {T : String} {o : Obj} {n : Nat} {Q : Value → Shared → Prop} (hT : T = "list" ∨ T = "tuple") (ho : s.heap.get? l = some o) (hc : o.cls = .type T) (hd : o.data = .seq vs.toArray n) (hI : IntsAre vs ns) (h64 : vs.length < 64)
    (h : ∀ (out : Array Value) (ns' : List Int), IntsAre out.toList ns' → ns'.Perm ns → ns'.Pairwise (· ≤ ·) → Q (.ref (s.heap.objs.size + 1)) { s with heap := sortedAll s.heap vs out }) : wpAny (model prog w) A (call (.builtin "sorted") [.ref l]) Q E s := by
  have hsz : ((s.heap.push (seqObj "list" #[] 0)).update s.heap.objs.size (Obj.mapSeq (· ++ vs.toArray))).objs.size = s.heap.objs.size + 1 := (by rw [Heap.size_update, size_push'])
  have hoL : (((s.heap.push (seqObj "list" #[] 0)).update s.heap.objs.size (Obj.mapSeq (· ++ vs.toArray))).push (seqObj "list" vs.toArray 0)).get? (s.heap.objs.size + 1) = some (seqObj "list" vs.toArray 0) := (by rw [← hsz]; exact Heap.get?_push_size _ rfl)
  refine Calls.call_function_entry kind_sorted plain_sorted entry_sorted (args_sorted1 _) ?_; unfold Builtin.«sorted»
  refine wpAny_bind (m := checkCount "sorted" 1 1 _) (wpAny_pure (wpAny_bind (collect_q hT ho hc hd (by rw [sizeLine_eq]; omega) (wpAny_bind (wpAny_newList ?_)))))
  show wpAny _ _ _ _ _ { s with heap := ((s.heap.push (seqObj "list" #[] 0)).update s.heap.objs.size (Obj.mapSeq (· ++ vs.toArray))).push (seqObj "list" vs.toArray 0) }; rw [hsz]
  exact wpAny_bind (wpAny_holding (wpAny_call_entry slot_list_sort ⟨_, hoL, rfl⟩ entry_list_sort (list_sort_tree hoL hI h64 fun out ns' a1 a2 a3 => ⟨_, rfl, wpAny_pure ⟨_, rfl, h out ns' a1 a2 a3⟩⟩) (args_list_sort _)))
end
/-- a list or a tuple that is tracked -/
def Lt (H : Hp) (a : Addr) (vs : List V) : Prop := H a = some (.lst vs) ∨ H a = some (.tup vs)
theorem Lt.sq {K : PySem.W.Frag} {H : Hp} {a : Addr} {vs : List V} (h : Lt H a vs) : SqL K H a vs ∨ SqT K H a vs := h.imp SqL.of SqT.of
theorem Lt.same {H H' : Hp} {a : Addr} {vs : List V} (h : Lt H a vs) (s : Same H H') : Lt H' a vs := h.imp (s _ _) (s _ _)
theorem Lt.uniq {H : Hp} {a : Addr} {vs us : List V} (h : Lt H a vs) (g : Lt H a us) : vs = us := by
  rcases h with h | h <;> rcases g with g | g <;> rw [h] at g <;> cases g <;> rfl
theorem Lt.k {K : PySem.W.Frag} {H : Hp} {a : Addr} {vs : List V} (h : Lt H a vs) : ∃ k, sqK k K H a vs := h.elim (fun h => ⟨true, SqL.of h⟩) fun h => ⟨false, SqT.of h⟩
theorem sqK_same {k : Bool} {K : PySem.W.Frag} {H H' : Hp} {a : Addr} {xs : List V} (h : sqK k K H a xs) (s : Same H H') : sqK k K H' a xs := by
  cases k with
  | true => exact sqL_same h s
  | false => exact sqT_same h s
section
variable {X : Cx}
def rSortQ : List V → Hp → VK → Prop := fun vs H Q => ∃ (a : Addr) (ns : List Int), vs = [V.ref a] ∧ Lt H a (ns.map V.int) ∧ ns.length < 64 ∧ ∀ (ns' : List Int) (p : Addr), ns'.Perm ns → ns'.Pairwise (· ≤ ·) → H p = none → Q (.ref p) (upd H p (.lst (ns'.map V.int)))
theorem cr_sortedQ : CallR X (.builtin "sorted") rSortQ := by
  intro pins s σ H vs us Q I r h
  obtain ⟨a, ns, rfl, hs, h64, q⟩ := h
  rcases hs with hs | hs
  · exact cr_sorted pins s σ H _ us Q I r ⟨a, ns, rfl, SqL.of hs, h64, q⟩
  · obtain ⟨its, rv, hl, _⟩ := I.tuple (SqT.of (K := X.K) hs)
    obtain ⟨o, h1, h2, n, h3⟩ := hl
    rw [Vals.ref1 r]
    have hi := rv.ints
    refine sorted_q (.inr rfl) h1 h2 h3 hi (by rw [hi.length]; exact h64) fun out ns' a1 a2 a3 => ?_
    obtain ⟨ep, he'⟩ := PyProof.Rows.sortedAll_at s.heap its out
    exact ⟨.ref _, upd H (s.heap.objs.size + 1) (.lst (ns'.map V.int)), I.laid (t' := s.toks) (fun _ _ => PyProof.Rows.sortedAll_old) (Nat.le_succ _) ⟨by rw [List.length_map, a2.length_eq]; exact small64 h64, out.toList, ep, vals_of_ints a1, he'⟩, rfl, q ns' _ a2 a3 (I.hok.fresh (Nat.le_succ _))⟩
theorem op_in_seqK {K : PySem.W.Frag} (h : X.K = K) : OpR X (compareOp .In) (rIn K false) := h ▸ op_in_seq
theorem op_notIn_seqK {K : PySem.W.Frag} (h : X.K = K) : OpR X (compareOp .NotIn) (rIn K true) := h ▸ op_notIn_seq
end
/-- an error with the field f -/
def ErF (C : Addr) (f : Str) (H : Hp) (v : V) (E : XK) : Prop := ∀ H' d, Same H H' → H d = none → H' d = some (.xd [(f, v)]) → E (.ref C) (some d) H'
theorem ErF.now {C : Addr} {f : Str} {H : Hp} {v : V} {E : XK} (h : ErF C f H v E) : ∀ d, H d = none → E (.ref C) (some d) (upd H d (.xd [(f, v)])) := fun d hd => h _ d (same_upd hd) hd upd_same
theorem ErF.same {C : Addr} {f : Str} {H H1 : Hp} {v : V} {E : XK} (h : ErF C f H v E) (s : Same H H1) : ErF C f H1 v E := fun H' d s2 hd e => h H' d (s.trans s2) (s.free hd) e
/-- texts in a list of texts -/
theorem inV_str (c : Str) (l : List Str) : inV (.str c) (l.map V.str) = decide (c ∈ l) := by
  induction l with
  | nil => rfl
  | cons d l ih =>
    unfold inV at ih ⊢
    rw [List.map_cons, List.any_cons, ih]
    have e : eqV (.str d) (.str c) = decide (d = c) := by
      show (d == c) = _
      rw [Bool.eq_iff_iff, beq_iff_eq, decide_eq_true_iff]
    rw [e]
    by_cases h : d = c
    · simp [h]
    · have h' : c ≠ d := fun z => h z.symm
      simp [h, h']
theorem inV_int (c : Int) (l : List Int) : inV (.int c) (l.map V.int) = decide (c ∈ l) := by
  induction l with
  | nil => rfl
  | cons d l ih =>
    unfold inV at ih ⊢
    rw [List.map_cons, List.any_cons, ih]
    have e : eqV (.int d) (.int c) = decide (d = c) := by
      show (d == c) = _
      rw [Bool.eq_iff_iff, beq_iff_eq, decide_eq_true_iff]
    rw [e]
    by_cases h : d = c
    · simp [h]
    · have h' : c ≠ d := fun z => h z.symm
      simp [h, h']
theorem flatS (l : List Str) : (l.map V.str).all flatV = true := by
  rw [List.all_map]
  exact List.all_eq_true.mpr fun _ _ => rfl
theorem flatI (l : List Int) : (l.map V.int).all flatV = true := by
  rw [List.all_map]
  exact List.all_eq_true.mpr fun _ _ => rfl
/-- a list or a tuple at an index -/
theorem ix_lt {K : PySem.W.Frag} {H : Hp} {a : Addr} {vs : List V} {i : Int} {v : V} {Q : VK} (h : Lt H a vs) (e : atI vs i = some v) (q : Q v H) : rIx K (.ref a) (.int i) H Q :=
  h.elim (fun h => .inl ⟨a, vs, i, v, rfl, rfl, SqL.of h, e, q⟩) fun h => .inr (.inl ⟨a, vs, i, v, rfl, rfl, SqT.of h, e, q⟩)
/-! ### comprehensions by what they have made so far -/
section
variable {J : It} {n : Nat} {G : Hp → Prop} {Y : Nat → Hp → V → Hp → Prop} {g : TG} {tt : TT} {te : TE} {vs : List Nat} {σ : L2.St} {H1 : Hp} {D : Addr} {Qd : Hp → Prop}
theorem lc_inv (w : Walk J n G Y) (I : Nat → List V → Hp → Prop) (bl : ∀ i acc H xs, I i acc H → I i acc (upd H D (.lst xs))) (h0 : I 0 [] H1) (hl : ∀ i acc H, i < n → I i acc H → acc.length < sizeLine) (hG : ∀ i acc H, i ≤ n → I i acc H → G H)
    (hs : ∀ i x acc H H', i < n → I i acc H → H D = some (.lst acc) → Y i H x H' → ∀ (N : V → Hp → Prop) (S : Hp → Prop), (∀ v H4, H4 D = some (.lst acc) → I (i + 1) (acc ++ [v]) H4 → N v H4) → (∀ H4, H4 D = some (.lst acc) → I (i + 1) acc H4 → S H4) →
      g x (wipe σ vs) H' fun σ2 H2 => wipe σ2 vs = wipe σ vs ∧ tt σ2 H2 fun b H3 => if b = true then te σ2 H3 N else S H3) (hd : ∀ acc H, H D = some (.lst acc) → I n acc H → Qd H) :
    ∃ W : Nat → Nat → Hp → Prop, (∃ m, W 0 m (upd H1 D (.lst []))) ∧ ∀ i m H, W i m H →
      (J.stop i H ∧ Qd H) ∨ (J.go i H ∧ ∃ Nx : Hp → Prop, (∀ H', Nx H' → ∃ m', m' < m ∧ W (i + 1) m' H') ∧ ∀ x H', J.yld i H x H' → g x (wipe σ vs) H' fun σ2 H2 => wipe σ2 vs = wipe σ vs ∧ tt σ2 H2 fun b H3 =>
        if b = true then te σ2 H3 fun y H4 => ∃ acc, H4 D = some (.lst acc) ∧ acc.length < sizeLine ∧ Nx (upd H4 D (.lst (acc ++ [y]))) else Nx H3) := by
  refine lc_it w (fun i H => ∃ acc, H D = some (.lst acc) ∧ I i acc H) ⟨[], upd_same, bl _ _ _ _ h0⟩ (fun i H hi ⟨acc, _, h⟩ => hG i acc H hi h) ?_ (fun H ⟨acc, e, h⟩ => hd acc H e h)
  rintro i x H H' hi ⟨acc, e, h⟩ y
  exact hs i x acc H H' hi h e y _ _ (fun v H4 e4 h4 => ⟨acc, e4, hl i acc H hi h, _, upd_same, bl _ _ _ _ h4⟩) fun H4 e4 h4 => ⟨acc, e4, h4⟩
/-- all stays beside the new list -/
theorem lc_acc (w : Walk J n G Y) (nD : H1 D = none) (out : Nat → List V) (o0 : out 0 = []) (ol : ∀ i, i < n → (out i).length ≤ 99999) (hG : ∀ H, Same H1 H → G H)
    (hs : ∀ i x H H', i < n → Same H1 H → Y i H x H' → ∀ (N : V → Hp → Prop) (S : Hp → Prop), (∀ v H4, Same H H4 → out (i + 1) = out i ++ [v] → N v H4) → (∀ H4, Same H H4 → out (i + 1) = out i → S H4) →
      g x (wipe σ vs) H' fun σ2 H2 => wipe σ2 vs = wipe σ vs ∧ tt σ2 H2 fun b H3 => if b = true then te σ2 H3 N else S H3) (hd : ∀ H, Same H1 H → H D = some (.lst (out n)) → Qd H) :
    ∃ W : Nat → Nat → Hp → Prop, (∃ m, W 0 m (upd H1 D (.lst []))) ∧ ∀ i m H, W i m H →
      (J.stop i H ∧ Qd H) ∨ (J.go i H ∧ ∃ Nx : Hp → Prop, (∀ H', Nx H' → ∃ m', m' < m ∧ W (i + 1) m' H') ∧ ∀ x H', J.yld i H x H' → g x (wipe σ vs) H' fun σ2 H2 => wipe σ2 vs = wipe σ vs ∧ tt σ2 H2 fun b H3 =>
        if b = true then te σ2 H3 fun y H4 => ∃ acc, H4 D = some (.lst acc) ∧ acc.length < sizeLine ∧ Nx (upd H4 D (.lst (acc ++ [y]))) else Nx H3) := by
  refine lc_inv w (fun i acc H => Same H1 H ∧ acc = out i) (fun i acc H xs h => ⟨fun b o e => ?_, h.2⟩) ⟨fun _ _ e => e, o0.symm⟩ (fun i acc H hi h => ?_) (fun i acc H _ h => hG H h.1) ?_ (fun acc H e h => hd H h.1 (h.2 ▸ e))
  · rw [upd_ne (ne_of_none e nD)]
    exact h.1 b o e
  · rw [h.2]
    exact Nat.lt_of_lt_of_le (Nat.lt_succ_of_le (ol i hi)) (small (by decide))
  · rintro i x acc H H' hi ⟨s, rfl⟩ e y N S hN hS
    exact hs i x H H' hi s y N S (fun v H4 s4 eo => hN v H4 (s4 _ _ e) ⟨s.trans s4, eo.symm⟩) fun H4 s4 eo => hS H4 (s4 _ _ e) ⟨s.trans s4, eo.symm⟩
end
theorem take_map {α : Type} {β : Type} {xs : List α} {i : Nat} {x : α} (f : α → β) (h : xs[i]? = some x) : (xs.take (i + 1)).map f = (xs.take i).map f ++ [f x] := by
  rw [List.take_add_one, h, Option.toList_some, List.map_append]
  rfl
theorem take_fil {α : Type} {xs : List α} {i : Nat} {x : α} (p : α → Bool) (h : xs[i]? = some x) : (xs.take (i + 1)).filter p = (xs.take i).filter p ++ (if p x then [x] else []) := by
  rw [List.take_add_one, h, Option.toList_some, List.filter_append]
  cases e : p x <;> simp [e]
theorem rep_succ (n : Nat) : (List.replicate (n + 1) true).map V.bl = (List.replicate n true).map V.bl ++ [V.bl true] := by
  rw [List.replicate_succ', List.map_append]
  rfl
theorem rep_all (n : Nat) : (List.replicate n true).all id = true := by simp
theorem Same.rfl' {H : Hp} : Same H H := fun _ _ e => e
/-- a new object beside what was there -/
theorem mkO {H : Hp} {a : Addr} (n : H a = none) (o : HO) : ∃ G : Hp, upd H a o = G ∧ Same H G ∧ G a = some o := ⟨_, rfl, same_upd n, upd_same⟩
/-- an own object is changed beside what was there -/
theorem own_same {H0 H : Hp} {D : Addr} {o : HO} (s : Same H0 H) (n : H0 D = none) : Same H0 (upd H D o) := fun b x e => by
  rw [upd_ne (ne_of_none e n)]
  exact s b x e
/-- t + u, in whatever way -/
theorem cat_of {K : PySem.W.Frag} {H : Hp} {a b : Addr} {xs ys : List V} {Q : VK} (ha : H a = some (.tup xs)) (hb : H b = some (.tup ys)) (hz : xs.length + ys.length ≤ 100000) (q : ∀ p H', Same H H' → H' p = some (.tup (xs ++ ys)) → Q (.ref p) H') : rCatA K (.ref a) (.ref b) H Q := by
  refine ⟨a, b, xs, ys, rfl, rfl, SqT.of ha, SqT.of hb, small hz, fun e => ?_, fun _ e => ?_, fun _ _ p hp => q p _ (same_upd hp) upd_same⟩
  · subst e
    exact q b H Same.rfl' hb
  · subst e
    exact q a H Same.rfl' (by rw [List.append_nil]; exact ha)
theorem fil_pos {α : Type} {l : List α} {x : α} {p : α → Bool} (h : p x = true) : (l ++ [x]).filter p = l.filter p ++ [x] := by rw [List.filter_append, List.filter_cons_of_pos h, List.filter_nil]
theorem fil_neg {α : Type} {l : List α} {x : α} {p : α → Bool} (h : p x = false) : (l ++ [x]).filter p = l.filter p := by rw [List.filter_append, List.filter_cons_of_neg (by rw [h]; exact Bool.false_ne_true), List.filter_nil, List.append_nil]
theorem own_but {H0 H : Hp} {p D : Addr} {o : HO} (b : But p H0 H) (n : H0 D = none) : But p H0 (upd H D o) := fun c x e ne => by
  rw [upd_ne (ne_of_none e n)]
  exact b c x e ne
theorem but_same {p : Addr} {H H1 H2 : Hp} (b : But p H H1) (s : Same H1 H2) : But p H H2 := fun c x e ne => s _ _ (b c x e ne)
/-! ### texts of one sign, joined -/
abbrev tls (x : Str) : List Nat := TL.tl x
def mkS (l : List Nat) : Str := ⟨l.toArray⟩
theorem tls_mk (l : List Nat) : tls (mkS l) = l := rfl
theorem len_mk (l : List Nat) : (mkS l).length = l.length := TL.len_tl (mkS l)
theorem mk_app (a b : List Nat) : mkS a ++ mkS b = mkS (a ++ b) := TL.ext_tl (by show tls _ = tls _; rw [show tls (mkS a ++ mkS b) = tls (mkS a) ++ tls (mkS b) from TL.tl_append _ _, tls_mk, tls_mk, tls_mk])
abbrev sgV (r : List Nat) : List V := r.map fun c => V.str ⟨#[c]⟩
theorem join_sg (r : List Nat) : Txt.join "" (r.map fun c => (⟨#[c]⟩ : Str)) = mkS r := by
  rw [TL.join_eq]
  induction r with
  | nil => rfl
  | cons x r ih =>
    cases r with
    | nil => rfl
    | cons y r =>
      show mkS [x] ++ mkS [] ++ Str.join "" ((y :: r).map fun c => (⟨#[c]⟩ : Str)) = _
      rw [ih, mk_app, mk_app]
      rfl
abbrev sgs (r : List Nat) : List Str := r.map fun c => (⟨#[c]⟩ : Str)
theorem sq_sg {K : PySem.W.Frag} {H : Hp} {D : Addr} {r : List Nat} (h : H D = some (.lst (sgV r))) : SqL K H D ((sgs r).map V.str) := SqL.of (by rw [h, List.map_map]; rfl)
theorem sz_sg {r : List Nat} (l : r.length ≤ 100000) : ((sgs r).map (·.length)).sum + (sgs r).length * (("" : Str)).length ≤ 16777216 := by
  have e : ∀ r : List Nat, ((sgs r).map (·.length)).sum = r.length := fun r => by
    induction r with
    | nil => rfl
    | cons c r ih =>
      show 1 + ((sgs r).map (·.length)).sum = _
      rw [ih, List.length_cons]
      omega
  rw [e, show (("" : Str)).length = 0 from rfl]
  omega
end LL

set_option linter.all false
/-! M74: histories of footprints in plain Lean: last writers, due runs, names, what stands ahead. -/
namespace ORD
open PySem
structure Fp where
  lane : Nat
  rd : List Str
  wr : List Str
abbrev Hs := List Fp
def fp (h : Hs) (i : Nat) : Fp := h.getD i ⟨0, [], []⟩
abbrev rds (h : Hs) (i : Nat) : List Str := (fp h i).rd
abbrev wrs (h : Hs) (i : Nat) : List Str := (fp h i).wr
/-- the last run below e that writes c -/
def lw (h : Hs) : Nat → Str → Option Nat
  | 0, _ => none
  | e + 1, c => if c ∈ wrs h e then some e else lw h e c
theorem lw_some {h : Hs} {c : Str} {k : Nat} : ∀ {e : Nat}, lw h e c = some k ↔ k < e ∧ c ∈ wrs h k ∧ ∀ j, k < j → j < e → c ∉ wrs h j
  | 0 => ⟨fun z => (by cases z), fun z => (by omega)⟩
  | e + 1 => by
    unfold lw
    by_cases q : c ∈ wrs h e
    · rw [if_pos q]
      constructor
      · intro z
        cases z
        exact ⟨Nat.lt_succ_self _, q, fun j h1 h2 => by omega⟩
      · rintro ⟨h1, h2, h3⟩
        by_cases z : k = e
        · rw [z]
        · exact absurd q (h3 e (by omega) (by omega))
    · rw [if_neg q, lw_some]
      constructor
      · rintro ⟨h1, h2, h3⟩
        refine ⟨by omega, h2, fun j a b => ?_⟩
        by_cases z : j = e
        · rw [z]
          exact q
        · exact h3 j a (by omega)
      · rintro ⟨h1, h2, h3⟩
        have : k ≠ e := fun z => q (z ▸ h2)
        exact ⟨by omega, h2, fun j a b => h3 j a (by omega)⟩
theorem lw_none {h : Hs} {c : Str} : ∀ {e : Nat}, lw h e c = none ↔ ∀ j, j < e → c ∉ wrs h j
  | 0 => ⟨fun _ j z => (by omega), fun _ => rfl⟩
  | e + 1 => by
    unfold lw
    by_cases q : c ∈ wrs h e
    · rw [if_pos q]
      exact ⟨fun z => (by cases z), fun z => absurd q (z e (Nat.lt_succ_self _))⟩
    · rw [if_neg q, lw_none]
      constructor
      · intro z j hj
        by_cases w : j = e
        · rw [w]
          exact q
        · exact z j (by omega)
      · exact fun z j hj => z j (by omega)
theorem lw_lt {h : Hs} {c : Str} {e k : Nat} (z : lw h e c = some k) : k < e := (lw_some.mp z).1
/-- the run before, in the same lane -/
def pvA (h : Hs) (L : Nat) : Nat → Option Nat
  | 0 => none
  | e + 1 => if (fp h e).lane = L then some e else pvA h L e
def pv (h : Hs) (r : Nat) : Option Nat := pvA h (fp h r).lane r
theorem pvA_lt {h : Hs} {L k : Nat} : ∀ {e : Nat}, pvA h L e = some k → k < e
  | 0, z => by cases z
  | e + 1, z => by
    unfold pvA at z
    split at z
    · cases z
      exact Nat.lt_succ_self _
    · exact Nat.lt_succ_of_lt (pvA_lt z)
theorem pv_lt {h : Hs} {r k : Nat} (z : pv h r = some k) : k < r := pvA_lt z
/-- due, as the program looks for it -/
def Due (h : Hs) (r o : Nat) : Prop := (∃ c, c ∈ rds h r ++ wrs h r ∧ lw h r c = some o) ∨ ∃ c, c ∈ wrs h r ∧ (∀ k, lw h r c = some k → k < o) ∧ o < r ∧ c ∈ rds h o
theorem Due.lt {h : Hs} {r o : Nat} (d : Due h r o) : o < r := by
  rcases d with ⟨c, _, z⟩ | ⟨c, _, _, z, _⟩
  · exact lw_lt z
  · exact z
/-- due, as the law looks for it -/
def LDue (h : Hs) (r o : Nat) : Prop := ∃ c, c ∈ rds h o ++ wrs h o ∧ ((c ∈ rds h r ∧ lw h r c = some o) ∨ (c ∈ wrs h r ∧ ∀ k, o < k → k < r → c ∉ wrs h k))
theorem due_iff {h : Hs} {r o : Nat} (ho : o < r) : Due h r o ↔ LDue h r o := by
  constructor
  · rintro (⟨c, hc, z⟩ | ⟨c, hc, z, _, ho⟩)
    · obtain ⟨z1, z2, z3⟩ := lw_some.mp z
      refine ⟨c, List.mem_append.mpr (.inr z2), ?_⟩
      rcases List.mem_append.mp hc with q | q
      · exact .inl ⟨q, z⟩
      · exact .inr ⟨q, z3⟩
    · refine ⟨c, List.mem_append.mpr (.inl ho), .inr ⟨hc, fun k h1 h2 w => ?_⟩⟩
      cases e : lw h r c with
      | none => exact lw_none.mp e k h2 w
      | some m =>
        have m1 := z m e
        exact (lw_some.mp e).2.2 k (by omega) h2 w
  · rintro ⟨c, hc, (⟨h1, h2⟩ | ⟨h1, h2⟩)⟩
    · exact .inl ⟨c, List.mem_append.mpr (.inl h1), h2⟩
    · by_cases q : c ∈ wrs h o
      · exact .inl ⟨c, List.mem_append.mpr (.inr h1), lw_some.mpr ⟨ho, q, h2⟩⟩
      · rcases List.mem_append.mp hc with z | z
        · refine .inr ⟨c, h1, fun k hk => ?_, ho, z⟩
          obtain ⟨k1, k2, k3⟩ := lw_some.mp hk
          rcases Nat.lt_trichotomy k o with a | a | a
          · exact a
          · exact absurd (a ▸ k2) q
          · exact absurd k2 (h2 k a k1)
        · exact absurd z q
/-- is it so? -/
noncomputable def cd (p : Prop) : Bool := @decide p (Classical.propDecidable p)
theorem cd_iff {p : Prop} : cd p = true ↔ p := @decide_eq_true_iff p (Classical.propDecidable p)
/-- names and what stands ahead, of run r, from those of the runs before -/
noncomputable def ent (h : Hs) (r : Nat) (E : List (List Nat × List Nat)) : List Nat × List Nat :=
  let A := fun i => (E.getD i ([], [])).2
  let names := (List.range r).filter fun o => cd (Due h r o ∧ ¬ ((∃ p, pv h r = some p ∧ (o = p ∨ o ∈ A p)) ∨ ∃ d, Due h r d ∧ o ∈ A d))
  (names, (List.range r).filter fun o => cd ((∃ p, pv h r = some p ∧ (o = p ∨ o ∈ A p)) ∨ ∃ n, n ∈ names ∧ (o = n ∨ o ∈ A n)))
noncomputable def ents (h : Hs) : Nat → List (List Nat × List Nat)
  | 0 => []
  | r + 1 => ents h r ++ [ent h r (ents h r)]
theorem ents_len (h : Hs) : ∀ n, (ents h n).length = n
  | 0 => rfl
  | n + 1 => by rw [ents, List.length_append, ents_len h n]; rfl
noncomputable def en (h : Hs) (r : Nat) : List Nat × List Nat := ent h r (ents h r)
theorem ents_get (h : Hs) {r : Nat} : ∀ {n : Nat}, r < n → (ents h n)[r]? = some (en h r)
  | 0, z => by omega
  | n + 1, z => by
    rw [ents]
    by_cases q : r < n
    · rw [List.getElem?_append_left (by rw [ents_len]; exact q)]
      exact ents_get h q
    · have e : r = n := by omega
      subst e
      rw [List.getElem?_append_right (by have := ents_len h r; omega), ents_len, Nat.sub_self]
      rfl
theorem ents_getD (h : Hs) {r n : Nat} (z : r < n) : (ents h n).getD r ([], []) = en h r := by
  rw [List.getD_eq_getElem?_getD, ents_get h z]
  rfl
theorem ents_map (h : Hs) : ∀ n, ents h n = (List.range n).map (en h)
  | 0 => rfl
  | n + 1 => by rw [ents, ents_map h n, List.range_succ, List.map_append]; exact congrArg _ (congrArg (fun x => [ent h n x]) (ents_map h n).symm)
noncomputable def nm (h : Hs) (r : Nat) : List Nat := (en h r).1
noncomputable def ah (h : Hs) (r : Nat) : List Nat := (en h r).2
/-- reached by the lane -/
def ByPv (h : Hs) (r o : Nat) : Prop := ∃ p, pv h r = some p ∧ (o = p ∨ o ∈ ah h p)
def Cov (h : Hs) (r o : Nat) : Prop := ByPv h r o ∨ ∃ d, Due h r d ∧ o ∈ ah h d
theorem pv_iff {h : Hs} {r o : Nat} : (∃ p, pv h r = some p ∧ (o = p ∨ o ∈ ((ents h r).getD p ([], [])).2)) ↔ ByPv h r o := by
  constructor
  · rintro ⟨p, hp, z⟩
    rw [ents_getD h (pv_lt hp)] at z
    exact ⟨p, hp, z⟩
  · rintro ⟨p, hp, z⟩
    refine ⟨p, hp, ?_⟩
    rw [ents_getD h (pv_lt hp)]
    exact z
theorem mem_nm {h : Hs} {r o : Nat} : o ∈ nm h r ↔ Due h r o ∧ ¬ Cov h r o := by
  unfold nm en ent
  dsimp only
  rw [List.mem_filter, List.mem_range, cd_iff, pv_iff]
  have e : (∃ d, Due h r d ∧ o ∈ ((ents h r).getD d ([], [])).2) ↔ ∃ d, Due h r d ∧ o ∈ ah h d := by
    constructor
    · rintro ⟨d, hd, z⟩
      rw [ents_getD h hd.lt] at z
      exact ⟨d, hd, z⟩
    · rintro ⟨d, hd, z⟩
      refine ⟨d, hd, ?_⟩
      rw [ents_getD h hd.lt]
      exact z
  rw [e]
  exact ⟨fun z => z.2, fun z => ⟨z.1.lt, z⟩⟩
theorem nm_lt {h : Hs} {r o : Nat} (z : o ∈ nm h r) : o < r := (mem_nm.mp z).1.lt
theorem nm_eq (h : Hs) (r : Nat) : ∃ P : Nat → Bool, nm h r = (List.range r).filter P := ⟨_, rfl⟩
theorem nm_sorted (h : Hs) (r : Nat) : (nm h r).Pairwise (· < ·) := by
  obtain ⟨P, e⟩ := nm_eq h r
  rw [e]
  exact List.Pairwise.filter _ List.pairwise_lt_range
theorem mem_ah {h : Hs} {r o : Nat} : o ∈ ah h r ↔ ByPv h r o ∨ ∃ n, n ∈ nm h r ∧ (o = n ∨ o ∈ ah h n) := by
  have key : o ∈ ah h r ↔ o < r ∧ (ByPv h r o ∨ ∃ n, n ∈ nm h r ∧ (o = n ∨ o ∈ ((ents h r).getD n ([], [])).2)) := by
    unfold ah en ent
    dsimp only
    rw [List.mem_filter, List.mem_range, cd_iff, pv_iff]
    rfl
  have e : (∃ n, n ∈ nm h r ∧ (o = n ∨ o ∈ ((ents h r).getD n ([], [])).2)) ↔ ∃ n, n ∈ nm h r ∧ (o = n ∨ o ∈ ah h n) := by
    constructor
    · rintro ⟨d, hd, z⟩
      rw [ents_getD h (nm_lt hd)] at z
      exact ⟨d, hd, z⟩
    · rintro ⟨d, hd, z⟩
      refine ⟨d, hd, ?_⟩
      rw [ents_getD h (nm_lt hd)]
      exact z
  rw [e] at key
  refine ⟨fun z => (key.mp z).2, fun z => key.mpr ⟨?_, z⟩⟩
  have lt : ∀ k, o ∈ ah h k → o < k := fun k hk => by
    unfold ah en ent at hk
    dsimp only at hk
    exact List.mem_range.mp (List.mem_filter.mp hk).1
  rcases z with ⟨p, hp, rfl | hz⟩ | ⟨n, hn, rfl | hz⟩
  · exact pv_lt hp
  · exact Nat.lt_trans (lt _ hz) (pv_lt hp)
  · exact nm_lt hn
  · exact Nat.lt_trans (lt _ hz) (nm_lt hn)
theorem ah_lt {h : Hs} {r o : Nat} (z : o ∈ ah h r) : o < r := by
  unfold ah en ent at z
  dsimp only at z
  exact List.mem_range.mp (List.mem_filter.mp z).1
theorem ah_sorted (h : Hs) (r : Nat) : (ah h r).Pairwise (· < ·) := by
  unfold ah en ent
  dsimp only
  exact List.Pairwise.filter _ List.pairwise_lt_range
/-- all due runs stand ahead -/
theorem due_ah {h : Hs} {r o : Nat} (d : Due h r o) : o ∈ ah h r := by
  rw [mem_ah]
  by_cases c : Cov h r o
  · -- covered by the lane, or by another due run: that one is reached
    rcases c with c | ⟨e, de, he⟩
    · exact .inl c
    · have key : ∀ n e, r - e ≤ n → Due h r e → o ∈ ah h e → (ByPv h r o ∨ ∃ n, n ∈ nm h r ∧ (o = n ∨ o ∈ ah h n)) := by
        intro n
        induction n with
        | zero => exact fun e z de _ => by have := de.lt; omega
        | succ n ih =>
          intro e z de he
          by_cases ce : Cov h r e
          · rcases ce with ⟨p, hp, rfl | hz⟩ | ⟨g, dg, hg⟩
            · exact .inl ⟨_, hp, .inr he⟩
            · exact .inl ⟨p, hp, .inr (tr h hz he)⟩
            · exact ih g (by have := ah_lt hg; omega) dg (tr h hg he)
          · exact .inr ⟨e, mem_nm.mpr ⟨de, ce⟩, .inr he⟩
      exact key (r - e) e (Nat.le_refl _) de he
  · exact .inr ⟨o, mem_nm.mpr ⟨d, c⟩, .inl rfl⟩
where
  /-- what stands ahead of what stands ahead -/
  tr (h : Hs) {r e o : Nat} (a : e ∈ ah h r) (b : o ∈ ah h e) : o ∈ ah h r := by
    have key : ∀ n r, r ≤ n → e ∈ ah h r → o ∈ ah h r := by
      intro n
      induction n with
      | zero => exact fun r z a => by have := ah_lt a; omega
      | succ n ih =>
        intro r z a
        rw [mem_ah] at a ⊢
        rcases a with ⟨p, hp, rfl | hz⟩ | ⟨g, hg, rfl | hz⟩
        · exact .inl ⟨_, hp, .inr b⟩
        · exact .inl ⟨p, hp, .inr (ih p (by have := pv_lt hp; omega) hz)⟩
        · exact .inr ⟨_, hg, .inr b⟩
        · exact .inr ⟨g, hg, .inr (ih g (by have := nm_lt hg; omega) hz)⟩
    exact key r r (Nat.le_refl _) a
theorem ah_tr {h : Hs} {r e o : Nat} (a : e ∈ ah h r) (b : o ∈ ah h e) : o ∈ ah h r := due_ah.tr h a b
end ORD

set_option linter.all false
/-! M74b: the exchanged order, what it keeps, and how it differs. -/
namespace ORD
open PySem
/-- the runs of l write c: the newest version -/
def nw (h : Hs) (l : List Nat) (c : Str) : Option Nat := l.foldl (fun a x => if c ∈ wrs h x then some x else a) none
theorem nw_snoc (h : Hs) (l : List Nat) (x : Nat) (c : Str) : nw h (l ++ [x]) c = if c ∈ wrs h x then some x else nw h l c := by
  unfold nw
  rw [List.foldl_append]
  rfl
theorem nw_range (h : Hs) (c : Str) : ∀ r, nw h (List.range r) c = lw h r c
  | 0 => rfl
  | r + 1 => by rw [List.range_succ, nw_snoc, nw_range h c r]; rfl
theorem fold_no {h : Hs} {c : Str} : ∀ {m : List Nat} (a : Option Nat), (∀ x ∈ m, c ∉ wrs h x) → m.foldl (fun a x => if c ∈ wrs h x then some x else a) a = a
  | [], _, _ => rfl
  | x :: m, a, n => by
    rw [List.foldl_cons, if_neg (n x (List.mem_cons_self ..))]
    exact fold_no a fun y hy => n y (List.mem_cons_of_mem _ hy)
theorem nw_no {h : Hs} {c : Str} {l m : List Nat} (n : ∀ x ∈ m, c ∉ wrs h x) : nw h (l ++ m) c = nw h l c := by
  unfold nw
  rw [List.foldl_append]
  exact fold_no _ n
theorem fold_mem {h : Hs} {c : Str} {x : Nat} : ∀ {m : List Nat} (a : Option Nat), m.foldl (fun a x => if c ∈ wrs h x then some x else a) a = some x → a = some x ∨ (x ∈ m ∧ c ∈ wrs h x)
  | [], _, z => .inl z
  | y :: m, a, z => by
    rw [List.foldl_cons] at z
    rcases fold_mem _ z with q | q
    · split at q
      · rename_i w
        cases q
        exact .inr ⟨List.mem_cons_self .., w⟩
      · exact .inl q
    · exact .inr ⟨List.mem_cons_of_mem _ q.1, q.2⟩
theorem nw_mem {h : Hs} {c : Str} {l : List Nat} {x : Nat} (z : nw h l c = some x) : x ∈ l ∧ c ∈ wrs h x := by
  rcases fold_mem _ z with q | q
  · cases q
  · exact q
/-- what run r reads of c in the order l -/
def rdv (h : Hs) (l : List Nat) (r : Nat) (c : Str) : Option Nat := nw h (l.takeWhile (· ≠ r)) c
theorem take_while {a b : List Nat} {r : Nat} (n : r ∉ a) : (a ++ r :: b).takeWhile (· ≠ r) = a := by
  induction a with
  | nil => rw [List.nil_append, List.takeWhile_cons_of_neg (by simp)]
  | cons x a ih =>
    rw [List.cons_append, List.takeWhile_cons_of_pos (by simp; exact fun z => n (z ▸ List.mem_cons_self ..)), ih fun z => n (List.mem_cons_of_mem _ z)]
theorem rdv_split {h : Hs} {a b : List Nat} {r : Nat} (n : r ∉ a) (c : Str) : rdv h (a ++ r :: b) r c = nw h a c := by
  unfold rdv
  rw [take_while n]
theorem rdv_range {h : Hs} {r n : Nat} (hr : r < n) (c : Str) : rdv h (List.range n) r c = lw h r c := by
  have e : List.range n = List.range r ++ r :: (List.range' (r + 1) (n - r - 1)) := by
    rw [List.range_eq_range', List.range_eq_range', show n = r + ((n - r - 1) + 1) by omega, ← List.range'_append_1, Nat.zero_add, List.range'_succ]
    rw [show r + (n - r - 1 + 1) - r - 1 = n - r - 1 by omega]
  rw [e, rdv_split (by simp), nw_range]
/-! ### the exchanged order -/
def btw (o r : Nat) : List Nat := List.range' (o + 1) (r - (o + 1))
theorem mem_btw {o r x : Nat} : x ∈ btw o r ↔ o < x ∧ x < r := by
  unfold btw
  rw [List.mem_range'_1]
  omega
noncomputable def free (h : Hs) (r o : Nat) : List Nat := (btw o r).filter fun x => cd (o ∉ ah h x)
noncomputable def bound (h : Hs) (r o : Nat) : List Nat := (btw o r).filter fun x => cd (o ∈ ah h x)
theorem mem_free {h : Hs} {r o x : Nat} : x ∈ free h r o ↔ (o < x ∧ x < r) ∧ o ∉ ah h x := by
  unfold free
  rw [List.mem_filter, mem_btw, cd_iff]
theorem mem_bound {h : Hs} {r o x : Nat} : x ∈ bound h r o ↔ (o < x ∧ x < r) ∧ o ∈ ah h x := by
  unfold bound
  rw [List.mem_filter, mem_btw, cd_iff]
noncomputable def exch (h : Hs) (r o : Nat) : List Nat := List.range o ++ free h r o ++ r :: o :: bound h r o
theorem srt_btw (o r : Nat) : (btw o r).Pairwise (· < ·) := List.pairwise_lt_range'
theorem srt_free (h : Hs) (r o : Nat) : (free h r o).Pairwise (· < ·) := List.Pairwise.filter _ (srt_btw o r)
theorem srt_bound (h : Hs) (r o : Nat) : (bound h r o).Pairwise (· < ·) := List.Pairwise.filter _ (srt_btw o r)
theorem mem_exch {h : Hs} {r o x : Nat} (lt : o < r) : x ∈ exch h r o ↔ x < r + 1 := by
  unfold exch
  rw [List.mem_append, List.mem_append, List.mem_range, mem_free, List.mem_cons, List.mem_cons, mem_bound]
  constructor
  · rintro ((a | a) | a | a | a) <;> omega
  · intro z
    by_cases q : o ∈ ah h x
    · have := ah_lt q
      by_cases w : x = r
      · exact .inr (.inl w)
      · exact .inr (.inr (.inr ⟨⟨this, by omega⟩, q⟩))
    · rcases Nat.lt_trichotomy x o with a | a | a
      · exact .inl (.inl a)
      · exact .inr (.inr (.inl a))
      · by_cases w : x = r
        · exact .inr (.inl w)
        · exact .inl (.inr ⟨⟨a, by omega⟩, q⟩)
/-- late wants one ahead of it -/
def Want (h : Hs) (x y : Nat) : Prop := pv h x = some y ∨ y ∈ nm h x
theorem Want.lt {h : Hs} {x y : Nat} (z : Want h x y) : y < x := z.elim pv_lt nm_lt
theorem Want.ah {h : Hs} {x y : Nat} (z : Want h x y) : y ∈ ah h x := by
  rw [mem_ah]
  rcases z with z | z
  · exact .inl ⟨y, z, .inl rfl⟩
  · exact .inr ⟨y, z, .inl rfl⟩
theorem exch_pair {h : Hs} {r o : Nat} (no : o ∈ nm h r) : (exch h r o).Pairwise fun x y => x ≠ y ∧ (Want h x y → x = r ∧ y = o) := by
  have lt := nm_lt no
  have cov := (mem_nm.mp no).2
  have up : ∀ {l : List Nat}, l.Pairwise (· < ·) → l.Pairwise fun x y => x ≠ y ∧ (Want h x y → x = r ∧ y = o) := fun s => s.imp fun {x y} z => ⟨by omega, fun w => by have := w.lt; omega⟩
  unfold exch
  rw [List.pairwise_append]
  refine ⟨?_, ?_, ?_⟩
  · rw [List.pairwise_append]
    refine ⟨up List.pairwise_lt_range, up (srt_free h r o), fun x hx y hy => ?_⟩
    have a := List.mem_range.mp hx
    have b := (mem_free.mp hy).1.1
    exact ⟨by omega, fun w => by have := w.lt; omega⟩
  · rw [List.pairwise_cons, List.pairwise_cons]
    refine ⟨fun y hy => ?_, fun y hy => ?_, up (srt_bound h r o)⟩
    · rcases List.mem_cons.mp hy with rfl | hy
      · exact ⟨by omega, fun _ => ⟨rfl, rfl⟩⟩
      · obtain ⟨⟨b1, b2⟩, b3⟩ := mem_bound.mp hy
        refine ⟨by omega, fun w => absurd ?_ cov⟩
        rcases w with w | w
        · exact .inl ⟨y, w, .inr b3⟩
        · exact .inr ⟨y, (mem_nm.mp w).1, b3⟩
    · obtain ⟨⟨b1, b2⟩, b3⟩ := mem_bound.mp hy
      exact ⟨by omega, fun w => by have := w.lt; omega⟩
  · intro x hx y hy
    rcases List.mem_append.mp hx with hx | hx
    · have a := List.mem_range.mp hx
      have b : o ≤ y := by
        rcases List.mem_cons.mp hy with rfl | hy
        · omega
        · rcases List.mem_cons.mp hy with rfl | hy
          · omega
          · have := (mem_bound.mp hy).1.1
            omega
      exact ⟨by omega, fun w => by have := w.lt; omega⟩
    · obtain ⟨⟨a1, a2⟩, a3⟩ := mem_free.mp hx
      rcases List.mem_cons.mp hy with rfl | hy
      · exact ⟨by omega, fun w => by have := w.lt; omega⟩
      · rcases List.mem_cons.mp hy with rfl | hy
        · exact ⟨by omega, fun w => absurd w.ah a3⟩
        · obtain ⟨⟨b1, b2⟩, b3⟩ := mem_bound.mp hy
          exact ⟨fun e => a3 (e ▸ b3), fun w => absurd (ah_tr w.ah b3) a3⟩
theorem exch_nodup {h : Hs} {r o : Nat} (no : o ∈ nm h r) : (exch h r o).Nodup := (exch_pair no).imp fun z => z.1
/-- places -/
theorem idx_lt {h : Hs} {r o x y : Nat} (no : o ∈ nm h r) (hx : x < r + 1) (w : Want h x y) (ne : ¬ (x = r ∧ y = o)) : (exch h r o).idxOf y < (exch h r o).idxOf x := by
  have lt := nm_lt no
  have mx := (mem_exch (h := h) (o := o) lt).mpr hx
  have my := (mem_exch (h := h) (x := y) lt).mpr (by have := w.lt; omega)
  have ix := List.idxOf_lt_length_of_mem mx
  have iy := List.idxOf_lt_length_of_mem my
  refine Nat.lt_of_not_le fun c => ?_
  rcases Nat.lt_or_eq_of_le c with c | c
  · have := List.pairwise_iff_getElem.mp (exch_pair no) _ _ ix iy c
    rw [List.getElem_idxOf ix, List.getElem_idxOf iy] at this
    exact ne (this.2 w)
  · have e : x = y := by
      have e1 := List.getElem_idxOf ix
      have e2 := List.getElem_idxOf iy
      rw [← e1, ← e2]
      congr 1
    have := w.lt
    omega
theorem idx_ro {h : Hs} {r o : Nat} (no : o ∈ nm h r) : (exch h r o).idxOf r < (exch h r o).idxOf o := by
  have lt := nm_lt no
  have n1 : r ∉ List.range o ++ free h r o := fun z => by
    rcases List.mem_append.mp z with z | z
    · have := List.mem_range.mp z
      omega
    · have := (mem_free.mp z).1.2
      omega
  have n2 : o ∉ List.range o ++ free h r o := fun z => by
    rcases List.mem_append.mp z with z | z
    · have := List.mem_range.mp z
      omega
    · have := (mem_free.mp z).1.1
      omega
  unfold exch
  rw [List.idxOf_append, if_neg n1, List.idxOf_append, if_neg n2, List.idxOf_cons_self]
  have e : List.idxOf o (r :: o :: bound h r o) = 1 := by
    rw [List.idxOf_cons, List.idxOf_cons_self]
    have : (r == o) = false := by simp; omega
    rw [this]
    rfl
  omega
/-! ### the difference -/
inductive Dv where
  | no
  | rd (r : Nat) (c : Str) (v : Option Nat)
  | ls (c : Str) (v : Option Nat)
/-- no run below r reads another version -/
def RdOk (h : Hs) (l : List Nat) (r : Nat) : Prop := ∀ x, x < r → ∀ c ∈ rds h x, rdv h l x c = lw h x c
abbrev lt' (a b : Str) : Prop := a.cps.toList < b.cps.toList
/-- the first difference of an order of n runs -/
def DifP (h : Hs) (l : List Nat) (n : Nat) : Dv → Prop
  | .no => RdOk h l n ∧ ∀ c, nw h l c = lw h n c
  | .rd r c v => r < n ∧ RdOk h l r ∧ v = rdv h l r c ∧ v ≠ lw h r c ∧ ∃ j : Nat, (rds h r)[j]? = some c ∧ ∀ i : Nat, i < j → ∀ d, (rds h r)[i]? = some d → rdv h l r d = lw h r d
  | .ls c v => RdOk h l n ∧ v = nw h l c ∧ v ≠ lw h n c ∧ ∀ d, nw h l d ≠ lw h n d → ¬ lt' d c
theorem lt_tri (a b : Str) : lt' a b ∨ a = b ∨ lt' b a := by
  have ex : a.cps.toList = b.cps.toList → a = b := fun e => by
    cases a; cases b
    congr 1
    exact Array.toList_inj.mp e
  by_cases h1 : a.cps.toList < b.cps.toList
  · exact .inl h1
  · by_cases h2 : b.cps.toList < a.cps.toList
    · exact .inr (.inr h2)
    · exact .inr (.inl (ex (List.le_antisymm (List.not_lt.mp h2) (List.not_lt.mp h1))))
theorem DifP.uniq {h : Hs} {l : List Nat} {n : Nat} {a b : Dv} (ha : DifP h l n a) (hb : DifP h l n b) : a = b := by
  have one : ∀ {r c v}, DifP h l n (.rd r c v) → ∀ {b}, DifP h l n b → b = .rd r c v := by
    rintro r c v ⟨r1, r2, r3, r4, j, r5, r6⟩ b hb
    have mc := List.mem_of_getElem? r5
    cases b with
    | no => exact absurd (hb.1 r r1 c mc) (r3 ▸ r4)
    | ls d u => exact absurd (hb.1 r r1 c mc) (r3 ▸ r4)
    | rd s d u =>
      obtain ⟨s1, s2, s3, s4, i, s5, s6⟩ := hb
      have md := List.mem_of_getElem? s5
      have e : s = r := by
        rcases Nat.lt_trichotomy s r with z | z | z
        · exact absurd (r2 s z d md) (s3 ▸ s4)
        · exact z
        · exact absurd (s2 r z c mc) (r3 ▸ r4)
      subst e
      have ei : i = j := by
        rcases Nat.lt_trichotomy i j with z | z | z
        · exact absurd (r6 i z d s5) (s3 ▸ s4)
        · exact z
        · exact absurd (s6 j z c r5) (r3 ▸ r4)
      subst ei
      rw [r5] at s5
      cases s5
      rw [r3, s3]
  cases a with
  | rd r c v => exact (one ha hb).symm
  | no =>
    cases b with
    | rd r c v => exact one hb ha
    | no => rfl
    | ls c v => exact absurd (ha.2 c) (hb.2.1 ▸ hb.2.2.1)
  | ls c v =>
    cases b with
    | rd r c v => exact one hb ha
    | no => exact absurd (hb.2 c) (ha.2.1 ▸ ha.2.2.1)
    | ls d u =>
      obtain ⟨a1, a2, a3, a4⟩ := ha
      obtain ⟨b1, b2, b3, b4⟩ := hb
      have e : c = d := by
        rcases lt_tri c d with z | z | z
        · exact absurd z (b4 c (a2 ▸ a3))
        · exact z
        · exact absurd z (a4 d (b2 ▸ b3))
      subst e
      rw [a2, b2]
/-- the exchanged order differs -/
theorem exch_dif {h : Hs} {r o : Nat} (no : o ∈ nm h r) : ¬ DifP h (exch h r o) (r + 1) .no := by
  rintro ⟨ok, last⟩
  have lt := nm_lt no
  have n2 : o ∉ List.range o ++ free h r o := fun z => by
    rcases List.mem_append.mp z with z | z
    · have := List.mem_range.mp z
      omega
    · have := (mem_free.mp z).1.1
      omega
  have n1 : r ∉ List.range o ++ free h r o := fun z => by
    rcases List.mem_append.mp z with z | z
    · have := List.mem_range.mp z
      omega
    · have := (mem_free.mp z).1.2
      omega
  rcases (mem_nm.mp no).1 with ⟨c, hc, z⟩ | ⟨c, hc, z, _, ho⟩
  · rcases List.mem_append.mp hc with q | q
    · have e := ok r (Nat.lt_succ_self _) c q
      unfold exch at e
      rw [rdv_split n1, z] at e
      exact n2 (nw_mem e).1
    · have e := last c
      have e1 : lw h (r + 1) c = some r := lw_some.mpr ⟨by omega, q, fun j a b => by omega⟩
      obtain ⟨z1, z2, z3⟩ := lw_some.mp z
      unfold exch at e
      rw [e1, show List.range o ++ free h r o ++ r :: o :: bound h r o = (List.range o ++ free h r o ++ [r] ++ [o]) ++ bound h r o by simp, nw_no (fun x hx => z3 x (mem_bound.mp hx).1.1 (mem_bound.mp hx).1.2), nw_snoc, if_pos z2] at e
      have := Option.some.inj e
      omega
  · have e := ok o (by omega) c ho
    unfold exch at e
    rw [show List.range o ++ free h r o ++ r :: o :: bound h r o = (List.range o ++ free h r o ++ [r]) ++ o :: bound h r o by simp, rdv_split (fun w => by
      rcases List.mem_append.mp w with w | w
      · exact n2 w
      · have := List.mem_singleton.mp w
        omega), nw_snoc, if_pos hc] at e
    have := lw_lt e.symm
    omega
end ORD

set_option linter.all false
/-! M73: an order that keeps all names and lanes has no difference. -/
namespace ORD
open PySem
/-- an order of the runs below n -/
structure IsOrd (l : List Nat) (n : Nat) : Prop where
  nd : l.Nodup
  mem : ∀ x, x ∈ l ↔ x < n
/-- it keeps what is wanted -/
def Keeps (h : Hs) (l : List Nat) (n : Nat) : Prop := ∀ x, x < n → ∀ y, Want h x y → l.idxOf y < l.idxOf x
section
variable {h : Hs} {l : List Nat} {n : Nat}
theorem keeps_ah (K : Keeps h l n) {y : Nat} : ∀ (m x : Nat), x ≤ m → x < n → y ∈ ah h x → l.idxOf y < l.idxOf x
  | 0, x, z, _, a => by have := ah_lt a; omega
  | m + 1, x, z, hx, a => by
    rcases mem_ah.mp a with ⟨p, hp, rfl | q⟩ | ⟨p, hp, rfl | q⟩
    · exact K x hx _ (.inl hp)
    · have := pv_lt hp
      exact Nat.lt_trans (keeps_ah K m p (by omega) (by omega) q) (K x hx p (.inl hp))
    · exact K x hx _ (.inr hp)
    · have := nm_lt hp
      exact Nat.lt_trans (keeps_ah K m p (by omega) (by omega) q) (K x hx p (.inr hp))
theorem keeps_due (K : Keeps h l n) {x y : Nat} (hx : x < n) (d : Due h x y) : l.idxOf y < l.idxOf x := keeps_ah K x x (Nat.le_refl _) hx (due_ah d)
/-- the last writer below y is not below a writer -/
theorem lw_ge {c : Str} {x y : Nat} (hx : c ∈ wrs h x) (lt : x < y) : ∃ m, lw h y c = some m ∧ x ≤ m := by
  cases q : lw h y c with
  | none => exact absurd hx (lw_none.mp q x lt)
  | some m =>
    refine ⟨m, rfl, Nat.le_of_not_lt fun z => (lw_some.mp q).2.2 x z lt hx⟩
/-- writers of one cell stand in their sequence -/
theorem writers (K : Keeps h l n) {c : Str} {x : Nat} (hx : c ∈ wrs h x) : ∀ (m y : Nat), y ≤ m → y < n → c ∈ wrs h y → x < y → l.idxOf x < l.idxOf y
  | 0, y, z, _, _, lt => by omega
  | m + 1, y, z, hy, cy, lt => by
    obtain ⟨k, hk, ge⟩ := lw_ge hx lt
    have kl := lw_lt hk
    have d : l.idxOf k < l.idxOf y := keeps_due K hy (.inl ⟨c, List.mem_append.mpr (.inr cy), hk⟩)
    rcases Nat.lt_or_eq_of_le ge with q | q
    · exact Nat.lt_trans (writers K hx m k (by omega) (by omega) (lw_some.mp hk).2.1 q) d
    · rw [q]
      exact d
/-- a reader stands ahead of all later writers -/
theorem reader (K : Keeps h l n) {c : Str} {x : Nat} (hx : c ∈ rds h x) : ∀ (m y : Nat), y ≤ m → y < n → c ∈ wrs h y → x < y → l.idxOf x < l.idxOf y
  | 0, y, z, _, _, lt => by omega
  | m + 1, y, z, hy, cy, lt => by
    by_cases q : ∃ k, lw h y c = some k ∧ x ≤ k
    · obtain ⟨k, hk, ge⟩ := q
      have kl := lw_lt hk
      have d : l.idxOf k < l.idxOf y := keeps_due K hy (.inl ⟨c, List.mem_append.mpr (.inr cy), hk⟩)
      rcases Nat.lt_or_eq_of_le ge with q | q
      · exact Nat.lt_trans (reader K hx m k (by omega) (by omega) (lw_some.mp hk).2.1 q) d
      · rw [q]
        exact d
    · exact keeps_due K hy (.inr ⟨c, cy, fun k hk => Nat.lt_of_not_le fun w => q ⟨k, hk, w⟩, lt, hx⟩)
theorem nw_top {p q : List Nat} {c : Str} {m : Nat} (nd : (p ++ q).Nodup) (mp : m ∈ p) (cm : c ∈ wrs h m) (top : ∀ y ∈ p, c ∈ wrs h y → (p ++ q).idxOf y ≤ (p ++ q).idxOf m) : nw h p c = some m := by
  obtain ⟨p1, p2, rfl⟩ := List.append_of_mem mp
  have nd1 : (p1 ++ m :: p2).Nodup := (List.nodup_append.mp nd).1
  obtain ⟨_, n2, n3⟩ := List.nodup_append.mp nd1
  have hm1 : m ∉ p1 := fun z => n3 m z m (List.mem_cons_self ..) rfl
  have hm2 : m ∉ p2 := (List.nodup_cons.mp n2).1
  have no : ∀ y ∈ p2, c ∉ wrs h y := fun y hy cy => by
    have t := top y (by simp [hy]) cy
    have hy1 : y ∉ p1 := fun z => n3 y z y (List.mem_cons_of_mem _ hy) rfl
    have hym : y ≠ m := fun z => hm2 (z ▸ hy)
    have e0 : p1 ++ m :: p2 ++ q = p1 ++ (m :: (p2 ++ q)) := by simp
    have e1 : (p1 ++ (m :: (p2 ++ q))).idxOf y = (m :: (p2 ++ q)).idxOf y + p1.length := by rw [List.idxOf_append, if_neg hy1]
    have e2 : (p1 ++ (m :: (p2 ++ q))).idxOf m = 0 + p1.length := by rw [List.idxOf_append, if_neg hm1, List.idxOf_cons_self]
    have e3 : (m :: (p2 ++ q)).idxOf y = (p2 ++ q).idxOf y + 1 := by
      rw [List.idxOf_cons, show (m == y) = false by simp; exact fun z => hym z.symm]
      rfl
    rw [e0, e1, e2, e3] at t
    omega
  rw [show p1 ++ m :: p2 = (p1 ++ [m]) ++ p2 by simp, nw_no no, nw_snoc, if_pos cm]
theorem nw_none {p : List Nat} {c : Str} (no : ∀ y ∈ p, c ∉ wrs h y) : nw h p c = none := by
  have := nw_no (h := h) (l := []) no
  exact this
/-- no difference -/
theorem keeps_same (O : IsOrd l n) (K : Keeps h l n) : DifP h l n .no := by
  refine ⟨fun x hx c hc => ?_, fun c => ?_⟩
  · obtain ⟨a, b, e⟩ := List.append_of_mem ((O.mem x).mpr hx)
    have nd := O.nd
    rw [e] at nd
    have nx : x ∉ a := fun z => (List.nodup_append.mp nd).2.2 x z x (List.mem_cons_self ..) rfl
    have ix : l.idxOf x = a.length := by rw [e, List.idxOf_append, if_neg nx, List.idxOf_cons_self, Nat.zero_add]
    have inA : ∀ y, y ∈ a ↔ y < n ∧ l.idxOf y < l.idxOf x := fun y => by
      constructor
      · intro hy
        refine ⟨(O.mem y).mp (by rw [e]; exact List.mem_append.mpr (.inl hy)), ?_⟩
        rw [ix, e, List.idxOf_append, if_pos hy]
        exact List.idxOf_lt_length_of_mem hy
      · rintro ⟨h1, h2⟩
        refine Classical.byContradiction fun z => ?_
        rw [ix, e, List.idxOf_append, if_neg z] at h2
        omega
    rw [show rdv h l x c = nw h a c by rw [e]; exact rdv_split nx c]
    have below : ∀ y ∈ a, c ∈ wrs h y → y < x := fun y hy cy => by
      obtain ⟨h1, h2⟩ := (inA y).mp hy
      rcases Nat.lt_trichotomy y x with z | z | z
      · exact z
      · rw [z] at h2
        omega
      · have := reader K hc y y (Nat.le_refl _) h1 cy z
        omega
    cases q : lw h x c with
    | none => exact nw_none fun y hy cy => lw_none.mp q y (below y hy cy) cy
    | some m =>
      obtain ⟨m1, m2, m3⟩ := lw_some.mp q
      have im : l.idxOf m < l.idxOf x := keeps_due K hx (.inl ⟨c, List.mem_append.mpr (.inl hc), q⟩)
      refine nw_top nd ((inA m).mpr ⟨by omega, im⟩) m2 fun y hy cy => ?_
      rw [← e]
      have by' := below y hy cy
      rcases Nat.lt_trichotomy y m with z | z | z
      · exact Nat.le_of_lt (writers K cy m m (Nat.le_refl _) (by omega) m2 z)
      · rw [z]
        exact Nat.le_refl _
      · exact absurd cy (m3 y z by')
  · cases q : lw h n c with
    | none => exact nw_none fun y hy => lw_none.mp q y ((O.mem y).mp hy)
    | some m =>
      obtain ⟨m1, m2, m3⟩ := lw_some.mp q
      have nd : (l ++ []).Nodup := by rw [List.append_nil]; exact O.nd
      refine nw_top nd ((O.mem m).mpr m1) m2 fun y hy cy => ?_
      rw [List.append_nil]
      rcases Nat.lt_trichotomy y m with z | z | z
      · exact Nat.le_of_lt (writers K cy m m (Nat.le_refl _) m1 m2 z)
      · rw [z]
        exact Nat.le_refl _
      · exact absurd cy (m3 y z ((O.mem y).mp hy))
end
end ORD

set_option Elab.async false
set_option linter.all false
set_option maxRecDepth 100000
set_option maxHeartbeats 2000000
/-! O72: histories in the heap; what is a number, a cell, a footprint, a history. -/
namespace K71
open PySem PySem.Spec PyProof.Rows L2 LL ORD
def top (i : Nat) : Stmt := PySem.Challenge.pw_leastlog_k71_attempts.main.body.getD i (.Pass ⟨0, 0, 0, 0⟩)
abbrev s_InvalidHistoryinit : Stmt := inClass (top 5) 0
abbrev n_InvalidHistoryinit : List Str := ["self", "position"]
theorem sc_InvalidHistoryinit : FnScope n_InvalidHistoryinit ["self", "position"] (defScope s_InvalidHistoryinit) := ⟨rfl, rfl, rfl, by decide +kernel, rfl, by decide +kernel, by decide +kernel⟩
abbrev s_InvalidCountinit : Stmt := inClass (top 4) 0
abbrev n_InvalidCountinit : List Str := ["self", "value"]
theorem sc_InvalidCountinit : FnScope n_InvalidCountinit ["self", "value"] (defScope s_InvalidCountinit) := ⟨rfl, rfl, rfl, by decide +kernel, rfl, by decide +kernel, by decide +kernel⟩
abbrev s_is_number : Stmt := top 16
abbrev n_is_number : List Str := ["value"]
theorem sc_is_number : FnScope n_is_number ["value"] (defScope s_is_number) := ⟨rfl, rfl, rfl, by decide +kernel, rfl, by decide +kernel, by decide +kernel⟩
abbrev s_is_cell : Stmt := top 17
abbrev n_is_cell : List Str := ["value", "character"]
theorem sc_is_cell : FnScope n_is_cell ["value"] (defScope s_is_cell) := ⟨rfl, rfl, rfl, by decide +kernel, rfl, by decide +kernel, by decide +kernel⟩
abbrev s_are_cells : Stmt := top 18
abbrev n_are_cells : List Str := ["value", "cell", "one", "other"]
theorem sc_are_cells : FnScope n_are_cells ["value"] (defScope s_are_cells) := ⟨rfl, rfl, rfl, by decide +kernel, rfl, by decide +kernel, by decide +kernel⟩
abbrev s_is_footprint : Stmt := top 19
abbrev n_is_footprint : List Str := ["value", "lane", "reads", "writes"]
theorem sc_is_footprint : FnScope n_is_footprint ["value"] (defScope s_is_footprint) := ⟨rfl, rfl, rfl, by decide +kernel, rfl, by decide +kernel, by decide +kernel⟩
abbrev chs : Str := "abcdefghijklmnopqrstuvwxyz0123456789."
structure Tx (K : PySem.W.Frag) (mg : Str → Option Value) (CE CH CO : Addr) : Prop where
  g_LeastlogError : mg "LeastlogError" = some (.ref CE)
  g_InvalidHistory : mg "InvalidHistory" = some (.ref CH)
  g_InvalidCount : mg "InvalidCount" = some (.ref CO)
  g_MOST_LANES : ∃ t, mg "MOST_LANES" = some (.int 8 t)
  g_LONGEST_CELL : ∃ t, mg "LONGEST_CELL" = some (.int 32 t)
  g_CELL_CHARACTERS : ∃ t, mg "CELL_CHARACTERS" = some (.str chs t)
  g_NO_RUN : ∃ t, mg "NO_RUN" = some (.int (-1) t)
  le : LeC K CE
  kHE : PySem.W.kitOne K (.ref CH) (.ref CE) = some true
  kOE : PySem.W.kitOne K (.ref CO) (.ref CE) = some true
  xHH : PySem.W.exmOne K (.ref CH) (.ref CH) = some true
  xOO : PySem.W.exmOne K (.ref CO) (.ref CO) = some true
  n_isinstance : mg "isinstance" = none
  n_int : mg "int" = none
  n_bool : mg "bool" = none
  n_abs : mg "abs" = none
  n_str : mg "str" = none
  n_repr : mg "repr" = none
  n_range : mg "range" = none
  n_len : mg "len" = none
  n_max : mg "max" = none
  n_min : mg "min" = none
  n_divmod : mg "divmod" = none
  n_all : mg "all" = none
  n_list : mg "list" = none
  n_tuple : mg "tuple" = none
  n_set : mg "set" = none
  n_sorted : mg "sorted" = none
  n_zip : mg "zip" = none
  n_enumerate : mg "enumerate" = none
/-! ### histories in the heap -/
def FpAt (H : Hp) (v : V) (f : Fp) : Prop := ∃ t r x, v = .ref t ∧ H t = some (.tup [.int f.lane, .ref r, .ref x]) ∧ H r = some (.tup (f.rd.map V.str)) ∧ H x = some (.tup (f.wr.map V.str))
theorem FpAt.same {H H' : Hp} {v : V} {f : Fp} (h : FpAt H v f) (s : Same H H') : FpAt H' v f := let ⟨t, r, x, e, a, b, c⟩ := h; ⟨t, r, x, e, s _ _ a, s _ _ b, s _ _ c⟩
structure Fps (H : Hp) (vs : List V) (h : Hs) : Prop where
  len : vs.length = h.length
  at_ : ∀ i v, vs[i]? = some v → FpAt H v (fp h i)
theorem Fps.same {H H' : Hp} {vs : List V} {h : Hs} (f : Fps H vs h) (s : Same H H') : Fps H' vs h := ⟨f.len, fun i v e => (f.at_ i v e).same s⟩
def HsAt (H : Hp) (a : Addr) (h : Hs) : Prop := ∃ vs, Lt H a vs ∧ Fps H vs h
theorem HsAt.same {H H' : Hp} {a : Addr} {h : Hs} (f : HsAt H a h) (s : Same H H') : HsAt H' a h := let ⟨vs, l, g⟩ := f; ⟨vs, l.same s, g.same s⟩
theorem HsAt.get {H : Hp} {a : Addr} {h : Hs} {vs : List V} {i : Nat} (f : Fps H vs h) (hi : i < h.length) : ∃ v, atI vs (i : Int) = some v ∧ vs[i]? = some v ∧ FpAt H v (fp h i) := by
  have hi' : i < vs.length := by rw [f.len]; exact hi
  exact ⟨vs[i], atI_nat (List.getElem?_eq_getElem hi'), List.getElem?_eq_getElem hi', f.at_ i _ (List.getElem?_eq_getElem hi')⟩
def CellOk (c : Str) : Prop := 1 ≤ c.length ∧ c.length ≤ 32 ∧ ∀ x ∈ c.cps.toList, x ∈ chs.cps.toList
structure CellsOk (l : List Str) : Prop where
  ok : ∀ c ∈ l, CellOk c
  srt : l.Pairwise lt'
  len : l.length ≤ 5
structure FpOk (f : Fp) : Prop where
  lane : f.lane < 8
  rd : CellsOk f.rd
  wr : CellsOk f.wr
structure HsOk (h : Hs) : Prop where
  fp : ∀ i, i < h.length → FpOk (fp h i)
  len : h.length ≤ 100
  cells : ∃ cs : List Str, cs.length ≤ 10 ∧ ∀ i, i < h.length → ∀ c ∈ wrs h i, c ∈ cs
/-! ### values of some kind -/
def NoK (K : PySem.W.Frag) (T : String) (H : Hp) (v : V) : Prop := ∃ t, (∀ H', LamX.ExtN H H' → TyX K H' v t) ∧ PySem.W.kitOne K t (.type T) = some false
theorem NoK.ext {K : PySem.W.Frag} {T : String} {H H' : Hp} {v : V} (h : NoK K T H v) (s : LamX.ExtN H H') : NoK K T H' v := let ⟨t, a, b⟩ := h; ⟨t, fun H2 s2 => a H2 (s.trans s2), b⟩
theorem NoK.same {K : PySem.W.Frag} {T : String} {H H' : Hp} {v : V} (h : NoK K T H v) (s : Same H H') : NoK K T H' v := h.ext (.of s)
theorem kII {K : PySem.W.Frag} : PySem.W.kitOne K (.type "int") (.type "int") = some true := kit_ty (by decide +kernel)
theorem kBI {K : PySem.W.Frag} : PySem.W.kitOne K (.type "bool") (.type "int") = some true := kit_ty (by decide +kernel)
theorem kIB {K : PySem.W.Frag} : PySem.W.kitOne K (.type "int") (.type "bool") = some false := kit_ty (by decide +kernel)
theorem kBB {K : PySem.W.Frag} : PySem.W.kitOne K (.type "bool") (.type "bool") = some true := kit_ty (by decide +kernel)
theorem kTT {K : PySem.W.Frag} : PySem.W.kitOne K (.type "tuple") (.type "tuple") = some true := kit_ty (by decide +kernel)
theorem kLL {K : PySem.W.Frag} : PySem.W.kitOne K (.type "list") (.type "list") = some true := kit_ty (by decide +kernel)
theorem kLT {K : PySem.W.Frag} : PySem.W.kitOne K (.type "list") (.type "tuple") = some false := kit_ty (by decide +kernel)
theorem kTL {K : PySem.W.Frag} : PySem.W.kitOne K (.type "tuple") (.type "list") = some false := kit_ty (by decide +kernel)
/-- is it a number? -/
inductive NumV (K : PySem.W.Frag) (H : Hp) : V → Bool → Prop
  | int (i : Int) : NumV K H (.int i) (decide (0 ≤ i))
  | bl (b : Bool) : NumV K H (.bl b) false
  | no {v : V} : NoK K "int" H v → NumV K H v false
theorem NumV.ext {K : PySem.W.Frag} {H H' : Hp} {v : V} {b : Bool} (h : NumV K H v b) (s : LamX.ExtN H H') : NumV K H' v b := by
  cases h with
  | int i => exact .int i
  | bl b => exact .bl b
  | no h => exact .no (h.ext s)
theorem NumV.same {K : PySem.W.Frag} {H H' : Hp} {v : V} {b : Bool} (h : NumV K H v b) (s : Same H H') : NumV K H' v b := by
  cases h with
  | int i => exact .int i
  | bl b => exact .bl b
  | no h => exact .no (h.same s)
section
variable {P : Program} {w : World} {K : PySem.W.Frag} {mg : Str → Option Value} {base : Heap} {CE CH CO : Addr} {f : Addr} {fd : FuncData}
abbrev FD (K : PySem.W.Frag) (x qual : Str) (st : Stmt) (dvs : List V) (f : Addr) (fd : FuncData) : Prop := FunD K x qual (defArgs st) (defBody st) (defScope st) dvs [] f fd
theorem ok_hist (T : Tx K mg CE CH CO) (O : OexC K CH) (nf : PySem.W.findIn K (.ref CH) "position" = some none) (F : FD K "__init__" "InvalidHistory.__init__" s_InvalidHistoryinit [] f fd) : FnOk P w K mg base CX0 1 f fd ["self", "position"] (spXI CH "position") := by
  refine F.ok sc_InvalidHistoryinit (fun vs H Q E h => ?_) (fun cdv A outer s H vs Q E hr h => ?_)
  · obtain ⟨a, v, rfl, _⟩ := h
    rfl
  · obtain ⟨a, v, rfl, ha, q⟩ := h
    refine ⟨_, PSs.nox (pss_cons (ps_expr (pe_leinit T.le (by rfl) T.g_LeastlogError (pa_cons (pv 0) (pa_cons pe_str pa_nil)))) (pss_one (ps_ost (pv 0) (pv 1)))), ?_⟩
    refine ⟨_, rfl, a, CH, _, rfl, (by show 1 ≤ 1000; decide), O, ha, _, rfl, _, rfl, a, CH, rfl, O, nf, .inl ⟨ha, fun dx hd ne => q dx hd ne⟩⟩
theorem ok_ord (T : Tx K mg CE CH CO) (O : OexC K CO) (nf : PySem.W.findIn K (.ref CO) "value" = some none) (F : FD K "__init__" "InvalidCount.__init__" s_InvalidCountinit [] f fd) : FnOk P w K mg base CX0 1 f fd ["self", "value"] (spXI CO "value") := by
  refine F.ok sc_InvalidCountinit (fun vs H Q E h => ?_) (fun cdv A outer s H vs Q E hr h => ?_)
  · obtain ⟨a, v, rfl, _⟩ := h
    rfl
  · obtain ⟨a, v, rfl, ha, q⟩ := h
    refine ⟨_, PSs.nox (pss_cons (ps_expr (pe_leinit T.le (by rfl) T.g_LeastlogError (pa_cons (pv 0) (pa_cons pe_str pa_nil)))) (pss_one (ps_ost (pv 0) (pv 1)))), ?_⟩
    refine ⟨_, rfl, a, CO, _, rfl, (by show 1 ≤ 1000; decide), O, ha, _, rfl, _, rfl, a, CO, rfl, O, nf, .inl ⟨ha, fun dx hd ne => q dx hd ne⟩⟩
/-! ### is_number -/
def spNum (K : PySem.W.Frag) : Sp := fun vs H Q _ => ∃ v b, vs = [v] ∧ NumV K H v b ∧ Q (.bl b) H
theorem ok_is_number (T : Tx K mg CE CH CO) (F : FD K "is_number" "is_number" s_is_number [] f fd) : FnG P w K mg base CX0 1 f fd ["value"] (spNum K) := by
  refine ok0 F sc_is_number (fun vs H Q E h => ?_) (fun cdv A outer s H vs Q E hr h => ?_)
  · obtain ⟨v, b, rfl, _⟩ := h
    rfl
  · obtain ⟨v, b, rfl, h, q⟩ := h
    refine ⟨_, (pss_one (ps_ret (pe_and (pe_callB call_isi (by rfl) T.n_isinstance (by decide +kernel) (pa_cons (pv 0) (pa_cons (pe_bltn (v := .ty "int") (by rfl) T.n_int (by decide +kernel) rfl) pa_nil))) (pe_and (pe_not (pe_callB call_isi (by rfl) T.n_isinstance (by decide +kernel) (pa_cons (pv 0) (pa_cons (pe_bltn (v := .ty "bool") (by rfl) T.n_bool (by decide +kernel) rfl) pa_nil)))) (pe_one (pe_cmpR op_ge (pv 0) pe_int (nomark _))))))), ?_⟩
    cases h with
    | int i => exact ⟨_, rfl, _, _, .type "int", _, _, rfl, .ty "int", .base (.int _), kII, _, rfl, iteT ⟨_, rfl, _, _, .type "int", _, _, rfl, .ty "bool", .base (.int _), kIB, _, rfl, _, rfl, iteT ⟨_, rfl, _, _, rfl, rfl, q⟩⟩⟩
    | bl b => exact ⟨_, rfl, _, _, .type "bool", _, _, rfl, .ty "int", .base (.bl _), kBI, _, rfl, iteT ⟨_, rfl, _, _, .type "bool", _, _, rfl, .ty "bool", .base (.bl _), kBB, _, rfl, _, rfl, iteF q⟩⟩
    | no h =>
      obtain ⟨t, ty, kt⟩ := h
      exact ⟨_, rfl, _, _, t, _, _, rfl, .ty "int", ty H (.refl H), kt, _, rfl, iteF q⟩
/-! ### is_cell -/
def cellB (z : Str) : Bool := decide (1 ≤ z.length) && (decide (z.length ≤ 32) && z.cps.toList.all fun c => decide (c ∈ chs.cps.toList))
theorem cellB_iff {z : Str} : cellB z = true ↔ CellOk z := by
  unfold cellB CellOk
  rw [Bool.and_eq_true, Bool.and_eq_true, decide_eq_true_iff, decide_eq_true_iff, List.all_eq_true]
  simp only [decide_eq_true_iff]
/-- is it a cell? -/
inductive CellV (K : PySem.W.Frag) (H : Hp) : V → Bool → Prop
  | str (z : Str) : z.length ≤ 1000 → CellV K H (.str z) (cellB z)
  | no {v : V} : NoK K "str" H v → CellV K H v false
theorem CellV.ext {K : PySem.W.Frag} {H H' : Hp} {v : V} {b : Bool} (h : CellV K H v b) (s : LamX.ExtN H H') : CellV K H' v b := by
  cases h with
  | str z l => exact .str z l
  | no h => exact .no (h.ext s)
theorem CellV.same {K : PySem.W.Frag} {H H' : Hp} {v : V} {b : Bool} (h : CellV K H v b) (s : Same H H') : CellV K H' v b := by
  cases h with
  | str z l => exact .str z l
  | no h => exact .no (h.same s)
def spCell (K : PySem.W.Frag) : Sp := fun vs H Q _ => ∃ v b, vs = [v] ∧ CellV K H v b ∧ ∀ H', Same H H' → Q (.bl b) H'
theorem ok_is_cell (T : Tx K mg CE CH CO) (F : FD K "is_cell" "is_cell" s_is_cell [] f fd) : FnG P w K mg base CX0 1 f fd ["value"] (spCell K) := by
  refine ok0 F sc_is_cell (fun vs H Q E h => ?_) (fun cdv A outer s H vs Q E hr h => ?_)
  · obtain ⟨v, b, rfl, _⟩ := h
    rfl
  · obtain ⟨v, b, rfl, cv, q⟩ := h
    refine ⟨_, (pss_cons (ps_if (PW.pt (pw_or (pt_not (pt_val (pe_callB call_isi (by rfl) T.n_isinstance (by decide +kernel) (pa_cons (pv 0) (pa_cons (pe_bltn (v := .ty "str") (by rfl) T.n_str (by decide +kernel) rfl) pa_nil))))) (pw_or1 (pt_not (pt_chain op_le op_le pe_int (pe_callB call_len_str (by rfl) T.n_len (by decide +kernel) (pa_cons (pv 0) pa_nil)) (pe_gI T.g_LONGEST_CELL)))))) (pss_one (ps_ret pe_bl)) pss_nil)
      (pss_one (ps_ret (pe_callB (cr_all rfl) (by rfl) T.n_all (by decide +kernel) (pa_cons (pe_lc (own := [("character", 1)]) rfl sc_is_cell.nd (pi_str (pv 0)) (blkOk_by (own := [("character", 1)]) (N := n_is_cell) (sc := defScope s_is_cell) (by decide +kernel)) (fun _ _ _ _ _ => (pg_name (i := 1) sc_is_cell.nd rfl (by first | exact Or.inl rfl | exact Or.inr rfl))) (fun _ _ _ _ _ => pts_nil) (fun _ _ _ _ _ => (pe_cmpR op_in_sign (pv 1) (pe_gS T.g_CELL_CHARACTERS) (by rfl)))) pa_nil))))), ?_⟩
    cases cv with
    | no h =>
      obtain ⟨t, ty, kt⟩ := h
      exact ⟨_, rfl, _, _, t, _, _, rfl, .ty "str", ty H (.refl H), kt, _, rfl, iteT (q _ Same.rfl')⟩
    | str z lz =>
    have ls : z.length ≤ sizeLine := small (by omega)
    refine ⟨_, rfl, _, _, .type "str", _, _, rfl, .ty "str", .base (.str _), kStr, _, rfl, iteF ⟨_, rfl, z, rfl, ls, _, _, rfl, rfl, _, rfl, ?_⟩⟩
    by_cases c1 : 1 ≤ z.length
    · refine iteY (decide_eq_true (by omega)) ⟨_, _, rfl, rfl, _, rfl, ?_⟩
      by_cases c2 : z.length ≤ 32
      · refine iteN (by rw [decide_eq_true (by omega)]; rfl) ?_
        refine ⟨_, rfl, z, rfl, fun D hD => ?_⟩
        have ez : z.cps.toList.length = z.length := rfl
        have ez' : z.cps.size = z.length := rfl
        refine lc_acc (walk_str (z := z)) hD (fun i => ((z.cps.toList.take i).map fun c => decide (c ∈ chs.cps.toList)).map V.bl) rfl (fun i hi => ?_) (fun _ _ => trivial) ?_ ?_
        · rw [List.length_map, List.length_map, List.length_take]
          omega
        · rintro i x H2 H3 hi s2 ⟨rfl, c, hc, rfl⟩ N S hN hS
          rw [← Array.getElem?_toList] at hc
          refine ⟨rfl, _, rfl, c, chs, rfl, rfl, hN _ _ Same.rfl' ?_⟩
          rw [take_map _ hc, List.map_append]
          rfl
        · intro H2 s2 h2
          rw [ez', ← ez, List.take_length] at h2
          refine ⟨D, _, rfl, SqL.of h2, ?_⟩
          have e : ((z.cps.toList.map fun c => decide (c ∈ chs.cps.toList)).all id) = cellB z := by
            unfold cellB
            rw [decide_eq_true c1, decide_eq_true c2, List.all_map]
            rfl
          rw [e]
          exact q _ s2
      · refine iteY (by rw [decide_eq_false (by omega)]; rfl) ?_
        have e : cellB z = false := by
          unfold cellB
          rw [decide_eq_false c2, Bool.false_and, Bool.and_false]
        rw [e] at q
        exact q _ Same.rfl'
    · have e : cellB z = false := by
        unfold cellB
        rw [decide_eq_false c1, Bool.false_and]
      rw [e] at q
      exact iteN (decide_eq_false (by omega)) ⟨_, rfl, iteT (q _ Same.rfl')⟩
end
end K71

set_option Elab.async false
set_option linter.all false
set_option maxRecDepth 100000
set_option maxHeartbeats 2000000
/-! O72b: cells, footprints, histories are looked at, right and wrong ones. -/
namespace K71
open PySem PySem.Spec PyProof.Rows L2 LL ORD
def risB (l : List Str) : Bool := ((l.zip (l.drop 1)).map fun p => decide (lt' p.1 p.2)).all id
theorem risB_srt {l : List Str} (s : l.Pairwise lt') : risB l = true := by
  unfold risB
  rw [List.all_map, List.all_eq_true]
  intro p hp
  obtain ⟨i, hi⟩ := List.getElem?_of_mem hp
  rw [List.getElem?_zip_eq_some, List.getElem?_drop] at hi
  obtain ⟨h1, h2⟩ := hi
  obtain ⟨k1, e1⟩ := List.getElem?_eq_some_iff.mp h1
  obtain ⟨k2, e2⟩ := List.getElem?_eq_some_iff.mp h2
  have := List.pairwise_iff_getElem.mp s i (1 + i) k1 k2 (by omega)
  rw [e1, e2] at this
  exact decide_eq_true this
section
variable {P : Program} {w : World} {K : PySem.W.Frag} {mg : Str → Option Value} {base : Heap} {CE CH CO : Addr} {f : Addr} {fd : FuncData}
/-! ### are_cells -/
def NoTup (K : PySem.W.Frag) (H : Hp) (v : V) : Prop := NoK K "tuple" H v
/-- are they cells? -/
inductive CellsV (K : PySem.W.Frag) (H : Hp) : V → Bool → Prop
  | no {v : V} : NoTup K H v → CellsV K H v false
  | odd {a : Addr} {xs : List V} (bs : List Bool) : H a = some (.tup xs) → xs.length ≤ 20 → bs.length = xs.length → (∀ (i : Nat) x b, xs[i]? = some x → bs[i]? = some b → CellV K H x b) → bs.all id = false → CellsV K H (.ref a) false
  | ok {a : Addr} (cs : List Str) : H a = some (.tup (cs.map V.str)) → cs.length ≤ 20 → (∀ c ∈ cs, CellOk c) → CellsV K H (.ref a) (risB cs)
theorem tup_ext {H H' : Hp} {a : Addr} {xs : List V} (h : H a = some (.tup xs)) (s : LamX.ExtN H H') : H' a = some (.tup xs) := s _ _ h (fun _ z => by cases z)
theorem CellsV.ext {H H' : Hp} {v : V} {b : Bool} (h : CellsV K H v b) (s : LamX.ExtN H H') : CellsV K H' v b := by
  cases h with
  | no h => exact .no (h.ext s)
  | odd bs h l lb c o => exact .odd bs (tup_ext h s) l lb (fun i x b h1 h2 => (c i x b h1 h2).ext s) o
  | ok cs h l c => exact .ok cs (tup_ext h s) l c
theorem CellsV.same {H H' : Hp} {v : V} {b : Bool} (h : CellsV K H v b) (s : Same H H') : CellsV K H' v b := by
  cases h with
  | no h => exact .no (h.same s)
  | odd bs h l lb c o => exact .odd bs (s _ _ h) l lb (fun i x b h1 h2 => (c i x b h1 h2).same s) o
  | ok cs h l c => exact .ok cs (s _ _ h) l c
theorem CellsV.of {H : Hp} {a : Addr} {cs : List Str} (h : H a = some (.tup (cs.map V.str))) (o : CellsOk cs) : CellsV K H (.ref a) true := by
  have := CellsV.ok (K := K) cs h (by have := o.len; omega) o.ok
  rwa [risB_srt o.srt] at this
def spCells (K : PySem.W.Frag) : Sp := fun vs H Q _ => ∃ v b, vs = [v] ∧ CellsV K H v b ∧ ∀ H', Same H H' → Q (.bl b) H'
theorem walk_zipT {a b : Addr} {xs ys : List V} {n : Nat} (hn : n = min xs.length ys.length) : Walk (RZ.ItzT K a b) n (fun H => SqT K H a xs ∧ SqT K H b ys) (YPair (fun i => xs[i]?) (fun i => ys[i]?)) := by
  subst hn
  refine ⟨fun i H hi q => ?_, fun H q => ⟨xs, ys, q.1, q.2, by omega⟩, fun i H x H' hi q y => ?_⟩
  · exact ⟨xs, ys, xs[i]'(by omega), ys[i]'(by omega), q.1, q.2, List.getElem?_eq_getElem _, List.getElem?_eq_getElem _⟩
  · obtain ⟨T, x, z, h1, h2, h3, h4, h5⟩ := y
    exact ⟨T, x, z, h1, h2, h3, h4 xs q.1, h5 ys q.2⟩
theorem ok_are_cells (T : Tx K mg CE CH CO) (G_is_cell : Fnc P w K mg base CX0 1 "is_cell" [] (spCell K)) (F : FD K "are_cells" "are_cells" s_are_cells [] f fd) : FnG P w K mg base CX0 2 f fd ["value"] (spCells K) := by
  refine ok0 F sc_are_cells (fun vs H Q E h => ?_) (fun cdv A outer s H vs Q E hr h => ?_)
  · obtain ⟨v, b, rfl, _⟩ := h
    rfl
  · obtain ⟨v, b, rfl, cv, q⟩ := h
    refine ⟨_, (pss_cons (ps_if (PW.pt (pw_or (pt_not (pt_val (pe_callB call_isi (by rfl) T.n_isinstance (by decide +kernel) (pa_cons (pv 0) (pa_cons (pe_bltn (v := .ty "tuple") (by rfl) T.n_tuple (by decide +kernel) rfl) pa_nil))))) (pw_or1 (pt_not (pt_val (pe_callB (cr_all rfl) (by rfl) T.n_all (by decide +kernel) (pa_cons (pe_lc (own := [("cell", 1)]) rfl sc_are_cells.nd (pi_tup (pv 0)) (blkOk_by (own := [("cell", 1)]) (N := n_are_cells) (sc := defScope s_are_cells) (by decide +kernel)) (fun _ _ _ _ _ => (pg_name (i := 1) sc_are_cells.nd rfl (by first | exact Or.inl rfl | exact Or.inr rfl))) (fun _ _ _ _ _ => pts_nil) (fun _ _ _ _ _ => (pe_fn G_is_cell (hr.mono (by decide)) pass0 (pa_cons (pv 1) pa_nil)))) pa_nil))))))) (pss_one (ps_ret pe_bl)) pss_nil)
      (pss_one (ps_ret (pe_callB (cr_all rfl) (by rfl) T.n_all (by decide +kernel) (pa_cons (pe_lc (g := (gTup K 2 (gCons (gName 2) (gCons (gName 3) gNil)))) (own := [("one", 2), ("other", 3)]) rfl sc_are_cells.nd (RZ.pi_zipA (by rfl) T.n_zip (pa_cons (pv 0) (pa_cons (pe_slice sl_tupA (pv 0) (po_some pe_int) po_none) pa_nil))) (blkOk_by (own := [("one", 2), ("other", 3)]) (N := n_are_cells) (sc := defScope s_are_cells) (by decide +kernel)) (fun _ _ _ _ _ => (pg_tup rfl (pgs_cons (pg_name (i := 2) sc_are_cells.nd rfl (by first | exact Or.inl rfl | exact Or.inr rfl)) (pgs_cons (pg_name (i := 3) sc_are_cells.nd rfl (by first | exact Or.inl rfl | exact Or.inr rfl)) pgs_nil)))) (fun _ _ _ _ _ => pts_nil) (fun _ _ _ _ _ => (pe_cmpR op_lt_str (pv 2) (pv 3) (nomark _)))) pa_nil))))), ?_⟩
    have step : ∀ {a : Addr} {xs : List V} {bs : List Bool}, H a = some (.tup xs) → xs.length ≤ 20 → bs.length = xs.length → (∀ (i : Nat) x b, xs[i]? = some x → bs[i]? = some b → CellV K H x b) → True := fun _ _ _ _ => trivial
    cases cv with
    | no h =>
      obtain ⟨t, ty, kt⟩ := h
      exact ⟨_, rfl, _, _, t, _, _, rfl, .ty "tuple", ty H (.refl H), kt, _, rfl, iteT (q _ Same.rfl')⟩
    | @odd a xs bs ha l lb cs od =>
      refine ⟨_, rfl, _, _, .type "tuple", _, _, rfl, .ty "tuple", .base (.tup ha), kTT, _, rfl, iteF ⟨_, rfl, a, rfl, ⟨_, SqT.of ha⟩, fun D hD => ?_⟩⟩
      refine lc_acc (walk_tup (K := K) (a := a) (xs := xs)) hD (fun i => (bs.take i).map V.bl) rfl (fun i hi => ?_) (fun H' s' => SqT.of (s' _ _ ha)) ?_ ?_
      · rw [List.length_map, List.length_take]
        omega
      · rintro i x H2 H3 hi s2 ⟨rfl, hx⟩ N S hN hS
        have hb := List.getElem?_eq_getElem (show i < bs.length by omega)
        exact ⟨rfl, _, rfl, x, _, rfl, (cs i x _ hx hb).same s2, fun H4 s4 => hN _ _ s4 (take_map _ hb)⟩
      intro H2 s2 h2
      rw [List.take_of_length_le (by omega)] at h2
      exact ⟨D, _, rfl, SqL.of h2, _, rfl, iteY (by rw [od]; rfl) (q _ s2)⟩
    | @ok a l ha ln okc =>
      refine ⟨_, rfl, _, _, .type "tuple", _, _, rfl, .ty "tuple", .base (.tup ha), kTT, _, rfl, iteF ⟨_, rfl, a, rfl, ⟨_, SqT.of ha⟩, fun D hD => ?_⟩⟩
      refine lc_acc (walk_tup (K := K) (a := a) (xs := l.map V.str)) hD (fun i => (List.replicate i true).map V.bl) rfl (fun i hi => ?_) (fun H' s' => SqT.of (s' _ _ ha)) ?_ ?_
      · rw [List.length_map] at hi
        rw [List.length_map, List.length_replicate]
        omega
      · rintro i x H2 H3 hi s2 ⟨rfl, hx⟩ N S hN hS
        obtain ⟨c, hc, rfl⟩ : ∃ c, c ∈ l ∧ x = .str c := by
          rw [List.getElem?_map] at hx
          obtain ⟨c, h1, h2⟩ := Option.map_eq_some_iff.mp hx
          exact ⟨c, List.mem_of_getElem? h1, h2.symm⟩
        have co := okc c hc
        have cv := CellV.str (K := K) (H := H3) c (by have := co.2.1; omega)
        rw [cellB_iff.mpr co] at cv
        exact ⟨rfl, _, rfl, .str c, true, rfl, cv, fun H4 s4 => hN _ _ s4 (rep_succ i)⟩
      intro H2 s2 h2
      refine ⟨D, _, rfl, SqL.of h2, _, rfl, iteN (by rw [rep_all]; rfl) ?_⟩
      have ha2 := s2 _ _ ha
      refine ⟨_, rfl, _, rfl, _, rfl, a, _, rfl, SqT.of ha2, fun z => ?_, fun z b hb => ?_⟩
      · -- the whole: there is none
        have l0 : l = [] := by
          cases l with
          | nil => rfl
          | cons c l =>
            have z1 := z.1
            rw [show ((1 : Int)) = ((1 : Nat) : Int) from rfl, HT.sIx_nat] at z1
            simp at z1
        subst l0
        refine ⟨a, a, _, _, rfl, .inr ⟨SqT.of ha2, SqT.of ha2, fun D2 hD2 => ?_⟩⟩
        refine lc_acc (walk_zipT (K := K) (a := a) (b := a) (xs := []) (ys := []) (n := 0) rfl) hD2 (fun _ => []) rfl (fun i hi => absurd hi (Nat.not_lt_zero _)) (fun H' s' => ⟨SqT.of (s' _ _ ha2), SqT.of (s' _ _ ha2)⟩) (fun i x _ _ hi => absurd hi (Nat.not_lt_zero _)) fun H3 s3 h3 => ?_
        exact ⟨D2, [], rfl, SqL.of h3, q _ (s2.trans s3)⟩
      · rw [show ((1 : Int)) = ((1 : Nat) : Int) from rfl, cutV_from]
        obtain ⟨G, e, s3, hb3⟩ := mkO hb (.tup ((l.map V.str).drop 1))
        rw [e]
        clear e
        have ha3 := s3 _ _ ha2
        have lz : (l.zip (l.drop 1)).length = min (l.map V.str).length ((l.map V.str).drop 1).length := by
          rw [List.length_zip, List.length_drop, List.length_drop, List.length_map]
        refine ⟨a, b, _, _, rfl, .inr ⟨SqT.of ha3, SqT.of hb3, fun D2 hD2 => ?_⟩⟩
        refine lc_acc (walk_zipT (K := K) (a := a) (b := b) (xs := l.map V.str) (ys := (l.map V.str).drop 1) rfl) hD2 (fun i => (((l.zip (l.drop 1)).take i).map fun p => decide (lt' p.1 p.2)).map V.bl) rfl (fun i hi => ?_) (fun H' s' => ⟨SqT.of (s' _ _ ha3), SqT.of (s' _ _ hb3)⟩) ?_ fun H4 s4 h4 => ?_
        · rw [List.length_map, List.length_map, List.length_take]
          rw [List.length_map] at hi
          omega
        · rintro i x H4 H5 hi s4 ⟨t, u, v, rfl, nt, rfl, hu, hv⟩ N S hN hS
          have hu' : (l.map V.str)[i]? = some u := hu
          have hv' : ((l.map V.str).drop 1)[i]? = some v := hv
          rw [List.getElem?_map] at hu'
          rw [List.getElem?_drop, List.getElem?_map] at hv'
          obtain ⟨c, h1, rfl⟩ := Option.map_eq_some_iff.mp hu'
          obtain ⟨d, h2', rfl⟩ := Option.map_eq_some_iff.mp hv'
          have hz : (l.zip (l.drop 1))[i]? = some (c, d) := by
            rw [List.getElem?_zip_eq_some, List.getElem?_drop]
            exact ⟨h1, h2'⟩
          refine ⟨t, _, rfl, SqT.of upd_same, rfl, _, _, rfl, _, _, rfl, rfl, rfl, _, rfl, _, rfl, _, _, rfl, rfl, ?_⟩
          refine hN _ _ (same_upd nt) ?_
          rw [take_map _ hz, List.map_append]
          rfl
        · rw [← lz, List.take_length] at h4
          exact ⟨D2, _, rfl, SqL.of h4, q _ ((s2.trans s3).trans s4)⟩
/-! ### is_footprint -/
def lt8 : V → Bool
  | .int i => decide (i < 8)
  | _ => true
inductive FpV (K : PySem.W.Frag) (H : Hp) : V → Bool → Prop
  | no {v : V} : NoTup K H v → FpV K H v false
  | len {a : Addr} {xs : List V} : H a = some (.tup xs) → xs.length ≠ 3 → FpV K H (.ref a) false
  | tup {a : Addr} {x r w : V} {bx br bw : Bool} : H a = some (.tup [x, r, w]) → NumV K H x bx → CellsV K H r br → CellsV K H w bw → FpV K H (.ref a) (bx && (lt8 x && (br && bw)))
theorem FpV.ext {H H' : Hp} {v : V} {b : Bool} (h : FpV K H v b) (s : LamX.ExtN H H') : FpV K H' v b := by
  cases h with
  | no h => exact .no (h.ext s)
  | len h n => exact .len (tup_ext h s) n
  | tup h n r w => exact .tup (tup_ext h s) (n.ext s) (r.ext s) (w.ext s)
theorem FpV.same {H H' : Hp} {v : V} {b : Bool} (h : FpV K H v b) (s : Same H H') : FpV K H' v b := by
  cases h with
  | no h => exact .no (h.same s)
  | len h n => exact .len (s _ _ h) n
  | tup h n r w => exact .tup (s _ _ h) (n.same s) (r.same s) (w.same s)
theorem numN {H : Hp} (n : Nat) : NumV K H (.int (n : Nat)) true := by
  have := NumV.int (K := K) (H := H) (n : Nat)
  rwa [decide_eq_true (by omega)] at this
theorem FpV.of {H : Hp} {v : V} {g : Fp} (h : FpAt H v g) (o : FpOk g) : FpV K H v true := by
  obtain ⟨t, r, x, rfl, ht, hr, hx⟩ := h
  have := FpV.tup (K := K) ht (numN g.lane) (.of hr o.rd) (.of hx o.wr)
  rwa [show lt8 (.int (g.lane : Nat)) = true from decide_eq_true (by have := o.lane; omega)] at this
def spFp (K : PySem.W.Frag) : Sp := fun vs H Q _ => ∃ v b, vs = [v] ∧ FpV K H v b ∧ ∀ H', Same H H' → Q (.bl b) H'
theorem ok_is_footprint (T : Tx K mg CE CH CO) (G_is_number : Fnc P w K mg base CX0 1 "is_number" [] (spNum K)) (G_are_cells : Fnc P w K mg base CX0 2 "are_cells" [] (spCells K)) (F : FD K "is_footprint" "is_footprint" s_is_footprint [] f fd) : FnG P w K mg base CX0 3 f fd ["value"] (spFp K) := by
  refine ok0 F sc_is_footprint (fun vs H Q E h => ?_) (fun cdv A outer s H vs Q E hr h => ?_)
  · obtain ⟨v, b, rfl, _⟩ := h
    rfl
  · obtain ⟨v, b, rfl, h, q⟩ := h
    refine ⟨_, (pss_cons (ps_if (PW.pt (pw_or (pt_not (pt_val (pe_callB call_isi (by rfl) T.n_isinstance (by decide +kernel) (pa_cons (pv 0) (pa_cons (pe_bltn (v := .ty "tuple") (by rfl) T.n_tuple (by decide +kernel) rfl) pa_nil))))) (pw_or1 (pt_cmpR op_ne (pe_callB call_len_seq (by rfl) T.n_len (by decide +kernel) (pa_cons (pv 0) pa_nil)) pe_int (nomark _))))) (pss_one (ps_ret pe_bl)) pss_nil)
      (pss_cons (ps_asg (pv 0) (pg_tup rfl (pgs_cons (pg_name (i := 1) sc_is_footprint.nd rfl (by first | exact Or.inl rfl | exact Or.inr rfl)) (pgs_cons (pg_name (i := 2) sc_is_footprint.nd rfl (by first | exact Or.inl rfl | exact Or.inr rfl)) (pgs_cons (pg_name (i := 3) sc_is_footprint.nd rfl (by first | exact Or.inl rfl | exact Or.inr rfl)) pgs_nil)))))
      (pss_one (ps_ret (pe_and (pe_fn G_is_number (hr.mono (by decide)) pass0 (pa_cons (pv 1) pa_nil)) (pe_and (pe_cmpR op_lt (pv 1) (pe_gI T.g_MOST_LANES) (nomark _)) (pe_and (pe_fn G_are_cells (hr.mono (by decide)) pass0 (pa_cons (pv 2) pa_nil)) (pe_one (pe_fn G_are_cells (hr.mono (by decide)) pass0 (pa_cons (pv 3) pa_nil)))))))))), ?_⟩
    cases h with
    | no h =>
      obtain ⟨t, ty, kt⟩ := h
      exact ⟨_, rfl, _, _, t, _, _, rfl, .ty "tuple", ty H (.refl H), kt, _, rfl, iteT (q _ Same.rfl')⟩
    | @len t xs ht n =>
      exact ⟨_, rfl, _, _, .type "tuple", _, _, rfl, .ty "tuple", .base (.tup ht), kTT, _, rfl, iteF ⟨_, rfl, t, _, rfl, .inr (SqT.of ht), rfl, _, rfl, iteY (by rw [dec_ne (by omega)]; rfl) (q _ Same.rfl')⟩⟩
    | @tup t x r w bx br bw ht nx cr cw =>
      refine ⟨_, rfl, _, _, .type "tuple", _, _, rfl, .ty "tuple", .base (.tup ht), kTT, _, rfl, iteF ⟨_, rfl, t, _, rfl, .inr (SqT.of ht), rfl, _, rfl, iteN (by rw [dec_eq (show ((([x, r, w] : List V).length : Nat) : Int) = 3 from rfl)]; rfl) ?_⟩⟩
      refine ⟨_, rfl, t, _, rfl, SqT.of ht, rfl, _, _, rfl, _, _, rfl, _, _, rfl, rfl, ?_⟩
      refine ⟨_, rfl, x, bx, rfl, nx, _, rfl, ?_⟩
      cases bx with
      | false => exact iteF (q _ Same.rfl')
      | true =>
        obtain ⟨i, rfl⟩ : ∃ i : Int, x = .int i := by
          generalize hb : true = b at nx
          cases nx with
          | int i => exact ⟨i, rfl⟩
          | bl b => cases hb
          | no h => cases hb
        refine iteT ⟨_, rfl, _, _, rfl, rfl, _, rfl, ?_⟩
        show if (decide (i < 8)) = true then _ else _
        have e8 : lt8 (.int i) = decide (i < 8) := rfl
        rw [e8] at q
        cases c8 : decide (i < 8) with
        | false =>
          rw [c8] at q
          exact iteF (q _ Same.rfl')
        | true =>
          rw [c8] at q
          refine iteT ⟨_, rfl, r, br, rfl, cr, fun H1 s1 => ⟨_, rfl, ?_⟩⟩
          cases br with
          | false => exact iteF (q _ s1)
          | true => exact iteT ⟨_, rfl, w, bw, rfl, cw.same s1, fun H2 s2 => q _ (s1.trans s2)⟩
/-! ### check_history -/
/-- what is no list and no tuple -/
def NoLt (K : PySem.W.Frag) (H : Hp) (v : V) : Prop := ∃ t, (∀ H', LamX.ExtN H H' → TyX K H' v t) ∧ PySem.W.kitOne K t (.type "list") = some false ∧ PySem.W.kitOne K t (.type "tuple") = some false
theorem NoLt.ext {H H' : Hp} {v : V} (h : NoLt K H v) (s : LamX.ExtN H H') : NoLt K H' v := let ⟨t, a, b⟩ := h; ⟨t, fun H2 s2 => a H2 (s.trans s2), b⟩
theorem NoLt.same {H H' : Hp} {v : V} (h : NoLt K H v) (s : Same H H') : NoLt K H' v := h.ext (.of s)
theorem kitA {t : Value} {b c : Bool} (h1 : PySem.W.kitOne K t (.type "list") = some b) (h2 : PySem.W.kitOne K t (.type "tuple") = some c) : PySem.W.kitAny K t [.type "list", .type "tuple"] = some (b || c) := by
  cases b <;> cases c <;> simp [PySem.W.kitAny, h1, h2]
/-- a history up to place k, what stands there is none -/
def BadAt (K : PySem.W.Frag) (H : Hp) (v : V) (k : Nat) : Prop := ∃ (a : Addr) (vs : List V) (u : V), v = .ref a ∧ Lt H a vs ∧ (∀ i x, i < k → vs[i]? = some x → FpV K H x true) ∧ vs[k]? = some u ∧ FpV K H u false
theorem BadAt.same {H H' : Hp} {v : V} {k : Nat} (h : BadAt K H v k) (s : Same H H') : BadAt K H' v k := by
  obtain ⟨a, vs, u, e, l, all, hu, z⟩ := h
  exact ⟨a, vs, u, e, l.same s, fun i x hi hx => (all i x hi hx).same s, hu, z.same s⟩
/-- the error that is due -/
def HErr (K : PySem.W.Frag) (CH : Addr) (H : Hp) (v : V) (E : XK) : Prop := (NoLt K H v ∧ ErF CH "position" H .non E) ∨ ∃ k, BadAt K H v k ∧ ErF CH "position" H (.int (k : Nat)) E
theorem HErr.same {H H' : Hp} {v : V} {E : XK} (h : HErr K CH H v E) (s : Same H H') : HErr K CH H' v E := h.imp (fun h => ⟨h.1.same s, h.2.same s⟩) fun ⟨k, h⟩ => ⟨k, h.1.same s, h.2.same s⟩
def spChk (K : PySem.W.Frag) (CH : Addr) : Sp := fun vs H Q E => ∃ v, vs = [v] ∧ ((∃ (a : Addr) (h : Hs), v = .ref a ∧ HsAt H a h ∧ HsOk h ∧ ∀ H', Same H H' → Q .non H') ∨ HErr K CH H v E)
theorem ty_lt {H : Hp} {a : Addr} {vs : List V} (h : Lt H a vs) : ∃ t, TyX K H (.ref a) t ∧ PySem.W.kitAny K t [.type "list", .type "tuple"] = some true := by
  rcases h with h | h
  · exact ⟨.type "list", .base (.lst h), kitA kLL kLT⟩
  · exact ⟨.type "tuple", .base (.tup h), kitA kTL kTT⟩
end
end K71

set_option Elab.async false
set_option linter.all false
set_option maxRecDepth 100000
set_option maxHeartbeats 2000000
/-! LLEq: data of None, ints, texts, lists and tuples: == is equality. -/
namespace LL
open PySem PySem.Spec PyProof.Rows L2
/-- such data, at most n deep -/
def Pn : Nat → PyData → Prop
  | _, .none => True
  | _, .int _ => True
  | _, .str x => PyData.strOk x = true
  | n + 1, .list xs => ∀ d ∈ xs, Pn n d
  | n + 1, .tuple xs => ∀ d ∈ xs, Pn n d
  | _, _ => False
theorem lay_all : ∀ {xs : List PyData}, (∀ d ∈ xs, d.canLay0 = true) → PyData.canLayAll0 xs = true
  | [], _ => by simp only [PyData.canLayAll0]
  | x :: xs, h => by
    simp only [PyData.canLayAll0]
    rw [h x (List.mem_cons_self ..), lay_all fun d hd => h d (List.mem_cons_of_mem _ hd)]
    rfl
theorem depth_all {n : Nat} : ∀ {xs : List PyData}, (∀ d ∈ xs, d.depth ≤ n) → PyData.depthAll xs ≤ n
  | [], _ => by simp only [PyData.depthAll]; exact Nat.zero_le _
  | x :: xs, h => by
    simp only [PyData.depthAll]
    exact Nat.max_le.mpr ⟨h x (List.mem_cons_self ..), depth_all fun d hd => h d (List.mem_cons_of_mem _ hd)⟩
theorem Pn.lay : ∀ {n : Nat} {d : PyData}, Pn n d → d.canLay0 = true ∧ d.depth ≤ n
  | n, .none, _ => ⟨by simp only [PyData.canLay0], by simp only [PyData.depth]; exact Nat.zero_le _⟩
  | n, .int _, _ => ⟨by simp only [PyData.canLay0], by simp only [PyData.depth]; exact Nat.zero_le _⟩
  | n, .str x, h => ⟨by simp only [PyData.canLay0]; cases n <;> exact h, by simp only [PyData.depth]; exact Nat.zero_le _⟩
  | n + 1, .list xs, h => ⟨by simp only [PyData.canLay0]; exact lay_all fun d hd => (Pn.lay (h d hd)).1, by simp only [PyData.depth]; exact Nat.succ_le_succ (depth_all fun d hd => (Pn.lay (h d hd)).2)⟩
  | n + 1, .tuple xs, h => ⟨by simp only [PyData.canLay0]; exact lay_all fun d hd => (Pn.lay (h d hd)).1, by simp only [PyData.depth]; exact Nat.succ_le_succ (depth_all fun d hd => (Pn.lay (h d hd)).2)⟩
  | 0, .list _, h => h.elim
  | 0, .tuple _, h => h.elim
  | 0, .bool _, h => h.elim
  | n + 1, .bool _, h => h.elim
  | 0, .dict _, h => h.elim
  | n + 1, .dict _, h => h.elim
theorem Pn.shp {n : Nat} {d : PyData} (h : Pn n d) (hn : n ≤ 60) : SeqAt.shaped d = true := by
  obtain ⟨a, b⟩ := h.lay
  unfold SeqAt.shaped
  rw [a, Bool.true_and]
  exact decide_eq_true (by omega)
theorem eqv_all : ∀ {xs ys : List PyData}, (∀ d ∈ xs, ∀ e ∈ ys, (PyData.eqv d e = true ↔ d = e)) → (PyData.eqvAll xs ys = true ↔ xs = ys)
  | [], [], _ => by simp [PyData.eqvAll]
  | [], _ :: _, _ => by simp [PyData.eqvAll]
  | _ :: _, [], _ => by simp [PyData.eqvAll]
  | x :: xs, y :: ys, h => by
    simp only [PyData.eqvAll, Bool.and_eq_true, List.cons.injEq]
    exact and_congr (h x (List.mem_cons_self ..) y (List.mem_cons_self ..)) (eqv_all fun d hd e he => h d (List.mem_cons_of_mem _ hd) e (List.mem_cons_of_mem _ he))
theorem Pn.no_bool {n : Nat} {b : Bool} : ¬ Pn n (.bool b) := by cases n <;> exact fun h => h
theorem Pn.no_dict {n : Nat} {b : List (PyData × PyData)} : ¬ Pn n (.dict b) := by cases n <;> exact fun h => h
theorem Pn.eqv : ∀ {n m : Nat} {d e : PyData}, Pn n d → Pn m e → (PyData.eqv d e = true ↔ d = e) := by
  intro n
  induction n with
  | zero =>
    intro m d e hd he
    cases d <;> cases e <;> first | exact hd.elim | exact absurd he Pn.no_bool | exact absurd he Pn.no_dict | simp [PyData.eqv]
  | succ n ih =>
    intro m d e hd he
    cases d with
    | list xs =>
      cases e with
      | list ys =>
        cases m with
        | zero => exact he.elim
        | succ m =>
          simp only [PyData.eqv, PyData.list.injEq]
          exact eqv_all fun d hd' e he' => ih (hd d hd') (he e he')
      | bool b => exact absurd he Pn.no_bool
      | dict b => exact absurd he Pn.no_dict
      | _ => simp [PyData.eqv]
    | tuple xs =>
      cases e with
      | tuple ys =>
        cases m with
        | zero => exact he.elim
        | succ m =>
          simp only [PyData.eqv, PyData.tuple.injEq]
          exact eqv_all fun d hd' e he' => ih (hd d hd') (he e he')
      | bool b => exact absurd he Pn.no_bool
      | dict b => exact absurd he Pn.no_dict
      | _ => simp [PyData.eqv]
    | bool b => exact hd.elim
    | dict b => exact hd.elim
    | _ => cases e <;> first | exact absurd he Pn.no_bool | exact absurd he Pn.no_dict | simp [PyData.eqv]
theorem dec_b {b : Bool} {p : Prop} (h : b = true ↔ p) : (p → b = true) ∧ (¬ p → b = false) := ⟨h.mpr, fun n => Bool.eq_false_iff.mpr fun z => n (h.mp z)⟩
section
variable {K : PySem.W.Frag} {H : Hp} {x y : V} {d e : PyData} {n m : Nat} {Q : VK}
theorem eq_pd (hx : Dp K H x d) (hy : Dp K H y e) (pd : Pn n d) (pe : Pn m e) (q : ∀ b, (b = true ↔ d = e) → Q (.bl b) H) (hn : n ≤ 60 := by decide) (hm : m ≤ 60 := by decide) : rEqD K x y H Q := ⟨d, e, hx, hy, pd.shp hn, pe.shp hm, q _ (pd.eqv pe)⟩
theorem ne_pd (hx : Dp K H x d) (hy : Dp K H y e) (pd : Pn n d) (pe : Pn m e) (q : ∀ b, (b = true ↔ d = e) → Q (.bl (!b)) H) (hn : n ≤ 60 := by decide) (hm : m ≤ 60 := by decide) : rNeD K x y H Q := ⟨d, e, hx, hy, pd.shp hn, pe.shp hm, q _ (pd.eqv pe)⟩
end
mutual
theorem Dp.same {K : PySem.W.Frag} {H H' : Hp} (s : Same H H') : ∀ {v : V} {d : PyData}, Dp K H v d → Dp K H' v d
  | _, _, .non => .non
  | _, _, .bl b => .bl b
  | _, _, .int i => .int i
  | _, _, .str x => .str x
  | _, _, .lst h a => .lst (sqL_same h s) (DpAll.same s a)
  | _, _, .tup h a => .tup (sqT_same h s) (DpAll.same s a)
theorem DpAll.same {K : PySem.W.Frag} {H H' : Hp} (s : Same H H') : ∀ {vs : List V} {ds : List PyData}, DpAll K H vs ds → DpAll K H' vs ds
  | _, _, .nil => .nil
  | _, _, .cons h a => .cons (Dp.same s h) (DpAll.same s a)
end
theorem dpa_map {K : PySem.W.Frag} {H : Hp} {α : Type} {f : α → V} {g : α → PyData} : ∀ {l : List α}, (∀ x ∈ l, Dp K H (f x) (g x)) → DpAll K H (l.map f) (l.map g)
  | [], _ => .nil
  | x :: l, h => .cons (h x (List.mem_cons_self ..)) (dpa_map fun y hy => h y (List.mem_cons_of_mem _ hy))
theorem dpa_at {K : PySem.W.Frag} {H : Hp} : ∀ {vs : List V} {ds : List PyData}, vs.length = ds.length → (∀ (i : Nat) v d, vs[i]? = some v → ds[i]? = some d → Dp K H v d) → DpAll K H vs ds
  | [], [], _, _ => .nil
  | v :: vs, d :: ds, hl, h => .cons (h 0 v d rfl rfl) (dpa_at (by simpa using hl) fun i v d h1 h2 => h (i + 1) v d h1 h2)
  | [], _ :: _, hl, _ => by cases hl
  | _ :: _, [], hl, _ => by cases hl
theorem pn_ints (l : List Int) : Pn 1 (.list (l.map PyData.int)) := fun d hd => by
  obtain ⟨i, _, rfl⟩ := List.mem_map.mp hd
  trivial
theorem dp_ints {K : PySem.W.Frag} {H : Hp} {a : Addr} {l : List Int} (h : H a = some (.lst (l.map V.int))) : Dp K H (.ref a) (.list (l.map PyData.int)) := .lst (SqL.of h) (dpa_map fun i _ => .int i)
theorem int_inj {a b : List Int} (h : a.map PyData.int = b.map PyData.int) : a = b := List.map_inj_right (fun x y e => PyData.int.inj e) |>.mp h
theorem Lt.keep {H H' : Hp} {a : Addr} {us : List V} (h : Lt H a us) (s : Same H H') : H' a = H a := by
  rcases h with h | h <;> rw [h, s _ _ h]
/-- a walk of a list or a tuple that stands -/
theorem seq_lt {K : PySem.W.Frag} {tl : TE} {σ : L2.St} {H : Hp} {a : Addr} {us : List V} {R : It → Hp → Prop} (h : Lt H a us) (hq : ∀ Q : VK, Q (.ref a) H → tl σ H Q) (k : ∀ J, Walk J us.length (fun H' => H' a = H a) (YAt us) → R J H) : iSeqA K tl σ H R := by
  rcases h with h | h
  · exact .inl (hq _ ⟨a, rfl, ⟨us, SqL.of h⟩, k _ ((walk_list (K := K)).mono (fun H' s => SqL.of (s.trans h)) fun _ _ _ _ _ _ y => y)⟩)
  · exact .inr (hq _ ⟨a, rfl, ⟨us, SqT.of h⟩, k _ ((walk_tup (K := K)).mono (fun H' s => SqT.of (s.trans h)) fun _ _ _ _ _ _ y => y)⟩)
theorem putK_len {κ : Type} [DecidableEq κ] (kvs : List (κ × V)) (k : κ) (v : V) : (putK kvs k v).length ≤ kvs.length + 1 := by
  unfold putK
  split
  · rw [List.length_map]
    exact Nat.le_succ _
  · rw [List.length_append]
    exact Nat.le_refl _
theorem all_dec {α : Type} (l : List α) (p : α → Bool) : ((l.map p).all id) = l.all p := by rw [List.all_map]; rfl
end LL

set_option Elab.async false
set_option linter.all false
set_option maxRecDepth 100000
set_option maxHeartbeats 2000000
/-! LLNest: rules for what stands within a comprehension; the scope of a comprehension in a text. -/
namespace LL
open PySem PySem.Spec PyProof.Rows L2
section
variable {X : Cx} {K : PySem.W.Frag} {tg l : Expr} {tl : TE}
theorem pi_listK (h : X.K = K) (hl : PE X l tl) : PI X tg l (iList K tl) := h ▸ pi_list hl
theorem op_eqDK (h : X.K = K) (hu : X.A.units + 64 < cLine) : OpR X (compareOp .Eq) (rEqD K) := h ▸ op_eqD hu
theorem op_neDK (h : X.K = K) (hu : X.A.units + 64 < cLine) : OpR X (compareOp .NotEq) (rNeD K) := h ▸ op_neD hu
theorem sl_listK (h : X.K = K) : SlR X (rSlL K) := h ▸ sl_list
end
def stIn (b : List Stmt) (i : Nat) : Stmt := b.getD i (.Pass ⟨0, 0, 0, 0⟩)
def forBody : Stmt → List Stmt
  | .For _ _ b _ _ => b
  | _ => []
def asgVal : Stmt → Expr
  | .Assign _ e _ => e
  | _ => .Name "" ⟨0, 0, 0, 0⟩
def compSc : Expr → Scope
  | .ListComp _ _ sc _ => sc
  | _ => defScope (.Pass ⟨0, 0, 0, 0⟩)
end LL

set_option Elab.async false
set_option linter.all false
set_option maxRecDepth 100000
set_option maxHeartbeats 2000000
/-! LLSlots: a def called in a try's body: what is raised is wished for at the slots that stand then. -/
namespace LL
open PySem PySem.Spec PyProof.Rows L2
section
variable {X : Cx} {CX : CXT} {k : Nat} {sp : Sp} {dvs : List V} {E : L2.St → XK} {x : Str} {p pos : Pos} {e : Expr} {es : List Expr} {t : TA}
theorem pe_fnS (G : Fnc X.prog X.w X.K X.mg X.base CX k x dvs sp) (hr : Rm k X.A) (hx : ∀ σ, PassesAt CX X σ (E σ)) (ha : PA X (e :: es) t) (hg : Gl X x := by rfl) (hdb : (x == ("__debug__" : Str)) = false := by decide)
    (he : starEach (e :: es) X.env = (false, eval e X.env) :: starEach es X.env := by rfl) (hpl : (backTo pos (starEach es X.env)).any (·.1) = false := by rfl) : PE X (.Call (.Name x p) (e :: es) [] pos) (tCallSD sp dvs E t) := by
  obtain ⟨f, fd, ps, ds, hm, hk, hb, hd, F⟩ := G.ex
  refine ⟨fun pins s σ H Q I h => wpAny_Call_Name_kw (ld_glob I hg hm (PySem.W.callWith_K (h₀ := X.base) I.ok.mod.kin hk (thn (ha.run pos pins s σ H _ I h) fun us s1 z => ?_) he hpl) hdb)⟩
  obtain ⟨vs, H1, I1, r, q⟩ := z
  have r2 : Vals (vs ++ dvs) (us ++ ds) := r.append hd
  have hl : (us ++ ds).length = ps.length := r2.length.symm.trans (F.len _ _ _ _ q)
  refine ⟨I1.kIn, wpAny_call (codeAny_mono (F.run X.A X.stack s1 H1 ⟨us, []⟩ (us ++ ds) (vs ++ dvs) Q (E σ) hr I1.env0 (hb s1 us I1.kIn hl) r2 q) fun r s' hq => ?_)⟩
  match r, hq with
  | .error er, hq => exact hx σ pins H1 s1 er s' I1 hq
  | .ok (.ret u), hq => exact I1.after hq
  | .ok .next, hq => exact False.elim hq
  | .ok .brk, hq => exact False.elim hq
  | .ok .cont, hq => exact False.elim hq
end
theorem look_f (f : Str) (v : V) : ([(f, v)] : List (Str × V)).lookup f = some v := by
  rw [show ([(f, v)] : List (Str × V)) = putF f v [] from rfl, lookup_putF, if_pos rfl]
section
variable {K : PySem.W.Frag}
theorem kNoneL : PySem.W.kitOne K (.type "NoneType") (.type "list") = some false := kit_ty (by decide +kernel)
theorem kNoneT : PySem.W.kitOne K (.type "NoneType") (.type "tuple") = some false := kit_ty (by decide +kernel)
theorem kIntL : PySem.W.kitOne K (.type "int") (.type "list") = some false := kit_ty (by decide +kernel)
theorem kIntT : PySem.W.kitOne K (.type "int") (.type "tuple") = some false := kit_ty (by decide +kernel)
theorem kStrL : PySem.W.kitOne K (.type "str") (.type "list") = some false := kit_ty (by decide +kernel)
theorem kStrT : PySem.W.kitOne K (.type "str") (.type "tuple") = some false := kit_ty (by decide +kernel)
theorem kDicL : PySem.W.kitOne K (.type "dict") (.type "list") = some false := kit_ty (by decide +kernel)
theorem kDicT : PySem.W.kitOne K (.type "dict") (.type "tuple") = some false := kit_ty (by decide +kernel)
end
end LL

set_option Elab.async false
set_option linter.all false
set_option maxRecDepth 100000
set_option maxHeartbeats 2000000
/-! LLExb: own error classes over LookupError, RuntimeError, ArithmeticError, with one field or two. -/
namespace LL
open PySem PySem.Spec PyProof.Rows L2
/-- what is known of a built-in error class -/
structure Bas (B nI iI : String) (tl : List Value) : Prop where
  eb : ExcBaseFacts B nI iI tl
  st : StoreFacts B tl "object.__setattr__" "object"
  ty : typeOf (.type B) = pure (.type "type")
  sb : Manifest.isStub B = false
  hi : PySem.W.handedIn (.builtin iI) = true
  bt : bootBuiltins (Str.ofString B) = some (.type B)
  n1 : Str.ofString B ≠ "__name__"
  n2 : (Str.ofString B == ("__debug__" : Str)) = false
theorem bas_L : Bas "LookupError" "LookupError.__new__" "LookupError.__init__" [.type "LookupError", .type "Exception", .type "BaseException", .type "object"] := ⟨F.excBase_LookupError, F.store_LookupError, by kernel_rfl, by decide +kernel, by decide +kernel, by decide +kernel, by decide +kernel, by decide +kernel⟩
theorem bas_R : Bas "RuntimeError" "RuntimeError.__new__" "RuntimeError.__init__" [.type "RuntimeError", .type "Exception", .type "BaseException", .type "object"] := ⟨F.excBase_RuntimeError, F.store_RuntimeError, by kernel_rfl, by decide +kernel, by decide +kernel, by decide +kernel, by decide +kernel, by decide +kernel⟩
theorem bas_A : Bas "ArithmeticError" "ArithmeticError.__new__" "ArithmeticError.__init__" [.type "ArithmeticError", .type "Exception", .type "BaseException", .type "object"] := ⟨F.excBase_ArithmeticError, F.store_ArithmeticError, by kernel_rfl, by decide +kernel, by decide +kernel, by decide +kernel, by decide +kernel, by decide +kernel⟩
/-- what the written part says of the own class at C -/
structure OexB (K : PySem.W.Frag) (C : Addr) (nI : String) (tl : List Value) : Prop where
  cls : PySem.W.excInitIn K C tl nI = true
  over : PySem.W.excOver K C tl = true
  hd : PySem.W.hasDictIn K C = true
  sa : PySem.W.findIn K (.ref C) "__setattr__" = some (some (.builtin "object.__setattr__"))
  exC : PySem.W.subIn K (.ref C) (.type "BaseException") = some true
  tyC : PySem.W.typeIn K (.ref C) = some (.type "type")
  kC : PySem.W.keepIn K (.ref C) = true
theorem taker_of {K : PySem.W.Frag} {C : Addr} {f : Str} (h : PySem.W.findIn K (.ref C) f = some none) : PySem.W.takerIn K C f = some none := by
  unfold PySem.W.takerIn
  rw [h]
  rfl
section
variable {X : Cx} {pins : List (Addr × Obj)} {σ : L2.St} {H : Hp} {s : Shared} {a C dx : Addr} {f : Str} {y : V} {u : Value} {fs : List (Str × V)} {Q : Unit → Shared → Prop} {E : Value → Shared → Prop} {A : Around} {B nI iI : String} {tl : List Value}
/-- the error has got its dict -/
theorem inv_dict {hp h' : Heap} {g : Array GenState} {d : Drawn} {t tk' : Nat} {os : OsState} {t1 : Addr} (I : Inv X pins σ H ⟨hp, g, d, t, os⟩) (e : H a = some (exo a C none)) (ry : RelV y u) (k : ∀ b o, b ≠ a → hp.get? b = some o → h'.get? b = some o) (dn : hp.objs.size ≤ dx)
    (hx : h'.get? a = some ({ cls := .ref C, dict := some dx, data := .fields #[.ref t1, .none, .none, .none, .bool false, .none] } : Obj)) (hn : h'.Ns1 dx fun y => if y = f then some u else none) :
    Inv X pins σ (upd (upd H dx (exd dx [(f, y)])) a (exo a C (some dx))) ⟨h', g, d, tk', os⟩ := by
  have free : H dx = none := I.hok.fresh dn
  have off : ∀ {b : Addr}, H b = none → b ≠ a := fun {b} n z => (by rw [z, e] at n; cases n)
  have low : ∀ {b : Addr} {o : Obj}, hp.get? b = some o → b ≠ dx := fun {b o} q => Nat.ne_of_lt (Nat.lt_of_lt_of_le (Heap.lt_size q) dn)
  have same : ∀ {b : Addr} {o : HO}, H b = some o → b ≠ a → upd (upd H dx (exd dx [(f, y)])) a (exo a C (some dx)) b = some o := fun {b o} q n => by rw [upd_ne n, upd_ne (ne_of_none q free)]; exact q
  refine I.un (t' := tk') ⟨fun b o q n _ _ => k b o (off n) q, fun b o q n _ _ => ⟨o.slots, k b o (off n) q⟩, fun b o q n _ => ?_, fun b o q _ => ?_, fun b xs q => same q (at_ne e q exo_tup), fun b o v q => same q (at_ne e q exo_frz), fun b ps q => ⟨#[], ?_⟩⟩ fun b o q => ?_
  · rw [upd_ne (off n), upd_ne (low q)]
    exact n
  · by_cases c : b = a
    · exact ⟨_, c ▸ hx⟩
    · exact ⟨o, k b o c q⟩
  · rw [same q (at_ne e q exo_tbl)]
    simp
  · by_cases c : b = a
    · subst c
      rw [upd_same] at q
      cases q
      exact exo_ok hx
    rw [upd_ne c] at q
    by_cases c2 : b = dx
    · subst c2
      rw [upd_same] at q
      cases q
      exact exd_ok hn (relO_put (fs := []) ry fun _ => trivial)
    rw [upd_ne c2] at q
    refine (I.hok b o q).stay (fun z v hz w => k z v ?_ w) (fun z hz => same hz (at_ne e hz exo_own)) fun z xs hz => same hz (at_ne e hz exo_tup)
    exact hz.elim (fun hz => hz ▸ c) fun hz => at_ne e hz exo_own
/-- self.f = y, the first one -/
theorem ostB_new (Z : Bas B nI iI tl) (T : OexB X.K C nI tl) (I : Inv X pins σ H s) (e : H a = some (exo a C none)) (hno : PySem.W.findIn X.K (.ref C) f = some none) (ry : RelV y u)
    (h : ∀ dx s', H dx = none → dx ≠ a → Inv X pins σ (upd (upd H dx (exd dx [(f, y)])) a (exo a C (some dx))) s' → Q () s') : wpAny (model X.prog X.w) A (setAttr (.ref a) f u) Q E s := by
  obtain ⟨t1, ho⟩ := exo_at I.hok e
  obtain ⟨hp, g, d, t, os⟩ := s
  have J : PySem.W.InstAt hp a { cls := .ref C, dict := none, data := .fields #[.ref t1, .none, .none, .none, .bool false, .none] } C none := ⟨ho, rfl, rfl, trivial⟩
  obtain ⟨cd, hc, hd'⟩ := PySem.W.any_some T.hd
  have as : a < hp.objs.size := Heap.lt_size ho
  refine PySem.W.set_plain I.kIn J T.sa (PySem.W.osa_openX (s := ⟨hp, g, d, t + 1, os⟩) Z.st I.kIn J T.over (taker_of hno) fun b => ?_)
  show wpAny _ _ (Builtin.ObjectAttr.storeInOwnDict (.ref a) (.ref C) (.str f t) f u b) _ _ _
  refine wpAny_bind (wpAny_pure (wpAny_bind (PySem.W.instanceDict_exc (t := t1) (c2 := .none) ho (PySem.W.looks_clsIn I.kIn hc) hd' ?_)))
  show wpAny _ _ (Builtin.ObjectAttr.storeInDict hp.objs.size (.str f t) f u) _ _ ⟨_, g, d, t + 1, os⟩
  have n0 : ((hp.push (PySem.W.dictOf [] 0)).update a fun o => { o with dict := some hp.objs.size }).Ns1 hp.objs.size fun _ => none :=
    ⟨_, #[], 0, (Heap.get?_update_ne _ _ _ _ (Nat.ne_of_gt as)).trans (Heap.get?_push_size _ rfl), rfl, fun e he => absurd he (by simp), List.Pairwise.nil, fun _ => rfl⟩
  refine PySem.OEX.store_in_old (ns := []) n0 (fun y hy => absurd rfl hy) (Nat.zero_le _) fun h' tk' hn' hs => ?_
  have ho1 : (hp.push (PySem.W.dictOf [] 0)).get? a = some { cls := .ref C, dict := none, data := .fields #[.ref t1, .none, .none, .none, .bool false, .none] } := Heap.get?_push_of_some _ ho
  refine h hp.objs.size _ (I.hok.fresh (Nat.le_refl _)) (Nat.ne_of_gt as) (inv_dict (t1 := t1) I e ry (fun b o nb q => ?_) (Nat.le_refl _) ?_ hn')
  · exact (hs.2 b (Nat.ne_of_lt (Heap.lt_size q))).trans ((Heap.get?_update_ne _ _ _ _ nb).trans (Heap.get?_push_of_some _ q))
  · exact (hs.2 a (Nat.ne_of_lt as)).trans (Heap.get?_update_self _ ho1 rfl)
/-- self.f = y, a further one -/
theorem ostB_old (Z : Bas B nI iI tl) (T : OexB X.K C nI tl) (I : Inv X pins σ H s) (e : H a = some (exo a C (some dx))) (ed : H dx = some (exd dx fs)) (hl : fs.length ≤ 900) (hno : PySem.W.findIn X.K (.ref C) f = some none) (ry : RelV y u)
    (h : ∀ s', Inv X pins σ (upd H dx (exd dx ((f, y) :: fs))) s' → Q () s') : wpAny (model X.prog X.w) A (setAttr (.ref a) f u) Q E s := by
  obtain ⟨t1, ho⟩ := exo_at I.hok e
  obtain ⟨mA, hns, rel⟩ := exd_at I.hok ed
  obtain ⟨hp, g, d, t, os⟩ := s
  obtain ⟨oD, _, _, hoD, _, _⟩ := hns.count (within_of rel)
  have J : PySem.W.InstAt hp a { cls := .ref C, dict := some dx, data := .fields #[.ref t1, .none, .none, .none, .bool false, .none] } C (some oD) := ⟨ho, rfl, rfl, hoD⟩
  obtain ⟨cd, hc, hd'⟩ := PySem.W.any_some T.hd
  have cl : PySem.W.Looks (model X.prog X.w) hp (classData C) cd := PySem.W.looks_clsIn I.kIn hc
  refine PySem.W.set_plain I.kIn J T.sa (PySem.W.osa_openX (s := ⟨hp, g, d, t + 1, os⟩) Z.st I.kIn J T.over (taker_of hno) fun b => ?_)
  show wpAny _ _ (Builtin.ObjectAttr.storeInOwnDict (.ref a) (.ref C) (.str f t) f u b) _ _ _
  have go : ∀ {Qf : Fin → Shared → Prop} {E' : Value → Shared → Prop}, (∀ s', Q () s' → Qf (.done (.ret .none)) s') → wpAny (model X.prog X.w) A.in1 (Builtin.ObjectAttr.storeInDict dx (.str f t) f u) Qf E' ⟨hp, g, d, t + 1, os⟩ := fun {Qf E'} hQ => by
    refine PySem.OEX.store_in_old hns (within_of rel) (by rw [List.length_map]; omega) fun h' tk' hn' hs => ?_
    have ex : ∃ o, h'.get? dx = some o := let ⟨o, _, _, e', _⟩ := hn'; ⟨o, e'⟩
    exact hQ _ (h _ (I.write (t' := tk') (x := dx) (e := dx) (o := exd dx ((f, y) :: fs)) (by rw [ed]; exact trivial) (.inl rfl) (fun b o nb q => (hs.2 b nb).trans q) ex (exd_ok hn' (relO_put ry rel))))
  refine wpAny_bind (wpAny_pure (wpAny_bind (show wpAny _ _ (instanceDict a true) _ _ _ from ?_)))
  unfold instanceDict
  refine wpAny_bind (wpAny_loadPart ho ?_)
  dsimp only
  refine wpAny_bind (cl.at ?_)
  rw [hd']
  first
    | exact wpAny_pure (by exact go fun _ z => z)
    | exact wpAny_bind (wpAny_pure (wpAny_pure (by exact go fun _ z => z)))
theorem oinitB {us : List Value} {Q : Value → Shared → Prop} (Z : Bas B nI iI tl) (T : OexB X.K C nI tl) (I : Inv X pins σ H s) (e : H a = some (exo a C none)) (hl : us.length ≤ sizeLine) (h : ∀ s', Inv X pins σ H s' → Q .none s') : wpAny (model X.prog X.w) A (call (.builtin iI) (.ref a :: us)) Q E s := by
  obtain ⟨nm, N, qn, bs, bm, hdct, sn, sub, ab, col, dd, k0, k1, k2, k3, k5, hC, hT⟩ := PySem.W.excInit_of I.kIn T.cls
  obtain ⟨t1, ho⟩ := exo_at I.hok e
  obtain ⟨hp, g, d, t, os⟩ := s
  refine wpAny_call (PySem.PX.init_base Z.eb hT hC ho hl fun h' t2 k hx => ?_)
  have J := I.write (t' := t) (x := a) (e := a) (o := exo a C none) (by rw [e]; exact trivial) (.inl rfl) k ⟨_, hx⟩ (exo_ok hx)
  have same : upd H a (exo a C none) = H := funext fun b => by
    by_cases c : b = a
    · rw [c, upd_same, e]
    · rw [upd_ne c]
  exact h _ (same ▸ J)
end
/-! ### readings -/
def tBeI (K : PySem.W.Frag) (nI : String) (tl : List Value) (ta : TA) : TE := fun σ H Q => ta σ H fun vs H1 => ∃ (a C : Addr) (ws : List V), vs = .ref a :: ws ∧ ws.length ≤ 1000 ∧ OexB K C nI tl ∧ H1 a = some (exo a C none) ∧ Q .non H1
def tOstB (K : PySem.W.Frag) (nI : String) (tl : List Value) (f : Str) (to te : TE) : TS := fun D σ H => te σ H fun y H1 => to σ H1 fun x H2 => ∃ a C : Addr, x = .ref a ∧ OexB K C nI tl ∧ PySem.W.findIn K (.ref C) f = some none ∧
  ((H2 a = some (exo a C none) ∧ ∀ dx, H2 dx = none → dx ≠ a → D.nx σ (upd (upd H2 dx (exd dx [(f, y)])) a (exo a C (some dx)))) ∨
    ∃ (dx : Addr) (fs : List (Str × V)), H2 a = some (exo a C (some dx)) ∧ H2 dx = some (exd dx fs) ∧ fs.length ≤ 900 ∧ D.nx σ (upd H2 dx (exd dx ((f, y) :: fs))))
section
variable {X : Cx} {o e : Expr} {es : List Expr} {to te : TE} {ta : TA} {f : Str} {p p' p1 p2 pos : Pos} {B nI iI : String} {tl : List Value}
/-- B.__init__(self, ..) -/
theorem pe_beinit {pl : Sem Bool} (Z : Bas B nI iI tl) (hm : X.mg (Str.ofString B) = none) (vV : PySem.W.findCls X.K (.type B) (.type "type") "__init__" = some (.val (.builtin iI))) (ha : PA X (e :: es) ta)
    (hg : Gl X (Str.ofString B) := by rfl) (ev : eval (.Call (.Attribute (.Name (Str.ofString B) p1) "__init__" p2) (e :: es) [] pos) X.env = (do
      let o ← eval (.Name (Str.ofString B) p1) X.env
      standAt p2.atName
      let (g, first) ← holding [o] (getMethod o "__init__" pl)
      callWith pos g first (backTo pos (starEach (e :: es) X.env)) (backToKw pos (keywordEach [] X.env))) := by rfl)
    (se : starEach (e :: es) X.env = (false, eval e X.env) :: starEach es X.env := by rfl) (sn : (backTo pos (starEach es X.env)).any (·.1) = false := by rfl) : PE X (.Call (.Attribute (.Name (Str.ofString B) p1) "__init__" p2) (e :: es) [] pos) (tBeI X.K nI tl ta) := by
  constructor
  intro pins s σ H Q I h
  obtain ⟨m, fr⟩ := I.fr
  refine PySem.W.methodCall_KW (ld_blt I hg hm Z.bt ?_ Z.n1 Z.n2) ev
  refine PySem.W.method_type fr I.ok.mod.kin Z.ty Z.sb vV Z.hi ?_
  show wpAny _ _ (callWith pos (Value.builtin iI) [] (backTo pos (starEach (e :: es) X.env)) []) _ _ _
  refine PyProof.Rows.callWith_method1 (thn (ha.run pos pins _ σ H _ (I.tok _) h) fun us s1 z => ?_) se sn
  obtain ⟨vs, H1, I1, r, a, C, ws, rfl, hl, T, ea, q⟩ := z
  cases r with
  | @cons _ u _ ur ru rr =>
    cases (show u = Value.ref a from ru)
    exact oinitB Z T I1 ea (Nat.le_trans (Nat.le_of_eq (Paired.length rr).symm) (Nat.le_trans hl (by rw [sizeLine_eq]; decide))) fun s2 J => ⟨.non, H1, J, rfl, q⟩
theorem ps_ostB (Z : Bas B nI iI tl) (ho : PE X o to) (he : PE X e te) (hs : swapsWith e (some (.Attribute o f p')) pos.line X.env = pure false := by rfl) : PS X (.Assign [.Attribute o f p'] e pos) (tOstB X.K nI tl f to te) := by
  constructor
  intro pins s σ H D I h
  refine plainObj_wpAny_Assign_Attribute (thn (he.run pins s σ H _ I h) fun v s1 z => ?_) hs
  obtain ⟨y, H1, I1, r1, q1⟩ := z
  refine thn (ho.run pins s1 σ H1 _ I1 q1) fun u s2 z => ?_
  obtain ⟨x, H2, I2, r2, a, C, rfl, T, hno, q⟩ := z
  cases (show u = Value.ref a from r2)
  rcases q with ⟨ea, q⟩ | ⟨dx, fs, ea, ed, hl, q⟩
  · exact ostB_new Z T I2 ea hno r1 fun dx s' n ne J => ⟨σ, _, J, q dx n ne⟩
  · exact ostB_old Z T I2 ea ed hl hno r1 fun s' J => ⟨σ, _, J, q⟩
theorem pmk_oexB {CX : CXT} {x : Str} {C fI : Addr} {k : Nat} {fd : FuncData} {ps : List Str} {sp : Sp} (Z : Bas B nI iI tl) (T : OexB X.K C nI tl) (iC : PySem.W.findIn X.K (.ref C) "__init__" = some (some (.ref fI))) (tI : PySem.W.typeIn X.K (.ref fI) = some (.type "function"))
    (F1 : FnOk X.prog X.w X.K X.mg X.base CX k fI fd ps sp) (hr : Room (k + 1) X.A) (hb : Binds X.K fd ps []) (hx : Passes CX X (fun _ _ _ => False)) (hg : Gl X x) (hm : X.mg x = some (.ref C)) (ha : PA X (e :: es) ta)
    (hdb : (x == ("__debug__" : Str)) = false := by decide) (he : starEach (e :: es) X.env = (false, eval e X.env) :: starEach es X.env := by rfl) (hpl : (backTo pos (starEach es X.env)).any (·.1) = false := by rfl) : PMk X (.Call (.Name x p) (e :: es) [] pos) (tMkO C sp [] ta) := by
  intro pins s σ H Q I h
  refine wpAny_Call_Name_kw (ld_glob I hg hm (PySem.W.callWith_K (h₀ := X.base) I.ok.mod.kin T.kC (thn (ha.run pos pins s σ H _ I h) fun us s1 z => ?_) he hpl) hdb)
  obtain ⟨vs, H1, I1, r1, hz, q1⟩ := z
  refine ⟨I1.kIn, show wpAny _ _ (call (.ref C) us) _ _ _ from ?_⟩
  obtain ⟨nm, N, qn, bs, bm, hdct, sn, sub, ab, col, dd, k0, k1, k2, k3, k5, hC, hT⟩ := PySem.W.excInit_of I1.kIn T.cls
  obtain ⟨hp, g, dr, tk, os⟩ := s1
  have up : hp.objs.size ≤ hp.objs.size + 1 := Nat.le_succ _
  have hq := q1 (hp.objs.size + 1) (I1.hok.fresh up)
  have kk : ∀ b o, hp.get? b = some o → ((hp.push (PySem.W.kdv_tup us)).push (PySem.PX.excO C hp.objs.size)).get? b = some o := fun b o e => Heap.get?_push_of_some _ (Heap.get?_push_of_some _ e)
  have got : ((hp.push (PySem.W.kdv_tup us)).push (PySem.PX.excO C hp.objs.size)).get? (hp.objs.size + 1) = some (PySem.PX.excO C hp.objs.size) := by heap_get
  have I2 : Inv X pins σ (upd H1 (hp.objs.size + 1) (exo (hp.objs.size + 1) C none)) ⟨(hp.push (PySem.W.kdv_tup us)).push (PySem.PX.excO C hp.objs.size), g, dr, tk, os⟩ := I1.laid (t' := tk) (o := exo (hp.objs.size + 1) C none) kk up (exo_ok got)
  have r2 : Vals (V.ref (hp.objs.size + 1) :: (vs ++ [])) (Value.ref (hp.objs.size + 1) :: (us ++ [])) := .cons rfl (r1.append .nil)
  have hl : (Value.ref (hp.objs.size + 1) :: us ++ []).length = ps.length := r2.length.symm.trans (F1.len _ _ _ _ hq)
  have hus : us.length ≤ sizeLine := Nat.le_trans (Nat.le_of_eq (Paired.length r1).symm) (Nat.le_trans hz (by rw [sizeLine_eq]; decide))
  have bd : BindsTo (⟨(hp.push (PySem.W.kdv_tup us)).push (PySem.PX.excO C hp.objs.size), g, dr, tk, os⟩ : Shared) fd ⟨Value.ref (hp.objs.size + 1) :: us, []⟩ (ps.zip (Value.ref (hp.objs.size + 1) :: (us ++ []))) := by
    have z := hb ⟨(hp.push (PySem.W.kdv_tup us)).push (PySem.PX.excO C hp.objs.size), g, dr, tk, os⟩ (Value.ref (hp.objs.size + 1) :: us) I2.kIn hl
    rw [List.cons_append] at z
    exact z
  refine wpAny_call (PySem.PX.call_own Z.eb hT hC (PySem.W.looks_findIn I1.kIn iC) (fun self => PySem.W.bind_fn I1.kIn self tI) hus (codeAny_mono (F1.run _ X.stack _ _ ⟨Value.ref (hp.objs.size + 1) :: us, []⟩ (Value.ref (hp.objs.size + 1) :: (us ++ [])) _ _ (fun _ _ _ => False) (hr.make C us []) (I2.env0.make C us []) bd r2 hq) fun r s' hq' => ?_))
  match r, hq' with
  | .error er, hq' => exact hx pins σ _ _ er s' I2 hq'
  | .ok (.ret u), hq' =>
    obtain ⟨v, H2, os2, bare2, un2, hok2, rv, rfl, d, fs, ea, ed, hd1, q2⟩ := hq'
    obtain ⟨h2, g2, d2, t2, os'⟩ := s'
    exact ⟨rv, mk_end (raises_own T.exC T.tyC) I1 up kk un2 hok2 os2 bare2 ea ed hd1 q2⟩
  | .ok .next, hq' => exact False.elim hq'
  | .ok .brk, hq' => exact False.elim hq'
  | .ok .cont, hq' => exact False.elim hq'
end
/-! ### the class as one fact -/
/-- an __init__ that keeps its arguments in the fields fs -/
def spXB (C : Addr) (fs : List Str) : Sp := fun vs H Q _ => ∃ a us, vs = .ref a :: us ∧ us.length = fs.length ∧ H a = some (exo a C none) ∧ ∀ dx, H dx = none → dx ≠ a → Q .non (upd (upd H dx (exd dx (fs.zip us).reverse)) a (exo a C (some dx)))
section
variable (P : Program) (w : World) (K : PySem.W.Frag) (mg : Str → Option Value) (base : Heap) (k : Nat)
structure XclB (x : Str) (C : Addr) (fs : List Str) : Prop where
  nf : ∀ f ∈ fs, PySem.W.findIn K (.ref C) f = some none
  mx : mg x = some (.ref C)
  ex : ∃ (B nI iI : String) (tl : List Value) (fI : Addr) (fd : FuncData) (ps : List Str), Bas B nI iI tl ∧ OexB K C nI tl ∧ PySem.W.findIn K (.ref C) "__init__" = some (some (.ref fI)) ∧ PySem.W.typeIn K (.ref fI) = some (.type "function") ∧ Binds K fd ps [] ∧ FnOk P w K mg base CX0 k fI fd ps (spXB C fs)
  xf : XfC K C
  ec : ExcC K C
end
section
variable {X : Cx} {k : Nat} {C : Addr} {x : Str} {fs : List Str} {W : WX} {e : Expr} {es : List Expr} {ta : TA} {p pos rpos : Pos}
theorem ps_raiseB (G : XclB X.prog X.w X.K X.mg X.base k x C fs) (hr : Room (k + 1) X.A) (tk : Takes X W) (ha : PA X (e :: es) ta) (hc : X.calm = true := by rfl) (hg : Gl X x := by rfl) (hdb : (x == ("__debug__" : Str)) = false := by decide)
    (se : starEach (e :: es) X.env = (false, eval e X.env) :: starEach es X.env := by rfl) (sn : (backTo pos (starEach es X.env)).any (·.1) = false := by rfl) :
    PS X (.Raise (some (.Call (.Name x p) (e :: es) [] pos)) none rpos) (fun _ σ H => tMkO C (spXB C fs) [] ta σ H fun cls d H' => W cls d σ H') := by
  obtain ⟨B, nI, iI, tl, fI, fd, ps, z, h0, h1, h2, h3, h4⟩ := G.ex
  exact ps_raise hc tk (pmk_oexB z h0 h1 h2 h4 hr h3 pass0 hg G.mx ha hdb se sn)
theorem raiseB_of {us : List V} {H : Hp} {Q : XK} (hl : us.length = fs.length) (h9 : us.length ≤ 1000) (h : ∀ d, H d = none → Q (.ref C) (some d) (upd H d (.xd (fs.zip us).reverse))) : us.length ≤ 1000 ∧ ∀ a, H a = none → spXB C fs (.ref a :: (us ++ [])) (upd H a (exo a C none))
    (fun z H2 => z = .non ∧ ∃ (d : Addr) (gs : List (Str × V)), H2 a = some (exo a C (some d)) ∧ H2 d = some (exd d gs) ∧ H d = none ∧ Q (.ref C) (some d) (upd (del H2 a) d (.xd gs))) (fun _ _ _ => False) := by
  refine ⟨h9, fun a ha => ⟨a, us, by rw [List.append_nil], hl, upd_same, fun dx hd ne => ⟨rfl, dx, (fs.zip us).reverse, upd_same, ?_, ?_, ?_⟩⟩⟩
  · rw [upd_ne ne, upd_same]
  · rw [upd_ne ne] at hd
    exact hd
  · rw [upd_ne ne] at hd
    have e : upd (del (upd (upd (upd H a (exo a C none)) dx (exd dx (fs.zip us).reverse)) a (exo a C (some dx))) a) dx (.xd (fs.zip us).reverse) = upd H dx (.xd (fs.zip us).reverse) := funext fun b => by
      by_cases h1 : b = dx
      · rw [h1, upd_same, upd_same]
      · rw [upd_ne h1, upd_ne h1]
        by_cases h2 : b = a
        · rw [h2, del_same, ha]
        · rw [del_ne h2, upd_ne h2, upd_ne h1, upd_ne h2]
    rw [e]
    exact h dx hd
end
/-! ### the __init__ with one field, with two -/
section
variable {P : Program} {w : World} {K : PySem.W.Frag} {mg : Str → Option Value} {base : Heap} {C f : Addr} {fd : FuncData} {nI iI : String} {tl : List Value}
theorem two_up {H : Hp} {a dx : Addr} {f1 f2 : Str} {v1 v2 : V} (ne : dx ≠ a) : upd (upd (upd H dx (exd dx [(f1, v1)])) a (exo a C (some dx))) dx (exd dx [(f2, v2), (f1, v1)]) = upd (upd H dx (exd dx [(f2, v2), (f1, v1)])) a (exo a C (some dx)) := funext fun b => by
  by_cases h1 : b = dx
  · rw [h1, upd_same, upd_ne ne, upd_same]
  · rw [upd_ne h1]
    by_cases h2 : b = a
    · rw [h2, upd_same, upd_same]
    · rw [upd_ne h2, upd_ne h2, upd_ne h1, upd_ne h1]
end
/-! ### tests -/
def oexBB (nI : String) (tl : List Value) (K : PySem.W.Frag) (C : Addr) : Bool := PySem.W.excInitIn K C tl nI && (PySem.W.excOver K C tl && (PySem.W.hasDictIn K C && (He.eqO (PySem.W.findIn K (.ref C) "__setattr__") (some (some (.builtin "object.__setattr__"))) && (decide (PySem.W.subIn K (.ref C) (.type "BaseException") = some true) && (decide (PySem.W.typeIn K (.ref C) = some (.type "type")) && PySem.W.keepIn K (.ref C))))))
theorem oexBB_ok {nI : String} {tl : List Value} {K : PySem.W.Frag} {C : Addr} (c : oexBB nI tl K C = true) : OexB K C nI tl := by
  obtain ⟨c1, c⟩ := He.ba c
  obtain ⟨c2, c⟩ := He.ba c
  obtain ⟨c3, c⟩ := He.ba c
  obtain ⟨c4, c⟩ := He.ba c
  obtain ⟨c5, c⟩ := He.ba c
  obtain ⟨c6, c7⟩ := He.ba c
  exact ⟨c1, c2, c3, He.eqO_ok c4, of_decide_eq_true c5, of_decide_eq_true c6, c7⟩
/-- all that is asked of an own error class x over the built-in with nI, tl; its fields are fs -/
def fXb (x : Str) (nI : String) (tl : List Value) (fs : List Str) : Ft := fun K => oexBB nI tl K (He.ga K x) && ((fs.all fun f => He.eqO (PySem.W.findIn K (.ref (He.ga K x)) f) (some none)) && (He.eqO (PySem.W.findIn K (.ref (He.ga K x)) "__init__") (some (some (.ref (mA x "__init__" K)))) && (decide (PySem.W.typeIn K (.ref (mA x "__init__" K)) = some (.type "function")) &&
  (xfB K (He.ga K x) && (He.eqO (PySem.W.findIn K (.ref (He.ga K x)) "__class__") (some (some (.builtin "object.__class__"))) && (He.eqO (PySem.W.specialIn K (.builtin "object.__class__") "__get__") (some (some (.builtin "getset_descriptor.__get__"))) && (decide (PySem.W.takesIn K (.builtin "object.__class__") = some true) && decide (PySem.W.mroIn K (He.ga K x) (.type "object") = some true))))))))
theorem fXb_pre {x : Str} {nI : String} {tl : List Value} {fs : List Str} {K : PySem.W.Frag} (c : fXb x nI tl fs K = true) : OexB K (He.ga K x) nI tl ∧ ∀ f ∈ fs, PySem.W.findIn K (.ref (He.ga K x)) f = some none := by
  obtain ⟨c1, c⟩ := He.ba c
  obtain ⟨c2, _⟩ := He.ba c
  exact ⟨oexBB_ok c1, fun f hf => He.eqO_ok (List.all_eq_true.mp c2 f hf)⟩
theorem fXb_ok {P : Program} {w : World} {K : PySem.W.Frag} {mg : Str → Option Value} {base : Heap} {k : Nat} {x : Str} {B nI iI : String} {tl : List Value} {fs : List Str} {fd : FuncData} {ps : List Str} (Z : Bas B nI iI tl) (c : fXb x nI tl fs K = true) (hm : mg x = some (.ref (He.ga K x))) (Bd : Binds K fd ps []) (F : FnOk P w K mg base CX0 k (mA x "__init__" K) fd ps (spXB (He.ga K x) fs)) :
    XclB P w K mg base k x (He.ga K x) fs := by
  obtain ⟨h1, h2⟩ := fXb_pre c
  obtain ⟨_, c⟩ := He.ba c
  obtain ⟨_, c⟩ := He.ba c
  obtain ⟨c3, c⟩ := He.ba c
  obtain ⟨c4, c⟩ := He.ba c
  obtain ⟨c5, c⟩ := He.ba c
  obtain ⟨c6, c⟩ := He.ba c
  obtain ⟨c7, c⟩ := He.ba c
  obtain ⟨c8, c9⟩ := He.ba c
  have xf := xfB_ok c5
  exact ⟨h2, hm, ⟨B, nI, iI, tl, _, fd, ps, Z, h1, He.eqO_ok c3, of_decide_eq_true c4, Bd, F⟩, xf, ⟨xf.ga, xf.gg, xf.exC, xf.hdC, He.eqO_ok c6, He.eqO_ok c7, of_decide_eq_true c8, of_decide_eq_true c9⟩⟩
/-- the built-in's __init__ -/
def fBi (B iI : String) : Ft := fun K => match PySem.W.findCls K (.type B) (.type "type") "__init__" with
  | some (.val (.builtin n)) => n == iI
  | _ => false
theorem fBi_ok {B iI : String} {K : PySem.W.Frag} (c : fBi B iI K = true) : PySem.W.findCls K (.type B) (.type "type") "__init__" = some (.val (.builtin iI)) := by
  unfold fBi at c
  split at c
  · rename_i n e
    rw [e, beq_iff_eq.mp c]
  · cases c
end LL

set_option Elab.async false
set_option linter.all false
set_option maxRecDepth 100000
set_option maxHeartbeats 2000000
/-! LLMeth: len of an own object; a class held by a local name; classmethods. -/
namespace LL
open PySem PySem.Spec PyProof.Rows L2
section
variable {X : Cx} {CX : CXT} {k : Nat} {C f : Addr} {fd : FuncData} {ps : List Str} {sp : Sp} {E : XK}
def rLenO (C : Addr) (sp : Sp) (E : XK) : List V → Hp → VK → Prop := fun xs H Q => ∃ a dx fs, xs = [.ref a] ∧ H a = some (.ins C dx fs) ∧ sp [.ref a] H (fun z H' => ∃ n : Nat, z = .int (n : Nat) ∧ n ≤ 100000 ∧ Q z H') E
theorem call_lenO (G : SpF X.prog X.w X.K X.mg X.base CX k C "__len__" sp) (hr : Rm (k + 1) X.A) (hx : Passes CX X E) : CallR X (.builtin "len") (rLenO C sp E) := by
  obtain ⟨f, fd, ps, hs, hf, hb, F⟩ := G.ex
  intro pins s σ H xs us Q I r h
  obtain ⟨a, dx, fs, rfl, ha, q⟩ := h
  obtain ⟨u, rfl, ru⟩ := r.one
  cases (show u = Value.ref a from ru)
  obtain ⟨od, J⟩ := inst_of I ha
  obtain ⟨m, hF⟩ := I.fr
  refine PySem.W.len_K hF I.ok.mod.kin J hs hf (thn (run_g (us := [.ref a]) (vs := [.ref a]) (dvs := []) F hr.in1 I.env0.in1 hb .nil hx I (.cons rfl .nil) q) fun w s' z => ?_)
  obtain ⟨z', H', I', rz, n, rfl, hn, qz⟩ := z
  obtain ⟨t, rfl⟩ := (show ∃ t, w = Value.int (n : Nat) t from rz)
  exact ⟨⟨by omega, by omega⟩, .int (n : Nat), H', I'.tok _, ⟨_, rfl⟩, qz⟩
/-- the class at C, made -/
structure MkC (P : Program) (w : World) (K : PySem.W.Frag) (mg : Str → Option Value) (base : Heap) (CX : CXT) (k : Nat) (C : Addr) (sp : Sp) : Prop where
  ex : ∃ (x : Str) (dvs : List V) (si : Sp), Mkr P w K mg base CX k x C dvs si ∧ ∀ vs H Q E, sp vs H Q E → ∀ a dx, H a = none → H dx = none → dx ≠ a → si (.ref a :: (vs ++ dvs)) (upd (upd H dx (.own a)) a (.ins C dx [])) (fun v H2 => v = .non ∧ Q (.ref a) H2) E
def tMkL (i : Nat) (C : Addr) (sp : Sp) (E : XK) (t : TA) : TE := fun σ H Q => σ[i]? = some (some (.ref C)) ∧ t σ H fun vs H1 => sp vs H1 Q E
theorem pe_mkL {i : Nat} {x : Str} {p pos : Pos} {e : Expr} {es : List Expr} {t : TA} (G : MkC X.prog X.w X.K X.mg X.base CX k C sp) (hr : Rm (k + 1) X.A) (hx : Passes CX X E) (hN : X.N[i]? = some x) (hv : Vis X.env.scope x) (ha : PA X (e :: es) t)
    (hdb : (x == ("__debug__" : Str)) = false := by decide) (hcd : (x == ("__classdict__" : Str)) = false := by decide)
    (he : starEach (e :: es) X.env = (false, eval e X.env) :: starEach es X.env := by rfl) (hpl : (backTo pos (starEach es X.env)).any (·.1) = false := by rfl) : PE X (.Call (.Name x p) (e :: es) [] pos) (tMkL i C sp E t) := by
  obtain ⟨y, dvs, si, ⟨f, fd, ps, ds, M, hm, hb, hd, F⟩, conv⟩ := G.ex
  refine ⟨fun pins s σ H Q I h => ?_⟩
  obtain ⟨hs, ht⟩ := h
  refine wpAny_Call_Name_kw (thn ((pe_var (pos := p) hN hv hdb hcd).run pins s σ H (fun v H1 => v = .ref C ∧ H1 = H) I ⟨.ref C, hs, rfl, rfl⟩) fun u s1 ⟨v, H1, I1, r1, q1⟩ => ?_)
  obtain ⟨rfl, rfl⟩ := q1
  cases r1
  refine PySem.W.callWith_K (h₀ := X.base) I.ok.mod.kin M.kp (thn (ha.run pos pins s1 σ _ _ I1 ht) fun us s2 ⟨vs, H2, I2, r, q⟩ => ⟨I2.kIn, ?_⟩) he hpl
  exact run_makeG M F hr hb hd hx I2 r (conv vs H2 Q E q)
/-- C.m is a classmethod -/
structure Cmt (P : Program) (w : World) (K : PySem.W.Frag) (mg : Str → Option Value) (base : Heap) (CX : CXT) (k : Nat) (C : Addr) (m : Str) (sp : Sp) : Prop where
  rd : ClX.CRead K C (.type "type")
  ex : ∃ (p g : Addr) (fd : FuncData) (ps : List Str), ClX.CMet K C (.type "type") m p g ∧ Binds K fd ps [] ∧ FnG P w K mg base CX k g fd ps sp
theorem run_gC {pins : List (Addr × Obj)} {σ : L2.St} {H : Hp} {s : Shared} {Q : VK} {us : List Value} {vs : List V} {A : Around} (F : FnG X.prog X.w X.K X.mg X.base CX k f fd ps sp) (hr : Rm k A) (e0 : Env0 X.prog X.w X.K X.mg X.base A X.stack s H) (hb : Binds X.K fd ps []) (hx : Passes CX X E)
    (I : Inv X pins σ H s) (r : Vals vs us) (h : sp vs H Q E) : codeAny (model X.prog X.w) A (.call (.ref f) ⟨us, []⟩) (fun r s' => match r with | .ok (.ret v) => EP X pins σ Q v s' | .ok _ => False | .error e => X.xe e s') s := by
  have hl : (us ++ []).length = ps.length := by
    rw [List.append_nil, ← F.len _ _ _ _ h]
    exact r.length.symm
  have b := hb s us I.kIn hl
  rw [List.append_nil] at b
  have go := F.run A X.stack s H ⟨us, []⟩ us vs Q E hr e0 b r h
  refine codeAny_mono go fun r s' hq => ?_
  match r, hq with
  | .error er, hq => exact hx pins σ H s er s' I hq
  | .ok (.ret u), hq => exact I.after hq
  | .ok .next, hq => exact False.elim hq
  | .ok .brk, hq => exact False.elim hq
  | .ok .cont, hq => exact False.elim hq
theorem pe_cm {o e : Expr} {es : List Expr} {m : Str} {pos apos : Pos} {ta : TE} {t : TA} {pl : Sem Bool} (he : PE X o ta) (G : Cmt X.prog X.w X.K X.mg X.base CX k C m sp) (hr : Rm k X.A) (hx : Passes CX X E) (ha : PA X (e :: es) t)
    (hst : starEach (e :: es) X.env = (false, eval e X.env) :: starEach es X.env := by rfl) (hpl : (backTo pos (starEach es X.env)).any (·.1) = false := by rfl)
    (ht : eval (.Call (.Attribute o m apos) (e :: es) [] pos) X.env = (do
      let ov ← eval o X.env
      standAt apos.atName
      let (f, first) ← holding [ov] (getMethod ov m pl)
      callWith pos f first (backTo pos (starEach (e :: es) X.env)) (backToKw pos (keywordEach [] X.env))) := by rfl) :
    PE X (.Call (.Attribute o m apos) (e :: es) [] pos) (ClX.tCMeth C sp E ta t) := by
  obtain ⟨p, g, fd, ps, c, hb, F⟩ := G.ex
  refine ⟨fun pins s σ H Q I h => ?_⟩
  refine PySem.W.methodCall_KW (pl := pl) (thn (he.run pins s σ H _ I h) fun u s1 ⟨x, H1, I1, rx, ex, q⟩ => ?_) ht
  subst ex
  obtain rfl : u = Value.ref C := rx
  refine ClX.getmethcm_ok I1 G.rd c fun s2 I2 => ?_
  refine ClX.callwith_cm I2 (ClX.base_none I1 (Nat.le_refl _)) c.fi (thn (ha.run pos _ s2 σ H1 _ I2 q) fun us s3 ⟨vs, H2, I3, rv, q2⟩ => ⟨⟨ClX.pin_at I3, I3.kIn⟩, ?_⟩) hst hpl
  refine thn (wpAny_call (PySem.W.method_call (ClX.pin_at I3) (run_gC (us := .ref C :: us) (vs := .ref C :: vs) F hr I3.env0 hb hx I3 (.cons rfl rv) q2))) fun _ _ y => ClX.unpinE y
end
end LL

set_option Elab.async false
set_option linter.all false
set_option maxRecDepth 100000
set_option maxHeartbeats 2000000
/-! O71c: lanes, cells refused; the last writer; the class Ledger made. -/
namespace K71
open PySem PySem.Spec PyProof.Rows L2 LL ORD
abbrev s_InvalidCellinit : Stmt := inClass (top 3) 0
abbrev n_InvalidCellinit : List Str := ["self", "value"]
theorem sc_InvalidCellinit : FnScope n_InvalidCellinit ["self", "value"] (defScope s_InvalidCellinit) := ⟨rfl, rfl, rfl, by decide +kernel, rfl, by decide +kernel, by decide +kernel⟩
abbrev s_UnknownLaneinit : Stmt := inClass (top 7) 0
abbrev n_UnknownLaneinit : List Str := ["self", "value"]
theorem sc_UnknownLaneinit : FnScope n_UnknownLaneinit ["self", "value"] (defScope s_UnknownLaneinit) := ⟨rfl, rfl, rfl, by decide +kernel, rfl, by decide +kernel, by decide +kernel⟩
abbrev s_LaneBusyinit : Stmt := inClass (top 8) 0
abbrev n_LaneBusyinit : List Str := ["self", "lane_number"]
theorem sc_LaneBusyinit : FnScope n_LaneBusyinit ["self", "lane_number"] (defScope s_LaneBusyinit) := ⟨rfl, rfl, rfl, by decide +kernel, rfl, by decide +kernel, by decide +kernel⟩
abbrev s_Staleinit : Stmt := inClass (top 10) 0
abbrev n_Staleinit : List Str := ["self", "cell"]
theorem sc_Staleinit : FnScope n_Staleinit ["self", "cell"] (defScope s_Staleinit) := ⟨rfl, rfl, rfl, by decide +kernel, rfl, by decide +kernel, by decide +kernel⟩
abbrev s_last_writer : Stmt := top 20
abbrev n_last_writer : List Str := ["history", "end", "cell", "run"]
theorem sc_last_writer : FnScope n_last_writer ["history", "end", "cell"] (defScope s_last_writer) := ⟨rfl, rfl, rfl, by decide +kernel, rfl, by decide +kernel, by decide +kernel⟩
abbrev s_check_lanes : Stmt := top 22
abbrev n_check_lanes : List Str := ["lanes"]
theorem sc_check_lanes : FnScope n_check_lanes ["lanes"] (defScope s_check_lanes) := ⟨rfl, rfl, rfl, by decide +kernel, rfl, by decide +kernel, by decide +kernel⟩
abbrev s_check_lane : Stmt := top 23
abbrev n_check_lane : List Str := ["lane", "lanes"]
theorem sc_check_lane : FnScope n_check_lane ["lane", "lanes"] (defScope s_check_lane) := ⟨rfl, rfl, rfl, by decide +kernel, rfl, by decide +kernel, by decide +kernel⟩
abbrev s_check_cell : Stmt := top 24
abbrev n_check_cell : List Str := ["cell"]
theorem sc_check_cell : FnScope n_check_cell ["cell"] (defScope s_check_cell) := ⟨rfl, rfl, rfl, by decide +kernel, rfl, by decide +kernel, by decide +kernel⟩
abbrev s_Ledgerinit : Stmt := inClass (top 25) 0
abbrev n_Ledgerinit : List Str := ["self", "lanes"]
theorem sc_Ledgerinit : FnScope n_Ledgerinit ["self", "lanes"] (defScope s_Ledgerinit) := ⟨rfl, rfl, rfl, by decide +kernel, rfl, by decide +kernel, by decide +kernel⟩
structure Tz (K : PySem.W.Frag) (mg : Str → Option Value) (CL CA : Addr) : Prop where
  cL : Cls K CL
  cA : Cls K CA
  g_Ledger : mg "Ledger" = some (.ref CL)
  l1 : NoAttr K CL "own_lanes"
  l2 : NoAttr K CL "own_history"
  l3 : NoAttr K CL "own_attempts"
  a1 : NoAttr K CA "own_ledger"
  a2 : NoAttr K CA "own_lane"
  a3 : NoAttr K CA "own_place"
  a4 : NoAttr K CA "own_versions"
  a5 : NoAttr K CA "own_written"
  a6 : NoAttr K CA "own_end"
theorem passF {X : Cx} : Passes (L2.CX X.prog X.w) X E0 := fun _ _ _ _ _ _ _ h => by
  obtain ⟨_, _, _, _, _, _, _, _, _, _, _, _, z⟩ := h
  exact z.elim
/-! ### the object -/
structure LgF (fs : List (Str × V)) (n : Nat) (hl da : Addr) (k : Nat) : Prop where
  l : fs.lookup ("own_lanes" : Str) = some (.int (n : Nat))
  h : fs.lookup ("own_history" : Str) = some (.ref hl)
  a : fs.lookup ("own_attempts" : Str) = some (.ref da)
  no : ∀ m : Str, m ≠ "own_lanes" → m ≠ "own_history" → m ≠ "own_attempts" → fs.lookup m = none
  len : fs.length ≤ k
def LgAt (CL : Addr) (H : Hp) (q : Addr) (n : Nat) (hl da : Addr) (k : Nat) : Prop := ∃ dx fs, H q = some (.ins CL dx fs) ∧ LgF fs n hl da k
theorem LgAt.same {CL : Addr} {H H' : Hp} {q hl da : Addr} {n k : Nat} (h : LgAt CL H q n hl da k) (s : Same H H') : LgAt CL H' q n hl da k := let ⟨dx, fs, e, z⟩ := h; ⟨dx, fs, s _ _ e, z⟩
theorem lgf_new (n : Nat) (hl da : Addr) : LgF (putF "own_attempts" (.ref da) (putF "own_history" (.ref hl) (putF "own_lanes" (.int (n : Nat)) []))) n hl da 3 := by
  refine ⟨?_, ?_, ?_, fun m h1 h2 h3 => ?_, ?_⟩
  · rw [lookup_putF, if_neg (by decide +kernel), lookup_putF, if_neg (by decide +kernel), lookup_putF, if_pos rfl]
  · rw [lookup_putF, if_neg (by decide +kernel), lookup_putF, if_pos rfl]
  · rw [lookup_putF, if_pos rfl]
  · rw [lookup_putF, if_neg h3, lookup_putF, if_neg h2, lookup_putF, if_neg h1]
    rfl
  · have a1 := length_putF "own_lanes" (.int (n : Nat)) []
    have a2 := length_putF "own_history" (.ref hl) (putF "own_lanes" (.int (n : Nat)) [])
    have a3 := length_putF "own_attempts" (.ref da) (putF "own_history" (.ref hl) (putF "own_lanes" (.int (n : Nat)) []))
    simp only [List.length_nil] at a1
    omega
def oi : Option Nat → Int
  | none => -1
  | some k => k
theorem oi_inj {a b : Option Nat} (h : oi a = oi b) : a = b := by
  cases a <;> cases b <;> simp only [oi] at h <;> first | rfl | omega | (congr 1; omega)
section
variable {P : Program} {w : World} {K : PySem.W.Frag} {mg : Str → Option Value} {base : Heap} {CE CH CO CI CN CL CA : Addr} {f : Addr} {fd : FuncData}
theorem numF {H : Hp} {i : Int} (h : i < 0) : NumV K H (.int i) false := by
  have := NumV.int (K := K) (H := H) i
  rwa [decide_eq_false (by omega)] at this
theorem numT {H : Hp} {i : Int} (h : 0 ≤ i) : NumV K H (.int i) true := by
  have := NumV.int (K := K) (H := H) i
  rwa [decide_eq_true h] at this
/-! ### last_writer -/
def spLw : Sp := fun vs H Q _ => ∃ (a : Addr) (h : Hs) (e : Nat) (c : Str), vs = [.ref a, .int (e : Nat), .str c] ∧ HsAt H a h ∧ e ≤ h.length ∧ e ≤ 1000 ∧ Q (.int (oi (lw h e c))) H
theorem ok_last_writer (T : Tx K mg CE CH CO) (F : FD K "last_writer" "last_writer" s_last_writer [] f fd) : FnG P w K mg base CX0 1 f fd ["history", "end", "cell"] spLw := by
  refine ok0 F sc_last_writer (fun vs H Q E h => ?_) (fun cdv A outer s H vs Q E hr h => ?_)
  · obtain ⟨a, h, e, c, rfl, _⟩ := h
    rfl
  · obtain ⟨a, h, e, c, rfl, ⟨ls, hl, fps⟩, he, he2, q⟩ := h
    refine ⟨_, (pss_cons (ps_for PassesOwn.never rfl (pi_range3 (by rfl) T.n_range (pa_cons (pe_op op_sub (pv 1) pe_int) (pa_cons (pe_un un_neg pe_int) (pa_cons (pe_un un_neg pe_int) pa_nil)))) (pg_name (i := 3) sc_last_writer.nd rfl (by first | exact Or.inl rfl | exact Or.inr rfl)) (pss_one (ps_if (pt_cmpR op_in_seq (pv 2) (pe_ix ix_tup (pe_ix ix_seq (pv 0) (pv 3) (fun _ _ => rfl)) pe_int (fun _ _ => rfl)) (by rfl)) (pss_one (ps_ret (pv 3))) pss_nil)))
      (pss_one (ps_ret (pe_gI T.g_NO_RUN)))), ?_⟩
    refine ⟨_, rfl, _, _, rfl, rfl, _, rfl, _, rfl, _, _, _, _, rfl, RgC.neg (by omega) (by omega) (by decide) (by decide), ?_⟩
    have en : ((e : Int) - 1 - -1).toNat = e := by omega
    rw [en]
    refine for_rangeC (fun i σ H' => i ≤ e ∧ H' = H ∧ lw h e c = lw h (e - i) c ∧ ∃ v, σ = [some (.ref a), some (.int (e : Nat)), some (.str c), v]) ⟨Nat.zero_le _, rfl, rfl, none, rfl⟩ ?_ ?_
    · rintro i σ H' hi ⟨le, rfl, ew, v, rfl⟩
      have ir : (e : Int) - 1 + (i : Nat) * -1 = ((e - 1 - i : Nat) : Int) := by omega
      rw [ir]
      obtain ⟨u, e1, _, t, r, x, rfl, ht, hrd, hx⟩ := HsAt.get (a := a) (i := e - 1 - i) fps (by omega)
      have es : e - i = (e - 1 - i) + 1 := by omega
      rw [es, lw] at ew
      refine ⟨_, rfl, _, rfl, _, rfl, ix_lt hl e1 ⟨t, _, _, _, rfl, rfl, SqT.of ht, atI_nat (j := 2) rfl, x, _, rfl, .inr (SqT.of hx), rfl, flatS _, _, rfl, ?_⟩⟩
      show if inV (V.str c) (List.map V.str (fp h (e - 1 - i)).wr) = true then _ else _
      rw [inV_str]
      by_cases m : c ∈ wrs h (e - 1 - i)
      · rw [if_pos m] at ew
        rw [ew] at q
        exact iteY (decide_eq_true m) ⟨_, rfl, q⟩
      · rw [if_neg m] at ew
        exact iteN (decide_eq_false m) ⟨by omega, rfl, by rw [ew]; congr 1; omega, _, rfl⟩
    · rintro σ H' ⟨_, rfl, ew, v, rfl⟩
      rw [Nat.sub_self, lw] at ew
      rw [ew] at q
      exact q
/-! ### check_lanes, check_lane, check_cell -/
def BadCnt (K : PySem.W.Frag) (H : Hp) (v : V) : Prop := NumV K H v false ∨ ∃ i : Int, v = .int i ∧ 0 ≤ i ∧ ¬ (1 ≤ i ∧ i ≤ 8)
theorem BadCnt.same {H H' : Hp} {v : V} (h : BadCnt K H v) (s : Same H H') : BadCnt K H' v := h.imp (·.same s) id
def spLns (K : PySem.W.Frag) (CO : Addr) : Sp := fun vs H Q E => ∃ v, vs = [v] ∧ ((∃ n : Nat, v = .int (n : Nat) ∧ 1 ≤ n ∧ n ≤ 8 ∧ Q .non H) ∨ (BadCnt K H v ∧ ErF CO "value" H v E))
theorem ok_check_lanes (T : Tx K mg CE CH CO) (X_InvalidCount : Xcl P w K mg base 1 "InvalidCount" CO "value") (G_is_number : Fnc P w K mg base CX0 1 "is_number" [] (spNum K)) (F : FD K "check_lanes" "check_lanes" s_check_lanes [] f fd) : FnG P w K mg base (L2.CX P w) 3 f fd ["lanes"] (spLns K CO) := by
  refine okX F sc_check_lanes (fun vs H Q E h => ?_) (fun cdv A outer s H vs Q E hr h => ?_)
  · obtain ⟨v, rfl, _⟩ := h
    rfl
  · obtain ⟨v, rfl, hv⟩ := h
    refine ⟨_, (pss_one (ps_if (PW.pt (pw_or (pt_not (pt_val (pe_fn G_is_number (hr.mono (by decide)) pass0 (pa_cons (pv 0) pa_nil)))) (pw_or1 (pt_not (pt_chain op_le op_le pe_int (pv 0) (pe_gI T.g_MOST_LANES)))))) (pss_one (ps_raiseX X_InvalidCount (hr.r.mono (by decide)) (takes_of rfl rfl rfl rfl) (pv 0))) pss_nil)), ?_⟩
    rcases hv with ⟨n, rfl, n1, n8, q⟩ | ⟨bad, er⟩
    · refine ⟨_, rfl, _, true, rfl, numT (by omega), _, rfl, iteF ⟨_, rfl, _, _, rfl, rfl, _, rfl, iteY (decide_eq_true (by omega)) ⟨_, _, rfl, rfl, _, rfl, iteN (by rw [decide_eq_true (by omega)]; rfl) q⟩⟩⟩
    · rcases bad with nb | ⟨i, rfl, i0, no⟩
      · exact ⟨_, rfl, v, false, rfl, nb, _, rfl, iteT ⟨_, rfl, raise_of er.now⟩⟩
      · refine ⟨_, rfl, _, true, rfl, numT i0, _, rfl, iteF ⟨_, rfl, _, _, rfl, rfl, _, rfl, ?_⟩⟩
        by_cases c1 : 1 ≤ i
        · exact iteY (decide_eq_true (by omega)) ⟨_, _, rfl, rfl, _, rfl, iteY (by rw [decide_eq_false (by omega)]; rfl) ⟨_, rfl, raise_of er.now⟩⟩
        · exact iteN (decide_eq_false (by omega)) ⟨_, rfl, iteT ⟨_, rfl, raise_of er.now⟩⟩
/-- no lane below n -/
def BadLn (K : PySem.W.Frag) (H : Hp) (v : V) (n : Nat) : Prop := NumV K H v false ∨ ∃ i : Int, v = .int i ∧ (n : Int) ≤ i
theorem BadLn.same {H H' : Hp} {v : V} {n : Nat} (h : BadLn K H v n) (s : Same H H') : BadLn K H' v n := h.imp (·.same s) id
def spLn (K : PySem.W.Frag) (CN : Addr) : Sp := fun vs H Q E => ∃ (v : V) (n : Nat), vs = [v, .int (n : Nat)] ∧ ((∃ l : Nat, v = .int (l : Nat) ∧ l < n ∧ Q .non H) ∨ (BadLn K H v n ∧ ErF CN "value" H v E))
theorem ok_check_lane (T : Tx K mg CE CH CO) (X_UnknownLane : XclB P w K mg base 1 "UnknownLane" CN ["value"]) (G_is_number : Fnc P w K mg base CX0 1 "is_number" [] (spNum K)) (F : FD K "check_lane" "check_lane" s_check_lane [] f fd) : FnG P w K mg base (L2.CX P w) 3 f fd ["lane", "lanes"] (spLn K CN) := by
  refine okX F sc_check_lane (fun vs H Q E h => ?_) (fun cdv A outer s H vs Q E hr h => ?_)
  · obtain ⟨v, n, rfl, _⟩ := h
    rfl
  · obtain ⟨v, n, rfl, h⟩ := h
    refine ⟨_, (pss_one (ps_if (PW.pt (pw_or (pt_not (pt_val (pe_fn G_is_number (hr.mono (by decide)) pass0 (pa_cons (pv 0) pa_nil)))) (pw_or1 (pt_cmpR op_ge (pv 0) (pv 1) (nomark _))))) (pss_one (ps_raiseB X_UnknownLane (hr.r.mono (by decide)) (takes_of rfl rfl rfl rfl) (pa_cons (pv 0) pa_nil))) pss_nil)), ?_⟩
    rcases h with ⟨l, rfl, lt, q⟩ | ⟨bad, er⟩
    · exact ⟨_, rfl, _, true, rfl, numT (by omega), _, rfl, iteF ⟨_, rfl, _, rfl, _, _, rfl, rfl, _, rfl, iteN (decide_eq_false (by omega)) q⟩⟩
    · rcases bad with nb | ⟨i, rfl, hi⟩
      · exact ⟨_, rfl, v, false, rfl, nb, _, rfl, iteT ⟨_, rfl, raiseB_of rfl (by show 1 ≤ 1000; decide) er.now⟩⟩
      · exact ⟨_, rfl, _, true, rfl, numT (by omega), _, rfl, iteF ⟨_, rfl, _, rfl, _, _, rfl, rfl, _, rfl, iteY (decide_eq_true (by omega)) ⟨_, rfl, raiseB_of rfl (by show 1 ≤ 1000; decide) er.now⟩⟩⟩
def spCc (K : PySem.W.Frag) (CI : Addr) : Sp := fun vs H Q E => ∃ v, vs = [v] ∧ ((∃ z : Str, v = .str z ∧ CellOk z ∧ ∀ H', Same H H' → Q .non H') ∨ (CellV K H v false ∧ ErF CI "value" H v E))
theorem ok_check_cell (T : Tx K mg CE CH CO) (X_InvalidCell : Xcl P w K mg base 1 "InvalidCell" CI "value") (G_is_cell : Fnc P w K mg base CX0 1 "is_cell" [] (spCell K)) (F : FD K "check_cell" "check_cell" s_check_cell [] f fd) : FnG P w K mg base (L2.CX P w) 3 f fd ["cell"] (spCc K CI) := by
  refine okX F sc_check_cell (fun vs H Q E h => ?_) (fun cdv A outer s H vs Q E hr h => ?_)
  · obtain ⟨v, rfl, _⟩ := h
    rfl
  · obtain ⟨v, rfl, h⟩ := h
    refine ⟨_, (pss_one (ps_if (pt_not (pt_val (pe_fn G_is_cell (hr.mono (by decide)) pass0 (pa_cons (pv 0) pa_nil)))) (pss_one (ps_raiseX X_InvalidCell (hr.r.mono (by decide)) (takes_of rfl rfl rfl rfl) (pv 0))) pss_nil)), ?_⟩
    rcases h with ⟨z, rfl, ok, q⟩ | ⟨cv, er⟩
    · have cv := CellV.str (K := K) (H := H) z (by have := ok.2.1; omega)
      rw [cellB_iff.mpr ok] at cv
      exact ⟨_, rfl, _, true, rfl, cv, fun H1 s1 => ⟨_, rfl, iteF (q _ s1)⟩⟩
    · exact ⟨_, rfl, v, false, rfl, cv, fun H1 s1 => ⟨_, rfl, iteT ⟨_, rfl, raise_of (er.same s1).now⟩⟩⟩
/-! ### Ledger.__init__ -/
def spLI (K : PySem.W.Frag) (CL CO : Addr) : Sp := fun vs H Q E => ∃ p dx v, vs = [.ref p, v] ∧ H p = some (.ins CL dx []) ∧ ((∃ n : Nat, v = .int (n : Nat) ∧ 1 ≤ n ∧ n ≤ 8 ∧ ∀ H' hl da, LgAt CL H' p n hl da 3 → H' hl = some (.lst []) → H' da = some (.dK []) → H hl = none → H da = none → But p H H' → Q .non H') ∨ (BadCnt K H v ∧ ErF CO "value" H v E))
theorem ok_linit (T : Tx K mg CE CH CO) (S : Tz K mg CL CA) (G_check_lanes : Fnc P w K mg base (L2.CX P w) 3 "check_lanes" [] (spLns K CO)) (F : FD K "__init__" "Ledger.__init__" s_Ledgerinit [] f fd) : FnG P w K mg base (L2.CX P w) 4 f fd ["self", "lanes"] (spLI K CL CO) := by
  refine okX F sc_Ledgerinit (fun vs H Q E h => ?_) (fun cdv A outer s H vs Q E hr h => ?_)
  · obtain ⟨p, dx, v, rfl, _⟩ := h
    rfl
  · obtain ⟨p, dx, v, rfl, hp, h⟩ := h
    refine ⟨_, (pss_cons (ps_expr (pe_fn G_check_lanes (hr.mono (by decide)) (passes_call (takes_of rfl rfl rfl rfl) (fun _ _ _ _ h => h)) (pa_cons (pv 1) pa_nil)))
      (pss_cons (ps_fld (pv 0) (pv 1) rfl)
      (pss_cons (ps_fld (pv 0) (pe_lst pa_nil) rfl)
      (pss_one (ps_fld (pv 0) pe_dnewK rfl))))), ?_⟩
    rcases h with ⟨n, rfl, n1, n8, q⟩ | ⟨bad, er⟩
    · refine ⟨_, rfl, _, rfl, .inl ⟨n, rfl, n1, n8, ?_⟩⟩
      refine ⟨_, rfl, _, rfl, p, CL, dx, [], rfl, hp, S.cL, S.l1, (by show 0 < 1000; decide), ?_⟩
      obtain ⟨G1, e1⟩ : ∃ G1, G1 = upd H p (.ins CL dx (putF "own_lanes" (.int (n : Nat)) [])) := ⟨_, rfl⟩
      rw [← e1]
      have hp1 : G1 p = some (.ins CL dx (putF "own_lanes" (.int (n : Nat)) [])) := by rw [e1, upd_same]
      have b1 : But p H G1 := e1 ▸ but_upd
      have f1 : ∀ {x}, G1 x = none → H x = none := fun {x} hx => by
        rw [e1] at hx
        by_cases c : x = p
        · rw [c, upd_same] at hx
          cases hx
        · rwa [upd_ne c] at hx
      clear e1
      refine ⟨(by show 0 ≤ sizeLine; decide), fun hl nhl => ⟨_, rfl, p, CL, dx, _, rfl, same_upd nhl _ _ hp1, S.cL, S.l2, (by show 1 < 1000; decide), ?_⟩⟩
      have nhp : hl ≠ p := (ne_of_none hp1 nhl).symm
      obtain ⟨G2, e2⟩ : ∃ G2, G2 = upd (upd G1 hl (.lst [])) p (.ins CL dx (putF "own_history" (.ref hl) (putF "own_lanes" (.int (n : Nat)) []))) := ⟨_, rfl⟩
      rw [← e2]
      have hp2 : G2 p = some (.ins CL dx (putF "own_history" (.ref hl) (putF "own_lanes" (.int (n : Nat)) []))) := by rw [e2, upd_same]
      have hl2 : G2 hl = some (.lst []) := by rw [e2, upd_ne nhp, upd_same]
      have b2 : But p H G2 := fun c o e ne => by
        rw [e2, upd_ne ne, upd_ne (ne_of_none (b1 c o e ne) nhl)]
        exact b1 c o e ne
      have f2 : ∀ {x}, G2 x = none → H x = none := fun {x} hx => by
        rw [e2] at hx
        by_cases c : x = p
        · rw [c, upd_same] at hx
          cases hx
        · rw [upd_ne c] at hx
          by_cases d : x = hl
          · rw [d, upd_same] at hx
            cases hx
          · rw [upd_ne d] at hx
            exact f1 hx
      clear e2
      refine fun da nda => ⟨_, rfl, p, CL, dx, _, rfl, same_upd nda _ _ hp2, S.cL, S.l3, Nat.lt_of_le_of_lt (Nat.le_trans (length_putF _ _ _) (Nat.add_le_add_right (length_putF _ _ _) 1)) (by decide), ?_⟩
      have ndp : da ≠ p := (ne_of_none hp2 nda).symm
      have ndl : da ≠ hl := (ne_of_none hl2 nda).symm
      refine q _ hl da ⟨dx, _, upd_same, lgf_new n hl da⟩ (by rw [upd_ne nhp, upd_ne ndl.symm]; exact hl2) (by rw [upd_ne ndp, upd_same]) (f1 nhl) (f2 nda) fun c o e ne => ?_
      rw [upd_ne ne, upd_ne (ne_of_none (b2 c o e ne) nda)]
      exact b2 c o e ne
    · exact ⟨_, rfl, _, rfl, .inr ⟨bad, er⟩⟩
end
end K71

set_option Elab.async false
set_option linter.all false
set_option maxRecDepth 100000
set_option maxHeartbeats 2000000
/-! O71d: a ledger asked. -/
namespace K71
open PySem PySem.Spec PyProof.Rows L2 LL ORD
abbrev s_Ledger_lanes : Stmt := inClass (top 25) 2
abbrev n_Ledger_lanes : List Str := ["self"]
theorem sc_Ledger_lanes : FnScope n_Ledger_lanes ["self"] (defScope s_Ledger_lanes) := ⟨rfl, rfl, rfl, by decide +kernel, rfl, by decide +kernel, by decide +kernel⟩
abbrev s_Ledger_newest : Stmt := inClass (top 25) 4
abbrev n_Ledger_newest : List Str := ["self", "cell"]
theorem sc_Ledger_newest : FnScope n_Ledger_newest ["self", "cell"] (defScope s_Ledger_newest) := ⟨rfl, rfl, rfl, by decide +kernel, rfl, by decide +kernel, by decide +kernel⟩
abbrev s_Ledger_history : Stmt := inClass (top 25) 5
abbrev n_Ledger_history : List Str := ["self"]
theorem sc_Ledger_history : FnScope n_Ledger_history ["self"] (defScope s_Ledger_history) := ⟨rfl, rfl, rfl, by decide +kernel, rfl, by decide +kernel, by decide +kernel⟩
abbrev s_Ledger_added : Stmt := inClass (top 25) 8
abbrev n_Ledger_added : List Str := ["self", "footprint"]
theorem sc_Ledger_added : FnScope n_Ledger_added ["self", "footprint"] (defScope s_Ledger_added) := ⟨rfl, rfl, rfl, by decide +kernel, rfl, by decide +kernel, by decide +kernel⟩
abbrev s_Ledger_version_at : Stmt := inClass (top 25) 9
abbrev n_Ledger_version_at : List Str := ["self", "place", "cell"]
theorem sc_Ledger_version_at : FnScope n_Ledger_version_at ["self", "place", "cell"] (defScope s_Ledger_version_at) := ⟨rfl, rfl, rfl, by decide +kernel, rfl, by decide +kernel, by decide +kernel⟩
abbrev s_Ledgereq : Stmt := inClass (top 25) 11
abbrev n_Ledgereq : List Str := ["self", "other"]
theorem sc_Ledgereq : FnScope n_Ledgereq ["self", "other"] (defScope s_Ledgereq) := ⟨rfl, rfl, rfl, by decide +kernel, rfl, by decide +kernel, by decide +kernel⟩
abbrev s_Ledgerlen : Stmt := inClass (top 25) 12
abbrev n_Ledgerlen : List Str := ["self"]
theorem sc_Ledgerlen : FnScope n_Ledgerlen ["self"] (defScope s_Ledgerlen) := ⟨rfl, rfl, rfl, by decide +kernel, rfl, by decide +kernel, by decide +kernel⟩
theorem CellOk.okt {c : Str} (h : CellOk c) : PyData.strOk c = true := okt_iff.mpr fun x hx => (show ∀ x ∈ chs.cps.toList, x < 1114112 by decide +kernel) x (h.2.2 x hx)
def fpD (f : Fp) : PyData := .tuple [.int (f.lane : Nat), .tuple (f.rd.map PyData.str), .tuple (f.wr.map PyData.str)]
def hsD (h : Hs) : PyData := .list ((List.range h.length).map fun i => fpD (fp h i))
theorem pn_tup {n : Nat} {xs : List PyData} (h : ∀ d ∈ xs, Pn n d) : Pn (n + 1) (.tuple xs) := h
theorem pn_lst {n : Nat} {xs : List PyData} (h : ∀ d ∈ xs, Pn n d) : Pn (n + 1) (.list xs) := h
theorem fp_pn {f : Fp} (ok : FpOk f) : Pn 2 (fpD f) := pn_tup fun d hd => by
  rcases List.mem_cons.mp hd with rfl | hd
  · trivial
  · rcases List.mem_cons.mp hd with rfl | hd
    · refine pn_tup fun d hd => ?_
      obtain ⟨c, hc, rfl⟩ := List.mem_map.mp hd
      exact (ok.rd.ok c hc).okt
    · rw [List.mem_singleton.mp hd]
      refine pn_tup fun d hd => ?_
      obtain ⟨c, hc, rfl⟩ := List.mem_map.mp hd
      exact (ok.wr.ok c hc).okt
theorem hs_pn {h : Hs} (ok : HsOk h) : Pn 3 (hsD h) := pn_lst fun d hd => by
  obtain ⟨i, hi, rfl⟩ := List.mem_map.mp hd
  exact fp_pn (ok.fp i (List.mem_range.mp hi))
section
variable {P : Program} {w : World} {K : PySem.W.Frag} {mg : Str → Option Value} {base : Heap} {CE CH CO CI CN CL CA : Addr} {f : Addr} {fd : FuncData}
theorem fp_dp {H : Hp} {v : V} {g : Fp} (h : FpAt H v g) : Dp K H v (fpD g) := by
  obtain ⟨t, r, x, rfl, h1, h2, h3⟩ := h
  exact .tup (SqT.of h1) (.cons (.int _) (.cons (.tup (SqT.of h2) (dpa_map fun c _ => .str c)) (.cons (.tup (SqT.of h3) (dpa_map fun c _ => .str c)) .nil)))
theorem hs_dp {H : Hp} {a : Addr} {vs : List V} {h : Hs} (e : H a = some (.lst vs)) (f : Fps H vs h) : Dp K H (.ref a) (hsD h) := by
  refine .lst (SqL.of e) (dpa_at (by rw [List.length_map, List.length_range, f.len]) fun i v d h1 h2 => ?_)
  rw [List.getElem?_map] at h2
  obtain ⟨j, hj, rfl⟩ := Option.map_eq_some_iff.mp h2
  have hi : i < h.length := by
    rw [← f.len]
    exact (List.getElem?_eq_some_iff.mp h1).1
  rw [List.getElem?_range hi] at hj
  cases hj
  exact fp_dp (f.at_ i v h1)
/-! ### len, history, added -/
def spLen (CL : Addr) : Sp := fun vs H Q _ => ∃ (q hl da : Addr) (n k : Nat) (us : List V), vs = [.ref q] ∧ LgAt CL H q n hl da k ∧ H hl = some (.lst us) ∧ Q (.int (us.length : Nat)) H
theorem ok_len (T : Tx K mg CE CH CO) (S : Tz K mg CL CA) (F : FD K "__len__" "Ledger.__len__" s_Ledgerlen [] f fd) : FnG P w K mg base CX0 1 f fd ["self"] (spLen CL) := by
  refine ok0 F sc_Ledgerlen (fun vs H Q E h => ?_) (fun cdv A outer s H vs Q E hr h => ?_)
  · obtain ⟨q, hl, da, n, k, us, rfl, _⟩ := h
    rfl
  · obtain ⟨q, hl, da, n, k, us, rfl, ⟨dx, fs, hq, lf⟩, hu, Q1⟩ := h
    exact ⟨_, (pss_one (ps_ret (pe_callB call_len_seq (by rfl) T.n_len (by decide +kernel) (pa_cons (pe_fld (pv 0) rfl) pa_nil)))), _, rfl, q, CL, dx, _, _, rfl, hq, S.cL, S.l2, lf.h, hl, _, rfl, .inl (SqL.of hu), Q1⟩
def spHis (CL : Addr) : Sp := fun vs H Q _ => ∃ (q hl da : Addr) (n k : Nat) (us : List V), vs = [.ref q] ∧ LgAt CL H q n hl da k ∧ H hl = some (.lst us) ∧ ∀ H' l, Same H H' → H l = none → H' l = some (.lst us) → Q (.ref l) H'
theorem ok_hist_ (T : Tx K mg CE CH CO) (S : Tz K mg CL CA) (F : FD K "history" "Ledger.history" s_Ledger_history [] f fd) : FnG P w K mg base CX0 1 f fd ["self"] (spHis CL) := by
  refine ok0 F sc_Ledger_history (fun vs H Q E h => ?_) (fun cdv A outer s H vs Q E hr h => ?_)
  · obtain ⟨q, hl, da, n, k, us, rfl, _⟩ := h
    rfl
  · obtain ⟨q, hl, da, n, k, us, rfl, ⟨dx, fs, hq, lf⟩, hu, Q1⟩ := h
    exact ⟨_, (pss_one (ps_ret (pe_callTy call_list_of (by rfl) T.n_list (by decide +kernel) (pa_cons (pe_fld (pv 0) rfl) pa_nil)))), _, rfl, q, CL, dx, _, _, rfl, hq, S.cL, S.l2, lf.h, hl, _, rfl, .inl (SqL.of hu), fun l nl => Q1 _ l (same_upd nl) nl upd_same⟩
def spAdd (CL : Addr) : Sp := fun vs H Q _ => ∃ (q hl da : Addr) (n k : Nat) (us : List V) (v : V), vs = [.ref q, v] ∧ LgAt CL H q n hl da k ∧ H hl = some (.lst us) ∧ us.length ≤ 1000 ∧ Q (.int (us.length : Nat)) (upd H hl (.lst (us ++ [v])))
theorem ok_added (T : Tx K mg CE CH CO) (S : Tz K mg CL CA) (F : FD K "added" "Ledger.added" s_Ledger_added [] f fd) : FnG P w K mg base CX0 1 f fd ["self", "footprint"] (spAdd CL) := by
  refine ok0 F sc_Ledger_added (fun vs H Q E h => ?_) (fun cdv A outer s H vs Q E hr h => ?_)
  · obtain ⟨q, hl, da, n, k, us, v, rfl, _⟩ := h
    rfl
  · obtain ⟨q, hl, da, n, k, us, v, rfl, ⟨dx, fs, hq, lf⟩, hu, l1, Q1⟩ := h
    refine ⟨_, (pss_cons (ps_expr (pe_bm PySem.F.plainAttrs_list PySem.F.slot_list_append PySem.F.type_list_append mt_append (pe_fld (pv 0) rfl) (pa_cons (pv 1) pa_nil)))
      (pss_one (ps_ret (pe_op op_sub (pe_callB call_len_seq (by rfl) T.n_len (by decide +kernel) (pa_cons (pe_fld (pv 0) rfl) pa_nil)) pe_int)))), ?_⟩
    have nhq : hl ≠ q := fun z => by
      rw [z, hq] at hu
      cases hu
    refine ⟨_, rfl, q, CL, dx, _, _, rfl, hq, S.cL, S.l2, lf.h, .inl ⟨rfl, _, SqL.of hu⟩, _, rfl, hl, _, _, rfl, rfl, hu, Nat.lt_of_lt_of_le (show _ < 100000 by omega) (small (Nat.le_refl _)), ?_⟩
    refine ⟨_, rfl, q, CL, dx, _, _, rfl, by rw [upd_ne nhq.symm]; exact hq, S.cL, S.l2, lf.h, hl, _, rfl, .inl (SqL.of upd_same), _, _, rfl, rfl, ?_⟩
    rw [List.length_append, List.length_singleton]
    have e : (((us.length + 1 : Nat) : Int) - 1) = ((us.length : Nat) : Int) := by omega
    show Q (.int (((us.length + 1 : Nat) : Int) - 1)) _
    rw [e]
    exact Q1
def spLanes (CL : Addr) : Sp := fun vs H Q _ => ∃ (q hl da : Addr) (n k : Nat), vs = [.ref q] ∧ LgAt CL H q n hl da k ∧ Q (.int (n : Nat)) H
theorem ok_lanes (T : Tx K mg CE CH CO) (S : Tz K mg CL CA) (F : FD K "lanes" "Ledger.lanes" s_Ledger_lanes [] f fd) : FnG P w K mg base CX0 1 f fd ["self"] (spLanes CL) := by
  refine ok0 F sc_Ledger_lanes (fun vs H Q E h => ?_) (fun cdv A outer s H vs Q E hr h => ?_)
  · obtain ⟨q, hl, da, n, k, rfl, _⟩ := h
    rfl
  · obtain ⟨q, hl, da, n, k, rfl, ⟨dx, fs, hq, lf⟩, Q1⟩ := h
    exact ⟨_, (pss_one (ps_ret (pe_fld (pv 0) rfl))), _, rfl, q, CL, dx, _, _, rfl, hq, S.cL, S.l1, lf.l, Q1⟩
/-! ### the newest version, the version at a place -/
def spVer (CL : Addr) : Sp := fun vs H Q _ => ∃ (q hl da : Addr) (n k : Nat) (h : Hs) (e : Nat) (c : Str), vs = [.ref q, .int (e : Nat), .str c] ∧ LgAt CL H q n hl da k ∧ HsAt H hl h ∧ e ≤ h.length ∧ e ≤ 1000 ∧ Q (.int (oi (lw h e c))) H
theorem ok_version (T : Tx K mg CE CH CO) (S : Tz K mg CL CA) (G_last_writer : Fnc P w K mg base CX0 1 "last_writer" [] spLw) (F : FD K "version_at" "Ledger.version_at" s_Ledger_version_at [] f fd) : FnG P w K mg base CX0 2 f fd ["self", "place", "cell"] (spVer CL) := by
  refine ok0 F sc_Ledger_version_at (fun vs H Q E h => ?_) (fun cdv A outer s H vs Q E hr h => ?_)
  · obtain ⟨q, hl, da, n, k, h, e, c, rfl, _⟩ := h
    rfl
  · obtain ⟨q, hl, da, n, k, h, e, c, rfl, ⟨dx, fs, hq, lf⟩, hh, le, l9, Q1⟩ := h
    exact ⟨_, (pss_one (ps_ret (pe_fn G_last_writer (hr.mono (by decide)) pass0 (pa_cons (pe_fld (pv 0) rfl) (pa_cons (pv 1) (pa_cons (pv 2) pa_nil)))))), _, rfl, q, CL, dx, _, _, rfl, hq, S.cL, S.l2, lf.h, _, rfl, _, rfl, hl, h, e, c, rfl, hh, le, l9, Q1⟩
def spNew (K : PySem.W.Frag) (CL CI : Addr) : Sp := fun vs H Q E => ∃ (q hl da : Addr) (n k : Nat) (h : Hs) (us : List V) (v : V), vs = [.ref q, v] ∧ LgAt CL H q n hl da k ∧ H hl = some (.lst us) ∧ Fps H us h ∧ h.length ≤ 1000 ∧ ((∃ c : Str, v = .str c ∧ CellOk c ∧ ∀ H', Same H H' → Q (.int (oi (lw h h.length c))) H') ∨ (CellV K H v false ∧ ErF CI "value" H v E))
theorem ok_newest (T : Tx K mg CE CH CO) (S : Tz K mg CL CA) (G_check_cell : Fnc P w K mg base (L2.CX P w) 3 "check_cell" [] (spCc K CI)) (G_last_writer : Fnc P w K mg base CX0 1 "last_writer" [] spLw) (F : FD K "newest" "Ledger.newest" s_Ledger_newest [] f fd) : FnG P w K mg base (L2.CX P w) 4 f fd ["self", "cell"] (spNew K CL CI) := by
  refine okX F sc_Ledger_newest (fun vs H Q E h => ?_) (fun cdv A outer s H vs Q E hr h => ?_)
  · obtain ⟨q, hl, da, n, k, h, us, v, rfl, _⟩ := h
    rfl
  · obtain ⟨q, hl, da, n, k, h, us, v, rfl, ⟨dx, fs, hq, lf⟩, hu, fps, l9, hv⟩ := h
    refine ⟨_, (pss_cons (ps_expr (pe_fn G_check_cell (hr.mono (by decide)) (passes_call (takes_of rfl rfl rfl rfl) (fun _ _ _ _ h => h)) (pa_cons (pv 1) pa_nil)))
      (pss_one (ps_ret (pe_fn G_last_writer (hr.mono (by decide)) pass0 (pa_cons (pe_fld (pv 0) rfl) (pa_cons (pe_callB call_len_seq (by rfl) T.n_len (by decide +kernel) (pa_cons (pe_fld (pv 0) rfl) pa_nil)) (pa_cons (pv 1) pa_nil))))))), ?_⟩
    rcases hv with ⟨c, rfl, ok, Q1⟩ | ⟨cv, er⟩
    · refine ⟨_, rfl, _, rfl, .inl ⟨c, rfl, ok, fun H1 s1 => ?_⟩⟩
      have hq1 := s1 _ _ hq
      have hu1 := s1 _ _ hu
      refine ⟨_, rfl, q, CL, dx, _, _, rfl, hq1, S.cL, S.l2, lf.h, _, rfl, q, CL, dx, _, _, rfl, hq1, S.cL, S.l2, lf.h, hl, _, rfl, .inl (SqL.of hu1), _, rfl, hl, h, h.length, c, by rw [fps.len]; rfl, ⟨us, .inl hu1, fps.same s1⟩, Nat.le_refl _, l9, Q1 _ s1⟩
    · exact ⟨_, rfl, v, rfl, .inr ⟨cv, er⟩⟩
end
end K71

set_option Elab.async false
set_option linter.all false
set_option maxRecDepth 100000
set_option maxHeartbeats 2000000
/-! LLExo: an own error class without an __init__ of its own, raised with a text. -/
namespace LL
open PySem PySem.Spec PyProof.Rows L2
structure XclO (K : PySem.W.Frag) (mg : Str → Option Value) (x : Str) (C : Addr) : Prop where
  ex : ∃ (B newId initId : String) (bmB : List Value), ExcBaseFacts B newId initId bmB ∧ PySem.W.excIn K C bmB newId = true
  mx : mg x = some (.ref C)
  kC : PySem.W.keepIn K (.ref C) = true
  sb : PySem.W.subIn K (.ref C) (.type "BaseException") = some true
  ty : PySem.W.typeIn K (.ref C) = some (.type "type")
theorem ps_raiseO {X : Cx} {C : Addr} {x m : Str} {W : WX} {j : Nat} {p p2 pos rpos : Pos} (G : XclO X.K X.mg x C) (tk : Takes X W) (hc : X.calm = true := by rfl) (hg : Gl X x := by rfl) (hdb : (x == ("__debug__" : Str)) = false := by decide) :
    PS X (.Raise (some (.Call (.Name x p) [.Constant (.str m) j p2] [] pos)) none rpos) (fun _ σ H => W (.ref C) none σ H) := by
  obtain ⟨B, n, i, bm, F, q⟩ := G.ex
  exact ps_raise hc tk (pmk_own F q G.mx G.kC (raises_own G.sb G.ty) hg hdb)
/-- isinstance(e, c) in a suite, the error without a dict of its own -/
def rIsE (K : PySem.W.Frag) (D a : Addr) (cls : Value) (d : Option Addr) : List V → Hp → VK → Prop := fun xs H Q => ∃ (c : V) (cv : Value) (b : Bool), xs = [.ref a, c] ∧ (∀ u, RelV c u → u = cv) ∧ cls = .ref D ∧ d = none ∧ PySem.W.kitOne K (.ref D) cv = some b ∧ Q (.bl b) H
theorem call_isE {X : Cx} {a D : Addr} {oe : Obj} {cls : Value} {d : Option Addr} {pn : List (Addr × Obj)} (C : ExcC X.K D) (hz : Zc cls d oe) (hf : ∃ vs, oe.data = .fields vs) : CallR (X.suite a ((a, oe) :: pn)) (.builtin "isinstance") (rIsE X.K D a cls d) := by
  intro pins s σ H xs us Q I r h
  obtain ⟨c, cv, b, rfl, hcv, rfl, rfl, e, q⟩ := h
  cases r with
  | cons rx rr =>
    cases rr with
    | cons rt rr =>
      cases rr
      cases rx
      cases hcv _ rt
      obtain ⟨at_, _⟩ := I.pin (a, oe) (List.mem_append.mpr (.inl List.mem_cons_self))
      obtain ⟨vs, hv⟩ := hf
      have J : PySem.W.InstAt s.heap a oe D none := ⟨at_, hz.1, by unfold PySem.W.notCls; rw [hv] <;> rfl, by rw [hz.2]; trivial⟩
      exact PySem.W.kia_one (kitE C) I.kIn ⟨_, J⟩ e (fun z => nomatch z) fun tk => ⟨.bl b, H, I.kept (t' := tk) fun _ _ z => z, rfl, q⟩
end LL

set_option Elab.async false
set_option linter.all false
set_option maxRecDepth 100000
set_option maxHeartbeats 2000000
/-! O71e: attempts. -/
namespace K71
open PySem PySem.Spec PyProof.Rows L2 LL ORD
abbrev s_Attemptinit : Stmt := inClass (top 26) 0
abbrev n_Attemptinit : List Str := ["self", "ledger", "lane"]
theorem sc_Attemptinit : FnScope n_Attemptinit ["self", "ledger", "lane"] (defScope s_Attemptinit) := ⟨rfl, rfl, rfl, by decide +kernel, rfl, by decide +kernel, by decide +kernel⟩
abbrev s_Attempt_lane : Stmt := inClass (top 26) 1
abbrev n_Attempt_lane : List Str := ["self"]
theorem sc_Attempt_lane : FnScope n_Attempt_lane ["self"] (defScope s_Attempt_lane) := ⟨rfl, rfl, rfl, by decide +kernel, rfl, by decide +kernel, by decide +kernel⟩
abbrev s_Attempt_place : Stmt := inClass (top 26) 2
abbrev n_Attempt_place : List Str := ["self"]
theorem sc_Attempt_place : FnScope n_Attempt_place ["self"] (defScope s_Attempt_place) := ⟨rfl, rfl, rfl, by decide +kernel, rfl, by decide +kernel, by decide +kernel⟩
abbrev s_Attempt_is_over : Stmt := inClass (top 26) 3
abbrev n_Attempt_is_over : List Str := ["self"]
theorem sc_Attempt_is_over : FnScope n_Attempt_is_over ["self"] (defScope s_Attempt_is_over) := ⟨rfl, rfl, rfl, by decide +kernel, rfl, by decide +kernel, by decide +kernel⟩
abbrev s_Attempt_check : Stmt := inClass (top 26) 4
abbrev n_Attempt_check : List Str := ["self"]
theorem sc_Attempt_check : FnScope n_Attempt_check ["self"] (defScope s_Attempt_check) := ⟨rfl, rfl, rfl, by decide +kernel, rfl, by decide +kernel, by decide +kernel⟩
abbrev s_Attempt_drop : Stmt := inClass (top 26) 8
abbrev n_Attempt_drop : List Str := ["self"]
theorem sc_Attempt_drop : FnScope n_Attempt_drop ["self"] (defScope s_Attempt_drop) := ⟨rfl, rfl, rfl, by decide +kernel, rfl, by decide +kernel, by decide +kernel⟩
abbrev s_Attempt_write : Stmt := inClass (top 26) 6
abbrev n_Attempt_write : List Str := ["self", "cell"]
theorem sc_Attempt_write : FnScope n_Attempt_write ["self", "cell"] (defScope s_Attempt_write) := ⟨rfl, rfl, rfl, by decide +kernel, rfl, by decide +kernel, by decide +kernel⟩
abbrev s_Attempt_read : Stmt := inClass (top 26) 5
abbrev n_Attempt_read : List Str := ["self", "cell"]
theorem sc_Attempt_read : FnScope n_Attempt_read ["self", "cell"] (defScope s_Attempt_read) := ⟨rfl, rfl, rfl, by decide +kernel, rfl, by decide +kernel, by decide +kernel⟩
/-- beside p all stays, and what is free now was free -/
structure Bp (p : Addr) (H G : Hp) : Prop where
  but : But p H G
  fr : ∀ x, G x = none → H x = none
theorem bp_refl {p : Addr} {H : Hp} : Bp p H H := ⟨.refl, fun _ h => h⟩
theorem Bp.st {p : Addr} {H G : Hp} {o : HO} (b : Bp p H G) : Bp p H (upd G p o) := by
  refine ⟨fun c x e n => by rw [upd_ne n]; exact b.but c x e n, fun x hx => ?_⟩
  by_cases c : x = p
  · rw [c, upd_same] at hx
    cases hx
  · rw [upd_ne c] at hx
    exact b.fr x hx
theorem Bp.al {p d : Addr} {H G : Hp} {o : HO} (b : Bp p H G) (n : G d = none) : Bp p H (upd G d o) := by
  refine ⟨fun c x e m => by rw [upd_ne (ne_of_none (b.but c x e m) n)]; exact b.but c x e m, fun x hx => ?_⟩
  by_cases c : x = d
  · rw [c, upd_same] at hx
    cases hx
  · rw [upd_ne c] at hx
    exact b.fr x hx
structure AtF (fs : List (Str × V)) (q : Addr) (l pl : Nat) (dv dw : Addr) (b : Bool) : Prop where
  g : fs.lookup ("own_ledger" : Str) = some (.ref q)
  l : fs.lookup ("own_lane" : Str) = some (.int (l : Nat))
  p : fs.lookup ("own_place" : Str) = some (.int (pl : Nat))
  v : fs.lookup ("own_versions" : Str) = some (.ref dv)
  w : fs.lookup ("own_written" : Str) = some (.ref dw)
  e : fs.lookup ("own_end" : Str) = some (.bl b)
  no : ∀ m : Str, m ≠ "own_ledger" → m ≠ "own_lane" → m ≠ "own_place" → m ≠ "own_versions" → m ≠ "own_written" → m ≠ "own_end" → fs.lookup m = none
  len : fs.length ≤ if b = true then 7 else 6
  vw : dv ≠ dw
theorem AtF.l7 {fs : List (Str × V)} {q dv dw : Addr} {l pl : Nat} {b : Bool} (h : AtF fs q l pl dv dw b) : fs.length ≤ 7 := by
  have := h.len
  split at this <;> omega
def AtAt (CA : Addr) (H : Hp) (p q : Addr) (l pl : Nat) (dv dw : Addr) (b : Bool) : Prop := ∃ dx fs, H p = some (.ins CA dx fs) ∧ AtF fs q l pl dv dw b
theorem AtAt.same {CA : Addr} {H H' : Hp} {p q dv dw : Addr} {l pl : Nat} {b : Bool} (h : AtAt CA H p q l pl dv dw b) (s : Same H H') : AtAt CA H' p q l pl dv dw b := let ⟨dx, fs, e, z⟩ := h; ⟨dx, fs, s _ _ e, z⟩
abbrev afs (q : Addr) (l pl : Nat) (dv dw : Addr) : List (Str × V) := putF "own_end" (.bl false) (putF "own_written" (.ref dw) (putF "own_versions" (.ref dv) (putF "own_place" (.int (pl : Nat)) (putF "own_lane" (.int (l : Nat)) (putF "own_ledger" (.ref q) [])))))
theorem atf_new (q : Addr) (l pl : Nat) (dv dw : Addr) (vw : dv ≠ dw) : AtF (afs q l pl dv dw) q l pl dv dw false := by
  refine ⟨?_, ?_, ?_, ?_, ?_, ?_, fun m h1 h2 h3 h4 h5 h6 => ?_, ?_, vw⟩
  · repeat (first | rw [lookup_putF, if_neg (by decide +kernel)] | rw [lookup_putF, if_pos rfl])
  · repeat (first | rw [lookup_putF, if_neg (by decide +kernel)] | rw [lookup_putF, if_pos rfl])
  · repeat (first | rw [lookup_putF, if_neg (by decide +kernel)] | rw [lookup_putF, if_pos rfl])
  · repeat (first | rw [lookup_putF, if_neg (by decide +kernel)] | rw [lookup_putF, if_pos rfl])
  · repeat (first | rw [lookup_putF, if_neg (by decide +kernel)] | rw [lookup_putF, if_pos rfl])
  · rw [lookup_putF, if_pos rfl]
  · rw [lookup_putF, if_neg h6, lookup_putF, if_neg h5, lookup_putF, if_neg h4, lookup_putF, if_neg h3, lookup_putF, if_neg h2, lookup_putF, if_neg h1]
    rfl
  · have a1 := length_putF "own_ledger" (.ref q) []
    have a2 := length_putF "own_lane" (.int (l : Nat)) (putF "own_ledger" (.ref q) [])
    have a3 := length_putF "own_place" (.int (pl : Nat)) (putF "own_lane" (.int (l : Nat)) (putF "own_ledger" (.ref q) []))
    have a4 := length_putF "own_versions" (.ref dv) (putF "own_place" (.int (pl : Nat)) (putF "own_lane" (.int (l : Nat)) (putF "own_ledger" (.ref q) [])))
    have a5 := length_putF "own_written" (.ref dw) (putF "own_versions" (.ref dv) (putF "own_place" (.int (pl : Nat)) (putF "own_lane" (.int (l : Nat)) (putF "own_ledger" (.ref q) []))))
    have a6 := length_putF "own_end" (.bl false) (putF "own_written" (.ref dw) (putF "own_versions" (.ref dv) (putF "own_place" (.int (pl : Nat)) (putF "own_lane" (.int (l : Nat)) (putF "own_ledger" (.ref q) [])))))
    simp only [List.length_nil] at a1
    show (afs q l pl dv dw).length ≤ 6
    unfold afs
    omega
theorem lt1000 {fs : List (Str × V)} {f : Str} {v : V} {k : Nat} (h : fs.length ≤ k) : (putF f v fs).length ≤ k + 1 := Nat.le_trans (length_putF f v fs) (Nat.add_le_add_right h 1)
section
variable {P : Program} {w : World} {K : PySem.W.Frag} {mg : Str → Option Value} {base : Heap} {CE CH CO CI CN CB CV CS CL CA : Addr} {f : Addr} {fd : FuncData}
def spAI (CL CA : Addr) : Sp := fun vs H Q _ => ∃ (p dx q hl da : Addr) (l n k : Nat) (us : List V), vs = [.ref p, .ref q, .int (l : Nat)] ∧ H p = some (.ins CA dx []) ∧ LgAt CL H q n hl da k ∧ q ≠ p ∧ hl ≠ p ∧ H hl = some (.lst us) ∧ us.length ≤ 1000 ∧
  ∀ H' dv dw, AtAt CA H' p q l us.length dv dw false → H' dv = some (.dK []) → H' dw = some (.dK []) → H dv = none → H dw = none → But p H H' → Q .non H'
theorem ok_ainit (T : Tx K mg CE CH CO) (S : Tz K mg CL CA) (S_len : SpF P w K mg base CX0 1 CL "__len__" (spLen CL)) (F : FD K "__init__" "Attempt.__init__" s_Attemptinit [] f fd) : FnG P w K mg base CX0 3 f fd ["self", "ledger", "lane"] (spAI CL CA) := by
  refine ok0 F sc_Attemptinit (fun vs H Q E h => ?_) (fun cdv A outer s H vs Q E hr h => ?_)
  · obtain ⟨p, dx, q, hl, da, l, n, k, us, rfl, _⟩ := h
    rfl
  · obtain ⟨p, dx, q, hl, da, l, n, k, us, rfl, hp, ⟨dq, fs, hq, lf⟩, nqp, nlp, hu, lu, Q1⟩ := h
    refine ⟨_, (pss_cons (ps_fld (pv 0) (pv 1) rfl)
      (pss_cons (ps_fld (pv 0) (pv 2) rfl)
      (pss_cons (ps_fld (pv 0) (pe_callB (call_lenO S_len (hr.mono (by decide)) pass0) (by rfl) T.n_len (by decide +kernel) (pa_cons (pv 1) pa_nil)) rfl)
      (pss_cons (ps_fld (pv 0) pe_dnewK rfl)
      (pss_cons (ps_fld (pv 0) pe_dnewK rfl)
      (pss_one (ps_fld (pv 0) pe_bl rfl))))))), ?_⟩
    refine ⟨_, rfl, _, rfl, p, CA, dx, [], rfl, hp, S.cA, S.a1, (by show 0 < 1000; decide), ?_⟩
    have k1 := lt1000 (f := "own_ledger") (v := .ref q) (fs := []) (k := 0) (Nat.le_refl _)
    have B1 : Bp p H (upd H p (.ins CA dx (putF "own_ledger" (.ref q) []))) := bp_refl.st
    obtain ⟨G1, e1⟩ : ∃ G1, G1 = upd H p (.ins CA dx (putF "own_ledger" (.ref q) [])) := ⟨_, rfl⟩
    have hp1 : G1 p = some (.ins CA dx (putF "own_ledger" (.ref q) [])) := by rw [e1, upd_same]
    rw [← e1] at B1 ⊢
    clear e1
    refine ⟨_, rfl, _, rfl, p, CA, dx, _, rfl, hp1, S.cA, S.a2, by omega, ?_⟩
    have k2 := lt1000 (f := "own_lane") (v := .int (l : Nat)) k1
    have B2 : Bp p H (upd G1 p (.ins CA dx (putF "own_lane" (.int (l : Nat)) (putF "own_ledger" (.ref q) [])))) := B1.st
    obtain ⟨G2, e2⟩ : ∃ G2, G2 = upd G1 p (.ins CA dx (putF "own_lane" (.int (l : Nat)) (putF "own_ledger" (.ref q) []))) := ⟨_, rfl⟩
    have hp2 : G2 p = some (.ins CA dx (putF "own_lane" (.int (l : Nat)) (putF "own_ledger" (.ref q) []))) := by rw [e2, upd_same]
    rw [← e2] at B2 ⊢
    clear e2
    have hq2 := B2.but _ _ hq nqp
    have hu2 := B2.but _ _ hu nlp
    refine ⟨_, rfl, q, dq, fs, rfl, hq2, q, hl, da, n, k, us, rfl, ⟨dq, fs, hq2, lf⟩, hu2, us.length, rfl, by omega, ?_⟩
    refine ⟨_, rfl, p, CA, dx, _, rfl, hp2, S.cA, S.a3, by omega, ?_⟩
    have k3 := lt1000 (f := "own_place") (v := .int (us.length : Nat)) k2
    have B3 : Bp p H (upd G2 p (.ins CA dx (putF "own_place" (.int (us.length : Nat)) (putF "own_lane" (.int (l : Nat)) (putF "own_ledger" (.ref q) []))))) := B2.st
    obtain ⟨G3, e3⟩ : ∃ G3, G3 = upd G2 p (.ins CA dx (putF "own_place" (.int (us.length : Nat)) (putF "own_lane" (.int (l : Nat)) (putF "own_ledger" (.ref q) [])))) := ⟨_, rfl⟩
    have hp3 : G3 p = some (.ins CA dx (putF "own_place" (.int (us.length : Nat)) (putF "own_lane" (.int (l : Nat)) (putF "own_ledger" (.ref q) [])))) := by rw [e3, upd_same]
    rw [← e3] at B3 ⊢
    clear e3
    refine fun dv ndv => ⟨_, rfl, p, CA, dx, _, rfl, same_upd ndv _ _ hp3, S.cA, S.a4, by omega, ?_⟩
    have k4 := lt1000 (f := "own_versions") (v := .ref dv) k3
    have nvp : dv ≠ p := (ne_of_none hp3 ndv).symm
    have B4 : Bp p H (upd (upd G3 dv (.dK [])) p (.ins CA dx (putF "own_versions" (.ref dv) (putF "own_place" (.int (us.length : Nat)) (putF "own_lane" (.int (l : Nat)) (putF "own_ledger" (.ref q) [])))))) := (B3.al ndv).st
    obtain ⟨G4, e4⟩ : ∃ G4, G4 = upd (upd G3 dv (.dK [])) p (.ins CA dx (putF "own_versions" (.ref dv) (putF "own_place" (.int (us.length : Nat)) (putF "own_lane" (.int (l : Nat)) (putF "own_ledger" (.ref q) []))))) := ⟨_, rfl⟩
    have hp4 : G4 p = some (.ins CA dx (putF "own_versions" (.ref dv) (putF "own_place" (.int (us.length : Nat)) (putF "own_lane" (.int (l : Nat)) (putF "own_ledger" (.ref q) []))))) := by rw [e4, upd_same]
    have hv4 : G4 dv = some (.dK []) := by rw [e4, upd_ne nvp, upd_same]
    rw [← e4] at B4 ⊢
    clear e4
    refine fun dw ndw => ⟨_, rfl, p, CA, dx, _, rfl, same_upd ndw _ _ hp4, S.cA, S.a5, by omega, ?_⟩
    have k5 := lt1000 (f := "own_written") (v := .ref dw) k4
    have nwp : dw ≠ p := (ne_of_none hp4 ndw).symm
    have nwv : dw ≠ dv := (ne_of_none hv4 ndw).symm
    have B5 : Bp p H (upd (upd G4 dw (.dK [])) p (.ins CA dx (putF "own_written" (.ref dw) (putF "own_versions" (.ref dv) (putF "own_place" (.int (us.length : Nat)) (putF "own_lane" (.int (l : Nat)) (putF "own_ledger" (.ref q) []))))))) := (B4.al ndw).st
    obtain ⟨G5, e5⟩ : ∃ G5, G5 = upd (upd G4 dw (.dK [])) p (.ins CA dx (putF "own_written" (.ref dw) (putF "own_versions" (.ref dv) (putF "own_place" (.int (us.length : Nat)) (putF "own_lane" (.int (l : Nat)) (putF "own_ledger" (.ref q) [])))))) := ⟨_, rfl⟩
    have hp5 : G5 p = some (.ins CA dx (putF "own_written" (.ref dw) (putF "own_versions" (.ref dv) (putF "own_place" (.int (us.length : Nat)) (putF "own_lane" (.int (l : Nat)) (putF "own_ledger" (.ref q) [])))))) := by rw [e5, upd_same]
    have hv5 : G5 dv = some (.dK []) := by rw [e5, upd_ne nvp, upd_ne nwv.symm]; exact hv4
    have hw5 : G5 dw = some (.dK []) := by rw [e5, upd_ne nwp, upd_same]
    rw [← e5] at B5 ⊢
    clear e5
    refine ⟨_, rfl, p, CA, dx, _, rfl, hp5, S.cA, S.a6, by omega, ?_⟩
    refine Q1 _ dv dw ⟨dx, _, upd_same, atf_new q l us.length dv dw nwv.symm⟩ (by rw [upd_ne nvp]; exact hv5) (by rw [upd_ne nwp]; exact hw5) (B3.fr _ ndv) (B4.fr _ ndw) B5.st.but
theorem same_new {H H' : Hp} {a dx : Addr} (ha : H a = none) (hd : H dx = none) (b : But a (upd (upd H dx (.own a)) a (.ins CL dx [])) H') : Same H H' := fun c o e => by
  refine b c o ?_ (ne_of_none e ha)
  rw [upd_ne (ne_of_none e ha), upd_ne (ne_of_none e hd)]
  exact e
theorem same_new0 {H : Hp} {a dx : Addr} (ha : H a = none) (hd : H dx = none) : Same H (upd (upd H dx (.own a)) a (.ins CL dx [])) := same_new ha hd But.refl
def spMkA (CL CA : Addr) : Sp := fun vs H Q _ => ∃ (q hl da : Addr) (l n k : Nat) (us : List V), vs = [.ref q, .int (l : Nat)] ∧ LgAt CL H q n hl da k ∧ H hl = some (.lst us) ∧ us.length ≤ 1000 ∧
  ∀ H' p dv dw, AtAt CA H' p q l us.length dv dw false → H' dv = some (.dK []) → H' dw = some (.dK []) → H p = none → H dv = none → H dw = none → Same H H' → Q (.ref p) H'
theorem mkA (G : Mkr P w K mg base CX0 3 "Attempt" CA [] (spAI CL CA)) : Mkf P w K mg base CX0 3 "Attempt" (spMkA CL CA) := by
  refine ⟨CA, [], _, G, fun vs H Q E h a dx ha hd ne => ?_⟩
  obtain ⟨q, hl, da, l, n, k, us, rfl, lg, hu, lu, Q1⟩ := h
  have s0 := same_new0 (CL := CA) ha hd
  have nqa : q ≠ a := by
    obtain ⟨_, _, e, _⟩ := lg
    exact ne_of_none e ha
  refine ⟨a, dx, q, hl, da, l, n, k, us, rfl, upd_same, lg.same s0, nqa, ne_of_none hu ha, s0 _ _ hu, lu, fun H' dv dw at_ h1 h2 n1 n2 b => ⟨rfl, Q1 H' a dv dw at_ h1 h2 ha (s0.free n1) (s0.free n2) (same_new ha hd b)⟩⟩
def spOver (CA : Addr) : Sp := fun vs H Q _ => ∃ (p q dv dw : Addr) (l pl : Nat) (b : Bool), vs = [.ref p] ∧ AtAt CA H p q l pl dv dw b ∧ Q (.bl b) H
theorem ok_over (T : Tx K mg CE CH CO) (S : Tz K mg CL CA) (F : FD K "is_over" "Attempt.is_over" s_Attempt_is_over [] f fd) : FnG P w K mg base CX0 1 f fd ["self"] (spOver CA) := by
  refine ok0 F sc_Attempt_is_over (fun vs H Q E h => ?_) (fun cdv A outer s H vs Q E hr h => ?_)
  · obtain ⟨p, q, dv, dw, l, pl, b, rfl, _⟩ := h
    rfl
  · obtain ⟨p, q, dv, dw, l, pl, b, rfl, ⟨dx, fs, hp, af⟩, Q1⟩ := h
    exact ⟨_, (pss_one (ps_ret (pe_fld (pv 0) rfl))), _, rfl, p, CA, dx, _, _, rfl, hp, S.cA, S.a6, af.e, Q1⟩
def spLane (CA : Addr) : Sp := fun vs H Q _ => ∃ (p q dv dw : Addr) (l pl : Nat) (b : Bool), vs = [.ref p] ∧ AtAt CA H p q l pl dv dw b ∧ Q (.int (l : Nat)) H
theorem ok_lane (T : Tx K mg CE CH CO) (S : Tz K mg CL CA) (F : FD K "lane" "Attempt.lane" s_Attempt_lane [] f fd) : FnG P w K mg base CX0 1 f fd ["self"] (spLane CA) := by
  refine ok0 F sc_Attempt_lane (fun vs H Q E h => ?_) (fun cdv A outer s H vs Q E hr h => ?_)
  · obtain ⟨p, q, dv, dw, l, pl, b, rfl, _⟩ := h
    rfl
  · obtain ⟨p, q, dv, dw, l, pl, b, rfl, ⟨dx, fs, hp, af⟩, Q1⟩ := h
    exact ⟨_, (pss_one (ps_ret (pe_fld (pv 0) rfl))), _, rfl, p, CA, dx, _, _, rfl, hp, S.cA, S.a2, af.l, Q1⟩
def spPlace (CA : Addr) : Sp := fun vs H Q _ => ∃ (p q dv dw : Addr) (l pl : Nat) (b : Bool), vs = [.ref p] ∧ AtAt CA H p q l pl dv dw b ∧ Q (.int (pl : Nat)) H
theorem ok_place (T : Tx K mg CE CH CO) (S : Tz K mg CL CA) (F : FD K "place" "Attempt.place" s_Attempt_place [] f fd) : FnG P w K mg base CX0 1 f fd ["self"] (spPlace CA) := by
  refine ok0 F sc_Attempt_place (fun vs H Q E h => ?_) (fun cdv A outer s H vs Q E hr h => ?_)
  · obtain ⟨p, q, dv, dw, l, pl, b, rfl, _⟩ := h
    rfl
  · obtain ⟨p, q, dv, dw, l, pl, b, rfl, ⟨dx, fs, hp, af⟩, Q1⟩ := h
    exact ⟨_, (pss_one (ps_ret (pe_fld (pv 0) rfl))), _, rfl, p, CA, dx, _, _, rfl, hp, S.cA, S.a3, af.p, Q1⟩
/-! ### over or not -/
def spChkA (CA CV : Addr) : Sp := fun vs H Q E => ∃ (p q dv dw : Addr) (l pl : Nat) (b : Bool), vs = [.ref p] ∧ AtAt CA H p q l pl dv dw b ∧ (b = false → Q .non H) ∧ (b = true → E (.ref CV) none H)
theorem ok_acheck (T : Tx K mg CE CH CO) (S : Tz K mg CL CA) (X_AttemptOver : XclO K mg "AttemptOver" CV) (F : FD K "check" "Attempt.check" s_Attempt_check [] f fd) : FnG P w K mg base (L2.CX P w) 2 f fd ["self"] (spChkA CA CV) := by
  refine okX F sc_Attempt_check (fun vs H Q E h => ?_) (fun cdv A outer s H vs Q E hr h => ?_)
  · obtain ⟨p, q, dv, dw, l, pl, b, rfl, _⟩ := h
    rfl
  · obtain ⟨p, q, dv, dw, l, pl, b, rfl, ⟨dx, fs, hp, af⟩, q1, q2⟩ := h
    refine ⟨_, (pss_one (ps_if (pt_val (pe_fld (pv 0) rfl)) (pss_one (ps_raiseO X_AttemptOver (takes_of rfl rfl rfl rfl))) pss_nil)), ?_⟩
    refine ⟨_, rfl, p, CA, dx, _, _, rfl, hp, S.cA, S.a6, af.e, _, rfl, ?_⟩
    cases b with
    | false => exact iteF (q1 rfl)
    | true => exact iteT (q2 rfl)
end
end K71

set_option Elab.async false
set_option linter.all false
set_option maxRecDepth 100000
set_option maxHeartbeats 2000000
/-! O71f: attempts dropped, written, read. -/
namespace K71
open PySem PySem.Spec PyProof.Rows L2 LL ORD
/-- versions by cell, as they stand in a dict -/
def dV (D : List (Str × Int)) : List (Key × V) := D.map fun p => (Sum.inr p.1, V.int p.2)
def putD (D : List (Str × Int)) (z : Str) (i : Int) : List (Str × Int) := if z ∈ D.map (·.1) then D.map fun p => if p.1 = z then (z, i) else p else D ++ [(z, i)]
/-- cells, as they stand in a dict -/
def wV (W : List Str) : List (Key × V) := W.map fun z => (Sum.inr z, V.bl true)
def putW (W : List Str) (z : Str) : List Str := if z ∈ W then W else W ++ [z]
theorem wV_put (W : List Str) (z : Str) : putK (wV W) (Sum.inr z) (.bl true) = wV (putW W z) := by
  have ha : ((wV W).any fun kv => decide (kv.1 = Sum.inr z)) = decide (z ∈ W) := by
    unfold wV
    rw [List.any_map, Bool.eq_iff_iff, List.any_eq_true, decide_eq_true_iff]
    constructor
    · rintro ⟨p, hp, e⟩
      have e : (Sum.inr p : Key) = Sum.inr z := of_decide_eq_true e
      cases e
      exact hp
    · exact fun h => ⟨z, h, decide_eq_true rfl⟩
  unfold putK putW
  rw [ha]
  by_cases c : z ∈ W
  · rw [if_pos (decide_eq_true c), if_pos c]
    unfold wV
    rw [List.map_map]
    refine List.map_congr_left fun p _ => ?_
    show (if (Sum.inr p : Key) = Sum.inr z then (Sum.inr p, V.bl true) else (Sum.inr p, V.bl true)) = _
    split <;> rfl
  · rw [if_neg (by rw [decide_eq_false c]; exact Bool.false_ne_true), if_neg c]
    unfold wV
    rw [List.map_append]
    rfl
section
variable {P : Program} {w : World} {K : PySem.W.Frag} {mg : Str → Option Value} {base : Heap} {CE CH CO CI CN CB CV CS CL CA : Addr} {f : Addr} {fd : FuncData}
abbrev s_Attempt_end : Stmt := inClass (top 26) 7
abbrev n_Attempt_end : List Str := ["self", "cell"]
theorem sc_Attempt_end : FnScope n_Attempt_end ["self"] (defScope s_Attempt_end) := ⟨rfl, rfl, rfl, by decide +kernel, rfl, by decide +kernel, by decide +kernel⟩
theorem AtF.over {fs : List (Str × V)} {q dv dw : Addr} {l pl : Nat} (a : AtF fs q l pl dv dw false) : AtF (putF "own_end" (.bl true) fs) q l pl dv dw true := by
  have ne : ∀ {m : Str} {v : V}, m ≠ "own_end" → fs.lookup m = some v → (putF "own_end" (.bl true) fs).lookup m = some v := fun h1 h2 => by rw [lookup_putF, if_neg h1]; exact h2
  refine ⟨ne (by decide +kernel) a.g, ne (by decide +kernel) a.l, ne (by decide +kernel) a.p, ne (by decide +kernel) a.v, ne (by decide +kernel) a.w, by rw [lookup_putF, if_pos rfl], fun m h1 h2 h3 h4 h5 h6 => by rw [lookup_putF, if_neg h6]; exact a.no m h1 h2 h3 h4 h5 h6, ?_, a.vw⟩
  show _ ≤ 7
  have := length_putF "own_end" (.bl true) fs
  have h6 : fs.length ≤ 6 := a.len
  omega
def spDrop (CA CV : Addr) : Sp := fun vs H Q E => ∃ (p q dv dw : Addr) (l pl : Nat) (b : Bool), vs = [.ref p] ∧ AtAt CA H p q l pl dv dw b ∧ (b = false → ∀ H', But p H H' → AtAt CA H' p q l pl dv dw true → Q .non H') ∧ (b = true → E (.ref CV) none H)
theorem ok_drop (T : Tx K mg CE CH CO) (S : Tz K mg CL CA) (M_check : Mth P w K mg base (L2.CX P w) 2 CA "check" [] (spChkA CA CV)) (F : FD K "drop" "Attempt.drop" s_Attempt_drop [] f fd) : FnG P w K mg base (L2.CX P w) 3 f fd ["self"] (spDrop CA CV) := by
  refine okX F sc_Attempt_drop (fun vs H Q E h => ?_) (fun cdv A outer s H vs Q E hr h => ?_)
  · obtain ⟨p, q, dv, dw, l, pl, b, rfl, _⟩ := h
    rfl
  · obtain ⟨p, q, dv, dw, l, pl, b, rfl, ⟨dx, fs, hp, af⟩, q1, q2⟩ := h
    refine ⟨_, (pss_cons (ps_expr (pe_mt0 M_check (hr.mono (by decide)) (passes_call (takes_of rfl rfl rfl rfl) (fun _ _ _ _ h => h)) (pv 0)))
      (pss_one (ps_fld (pv 0) pe_bl rfl))), ?_⟩
    refine ⟨_, rfl, p, dx, fs, rfl, hp, af.no "check" (by decide +kernel) (by decide +kernel) (by decide +kernel) (by decide +kernel) (by decide +kernel) (by decide +kernel), p, q, dv, dw, l, pl, b, rfl, ⟨dx, fs, hp, af⟩, fun hb => ?_, q2⟩
    cases hb
    have l7 := af.l7
    refine ⟨_, rfl, p, CA, dx, _, rfl, hp, S.cA, S.a6, by omega, ?_⟩
    exact q1 rfl _ but_upd ⟨dx, _, upd_same, af.over⟩
/-- a cell written, or what is no cell -/
def spWr (K : PySem.W.Frag) (CA CV CI : Addr) : Sp := fun vs H Q E => ∃ (p q dv dw : Addr) (l pl : Nat) (b : Bool) (v : V) (W : List Str), vs = [.ref p, v] ∧ AtAt CA H p q l pl dv dw b ∧ H dw = some (.dK (wV W)) ∧ W.length ≤ 1000 ∧ (b = true → E (.ref CV) none H) ∧ (b = false → (∃ z, v = .str z ∧ CellOk z ∧ ∀ H', But dw H H' → H' dw = some (.dK (wV (putW W z))) → Q .non H') ∨ (CellV K H v false ∧ ErF CI "value" H v E))
theorem ok_write (T : Tx K mg CE CH CO) (S : Tz K mg CL CA) (M_check : Mth P w K mg base (L2.CX P w) 2 CA "check" [] (spChkA CA CV)) (G_check_cell : Fnc P w K mg base (L2.CX P w) 3 "check_cell" [] (spCc K CI)) (F : FD K "write" "Attempt.write" s_Attempt_write [] f fd) : FnG P w K mg base (L2.CX P w) 4 f fd ["self", "cell"] (spWr K CA CV CI) := by
  refine okX F sc_Attempt_write (fun vs H Q E h => ?_) (fun cdv A outer s H vs Q E hr h => ?_)
  · obtain ⟨p, q, dv, dw, l, pl, b, v, W, rfl, _⟩ := h
    rfl
  · obtain ⟨p, q, dv, dw, l, pl, b, v, W, rfl, ⟨dx, fs, hp, af⟩, hw, lW, q2, q1⟩ := h
    refine ⟨_, (pss_cons (ps_expr (pe_mt0 M_check (hr.mono (by decide)) (passes_call (takes_of rfl rfl rfl rfl) (fun _ _ _ _ h => h)) (pv 0)))
      (pss_cons (ps_expr (pe_fn G_check_cell (hr.mono (by decide)) (passes_call (takes_of rfl rfl rfl rfl) (fun _ _ _ _ h => h)) (pa_cons (pv 1) pa_nil)))
      (pss_one (ps_dput (un1 hr.r.units) (pe_fld (pv 0) rfl) (pv 1) pe_bl rfl)))), ?_⟩
    refine ⟨_, rfl, p, dx, fs, rfl, hp, af.no "check" (by decide +kernel) (by decide +kernel) (by decide +kernel) (by decide +kernel) (by decide +kernel) (by decide +kernel), p, q, dv, dw, l, pl, b, rfl, ⟨dx, fs, hp, af⟩, fun hb => ?_, q2⟩
    rcases q1 hb with ⟨z, rfl, ok, Q1⟩ | ⟨cv, er⟩
    · refine ⟨_, rfl, .str z, rfl, .inl ⟨z, rfl, ok, fun H1 s1 => ?_⟩⟩
      refine ⟨_, rfl, p, CA, dx, _, _, rfl, s1 _ _ hp, S.cA, S.a5, af.w, _, rfl, dw, _, rfl, DPut.k (k := Sum.inr z) (s1 _ _ hw) (by unfold wV; rw [List.length_map]; exact Nat.lt_of_lt_of_le (show _ < 100000 by omega) (small (Nat.le_refl _))), ?_⟩
      rw [wV_put]
      exact Q1 _ (fun c o e n => by rw [upd_ne n]; exact s1 _ _ e) upd_same
    · exact ⟨_, rfl, v, rfl, .inr ⟨cv, er⟩⟩
end
end K71

set_option Elab.async false
set_option linter.all false
set_option maxRecDepth 100000
set_option maxHeartbeats 2000000
/-! O71g: a cell read; an attempt's end. -/
namespace K71
open PySem PySem.Spec PyProof.Rows L2 LL ORD
theorem wV_get (W : List Str) (z : Str) : valV (wV W) (Sum.inr z) = if z ∈ W then some (.bl true) else none := by
  induction W with
  | nil => rfl
  | cons a W ih =>
    unfold valV wV at ih ⊢
    rw [List.map_cons, List.find?_cons]
    by_cases c : a = z
    · subst c
      rw [decide_eq_true rfl, if_pos (List.mem_cons_self ..)]
      rfl
    · rw [decide_eq_false fun e => c (Sum.inr.inj e)]
      by_cases m : z ∈ W
      · rw [if_pos m] at ih
        rw [if_pos (List.mem_cons_of_mem _ m)]
        exact ih
      · rw [if_neg m] at ih
        rw [if_neg fun h => (List.mem_cons.mp h).elim (fun e => c e.symm) m]
        exact ih
theorem dV_put (D : List (Str × Int)) (z : Str) (i : Int) : putK (dV D) (Sum.inr z) (.int i) = dV (putD D z i) := by
  have ha : ((dV D).any fun kv => decide (kv.1 = Sum.inr z)) = decide (z ∈ D.map (·.1)) := by
    unfold dV
    rw [List.any_map, Bool.eq_iff_iff, List.any_eq_true, decide_eq_true_iff]
    constructor
    · rintro ⟨p, hp, e⟩
      have e : (Sum.inr p.1 : Key) = Sum.inr z := of_decide_eq_true e
      rw [← Sum.inr.inj e]
      exact List.mem_map.mpr ⟨p, hp, rfl⟩
    · intro h
      obtain ⟨p, hp, rfl⟩ := List.mem_map.mp h
      exact ⟨p, hp, decide_eq_true rfl⟩
  unfold putK putD
  rw [ha]
  by_cases c : z ∈ D.map (·.1)
  · rw [if_pos (decide_eq_true c), if_pos c]
    unfold dV
    rw [List.map_map, List.map_map]
    refine List.map_congr_left fun p _ => ?_
    show (if (Sum.inr p.1 : Key) = Sum.inr z then ((Sum.inr p.1 : Key), V.int i) else (Sum.inr p.1, V.int p.2)) = ((Sum.inr (if p.1 = z then (z, i) else p).1 : Key), V.int (if p.1 = z then (z, i) else p).2)
    by_cases e : p.1 = z
    · rw [if_pos (by rw [e]), if_pos e, e]
    · rw [if_neg (fun h => e (Sum.inr.inj h)), if_neg e]
  · rw [if_neg (by rw [decide_eq_false c]; exact Bool.false_ne_true), if_neg c]
    unfold dV
    rw [List.map_append]
    rfl
section
variable {P : Program} {w : World} {K : PySem.W.Frag} {mg : Str → Option Value} {base : Heap} {CE CH CO CI CN CB CV CS CL CA : Addr} {f : Addr} {fd : FuncData}
def spRd (K : PySem.W.Frag) (CL CA CV CI : Addr) : Sp := fun vs H Q E => ∃ (p q dv dw hl da : Addr) (l pl n k : Nat) (b : Bool) (v : V) (h : Hs) (D : List (Str × Int)) (W : List Str), vs = [.ref p, v] ∧ AtAt CA H p q l pl dv dw b ∧ LgAt CL H q n hl da k ∧ HsAt H hl h ∧ pl ≤ h.length ∧ pl ≤ 1000 ∧ H dv = some (.dK (dV D)) ∧ D.length ≤ 1000 ∧ H dw = some (.dK (wV W)) ∧ (b = true → E (.ref CV) none H) ∧
  (b = false → (∃ z, v = .str z ∧ CellOk z ∧ (z ∈ W → ∀ H', Same H H' → Q .non H') ∧ (z ∉ W → ∀ H', But dv H H' → H' dv = some (.dK (dV (putD D z (oi (lw h pl z))))) → Q (.int (oi (lw h pl z))) H')) ∨ (CellV K H v false ∧ ErF CI "value" H v E))
theorem ok_read (T : Tx K mg CE CH CO) (S : Tz K mg CL CA) (M_check : Mth P w K mg base (L2.CX P w) 2 CA "check" [] (spChkA CA CV)) (G_check_cell : Fnc P w K mg base (L2.CX P w) 3 "check_cell" [] (spCc K CI)) (M_version_at : Mth P w K mg base CX0 2 CL "version_at" [] (spVer CL)) (F : FD K "read" "Attempt.read" s_Attempt_read [] f fd) : FnG P w K mg base (L2.CX P w) 4 f fd ["self", "cell"] (spRd K CL CA CV CI) := by
  refine okX F sc_Attempt_read (fun vs H Q E h => ?_) (fun cdv A outer s H vs Q E hr h => ?_)
  · obtain ⟨p, q, dv, dw, hl, da, l, pl, n, k, b, v, h, D, W, rfl, _⟩ := h
    rfl
  · obtain ⟨p, q, dv, dw, hl, da, l, pl, n, k, b, v, h, D, W, rfl, ⟨dx, fs, hp, af⟩, lg, hh, le, l9, hv, lD, hw, q2, q1⟩ := h
    obtain ⟨dq, gs, hq, lf⟩ := id lg
    refine ⟨_, (pss_cons (ps_expr (pe_mt0 M_check (hr.mono (by decide)) (passes_call (takes_of rfl rfl rfl rfl) (fun _ _ _ _ h => h)) (pv 0)))
      (pss_cons (ps_expr (pe_fn G_check_cell (hr.mono (by decide)) (passes_call (takes_of rfl rfl rfl rfl) (fun _ _ _ _ h => h)) (pa_cons (pv 1) pa_nil)))
      (pss_cons (ps_if (pt_cmp (pc_din (un1 hr.r.units) (pv 1) (pe_fld (pv 0) rfl)) rfl) (pss_one (ps_ret pe_non)) pss_nil)
      (pss_cons (ps_dput (un1 hr.r.units) (pe_fld (pv 0) rfl) (pv 1) (pe_mt M_version_at (hr.mono (by decide)) pass0 (pe_fld (pv 0) rfl) (pa_cons (pe_fld (pv 0) rfl) (pa_cons (pv 1) pa_nil))) rfl)
      (pss_one (ps_ret (pe_dget (un1 hr.r.units) (pe_fld (pv 0) rfl) (pv 1) (fun _ _ => rfl)))))))), ?_⟩
    refine ⟨_, rfl, p, dx, fs, rfl, hp, af.no "check" (by decide +kernel) (by decide +kernel) (by decide +kernel) (by decide +kernel) (by decide +kernel) (by decide +kernel), p, q, dv, dw, l, pl, b, rfl, ⟨dx, fs, hp, af⟩, fun hb => ?_, q2⟩
    rcases q1 hb with ⟨z, rfl, ok, Q1, Q2⟩ | ⟨cv, er⟩
    · refine ⟨_, rfl, .str z, rfl, .inl ⟨z, rfl, ok, fun H1 s1 => ?_⟩⟩
      have hp1 := s1 _ _ hp
      have dg := DGet.k (k := Sum.inr z) (s1 _ _ hw)
      rw [wV_get] at dg
      refine ⟨_, rfl, _, rfl, p, CA, dx, _, _, rfl, hp1, S.cA, S.a5, af.w, dw, _, rfl, dg, _, rfl, ?_⟩
      by_cases m : z ∈ W
      · rw [if_pos m]
        exact iteT (Q1 m _ s1)
      · rw [if_neg m]
        refine iteF ?_
        refine ⟨_, rfl, p, CA, dx, _, _, rfl, hp1, S.cA, S.a1, af.g, q, dq, gs, rfl, s1 _ _ hq, lf.no "version_at" (by decide +kernel) (by decide +kernel) (by decide +kernel), ?_⟩
        refine ⟨_, rfl, p, CA, dx, _, _, rfl, hp1, S.cA, S.a3, af.p, _, rfl, q, hl, da, n, k, h, pl, z, rfl, lg.same s1, hh.same s1, le, l9, ?_⟩
        refine ⟨_, rfl, p, CA, dx, _, _, rfl, hp1, S.cA, S.a4, af.v, _, rfl, dv, _, rfl, DPut.k (k := Sum.inr z) (s1 _ _ hv) (by unfold dV; rw [List.length_map]; exact Nat.lt_of_lt_of_le (show _ < 100000 by omega) (small (Nat.le_refl _))), ?_⟩
        have npv : p ≠ dv := fun c => by rw [c, s1 _ _ hv] at hp1; cases hp1
        have dg2 := DGet.k (k := Sum.inr z) (H := upd H1 dv (.dK (putK (dV D) (Sum.inr z) (.int (oi (lw h pl z)))))) (a := dv) upd_same
        rw [valV_put, if_pos rfl] at dg2
        refine ⟨_, rfl, p, CA, dx, _, _, rfl, by rw [upd_ne npv]; exact hp1, S.cA, S.a4, af.v, _, rfl, dv, _, rfl, dg2, ?_⟩
        exact Q2 m _ (fun c o e n => by rw [upd_ne n]; exact s1 _ _ e) (by rw [upd_same, dV_put])
    · exact ⟨_, rfl, v, rfl, .inr ⟨cv, er⟩⟩
end
end K71

set_option Elab.async false
set_option linter.all false
set_option maxRecDepth 100000
set_option maxHeartbeats 2000000
/-! O71h: an attempt's end. -/
namespace K71
open PySem PySem.Spec PyProof.Rows L2 LL ORD
theorem lt_irrefl (a : Str) : ¬ lt' a a := List.lt_irrefl _
theorem lt_trans {a b c : Str} (h : lt' a b) (g : lt' b c) : lt' a c := List.lt_trans h g
theorem nlt_trans {a b c : Str} (h : ¬ lt' b a) (g : ¬ lt' c b) : ¬ lt' c a := fun z => by
  rcases lt_tri a b with q | q | q
  · exact g (lt_trans z q)
  · exact g (q ▸ z)
  · exact h q
theorem srtS : ∀ {ys : List Str}, sortedS ys = true → ys.Pairwise fun a b => ¬ lt' b a
  | [], _ => .nil
  | p :: r, h => by
    have key : ∀ (r : List Str) (p : Str), risingS p r = true → (p :: r).Pairwise fun a b => ¬ lt' b a := by
      intro r
      induction r with
      | nil => exact fun p _ => List.pairwise_singleton _ _
      | cons x r ih =>
        intro p h
        have h' : (!ltCps x.cps.toList p.cps.toList && risingS x r) = true := h
        obtain ⟨h1, h2⟩ := Bool.and_eq_true_iff.mp h'
        have n1 : ¬ lt' x p := fun z => by
          rw [ltCps_eq, decide_eq_true z] at h1
          cases h1
        have t := ih x h2
        refine List.pairwise_cons.mpr ⟨fun y hy => ?_, t⟩
        rcases List.mem_cons.mp hy with e | e
        · rw [e]
          exact n1
        · exact nlt_trans n1 ((List.pairwise_cons.mp t).1 y e)
    exact key r p h
def dGet (D : List (Str × Int)) (c : Str) : Option Int := (D.find? fun p => decide (p.1 = c)).map (·.2)
theorem dV_get (D : List (Str × Int)) (c : Str) : valV (dV D) (Sum.inr c) = (dGet D c).map V.int := by
  induction D with
  | nil => rfl
  | cons a D ih =>
    unfold valV dV dGet at ih ⊢
    rw [List.map_cons, List.find?_cons, List.find?_cons]
    by_cases e : a.1 = c
    · rw [decide_eq_true (by rw [e]), decide_eq_true e]
      rfl
    · rw [decide_eq_false fun h => e (Sum.inr.inj h), decide_eq_false e]
      exact ih
theorem dGet_mem {D : List (Str × Int)} {c : Str} (h : c ∈ D.map (·.1)) : ∃ i, dGet D c = some i := by
  induction D with
  | nil => cases h
  | cons a D ih =>
    unfold dGet at ih ⊢
    rw [List.find?_cons]
    by_cases e : a.1 = c
    · rw [decide_eq_true e]
      exact ⟨_, rfl⟩
    · rw [decide_eq_false e]
      exact ih ((List.mem_cons.mp h).resolve_left fun z => e z.symm)
/-- a version that was read is no longer the newest one -/
def Stl (h : Hs) (D : List (Str × Int)) (c : Str) : Prop := dGet D c ≠ some (oi (lw h h.length c))
/-- all but two stay -/
def But2 (p q : Addr) (H H' : Hp) : Prop := ∀ b o, H b = some o → b ≠ p → b ≠ q → H' b = some o
section
variable {P : Program} {w : World} {K : PySem.W.Frag} {mg : Str → Option Value} {base : Heap} {CE CH CO CI CN CB CV CS CL CA : Addr} {f : Addr} {fd : FuncData}
def spEnd (CL CA CV CS : Addr) : Sp := fun vs H Q E => ∃ (p q dv dw hl da : Addr) (l pl n k : Nat) (b : Bool) (us : List V) (h : Hs) (D : List (Str × Int)) (W : List Str), vs = [.ref p] ∧ AtAt CA H p q l pl dv dw b ∧ LgAt CL H q n hl da k ∧ q ≠ p ∧ H hl = some (.lst us) ∧ Fps H us h ∧ h.length ≤ 1000 ∧ H dv = some (.dK (dV D)) ∧ D.length < 64 ∧ (∀ c ∈ D.map (·.1), CellOk c) ∧ H dw = some (.dK (wV W)) ∧ W.length < 64 ∧ (b = true → E (.ref CV) none H) ∧
  (b = false → ∀ H', But p H H' → AtAt CA H' p q l pl dv dw true → (∀ c, c ∈ D.map (·.1) → Stl h D c → (∀ c', c' ∈ D.map (·.1) → lt' c' c → ¬ Stl h D c') → ErF CS "cell" H' (.str c) E)) ∧
  (b = false → (∀ c, c ∈ D.map (·.1) → ¬ Stl h D c) → ∀ H' t t1 t2 ys zs, But2 p hl H H' → AtAt CA H' p q l pl dv dw true → H' hl = some (.lst (us ++ [.ref t])) → H' t = some (.tup [.int (l : Nat), .ref t1, .ref t2]) → H' t1 = some (.tup (ys.map V.str)) → H' t2 = some (.tup (zs.map V.str)) → ys.Perm (D.map (·.1)) → sortedS ys = true → zs.Perm W → sortedS zs = true → Q (.int (us.length : Nat)) H')
theorem ok_end (T : Tx K mg CE CH CO) (S : Tz K mg CL CA) (X_Stale : XclB P w K mg base 1 "Stale" CS ["cell"]) (M_check : Mth P w K mg base (L2.CX P w) 2 CA "check" [] (spChkA CA CV)) (M_newest : Mth P w K mg base (L2.CX P w) 4 CL "newest" [] (spNew K CL CI)) (M_added : Mth P w K mg base CX0 1 CL "added" [] (spAdd CL)) (F : FD K "end" "Attempt.end" s_Attempt_end [] f fd) : FnG P w K mg base (L2.CX P w) 5 f fd ["self"] (spEnd CL CA CV CS) := by
  refine okX F sc_Attempt_end (fun vs H Q E h => ?_) (fun cdv A outer s H vs Q E hr h => ?_)
  · obtain ⟨p, q, dv, dw, hl, da, l, pl, n, k, b, us, h, D, W, rfl, _⟩ := h
    rfl
  · obtain ⟨p, q, dv, dw, hl, da, l, pl, n, k, b, us, h, D, W, rfl, at_, lg, nqp, hu, fps, lh, hv, lD, okD, hw, lW, q2, qs, qd⟩ := h
    obtain ⟨dx, fs, hp, af⟩ := id at_
    obtain ⟨dq, gs, hq, lf⟩ := id lg
    have afl := af.l7
    refine ⟨_, (pss_cons (ps_expr (pe_mt0 M_check (hr.mono (by decide)) (passes_call (takes_of rfl rfl rfl rfl) (fun _ _ _ _ h => h)) (pv 0)))
      (pss_cons (ps_fld (pv 0) pe_bl rfl)
      (pss_cons (ps_for (passes_of rfl) rfl (pi_list (pe_callB (call_sortedD rfl) (by rfl) T.n_sorted (by decide +kernel) (pa_cons (pe_fld (pv 0) rfl) pa_nil))) (pg_name (i := 1) sc_Attempt_end.nd rfl (by first | exact Or.inl rfl | exact Or.inr rfl)) (pss_one (ps_if (pt_cmpR op_ne (pe_mt M_newest (hr.mono (by decide)) (passes_call (takes_of rfl rfl rfl rfl) (fun _ _ _ _ h => h)) (pe_fld (pv 0) rfl) (pa_cons (pv 1) pa_nil)) (pe_dget (un1 hr.r.units) (pe_fld (pv 0) rfl) (pv 1) (fun _ _ => rfl)) (nomark _)) (pss_one (ps_raiseB X_Stale (hr.r.mono (by decide)) (takes_of rfl rfl rfl rfl) (pa_cons (pv 1) pa_nil))) pss_nil)))
      (pss_one (ps_ret (pe_mt M_added (hr.mono (by decide)) pass0 (pe_fld (pv 0) rfl) (pa_cons (pe_tup (pa_cons (pe_fld (pv 0) rfl) (pa_cons (pe_callTy call_tuple_of (by rfl) T.n_tuple (by decide +kernel) (pa_cons (pe_callB (call_sortedD rfl) (by rfl) T.n_sorted (by decide +kernel) (pa_cons (pe_fld (pv 0) rfl) pa_nil)) pa_nil)) (pa_cons (pe_callTy call_tuple_of (by rfl) T.n_tuple (by decide +kernel) (pa_cons (pe_callB (call_sortedD rfl) (by rfl) T.n_sorted (by decide +kernel) (pa_cons (pe_fld (pv 0) rfl) pa_nil)) pa_nil)) pa_nil)))) pa_nil))))))), ?_⟩
    refine ⟨_, rfl, p, dx, fs, rfl, hp, af.no "check" (by decide +kernel) (by decide +kernel) (by decide +kernel) (by decide +kernel) (by decide +kernel) (by decide +kernel), p, q, dv, dw, l, pl, b, rfl, at_, fun hb => ?_, q2⟩
    replace qs := qs hb
    replace qd := qd hb
    cases hb
    refine ⟨_, rfl, p, CA, dx, _, rfl, hp, S.cA, S.a6, by omega, ?_⟩
    obtain ⟨G1, e1⟩ : ∃ G1, G1 = upd H p (.ins CA dx (putF "own_end" (.bl true) fs)) := ⟨_, rfl⟩
    rw [← e1]
    have hp1 : G1 p = some (.ins CA dx (putF "own_end" (.bl true) fs)) := by rw [e1, upd_same]
    have b1 : But p H G1 := e1 ▸ but_upd
    have ao := af.over
    clear e1
    have nop : ∀ {x : Addr} {o : HO}, H x = some o → (∀ fs, o ≠ .ins CA dx fs) → x ≠ p := fun {x o} h1 h2 z => by
      rw [z, hp] at h1
      exact h2 _ (Option.some.inj h1).symm
    have hv1 := b1 _ _ hv (nop hv (fun _ z => by cases z))
    have hw1 := b1 _ _ hw (nop hw (fun _ z => by cases z))
    have hu1 := b1 _ _ hu (nop hu (fun _ z => by cases z))
    have hq1 := b1 _ _ hq nqp
    have fps1 : Fps G1 us h := ⟨fps.len, fun i v e => by
      obtain ⟨t, r, x, e0, z1, z2, z3⟩ := fps.at_ i v e
      exact ⟨t, r, x, e0, b1 _ _ z1 (nop z1 (fun _ z => by cases z)), b1 _ _ z2 (nop z2 (fun _ z => by cases z)), b1 _ _ z3 (nop z3 (fun _ z => by cases z))⟩⟩
    -- the cells that were read
    refine ⟨_, rfl, p, CA, dx, _, _, rfl, hp1, S.cA, S.a4, ao.v, dv, _, D.map (·.1), rfl, .inl hv1, by unfold dV; rw [List.map_map, List.map_map]; rfl, by rw [List.length_map]; exact lD, fun ys a2 pm srt n2 => ?_⟩
    obtain ⟨G2, e, s2, k2⟩ := mkO n2 (.lst (ys.map V.str))
    rw [e]
    clear e
    refine ⟨a2, rfl, ⟨_, SqL.of k2⟩, ?_⟩
    refine for_it (walk_list (K := K) (a := a2) (xs := ys.map V.str)) (fun j σ H' => Same G2 H' ∧ (∀ c ∈ ys.take j, ¬ Stl h D c) ∧ ∃ u, σ = [some (.ref p), u]) ⟨Same.rfl', fun c hc => by simp at hc, _, rfl⟩ (fun j σ H' _ z => SqL.of (z.1 _ _ k2)) ?_ ?_
    · rintro j x σ H3 H3' hj ⟨s3, ns, u, rfl⟩ ⟨rfl, hx⟩
      rw [List.getElem?_map] at hx
      obtain ⟨c, hc, rfl⟩ := Option.map_eq_some_iff.mp hx
      have cm : c ∈ D.map (·.1) := pm.mem_iff.mp (List.mem_of_getElem? hc)
      obtain ⟨i, hi⟩ := dGet_mem cm
      have s23 := s2.trans s3
      refine nm_of ?_
      dsimp only
      refine ⟨_, rfl, p, CA, dx, _, _, rfl, s23 _ _ hp1, S.cA, S.a1, ao.g, q, dq, gs, rfl, s23 _ _ hq1, lf.no "newest" (by decide +kernel) (by decide +kernel) (by decide +kernel), ?_⟩
      refine ⟨_, rfl, q, hl, da, n, k, h, us, .str c, rfl, ⟨dq, gs, s23 _ _ hq1, lf⟩, s23 _ _ hu1, fps1.same s23, lh, .inl ⟨c, rfl, okD c cm, fun H4 s4 => ?_⟩⟩
      have s24 := s23.trans s4
      have dg := DGet.k (k := Sum.inr c) (s24 _ _ hv1)
      rw [dV_get, hi] at dg
      refine ⟨_, rfl, p, CA, dx, _, _, rfl, s24 _ _ hp1, S.cA, S.a4, ao.v, _, rfl, dv, _, rfl, dg, rfl, _, rfl, ?_⟩
      by_cases st : oi (lw h h.length c) = i
      · refine iteN (by rw [st]; simp) ⟨s3.trans s4, fun c' hc' => ?_, _, rfl⟩
        rw [List.take_add_one, hc, Option.toList_some] at hc'
        rcases List.mem_append.mp hc' with hc' | hc'
        · exact ns c' hc'
        · rw [List.mem_singleton.mp hc']
          unfold Stl
          rw [hi, st]
          exact fun z => z rfl
      · refine iteY (by simp [st]) ⟨_, rfl, raiseB_of rfl (by show 1 ≤ 1000; decide) ?_⟩
        refine (qs H4 (b1.trans (.of s24)) ⟨dx, _, s24 _ _ hp1, ao⟩ c cm (fun z => st (Option.some.inj (hi.symm.trans z)).symm) (fun c' cm' lt => ?_)).now
        obtain ⟨i', hi'⟩ := List.getElem?_of_mem (pm.mem_iff.mpr cm')
        by_cases lt' : i' < j
        · exact ns c' (List.mem_of_getElem? (i := i') (by rw [List.getElem?_take, if_pos lt']; exact hi'))
        · obtain ⟨k1, e1⟩ := List.getElem?_eq_some_iff.mp hc
          obtain ⟨k2', e2⟩ := List.getElem?_eq_some_iff.mp hi'
          by_cases eq : i' = j
          · subst eq
            rw [hc] at hi'
            cases hi'
            exact (lt_irrefl _ lt).elim
          · have := List.pairwise_iff_getElem.mp (srtS srt) j i' k1 k2' (by omega)
            rw [e1, e2] at this
            exact (this lt).elim
    · rintro σ H3 ⟨s3, ns, u, rfl⟩
      rw [List.take_of_length_le (by rw [List.length_map]; exact Nat.le_refl _)] at ns
      have nos : ∀ c, c ∈ D.map (·.1) → ¬ Stl h D c := fun c hc => ns c (pm.mem_iff.mpr hc)
      clear pm srt
      have s13 := s2.trans s3
      have hp2 := s13 _ _ hp1
      have hq2 := s13 _ _ hq1
      refine ⟨_, rfl, p, CA, dx, _, _, rfl, hp2, S.cA, S.a1, ao.g, q, dq, gs, rfl, hq2, lf.no "added" (by decide +kernel) (by decide +kernel) (by decide +kernel), ?_⟩
      refine ⟨_, rfl, p, CA, dx, _, _, rfl, hp2, S.cA, S.a2, ao.l, ?_⟩
      refine ⟨_, rfl, p, CA, dx, _, _, rfl, hp2, S.cA, S.a4, ao.v, dv, _, D.map (·.1), rfl, .inl (s13 _ _ hv1), by unfold dV; rw [List.map_map, List.map_map]; rfl, by rw [List.length_map]; exact lD, fun ys a3 pm srt n3 => ?_⟩
      obtain ⟨G3, e, s4, k3⟩ := mkO n3 (.lst (ys.map V.str))
      rw [e]
      clear e
      refine ⟨a3, _, rfl, .inl ⟨SqL.of k3, fun t1 n4 => ?_⟩⟩
      obtain ⟨G4, e, s5, k4⟩ := mkO n4 (.tup (ys.map V.str))
      rw [e]
      clear e
      have s15 := (s13.trans s4).trans s5
      refine ⟨_, rfl, p, CA, dx, _, _, rfl, s15 _ _ hp1, S.cA, S.a5, ao.w, dw, _, W, rfl, .inl (s15 _ _ hw1), by unfold wV; rw [List.map_map]; rfl, lW, fun zs a5 pmz srz n5 => ?_⟩
      obtain ⟨G5, e, s6, k5⟩ := mkO n5 (.lst (zs.map V.str))
      rw [e]
      clear e
      refine ⟨a5, _, rfl, .inl ⟨SqL.of k5, fun t2 n6 => ?_⟩⟩
      obtain ⟨G6, e, s7, k6⟩ := mkO n6 (.tup (zs.map V.str))
      rw [e]
      clear e
      refine ⟨(by show 3 ≤ sizeLine; decide), fun t n7 => ?_⟩
      obtain ⟨G7, e, s8, k7⟩ := mkO n7 (.tup [.int (l : Nat), .ref t1, .ref t2])
      rw [e]
      clear e
      have s17 := ((s15.trans s6).trans s7).trans s8
      have hu7 := s17 _ _ hu1
      have ntl : ∀ {x : Addr} {ys : List V}, G7 x = some (.tup ys) → x ≠ hl := fun {x ys} h1 z => by
        rw [z, hu7] at h1
        cases h1
      have k4' := ((s6.trans s7).trans s8) _ _ k4
      have k6' := s8 _ _ k6
      have hp7 := s17 _ _ hp1
      have plh : p ≠ hl := fun z => by
        rw [z, hu7] at hp7
        cases hp7
      refine ⟨q, hl, da, n, k, us, .ref t, rfl, ⟨dq, gs, s17 _ _ hq1, lf⟩, hu7, by rw [fps.len]; exact lh, ?_⟩
      exact qd nos _ t t1 t2 ys zs (fun c o e n1 n2 => by rw [upd_ne n2]; exact s17 _ _ (b1 _ _ e n1)) ⟨dx, _, by rw [upd_ne plh]; exact hp7, ao⟩ upd_same (by rw [upd_ne (ntl k7)]; exact k7) (by rw [upd_ne (ntl k4')]; exact k4') (by rw [upd_ne (ntl k6')]; exact k6') pm srt pmz srz
end
end K71

set_option Elab.async false
set_option linter.all false
set_option maxRecDepth 100000
set_option maxHeartbeats 2000000
/-! O71i: an attempt begun. -/
namespace K71
open PySem PySem.Spec PyProof.Rows L2 LL ORD
abbrev s_Ledger_begin : Stmt := inClass (top 25) 3
abbrev n_Ledger_begin : List Str := ["self", "lane"]
theorem sc_Ledger_begin : FnScope n_Ledger_begin ["self", "lane"] (defScope s_Ledger_begin) := ⟨rfl, rfl, rfl, by decide +kernel, rfl, by decide +kernel, by decide +kernel⟩
section
variable {P : Program} {w : World} {K : PySem.W.Frag} {mg : Str → Option Value} {base : Heap} {CE CH CO CI CN CB CV CS CL CA : Addr} {f : Addr} {fd : FuncData}
def spBeg (K : PySem.W.Frag) (CL CA CN CB : Addr) : Sp := fun vs H Q E => ∃ (q hl da : Addr) (n k : Nat) (us : List V) (v : V) (kvs : List (Key × V)), vs = [.ref q, v] ∧ LgAt CL H q n hl da k ∧ H hl = some (.lst us) ∧ us.length ≤ 1000 ∧ H da = some (.dK kvs) ∧ kvs.length ≤ 1000 ∧ n ≤ 100 ∧
  ((BadLn K H v n ∧ ErF CN "value" H v E) ∨ ∃ l : Nat, v = .int (l : Nat) ∧ l < n ∧
    (((valV kvs (Sum.inl (l : Int)) = none ∨ ∃ a q' l' pl' dv' dw', valV kvs (Sum.inl (l : Int)) = some (.ref a) ∧ AtAt CA H a q' l' pl' dv' dw' true) ∧
      ∀ H' p dv dw, AtAt CA H' p q l us.length dv dw false → H' dv = some (.dK []) → H' dw = some (.dK []) → H p = none → H dv = none → H dw = none → But da H H' → H' da = some (.dK (putK kvs (Sum.inl (l : Int)) (.ref p))) → Q (.ref p) H') ∨
     ((∃ a q' l' pl' dv' dw', valV kvs (Sum.inl (l : Int)) = some (.ref a) ∧ AtAt CA H a q' l' pl' dv' dw' false) ∧ ErF CB "lane_number" H v E)))
theorem ok_begin (T : Tx K mg CE CH CO) (S : Tz K mg CL CA) (X_LaneBusy : XclB P w K mg base 1 "LaneBusy" CB ["lane_number"]) (G_check_lane : Fnc P w K mg base (L2.CX P w) 3 "check_lane" [] (spLn K CN)) (P_is_over : Prp P w K mg base CX0 1 CA "is_over" (spOver CA)) (K_Attempt2 : Mkf P w K mg base CX0 3 "Attempt" (spMkA CL CA)) (F : FD K "begin" "Ledger.begin" s_Ledger_begin [] f fd) : FnG P w K mg base (L2.CX P w) 5 f fd ["self", "lane"] (spBeg K CL CA CN CB) := by
  refine okX F sc_Ledger_begin (fun vs H Q E h => ?_) (fun cdv A outer s H vs Q E hr h => ?_)
  · obtain ⟨q, hl, da, n, k, us, v, kvs, rfl, _⟩ := h
    rfl
  · obtain ⟨q, hl, da, n, k, us, v, kvs, rfl, lg, hu, lu, hda, lk, ln, h⟩ := h
    obtain ⟨dq, gs, hq, lf⟩ := id lg
    refine ⟨_, (pss_cons (ps_expr (pe_fn G_check_lane (hr.mono (by decide)) (passes_call (takes_of rfl rfl rfl rfl) (fun _ _ _ _ h => h)) (pa_cons (pv 1) (pa_cons (pe_fld (pv 0) rfl) pa_nil))))
      (pss_cons (ps_if (PW.pt (pw_and (pt_cmp (pc_din (un1 hr.r.units) (pv 1) (pe_fld (pv 0) rfl)) rfl) (pw_and1 (pt_not (pt_val (pe_pr P_is_over (hr.mono (by decide)) pass0 (pe_dget (un1 hr.r.units) (pe_fld (pv 0) rfl) (pv 1) (fun _ _ => rfl)))))))) (pss_one (ps_raiseB X_LaneBusy (hr.r.mono (by decide)) (takes_of rfl rfl rfl rfl) (pa_cons (pv 1) pa_nil))) pss_nil)
      (pss_cons (ps_dput (un1 hr.r.units) (pe_fld (pv 0) rfl) (pv 1) (pe_mf K_Attempt2 (hr.mono (by decide)) pass0 (pa_cons (pv 0) (pa_cons (pv 1) pa_nil))) rfl)
      (pss_one (ps_ret (pe_dget (un1 hr.r.units) (pe_fld (pv 0) rfl) (pv 1) (fun _ _ => rfl))))))), ?_⟩
    rcases h with ⟨bad, er⟩ | ⟨l, rfl, lt, h⟩
    · exact ⟨_, rfl, _, rfl, q, CL, dq, _, _, rfl, hq, S.cL, S.l1, lf.l, v, n, rfl, .inr ⟨bad, er⟩⟩
    refine ⟨_, rfl, _, rfl, q, CL, dq, _, _, rfl, hq, S.cL, S.l1, lf.l, .int (l : Nat), n, rfl, .inl ⟨l, rfl, lt, ?_⟩⟩
    have dg := DGet.k (k := Sum.inl (l : Int)) hda
    refine ⟨_, rfl, _, rfl, q, CL, dq, _, _, rfl, hq, S.cL, S.l3, lf.a, da, _, rfl, dg, _, rfl, ?_⟩
    rcases h with ⟨hv | ⟨a, q', l', pl', dv', dw', ev, at_⟩, Q1⟩ | ⟨⟨a, q', l', pl', dv', dw', ev, at_⟩, er⟩
    · rw [hv]
      refine iteF ?_
      refine ⟨_, rfl, _, rfl, q, hl, da, l, n, k, us, rfl, lg, hu, lu, fun H1 p dv dw at1 h1 h2 np nv nw s1 => ?_⟩
      have hq1 := s1 _ _ hq
      have hda1 := s1 _ _ hda
      have nqd : q ≠ da := fun z => by
        rw [z, hda] at hq
        cases hq
      refine ⟨_, rfl, q, CL, dq, _, _, rfl, hq1, S.cL, S.l3, lf.a, _, rfl, da, _, rfl, DPut.k (k := Sum.inl (l : Int)) hda1 (Nat.lt_of_lt_of_le (show _ < 100000 by omega) (small (Nat.le_refl _))), ?_⟩
      have dg2 := DGet.k (k := Sum.inl (l : Int)) (H := upd H1 da (.dK (putK kvs (Sum.inl (l : Int)) (.ref p)))) (a := da) upd_same
      rw [valV_put, if_pos rfl] at dg2
      refine ⟨_, rfl, q, CL, dq, _, _, rfl, by rw [upd_ne nqd]; exact hq1, S.cL, S.l3, lf.a, _, rfl, da, _, rfl, dg2, ?_⟩
      obtain ⟨dx, fs, hp, af⟩ := at1
      have npd : p ≠ da := (ne_of_none hda np).symm
      exact Q1 _ p dv dw ⟨dx, fs, by rw [upd_ne npd]; exact hp, af⟩ (by rw [upd_ne (ne_of_none hda nv).symm]; exact h1) (by rw [upd_ne (ne_of_none hda nw).symm]; exact h2) np nv nw (fun c o e n1 => by rw [upd_ne n1]; exact s1 _ _ e) upd_same
    · obtain ⟨dx', fs', ha', _⟩ := id at_
      rw [ev] at dg ⊢
      refine iteT ⟨_, rfl, q, CL, dq, _, _, rfl, hq, S.cL, S.l3, lf.a, _, rfl, da, _, rfl, dg, a, dx', fs', rfl, ha', a, q', dv', dw', l', pl', true, rfl, at_, _, rfl, iteF ?_⟩
      refine ⟨_, rfl, _, rfl, q, hl, da, l, n, k, us, rfl, lg, hu, lu, fun H1 p dv dw at1 h1 h2 np nv nw s1 => ?_⟩
      have hq1 := s1 _ _ hq
      have hda1 := s1 _ _ hda
      have nqd : q ≠ da := fun z => by
        rw [z, hda] at hq
        cases hq
      refine ⟨_, rfl, q, CL, dq, _, _, rfl, hq1, S.cL, S.l3, lf.a, _, rfl, da, _, rfl, DPut.k (k := Sum.inl (l : Int)) hda1 (Nat.lt_of_lt_of_le (show _ < 100000 by omega) (small (Nat.le_refl _))), ?_⟩
      have dg2 := DGet.k (k := Sum.inl (l : Int)) (H := upd H1 da (.dK (putK kvs (Sum.inl (l : Int)) (.ref p)))) (a := da) upd_same
      rw [valV_put, if_pos rfl] at dg2
      refine ⟨_, rfl, q, CL, dq, _, _, rfl, by rw [upd_ne nqd]; exact hq1, S.cL, S.l3, lf.a, _, rfl, da, _, rfl, dg2, ?_⟩
      obtain ⟨dx, fs, hp, af⟩ := at1
      have npd : p ≠ da := (ne_of_none hda np).symm
      exact Q1 _ p dv dw ⟨dx, fs, by rw [upd_ne npd]; exact hp, af⟩ (by rw [upd_ne (ne_of_none hda nv).symm]; exact h1) (by rw [upd_ne (ne_of_none hda nw).symm]; exact h2) np nv nw (fun c o e n1 => by rw [upd_ne n1]; exact s1 _ _ e) upd_same
    · obtain ⟨dx', fs', ha', _⟩ := id at_
      rw [ev] at dg ⊢
      exact iteT ⟨_, rfl, q, CL, dq, _, _, rfl, hq, S.cL, S.l3, lf.a, _, rfl, da, _, rfl, dg, a, dx', fs', rfl, ha', a, q', dv', dw', l', pl', false, rfl, at_, _, rfl, iteT ⟨_, rfl, raiseB_of rfl (by show 1 ≤ 1000; decide) er.now⟩⟩
end
end K71

set_option Elab.async false
set_option linter.all false
set_option maxRecDepth 100000
set_option maxHeartbeats 2000000
/-! O71j: a ledger made, replayed, cloned, compared. -/
namespace K71
open PySem PySem.Spec PyProof.Rows L2 LL ORD
abbrev s_Ledger_replayed : Stmt := inClass (top 25) 1
abbrev n_Ledger_replayed : List Str := ["cls", "lanes", "history", "found", "position", "footprint"]
theorem sc_Ledger_replayed : FnScope n_Ledger_replayed ["cls", "lanes", "history"] (defScope s_Ledger_replayed) := ⟨rfl, rfl, rfl, by decide +kernel, rfl, by decide +kernel, by decide +kernel⟩
abbrev s_Ledger_clone : Stmt := inClass (top 25) 10
abbrev n_Ledger_clone : List Str := ["self"]
theorem sc_Ledger_clone : FnScope n_Ledger_clone ["self"] (defScope s_Ledger_clone) := ⟨rfl, rfl, rfl, by decide +kernel, rfl, by decide +kernel, by decide +kernel⟩
theorem LgF.put {fs : List (Str × V)} {n k : Nat} {hl da hl' : Addr} (z : LgF fs n hl da k) : LgF (putF "own_history" (.ref hl') fs) n hl' da (k + 1) := by
  refine ⟨?_, ?_, ?_, fun m h1 h2 h3 => ?_, ?_⟩
  · rw [lookup_putF, if_neg (by decide +kernel), z.l]
  · rw [lookup_putF, if_pos rfl]
  · rw [lookup_putF, if_neg (by decide +kernel), z.a]
  · rw [lookup_putF, if_neg h2, z.no m h1 h2 h3]
  · have := length_putF "own_history" (.ref hl') fs
    have := z.len
    omega
def HlAt (H : Hp) (a : Addr) (h : Hs) : Prop := ∃ vs, H a = some (.lst vs) ∧ Fps H vs h
theorem HlAt.hs {H : Hp} {a : Addr} {h : Hs} (z : HlAt H a h) : HsAt H a h := let ⟨vs, e, g⟩ := z; ⟨vs, .inl e, g⟩
theorem HlAt.same {H H' : Hp} {a : Addr} {h : Hs} (z : HlAt H a h) (s : Same H H') : HlAt H' a h := let ⟨vs, e, g⟩ := z; ⟨vs, s _ _ e, g.same s⟩
theorem FpAt.kp {H H' : Hp} {v : V} {f : Fp} (h : FpAt H v f) (s : Kp H H') : FpAt H' v f := let ⟨t, r, x, e, a, b, c⟩ := h; ⟨t, r, x, e, s _ _ a (fun _ z => by cases z), s _ _ b (fun _ z => by cases z), s _ _ c (fun _ z => by cases z)⟩
theorem Fps.kp {H H' : Hp} {vs : List V} {h : Hs} (f : Fps H vs h) (s : Kp H H') : Fps H' vs h := ⟨f.len, fun i v e => (f.at_ i v e).kp s⟩
section
variable {P : Program} {w : World} {K : PySem.W.Frag} {mg : Str → Option Value} {base : Heap} {CE CH CO CI CN CB CV CS CL CA : Addr} {f : Addr} {fd : FuncData}
/-! ### made -/
def spMkL (K : PySem.W.Frag) (CL CO : Addr) : Sp := fun vs H Q E => ∃ v, vs = [v] ∧ ((∃ n : Nat, v = .int (n : Nat) ∧ 1 ≤ n ∧ n ≤ 8 ∧ ∀ H' p hl da, LgAt CL H' p n hl da 3 → H' hl = some (.lst []) → H' da = some (.dK []) → H p = none → H hl = none → H da = none → Same H H' → Q (.ref p) H') ∨ (BadCnt K H v ∧ ErF CO "value" H v E))
theorem mkc (G : Mkr P w K mg base (L2.CX P w) 4 "Ledger" CL [] (spLI K CL CO)) : MkC P w K mg base (L2.CX P w) 4 CL (spMkL K CL CO) := by
  refine ⟨"Ledger", [], _, G, fun vs H Q E h a dx ha hd ne => ?_⟩
  obtain ⟨v, rfl, h⟩ := h
  refine ⟨a, dx, v, rfl, upd_same, ?_⟩
  have s0 := same_new0 (CL := CL) ha hd
  rcases h with ⟨n, rfl, n1, n8, q⟩ | ⟨nt, er⟩
  · refine .inl ⟨n, rfl, n1, n8, fun H' hl da lg h1 h2 n1 n2 b => ⟨rfl, q H' a hl da lg h1 h2 ha (s0.free n1) (s0.free n2) (same_new ha hd b)⟩⟩
  · exact .inr ⟨nt.same s0, er.same s0⟩
/-! ### replayed -/
/-- good ones of the lanes below n up to place k, what stands there is not -/
def BadN (K : PySem.W.Frag) (H : Hp) (v : V) (n k : Nat) : Prop := ∃ (a : Addr) (vs : List V) (u : V), v = .ref a ∧ Lt H a vs ∧ (∀ i x, i < k → vs[i]? = some x → ∃ g, FpAt H x g ∧ FpOk g ∧ g.lane < n) ∧ vs[k]? = some u ∧ (FpV K H u false ∨ ∃ g, FpAt H u g ∧ FpOk g ∧ n ≤ g.lane)
theorem BadN.same {H H' : Hp} {v : V} {n k : Nat} (h : BadN K H v n k) (s : Same H H') : BadN K H' v n k := by
  obtain ⟨a, vs, u, e, l, all, hu, z⟩ := h
  exact ⟨a, vs, u, e, l.same s, fun i x hi hx => let ⟨g, g1, g2⟩ := all i x hi hx; ⟨g, g1.same s, g2⟩, hu, z.imp (·.same s) fun ⟨g, g1, g2⟩ => ⟨g, g1.same s, g2⟩⟩
def NErr (K : PySem.W.Frag) (CH : Addr) (H : Hp) (v : V) (n : Nat) (E : XK) : Prop := (NoLt K H v ∧ ErF CH "position" H .non E) ∨ ∃ k, BadN K H v n k ∧ ErF CH "position" H (.int (k : Nat)) E
def spRp (K : PySem.W.Frag) (CL CO CH : Addr) : Sp := fun vs H Q E => ∃ v u, vs = [.ref CL, v, u] ∧ ((BadCnt K H v ∧ ErF CO "value" H v E) ∨ ∃ n : Nat, v = .int (n : Nat) ∧ 1 ≤ n ∧ n ≤ 8 ∧ (NErr K CH H u n E ∨
  ∃ (a : Addr) (h : Hs), u = .ref a ∧ HsAt H a h ∧ HsOk h ∧ (∀ i, i < h.length → (fp h i).lane < n) ∧ ∀ H' q hl da, Same H H' → H q = none → H hl = none → H da = none → LgAt CL H' q n hl da 4 → HlAt H' hl h → H' da = some (.dK []) → Q (.ref q) H'))
theorem ok_replayed (T : Tx K mg CE CH CO) (S : Tz K mg CL CA) (X_InvalidHistory : Xcl P w K mg base 1 "InvalidHistory" CH "position") (K_L : MkC P w K mg base (L2.CX P w) 4 CL (spMkL K CL CO)) (G_is_footprint : Fnc P w K mg base CX0 3 "is_footprint" [] (spFp K)) (F : FD K "replayed" "Ledger.replayed" s_Ledger_replayed [] f fd) :
    FnG P w K mg base (L2.CX P w) 6 f fd ["cls", "lanes", "history"] (spRp K CL CO CH) := by
  refine okX F sc_Ledger_replayed (fun vs H Q E h => ?_) (fun cdv A outer s H vs Q E hr h => ?_)
  · obtain ⟨v, u, rfl, _⟩ := h
    rfl
  · obtain ⟨v, u, rfl, h⟩ := h
    refine ⟨_, (pss_cons (ps_set (i := 3) sc_Ledger_replayed.nd rfl (by first | exact Or.inl rfl | exact Or.inr rfl) (pe_mkL (i := 0) K_L (hr.mono (by decide)) (passes_call (takes_of rfl rfl rfl rfl) (fun _ _ _ _ h => h)) rfl (.inl rfl) (pa_cons (pv 1) pa_nil)))
      (pss_cons (ps_if (pt_not (pt_val (pe_callB call_isiT (by rfl) T.n_isinstance (by decide +kernel) (pa_cons (pv 2) (pa_cons (pe_tup (pa_cons (pe_bltn (v := .ty "list") (by rfl) T.n_list (by decide +kernel) rfl) (pa_cons (pe_bltn (v := .ty "tuple") (by rfl) T.n_tuple (by decide +kernel) rfl) pa_nil))) pa_nil))))) (pss_one (ps_raiseX X_InvalidHistory (hr.r.mono (by decide)) (takes_of rfl rfl rfl rfl) pe_non)) pss_nil)
      (pss_cons (ps_for (passes_of rfl) rfl (pi_enumA (by rfl) T.n_enumerate (pa_cons (pv 2) pa_nil)) (pg_tup rfl (pgs_cons (pg_name (i := 4) sc_Ledger_replayed.nd rfl (by first | exact Or.inl rfl | exact Or.inr rfl)) (pgs_cons (pg_name (i := 5) sc_Ledger_replayed.nd rfl (by first | exact Or.inl rfl | exact Or.inr rfl)) pgs_nil))) (pss_one (ps_if (PW.pt (pw_or (pt_not (pt_val (pe_fn G_is_footprint (hr.mono (by decide)) pass0 (pa_cons (pv 5) pa_nil)))) (pw_or1 (pt_cmpR op_ge (pe_ix ix_tup (pv 5) pe_int (fun _ _ => rfl)) (pv 1) (nomark _))))) (pss_one (ps_raiseX X_InvalidHistory (hr.r.mono (by decide)) (takes_of rfl rfl rfl rfl) (pv 4))) pss_nil)))
      (pss_cons (ps_fld (pv 3) (pe_callTy call_list_of (by rfl) T.n_list (by decide +kernel) (pa_cons (pv 2) pa_nil)) rfl)
      (pss_one (ps_ret (pv 3))))))), ?_⟩
    rcases h with ⟨bad, er⟩ | ⟨n, rfl, n1, n8, h⟩
    · exact ⟨rfl, _, rfl, v, rfl, .inr ⟨bad, er⟩⟩
    refine ⟨rfl, _, rfl, _, rfl, .inl ⟨n, rfl, n1, n8, fun H1 q hl da lg h1 h2 nq nhl nda s1 => nm_of ?_⟩⟩
    dsimp only
    refine ⟨_, rfl, (by show 2 ≤ sizeLine; decide), fun tp ntp => ?_⟩
    obtain ⟨G2, e, s2, htp⟩ := mkO ntp (.tup [.ty "list", .ty "tuple"])
    rw [e]
    clear e
    have s12 := s1.trans s2
    rcases h with h | ⟨a, h, rfl, ha, ok, ln, Qq⟩
    · rcases h with ⟨⟨t, ty, k1, k2⟩, er⟩ | ⟨m, ⟨a, ls, u, rfl, hls, all, hu, bad⟩, er⟩
      · refine ⟨_, _, _, t, _, _, rfl, htp, .cons (.ty _) (.cons (.ty _) .nil), ty _ (.of s12), kitA k1 k2, _, rfl, iteT ?_⟩
        exact raise_of (er.same s12).now
      · obtain ⟨t, ty, kt⟩ := ty_lt (K := K) (hls.same s12)
        refine ⟨_, _, _, t, _, _, rfl, htp, .cons (.ty _) (.cons (.ty _) .nil), ty, kt, _, rfl, iteF ?_⟩
        obtain ⟨k, hk⟩ := hls.k (K := K)
        have hk1 : ∀ H', Same G2 H' → sqK k K H' a ls := fun H' s' => sqK_same hk (s12.trans s')
        refine ⟨_, rfl, k, a, ls, rfl, hk1 _ Same.rfl', ?_⟩
        have nl : m < ls.length := (List.getElem?_eq_some_iff.mp hu).1
        refine for_it (walk_enumK (K := K) (k := k) (a := a) (xs := ls)) (fun i σ H' => i ≤ m ∧ Same G2 H' ∧ ∃ u4 u5, σ = [some (.ref CL), some (.int (n : Nat)), some (.ref a), some (.ref q), u4, u5]) ⟨Nat.zero_le _, Same.rfl', none, none, rfl⟩ (fun i σ H' _ h => hk1 H' h.2.1) ?_ ?_
        · rintro i x σ H2 H3 hi ⟨le, s3, u4, u5, rfl⟩ ⟨t, y, z, rfl, nt, rfl, hy, hz⟩
          cases hy
          refine ⟨t, _, rfl, SqT.of upd_same, rfl, _, _, rfl, _, _, rfl, rfl, ?_⟩
          have s4 := (s12.trans s3).trans (same_upd (o := .tup [.int (i : Nat), z]) nt)
          rcases Nat.lt_or_eq_of_le le with lt | eq
          · obtain ⟨g, g1, g2, g3⟩ := all i z lt hz
            refine ⟨_, rfl, z, true, rfl, FpV.of (g1.same s4) g2, fun H4 s5 => ⟨_, rfl, iteF ?_⟩⟩
            obtain ⟨tg, rg, xg, rfl, htg, _, _⟩ := (g1.same s4).same s5
            exact ⟨_, rfl, tg, _, _, _, rfl, rfl, SqT.of htg, atI_nat (j := 0) rfl, _, rfl, _, _, rfl, rfl, _, rfl, iteN (decide_eq_false (by omega)) ⟨lt, (s3.trans (same_upd nt)).trans s5, _, _, rfl⟩⟩
          · subst eq
            have hz' : ls[i]? = some z := hz
            rw [hu] at hz'
            cases hz'
            rcases bad with bad | ⟨g, g1, g2, g3⟩
            · exact ⟨_, rfl, u, false, rfl, bad.same s4, fun H4 s5 => ⟨_, rfl, iteT ⟨_, rfl, raise_of (er.same (s4.trans s5)).now⟩⟩⟩
            · refine ⟨_, rfl, u, true, rfl, FpV.of (g1.same s4) g2, fun H4 s5 => ⟨_, rfl, iteF ?_⟩⟩
              obtain ⟨tg, rg, xg, rfl, htg, _, _⟩ := (g1.same s4).same s5
              exact ⟨_, rfl, tg, _, _, _, rfl, rfl, SqT.of htg, atI_nat (j := 0) rfl, _, rfl, _, _, rfl, rfl, _, rfl, iteY (decide_eq_true (by omega)) ⟨_, rfl, raise_of (er.same (s4.trans s5)).now⟩⟩
        · rintro σ H2 ⟨le, _⟩
          omega
    · obtain ⟨ls, hls, fps⟩ := ha
      obtain ⟨t, ty, kt⟩ := ty_lt (K := K) (hls.same s12)
      refine ⟨_, _, _, t, _, _, rfl, htp, .cons (.ty _) (.cons (.ty _) .nil), ty, kt, _, rfl, iteF ?_⟩
      obtain ⟨k, hk⟩ := hls.k (K := K)
      have hk1 : ∀ H', Same G2 H' → sqK k K H' a ls := fun H' s' => sqK_same hk (s12.trans s')
      refine ⟨_, rfl, k, a, ls, rfl, hk1 _ Same.rfl', ?_⟩
      refine for_it (walk_enumK (K := K) (k := k) (a := a) (xs := ls)) (fun i σ H' => Same G2 H' ∧ ∃ u4 u5, σ = [some (.ref CL), some (.int (n : Nat)), some (.ref a), some (.ref q), u4, u5]) ⟨Same.rfl', none, none, rfl⟩ (fun i σ H' _ h => hk1 H' h.1) ?_ ?_
      · rintro i x σ H2 H3 hi ⟨s3, u4, u5, rfl⟩ ⟨t, y, z, rfl, nt, rfl, hy, hz⟩
        cases hy
        have s4 := (s12.trans s3).trans (same_upd (o := .tup [.int (i : Nat), z]) nt)
        have il : i < h.length := by rw [← fps.len]; exact hi
        have fa := (fps.at_ i z hz).same s4
        have lt := ln i il
        refine ⟨t, _, rfl, SqT.of upd_same, rfl, _, _, rfl, _, _, rfl, rfl, ?_⟩
        refine ⟨_, rfl, z, true, rfl, FpV.of fa (ok.fp i il), fun H4 s5 => ⟨_, rfl, iteF ?_⟩⟩
        obtain ⟨tg, rg, xg, rfl, htg, _, _⟩ := fa.same s5
        exact ⟨_, rfl, tg, _, _, _, rfl, rfl, SqT.of htg, atI_nat (j := 0) rfl, _, rfl, _, _, rfl, rfl, _, rfl, iteN (decide_eq_false (by omega)) ⟨(s3.trans (same_upd nt)).trans s5, _, _, rfl⟩⟩
      · rintro σ H3 ⟨s3, u4, u5, rfl⟩
        have s13 := s12.trans s3
        obtain ⟨dx, fs, hq1, lf⟩ := lg
        have hq3 := (s2.trans s3) _ _ hq1
        refine ⟨_, rfl, a, _, rfl, (hls.same s13).sq, fun l4 n4 => ?_⟩
        obtain ⟨G4, e, s4, k4⟩ := mkO n4 (.lst ls)
        rw [e]
        clear e
        have lf5 := lf.len
        refine ⟨_, rfl, q, CL, dx, _, rfl, s4 _ _ hq3, S.cL, S.l2, by omega, ⟨_, rfl, ?_⟩⟩
        have s14 := s13.trans s4
        have nlq : l4 ≠ q := fun z => by
          rw [z, hq3] at n4
          cases n4
        have nda' : da ≠ q := fun z => by
          rw [z, hq1] at h2
          cases h2
        have sE : Same H (upd G4 q (.ins CL dx (putF "own_history" (.ref l4) fs))) := own_same s14 nq
        refine Qq _ q l4 da sE nq (s13.free n4) nda ⟨dx, _, upd_same, lf.put⟩ ⟨ls, by rw [upd_ne nlq]; exact k4, fps.same sE⟩ ?_
        rw [upd_ne nda']
        exact ((s2.trans s3).trans s4) _ _ h2
end
end K71

set_option Elab.async false
set_option linter.all false
set_option maxRecDepth 100000
set_option maxHeartbeats 2000000
/-! O71k: a ledger cloned, compared. -/
namespace K71
open PySem PySem.Spec PyProof.Rows L2 LL ORD
/-- the class Ledger, asked by isinstance -/
structure Tq (K : PySem.W.Frag) (mg : Str → Option Value) (CE CH CO CL CA : Addr) : Prop extends Tx K mg CE CH CO, Tz K mg CL CA where
  ca : PySem.W.findIn K (.ref CL) "__class__" = some (some (.builtin "object.__class__"))
  cn : PySem.W.specialIn K (.builtin "object.__class__") "__get__" = some (some (.builtin "getset_descriptor.__get__"))
  ct : PySem.W.takesIn K (.builtin "object.__class__") = some true
  cm : PySem.W.mroIn K CL (.type "object") = some true
  kC : PySem.W.kitOne K (.ref CL) (.ref CL) = some true
  kL : PySem.W.kitOne K (.type "list") (.ref CL) = some false
section
variable {P : Program} {w : World} {K : PySem.W.Frag} {mg : Str → Option Value} {base : Heap} {CE CH CO CI CN CB CV CS CL CA : Addr} {f : Addr} {fd : FuncData}
theorem tyS (T : Tq K mg CE CH CO CL CA) {H : Hp} {p dx : Addr} {fs : List (Str × V)} (h : H p = some (.ins CL dx fs)) : TyX K H (.ref p) (.ref CL) := .base (.ins h T.cL T.ca T.cn T.ct T.cm)
def spClone (CL : Addr) : Sp := fun vs H Q _ => ∃ (q hl da : Addr) (n k : Nat) (us : List V) (h : Hs), vs = [.ref q] ∧ LgAt CL H q n hl da k ∧ H hl = some (.lst us) ∧ Fps H us h ∧ HsOk h ∧ (∀ i, i < h.length → (fp h i).lane < n) ∧ 1 ≤ n ∧ n ≤ 8 ∧ ∀ H' q' hl' da', Same H H' → H q' = none → H hl' = none → H da' = none → LgAt CL H' q' n hl' da' 4 → HlAt H' hl' h → H' da' = some (.dK []) → Q (.ref q') H'
theorem ok_clone (T : Tx K mg CE CH CO) (S : Tz K mg CL CA) (C_replayed : Cmt P w K mg base (L2.CX P w) 6 CL "replayed" (spRp K CL CO CH)) (F : FD K "clone" "Ledger.clone" s_Ledger_clone [] f fd) : FnG P w K mg base (L2.CX P w) 7 f fd ["self"] (spClone CL) := by
  refine okX F sc_Ledger_clone (fun vs H Q E h => ?_) (fun cdv A outer s H vs Q E hr h => ?_)
  · obtain ⟨q, hl, da, n, k, us, h, rfl, _⟩ := h
    rfl
  · obtain ⟨q, hl, da, n, k, us, h, rfl, ⟨dq, gs, hq, lf⟩, hu, fps, ok, ln, n1, n8, Q1⟩ := h
    refine ⟨_, (pss_one (ps_ret (pe_cm (pe_glob (v := .ref CL) (by rfl) S.g_Ledger rfl) C_replayed (hr.mono (by decide)) (passes_call (takes_of rfl rfl rfl rfl) (fun _ _ _ _ h => h)) (pa_cons (pe_fld (pv 0) rfl) (pa_cons (pe_fld (pv 0) rfl) pa_nil))))), ?_⟩
    refine ⟨rfl, _, rfl, q, CL, dq, _, _, rfl, hq, S.cL, S.l1, lf.l, _, rfl, q, CL, dq, _, _, rfl, hq, S.cL, S.l2, lf.h, ?_⟩
    exact ⟨_, _, rfl, .inr ⟨n, rfl, n1, n8, .inr ⟨hl, h, rfl, ⟨us, .inl hu, fps⟩, ok, ln, Q1⟩⟩⟩
def spEqL (K : PySem.W.Frag) (CL : Addr) : Sp := fun vs H Q _ => ∃ (q hl da : Addr) (n k : Nat) (us : List V) (h : Hs) (v : V), vs = [.ref q, v] ∧ LgAt CL H q n hl da k ∧ H hl = some (.lst us) ∧ Fps H us h ∧ HsOk h ∧ ((∃ t, TyX K H v t ∧ PySem.W.kitOne K t (.ref CL) = some false ∧ Q (.bl false) H) ∨
  ∃ (q' hl' da' : Addr) (n' k' : Nat) (us' : List V) (h' : Hs), v = .ref q' ∧ LgAt CL H q' n' hl' da' k' ∧ H hl' = some (.lst us') ∧ Fps H us' h' ∧ HsOk h' ∧ ∀ b : Bool, (b = true ↔ n = n' ∧ hsD h = hsD h') → Q (.bl b) H)
theorem ok_eq (T : Tq K mg CE CH CO CL CA) (F : FD K "__eq__" "Ledger.__eq__" s_Ledgereq [] f fd) : FnG P w K mg base CX0 1 f fd ["self", "other"] (spEqL K CL) := by
  refine ok0 F sc_Ledgereq (fun vs H Q E h => ?_) (fun cdv A outer s H vs Q E hr h => ?_)
  · obtain ⟨q, hl, da, n, k, us, h, v, rfl, _⟩ := h
    rfl
  · obtain ⟨q, hl, da, n, k, us, h, v, rfl, ⟨dx, fs, hq, lf⟩, hu, fps, ok, hh⟩ := h
    have S := T.toTz
    refine ⟨_, (pss_cons (ps_if (pt_not (pt_val (pe_callB call_isi (by rfl) T.n_isinstance (by decide +kernel) (pa_cons (pv 1) (pa_cons (pe_glob (v := .ref CL) (by rfl) T.g_Ledger rfl) pa_nil))))) (pss_one (ps_ret pe_bl)) pss_nil)
      (pss_one (ps_ret (pe_and (pe_cmpR op_eq (pe_fld (pv 0) rfl) (pe_fld (pv 1) rfl) (nomark _)) (pe_one (pe_cmpR (op_eqD hr.r.units) (pe_fld (pv 0) rfl) (pe_fld (pv 1) rfl) (nomark _))))))), ?_⟩
    rcases hh with ⟨t, ty, kt, Q1⟩ | ⟨q', hl', da', n', k', us', h', rfl, ⟨dy, fs', hq', lf'⟩, hu', fps', ok', Q1⟩
    · exact ⟨_, rfl, _, _, t, _, _, rfl, .own CL, ty, kt, _, rfl, iteT Q1⟩
    · refine ⟨_, rfl, _, _, .ref CL, _, _, rfl, .own CL, tyS T hq', T.kC, _, rfl, iteF ?_⟩
      refine ⟨_, rfl, q, CL, dx, _, _, rfl, hq, S.cL, S.l1, lf.l, _, rfl, q', CL, dy, _, _, rfl, hq', S.cL, S.l1, lf'.l, ?_⟩
      refine ⟨rfl, _, rfl, iteB (fun c => ?_) (fun c => ?_)⟩
      · refine ⟨_, rfl, q, CL, dx, _, _, rfl, hq, S.cL, S.l2, lf.h, _, rfl, q', CL, dy, _, _, rfl, hq', S.cL, S.l2, lf'.h, ?_⟩
        have e : n = n' := by simp at c; omega
        exact eq_pd (hs_dp hu fps) (hs_dp hu' fps') (hs_pn ok) (hs_pn ok') fun b hb => Q1 b ⟨fun z => ⟨e, hb.mp z⟩, fun z => hb.mpr z.2⟩
      · have e : n ≠ n' := by simp at c; omega
        exact Q1 false ⟨fun z => (Bool.false_ne_true z).elim, fun z => (e z.1).elim⟩
end
end K71

set_option Elab.async false
set_option linter.all false
set_option maxRecDepth 100000
set_option maxHeartbeats 2000000
/-! L71: draws; cells, histories drawn. -/
namespace K71
open PySem PySem.Spec PyProof.Rows L2 LL ORD
abbrev s_l_pot : Stmt := top 28
abbrev n_l_pot : List Str := ["_law_script", "_law_k", "_law_cell"]
theorem sc_l_pot : FnScope n_l_pot ["_law_script", "_law_k"] (defScope s_l_pot) := ⟨rfl, rfl, rfl, by decide +kernel, rfl, by decide +kernel, by decide +kernel⟩
abbrev s_l_take : Stmt := top 29
abbrev n_l_take : List Str := ["_law_pot_here", "_law_many", "_law_digit"]
theorem sc_l_take : FnScope n_l_take ["_law_pot_here", "_law_many"] (defScope s_l_take) := ⟨rfl, rfl, rfl, by decide +kernel, rfl, by decide +kernel, by decide +kernel⟩
abbrev s_l_pick : Stmt := top 30
abbrev n_l_pick : List Str := ["_law_pot_here", "_law_some"]
theorem sc_l_pick : FnScope n_l_pick ["_law_pot_here", "_law_some"] (defScope s_l_pick) := ⟨rfl, rfl, rfl, by decide +kernel, rfl, by decide +kernel, by decide +kernel⟩
abbrev s_l_cells : Stmt := top 31
abbrev n_l_cells : List Str := ["_law_pot_here", "_law_signs", "_law_found", "_law_k", "_law_many", "_law_j"]
theorem sc_l_cells : FnScope n_l_cells ["_law_pot_here"] (defScope s_l_cells) := ⟨rfl, rfl, rfl, by decide +kernel, rfl, by decide +kernel, by decide +kernel⟩
section
variable {P : Program} {w : World} {K : PySem.W.Frag} {mg : Str → Option Value} {base : Heap} {CE CH CO : Addr} {f : Addr} {fd : FuncData}
def Pot (x y : Int) : Prop := 0 ≤ x ∧ 0 ≤ y ∧ y < 1099511627776
def PotAt (H : Hp) (p : Addr) : Prop := ∃ x y, H p = some (.lst [.int x, .int y]) ∧ Pot x y
theorem PotAt.ne {H : Hp} {p r : Addr} (h : PotAt H p) (n : H r = none) : r ≠ p := fun z => by
  obtain ⟨x, y, e, _⟩ := h
  rw [z, e] at n
  cases n
theorem PotAt.upd {H : Hp} {p r : Addr} {o : HO} (h : PotAt H p) (n : H r = none) : PotAt (L2.upd H r o) p := by
  obtain ⟨x, y, e, q⟩ := id h
  exact ⟨x, y, by rw [upd_ne (h.ne n).symm]; exact e, q⟩
theorem PotAt.same {H H' : Hp} {p : Addr} (h : PotAt H p) (b : Same H H') : PotAt H' p := let ⟨x, y, e, z⟩ := h; ⟨x, y, b _ _ e, z⟩
theorem PotAt.but {H H' : Hp} {p q : Addr} (h : PotAt H p) (b : But q H H') (n : p ≠ q) : PotAt H' p := let ⟨x, y, e, z⟩ := h; ⟨x, y, b _ _ e n, z⟩
theorem PotAt.kp {H H' : Hp} {p : Addr} (h : PotAt H p) (b : But p H H') : Kp H H' := let ⟨_, _, e, _⟩ := h; b.kp e
/-! ### _law_pot -/
def spPot (K : PySem.W.Frag) : Sp := fun vs H Q _ => ∃ (a : Addr) (ns : List Int) (k : Nat), vs = [.ref a, .int k] ∧ SqL K H a (ns.map V.int) ∧ ns.length ≤ 63 ∧ k < 100 ∧ ∀ H' p, Same H H' → H p = none → PotAt H' p → Q (.ref p) H'
theorem at_map {ns : List Int} {k : Nat} (h : k < ns.length) : atI (ns.map V.int) (k : Int) = some (.int ns[k]) := atI_nat (by rw [List.getElem?_map, List.getElem?_eq_getElem h]; rfl)
theorem ok_l_pot (T : Tx K mg CE CH CO) (F : FD K "_law_pot" "_law_pot" s_l_pot [] f fd) : FnG P w K mg base CX0 1 f fd ["_law_script", "_law_k"] (spPot K) := by
  refine ok0 F sc_l_pot (fun vs H Q E h => ?_) (fun cdv A outer s H vs Q E hr h => ?_)
  · obtain ⟨a, ns, k, rfl, _⟩ := h
    rfl
  · obtain ⟨a, ns, k, rfl, hS, hl, hk, q⟩ := h
    refine ⟨_, (pss_cons (ps_set (i := 2) sc_l_pot.nd rfl (by first | exact Or.inl rfl | exact Or.inr rfl) (pe_op op_add (pe_op op_mulX pe_int (pv 1)) pe_int))
      (pss_cons (ps_if (pt_cmpR op_lt (pv 1) (pe_callB call_len_seq (by rfl) T.n_len (by decide +kernel) (pa_cons (pv 0) pa_nil)) (nomark _)) (pss_one (ps_set (i := 2) sc_l_pot.nd rfl (by first | exact Or.inl rfl | exact Or.inr rfl) (pe_ix ix_list (pv 0) (pv 1) (fun _ _ => rfl)))) pss_nil)
      (pss_one (ps_ret (pe_lst (pa_cons (pe_callB (call_max2 rfl) (by rfl) T.n_max (by decide +kernel) (pa_cons pe_int (pa_cons (pe_op op_sub (pe_callB call_abs (by rfl) T.n_abs (by decide +kernel) (pa_cons (pv 2) pa_nil)) (pe_op op_pow pe_int pe_int)) pa_nil))) (pa_cons (pe_op op_add (pe_op op_add (pe_op op_mulX (pe_op op_mod (pe_callTy call_int1 (by rfl) T.n_int (by decide +kernel) (pa_cons (pe_callB call_abs (by rfl) T.n_abs (by decide +kernel) (pa_cons (pv 2) pa_nil)) pa_nil)) pe_int) pe_int) (pe_op op_mulX (pe_op op_mulX (pv 1) (pv 1)) pe_int)) pe_int) pa_nil))))))), ?_⟩
    refine ⟨_, rfl, _, _, rfl, rfl, mulx_ok (a := 4) (b := 7) (by decide) (by omega) (by decide), _, _, rfl, rfl, ?_⟩
    refine nm_of ?_
    dsimp only
    refine seq_cut (fun σ' H' => H' = H ∧ ∃ c : Int, σ' = [some (.ref a), some (.int k), some (.int c)]) (fun N hN => ?_) ?_
    · refine ⟨_, rfl, _, rfl, a, _, rfl, .inl hS, _, _, rfl, rfl, _, rfl, iteB (fun e => ?_) (fun e => ?_)⟩
      · have hkl : k < ns.length := by
          have := of_decide_eq_true e
          rw [List.length_map] at this
          omega
        exact ⟨_, rfl, _, rfl, a, _, _, _, rfl, rfl, hS, at_map hkl, hN _ _ ⟨rfl, _, rfl⟩⟩
      · exact hN _ _ ⟨rfl, _, rfl⟩
    rintro σ H' ⟨rfl, c, rfl⟩
    have ab : 0 ≤ (if c < 0 then -c else c) := by split <;> omega
    refine ⟨_, rfl, _, rfl, _, _, rfl, rfl, ⟨by decide, by decide, by decide⟩, _, _, rfl, rfl, _, _, rfl, _, rfl, _, rfl, .inl ⟨_, rfl, _, _, rfl, rfl, (show (0 : Int) < 2147483579 by decide), _, _, rfl, rfl, mulx_ok (a := 32) (b := 6) (by omega) (by decide) (by decide), ?_⟩⟩
    refine ⟨_, rfl, _, rfl, _, _, rfl, rfl, mulx_ok (a := 7) (b := 7) (by omega) (by omega) (by decide), _, _, rfl, rfl, mulx_ok (a := 14) (b := 10) (by have : (k : Int) * k ≤ 100 * 100 := Int.mul_le_mul (by omega) (by omega) (by omega) (by omega); have := Int.mul_nonneg (a := (k : Int)) (b := (k : Int)) (by omega) (by omega); omega) (by decide) (by decide), _, _, rfl, rfl, _, _, rfl, rfl, ?_⟩
    refine ⟨(by show 2 ≤ sizeLine; decide), fun p hp => q _ p (same_upd hp) hp ⟨_, _, upd_same, ?_, ?_, ?_⟩⟩
    · split <;> omega
    · have := Int.mul_nonneg (a := (k : Int)) (b := (k : Int)) (by omega) (by omega)
      omega
    · have : (k : Int) * k ≤ 100 * 100 := Int.mul_le_mul (by omega) (by omega) (by omega) (by omega)
      omega
/-! ### _law_take -/
def spTake : Sp := fun vs H Q _ => ∃ (p : Addr) (m : Int), vs = [.ref p, .int m] ∧ PotAt H p ∧ 0 < m ∧ m < 1000000 ∧ ∀ H' d, But p H H' → PotAt H' p → 0 ≤ d → d < m → Q (.int d) H'
theorem ok_l_take (T : Tx K mg CE CH CO) (F : FD K "_law_take" "_law_take" s_l_take [] f fd) : FnG P w K mg base CX0 1 f fd ["_law_pot_here", "_law_many"] spTake := by
  refine ok0 F sc_l_take (fun vs H Q E h => ?_) (fun cdv A outer s H vs Q E hr h => ?_)
  · obtain ⟨p, m, rfl, _⟩ := h
    rfl
  · obtain ⟨p, m, rfl, ⟨x, y, hp, hx, hy, hy2⟩, m0, m1, q⟩ := h
    refine ⟨_, (pss_cons (ps_if (pt_cmpR op_gt (pe_ix ix_list (pv 0) pe_int (fun _ _ => rfl)) pe_int (nomark _)) (pss_cons (ps_asg (pe_callB call_divmodW (by rfl) T.n_divmod (by decide +kernel) (pa_cons (pe_ix ix_list (pv 0) pe_int (fun _ _ => rfl)) (pa_cons (pv 1) pa_nil))) (pg_tup rfl (pgs_cons (pg_sub (pv 0) pe_int set_list) (pgs_cons (pg_name (i := 2) sc_l_take.nd rfl (by first | exact Or.inl rfl | exact Or.inr rfl)) pgs_nil))))
      (pss_one (ps_ret (pv 2)))) pss_nil)
      (pss_cons (ps_asg (pe_op op_mod (pe_callTy call_int1 (by rfl) T.n_int (by decide +kernel) (pa_cons (pe_op op_add (pe_op op_mulX (pe_ix ix_list (pv 0) pe_int (fun _ _ => rfl)) pe_int) pe_int) pa_nil)) pe_int) (pg_sub (pv 0) pe_int set_list))
      (pss_one (ps_ret (pe_op op_mod (pe_callTy call_int1 (by rfl) T.n_int (by decide +kernel) (pa_cons (pe_op op_fdivZ (pe_op op_mod (pe_callTy call_int1 (by rfl) T.n_int (by decide +kernel) (pa_cons (pe_op op_mulX (pe_ix ix_list (pv 0) pe_int (fun _ _ => rfl)) (pe_ix ix_list (pv 0) pe_int (fun _ _ => rfl))) pa_nil)) pe_int) pe_int) pa_nil)) (pv 1)))))), ?_⟩
    refine ⟨_, rfl, p, _, _, _, rfl, rfl, SqL.of hp, atI_nat (j := 0) rfl, _, _, rfl, rfl, _, rfl, iteB (fun e => ?_) (fun e => ?_)⟩
    · have x0 : 0 < x := of_decide_eq_true e
      refine ⟨_, rfl, p, _, _, _, rfl, rfl, SqL.of hp, atI_nat (j := 0) rfl, _, rfl, _, _, rfl, ⟨m0, PyProof.noPylong_small (by omega)⟩, fun t ht => ?_⟩
      have npt : p ≠ t := ne_of_none hp ht
      refine ⟨t, _, rfl, SqT.of upd_same, rfl, _, _, rfl, _, rfl, p, _, _, 0, rfl, rfl, (by rw [upd_ne npt]; exact hp), rfl, ?_⟩
      refine ⟨_, _, rfl, rfl, _, rfl, ?_⟩
      refine q _ _ (fun b o e n => ?_) ⟨_, _, upd_same, Int.ediv_nonneg hx (by omega), hy, hy2⟩ (Int.emod_nonneg _ (by omega)) (Int.emod_lt_of_pos _ m0)
      rw [upd_ne n, upd_ne (ne_of_none e ht)]
      exact e
    · have z0 : 0 ≤ (y * 48283 + 10007) % 2147483587 := Int.emod_nonneg _ (by decide)
      have z1 : (y * 48283 + 10007) % 2147483587 < 2147483587 := Int.emod_lt_of_pos _ (by decide)
      refine ⟨_, rfl, p, _, _, _, rfl, rfl, SqL.of hp, atI_nat (j := 1) rfl, _, _, rfl, rfl, mulx_ok (a := 40) (b := 16) (by omega) (by decide) (by decide), _, _, rfl, rfl, .inl ⟨_, rfl, _, _, rfl, rfl, (show (0 : Int) < 2147483587 by decide), ?_⟩⟩
      refine ⟨_, rfl, p, _, _, 1, rfl, rfl, hp, rfl, ?_⟩
      refine ⟨_, rfl, p, _, _, _, rfl, rfl, SqL.of upd_same, atI_nat (j := 1) rfl, _, rfl, p, _, _, _, rfl, rfl, SqL.of upd_same, atI_nat (j := 1) rfl, _, _, rfl, rfl, mulx_ok (a := 32) (b := 32) (by omega) (by omega) (by decide), .inl ⟨_, rfl, _, _, rfl, rfl, (show (0 : Int) < 2147483549 by decide), _, _, rfl, rfl, ⟨by decide, by decide⟩, .inl ⟨_, rfl, _, rfl, _, _, rfl, rfl, m0, ?_⟩⟩⟩
      exact q _ _ but_upd ⟨_, _, upd_same, hx, z0, by omega⟩ (Int.emod_nonneg _ (by omega)) (Int.emod_lt_of_pos _ m0)
/-! ### _law_pick -/
def spPick : Sp := fun vs H Q _ => ∃ (p : Addr) (x : V), vs = [.ref p, x] ∧ PotAt H p ∧ ((∃ l xs, x = .ref l ∧ H l = some (.lst xs) ∧ xs ≠ [] ∧ xs.length ≤ 1000 ∧ l ≠ p ∧ ∀ H' v, But p H H' → PotAt H' p → v ∈ xs → Q v H') ∨
  ∃ z : Str, x = .str z ∧ 0 < z.length ∧ z.length ≤ 1000 ∧ ∀ H' c, But p H H' → PotAt H' p → c ∈ z.cps.toList → Q (.str ⟨#[c]⟩) H')
theorem ok_l_pick (T : Tx K mg CE CH CO) (G_l_take : Fnc P w K mg base CX0 1 "_law_take" [] spTake) (F : FD K "_law_pick" "_law_pick" s_l_pick [] f fd) : FnG P w K mg base CX0 2 f fd ["_law_pot_here", "_law_some"] spPick := by
  refine ok0 F sc_l_pick (fun vs H Q E h => ?_) (fun cdv A outer s H vs Q E hr h => ?_)
  · obtain ⟨p, x, rfl, _⟩ := h
    rfl
  · obtain ⟨p, x, rfl, hp, h⟩ := h
    refine ⟨_, (pss_one (ps_ret (pe_ix ix_seq (pv 1) (pe_fn G_l_take (hr.mono (by decide)) pass0 (pa_cons (pv 0) (pa_cons (pe_callB call_len (by rfl) T.n_len (by decide +kernel) (pa_cons (pv 1) pa_nil)) pa_nil))) (fun _ _ => rfl)))), ?_⟩
    rcases h with ⟨l, xs, rfl, hl, hn, hz, hlp, q⟩ | ⟨z, rfl, h0, hz, q⟩
    · have h0 : 0 < xs.length := List.length_pos_iff.mpr hn
      refine ⟨_, rfl, _, rfl, _, rfl, _, xs.length, rfl, .inl ⟨xs, SqL.of hl, rfl⟩, p, xs.length, rfl, hp, by omega, by omega, fun H' d b hp' d0 d1 => ?_⟩
      obtain ⟨n, rfl⟩ := Int.eq_ofNat_of_zero_le d0
      have hn' : n < xs.length := by omega
      exact .inl ⟨l, xs, _, xs[n], rfl, rfl, SqL.of (b l _ hl hlp), atI_nat (List.getElem?_eq_getElem hn'), q H' _ b hp' (List.getElem_mem hn')⟩
    · refine ⟨_, rfl, _, rfl, _, rfl, _, z.length, rfl, ⟨small (by omega), rfl⟩, p, z.length, rfl, hp, by omega, by omega, fun H' d b hp' d0 d1 => ?_⟩
      obtain ⟨n, rfl⟩ := Int.eq_ofNat_of_zero_le d0
      have hn' : n < z.cps.toList.length := by
        have : z.cps.toList.length = z.length := rfl
        omega
      exact .inr (.inr ⟨z, _, z.cps.toList[n], rfl, rfl, small (by omega), atI_nat (List.getElem?_eq_getElem hn'), q H' _ b hp' (List.getElem_mem hn')⟩)
end
end K71

set_option Elab.async false
set_option linter.all false
set_option maxRecDepth 100000
set_option maxHeartbeats 2000000
/-! L71b: cells and histories drawn. -/
namespace K71
open PySem PySem.Spec PyProof.Rows L2 LL ORD
section
variable {P : Program} {w : World} {K : PySem.W.Frag} {mg : Str → Option Value} {base : Heap} {CE CH CO : Addr} {f : Addr} {fd : FuncData}
/-! ### _law_cells -/
abbrev heads : Str := "cashb"
theorem perm_map_str {a b : List Str} (p : a.Perm b) : a.Perm b := p
structure CsOk (cs : List Str) : Prop where
  ok : ∀ c ∈ cs, CellOk c
  srt : cs.Pairwise lt'
  len : cs.length ≤ 5
def spCs : Sp := fun vs H Q _ => ∃ p : Addr, vs = [.ref p] ∧ PotAt H p ∧ ∀ H' q cs, But p H H' → PotAt H' p → H q = none → q ≠ p → H' q = some (.lst (cs.map V.str)) → CsOk cs → cs ≠ [] → Q (.ref q) H'
theorem strict_of {cs : List Str} (s : cs.Pairwise fun a b => ¬ lt' b a) (n : cs.Nodup) : cs.Pairwise lt' := by
  refine (s.and n).imp fun {a b} z => ?_
  rcases lt_tri a b with q | q | q
  · exact q
  · exact absurd q z.2
  · exact absurd q z.1
theorem ok_l_cells (T : Tx K mg CE CH CO) (G_l_take : Fnc P w K mg base CX0 1 "_law_take" [] spTake) (G_l_pick : Fnc P w K mg base CX0 2 "_law_pick" [] spPick) (F : FD K "_law_cells" "_law_cells" s_l_cells [] f fd) : FnG P w K mg base CX0 3 f fd ["_law_pot_here"] spCs := by
  refine ok0 F sc_l_cells (fun vs H Q E h => ?_) (fun cdv A outer s H vs Q E hr h => ?_)
  · obtain ⟨p, rfl, _⟩ := h
    rfl
  · obtain ⟨p, rfl, hp, q⟩ := h
    refine ⟨_, (pss_cons (ps_set (i := 1) sc_l_cells.nd rfl (by first | exact Or.inl rfl | exact Or.inr rfl) pe_str)
      (pss_cons (ps_set (i := 2) sc_l_cells.nd rfl (by first | exact Or.inl rfl | exact Or.inr rfl) (pe_lst pa_nil))
      (pss_cons (ps_for PassesOwn.never rfl (pi_range1 (by rfl) T.n_range (pa_cons (pe_op op_add pe_int (pe_fn G_l_take (hr.mono (by decide)) pass0 (pa_cons (pv 0) (pa_cons pe_int pa_nil)))) pa_nil)) (pg_name (i := 3) sc_l_cells.nd rfl (by first | exact Or.inl rfl | exact Or.inr rfl)) (pss_cons (ps_set (i := 4) sc_l_cells.nd rfl (by first | exact Or.inl rfl | exact Or.inr rfl) (pe_fn G_l_pick (hr.mono (by decide)) pass0 (pa_cons (pv 0) (pa_cons (pe_lst (pa_cons pe_int (pa_cons pe_int (pa_cons pe_int (pa_cons pe_int pa_nil))))) pa_nil))))
      (pss_one (ps_expr (pe_bm PySem.F.plainAttrs_list PySem.F.slot_list_append PySem.F.type_list_append mt_append (pv 2) (pa_cons (pe_op op_add_str (pe_ix ix_str pe_str (pv 3) (fun _ _ => rfl)) (pe_join pe_str (pe_lc (own := [("_law_j", 5)]) rfl sc_l_cells.nd (pi_range1 (by rfl) T.n_range (pa_cons (pv 4) pa_nil)) (blkOk_by (own := [("_law_j", 5)]) (N := n_l_cells) (sc := defScope s_l_cells) (by decide +kernel)) (fun _ _ _ _ _ => (pg_name (i := 5) sc_l_cells.nd rfl (by first | exact Or.inl rfl | exact Or.inr rfl))) (fun _ _ _ _ _ => pts_nil) (fun _ _ _ _ _ => (pe_fn G_l_pick (hr.mono (by decide)) pass0 (pa_cons (pv 0) (pa_cons (pv 1) pa_nil))))))) pa_nil))))))
      (pss_one (ps_ret (pe_callB cr_sortedS (by rfl) T.n_sorted (by decide +kernel) (pa_cons (pv 2) pa_nil))))))), ?_⟩
    refine ⟨(by show 0 ≤ sizeLine; decide), fun fo nfo => ?_⟩
    refine nm_of ?_
    dsimp only
    have nfp : fo ≠ p := hp.ne nfo
    refine ⟨_, rfl, p, 5, rfl, hp.upd nfo, by decide, by decide, fun H1 d b1 hp1 d0 d1 => ⟨_, _, rfl, rfl, _, rfl, by omega, by omega, ?_⟩⟩
    obtain ⟨n, rfl⟩ := Int.eq_ofNat_of_zero_le d0
    have en : (1 + (n : Int)).toNat = n + 1 := by omega
    rw [en]
    have bb : But p H H1 := (But.of (same_upd nfo)).trans b1
    refine for_it (walk_range (lo := 0) (n := n + 1)) (fun i σ H' => But p H H' ∧ PotAt H' p ∧ (∃ cs : List Str, H' fo = some (.lst (cs.map V.str)) ∧ cs.length = i ∧ ∀ (j : Nat) c, cs[j]? = some c → CellOk c ∧ ∃ r, c = mkS r ∧ r.head? = heads.cps.toList[j]?) ∧
      ∃ u3 u4, σ = [some (.ref p), some (.str chs), some (.ref fo), u3, u4, none]) ⟨bb, hp1, ⟨[], b1 _ _ upd_same nfp, rfl, fun j c z => by simp at z⟩, none, none, rfl⟩ (fun _ _ _ _ _ => trivial) ?_ ?_
    · rintro i x σ H2 H2' hi ⟨b2, hp2, ⟨cs, hf2, lc, okc⟩, u3, u4, rfl⟩ ⟨rfl, rfl⟩
      dsimp only
      rw [Int.zero_add]
      refine ⟨_, rfl, (by show 4 ≤ sizeLine; decide), fun L nL => ⟨p, _, rfl, hp2.upd nL, .inl ⟨L, _, rfl, upd_same, by simp, by simp, hp2.ne nL, fun H3 v b3 hp3 hv => ?_⟩⟩⟩
      obtain ⟨m, rfl, hm⟩ : ∃ m : Nat, v = .int m ∧ m ≤ 31 := by
        simp only [List.mem_cons, List.mem_nil_iff, or_false] at hv
        rcases hv with rfl | rfl | rfl | rfl
        · exact ⟨0, rfl, by decide⟩
        · exact ⟨1, rfl, by decide⟩
        · exact ⟨3, rfl, by decide⟩
        · exact ⟨31, rfl, by decide⟩
      refine nm_of ?_
      dsimp only
      have b03 : But p H H3 := b2.trans ((But.of (same_upd nL)).trans b3)
      have hf3 : H3 fo = some (.lst (cs.map V.str)) := b3 _ _ (same_upd nL _ _ hf2) nfp
      have hi5 : i < heads.cps.toList.length := by
        have : heads.cps.toList.length = 5 := by decide +kernel
        omega
      refine ⟨_, rfl, .inl ⟨rfl, _, SqL.of hf3⟩, _, rfl, heads, _, heads.cps.toList[i], rfl, rfl, by decide +kernel, atI_nat (List.getElem?_eq_getElem hi5), ⟨_, rfl⟩, _, rfl, _, rfl, by omega, by omega, fun D hD => ?_⟩
      have nDp : D ≠ p := hp3.ne hD
      have nDf : D ≠ fo := fun z => by rw [z, hf3] at hD; cases hD
      rw [Int.toNat_natCast]
      refine lc_inv (walk_range (lo := 0) (n := m)) (fun j acc H' => But p H3 H' ∧ PotAt H' p ∧ ∃ r : List Nat, acc = sgV r ∧ r.length = j ∧ ∀ c ∈ r, c ∈ chs.cps.toList) (fun j acc H' xs z => ⟨own_but z.1 hD, z.2.1.but but_upd nDp.symm, z.2.2⟩) ⟨.refl, hp3, [], rfl, rfl, fun c hc => by cases hc⟩ ?_ (fun _ _ _ _ _ => trivial) ?_ ?_
      · rintro j acc H' hj ⟨_, _, r, rfl, e, _⟩
        rw [List.length_map, e]
        exact Nat.lt_of_lt_of_le (show _ < 100000 by omega) (small (Nat.le_refl _))
      · rintro j x acc H4 H5 hj ⟨b4, hp4, r, rfl, lr, okr⟩ hD4 ⟨rfl, rfl⟩ N S hN hS
        refine ⟨rfl, _, rfl, _, rfl, p, _, rfl, hp4, .inr ⟨_, rfl, by decide +kernel, by decide +kernel, fun H6 c b6 hp6 hc => ?_⟩⟩
        refine hN _ _ (b6 _ _ hD4 nDp) ⟨b4.trans b6, hp6, r ++ [c], by rw [sgV, sgV, List.map_append]; rfl, by rw [List.length_append, lr]; rfl, fun y hy => ?_⟩
        rcases List.mem_append.mp hy with z | z
        · exact okr y z
        · rw [List.mem_singleton.mp z]
          exact hc
      · rintro acc H4 hD4 ⟨b4, hp4, r, rfl, lr, okr⟩
        refine ⟨_, D, sgs r, rfl, rfl, .inl (sq_sg hD4), sz_sg (by omega), ?_⟩
        rw [join_sg]
        have l1 : ((⟨#[heads.cps.toList[i]]⟩ : Str)).length = 1 := rfl
        refine ⟨_, _, rfl, rfl, small (by rw [len_mk]; omega), ?_⟩
        have hf4 := b4 _ _ hf3 nfp
        refine ⟨fo, _, _, rfl, rfl, hf4, ?_, own_but (b03.trans b4) nfo, hp4.but but_upd nfp.symm, ⟨cs ++ [mkS (heads.cps.toList[i] :: r)], ?_, ?_, fun j c hj => ?_⟩, _, _, rfl⟩
        · rw [List.length_map]
          exact Nat.lt_of_lt_of_le (show _ < 100000 by omega) (small (Nat.le_refl _))
        · rw [upd_same, List.map_append, show (⟨#[heads.cps.toList[i]]⟩ : Str) = mkS [heads.cps.toList[i]] from rfl, mk_app]
          rfl
        · rw [List.length_append, lc]
          rfl
        · by_cases k : j < cs.length
          · rw [List.getElem?_append_left k] at hj
            exact okc j c hj
          · have ej : j = cs.length := by
              have := (List.getElem?_eq_some_iff.mp hj).1
              rw [List.length_append, List.length_singleton] at this
              omega
            subst ej
            rw [List.getElem?_append_right (Nat.le_refl _), Nat.sub_self] at hj
            cases hj
            refine ⟨⟨?_, ?_, fun y hy => ?_⟩, _, rfl, ?_⟩
            · rw [len_mk, List.length_cons]
              omega
            · rw [len_mk, List.length_cons]
              omega
            · have hy' : y ∈ heads.cps.toList[i] :: r := hy
              have all : ∀ c ∈ heads.cps.toList, c ∈ chs.cps.toList := by decide +kernel
              rcases List.mem_cons.mp hy' with z | z
              · rw [z]
                exact all _ (List.getElem_mem hi5)
              · exact okr y z
            · rw [List.head?_cons, lc, List.getElem?_eq_getElem hi5]
    · rintro σ H2 ⟨b2, hp2, ⟨cs, hf2, lc, okc⟩, u3, u4, rfl⟩
      have ndH : heads.cps.toList.Nodup := by decide +kernel
      have nd : cs.Nodup := by
        rw [List.Nodup, List.pairwise_iff_getElem]
        intro i j hi hj hij e
        obtain ⟨_, r, e1, h1⟩ := okc i _ (List.getElem?_eq_getElem hi)
        obtain ⟨_, r', e2, h2⟩ := okc j _ (List.getElem?_eq_getElem hj)
        have er : r = r' := by
          have : mkS r = mkS r' := by rw [← e1, ← e2, e]
          rw [← tls_mk r, this, tls_mk]
        rw [er, h2] at h1
        have l5 : heads.cps.toList.length = 5 := by decide +kernel
        have j5 : j < heads.cps.toList.length := by omega
        have i5 : i < heads.cps.toList.length := by omega
        rw [List.getElem?_eq_getElem j5, List.getElem?_eq_getElem i5] at h1
        exact List.pairwise_iff_getElem.mp ndH i j i5 j5 hij (Option.some.inj h1).symm
      refine ⟨_, rfl, fo, cs, rfl, SqL.of hf2, by omega, fun ys p' pm srt np => ?_⟩
      refine q _ p' ys (but_same b2 (same_upd np)) (hp2.upd np) (b2.free (hp2.ne np) np) (hp2.ne np) upd_same ⟨fun c hc => ?_, strict_of (srtS srt) (pm.nodup_iff.mpr nd), by rw [pm.length_eq]; omega⟩ (fun z => by
        have := pm.length_eq
        rw [z, List.length_nil] at this
        omega)
      obtain ⟨j, hj⟩ := List.getElem?_of_mem (pm.mem_iff.mp hc)
      exact (okc j c hj).1
/-! ### _law_some -/
end
end K71

set_option Elab.async false
set_option linter.all false
set_option maxRecDepth 100000
set_option maxHeartbeats 2000000
/-! L71c: the law's newest version. -/
namespace K71
open PySem PySem.Spec PyProof.Rows L2 LL ORD
abbrev s_l_newest : Stmt := top 33
abbrev n_l_newest : List Str := ["_law_history", "_law_end", "_law_cell", "_law_found", "_law_run", "_law_footprint"]
theorem sc_l_newest : FnScope n_l_newest ["_law_history", "_law_end", "_law_cell"] (defScope s_l_newest) := ⟨rfl, rfl, rfl, by decide +kernel, rfl, by decide +kernel, by decide +kernel⟩
section
variable {P : Program} {w : World} {K : PySem.W.Frag} {mg : Str → Option Value} {base : Heap} {CE CH CO CI CN CB CV CS CL CA : Addr} {f : Addr} {fd : FuncData}
def spNwl : Sp := fun vs H Q _ => ∃ (a : Addr) (us : List V) (h : Hs) (e : Nat) (c : Str), vs = [.ref a, .int (e : Nat), .str c] ∧ H a = some (.lst us) ∧ Fps H us h ∧ e ≤ h.length ∧ h.length ≤ 1000 ∧ ∀ H', Same H H' → Q (.int (oi (lw h e c))) H'
theorem ok_l_newest (T : Tx K mg CE CH CO) (F : FD K "_law_newest" "_law_newest" s_l_newest [] f fd) : FnG P w K mg base CX0 1 f fd ["_law_history", "_law_end", "_law_cell"] spNwl := by
  refine ok0 F sc_l_newest (fun vs H Q E h => ?_) (fun cdv A outer s H vs Q E hr h => ?_)
  · obtain ⟨a, us, h, e, c, rfl, _⟩ := h
    rfl
  · obtain ⟨a, us, h, e, c, rfl, hu, fps, le, l9, q⟩ := h
    refine ⟨_, (pss_cons (ps_set (i := 3) sc_l_newest.nd rfl (by first | exact Or.inl rfl | exact Or.inr rfl) (pe_un un_neg pe_int))
      (pss_cons (ps_for PassesOwn.never rfl (pi_enumA (by rfl) T.n_enumerate (pa_cons (pe_slice sl_list (pv 0) po_none (po_some (pv 1))) pa_nil)) (pg_tup rfl (pgs_cons (pg_name (i := 4) sc_l_newest.nd rfl (by first | exact Or.inl rfl | exact Or.inr rfl)) (pgs_cons (pg_name (i := 5) sc_l_newest.nd rfl (by first | exact Or.inl rfl | exact Or.inr rfl)) pgs_nil))) (pss_one (ps_if (pt_cmpR op_in_seq (pv 2) (pe_ix ix_tup (pv 5) pe_int (fun _ _ => rfl)) (by rfl)) (pss_one (ps_set (i := 3) sc_l_newest.nd rfl (by first | exact Or.inl rfl | exact Or.inr rfl) (pv 4))) pss_nil)))
      (pss_one (ps_ret (pv 3))))), ?_⟩
    have lu := fps.len
    refine ⟨1, rfl, _, rfl, _, rfl, _, rfl, a, _, rfl, SqL.of hu, fun c1 n1 => ?_⟩
    rw [cutV_to]
    obtain ⟨G1, e1, s1, k1⟩ := mkO n1 (.lst (us.take e))
    rw [e1]
    clear e1
    obtain ⟨k, hk⟩ := (show Lt G1 c1 _ from .inl k1).k (K := K)
    have hk1 : ∀ H', Same G1 H' → sqK k K H' c1 (us.take e) := fun H' s' => sqK_same hk s'
    have lt : (us.take e).length = e := by rw [List.length_take]; omega
    refine ⟨k, c1, us.take e, rfl, hk1 _ Same.rfl', ?_⟩
    refine for_it (walk_enumK (K := K) (k := k) (a := c1) (xs := us.take e)) (fun i σ H' => Same G1 H' ∧ ∃ u4 u5, σ = [some (.ref a), some (.int (e : Nat)), some (.str c), some (.int (oi (lw h i c))), u4, u5]) ⟨Same.rfl', none, none, rfl⟩ (fun i σ H' _ z => hk1 H' z.1) ?_ ?_
    · rintro i x σ H2 H3 hi ⟨s3, u4, u5, rfl⟩ ⟨t, y, z, rfl, nt, rfl, hy, hz⟩
      cases hy
      rw [lt] at hi
      have hz : (us.take e)[i]? = some z := hz
      rw [List.getElem?_take, if_pos hi] at hz
      have s4 := (s1.trans s3).trans (same_upd (o := .tup [.int (i : Nat), z]) nt)
      obtain ⟨tg, rg, xg, rfl, htg, hrd, hwr⟩ := (fps.at_ i z hz).same s4
      refine ⟨t, _, rfl, SqT.of upd_same, rfl, _, _, rfl, _, _, rfl, rfl, ?_⟩
      refine ⟨_, rfl, _, rfl, tg, _, _, _, rfl, rfl, SqT.of htg, atI_nat (j := 2) rfl, xg, _, rfl, .inr (SqT.of hwr), rfl, flatS _, _, rfl, ?_⟩
      show if inV (V.str c) (List.map V.str (fp h i).wr) = true then _ else _
      rw [inV_str]
      have ew : lw h (i + 1) c = if c ∈ wrs h i then some i else lw h i c := rfl
      by_cases m : c ∈ wrs h i
      · rw [if_pos m] at ew
        exact iteY (decide_eq_true m) ⟨_, rfl, s3.trans (same_upd nt), _, _, by rw [ew]; rfl⟩
      · rw [if_neg m] at ew
        exact iteN (decide_eq_false m) ⟨s3.trans (same_upd nt), _, _, by rw [ew]; rfl⟩
    · rintro σ H2 ⟨s3, u4, u5, rfl⟩
      rw [lt]
      exact ⟨_, rfl, q _ (s1.trans s3)⟩
end
end K71

set_option Elab.async false
set_option linter.all false
set_option maxRecDepth 100000
set_option maxHeartbeats 2000000
/-! L71d: an attempt and what the law keeps of it; written, read. -/
namespace K71
open PySem PySem.Spec PyProof.Rows L2 LL ORD
abbrev s_l_write_right : Stmt := top 35
abbrev n_l_write_right : List Str := ["_law_one", "_law_cell"]
theorem sc_l_write_right : FnScope n_l_write_right ["_law_one", "_law_cell"] (defScope s_l_write_right) := ⟨rfl, rfl, rfl, by decide +kernel, rfl, by decide +kernel, by decide +kernel⟩
abbrev s_l_read_right : Stmt := top 34
abbrev n_l_read_right : List Str := ["_law_history", "_law_one", "_law_cell", "_law_due"]
theorem sc_l_read_right : FnScope n_l_read_right ["_law_history", "_law_one", "_law_cell"] (defScope s_l_read_right) := ⟨rfl, rfl, rfl, by decide +kernel, rfl, by decide +kernel, by decide +kernel⟩
/-- an attempt, and the law's list, dict and list of it -/
structure Rec where
  one : Addr
  att : Addr
  dv : Addr
  dw : Addr
  ld : Addr
  ll : Addr
  lane : Nat
  pl : Nat
  D : List (Str × Int)
  W : List Str
  over : Bool
def Rec.as (r : Rec) : List Addr := [r.one, r.att, r.dv, r.dw, r.ld, r.ll]
structure RecAt (CA q : Addr) (H : Hp) (r : Rec) : Prop where
  one : H r.one = some (.lst [.ref r.att, .int (r.lane : Nat), .int (r.pl : Nat), .ref r.ld, .ref r.ll])
  att : AtAt CA H r.att q r.lane r.pl r.dv r.dw r.over
  dv : H r.dv = some (.dK (dV r.D))
  dw : H r.dw = some (.dK (wV r.W))
  ld : H r.ld = some (.dK (dV r.D))
  ll : H r.ll = some (.lst (r.W.map V.str))
  nd : r.as.Nodup
section
variable {P : Program} {w : World} {K : PySem.W.Frag} {mg : Str → Option Value} {base : Heap} {CE CH CO CI CN CB CV CS CL CA : Addr} {f : Addr} {fd : FuncData}
def spWrR (CA : Addr) : Sp := fun vs H Q _ => ∃ (q : Addr) (r : Rec) (z : Str), vs = [.ref r.one, .str z] ∧ RecAt CA q H r ∧ r.over = false ∧ CellOk z ∧ r.W.length ≤ 500 ∧ ∀ H', But2 r.dw r.ll H H' → H' r.dw = some (.dK (wV (putW r.W z))) → H' r.ll = some (.lst ((putW r.W z).map V.str)) → Q (.bl true) H'
theorem ok_l_write_right (T : Tx K mg CE CH CO) (S : Tz K mg CL CA) (M_write : Mth P w K mg base (L2.CX P w) 4 CA "write" [] (spWr K CA CV CI)) (F : FD K "_law_write_right" "_law_write_right" s_l_write_right [] f fd) : FnG P w K mg base CX0 5 f fd ["_law_one", "_law_cell"] (spWrR CA) := by
  refine ok0 F sc_l_write_right (fun vs H Q E h => ?_) (fun cdv A outer s H vs Q E hr h => ?_)
  · obtain ⟨q, r, z, rfl, _⟩ := h
    rfl
  · obtain ⟨q, r, z, rfl, ra, ov, ok, lW, Q1⟩ := h
    refine ⟨_, (pss_cons (ps_if (pt_cmpR op_notIn_seq (pv 1) (pe_ix ix_list (pv 0) pe_int (fun _ _ => rfl)) (by rfl)) (pss_one (ps_expr (pe_bm PySem.F.plainAttrs_list PySem.F.slot_list_append PySem.F.type_list_append mt_append (pe_ix ix_list (pv 0) pe_int (fun _ _ => rfl)) (pa_cons (pv 1) pa_nil)))) pss_nil)
      (pss_one (ps_ret (pe_cmpR op_isN (pe_mt M_write (hr.mono (by decide)) passF (pe_ix ix_list (pv 0) pe_int (fun _ _ => rfl)) (pa_cons (pv 1) pa_nil)) pe_non (nomark _))))), ?_⟩
    have nd := ra.nd
    simp only [Rec.as, List.nodup_cons, List.mem_cons, List.not_mem_nil, or_false, not_or, List.nodup_nil, and_true, not_false_eq_true] at nd
    obtain ⟨⟨n1, n2, n3, n4, n5⟩, ⟨n6, n7, n8, n9⟩, ⟨n10, n11, n12⟩, ⟨n13, n14⟩, n15⟩ := nd
    refine ⟨_, rfl, _, rfl, r.one, _, _, _, rfl, rfl, SqL.of ra.one, atI_nat (j := 4) rfl, r.ll, _, rfl, .inl (SqL.of ra.ll), rfl, flatS _, _, rfl, ?_⟩
    rw [inV_str]
    obtain ⟨dx, fs, hp, af⟩ := id ra.att
    have fin : ∀ G, But r.ll H G → G r.ll = some (.lst ((putW r.W z).map V.str)) → ∀ H', But r.dw G H' → H' r.dw = some (.dK (wV (putW r.W z))) → Q (.bl true) H' := fun G b h1 H' b' h2 => Q1 H' (fun c o e m1 m2 => b' _ _ (b _ _ e m2) m1) h2 (b' _ _ h1 (Ne.symm n14))
    by_cases m : z ∈ r.W
    · refine iteN (by rw [decide_eq_true m]; rfl) ?_
      have e : putW r.W z = r.W := by unfold putW; rw [if_pos m]
      refine ⟨_, rfl, r.one, _, _, _, rfl, rfl, SqL.of ra.one, atI_nat (j := 0) rfl, r.att, dx, fs, rfl, hp, af.no "write" (by decide +kernel) (by decide +kernel) (by decide +kernel) (by decide +kernel) (by decide +kernel) (by decide +kernel), _, rfl, r.att, q, r.dv, r.dw, r.lane, r.pl, r.over, .str z, r.W, rfl, ra.att, ra.dw, by omega, (fun hb => by rw [ov] at hb; cases hb), fun _ => .inl ⟨z, rfl, ok, fun H' b' h2 => ⟨rfl, ?_⟩⟩⟩
      rw [decide_eq_true rfl]
      exact fin H .refl (by rw [e]; exact ra.ll) H' b' h2
    · refine iteY (by rw [decide_eq_false m]; rfl) ?_
      have e : putW r.W z = r.W ++ [z] := by unfold putW; rw [if_neg m]
      refine ⟨_, rfl, r.one, _, _, _, rfl, rfl, SqL.of ra.one, atI_nat (j := 4) rfl, .inl ⟨rfl, _, SqL.of ra.ll⟩, _, rfl, r.ll, _, _, rfl, rfl, ra.ll, Nat.lt_of_lt_of_le (show _ < 100000 by rw [List.length_map]; omega) (small (Nat.le_refl _)), ?_⟩
      obtain ⟨G, eg⟩ : ∃ G, upd H r.ll (.lst (r.W.map V.str ++ [.str z])) = G := ⟨_, rfl⟩
      rw [eg]
      have b1 : But r.ll H G := eg ▸ but_upd
      have hl : G r.ll = some (.lst ((putW r.W z).map V.str)) := by rw [← eg, upd_same, e, List.map_append]; rfl
      clear eg
      refine ⟨_, rfl, r.one, _, _, _, rfl, rfl, SqL.of (b1 _ _ ra.one n5), atI_nat (j := 0) rfl, r.att, dx, fs, rfl, b1 _ _ hp n9, af.no "write" (by decide +kernel) (by decide +kernel) (by decide +kernel) (by decide +kernel) (by decide +kernel) (by decide +kernel), _, rfl, r.att, q, r.dv, r.dw, r.lane, r.pl, r.over, .str z, r.W, rfl, ⟨dx, fs, b1 _ _ hp n9, af⟩, b1 _ _ ra.dw n14, by omega, (fun hb => by rw [ov] at hb; cases hb), fun _ => .inl ⟨z, rfl, ok, fun H' b' h2 => ⟨rfl, ?_⟩⟩⟩
      rw [decide_eq_true rfl]
      exact fin G b1 hl H' b' h2
end
end K71

set_option Elab.async false
set_option linter.all false
set_option maxRecDepth 100000
set_option maxHeartbeats 2000000
/-! L71e: a cell read. -/
namespace K71
open PySem PySem.Spec PyProof.Rows L2 LL ORD
section
variable {P : Program} {w : World} {K : PySem.W.Frag} {mg : Str → Option Value} {base : Heap} {CE CH CO CI CN CB CV CS CL CA : Addr} {f : Addr} {fd : FuncData}
/-- the versions behind a read -/
def rdD (h : Hs) (r : Rec) (z : Str) : List (Str × Int) := if z ∈ r.W then r.D else putD r.D z (oi (lw h r.pl z))
def spRdR (CL CA : Addr) : Sp := fun vs H Q _ => ∃ (q hl da hL : Addr) (n k : Nat) (us us' : List V) (h : Hs) (r : Rec) (z : Str), vs = [.ref hL, .ref r.one, .str z] ∧ RecAt CA q H r ∧ r.over = false ∧ LgAt CL H q n hl da k ∧ H hl = some (.lst us) ∧ Fps H us h ∧ H hL = some (.lst us') ∧ Fps H us' h ∧ r.pl ≤ h.length ∧ h.length ≤ 1000 ∧ CellOk z ∧ r.D.length ≤ 500 ∧
  ∀ H', But2 r.dv r.ld H H' → H' r.dv = some (.dK (dV (rdD h r z))) → H' r.ld = some (.dK (dV (rdD h r z))) → Q (.bl true) H'
theorem ok_l_read_right (T : Tx K mg CE CH CO) (S : Tz K mg CL CA) (G_l_newest : Fnc P w K mg base CX0 1 "_law_newest" [] spNwl) (M_read : Mth P w K mg base (L2.CX P w) 4 CA "read" [] (spRd K CL CA CV CI)) (F : FD K "_law_read_right" "_law_read_right" s_l_read_right [] f fd) : FnG P w K mg base CX0 5 f fd ["_law_history", "_law_one", "_law_cell"] (spRdR CL CA) := by
  refine ok0 F sc_l_read_right (fun vs H Q E h => ?_) (fun cdv A outer s H vs Q E hr h => ?_)
  · obtain ⟨q, hl, da, hL, n, k, us, us', h, r, z, rfl, _⟩ := h
    rfl
  · obtain ⟨q, hl, da, hL, n, k, us, us', h, r, z, rfl, ra, ov, lg, hu, fps, hU, fpU, pl, l9, ok, lD, Q1⟩ := h
    refine ⟨_, (pss_cons (ps_set (i := 3) sc_l_read_right.nd rfl (by first | exact Or.inl rfl | exact Or.inr rfl) pe_non)
      (pss_cons (ps_if (pt_cmpR op_notIn_seq (pv 2) (pe_ix ix_list (pv 1) pe_int (fun _ _ => rfl)) (by rfl)) (pss_cons (ps_set (i := 3) sc_l_read_right.nd rfl (by first | exact Or.inl rfl | exact Or.inr rfl) (pe_fn G_l_newest (hr.mono (by decide)) pass0 (pa_cons (pv 0) (pa_cons (pe_ix ix_list (pv 1) pe_int (fun _ _ => rfl)) (pa_cons (pv 2) pa_nil)))))
      (pss_one (ps_dput (un1 hr.r.units) (pe_ix ix_list (pv 1) pe_int (fun _ _ => rfl)) (pv 2) (pv 3) rfl))) pss_nil)
      (pss_one (ps_ret (pe_cmpR op_eq (pe_mt M_read (hr.mono (by decide)) passF (pe_ix ix_list (pv 1) pe_int (fun _ _ => rfl)) (pa_cons (pv 2) pa_nil)) (pv 3) (nomark _)))))), ?_⟩
    have nd := ra.nd
    simp only [Rec.as, List.nodup_cons, List.mem_cons, List.not_mem_nil, or_false, not_or, List.nodup_nil, and_true, not_false_eq_true] at nd
    obtain ⟨⟨n1, n2, n3, n4, n5⟩, ⟨n6, n7, n8, n9⟩, ⟨n10, n11, n12⟩, ⟨n13, n14⟩, n15⟩ := nd
    obtain ⟨dx, fs, hp, af⟩ := id ra.att
    obtain ⟨dq, gs, hq, lf⟩ := id lg
    refine ⟨_, rfl, _, rfl, r.one, _, _, _, rfl, rfl, SqL.of ra.one, atI_nat (j := 4) rfl, r.ll, _, rfl, .inl (SqL.of ra.ll), rfl, flatS _, _, rfl, ?_⟩
    rw [inV_str]
    by_cases m : z ∈ r.W
    · refine iteN (by rw [decide_eq_true m]; rfl) ?_
      have e : rdD h r z = r.D := by unfold rdD; rw [if_pos m]
      refine ⟨_, rfl, r.one, _, _, _, rfl, rfl, SqL.of ra.one, atI_nat (j := 0) rfl, r.att, dx, fs, rfl, hp, af.no "read" (by decide +kernel) (by decide +kernel) (by decide +kernel) (by decide +kernel) (by decide +kernel) (by decide +kernel), _, rfl, r.att, q, r.dv, r.dw, hl, da, r.lane, r.pl, n, k, r.over, .str z, h, r.D, r.W, rfl, ra.att, lg, ⟨us, .inl hu, fps⟩, pl, by omega, ra.dv, by omega, ra.dw, (fun hb => by rw [ov] at hb; cases hb), fun _ => .inl ⟨z, rfl, ok, fun _ H' s' => ?_, fun nm => (nm m).elim⟩⟩
      refine ⟨_, rfl, rfl, ?_⟩
      rw [decide_eq_true rfl]
      exact Q1 H' (fun c o e _ _ => s' _ _ e) (by rw [e]; exact s' _ _ ra.dv) (by rw [e]; exact s' _ _ ra.ld)
    · refine iteY (by rw [decide_eq_false m]; rfl) ?_
      have e : rdD h r z = putD r.D z (oi (lw h r.pl z)) := by unfold rdD; rw [if_neg m]
      refine ⟨_, rfl, _, rfl, r.one, _, _, _, rfl, rfl, SqL.of ra.one, atI_nat (j := 2) rfl, _, rfl, hL, us', h, r.pl, z, rfl, hU, fpU, pl, l9, fun H1 s1 => ?_⟩
      refine ⟨_, rfl, _, rfl, r.one, _, _, _, rfl, rfl, SqL.of (s1 _ _ ra.one), atI_nat (j := 3) rfl, _, rfl, r.ld, _, rfl, DPut.k (k := Sum.inr z) (s1 _ _ ra.ld) (by unfold dV; rw [List.length_map]; exact Nat.lt_of_lt_of_le (show _ < 100000 by omega) (small (Nat.le_refl _))), ?_⟩
      rw [dV_put]
      obtain ⟨G, eg⟩ : ∃ G, upd H1 r.ld (.dK (dV (putD r.D z (oi (lw h r.pl z))))) = G := ⟨_, rfl⟩
      rw [eg]
      have b1 : But r.ld H G := fun c o e0 ne => by rw [← eg, upd_ne ne]; exact s1 _ _ e0
      have hd : G r.ld = some (.dK (dV (putD r.D z (oi (lw h r.pl z))))) := by rw [← eg, upd_same]
      clear eg
      have nop : ∀ {x : Addr} {o : HO}, H x = some o → (∀ kvs, o ≠ .dK kvs) → x ≠ r.ld := fun {x o} h1 h2 c => by
        rw [c, ra.ld] at h1
        exact h2 _ (Option.some.inj h1).symm
      have fps1 : Fps G us h := ⟨fps.len, fun i v e => by
        obtain ⟨t, rr, x, e0, z1, z2, z3⟩ := fps.at_ i v e
        exact ⟨t, rr, x, e0, b1 _ _ z1 (nop z1 (fun _ c => by cases c)), b1 _ _ z2 (nop z2 (fun _ c => by cases c)), b1 _ _ z3 (nop z3 (fun _ c => by cases c))⟩⟩
      have hp1 := b1 _ _ hp n8
      refine ⟨_, rfl, r.one, _, _, _, rfl, rfl, SqL.of (b1 _ _ ra.one n4), atI_nat (j := 0) rfl, r.att, dx, fs, rfl, hp1, af.no "read" (by decide +kernel) (by decide +kernel) (by decide +kernel) (by decide +kernel) (by decide +kernel) (by decide +kernel), _, rfl, r.att, q, r.dv, r.dw, hl, da, r.lane, r.pl, n, k, r.over, .str z, h, r.D, r.W, rfl, ⟨dx, fs, hp1, af⟩, ⟨dq, gs, b1 _ _ hq (nop hq (fun _ c => by cases c)), lf⟩, ⟨us, .inl (b1 _ _ hu (nop hu (fun _ c => by cases c))), fps1⟩, pl, by omega, b1 _ _ ra.dv n11, by omega, b1 _ _ ra.dw n13, (fun hb => by rw [ov] at hb; cases hb), fun _ => .inl ⟨z, rfl, ok, fun nw => (m nw).elim, fun _ H' b' h2 => ?_⟩⟩
      refine ⟨_, rfl, rfl, ?_⟩
      rw [decide_eq_true rfl]
      exact Q1 H' (fun c o e0 m1 m2 => b' _ _ (b1 _ _ e0 m2) m1) (by rw [e]; exact h2) (by rw [e]; exact b' _ _ hd (Ne.symm n11))
end
end K71

set_option Elab.async false
set_option linter.all false
set_option maxRecDepth 100000
set_option maxHeartbeats 2000000
/-! L71f: calls that raise. -/
namespace K71
open PySem PySem.Spec PyProof.Rows L2 LL ORD
abbrev s_l_called : Stmt := top 37
abbrev n_l_called : List Str := ["_law_attempt", "_law_way", "_law_cell"]
theorem sc_l_called : FnScope n_l_called ["_law_attempt", "_law_way", "_law_cell"] (defScope s_l_called) := ⟨rfl, rfl, rfl, by decide +kernel, rfl, by decide +kernel, by decide +kernel⟩
section
variable {P : Program} {w : World} {K : PySem.W.Frag} {mg : Str → Option Value} {base : Heap} {CE CH CO CI CN CB CV CS CL CA : Addr} {f : Addr} {fd : FuncData}
/-- a deed of an attempt that is over, or a cell that is none -/
def spCalled (K : PySem.W.Frag) (CL CA CV CI : Addr) : Sp := fun vs H Q E => ∃ (q hl da : Addr) (n k : Nat) (us : List V) (h : Hs) (r : Rec) (wy : Int) (v : V), vs = [.ref r.att, .int wy, v] ∧ RecAt CA q H r ∧ LgAt CL H q n hl da k ∧ q ≠ r.att ∧ H hl = some (.lst us) ∧ Fps H us h ∧ r.pl ≤ h.length ∧ h.length ≤ 1000 ∧ r.D.length < 64 ∧ (∀ c ∈ r.D.map (·.1), CellOk c) ∧ r.W.length < 64 ∧
  ((r.over = true ∧ E (.ref CV) none H) ∨ (r.over = false ∧ (wy = 0 ∨ wy = 1) ∧ CellV K H v false ∧ ErF CI "value" H v E))
theorem ok_l_called (T : Tx K mg CE CH CO) (S : Tz K mg CL CA) (M_read : Mth P w K mg base (L2.CX P w) 4 CA "read" [] (spRd K CL CA CV CI)) (M_write : Mth P w K mg base (L2.CX P w) 4 CA "write" [] (spWr K CA CV CI)) (M_end : Mth P w K mg base (L2.CX P w) 5 CA "end" [] (spEnd CL CA CV CS)) (M_drop : Mth P w K mg base (L2.CX P w) 3 CA "drop" [] (spDrop CA CV)) (F : FD K "_law_called" "_law_called" s_l_called [] f fd) : FnG P w K mg base (L2.CX P w) 6 f fd ["_law_attempt", "_law_way", "_law_cell"] (spCalled K CL CA CV CI) := by
  refine okX F sc_l_called (fun vs H Q E h => ?_) (fun cdv A outer s H vs Q E hr h => ?_)
  · obtain ⟨q, hl, da, n, k, us, h, r, wy, v, rfl, _⟩ := h
    rfl
  · obtain ⟨q, hl, da, n, k, us, h, r, wy, v, rfl, ra, lg, nq, hu, fps, pl, l9, lD, okD, lW, e⟩ := h
    refine ⟨_, (pss_cons (ps_if (pt_cmpR op_eq (pv 1) pe_int (nomark _)) (pss_one (ps_ret (pe_mt M_read (hr.mono (by decide)) (passes_call (takes_of rfl rfl rfl rfl) (fun _ _ _ _ h => h)) (pv 0) (pa_cons (pv 2) pa_nil)))) pss_nil)
      (pss_cons (ps_if (pt_cmpR op_eq (pv 1) pe_int (nomark _)) (pss_one (ps_ret (pe_mt M_write (hr.mono (by decide)) (passes_call (takes_of rfl rfl rfl rfl) (fun _ _ _ _ h => h)) (pv 0) (pa_cons (pv 2) pa_nil)))) pss_nil)
      (pss_one (ps_ret (pe_ifExp (pt_cmpR op_eq (pv 1) pe_int (nomark _)) (pe_mt0 M_end (hr.mono (by decide)) (passes_call (takes_of rfl rfl rfl rfl) (fun _ _ _ _ h => h)) (pv 0)) (pe_mt0 M_drop (hr.mono (by decide)) (passes_call (takes_of rfl rfl rfl rfl) (fun _ _ _ _ h => h)) (pv 0))))))), ?_⟩
    obtain ⟨dx, fs, hp, af⟩ := id ra.att
    have o1 : r.over = true → E (.ref CV) none H := fun ho => by
      rcases e with ⟨_, e⟩ | ⟨h0, _⟩
      · exact e
      · rw [ho] at h0; cases h0
    have o2 : r.over = false → (wy = 0 ∨ wy = 1) ∧ CellV K H v false ∧ ErF CI "value" H v E := fun ho => by
      rcases e with ⟨h0, _⟩ | ⟨_, e⟩
      · rw [ho] at h0; cases h0
      · exact e
    refine ⟨_, rfl, rfl, _, rfl, ?_⟩
    by_cases w0 : wy = 0
    · refine iteY (dec_eq w0) ?_
      exact ⟨_, rfl, r.att, dx, fs, rfl, hp, af.no "read" (by decide +kernel) (by decide +kernel) (by decide +kernel) (by decide +kernel) (by decide +kernel) (by decide +kernel), _, rfl, r.att, q, r.dv, r.dw, hl, da, r.lane, r.pl, n, k, r.over, v, h, r.D, r.W, rfl, ra.att, lg, ⟨us, .inl hu, fps⟩, pl, by omega, ra.dv, by omega, ra.dw, o1, fun ho => .inr (o2 ho).2⟩
    refine iteN (dec_ne w0) ⟨_, rfl, rfl, _, rfl, ?_⟩
    by_cases w1 : wy = 1
    · refine iteY (dec_eq w1) ?_
      exact ⟨_, rfl, r.att, dx, fs, rfl, hp, af.no "write" (by decide +kernel) (by decide +kernel) (by decide +kernel) (by decide +kernel) (by decide +kernel) (by decide +kernel), _, rfl, r.att, q, r.dv, r.dw, r.lane, r.pl, r.over, v, r.W, rfl, ra.att, ra.dw, by omega, o1, fun ho => .inr (o2 ho).2⟩
    have nf : r.over = false → False := fun ho => by
      rcases (o2 ho).1 with z | z
      · exact w0 z
      · exact w1 z
    refine iteN (dec_ne w1) ⟨_, rfl, rfl, _, rfl, ?_⟩
    by_cases w2 : wy = 2
    · refine iteY (dec_eq w2) ?_
      exact ⟨_, rfl, r.att, dx, fs, rfl, hp, af.no "end" (by decide +kernel) (by decide +kernel) (by decide +kernel) (by decide +kernel) (by decide +kernel) (by decide +kernel), r.att, q, r.dv, r.dw, hl, da, r.lane, r.pl, n, k, r.over, us, h, r.D, r.W, rfl, ra.att, lg, nq, hu, fps, l9, ra.dv, lD, okD, ra.dw, lW, o1, fun ho => (nf ho).elim, fun ho => (nf ho).elim⟩
    · refine iteN (dec_ne w2) ?_
      exact ⟨_, rfl, r.att, dx, fs, rfl, hp, af.no "drop" (by decide +kernel) (by decide +kernel) (by decide +kernel) (by decide +kernel) (by decide +kernel) (by decide +kernel), r.att, q, r.dv, r.dw, r.lane, r.pl, r.over, rfl, ra.att, fun ho => (nf ho).elim, o1⟩
end
end K71

set_option Elab.async false
set_option linter.all false
set_option maxRecDepth 100000
set_option maxHeartbeats 4000000
/-! L71g: what a call tells, errors too. -/
namespace K71
open PySem PySem.Spec PyProof.Rows L2 LL ORD
abbrev s_l_told : Stmt := top 32
abbrev n_l_told : List Str := ["_law_call", "_law_found", "e"]
theorem sc_l_told : FnScope n_l_told ["_law_call"] (defScope s_l_told) := ⟨rfl, rfl, rfl, by decide +kernel, rfl, by decide +kernel, by decide +kernel⟩
structure Tw (K : PySem.W.Frag) (mg : Str → Option Value) (CE CO CI CN CB CV CS : Addr) : Prop where
  n_LookupError : mg "LookupError" = none
  n_RuntimeError : mg "RuntimeError" = none
  n_ValueError : mg "ValueError" = none
  kIE : PySem.W.kitOne K (.ref CI) (.ref CE) = some true
  kIV : PySem.W.kitOne K (.ref CI) (.type "ValueError") = some true
  kNL : PySem.W.kitOne K (.ref CN) (.type "LookupError") = some true
  kBR : PySem.W.kitOne K (.ref CB) (.type "RuntimeError") = some true
  kVR : PySem.W.kitOne K (.ref CV) (.type "RuntimeError") = some true
  kSR : PySem.W.kitOne K (.ref CS) (.type "RuntimeError") = some true
  xII : PySem.W.exmOne K (.ref CI) (.ref CI) = some true
  xOI : PySem.W.exmOne K (.ref CO) (.ref CI) = some false
  xNI : PySem.W.exmOne K (.ref CN) (.ref CI) = some false
  xNO : PySem.W.exmOne K (.ref CN) (.ref CO) = some false
  xNN : PySem.W.exmOne K (.ref CN) (.ref CN) = some true
  xBI : PySem.W.exmOne K (.ref CB) (.ref CI) = some false
  xBO : PySem.W.exmOne K (.ref CB) (.ref CO) = some false
  xBN : PySem.W.exmOne K (.ref CB) (.ref CN) = some false
  xBB : PySem.W.exmOne K (.ref CB) (.ref CB) = some true
  xVI : PySem.W.exmOne K (.ref CV) (.ref CI) = some false
  xVO : PySem.W.exmOne K (.ref CV) (.ref CO) = some false
  xVN : PySem.W.exmOne K (.ref CV) (.ref CN) = some false
  xVB : PySem.W.exmOne K (.ref CV) (.ref CB) = some false
  xVV : PySem.W.exmOne K (.ref CV) (.ref CV) = some true
  xSI : PySem.W.exmOne K (.ref CS) (.ref CI) = some false
  xSO : PySem.W.exmOne K (.ref CS) (.ref CO) = some false
  xSN : PySem.W.exmOne K (.ref CS) (.ref CN) = some false
  xSB : PySem.W.exmOne K (.ref CS) (.ref CB) = some false
  xSV : PySem.W.exmOne K (.ref CS) (.ref CV) = some false
  xSS : PySem.W.exmOne K (.ref CS) (.ref CS) = some true
section
variable {P : Program} {w : World} {K : PySem.W.Frag} {mg : Str → Option Value} {base : Heap} {CE CH CO CI CN CB CV CS CL CA : Addr} {f : Addr} {fd : FuncData}
/-- what is told of an error: by its class and value -/
def Ech (K : PySem.W.Frag) (CO CI CN CB CV CS : Addr) (Q : VK) : XK := fun cls d G => (∃ v dd dv x, d = some dd ∧ G dd = some (.xd [(x, v)]) ∧ Dq K G v dv ∧
  ((cls = .ref CI ∧ x = "value" ∧ ∀ t, G t = none → Q (.ref t) (upd G t (.tup [.str "cell", .str dv.shown, .bl true]))) ∨ (cls = .ref CO ∧ x = "value" ∧ ∀ t, G t = none → Q (.ref t) (upd G t (.tup [.str "count", .str dv.shown, .bl true]))) ∨
   (cls = .ref CN ∧ x = "value" ∧ ∀ t, G t = none → Q (.ref t) (upd G t (.tup [.str "lane", .str dv.shown, .bl true]))) ∨ (cls = .ref CB ∧ x = "lane_number" ∧ ∀ t, G t = none → Q (.ref t) (upd G t (.tup [.str "busy", .str dv.shown, .bl true]))) ∨
   (cls = .ref CS ∧ x = "cell" ∧ ∀ t, G t = none → Q (.ref t) (upd G t (.tup [.str "stale", .str dv.shown, .bl true]))))) ∨
  (cls = .ref CV ∧ d = none ∧ ∀ t, G t = none → Q (.ref t) (upd G t (.tup [.str "over", .str "", .bl true])))
def TTr (K : PySem.W.Frag) (CO CI CN CB CV CS : Addr) : (XK → Hp → VK → Prop) → Hp → VK → Prop := fun tl H Q => ∀ R : VK, (∀ v G, (∀ t, G t = none → Q (.ref t) (upd G t (.tup [.str "told", v]))) → R v G) → ∀ t0, H t0 = none → tl (Ech K CO CI CN CB CV CS Q) (upd H t0 (.tup [.str "told", .non])) R
theorem tk_told {k : Nat} (T : Tx K mg CE CH CO) (S : Tw K mg CE CO CI CN CB CV CS) (XI : Xcl P w K mg base 1 "InvalidCell" CI "value") (XO : Xcl P w K mg base 1 "InvalidCount" CO "value") (XN : XclB P w K mg base 1 "UnknownLane" CN ["value"]) (XB : XclB P w K mg base 1 "LaneBusy" CB ["lane_number"]) (XV : XclO K mg "AttemptOver" CV) (EV : ExcC K CV) (XS : XclB P w K mg base 1 "Stale" CS ["cell"])
    (F : FD K "_law_told" "_law_told" s_l_told [] f fd) (hm : mg "_law_told" = some (.ref f)) (B : Binds K fd ["_law_call"] []) :
    Taker P w K mg base k "_law_told" "_law_call" (TTr K CO CI CN CB CV CS) := by
  refine ⟨f, fd, _, _, _, n_l_told, hm, F, sc_l_told, rfl, .inl rfl, B, ?_⟩
  rintro X cdg q rfl rfl rfl rfl rfl g c' s H Q tl hr act hc h
  have gd : (X.A.deeper (envOfC "_law_told" (defScope s_l_told) s.heap.objs.size f cdg)).guards = some [] := hr.g
  have un := hr.r.units
  refine ⟨_, pss_cons (ps_set (i := 1) sc_l_told.nd rfl (.inl rfl) (pe_tup (pa_cons pe_str (pa_cons pe_non pa_nil))))
    (pss_cons (ps_tryRow (i := 2) (n := "e") (Wo := fun _ _ _ _ => False) (tb := fun W D σ H => ∃ Ec : XK, (tAsg (tTup (tCons (tC (.str "told")) (tCons (fun τ G Q => τ[0]? = some (some (.ref g)) ∧ G c' = some (LamX.CodeO c' q) ∧ (∀ cls d G', Ec cls d G' → W cls d τ G') ∧ tl Ec G Q) tNil))) (gName 1)) D σ H)
        rfl rfl sc_l_told.nd rfl rfl LamX.takes0 (fun W pn xe tk _ => ⟨fun pins s' σ H' D I z => ?_⟩)
      (.cons (c := .ref CI) ⟨by rfl, by decide, .inl XI.mx⟩ (fun e oe cls d pn hz hf => pss_one (ps_set (i := 1) sc_l_told.nd rfl (.inl rfl) (pe_tup (pa_cons pe_str (pa_cons (pe_callB (call_reprV (K := X.K) (by rfl) gd un) (by rfl) T.n_repr (by decide +kernel) (pa_cons (pe_xf XI.xf XI.nf hz hf (pv 2)) pa_nil))
          (pa_cons (pe_and (pe_callB (call_isD XI.ec hz hf) (by rfl) T.n_isinstance (by decide +kernel) (pa_cons (pv 2) (pa_cons (pe_glob (v := .ref CE) (by rfl) T.g_LeastlogError rfl) pa_nil))) (pe_one (pe_callB (call_isD XI.ec hz hf) (by rfl) T.n_isinstance (by decide +kernel) (pa_cons (pv 2) (pa_cons (pe_bltn (v := .ty "ValueError") (by rfl) S.n_ValueError (by decide +kernel) rfl) pa_nil))))) pa_nil))))))
      (.cons (c := .ref CO) ⟨by rfl, by decide, .inl XO.mx⟩ (fun e oe cls d pn hz hf => pss_one (ps_set (i := 1) sc_l_told.nd rfl (.inl rfl) (pe_tup (pa_cons pe_str (pa_cons (pe_callB (call_reprV (K := X.K) (by rfl) gd un) (by rfl) T.n_repr (by decide +kernel) (pa_cons (pe_xf XO.xf XO.nf hz hf (pv 2)) pa_nil))
          (pa_cons (pe_callB (call_isD XO.ec hz hf) (by rfl) T.n_isinstance (by decide +kernel) (pa_cons (pv 2) (pa_cons (pe_glob (v := .ref CE) (by rfl) T.g_LeastlogError rfl) pa_nil))) pa_nil))))))
      (.cons (c := .ref CN) ⟨by rfl, by decide, .inl XN.mx⟩ (fun e oe cls d pn hz hf => pss_one (ps_set (i := 1) sc_l_told.nd rfl (.inl rfl) (pe_tup (pa_cons pe_str (pa_cons (pe_callB (call_reprV (K := X.K) (by rfl) gd un) (by rfl) T.n_repr (by decide +kernel) (pa_cons (pe_xf XN.xf (XN.nf "value" (by simp)) hz hf (pv 2)) pa_nil))
          (pa_cons (pe_callB (call_isD XN.ec hz hf) (by rfl) T.n_isinstance (by decide +kernel) (pa_cons (pv 2) (pa_cons (pe_bltn (v := .ty "LookupError") (by rfl) S.n_LookupError (by decide +kernel) rfl) pa_nil))) pa_nil))))))
      (.cons (c := .ref CB) ⟨by rfl, by decide, .inl XB.mx⟩ (fun e oe cls d pn hz hf => pss_one (ps_set (i := 1) sc_l_told.nd rfl (.inl rfl) (pe_tup (pa_cons pe_str (pa_cons (pe_callB (call_reprV (K := X.K) (by rfl) gd un) (by rfl) T.n_repr (by decide +kernel) (pa_cons (pe_xf XB.xf (XB.nf "lane_number" (by simp)) hz hf (pv 2)) pa_nil))
          (pa_cons (pe_callB (call_isD XB.ec hz hf) (by rfl) T.n_isinstance (by decide +kernel) (pa_cons (pv 2) (pa_cons (pe_bltn (v := .ty "RuntimeError") (by rfl) S.n_RuntimeError (by decide +kernel) rfl) pa_nil))) pa_nil))))))
      (.cons (c := .ref CV) ⟨by rfl, by decide, .inl XV.mx⟩ (fun e oe cls d pn hz hf => pss_one (ps_set (i := 1) sc_l_told.nd rfl (.inl rfl) (pe_tup (pa_cons pe_str (pa_cons pe_str
          (pa_cons (pe_callB (call_isE EV hz hf) (by rfl) T.n_isinstance (by decide +kernel) (pa_cons (pv 2) (pa_cons (pe_bltn (v := .ty "RuntimeError") (by rfl) S.n_RuntimeError (by decide +kernel) rfl) pa_nil))) pa_nil))))))
      (.cons (c := .ref CS) ⟨by rfl, by decide, .inl XS.mx⟩ (fun e oe cls d pn hz hf => pss_one (ps_set (i := 1) sc_l_told.nd rfl (.inl rfl) (pe_tup (pa_cons pe_str (pa_cons (pe_callB (call_reprV (K := X.K) (by rfl) gd un) (by rfl) T.n_repr (by decide +kernel) (pa_cons (pe_xf XS.xf (XS.nf "cell" (by simp)) hz hf (pv 2)) pa_nil))
          (pa_cons (pe_callB (call_isD XS.ec hz hf) (by rfl) T.n_isinstance (by decide +kernel) (pa_cons (pv 2) (pa_cons (pe_bltn (v := .ty "RuntimeError") (by rfl) S.n_RuntimeError (by decide +kernel) rfl) pa_nil))) pa_nil)))))) .nil)))))))
    (pss_one (ps_ret (pv 1)))), ?_⟩
  · obtain ⟨Ec, z⟩ := z
    exact (pss_one (ps_set (i := 1) sc_l_told.nd rfl (.inl rfl) (pe_tup (pa_cons pe_str (pa_cons (act W pn xe Ec _ _ tk) pa_nil))))).run pins s' σ H' D I z
  · refine ⟨(by show 2 ≤ sizeLine; decide), fun t0 n0 => ⟨Ech X.K CO CI CN CB CV CS Q, rfl, same_upd n0 _ _ hc, fun cls d G' z => ?_, ?_⟩⟩
    · rcases z with ⟨v, dd, dv, x, rfl, hd, dq, h⟩ | ⟨rfl, rfl, q⟩
      · rcases h with ⟨rfl, rfl, q⟩ | ⟨rfl, rfl, q⟩ | ⟨rfl, rfl, q⟩ | ⟨rfl, rfl, q⟩ | ⟨rfl, rfl, q⟩
        · exact ⟨true, S.xII, fun _ e he => ⟨_, rfl, rfl, rfl, dd, _, v, rfl, hd, look_f _ v, v, dv, rfl, dq, _, rfl, _, _, _, dd, _, rfl, (fun u r => r), rfl, rfl, hd, S.kIE, _, rfl, iteT ⟨_, rfl, _, _, _, dd, _, rfl, (fun u r => r), rfl, rfl, hd, S.kIV, (by show 3 ≤ sizeLine; decide), fun t ht => ⟨_, rfl, q t ht⟩⟩⟩, fun z => nomatch z⟩
        · exact ⟨false, S.xOI, (fun z => nomatch z), fun _ => ⟨true, T.xOO, fun _ e he => ⟨_, rfl, rfl, rfl, dd, _, v, rfl, hd, look_f _ v, v, dv, rfl, dq, _, rfl, _, _, _, dd, _, rfl, (fun u r => r), rfl, rfl, hd, T.kOE, (by show 3 ≤ sizeLine; decide), fun t ht => ⟨_, rfl, q t ht⟩⟩, fun z => nomatch z⟩⟩
        · exact ⟨false, S.xNI, (fun z => nomatch z), fun _ => ⟨false, S.xNO, (fun z => nomatch z), fun _ => ⟨true, S.xNN, fun _ e he => ⟨_, rfl, rfl, rfl, dd, _, v, rfl, hd, look_f _ v, v, dv, rfl, dq, _, rfl, _, _, _, dd, _, rfl, (fun u r => r), rfl, rfl, hd, S.kNL, (by show 3 ≤ sizeLine; decide), fun t ht => ⟨_, rfl, q t ht⟩⟩, fun z => nomatch z⟩⟩⟩
        · exact ⟨false, S.xBI, (fun z => nomatch z), fun _ => ⟨false, S.xBO, (fun z => nomatch z), fun _ => ⟨false, S.xBN, (fun z => nomatch z), fun _ => ⟨true, S.xBB, fun _ e he => ⟨_, rfl, rfl, rfl, dd, _, v, rfl, hd, look_f _ v, v, dv, rfl, dq, _, rfl, _, _, _, dd, _, rfl, (fun u r => r), rfl, rfl, hd, S.kBR, (by show 3 ≤ sizeLine; decide), fun t ht => ⟨_, rfl, q t ht⟩⟩, fun z => nomatch z⟩⟩⟩⟩
        · exact ⟨false, S.xSI, (fun z => nomatch z), fun _ => ⟨false, S.xSO, (fun z => nomatch z), fun _ => ⟨false, S.xSN, (fun z => nomatch z), fun _ => ⟨false, S.xSB, (fun z => nomatch z), fun _ => ⟨false, S.xSV, (fun z => nomatch z), fun _ => ⟨true, S.xSS, fun _ e he => ⟨_, rfl, rfl, rfl, dd, _, v, rfl, hd, look_f _ v, v, dv, rfl, dq, _, rfl, _, _, _, dd, _, rfl, (fun u r => r), rfl, rfl, hd, S.kSR, (by show 3 ≤ sizeLine; decide), fun t ht => ⟨_, rfl, q t ht⟩⟩, fun z => nomatch z⟩⟩⟩⟩⟩⟩
      · exact ⟨false, S.xVI, (fun z => nomatch z), fun _ => ⟨false, S.xVO, (fun z => nomatch z), fun _ => ⟨false, S.xVN, (fun z => nomatch z), fun _ => ⟨false, S.xVB, (fun z => nomatch z), fun _ => ⟨true, S.xVV, fun _ e he => ⟨_, rfl, _, _, _, rfl, (fun u r => r), rfl, rfl, S.kVR, (by show 3 ≤ sizeLine; decide), fun t ht => ⟨_, rfl, q t ht⟩⟩, fun z => nomatch z⟩⟩⟩⟩⟩
    · exact h _ (fun v G z => ⟨(by show 2 ≤ sizeLine; decide), fun t ht => ⟨_, rfl, z t ht⟩⟩) t0 n0
/-! ### errors as they are told -/
/-- the tuple that tells an error -/
abbrev trp (k s : Str) : HO := .tup [.str k, .str s, .bl true]
theorem er_told {C : Addr} {x k : Str} {H : Hp} {v : V} {d : PyData} {Q : VK} (td : Tld K H v d) (h : C = CI ∧ x = "value" ∧ k = "cell" ∨ C = CO ∧ x = "value" ∧ k = "count" ∨ C = CN ∧ x = "value" ∧ k = "lane" ∨ C = CB ∧ x = "lane_number" ∧ k = "busy" ∨ C = CS ∧ x = "cell" ∧ k = "stale")
    (q : ∀ G t, Same H G → H t = none → G t = some (trp k d.shown) → Q (.ref t) G) : ErF C x H v (Ech K CO CI CN CB CV CS Q) := fun G dd s nd e => by
  have q' : ∀ t, G t = none → Q (.ref t) (upd G t (trp k d.shown)) := fun t nt => q _ t (s.trans (same_upd nt)) (s.free nt) upd_same
  refine .inl ⟨v, dd, d, x, rfl, e, td.2 _ (.of s), ?_⟩
  rcases h with ⟨rfl, rfl, rfl⟩ | ⟨rfl, rfl, rfl⟩ | ⟨rfl, rfl, rfl⟩ | ⟨rfl, rfl, rfl⟩ | ⟨rfl, rfl, rfl⟩
  · exact .inl ⟨rfl, rfl, q'⟩
  · exact .inr (.inl ⟨rfl, rfl, q'⟩)
  · exact .inr (.inr (.inl ⟨rfl, rfl, q'⟩))
  · exact .inr (.inr (.inr (.inl ⟨rfl, rfl, q'⟩)))
  · exact .inr (.inr (.inr (.inr ⟨rfl, rfl, q'⟩)))
theorem over_told {H : Hp} {Q : VK} (q : ∀ G t, Same H G → H t = none → G t = some (trp "over" "") → Q (.ref t) G) : Ech K CO CI CN CB CV CS Q (.ref CV) none H :=
  .inr ⟨rfl, rfl, fun t nt => q _ t (same_upd nt) nt upd_same⟩
end
end K71

set_option Elab.async false
set_option linter.all false
set_option maxRecDepth 100000
set_option maxHeartbeats 4000000
/-! L71h: the ledger, the attempts and what the law keeps of them, in the heap. -/
namespace K71
open PySem PySem.Spec PyProof.Rows L2 LL ORD
theorem nd_len {α : Type} [DecidableEq α] : ∀ {l m : List α}, l.Nodup → (∀ x ∈ l, x ∈ m) → l.length ≤ m.length
  | [], _, _, _ => Nat.zero_le _
  | a :: l, m, h, s => by
    obtain ⟨h1, h2⟩ := List.nodup_cons.mp h
    have ha := s a (List.mem_cons_self ..)
    have := nd_len (m := m.erase a) h2 fun x hx => (List.mem_erase_of_ne fun e => h1 (by rw [← e]; exact hx)).mpr (s x (List.mem_cons_of_mem _ hx))
    rw [List.length_erase_of_mem ha] at this
    have := List.length_pos_of_mem ha
    rw [List.length_cons]
    omega
/-- all but what stands at S, and the tables of code, stays -/
def Bs (S : List Addr) (H H' : Hp) : Prop := ∀ b o, H b = some o → b ∉ S → (∀ ps, o ≠ .tbl ps) → H' b = some o
theorem Bs.refl {S : List Addr} {H : Hp} : Bs S H H := fun _ _ e _ _ => e
theorem Bs.trans {S : List Addr} {H H1 H2 : Hp} (a : Bs S H H1) (b : Bs S H1 H2) : Bs S H H2 := fun c o e n t => b c o (a c o e n t) n t
theorem Bs.mono {S T : List Addr} {H H1 : Hp} (a : Bs S H H1) (h : ∀ x ∈ S, x ∈ T) : Bs T H H1 := fun c o e n t => a c o e (fun m => n (h c m)) t
theorem Bs.same {S : List Addr} {H H1 : Hp} (s : Same H H1) : Bs S H H1 := fun c o e _ _ => s _ _ e
theorem Bs.ext {S : List Addr} {H H1 : Hp} (s : LamX.ExtN H H1) : Bs S H H1 := fun c o e _ t => s _ _ e t
theorem Bs.but {p : Addr} {S : List Addr} {H H1 : Hp} (s : But p H H1) (m : p ∈ S) : Bs S H H1 := fun c o e n _ => s _ _ e fun z => n (z ▸ m)
theorem Bs.but2 {p q : Addr} {S : List Addr} {H H1 : Hp} (s : But2 p q H H1) (m : p ∈ S) (m' : q ∈ S) : Bs S H H1 := fun c o e n _ => s _ _ e (fun z => n (z ▸ m)) (fun z => n (z ▸ m'))
theorem Bs.upd {S : List Addr} {H H1 : Hp} {p : Addr} {o : HO} (s : Bs S H H1) (m : p ∈ S) : Bs S H (upd H1 p o) := s.trans (.but but_upd m)
/-- what is new beside it -/
theorem Bs.free {S : List Addr} {H H1 : Hp} {p : Addr} (s : Bs (p :: S) H H1) (n : H p = none) : Bs S H H1 := fun c o e h t => s c o e (fun z => (List.mem_cons.mp z).elim (fun z => by rw [z, n] at e; cases e) h) t
/-- lists, dicts, instances -/
def Soft (o : HO) : Prop := (∃ xs, o = .lst xs) ∨ (∃ d, o = .dK d) ∨ ∃ c dx fs, o = .ins c dx fs
def SoftAt (S : List Addr) (H : Hp) : Prop := ∀ b ∈ S, ∃ o, H b = some o ∧ Soft o
theorem SoftAt.tup {S : List Addr} {H : Hp} (h : SoftAt S H) {b : Addr} {xs : List V} (e : H b = some (.tup xs)) : b ∉ S := fun m => by
  obtain ⟨o, e', z⟩ := h b m
  rw [e] at e'
  cases e'
  rcases z with ⟨_, z⟩ | ⟨_, z⟩ | ⟨_, _, _, z⟩ <;> cases z
theorem SoftAt.nil {H : Hp} : SoftAt [] H := fun _ m => by cases m
theorem SoftAt.cons {S : List Addr} {H : Hp} {a : Addr} {o : HO} (e : H a = some o) (s : Soft o) (h : SoftAt S H) : SoftAt (a :: S) H := fun b m => by
  rcases List.mem_cons.mp m with rfl | m
  · exact ⟨o, e, s⟩
  · exact h b m
theorem SoftAt.app {S T : List Addr} {H : Hp} (h : SoftAt S H) (g : SoftAt T H) : SoftAt (S ++ T) H := fun b m => (List.mem_append.mp m).elim (h b) (g b)
theorem Soft.l {xs : List V} : Soft (.lst xs) := .inl ⟨_, rfl⟩
theorem Soft.d {d : List (Key × V)} : Soft (.dK d) := .inr (.inl ⟨_, rfl⟩)
theorem Soft.i {c : Addr} {dx : Addr} {fs : List (Str × V)} : Soft (.ins c dx fs) := .inr (.inr ⟨_, _, _, rfl⟩)
theorem FpAt.bs {S : List Addr} {H H' : Hp} {v : V} {g : Fp} (h : FpAt H v g) (b : Bs S H H') (s : SoftAt S H) : FpAt H' v g := by
  obtain ⟨t, r, x, e, h1, h2, h3⟩ := h
  exact ⟨t, r, x, e, b _ _ h1 (s.tup h1) (fun _ z => by cases z), b _ _ h2 (s.tup h2) (fun _ z => by cases z), b _ _ h3 (s.tup h3) (fun _ z => by cases z)⟩
theorem Fps.bs {S : List Addr} {H H' : Hp} {vs : List V} {h : Hs} (f : Fps H vs h) (b : Bs S H H') (s : SoftAt S H) : Fps H' vs h := ⟨f.len, fun i v e => (f.at_ i v e).bs b s⟩
theorem LgAt.bs {CL : Addr} {S : List Addr} {H H' : Hp} {q hl da : Addr} {n k : Nat} (h : LgAt CL H q n hl da k) (b : Bs S H H') (m : q ∉ S) : LgAt CL H' q n hl da k := let ⟨dx, fs, e, z⟩ := h; ⟨dx, fs, b _ _ e m (fun _ z => by cases z), z⟩
theorem AtAt.bs {CA : Addr} {S : List Addr} {H H' : Hp} {p q dv dw : Addr} {l pl : Nat} {o : Bool} (h : AtAt CA H p q l pl dv dw o) (b : Bs S H H') (m : p ∉ S) : AtAt CA H' p q l pl dv dw o := let ⟨dx, fs, e, z⟩ := h; ⟨dx, fs, b _ _ e m (fun _ z => by cases z), z⟩
theorem lst_bs {S : List Addr} {H H' : Hp} {a : Addr} {xs : List V} (e : H a = some (.lst xs)) (b : Bs S H H') (m : a ∉ S) : H' a = some (.lst xs) := b _ _ e m (fun _ z => by cases z)
theorem dk_bs {S : List Addr} {H H' : Hp} {a : Addr} {d : List (Key × V)} (e : H a = some (.dK d)) (b : Bs S H H') (m : a ∉ S) : H' a = some (.dK d) := b _ _ e m (fun _ z => by cases z)
theorem RecAt.bs {CA q : Addr} {S : List Addr} {H H' : Hp} {r : Rec} (h : RecAt CA q H r) (b : Bs S H H') (m : ∀ a ∈ r.as, a ∉ S) : RecAt CA q H' r := by
  simp only [Rec.as, List.mem_cons, List.not_mem_nil, or_false, forall_eq_or_imp, forall_eq] at m
  obtain ⟨m1, m2, m3, m4, m5, m6⟩ := m
  exact ⟨lst_bs h.one b m1, h.att.bs b m2, dk_bs h.dv b m3, dk_bs h.dw b m4, dk_bs h.ld b m5, lst_bs h.ll b m6, h.nd⟩
theorem RecAt.soft {CA q : Addr} {H : Hp} {r : Rec} (h : RecAt CA q H r) : SoftAt r.as H := by
  obtain ⟨dx, fs, e, _⟩ := h.att
  exact .cons h.one .l (.cons e .i (.cons h.dv .d (.cons h.dw .d (.cons h.ld .d (.cons h.ll .l .nil)))))
/-- a change that spares tables -/
def Bx (S : List Addr) (H H' : Hp) : Prop := ∀ b o, H b = some o → b ∉ S → H' b = some o
theorem Bx.bs {S : List Addr} {H H' : Hp} (h : Bx S H H') : Bs S H H' := fun b o e m _ => h b o e m
theorem Bx.but {p : Addr} {S : List Addr} {H H1 : Hp} (s : But p H H1) (m : p ∈ S) : Bx S H H1 := fun c o e n => s _ _ e fun z => n (z ▸ m)
theorem Bx.but2 {p q : Addr} {S : List Addr} {H H1 : Hp} (s : But2 p q H H1) (m : p ∈ S) (m' : q ∈ S) : Bx S H H1 := fun c o e n => s _ _ e (fun z => n (z ▸ m)) (fun z => n (z ▸ m'))
theorem tabs_bx {T : List (Addr × Str)} {S : List Addr} {H H' : Hp} (t : LamX.Tabs T H) (b : Bx S H H') (s : SoftAt S H) : LamX.Tabs T H' := fun p hp => by
  obtain ⟨ps, h1, h2, h3⟩ := t p hp
  refine ⟨ps, b _ _ h1 fun m => ?_, h2, fun pos cv e => ?_⟩
  · obtain ⟨o, e', z⟩ := s _ m
    rw [h1] at e'
    cases e'
    rcases z with ⟨_, z⟩ | ⟨_, z⟩ | ⟨_, _, _, z⟩ <;> cases z
  · obtain ⟨c, e1, e2⟩ := h3 pos cv e
    refine ⟨c, e1, b _ _ e2 fun m => ?_⟩
    obtain ⟨o, e', z⟩ := s _ m
    rw [e2] at e'
    cases e'
    rcases z with ⟨_, z⟩ | ⟨_, z⟩ | ⟨_, _, _, z⟩ <;> cases z
/-! ### the world -/
structure Fx where
  q : Addr
  hl : Addr
  da : Addr
  hL : Addr
  tL : Addr
  gL : Addr
  cL : Addr
  n : Nat
  k : Nat
  cs : List Str
def Fx.as (F : Fx) : List Addr := [F.q, F.hl, F.da, F.hL, F.tL, F.gL, F.cL]
structure Sx where
  rs : List Rec
  ts : List (Option Nat)
  gs : List Nat
  kvs : List (Key × V)
  us : List V
  us' : List V
  h : Hs
def oneV (rs : List Rec) (i : Nat) : V := .ref (((rs[i]?).map Rec.one).getD 0)
def tV (rs : List Rec) : Option Nat → V
  | none => .non
  | some i => oneV rs i
theorem oneV_of {rs : List Rec} {i : Nat} {r : Rec} (h : rs[i]? = some r) : oneV rs i = .ref r.one := by
  unfold oneV
  rw [h]
  rfl
structure Wd (CL CA : Addr) (F : Fx) (S : Sx) (H : Hp) : Prop where
  lg : LgAt CL H F.q F.n F.hl F.da F.k
  hl : H F.hl = some (.lst S.us)
  fu : Fps H S.us S.h
  hL : H F.hL = some (.lst S.us')
  fU : Fps H S.us' S.h
  da : H F.da = some (.dK S.kvs)
  tl : H F.tL = some (.lst (S.ts.map (tV S.rs)))
  gl : H F.gL = some (.lst (S.gs.map (oneV S.rs)))
  cl : H F.cL = some (.lst (F.cs.map V.str))
  rc : ∀ (i : Nat) (r : Rec), S.rs[i]? = some r → RecAt CA F.q H r
  nd : F.as.Nodup
  ap : ∀ (i : Nat) (r : Rec), S.rs[i]? = some r → ∀ a ∈ r.as, a ∉ F.as
  app : ∀ (i j : Nat) (r s : Rec), S.rs[i]? = some r → S.rs[j]? = some s → i ≠ j → ∀ a ∈ r.as, a ∉ s.as
/-- apart from the world -/
def Apt (F : Fx) (S : Sx) (b : Addr) : Prop := b ∉ F.as ∧ ∀ (i : Nat) (r : Rec), S.rs[i]? = some r → b ∉ r.as
structure ROk (n : Nat) (cs : List Str) (h : Hs) (r : Rec) : Prop where
  pl : r.pl ≤ h.length
  ln : r.lane < n
  dn : (r.D.map (·.1)).Nodup
  dc : ∀ c ∈ r.D.map (·.1), c ∈ cs
  wn : r.W.Nodup
  wc : ∀ c ∈ r.W, c ∈ cs
structure Lo (F : Fx) (S : Sx) (t : Nat) : Prop where
  n1 : 1 ≤ F.n
  n8 : F.n ≤ 8
  cs : CsOk F.cs
  cn : F.cs ≠ []
  tn : S.ts.length = F.n
  live : ∀ (l i : Nat), S.ts[l]? = some (some i) → ∃ r : Rec, S.rs[i]? = some r ∧ r.lane = l ∧ r.over = false
  gone : ∀ i ∈ S.gs, ∃ r : Rec, S.rs[i]? = some r ∧ r.over = true
  kv : ∀ l : Nat, l < F.n → (S.ts[l]? = some none ∧ valV S.kvs (Sum.inl (l : Int)) = none) ∨ ∃ (i : Nat) (r : Rec), S.rs[i]? = some r ∧ valV S.kvs (Sum.inl (l : Int)) = some (.ref r.att) ∧ (S.ts[l]? = some (some i) ∨ (S.ts[l]? = some none ∧ r.over = true))
  fok : ∀ i, i < S.h.length → FpOk (fp S.h i)
  fln : ∀ i, i < S.h.length → (fp S.h i).lane < F.n
  fwr : ∀ i, i < S.h.length → ∀ c ∈ wrs S.h i, c ∈ F.cs
  rok : ∀ (i : Nat) (r : Rec), S.rs[i]? = some r → ROk F.n F.cs S.h r
  hn : S.h.length ≤ t
  kn : S.kvs.length ≤ t
  gn : S.gs.length ≤ t
section
variable {K : PySem.W.Frag} {CL CA : Addr} {F : Fx} {S : Sx} {H H' : Hp} {t : Nat}
theorem Lo.hs (L : Lo F S t) (ht : t ≤ 99) : HsOk S.h := ⟨L.fok, by have := L.hn; omega, F.cs, by have := L.cs.len; omega, L.fwr⟩
theorem Wd.q_ne (W : Wd CL CA F S H) {i : Nat} {r : Rec} (h : S.rs[i]? = some r) : F.q ≠ r.att := fun z => W.ap i r h r.att (by simp [Rec.as]) (by rw [← z]; simp [Fx.as])
/-- where nothing of the world is touched -/
theorem Wd.bs {T : List Addr} (W : Wd CL CA F S H) (b : Bs T H H') (s : SoftAt T H) (a : ∀ x ∈ T, Apt F S x) : Wd CL CA F S H' := by
  have nf : ∀ x ∈ F.as, x ∉ T := fun x hx m => (a x m).1 hx
  simp only [Fx.as, List.mem_cons, List.not_mem_nil, or_false, forall_eq_or_imp, forall_eq] at nf
  obtain ⟨m1, m2, m3, m4, m5, m6, m7⟩ := nf
  exact ⟨W.lg.bs b m1, lst_bs W.hl b m2, W.fu.bs b s, lst_bs W.hL b m4, W.fU.bs b s, dk_bs W.da b m3, lst_bs W.tl b m5, lst_bs W.gl b m6, lst_bs W.cl b m7, fun i r h => (W.rc i r h).bs b (fun x hx m => (a x m).2 i r h hx), W.nd, W.ap, W.app⟩
theorem Wd.same (W : Wd CL CA F S H) (s : Same H H') : Wd CL CA F S H' := W.bs (T := []) (.same s) .nil (fun _ m => by cases m)
theorem Wd.ext (W : Wd CL CA F S H) (s : LamX.ExtN H H') : Wd CL CA F S H' := W.bs (T := []) (.ext s) .nil (fun _ m => by cases m)
theorem Wd.but {p : Addr} (W : Wd CL CA F S H) (hp : PotAt H p) (b : But p H H') (a : Apt F S p) : Wd CL CA F S H' := by
  obtain ⟨x, y, e, _⟩ := hp
  exact W.bs (T := [p]) (.but b (List.mem_singleton.mpr rfl)) (.cons e .l .nil) (fun z m => by rw [List.mem_singleton.mp m]; exact a)
/-- what is new is apart from it -/
theorem Wd.apt (W : Wd CL CA F S H) {p : Addr} (n : H p = none) : Apt F S p := by
  have key : ∀ {x : Addr} {o : HO}, H x = some o → p ≠ x := fun e z => by rw [z, e] at n; cases n
  obtain ⟨dx, fs, e, _⟩ := W.lg
  refine ⟨?_, fun i r h => ?_⟩
  · simp only [Fx.as, List.mem_cons, List.not_mem_nil, or_false, not_or]
    exact ⟨key e, key W.hl, key W.da, key W.hL, key W.tl, key W.gl, key W.cl⟩
  · have R := W.rc i r h
    obtain ⟨dx, fs, e, _⟩ := R.att
    simp only [Rec.as, List.mem_cons, List.not_mem_nil, or_false, not_or]
    exact ⟨key R.one, key e, key R.dv, key R.dw, key R.ld, key R.ll⟩
/-! ### a record changed -/
def Rec.wth (r : Rec) (D : List (Str × Int)) (W : List Str) (o : Bool) : Rec := { r with D := D, W := W, over := o }
def Sx.setr (S : Sx) (i : Nat) (r : Rec) : Sx := { S with rs := S.rs.set i r }
theorem set_get {rs : List Rec} {i j : Nat} {r s : Rec} (h : (rs.set i r)[j]? = some s) : (i = j ∧ s = r ∧ i < rs.length) ∨ (i ≠ j ∧ rs[j]? = some s) := by
  rw [List.getElem?_set] at h
  by_cases e : i = j
  · rw [if_pos e] at h
    split at h
    · exact .inl ⟨e, (Option.some.inj h).symm, by omega⟩
    · cases h
  · rw [if_neg e] at h
    exact .inr ⟨e, h⟩
theorem oneV_set {rs : List Rec} {i : Nat} {r r' : Rec} (h : rs[i]? = some r) (e : r'.one = r.one) : oneV (rs.set i r') = oneV rs := by
  funext j
  unfold oneV
  rw [List.getElem?_set]
  by_cases c : i = j
  · subst c
    rw [if_pos rfl, if_pos (List.getElem?_eq_some_iff.mp h).1, h]
    show V.ref r'.one = V.ref r.one
    rw [e]
  · rw [if_neg c]
theorem tV_set {rs : List Rec} {i : Nat} {r r' : Rec} (h : rs[i]? = some r) (e : r'.one = r.one) : tV (rs.set i r') = tV rs := by
  funext o
  cases o with
  | none => rfl
  | some j => exact congrFun (oneV_set h e) j
theorem Wd.setr {i : Nat} {r : Rec} {D : List (Str × Int)} {W' : List Str} {o : Bool} (W : Wd CL CA F S H) (h : S.rs[i]? = some r) (b : Bs r.as H H') (R : RecAt CA F.q H' (r.wth D W' o)) : Wd CL CA F (S.setr i (r.wth D W' o)) H' := by
  have s := (W.rc i r h).soft
  have nf : ∀ x ∈ F.as, x ∉ r.as := fun x hx m => W.ap i r h x m hx
  simp only [Fx.as, List.mem_cons, List.not_mem_nil, or_false, forall_eq_or_imp, forall_eq] at nf
  obtain ⟨m1, m2, m3, m4, m5, m6, m7⟩ := nf
  refine ⟨W.lg.bs b m1, lst_bs W.hl b m2, W.fu.bs b s, lst_bs W.hL b m4, W.fU.bs b s, dk_bs W.da b m3, ?_, ?_, lst_bs W.cl b m7, fun j s' h' => ?_, W.nd, fun j s' h' => ?_, fun j k s' u h1 h2 ne => ?_⟩
  · show H' F.tL = some (.lst (S.ts.map (tV (S.rs.set i (r.wth D W' o)))))
    rw [tV_set (r' := r.wth D W' o) h rfl]
    exact lst_bs W.tl b m5
  · show H' F.gL = some (.lst (S.gs.map (oneV (S.rs.set i (r.wth D W' o)))))
    rw [oneV_set (r' := r.wth D W' o) h rfl]
    exact lst_bs W.gl b m6
  · rcases set_get h' with ⟨_, rfl, _⟩ | ⟨ne, h'⟩
    · exact R
    · exact (W.rc j s' h').bs b fun x hx m => W.app j i s' r h' h (Ne.symm ne) x hx m
  · rcases set_get h' with ⟨_, rfl, _⟩ | ⟨ne, h'⟩
    · exact W.ap i r h
    · exact W.ap j s' h'
  · rcases set_get h1 with ⟨e1, rfl, _⟩ | ⟨n1, h1⟩ <;> rcases set_get h2 with ⟨e2, rfl, _⟩ | ⟨n2, h2⟩
    · omega
    · exact W.app i k r u h h2 n2
    · exact W.app j i s' r h1 h (Ne.symm n1)
    · exact W.app j k s' u h1 h2 ne
theorem Apt.setr {i : Nat} {r : Rec} {D : List (Str × Int)} {W' : List Str} {o : Bool} {x : Addr} (a : Apt F S x) (h : S.rs[i]? = some r) : Apt F (S.setr i (r.wth D W' o)) x := ⟨a.1, fun j s' h' => by
  rcases set_get h' with ⟨_, rfl, _⟩ | ⟨_, h'⟩
  · exact a.2 i r h
  · exact a.2 j s' h'⟩
theorem Lo.setr {i : Nat} {r : Rec} {D : List (Str × Int)} {W' : List Str} (L : Lo F S t) (h : S.rs[i]? = some r) (ok : ROk F.n F.cs S.h (r.wth D W' r.over)) : Lo F (S.setr i (r.wth D W' r.over)) t := by
  have get : ∀ {j : Nat} {s' : Rec}, S.rs[j]? = some s' → ∃ u : Rec, (S.rs.set i (r.wth D W' r.over))[j]? = some u ∧ u.att = s'.att ∧ u.lane = s'.lane ∧ u.over = s'.over := fun {j s'} h' => by
    rw [List.getElem?_set]
    by_cases c : i = j
    · subst c
      rw [h] at h'
      cases h'
      rw [if_pos rfl, if_pos (List.getElem?_eq_some_iff.mp h).1]
      exact ⟨_, rfl, rfl, rfl, rfl⟩
    · rw [if_neg c]
      exact ⟨s', h', rfl, rfl, rfl⟩
  refine ⟨L.n1, L.n8, L.cs, L.cn, L.tn, fun l j e => ?_, fun j m => ?_, fun l hl => ?_, L.fok, L.fln, L.fwr, fun j s' h' => ?_, L.hn, L.kn, L.gn⟩
  · obtain ⟨s', h1, h2, h3⟩ := L.live l j e
    obtain ⟨u, g1, _, g2, g3⟩ := get h1
    exact ⟨u, g1, g2.trans h2, g3.trans h3⟩
  · obtain ⟨s', h1, h2⟩ := L.gone j m
    obtain ⟨u, g1, _, _, g3⟩ := get h1
    exact ⟨u, g1, g3.trans h2⟩
  · rcases L.kv l hl with z | ⟨j, s', h1, h2, h3⟩
    · exact .inl z
    · obtain ⟨u, g1, g2, _, g3⟩ := get h1
      exact .inr ⟨j, u, g1, by rw [g2]; exact h2, by rw [g3]; exact h3⟩
  · rcases set_get h' with ⟨_, rfl, _⟩ | ⟨_, h'⟩
    · exact ok
    · exact L.rok j s' h'
theorem Lo.le {t' : Nat} (L : Lo F S t) (h : t ≤ t') : Lo F S t' := ⟨L.n1, L.n8, L.cs, L.cn, L.tn, L.live, L.gone, L.kv, L.fok, L.fln, L.fwr, L.rok, by have := L.hn; omega, by have := L.kn; omega, by have := L.gn; omega⟩
end
end K71

set_option Elab.async false
set_option linter.all false
set_option maxRecDepth 100000
set_option maxHeartbeats 2000000
/-! LLKw: a class called with keywords; t[::-1] of a tuple; {x!r} of data. -/
namespace LL
open PySem PySem.Spec PyProof.Rows L2
section
variable (P : Program) (w : World) (K : PySem.W.Frag) (mg : Str → Option Value) (base : Heap) (CX : CXT) (k : Nat)
/-- C(e, .., k = v, ..): n values and the keywords ks; sp of all in the order in which they are written -/
structure Mkk (x : Str) (n : Nat) (ks : List Str) (sp : Sp) : Prop where
  ex : ∃ (C f : Addr) (fd : FuncData) (ps : List Str) (g : List Value → List Value → List Value) (gV : List V → List V → List V) (si : Sp), Mk K C f ∧ mg x = some (.ref C) ∧ KBn K fd ps (n + 1) ks g gV ∧ FnG P w K mg base CX k f fd ps si ∧
    ∀ vs zs H Q E, vs.length = n → zs.length = ks.length → sp (vs ++ zs) H Q E → ∀ a dx, H a = none → H dx = none → dx ≠ a → si (gV (.ref a :: vs) zs) (upd (upd H dx (.own a)) a (.ins C dx [])) (fun v H2 => v = .non ∧ Q (.ref a) H2) E
end
def tKw (n m : Nat) (sp : Sp) (E : XK) (t tk : TA) : TE := fun σ H Q => t σ H fun vs H1 => tk σ H1 fun zs H2 => vs.length = n ∧ zs.length = m ∧ sp (vs ++ zs) H2 Q E
section
variable {X : Cx} {CX : CXT} {k n : Nat} {f C : Addr} {fd : FuncData} {ps ks : List Str} {sp : Sp} {E : XK} {x : Str} {p pos : Pos} {e : Expr} {es : List Expr} {kws : List Keyword} {t tk : TA} {g : List Value → List Value → List Value} {gV : List V → List V → List V}
theorem run_makeW {pins : List (Addr × Obj)} {σ : L2.St} {H : Hp} {s : Shared} {Q : VK} {us ws : List Value} {vs zs : List V} (M : Mk X.K C f) (F : FnG X.prog X.w X.K X.mg X.base CX k f fd ps sp) (hr : Rm (k + 1) X.A) (hb : KBn X.K fd ps (n + 1) ks g gV)
    (hx : Passes CX X E) (I : Inv X pins σ H s) (r : Vals vs us) (rz : Vals zs ws) (l1 : vs.length = n) (l2 : zs.length = ks.length)
    (h : ∀ x dx, H x = none → H dx = none → dx ≠ x → sp (gV (.ref x :: vs) zs) (upd (upd H dx (.own x)) x (.ins C dx [])) (fun v H2 => v = .non ∧ Q (.ref x) H2) E) :
    wpAny (model X.prog X.w) X.A (call (.ref C) us (ks.zip ws)) (EP X pins σ Q) X.xe s := by
  have hq := h (s.heap.objs.size + 1) s.heap.objs.size (I.hok.fresh (Nat.le_succ _)) (I.hok.fresh (Nat.le_refl _)) (Nat.ne_of_lt (Nat.lt_succ_self _))
  have I2 := Inv.made (C := C) I
  have r1 : Vals (V.ref (s.heap.objs.size + 1) :: vs) (Value.ref (s.heap.objs.size + 1) :: us) := .cons rfl r
  have r2 := hb.rel r1 rz
  have e1 : (Value.ref (s.heap.objs.size + 1) :: us).length = n + 1 := r1.length.symm.trans (congrArg Nat.succ l1)
  have e2 : ws.length = ks.length := rz.length.symm.trans l2
  refine wpAny_call (make_map (f := f) I.kIn M.makes M.init (beq_iff_eq.mp M.fn) (codeAny_mono (F.run _ X.stack _ _ ⟨Value.ref (s.heap.objs.size + 1) :: us, ks.zip ws⟩ (g (Value.ref (s.heap.objs.size + 1) :: us) ws) _ _ E (hr.make C us (ks.zip ws))
    (I2.env0.make C us (ks.zip ws)) (hb.to _ (Value.ref (s.heap.objs.size + 1) :: us) ws I2.kIn e1 e2) r2 hq) fun r s' hq' => ?_))
  match r, hq' with
  | .error er, hq' => exact hx pins σ _ _ er s' I2 hq'
  | .ok (.ret u), hq' =>
    obtain ⟨v, H', I3, rv, rfl, q3⟩ := I2.after hq'
    exact ⟨rv, ⟨V.ref (s.heap.objs.size + 1), H', I3, rfl, q3⟩⟩
  | .ok .next, hq' => exact False.elim hq'
  | .ok .brk, hq' => exact False.elim hq'
  | .ok .cont, hq' => exact False.elim hq'
theorem pe_mkk (G : Mkk X.prog X.w X.K X.mg X.base CX k x n ks sp) (hr : Rm (k + 1) X.A) (hx : Passes CX X E) (ha : PA X (e :: es) t) (hkw : PK X kws tk) (hg : Gl X x := by rfl)
    (hall : (backToKw pos (keywordEach kws X.env)).all (·.1.isSome) = true := by rfl) (hks : (backToKw pos (keywordEach kws X.env)).filterMap (·.1) = ks := by rfl)
    (hdb : (x == ("__debug__" : Str)) = false := by decide) (he : starEach (e :: es) X.env = (false, eval e X.env) :: starEach es X.env := by rfl)
    (hpl : ((backTo pos (starEach (e :: es) X.env)).any (·.1) || (backToKw pos (keywordEach kws X.env)).any (·.1.isNone)) = false := by rfl) :
    PE X (.Call (.Name x p) (e :: es) kws pos) (tKw n ks.length sp E t tk) := by
  obtain ⟨C, f, fd, ps, g, gV, si, M, hm, hb, F, conv⟩ := G.ex
  refine ⟨fun pins s σ H Q I h => ?_⟩
  refine wpAny_Call_Name_kw (ld_glob I hg hm ?_ hdb)
  refine PySem.W.callWith_KW (h₀ := X.base) I.ok.mod.kin M.kp hall (thn (ha.run pos pins s σ H _ I h) fun us s1 z => ?_) hpl he
  obtain ⟨vs, H1, I1, r, q⟩ := z
  refine thn (hkw.run pos pins s1 σ H1 _ I1 q) fun ws s2 z => ?_
  obtain ⟨zs, H2, I2, rz, l1, l2, q2⟩ := z
  refine ⟨I2.kIn, ?_⟩
  rw [hks]
  exact run_makeW M F hr hb hx I2 r rz l1 l2 (conv vs zs H2 Q E l1 l2 q2)
theorem pe_mkk0 (G : Mkk X.prog X.w X.K X.mg X.base CX k x 0 ks sp) (hr : Rm (k + 1) X.A) (hx : Passes CX X E) (hkw : PK X kws tk) (hg : Gl X x := by rfl)
    (hall : (backToKw pos (keywordEach kws X.env)).all (·.1.isSome) = true := by rfl) (hks : (backToKw pos (keywordEach kws X.env)).filterMap (·.1) = ks := by rfl) (hdb : (x == ("__debug__" : Str)) = false := by decide)
    (hpl : ((backTo pos (starEach [] X.env)).any (·.1) || (backToKw pos (keywordEach kws X.env)).any (·.1.isNone)) = false := by rfl) :
    PE X (.Call (.Name x p) [] kws pos) (tKw 0 ks.length sp E tNil tk) := by
  obtain ⟨C, f, fd, ps, g, gV, si, M, hm, hb, F, conv⟩ := G.ex
  refine ⟨fun pins s σ H Q I h => ?_⟩
  refine wpAny_Call_Name_kw (ld_glob I hg hm ?_ hdb)
  refine PySem.W.callWith_KW0 (h₀ := X.base) I.ok.mod.kin M.kp hall ?_ hpl
  refine thn (hkw.run pos pins s σ H _ I h) fun ws s2 z => ?_
  obtain ⟨zs, H2, I2, rz, l1, l2, q2⟩ := z
  refine ⟨I2.kIn, ?_⟩
  rw [hks]
  exact run_makeW (us := []) (vs := []) M F hr hb hx I2 .nil rz rfl l2 (conv [] zs H2 Q E rfl l2 q2)
end
/-! ### t[::-1] -/
section
variable {prog : Program} {w : World} {A : Around} {E : Value → Shared → Prop} {s : Shared}
theorem adjust_rev (n : Nat) : Builtin.Slice.sliceAdjust none none (-1) (n : Int) = ((n : Int) - 1, -1) := rfl
theorem places_rev (n : Nat) : Builtin.Slice.slicePlaces ((n : Int) - 1) (-1) (-1) = n := by
  unfold Builtin.Slice.slicePlaces
  rw [if_neg (by decide)]
  have e : (-(-1) : Int) = 1 := rfl
  rw [e, Int.ediv_one]
  split <;> omega
theorem fm_congr {α β : Type} {f g : α → Option β} : ∀ {l : List α}, (∀ a ∈ l, f a = g a) → l.filterMap f = l.filterMap g
  | [], _ => rfl
  | a :: l, h => by rw [List.filterMap_cons, List.filterMap_cons, h a (List.mem_cons_self ..), fm_congr fun b hb => h b (List.mem_cons_of_mem _ hb)]
theorem pick_rev (xs : Array Value) : ((List.range xs.size).filterMap fun (m : Nat) => xs[((xs.size : Int) - 1 + (m : Int) * -1).toNat]?).toArray = xs.toList.reverse.toArray := by
  have e := HT.pick_gen xs.toList.reverse.toArray 0 xs.size
  rw [List.drop_zero, List.take_of_length_le (by rw [List.length_reverse, Array.length_toList]; exact Nat.le_refl _)] at e
  refine Eq.trans (congrArg List.toArray (fm_congr fun m hm => ?_)) e
  have hm := List.mem_range.mp hm
  have q : ((xs.size : Int) - 1 + (m : Int) * -1).toNat = xs.size - 1 - m := by omega
  have q2 : (((0 : Nat) : Int) + (m : Int) * 1).toNat = m := by omega
  rw [q, q2, show xs.toList.reverse.toArray[m]? = xs.toList.reverse[m]? from List.getElem?_toArray .., List.getElem?_reverse (by rw [Array.length_toList]; exact hm), Array.length_toList, Array.getElem?_toList]
theorem getItem_tuple_rev {t sl : Addr} {items : Array Value} {vl vu vs : Value} {Q : Value → Shared → Prop} (ht : IsTup s.heap t items) (hs : s.heap.IsSliceOf sl vl vu vs) (pl : IsPart vl none) (pu : IsPart vu none) (ps : IsPart vs (some (-1)))
    (h : Q (.ref s.heap.objs.size) { s with heap := s.heap.push { cls := .type "tuple", data := .seq items.toList.reverse.toArray } })
    (hsz : items.size ≤ sizeLine) : wpAny (model prog w) A (getItem (.ref t) (.ref sl)) Q E s := by
  have htake : sizeOk (.seq items.toList.reverse.toArray) := by
    show items.toList.reverse.toArray.size ≤ sizeLine
    rw [List.size_toArray, List.length_reverse, Array.length_toList]
    exact hsz
  obtain ⟨os, hos, hcs, hds⟩ := id hs
  have hTs : s.TypeIs (.ref sl) "slice" := ⟨os, hos, hcs⟩
  unfold getItem
  try with_reducible refine wpAny_holding ?_
  first | refine wpAny_bind (wpAny_pure ?_) | skip
  refine wpAny_bind (wpAny_sequenceKey ht.typeIs (by decide) ?_)
  refine wpAny_bind (wpAny_callSpecial?_slot (name := Str.ofString "__getitem__") ht.typeIs PyProof.Rows.slot_tuple_getitem
    (wpAny_call_entry PyProof.Rows.slot_tuple_getitem ht.typeIs entry_tuple_getitem ?_ (args_tuple_getitem _ _)))
  show wpAny _ _ (Builtin.Tuple.tupleItemsOf (.ref t) >>= _) _ _ s
  refine wpAny_bind (tupleItemsOf_ ht ?_)
  refine wpAny_bind (wpAny_typeOf hTs ?_)
  rw [if_pos (by decide)]
  have app : ∀ {A : Around} {Q : Int × Int × Nat → Shared → Prop}, Q ((items.size : Int) - 1, -1, items.size) s → wpAny (model prog w) A (Builtin.Slice.sliceApplied (.ref sl) (pure (items.size : Int))) Q E s := by
    intro A Q h
    unfold Builtin.Slice.sliceApplied Builtin.Slice.sliceFields
    refine wpAny_bind (wpAny_bind (wpAny_field hos hds (x := vl) rfl (wpAny_bind (wpAny_field hos hds (x := vu) rfl (wpAny_bind (wpAny_field hos hds (x := vs) rfl (wpAny_pure ?_)))))))
    refine wpAny_bind (HT.slicePart_ ps ?_)
    show wpAny _ _ (if ((-1 : Int) == 0) = true then _ else _) _ _ s
    rw [if_neg (by decide)]
    refine wpAny_bind (HT.slicePart_ pl (wpAny_bind (HT.slicePart_ pu (wpAny_bind (wpAny_pure ?_)))))
    show wpAny _ _ (match Builtin.Slice.sliceAdjust none none (-1) (items.size : Int) with | (lo, hi) => pure (lo, (-1 : Int), Builtin.Slice.slicePlaces lo hi (-1))) _ _ s
    rw [adjust_rev]
    show wpAny _ _ (pure ((items.size : Int) - 1, (-1 : Int), Builtin.Slice.slicePlaces ((items.size : Int) - 1) (-1) (-1))) _ _ s
    rw [places_rev]
    exact wpAny_pure h
  refine wpAny_bind (app ?_)
  have hno : ¬ ((((items.size : Int) - 1) == 0 && (-1 : Int) == 1 && items.size == items.size) = true) := by
    rw [show ((-1 : Int) == 1) = false from rfl, Bool.and_false, Bool.false_and]
    exact Bool.false_ne_true
  show wpAny _ _ (if (((items.size : Int) - 1) == 0 && (-1 : Int) == 1 && items.size == items.size) = true then _ else _) _ _ s
  rw [if_neg hno, pick_rev]
  first
    | exact wpAny_bind (m := Builtin.Tuple.tupleExact _) (wpAny_newObj_type (wpAny_pure ⟨_, rfl, wpAny_pure h⟩) htake)
    | exact wpAny_bind (m := Builtin.Tuple.tupleExact _) (wpAny_newObj_type (wpAny_bind (wpAny_pure (wpAny_pure ⟨_, rfl, wpAny_pure h⟩))) htake)
    | exact wpAny_bind (wpAny_bind (m := Builtin.Tuple.tupleExact _) (wpAny_newObj_type (wpAny_pure (wpAny_pure ⟨_, rfl, wpAny_pure h⟩)) htake))
    | exact wpAny_bind (wpAny_bind (m := Builtin.Tuple.tupleExact _) (wpAny_newObj_type (wpAny_pure ⟨_, rfl, wpAny_pure h⟩) htake))
end
section
variable {X : Cx}
def tRevT (K : PySem.W.Frag) (te : TE) : TE := fun σ H Q => te σ H fun x H1 => ∃ a xs, x = .ref a ∧ SqT K H1 a xs ∧ ∀ p, H1 p = none → Q (.ref p) (upd H1 p (.tup xs.reverse))
theorem pe_revT {e : Expr} {te : TE} {k : Nat} {p1 p2 p3 pos : Pos} (he : PE X e te) : PE X (.Subscript e (.Slice none none (some (.UnaryOp .USub (.Constant (.int 1) k p1) p2)) p3) pos) (tRevT X.K te) := by
  refine ⟨fun pins s σ H Q I h => ?_⟩
  refine Subscript_ (thn (he.run pins s σ H _ I h) fun v s1 z => ?_)
  obtain ⟨x, H1, I1, r1, q1⟩ := z
  obtain ⟨a, xs, ex, hx, q⟩ := q1
  subst ex
  cases r1
  have hst : PO X (some (.UnaryOp .USub (.Constant (.int 1) k p1) p2)) (tPart (tUn (rU fun i => .int (-i)) (tC (.int 1)))) := po_some (pe_un un_neg pe_int)
  refine wpAny_Slice (thn (po_none.run pins s1 σ H1 (fun o H2 => o = none ∧ H2 = H1) I1 ⟨rfl, rfl⟩) fun vl s2 z => ?_)
  obtain ⟨l, H2, I2, pl, el, e2⟩ := z
  subst el e2
  refine thn (po_none.run pins s2 σ H2 (fun o H3 => o = none ∧ H3 = H2) I2 ⟨rfl, rfl⟩) fun vu s3 z => ?_
  obtain ⟨u, H3, I3, pu, eu, e3⟩ := z
  subst eu e3
  refine thn (hst.run pins s3 σ H3 (fun o H4 => o = some (-1) ∧ H4 = H3) I3 ⟨1, rfl, -1, rfl, rfl, rfl⟩) fun vs s4 z => ?_
  obtain ⟨o, H4, I4, ps, eo, e4⟩ := z
  subst eo e4
  have I5 : Inv X pins σ H4 { s4 with heap := s4.heap.push { cls := .type "slice", data := .fields #[vl, vu, vs] } } := I4.kept (t' := s4.toks) fun b ob q => Heap.get?_push_of_some _ q
  obtain ⟨its, r, ht, hz⟩ := I5.tuple hx
  have hlen := r.length
  show wpAny (model X.prog X.w) X.A (subscriptTail e (.Slice none none (some (.UnaryOp .USub (.Constant (.int 1) k p1) p2)) p3) (.ref a) (.ref s4.heap.objs.size)) (EP X pins σ Q) X.xe { s4 with heap := s4.heap.push { cls := .type "slice", data := .fields #[vl, vu, vs] } }
  refine tail_any (ops := [.ref a, .ref s4.heap.objs.size]) ht.typeIs (PyProof.Rows.slot_tuple_getitem.lookup) ?_ (by with_unfolding_all rfl)
  refine getItem_tuple_rev ht (Heap.IsSliceOf.new _ vl vu vs) pl pu ps ?_ (by rw [List.size_toArray]; omega)
  refine ⟨.ref _, _, I5.laid (t' := s4.toks) (o := .tup xs.reverse) (fun b ob q => Heap.get?_push_of_some _ q) (Nat.le_refl _) ?_, rfl, q _ (I5.hok.fresh (Nat.le_refl _))⟩
  exact ⟨by rw [List.length_reverse]; exact hz, _, r.reverse, IsTup.new _ _⟩
end
/-! ### {x!r} of data -/
def tFmtRD (K : PySem.W.Frag) (te : TE) : TE := fun σ H Q => te σ H fun x H1 => ∃ a d, x = .ref a ∧ Dp K H1 (.ref a) d ∧ Shw d ∧ d.depth ≤ 40 ∧ cost d ≤ 1000000 ∧ Q (.str d.shown) H1
theorem pe_fmtRD {X : Cx} {k : Nat} {e : Expr} {te : TE} {pos : Pos} (hr : Rm k X.A) (he : PE X e te) : PE X (.FormattedValue e 114 none pos) (tFmtRD X.K te) := by
  refine ⟨fun pins s σ H Q I h => ?_⟩
  refine wpAny_FormattedValue_repr (thn (he.run pins s σ H _ I h) fun v s1 hv => ?_)
  obtain ⟨x, H1, I1, r1, a, d, rfl, hd, hs, hp, hc, q⟩ := hv
  obtain ⟨as, rd⟩ := Dp.reads I1 d _ _ hd r1
  cases (show v = Value.ref a from r1)
  have hu := hr.r.units
  obtain ⟨z1, z2, z3⟩ := hs.all
  have hz : d.shown.length ≤ sizeLine := Nat.le_trans (Nat.le_trans z1 hc) (by rw [sizeLine_eq]; decide)
  exact pyReprObj_of_reads rd z2 (fun z => by rw [z3] at z; cases z) hr.g (by omega) (fun _ _ e => e) (fun h' u tk hk => wpAny_formatField_str ⟨.str d.shown, H1, I1.kept hk, ⟨_, rfl⟩, q⟩ ⟨.str d.shown, H1, (I1.kept hk).tok _, ⟨_, rfl⟩, q⟩ hz) hz
/-- list(d) of a dict that may be walked -/
theorem listD_of {H : Hp} {p : Addr} {kvs : List (Key × V)} {Q : VK} (h : H p = some (.dK kvs)) (q : ∀ r H', Same H H' → H r = none → H' r = some (.lst (kvs.map fun kv => kV kv.1)) → Q (.ref r) H') : rListD [.ref p] H Q := ⟨p, kvs, rfl, h, fun r hr => q r _ (same_upd hr) hr upd_same⟩
section
variable {X : Cx} {K : PySem.W.Frag} {e : Expr} {f : Str} {pos : Pos} {ta : TE}
theorem pe_fldK (h : X.K = K) (he : PE X e ta) (hab : attributeBase e f X.env (eval e X.env) = eval e X.env := by rfl) : PE X (.Attribute e f pos) (tFld K ta f) := h ▸ pe_fld he hab
end
section
variable {X : Cx} {K : PySem.W.Frag} {o e : Expr} {es : List Expr} {to : TE} {t : TA} {name : Str} {apos cpos : Pos} {T id : String} {r : V → List V → Hp → VK → Prop}
theorem pe_bmN (hK : X.K = K) (pa : PlainAttrs T) (slot : Slot T name id) (hty : typeOf (.builtin id) = pure (.type "method_descriptor")) (hm : MtR X id r) (ho : PE X o to) (ha : PA X (e :: es) t)
    (hbase : attributeBase o name X.env (eval o X.env) = eval o X.env := by rfl)
    (hfew : ((backTo cpos (starEach (e :: es) X.env)).all (fun x => !x.1) && (backToKw cpos (keywordEach [] X.env)).all (fun x => x.1.isSome)
      && decide ((e :: es).length + ([] : List Keyword).length + (if ([] : List Keyword).isEmpty then 0 else 1) < 30)) = true := by rfl)
    (hline : (apos.endLine == cpos.line) = true := by rfl) (hs : starEach (e :: es) X.env = (false, eval e X.env) :: starEach es X.env := by rfl) (hplain : (backTo cpos (starEach es X.env)).any (·.1) = false := by rfl) :
    PE X (.Call (.Attribute o name apos) (e :: es) [] cpos) (tBM K T r to t) := hK ▸ pe_bm pa slot hty hm ho ha hbase hfew hline hs hplain
theorem call_len_seqK (hK : X.K = K) : CallR X (.builtin "len") (fun xs H Q => ∃ p ys, xs = [.ref p] ∧ (SqL K H p ys ∨ SqT K H p ys) ∧ Q (.int ys.length) H) := hK ▸ call_len_seq
end
/-! ### a default that is an empty tuple -/
/-- the first default of the def at adr -/
def d1A (adr : PySem.W.Frag → Addr) (K : PySem.W.Frag) : Addr := match fdAt K (adr K) with
  | some g => (match g.defaults with
    | .ref T => (match K.lookup T with
      | some ⟨_, _, .seq its _, _⟩ => (match its.toList with
        | .ref a :: _ => a
        | _ => 0)
      | _ => 0)
    | _ => 0)
  | none => 0
/-- the empty tuple lies at a -/
def fEmpT (ad : PySem.W.Frag → Addr) : Ft := fun K => match K.lookup (ad K) with
  | some ⟨c, _, .seq its _, _⟩ => (c == .type "tuple") && its.toList.isEmpty
  | _ => false
theorem fEmpT_ok {ad : PySem.W.Frag → Addr} {K : PySem.W.Frag} (h : fEmpT ad K = true) : ∃ (o : Obj) (its : Array Value) (n : Nat), K.lookup (ad K) = some o ∧ o.cls = .type "tuple" ∧ o.data = .seq its n ∧ its.size ≤ sizeLine ∧ Vals [] its.toList := by
  unfold fEmpT at h
  split at h
  · rename_i c d its n sl e
    obtain ⟨h1, h2⟩ := He.ba h
    refine ⟨_, its, n, e, beq_iff_eq.mp h1, rfl, ?_, ?_⟩
    · rw [← Array.length_toList, List.isEmpty_iff.mp h2]
      exact Nat.zero_le _
    · rw [List.isEmpty_iff.mp h2]
      exact .nil
  · cases h
end LL

set_option Elab.async false
set_option linter.all false
set_option maxRecDepth 100000
set_option maxHeartbeats 2000000
/-! LLDeep: a pair of ints in a list or a tuple of such. -/
namespace LL
open PySem PySem.Spec PyProof.Rows L2
abbrev IP := Int × Int
def PrV (H : Hp) (v : V) (p : IP) : Prop := ∃ t, v = .ref t ∧ H t = some (.tup [.int p.1, .int p.2])
theorem PrV.same {H H' : Hp} {v : V} {p : IP} (h : PrV H v p) (s : Same H H') : PrV H' v p := let ⟨t, e, x⟩ := h; ⟨t, e, s _ _ x⟩
structure Prs (H : Hp) (vs : List V) (ps : List IP) : Prop where
  len : vs.length = ps.length
  at_ : ∀ (i : Nat) v p, vs[i]? = some v → ps[i]? = some p → PrV H v p
theorem Prs.same {H H' : Hp} {vs : List V} {ps : List IP} (h : Prs H vs ps) (s : Same H H') : Prs H' vs ps := ⟨h.len, fun i v p e1 e2 => (h.at_ i v p e1 e2).same s⟩
def PsAt (H : Hp) (a : Addr) (ps : List IP) : Prop := ∃ vs, Lt H a vs ∧ Prs H vs ps
theorem PsAt.same {H H' : Hp} {a : Addr} {ps : List IP} (h : PsAt H a ps) (s : Same H H') : PsAt H' a ps := let ⟨vs, l, r⟩ := h; ⟨vs, l.same s, r.same s⟩
def ipD (p : IP) : PyData := .tuple [.int p.1, .int p.2]
theorem ipD_inj {p q : IP} (h : ipD p = ipD q) : p = q := by
  unfold ipD at h
  simp only [PyData.tuple.injEq, List.cons.injEq, PyData.int.injEq, and_true] at h
  exact Prod.ext h.1 h.2
theorem pn_ip (p : IP) : Pn 1 (ipD p) := fun d hd => by
  rcases List.mem_cons.mp hd with rfl | hd
  · trivial
  · cases List.mem_singleton.mp hd
    trivial
theorem pn_ips (ps : List IP) : Pn 2 (.list (ps.map ipD)) := fun d hd => by
  obtain ⟨p, _, rfl⟩ := List.mem_map.mp hd
  exact pn_ip p
theorem pn_ipt (ps : List IP) : Pn 2 (.tuple (ps.map ipD)) := fun d hd => by
  obtain ⟨p, _, rfl⟩ := List.mem_map.mp hd
  exact pn_ip p
theorem ip_any (ps : List IP) (p : IP) : ((ps.map ipD).any fun z => PyData.eqv z (ipD p)) = decide (p ∈ ps) := by
  rw [List.any_map]
  have e : ∀ q : IP, ((fun z => PyData.eqv z (ipD p)) ∘ ipD) q = decide (q = p) := fun q => by
    show PyData.eqv (ipD q) (ipD p) = _
    by_cases h : q = p
    · rw [decide_eq_true h, (Pn.eqv (pn_ip q) (pn_ip p)).mpr (by rw [h])]
    · rw [decide_eq_false h]
      exact Bool.eq_false_iff.mpr fun z => h (ipD_inj ((Pn.eqv (pn_ip q) (pn_ip p)).mp z))
  rw [show ((fun z => PyData.eqv z (ipD p)) ∘ ipD) = fun q => decide (q = p) from funext e]
  by_cases h : p ∈ ps
  · rw [decide_eq_true h]
    exact List.any_eq_true.mpr ⟨p, h, decide_eq_true rfl⟩
  · rw [decide_eq_false h]
    exact List.any_eq_false.mpr fun q hq z => h (of_decide_eq_true z ▸ hq)
section
variable {K : PySem.W.Frag} {H : Hp}
theorem dp_ip {v : V} {p : IP} (h : PrV H v p) : Dp K H v (ipD p) := by
  obtain ⟨t, rfl, ht⟩ := h
  exact .tup (SqT.of ht) (.cons (.int _) (.cons (.int _) .nil))
theorem dp_ips {vs : List V} {ps : List IP} (h : Prs H vs ps) : DpAll K H vs (ps.map ipD) := dpa_at (by rw [List.length_map]; exact h.len) fun i v d e1 e2 => by
  rw [List.getElem?_map] at e2
  obtain ⟨p, hp, rfl⟩ := Option.map_eq_some_iff.mp e2
  exact dp_ip (h.at_ i v p e1 hp)
end
/-- p in ps -/
def rInP (neg : Bool) : R2 := fun x y H Q => ∃ (p : IP) (a : Addr) (ps : List IP), PrV H x p ∧ y = .ref a ∧ PsAt H a ps ∧ Q (.bl (if neg then !decide (p ∈ ps) else decide (p ∈ ps))) H
section
variable {X : Cx}
theorem op_inP (hu : X.A.units + 65 < cLine) : OpR X (compareOp .In) (rInP false) := by
  intro pins s σ H x y v u Q I rx ry h
  obtain ⟨p, a, ps, hx, rfl, ⟨vs, hl, pr⟩, q⟩ := h
  obtain ⟨as, r1⟩ := Dp.reads I _ x v (dp_ip (K := X.K) hx) rx
  have sd := (pn_ip p).shp (n := 1) (by decide)
  have q : Q (.bl ((ps.map ipD).any fun z => PyData.eqv z (ipD p))) H := by rw [ip_any]; exact q
  rcases hl with hl | hl
  · obtain ⟨bs, r2⟩ := Dp.reads I _ _ u (.lst (SqL.of (K := X.K) hl) (dp_ips pr)) ry
    exact SeqAt.in_list_reads r2 r1 (SeqAt.canLay_of_shaped ((pn_ips ps).shp (n := 2) (by decide))) (SeqAt.canLay_of_shaped sd) (room_in_shaped sd hu) ⟨.bl _, H, I, rfl, q⟩
  · obtain ⟨bs, r2⟩ := Dp.reads I _ _ u (.tup (SqT.of (K := X.K) hl) (dp_ips pr)) ry
    exact SeqAt.in_tuple_reads r2 r1 (SeqAt.canLay_of_shaped ((pn_ipt ps).shp (n := 2) (by decide))) (SeqAt.canLay_of_shaped sd) (room_in_shaped sd hu) ⟨.bl _, H, I, rfl, q⟩
theorem op_notInP (hu : X.A.units + 65 < cLine) : OpR X (compareOp .NotIn) (rInP true) := by
  intro pins s σ H x y v u Q I rx ry h
  obtain ⟨p, a, ps, hx, rfl, ⟨vs, hl, pr⟩, q⟩ := h
  obtain ⟨as, r1⟩ := Dp.reads I _ x v (dp_ip (K := X.K) hx) rx
  have sd := (pn_ip p).shp (n := 1) (by decide)
  have q : Q (.bl (!(ps.map ipD).any fun z => PyData.eqv z (ipD p))) H := by rw [ip_any]; exact q
  rcases hl with hl | hl
  · obtain ⟨bs, r2⟩ := Dp.reads I _ _ u (.lst (SqL.of (K := X.K) hl) (dp_ips pr)) ry
    exact SeqAt.notIn_list_reads r2 r1 (SeqAt.canLay_of_shaped ((pn_ips ps).shp (n := 2) (by decide))) (SeqAt.canLay_of_shaped sd) (room_in_shaped sd hu) ⟨.bl _, H, I, rfl, q⟩
  · obtain ⟨bs, r2⟩ := Dp.reads I _ _ u (.tup (SqT.of (K := X.K) hl) (dp_ips pr)) ry
    exact SeqAt.notIn_tuple_reads r2 r1 (SeqAt.canLay_of_shaped ((pn_ipt ps).shp (n := 2) (by decide))) (SeqAt.canLay_of_shaped sd) (room_in_shaped sd hu) ⟨.bl _, H, I, rfl, q⟩
end
theorem un65 {k : Nat} {A : Around} (hr : Rm k A) : A.units + 65 < cLine := by
  have := hr.r.un
  omega
/-! ### a slice of a list or a tuple -/
def rSlQ (K : PySem.W.Frag) : V → Option Int → Option Int → Hp → VK → Prop := fun x lo hi H Q => rSlL K x lo hi H Q ∨ rSlA K x lo hi H Q
theorem sl_seqA {X : Cx} : SlR X (rSlQ X.K) := sl_list.or sl_tupA
theorem cut_lt {K : PySem.W.Frag} {H : Hp} {a : Addr} {vs : List V} {n : Nat} {Q : VK} (h : Lt H a vs) (hn : n ≤ vs.length) (q : ∀ H' b, Same H H' → Lt H' b (vs.take n) → Q (.ref b) H') : rSlQ K (.ref a) none (some (n : Int)) H Q := by
  rcases h with h | h
  · refine .inl ⟨a, vs, rfl, SqL.of h, fun p hp => ?_⟩
    rw [cutV_to]
    exact q _ p (same_upd hp) (.inl upd_same)
  · have e1 : HT.sIx vs.length 0 none = 0 := rfl
    have e2 : HT.sIx vs.length vs.length (some (n : Int)) = n := by
      show (if (n : Int) < 0 then ((n : Int) + (vs.length : Int)).toNat else min (n : Int).toNat vs.length) = n
      rw [if_neg (by omega)]
      omega
    refine .inr ⟨a, vs, rfl, SqT.of h, fun w => ?_, fun w p hp => ?_⟩
    · rw [e2] at w
      refine q H a Same.rfl' (.inr ?_)
      rw [w.2, List.take_length]
      exact h
    · rw [cutV_to]
      exact q _ p (same_upd hp) (.inr upd_same)
end LL

set_option Elab.async false
set_option linter.all false
set_option maxRecDepth 100000
set_option maxHeartbeats 2000000
/-! LLNone: None in a list of None's and of lists; its first place. -/
namespace LL
open PySem PySem.Spec PyProof.Rows L2
def isNn : V → Bool
  | .non => true
  | _ => false
def isNnU : Value → Bool
  | .none => true
  | _ => false
/-- None, or a list -/
def NonL (K : PySem.W.Frag) (H : Hp) (v : V) : Prop := v = .non ∨ ∃ a ys, v = .ref a ∧ SqL K H a ys
section
variable {X : Cx} {pins : List (Addr × Obj)} {σ : L2.St} {H : Hp} {s : Shared}
theorem isNn_of {v : V} {u : Value} (r : RelV v u) (h : NonL X.K H v) : isNnU u = isNn v := by
  rcases h with rfl | ⟨a, ys, rfl, _⟩
  · cases (show u = .none from r)
    rfl
  · cases (show u = .ref a from r)
    rfl
theorem any_non : ∀ {xs : List V} {us : List Value}, Vals xs us → (∀ v ∈ xs, NonL X.K H v) → us.any isNnU = xs.any isNn
  | _, _, .nil, _ => rfl
  | y :: xs, u :: us, .cons r t, h => by
    rw [List.any_cons, List.any_cons, isNn_of r (h y (List.mem_cons_self ..)), any_non t fun v hv => h v (List.mem_cons_of_mem _ hv)]
theorem eqAt_non {A : Around} (I : Inv X pins σ H s) (hu : A.units < cLine) : ∀ {xs : List V} {us : List Value}, Vals xs us → (∀ v ∈ xs, NonL X.K H v) → ∀ u ∈ us, SeqAt.EqAt A s u .none (isNnU u)
  | _, _, .nil, _ => fun u hu => by cases hu
  | y :: xs, u :: us, .cons r t, h => fun u' hm => by
    rcases List.mem_cons.mp hm with rfl | hm
    · rcases h y (List.mem_cons_self ..) with rfl | ⟨a, ys, rfl, hl⟩
      · cases (show u' = .none from r)
        exact SeqAt.EqAt.same _
      · cases (show u' = .ref a from r)
        obtain ⟨its, _, pl, _⟩ := I.list hl
        exact SeqAt.EqAt.list_none pl.isList hu
    · exact eqAt_non I hu t (fun v hv => h v (List.mem_cons_of_mem _ hv)) u' hm
def rInN (K : PySem.W.Frag) : R2 := fun x y H Q => ∃ p xs, x = .non ∧ y = .ref p ∧ SqL K H p xs ∧ (∀ v ∈ xs, NonL K H v) ∧ Q (.bl (xs.any isNn)) H
theorem op_inN (hu : X.A.units + 65 < cLine) : OpR X (compareOp .In) (rInN X.K) := by
  intro pins s σ H x y v u Q I rx ry h
  obtain ⟨p, xs, rfl, rfl, hq, hx, q⟩ := h
  cases rx
  cases ry
  obtain ⟨its, r, pl, hz⟩ := I.list hq
  have hu1 : X.A.in1.units < cLine := by
    have : X.A.in1.units ≤ X.A.units + 1 := by
      first | exact Nat.le_refl _ | (unfold Around.in1; simp) | simp [Around.in1]
    omega
  refine SeqAt.in_listAt isNnU pl.isList (fun w hw => eqAt_non I hu1 r hx w (by simpa using hw)) ⟨.bl _, H, I, rfl, ?_⟩
  rw [show its.toArray.any isNnU = its.any isNnU by simp, any_non r hx]
  exact q
/-- l.index(None): the first place of None -/
def rIndexN (K : PySem.W.Frag) : V → List V → Hp → VK → Prop := fun x xs H Q => ∃ (a : Addr) (ys : List V) (j : Nat), x = V.ref a ∧ xs = [.non] ∧ SqL K H a ys ∧ (∀ v ∈ ys, NonL K H v) ∧ ys[j]? = some .non ∧ (∀ (m : Nat) (z' : V), m < j → ys[m]? = some z' → isNn z' = false) ∧ Q (.int (j : Nat)) H
theorem mt_indexN (hu : X.A.units + 65 < cLine) : MtR X "list.index" (rIndexN X.K) := by
  intro pins s σ H x xs v us Q I rx rxs h
  obtain ⟨a, ys, j, rfl, rfl, hs, fys, hz, hno, q⟩ := h
  cases rx
  cases rxs with
  | cons ry rt =>
    rename_i uy ut
    cases rt
    cases (show uy = .none from ry)
    obtain ⟨its, rv, ⟨⟨cls, dd, data, sl⟩, n, ho, hc, hdn, hd⟩, hlen⟩ := I.list hs
    simp only at hc hd
    subst hc hd
    obtain ⟨u, hu', ru⟩ := rv.get hz
    obtain ⟨hjl, hje⟩ := List.getElem?_eq_some_iff.mp hu'
    have hvl := rv.length
    have hj : j < its.toArray.size := by simpa using hjl
    have hsl := sizeLine_eq
    have hu1 : X.A.in1.units < cLine := by
      have : X.A.in1.units ≤ X.A.units + 1 := by
        first | exact Nat.le_refl _ | (unfold Around.in1; simp) | simp [Around.in1]
      omega
    refine call_meets PySem.F.slot_list_index ⟨_, ho, rfl⟩ PySem.F.entry_list_index (PySem.F.args_list_index_2 _ _)
      (SeqAt.list_indexAt a its.toArray n dd sl .none isNnU j hj (by omega) ?_ ?_) ⟨ho, fun u' hm => eqAt_non I hu1 rv fys u' (by simpa using hm), ?_⟩
    · have e1 : its.toArray[j] = u := by simpa using hje
      rw [e1]
      cases (show u = .none from ru)
      rfl
    · intro m hm hmj
      have hml : m < its.length := by simpa using hm
      have hmy : m < ys.length := by omega
      have hy' : ys[m]? = some ys[m] := List.getElem?_eq_getElem hmy
      obtain ⟨u2, hu2, ru2⟩ := rv.get hy'
      obtain ⟨_, hme⟩ := List.getElem?_eq_some_iff.mp hu2
      have e1 : its.toArray[m] = u2 := by simpa using hme
      rw [e1, isNn_of ru2 (fys _ (List.getElem_mem hmy))]
      exact hno m _ hmj hy'
    · exact ⟨.int (j : Nat), H, I.tok _, ⟨_, rfl⟩, q⟩
end
end LL

set_option Elab.async false
set_option linter.all false
set_option maxRecDepth 100000
set_option maxHeartbeats 4000000
/-! L71i: an attempt ends, as the law reckons. -/
namespace K71
open PySem PySem.Spec PyProof.Rows L2 LL ORD
abbrev s_l_end_right : Stmt := top 36
abbrev n_l_end_right : List Str := ["_law_history", "_law_one", "_law_stale", "_law_cell", "_law_found"]
theorem sc_l_end_right : FnScope n_l_end_right ["_law_history", "_law_one"] (defScope s_l_end_right) := ⟨rfl, rfl, rfl, by decide +kernel, rfl, by decide +kernel, by decide +kernel⟩
def rf3 (k s : Str) : PyData := .tuple [.str k, .str s, .bool true]
theorem rf3_shp {k s : Str} (hk : PyData.strOk k = true) (hs : PyData.strOk s = true) : SeqAt.shaped (rf3 k s) = true := by
  unfold SeqAt.shaped
  simp [rf3, PyData.canLay0, PyData.canLayAll0, hk, hs, PyData.depth, PyData.depthAll]
theorem rf3_eq {k s : Str} (hk : PyData.strOk k = true) (hs : PyData.strOk s = true) : PyData.eqv (rf3 k s) (rf3 k s) = true := SeqAt.eqv_refl _ (by simp [rf3, PyData.canLay0, PyData.canLayAll0, hk, hs])
theorem rf3_dp {K : PySem.W.Frag} {H : Hp} {t : Addr} {k s : Str} (h : H t = some (trp k s)) : Dp K H (.ref t) (rf3 k s) := .tup (SqT.of h) (.cons (.str _) (.cons (.str _) (.cons (.bl _) .nil)))
/-- the tuple that is told equals the one that is due -/
theorem rf3_q {K : PySem.W.Frag} {H : Hp} {t t' : Addr} {k s : Str} {Q : VK} (h : H t = some (trp k s)) (h' : H t' = some (trp k s)) (hk : PyData.strOk k = true) (hs : PyData.strOk s = true) (q : Q (.bl true) H) : rEqD K (.ref t) (.ref t') H Q :=
  ⟨rf3 k s, rf3 k s, rf3_dp h, rf3_dp h', rf3_shp hk hs, rf3_shp hk hs, by rw [rf3_eq hk hs]; exact q⟩
theorem rf3_n {K : PySem.W.Frag} {H : Hp} {t t' : Addr} {k s : Str} {Q : VK} (h : H t = some (trp k s)) (h' : H t' = some (trp k s)) (hk : PyData.strOk k = true) (hs : PyData.strOk s = true) (q : Q (.bl false) H) : rNeD K (.ref t) (.ref t') H Q :=
  ⟨rf3 k s, rf3 k s, rf3_dp h, rf3_dp h', rf3_shp hk hs, rf3_shp hk hs, by rw [rf3_eq hk hs]; exact q⟩
theorem srt_uniq : ∀ {l m : List Str}, l.Perm m → (l.Pairwise fun a b => ¬ lt' b a) → (m.Pairwise fun a b => ¬ lt' b a) → l = m
  | [], m, h, _, _ => (List.Perm.nil_eq h)
  | x :: l, [], h, _, _ => absurd h.length_eq (by simp)
  | x :: l, y :: m, h, hl, hm => by
    have e : x = y := by
      rcases List.mem_cons.mp (h.mem_iff.mp (List.mem_cons_self (a := x) (l := l))) with e | hx
      · exact e
      · rcases List.mem_cons.mp (h.mem_iff.mpr (List.mem_cons_self (a := y) (l := m))) with e | hy
        · exact e.symm
        · have a := (List.pairwise_cons.mp hm).1 x hx
          have b := (List.pairwise_cons.mp hl).1 y hy
          rcases lt_tri x y with q | q | q
          · exact absurd q a
          · exact q
          · exact absurd q b
    subst e
    rw [srt_uniq h.cons_inv (List.pairwise_cons.mp hl).2 (List.pairwise_cons.mp hm).2]
theorem sortS_uniq {xs ys zs : List Str} (p : xs.Perm zs) (q : ys.Perm zs) (a : sortedS xs = true) (b : sortedS ys = true) : xs = ys := srt_uniq (p.trans q.symm) (srtS a) (srtS b)
instance {h : Hs} {D : List (Str × Int)} {c : Str} : Decidable (Stl h D c) := by unfold Stl; infer_instance
section
variable {P : Program} {w : World} {K : PySem.W.Frag} {mg : Str → Option Value} {base : Heap} {CE CH CO CI CN CB CV CS CL CA : Addr} {f : Addr} {fd : FuncData} {Tb : List (Addr × Str)} {c Pt : Addr}
theorem RecAt.over {q : Addr} {H H' : Hp} {r : Rec} {S : List Addr} (h : RecAt CA q H r) (b : Bs S H H') (m : ∀ a ∈ r.as, a ≠ r.att → a ∉ S) (at_ : AtAt CA H' r.att q r.lane r.pl r.dv r.dw true) : RecAt CA q H' (r.wth r.D r.W true) := by
  have nd := h.nd
  simp only [Rec.as, List.nodup_cons, List.mem_cons, List.not_mem_nil, or_false, not_or, List.nodup_nil, and_true, not_false_eq_true] at nd
  obtain ⟨⟨n1, n2, n3, n4, n5⟩, ⟨n6, n7, n8, n9⟩, ⟨n10, n11, n12⟩, ⟨n13, n14⟩, n15⟩ := nd
  simp only [Rec.as, List.mem_cons, List.not_mem_nil, or_false, forall_eq_or_imp, forall_eq] at m
  obtain ⟨m1, m2, m3, m4, m5, m6⟩ := m
  exact ⟨lst_bs h.one b (m1 n1), at_, dk_bs h.dv b (m3 (Ne.symm n6)), dk_bs h.dw b (m4 (Ne.symm n7)), dk_bs h.ld b (m5 (Ne.symm n8)), lst_bs h.ll b (m6 (Ne.symm n9)), h.nd⟩
theorem code_ref {x qual : Str} {params : Arguments} {body : List Stmt} {scope : Scope} {dvs : List V} {kws : List (Str × V)} (F : FunD K x qual params body scope dvs kws f fd) : (fdAt K f).map FuncData.code = some (.ref (cOf K f)) := by
  obtain ⟨oc, od, dV, kV, doc, pm, an, cdv, ct, osl, rfl, lk, hcd, _, _⟩ := F.ex
  obtain ⟨c, rfl⟩ := He.codeIn_ref hcd
  have e : (fdAt K f).map FuncData.code = some (.ref c) := by
    unfold fdAt
    rw [lk]
    rfl
  rw [cOf_of e]
  exact e
def lamE : Str := (envOfC "_law_end_right" (defScope s_l_end_right) 0 0 .none).qual ++ "<lambda>"
def spEndR (CL CA : Addr) (Tb : List (Addr × Str)) : Sp := fun vs H Q _ => ∃ (q hl da hL : Addr) (n k : Nat) (us us' : List V) (h : Hs) (r : Rec), vs = [.ref hL, .ref r.one] ∧ RecAt CA q H r ∧ r.over = false ∧ LgAt CL H q n hl da k ∧ q ∉ r.as ∧ H hl = some (.lst us) ∧ Fps H us h ∧ H hL = some (.lst us') ∧ Fps H us' h ∧
  hL ≠ hl ∧ hl ∉ r.as ∧ hL ∉ r.as ∧ h.length ≤ 1000 ∧ r.D.length < 64 ∧ (∀ c ∈ r.D.map (·.1), CellOk c) ∧ r.W.length < 64 ∧ LamX.Tabs Tb H ∧
  (∀ H', LamX.Tabs Tb H' → Bs [r.att] H H' → RecAt CA q H' (r.wth r.D r.W true) → Q (.bl true) H') ∧
  (∀ H' v v' f, LamX.Tabs Tb H' → Bs [r.att, hl, hL] H H' → RecAt CA q H' (r.wth r.D r.W true) → H' hl = some (.lst (us ++ [v])) → H' hL = some (.lst (us' ++ [v'])) → FpAt H' v f → FpAt H' v' f → f.lane = r.lane → f.rd.Perm (r.D.map (·.1)) → sortedS f.rd = true → f.wr.Perm r.W → sortedS f.wr = true → Q (.bl true) H')
theorem ok_l_end_right (T : Tx K mg CE CH CO) (S : Tz K mg CL CA) (G_l_newest : Fnc P w K mg base CX0 1 "_law_newest" [] spNwl) (M_end : Mth P w K mg base (L2.CX P w) 5 CA "end" [] (spEnd CL CA CV CS)) (G_l_told : Taker P w K mg base 8 "_law_told" "_law_call" (TTr K CO CI CN CB CV CS)) (F : FD K "_law_end_right" "_law_end_right" s_l_end_right [] f fd)
    (TB : LamX.TabB base mg (cOf K f) (tOf K f)) (hmT : (tOf K f, lamE) ∈ Tb) (huT : ∀ p ∈ Tb, p.1 = tOf K f → p.2 = lamE) : FnG P w K mg base CX0 10 f fd ["_law_history", "_law_one"] (spEndR CL CA Tb) := by
  refine okC F sc_l_end_right (fun vs H Q E h => ?_) (fun cdv ec A outer s H vs Q E hr h => ?_)
  · obtain ⟨q, hl, da, hL, n, k, us, us', h, r, rfl, _⟩ := h
    rfl
  · obtain ⟨q, hl, da, hL, n, k, us, us', h, r, rfl, ra, ov, lg, nq, hu, fps, hU, fpU, nll, nhl, nhL, l9, lD, okD, lW, tb, Q1, Q2⟩ := h
    have ecd : cdv = .ref (cOf K f) := Option.some.inj (ec.symm.trans (code_ref F))
    subst ecd
    have hcode : (cxOf CX0 P w K mg base n_l_end_right "_law_end_right" (defScope s_l_end_right) f (.ref (cOf K f)) A outer s H E).nox.env.code = .ref (cOf K f) := rfl
    refine ⟨_, (pss_cons (ps_setLc (i := 2) (own := [("_law_cell", 3)]) rfl sc_l_end_right.nd rfl rfl (sw_true rfl rfl rfl (by decide +kernel)) (pi_list (pe_callB (call_sortedD rfl) (by rfl) T.n_sorted (by decide +kernel) (pa_cons (pe_ix ix_list (pv 1) pe_int (fun _ _ => rfl)) pa_nil))) (blkOk_by (own := [("_law_cell", 3)]) (N := n_l_end_right) (sc := defScope s_l_end_right) (by decide +kernel)) (fun _ _ _ _ _ => (pg_name (i := 3) sc_l_end_right.nd rfl (by first | exact Or.inl rfl | exact Or.inr rfl))) (fun _ _ _ _ _ => (pts_one (pt_cmpR op_ne (pe_fn G_l_newest (hr.mono (by decide)) pass0 (pa_cons (pv 0) (pa_cons (pe_callB (call_len_seqK (K := K) (by rfl)) (by rfl) T.n_len (by decide +kernel) (pa_cons (pv 0) pa_nil)) (pa_cons (pv 3) pa_nil)))) (pe_dget (un1 hr.r.units) (pe_ix (ix_listK (K := K) (by rfl)) (pv 1) pe_int (fun _ _ => rfl)) (pv 3) (fun _ _ => rfl)) (nomark _)))) (fun _ _ _ _ _ => (pv 3)))
      (pss_cons (ps_set (i := 4) sc_l_end_right.nd rfl (by first | exact Or.inl rfl | exact Or.inr rfl) (pe_lamG G_l_told TB hcode hmT huT (hr.mono (by decide)) (LamX.lamS_by (sc := defScope s_l_end_right) (by decide +kernel)) (fun _ _ _ _ _ _ _ hr => (pe_mt0 M_end (hr.mono (by decide)) (passes_call (takes_of rfl rfl rfl rfl) (fun _ _ _ _ h => h)) (pe_ix (ix_listK (K := K) (by rfl)) (pv 1) pe_int (fun _ _ => rfl))))))
      (pss_cons (ps_if (pt_cmpR (op_neD hr.r.units) (pv 2) (pe_lst pa_nil) (nomark _)) (pss_one (ps_ret (pe_cmpR (op_eqD hr.r.units) (pv 4) (pe_tup (pa_cons pe_str (pa_cons (pe_callB (call_reprV (K := K) (by rfl) hr.g hr.r.units) (by rfl) T.n_repr (by decide +kernel) (pa_cons (pe_ix ix_list (pv 2) pe_int (fun _ _ => rfl)) pa_nil)) (pa_cons pe_bl pa_nil)))) (nomark _)))) pss_nil)
      (pss_cons (ps_expr (pe_bm PySem.F.plainAttrs_list PySem.F.slot_list_append PySem.F.type_list_append mt_append (pv 0) (pa_cons (pe_tup (pa_cons (pe_ix ix_list (pv 1) pe_int (fun _ _ => rfl)) (pa_cons (pe_callTy call_tuple_of (by rfl) T.n_tuple (by decide +kernel) (pa_cons (pe_callB (call_sortedD rfl) (by rfl) T.n_sorted (by decide +kernel) (pa_cons (pe_ix ix_list (pv 1) pe_int (fun _ _ => rfl)) pa_nil)) pa_nil)) (pa_cons (pe_callTy call_tuple_of (by rfl) T.n_tuple (by decide +kernel) (pa_cons (pe_callB cr_sortedS (by rfl) T.n_sorted (by decide +kernel) (pa_cons (pe_ix ix_list (pv 1) pe_int (fun _ _ => rfl)) pa_nil)) pa_nil)) pa_nil)))) pa_nil)))
      (pss_one (ps_ret (pe_cmpR (op_eqD hr.r.units) (pv 4) (pe_tup (pa_cons pe_str (pa_cons (pe_op op_sub (pe_callB call_len_seq (by rfl) T.n_len (by decide +kernel) (pa_cons (pv 0) pa_nil)) pe_int) pa_nil))) (nomark _)))))))), ?_⟩
    -- what is stale
    refine ⟨_, rfl, r.one, _, _, _, rfl, rfl, SqL.of ra.one, atI_nat (j := 3) rfl, r.ld, _, r.D.map (·.1), rfl, .inl ra.ld, by unfold dV; rw [List.map_map, List.map_map]; rfl, by rw [List.length_map]; omega, fun ys a2 pm srt n2 => ?_⟩
    obtain ⟨G2, e, s2, k2⟩ := mkO n2 (.lst (ys.map V.str))
    rw [e]
    clear e
    refine ⟨a2, rfl, ⟨_, SqL.of k2⟩, fun D hD => ?_⟩
    refine lc_acc (walk_list (K := K) (a := a2) (xs := ys.map V.str)) hD (fun i => ((ys.take i).filter fun c => decide (Stl h r.D c)).map V.str) rfl (fun i hi => ?_) (fun H' s' => SqL.of (s' _ _ k2)) ?_ ?_
    · rw [List.length_map]
      refine Nat.le_trans (List.length_filter_le _ _) ?_
      rw [List.length_take]
      rw [List.length_map, pm.length_eq, List.length_map] at hi
      omega
    · rintro i x H3 H4 hi s3 ⟨rfl, hx⟩ N S' hN hS
      rw [List.getElem?_map] at hx
      obtain ⟨c, hc, rfl⟩ := Option.map_eq_some_iff.mp hx
      have cm : c ∈ r.D.map (·.1) := pm.mem_iff.mp (List.mem_of_getElem? hc)
      obtain ⟨j, hj⟩ := dGet_mem cm
      have s23 := s2.trans s3
      refine ⟨rfl, _, rfl, _, rfl, hL, us', rfl, .inl (SqL.of (s23 _ _ hU)), _, rfl, hL, us', h, h.length, c, by rw [fpU.len]; rfl, s23 _ _ hU, fpU.same s23, Nat.le_refl _, l9, fun H5 s5 => ?_⟩
      have s25 := s23.trans s5
      have dg := DGet.k (k := Sum.inr c) (s25 _ _ ra.ld)
      rw [dV_get, hj] at dg
      refine ⟨_, rfl, r.one, _, _, _, rfl, rfl, SqL.of (s25 _ _ ra.one), atI_nat (j := 3) rfl, _, rfl, r.ld, _, rfl, dg, rfl, _, rfl, ?_⟩
      have et := take_fil (fun c => decide (Stl h r.D c)) hc
      by_cases e : oi (lw h h.length c) = j
      · have st : ¬ Stl h r.D c := fun z => z (by rw [hj, e])
        rw [if_neg (by rw [decide_eq_false st]; exact Bool.false_ne_true), List.append_nil] at et
        exact iteN (by rw [e]; simp) (hS _ s5 (congrArg (List.map V.str) et))
      · have st : Stl h r.D c := fun z => e (Option.some.inj (hj.symm.trans z)).symm
        rw [if_pos (decide_eq_true st)] at et
        refine iteY (by simp [e]) ⟨_, rfl, hN _ _ s5 ?_⟩
        show List.map V.str _ = List.map V.str _ ++ [V.str c]
        rw [et, List.map_append]
        rfl
    intro H3 s3 h3
    rw [List.take_of_length_le (by rw [List.length_map]; exact Nat.le_refl _)] at h3
    obtain ⟨stl, est⟩ : ∃ stl, stl = ys.filter fun c => decide (Stl h r.D c) := ⟨_, rfl⟩
    rw [← est] at h3
    refine nm_of ?_
    dsimp only
    have s03 := s2.trans s3
    have tb3 := tabs_same tb s03
    -- the end is told
    refine seq_cut (fun σ' H' => ∃ t u, σ' = [some (.ref hL), some (.ref r.one), some (.ref D), u, some (.ref t)] ∧ LamX.Tabs Tb H' ∧
      ((∃ c l, stl = c :: l ∧ H' t = some (trp "stale" (PyData.shown (.str c))) ∧ Bs [r.att] H3 H' ∧ AtAt CA H' r.att q r.lane r.pl r.dv r.dw true) ∨
       (stl = [] ∧ ∃ tt t1 t2 ys zs, H' t = some (.tup [.str "told", .int (us.length : Nat)]) ∧ Bs [r.att, hl] H3 H' ∧ AtAt CA H' r.att q r.lane r.pl r.dv r.dw true ∧ H' hl = some (.lst (us ++ [.ref tt])) ∧ H' tt = some (.tup [.int (r.lane : Nat), .ref t1, .ref t2]) ∧ H' t1 = some (.tup (ys.map V.str)) ∧ H' t2 = some (.tup (zs.map V.str)) ∧ ys.Perm (r.D.map (·.1)) ∧ sortedS ys = true ∧ zs.Perm r.W ∧ sortedS zs = true))) (fun N hN => ?_) ?_
    · refine ⟨tb3, fun H6 eN tb6 R hR t0 n0 => ?_⟩
      obtain ⟨G7, e, s7, k7⟩ := mkO n0 (.tup [.str "told", .non])
      rw [e]
      clear e
      have e7 : LamX.ExtN H3 G7 := eN.trans (.of s7)
      have e07 : LamX.ExtN H G7 := (LamX.ExtN.of s03).trans e7
      have tb7 := tabs_same tb6 s7
      have b7 : Bs [] H G7 := .ext e07
      have ra7 : RecAt CA q G7 r := ra.bs b7 (fun _ _ z => by cases z)
      have fps7 : Fps G7 us h := fps.bs b7 .nil
      have hu7 := lst_bs hu b7 (fun z => by cases z)
      obtain ⟨dx, fs, hp7, af⟩ := id ra7.att
      have sv : SoftAt [r.att] G7 := .cons hp7 .i .nil
      refine ⟨_, rfl, r.one, _, _, _, rfl, rfl, SqL.of ra7.one, atI_nat (j := 0) rfl, r.att, dx, fs, rfl, hp7, af.no "end" (by decide +kernel) (by decide +kernel) (by decide +kernel) (by decide +kernel) (by decide +kernel) (by decide +kernel), ?_⟩
      refine ⟨r.att, q, r.dv, r.dw, hl, da, r.lane, r.pl, n, k, r.over, us, h, r.D, r.W, rfl, ra7.att, lg.bs b7 (fun z => by cases z), fun z => nq (by rw [z]; simp [Rec.as]), hu7, fps7, l9, ra7.dv, lD, okD, ra7.dw, lW, (fun z => by rw [ov] at z; cases z), fun _ G8 b8 at8 c cm st first => ?_, fun _ nst G8 tt t1 t2 ys' zs' b8 at8 g1 g2 g3 g4 pm1 sr1 pm2 sr2 => ?_⟩
      · have ok := okD c cm
        refine er_told (tld_str ok.okt (by have := ok.2.1; omega)) (.inr (.inr (.inr (.inr ⟨rfl, rfl, rfl⟩)))) fun G9 t s9 nt ht => nm_of ?_
        have hm : c ∈ stl := by rw [est]; exact List.mem_filter.mpr ⟨pm.mem_iff.mpr cm, decide_eq_true st⟩
        have psr : stl.Pairwise fun a b => ¬ lt' b a := by rw [est]; exact (srtS srt).filter _
        have ex : ∃ l, stl = c :: l := by
          cases stl with
          | nil => cases hm
          | cons x l =>
            refine ⟨l, ?_⟩
            have hx : x ∈ ys.filter fun c => decide (Stl h r.D c) := by rw [← est]; exact List.mem_cons_self ..
            obtain ⟨m1, m2⟩ := List.mem_filter.mp hx
            have sx : Stl h r.D x := of_decide_eq_true m2
            have mx := pm.mem_iff.mp m1
            rcases List.mem_cons.mp hm with e | e
            · rw [e]
            · have n1 := (List.pairwise_cons.mp psr).1 c e
              rcases lt_tri x c with z | z | z
              · exact absurd sx (first x mx z)
              · rw [z]
              · exact absurd z n1
        obtain ⟨l, el⟩ := ex
        refine hN _ _ ⟨t, _, rfl, tabs_same (tabs_bx tb7 (.but b8 (List.mem_singleton.mpr rfl)) sv) s9, .inl ⟨c, l, el, ht, ?_, at8.same s9⟩⟩
        exact ((Bs.ext e7).trans (.but b8 (List.mem_singleton.mpr rfl))).trans (.same s9)
      · have st0 : stl = [] := by
          rw [est]
          exact List.filter_eq_nil_iff.mpr fun c hc z => nst c (pm.mem_iff.mp hc) (of_decide_eq_true z)
        refine hR _ _ fun t nt => nm_of ?_
        have s9 := same_upd (o := .tup [.str "told", .int (us.length : Nat)]) nt
        have sv2 : SoftAt [r.att, hl] G7 := .cons hp7 .i (.cons hu7 .l .nil)
        refine hN _ _ ⟨t, _, rfl, tabs_same (tabs_bx tb7 (.but2 b8 (by simp) (by simp)) sv2) s9, .inr ⟨st0, tt, t1, t2, ys', zs', upd_same, ?_, at8.same s9, s9 _ _ g1, s9 _ _ g2, s9 _ _ g3, s9 _ _ g4, pm1, sr1, pm2, sr2⟩⟩
        exact ((Bs.ext e7).trans (.but2 b8 (by simp) (by simp))).trans (.same s9)
    rintro σ4 H4 ⟨t, u, rfl, tb4, hcase⟩
    have hdn : H D = none := s2.free hD
    obtain ⟨dx0, fs0, hp0, _⟩ := id ra.att
    have ndp : D ≠ r.att := (ne_of_none hp0 hdn).symm
    have ndh : D ≠ hl := (ne_of_none hu hdn).symm
    have b34 : Bs [r.att, hl] H3 H4 := by
      rcases hcase with ⟨_, _, _, _, b, _⟩ | ⟨_, _, _, _, _, _, _, b, _⟩
      · exact b.mono fun x hx => by rw [List.mem_singleton.mp hx]; simp
      · exact b
    have hD4 : H4 D = some (.lst (stl.map V.str)) := lst_bs h3 b34 (by simp [ndp, ndh])
    have okS : ∀ c ∈ stl, CellOk c := fun c hc => by
      rw [est] at hc
      exact okD c (pm.mem_iff.mp (List.mem_filter.mp hc).1)
    have pnS : Pn 1 (.list (stl.map PyData.str)) := pn_lst fun d hd => by
      obtain ⟨c, hc, rfl⟩ := List.mem_map.mp hd
      exact (okS c hc).okt
    refine ⟨_, rfl, (by show 0 ≤ sizeLine; decide), fun lE nE => ?_⟩
    obtain ⟨G5, e, s5, kE⟩ := mkO nE (.lst [])
    rw [e]
    clear e
    have hD5 := s5 _ _ hD4
    refine ne_pd (d := .list (stl.map PyData.str)) (e := .list []) (.lst (SqL.of hD5) (dpa_map fun c _ => .str c)) (.lst (SqL.of kE) .nil) pnS (pn_lst (n := 0) fun _ z => by cases z) fun bb hbb => ⟨_, rfl, ?_⟩
    have kst : PyData.strOk "stale" = true := by decide +kernel
    rcases hcase with ⟨c, l, el, ht, b4, at4⟩ | ⟨e0, tt, t1, t2, ys', zs', ht, b4, at4, g1, g2, g3, g4, pm1, sr1, pm2, sr2⟩
    · have bf : bb = false := Bool.eq_false_iff.mpr fun z => by
        have := PyData.list.inj (hbb.mp z)
        rw [el] at this
        cases this
      rw [bf]
      have okc := okS c (by rw [el]; exact List.mem_cons_self ..)
      have tl : Tld K G5 (.str c) (.str c) := tld_str okc.okt (by have := okc.2.1; omega)
      have hD6 : G5 D = some (.lst (V.str c :: l.map V.str)) := by rw [el] at hD5; exact hD5
      refine iteT ⟨_, rfl, _, rfl, D, _, _, _, rfl, rfl, SqL.of hD6, atI_nat (j := 0) rfl, _, .str c, rfl, tl.2 _ (.refl _), (by show 3 ≤ sizeLine; decide), fun t' nt' => ?_⟩
      refine rf3_q (same_upd nt' _ _ (s5 _ _ ht)) upd_same kst (okt_repr okc.okt) ?_
      have s6 := s5.trans (same_upd (o := trp "stale" (PyData.shown (.str c))) nt')
      have b06 : Bs [r.att] H (upd G5 t' (trp "stale" (PyData.shown (.str c)))) := ((Bs.same s03).trans b4).trans (.same s6)
      exact Q1 _ (tabs_same tb4 s6) b06 (ra.over b06 (fun a _ n m => n (List.mem_singleton.mp m)) (at4.same s6))
    · rw [hbb.mpr (by rw [e0]; rfl)]
      refine iteF (nx_of ?_)
      dsimp only
      have b05 : Bs [r.att, hl] H G5 := ((Bs.same s03).trans b4).trans (.same s5)
      have nd := ra.nd
      simp only [Rec.as, List.nodup_cons, List.mem_cons, List.not_mem_nil, or_false, not_or, List.nodup_nil, and_true, not_false_eq_true] at nd nhl nhL
      have ra5 := ra.over b05 (fun a ha n m => by
        rcases List.mem_cons.mp m with e | m
        · exact n e
        · rw [List.mem_singleton.mp m] at ha
          simp only [Rec.as, List.mem_cons, List.not_mem_nil, or_false] at ha
          simp [nhl] at ha) (at4.same s5)
      have hU5 : G5 hL = some (.lst us') := lst_bs hU b05 (by simp [nll, nhL])
      have one5 := ra5.one
      have one5 : G5 r.one = some (.lst [.ref r.att, .int (r.lane : Nat), .int (r.pl : Nat), .ref r.ld, .ref r.ll]) := ra5.one
      have ld5 : G5 r.ld = some (.dK (dV r.D)) := ra5.ld
      have ll5 : G5 r.ll = some (.lst (r.W.map V.str)) := ra5.ll
      refine ⟨_, rfl, .inl ⟨rfl, _, SqL.of hU5⟩, _, rfl, r.one, _, _, _, rfl, rfl, SqL.of one5, atI_nat (j := 1) rfl, _, rfl, r.one, _, _, _, rfl, rfl, SqL.of one5, atI_nat (j := 3) rfl, r.ld, _, r.D.map (·.1), rfl, .inl ld5, by unfold dV; rw [List.map_map, List.map_map]; rfl, by rw [List.length_map]; omega, fun ys3 a3 pm3 srt3 n3 => ?_⟩
      obtain ⟨G6, e, s6, k6⟩ := mkO n3 (.lst (ys3.map V.str))
      rw [e]
      clear e
      refine ⟨a3, _, rfl, .inl ⟨SqL.of k6, fun p1 np1 => ?_⟩⟩
      obtain ⟨G7, e, s7, k7⟩ := mkO np1 (.tup (ys3.map V.str))
      rw [e]
      clear e
      have s57 := s6.trans s7
      refine ⟨_, rfl, r.one, _, _, _, rfl, rfl, SqL.of (s57 _ _ one5), atI_nat (j := 4) rfl, r.ll, r.W, rfl, SqL.of (s57 _ _ ll5), lW, fun zs3 a4 pm4 srt4 n4 => ?_⟩
      obtain ⟨G8, e, s8, k8⟩ := mkO n4 (.lst (zs3.map V.str))
      rw [e]
      clear e
      refine ⟨a4, _, rfl, .inl ⟨SqL.of k8, fun p2 np2 => ?_⟩⟩
      obtain ⟨G9, e, s9, k9⟩ := mkO np2 (.tup (zs3.map V.str))
      rw [e]
      clear e
      refine ⟨(by show 3 ≤ sizeLine; decide), fun p3 np3 => ?_⟩
      obtain ⟨G10, e, s10, k10⟩ := mkO np3 (.tup [.int (r.lane : Nat), .ref p1, .ref p2])
      rw [e]
      clear e
      have s510 := ((s57.trans s8).trans s9).trans s10
      have hU10 := s510 _ _ hU5
      refine ⟨hL, _, _, rfl, rfl, hU10, Nat.lt_of_lt_of_le (show _ < 100000 by rw [fpU.len]; omega) (small (Nat.le_refl _)), ?_⟩
      obtain ⟨G11, e11⟩ : ∃ G, upd G10 hL (.lst (us' ++ [.ref p3])) = G := ⟨_, rfl⟩
      rw [e11]
      have b11 : But hL G10 G11 := e11 ▸ but_upd
      have hU11 : G11 hL = some (.lst (us' ++ [.ref p3])) := by rw [← e11, upd_same]
      clear e11
      have ntl : ∀ {x : Addr} {ys : List V}, G10 x = some (.tup ys) → x ≠ hL := fun {x ys} h1 z => by
        rw [z, hU10] at h1
        cases h1
      have k7' := ((s8.trans s9).trans s10) _ _ k7
      have k9' := s10 _ _ k9
      have st10 : G10 t = some (.tup [.str "told", .int (us.length : Nat)]) := (s5.trans s510) _ _ ht
      refine ⟨_, rfl, _, rfl, hL, _, rfl, .inl (SqL.of hU11), _, _, rfl, rfl, (by show 2 ≤ sizeLine; decide), fun t' nt' => ?_⟩
      have pn2 : ∀ i : Int, Pn 1 (.tuple [.str "told", .int i]) := fun i => pn_tup fun d hd => by
        rcases List.mem_cons.mp hd with rfl | hd
        · exact (show PyData.strOk "told" = true by decide +kernel)
        · rw [List.mem_singleton.mp hd]
          trivial
      refine eq_pd (d := .tuple [.str "told", .int (us.length : Nat)]) (e := .tuple [.str "told", .int (((us' ++ [V.ref p3]).length : Nat) - 1)]) (.tup (SqT.of (same_upd nt' _ _ (b11 _ _ st10 (ntl st10)))) (.cons (.str _) (.cons (.int _) .nil))) (.tup (SqT.of upd_same) (.cons (.str _) (.cons (.int _) .nil))) (pn2 _) (pn2 _) fun bb' hbb' => ?_
      have ll : (((us' ++ [V.ref p3]).length : Nat) : Int) - 1 = ((us.length : Nat) : Int) := by
        rw [List.length_append, List.length_singleton, fpU.len, fps.len]
        omega
      rw [hbb'.mpr (by rw [ll])]
      have s11 := same_upd (o := .tup [.str "told", .int ((((us' ++ [V.ref p3]).length : Nat) : Int) - 1)]) nt'
      have bZ : Bs [r.att, hl, hL] H _ := ((b05.mono fun x hx => by rcases List.mem_cons.mp hx with e | e <;> simp [e]; exact .inr (.inl (List.mem_singleton.mp e))).trans (.same s510)).trans ((Bs.but b11 (by simp)).trans (.same s11))
      have tbZ : LamX.Tabs Tb _ := tabs_same (tabs_bx (tabs_same tb4 (s5.trans s510)) (.but b11 (List.mem_singleton.mpr rfl)) (.cons hU10 .l .nil)) s11
      have bS : Bs [hL] G5 _ := (Bs.same s510).trans ((Bs.but b11 (List.mem_singleton.mpr rfl)).trans (.same s11))
      have fr : ∀ {x : Addr} {ys : List V}, G10 x = some (.tup ys) → (upd G11 t' (.tup [.str "told", .int ((((us' ++ [V.ref p3]).length : Nat) : Int) - 1)])) x = some (.tup ys) := fun h1 => s11 _ _ (b11 _ _ h1 (ntl h1))
      have sA := s5.trans s510
      have e1 : ys3 = ys' := sortS_uniq pm3 pm1 srt3 sr1
      have e2 : zs3 = zs' := sortS_uniq pm4 pm2 srt4 sr2
      subst e1 e2
      have hh5 := s5 _ _ g1
      refine Q2 _ (.ref tt) (.ref p3) ⟨r.lane, ys3, zs3⟩ tbZ bZ (ra5.bs bS fun a ha m => ?_) (lst_bs hh5 bS fun m => nll (List.mem_singleton.mp m).symm) (s11 _ _ hU11) ⟨tt, t1, t2, rfl, fr (sA _ _ g2), fr (sA _ _ g3), fr (sA _ _ g4)⟩ ⟨p3, p1, p2, rfl, fr k10, fr k7', fr k9'⟩ rfl pm1 sr1 pm2 sr2
      rw [List.mem_singleton.mp m] at ha
      simp only [Rec.as, Rec.wth, List.mem_cons, List.not_mem_nil, or_false] at ha
      simp [nhL] at ha
end
end K71

set_option Elab.async false
set_option linter.all false
set_option maxRecDepth 100000
set_option maxHeartbeats 4000000
/-! L71j: attempts that are over. -/
namespace K71
open PySem PySem.Spec PyProof.Rows L2 LL ORD
abbrev s_l_over_right : Stmt := top 38
abbrev n_l_over_right : List Str := ["_law_pot_here", "_law_one", "_law_cells_here", "_law_cell", "_law_way"]
theorem sc_l_over_right : FnScope n_l_over_right ["_law_pot_here", "_law_one", "_law_cells_here"] (defScope s_l_over_right) := ⟨rfl, rfl, rfl, by decide +kernel, rfl, by decide +kernel, by decide +kernel⟩
section
variable {P : Program} {w : World} {K : PySem.W.Frag} {mg : Str → Option Value} {base : Heap} {CE CH CO CI CN CB CV CS CL CA : Addr} {f : Addr} {fd : FuncData} {Tb : List (Addr × Str)} {c Pt : Addr}
theorem PotAt.bs {S : List Addr} {H H' : Hp} {p : Addr} (h : PotAt H p) (b : Bs S H H') (m : p ∉ S) : PotAt H' p := let ⟨x, y, e, z⟩ := h; ⟨x, y, lst_bs e b m, z⟩
theorem PotAt.ext {H H' : Hp} {p : Addr} (h : PotAt H p) (b : LamX.ExtN H H') : PotAt H' p := h.bs (S := []) (.ext b) (fun z => by cases z)
theorem tabs_pot {H H' : Hp} {p : Addr} (tb : LamX.Tabs Tb H) (hp : PotAt H p) (b : But p H H') : LamX.Tabs Tb H' := tabs_kp tb (hp.kp b)
theorem ROk.dl {n : Nat} {cs : List Str} {h : Hs} {r : Rec} (R : ROk n cs h r) (C : CsOk cs) : r.D.length ≤ 5 := by
  have := nd_len R.dn R.dc
  rw [List.length_map] at this
  have := C.len
  omega
theorem ROk.wl {n : Nat} {cs : List Str} {h : Hs} {r : Rec} (R : ROk n cs h r) (C : CsOk cs) : r.W.length ≤ 5 := by
  have := nd_len R.wn R.wc
  have := C.len
  omega
def lamO : Str := (envOfC "_law_over_right" (defScope s_l_over_right) 0 0 .none).qual ++ "<lambda>"
def spOvR (CL CA : Addr) (Tb : List (Addr × Str)) : Sp := fun vs H Q _ => ∃ (p : Addr) (F : Fx) (S : Sx) (t i : Nat) (r : Rec), vs = [.ref p, .ref r.one, .ref F.cL] ∧ PotAt H p ∧ Apt F S p ∧ Wd CL CA F S H ∧ Lo F S t ∧ t ≤ 90 ∧ S.rs[i]? = some r ∧ r.over = true ∧ LamX.Tabs Tb H ∧ ∀ H', Bs [p] H H' → PotAt H' p → LamX.Tabs Tb H' → Q (.bl true) H'
theorem ok_l_over_right (T : Tx K mg CE CH CO) (S : Tz K mg CL CA) (G_l_take : Fnc P w K mg base CX0 1 "_law_take" [] spTake) (G_l_pick : Fnc P w K mg base CX0 2 "_law_pick" [] spPick) (P_is_over : Prp P w K mg base CX0 1 CA "is_over" (spOver CA)) (G_l_called : Fnc P w K mg base (L2.CX P w) 6 "_law_called" [] (spCalled K CL CA CV CI)) (G_l_told : Taker P w K mg base 8 "_law_told" "_law_call" (TTr K CO CI CN CB CV CS)) (F : FD K "_law_over_right" "_law_over_right" s_l_over_right [] f fd)
    (TB : LamX.TabB base mg (cOf K f) (tOf K f)) (hmT : (tOf K f, lamO) ∈ Tb) (huT : ∀ p ∈ Tb, p.1 = tOf K f → p.2 = lamO) : FnG P w K mg base CX0 10 f fd ["_law_pot_here", "_law_one", "_law_cells_here"] (spOvR CL CA Tb) := by
  refine okC F sc_l_over_right (fun vs H Q E h => ?_) (fun cdv ec A outer s H vs Q E hr h => ?_)
  · obtain ⟨p, F, S, t, i, r, rfl, _⟩ := h
    rfl
  · obtain ⟨p, F', Z, t, i, r, rfl, hp, ap, W, L, t9, hi, ov, tb, q⟩ := h
    have ecd : cdv = .ref (cOf K f) := Option.some.inj (ec.symm.trans (code_ref F))
    subst ecd
    have hcode : (cxOf CX0 P w K mg base n_l_over_right "_law_over_right" (defScope s_l_over_right) f (.ref (cOf K f)) A outer s H E).nox.env.code = .ref (cOf K f) := rfl
    have C := L.cs
    refine ⟨_, (pss_cons (ps_asg (pe_tup (pa_cons (pe_fn G_l_pick (hr.mono (by decide)) pass0 (pa_cons (pv 0) (pa_cons (pe_op op_cat (pv 2) (pe_lst (pa_cons pe_str pa_nil))) pa_nil))) (pa_cons (pe_fn G_l_take (hr.mono (by decide)) pass0 (pa_cons (pv 0) (pa_cons pe_int pa_nil))) pa_nil))) (pg_tup rfl (pgs_cons (pg_name (i := 3) sc_l_over_right.nd rfl (by first | exact Or.inl rfl | exact Or.inr rfl)) (pgs_cons (pg_name (i := 4) sc_l_over_right.nd rfl (by first | exact Or.inl rfl | exact Or.inr rfl)) pgs_nil))))
      (pss_one (ps_ret (pe_and (pe_cmpR op_isBl (pe_pr P_is_over (hr.mono (by decide)) pass0 (pe_ix ix_list (pv 1) pe_int (fun _ _ => rfl))) pe_bl (nomark _)) (pe_one (pe_cmpR (op_eqD hr.r.units) (pe_lamG G_l_told TB hcode hmT huT (hr.mono (by decide)) (LamX.lamS_by (sc := defScope s_l_over_right) (by decide +kernel)) (fun _ _ _ _ _ _ _ hr => (pe_fn G_l_called (hr.mono (by decide)) (passes_call (takes_of rfl rfl rfl rfl) (fun _ _ _ _ h => h)) (pa_cons (pe_ix (ix_listK (K := K) (by rfl)) (pv 1) pe_int (fun _ _ => rfl)) (pa_cons (pv 4) (pa_cons (pv 3) pa_nil)))))) (pe_tup (pa_cons pe_str (pa_cons pe_str (pa_cons pe_bl pa_nil)))) (nomark _))))))), ?_⟩
    refine ⟨_, rfl, _, rfl, (by show 1 ≤ sizeLine; decide), fun l1 n1 => ?_⟩
    obtain ⟨G1, e, s1, k1⟩ := mkO n1 (.lst [.str "A"])
    rw [e]
    clear e
    refine ⟨F'.cL, l1, _, _, rfl, rfl, s1 _ _ W.cl, k1, ?_, fun l2 n2 => ?_⟩
    · rw [List.length_map]
      exact small (by show _ + 1 ≤ 100000; have := C.len; omega)
    obtain ⟨G2, e, s2, k2⟩ := mkO n2 (.lst (F'.cs.map V.str ++ [.str "A"]))
    rw [e]
    clear e
    have hp2 := (hp.same s1).same s2
    refine ⟨p, _, rfl, hp2, .inl ⟨l2, _, rfl, k2, by simp, by simp; have := C.len; omega, (hp.same s1).ne n2, fun H3 v b3 hp3 hv => ?_⟩⟩
    obtain ⟨z, rfl⟩ : ∃ z, v = .str z := by
      rcases List.mem_append.mp hv with hv | hv
      · obtain ⟨z, _, rfl⟩ := List.mem_map.mp hv
        exact ⟨z, rfl⟩
      · exact ⟨_, List.mem_singleton.mp hv⟩
    refine ⟨_, rfl, p, 4, rfl, hp3, by decide, by decide, fun H4 d b4 hp4 d0 d4 => ?_⟩
    refine ⟨(by show 2 ≤ sizeLine; decide), fun l3 n3 => ?_⟩
    obtain ⟨G5, e, s5, k5⟩ := mkO n3 (.tup [.str z, .int d])
    rw [e]
    clear e
    refine ⟨l3, _, rfl, SqT.of k5, rfl, _, _, rfl, _, _, rfl, rfl, ?_⟩
    have b5 : Bs [p] H G5 := ((Bs.same s1).trans (.same s2)).trans (((Bs.but b3 (by simp)).trans (.but b4 (by simp))).trans (.same s5))
    have hp5 := hp4.same s5
    have tb5 := tabs_same (tabs_pot (tabs_pot (tabs_same (tabs_same tb s1) s2) hp2 b3) hp3 b4) s5
    have W5 : Wd CL CA F' Z G5 := ((((W.same s1).same s2).but hp2 b3 ap).but hp3 b4 ap).same s5
    have ra := W5.rc i r hi
    obtain ⟨dx, fs, hpa, af⟩ := id ra.att
    refine ⟨_, rfl, r.one, _, _, _, rfl, rfl, SqL.of ra.one, atI_nat (j := 0) rfl, r.att, dx, fs, rfl, hpa, r.att, F'.q, r.dv, r.dw, r.lane, r.pl, r.over, rfl, ra.att, ?_⟩
    rw [ov]
    refine ⟨true, true, rfl, rfl, _, rfl, iteY (decide_eq_true rfl) ?_⟩
    refine ⟨tb5, fun H6 eN tb6 R hR t0 n0 => ?_⟩
    obtain ⟨G7, e, s7, k7⟩ := mkO n0 (.tup [.str "told", .non])
    rw [e]
    clear e
    have e7 : LamX.ExtN G5 G7 := eN.trans (.of s7)
    have W7 : Wd CL CA F' Z G7 := W5.ext e7
    have ra7 := W7.rc i r hi
    have R7 := L.rok i r hi
    have hn := L.hn
    have ok : ∀ c ∈ r.D.map (·.1), CellOk c := fun c hc => C.ok c (R7.dc c hc)
    refine ⟨_, rfl, r.one, _, _, _, rfl, rfl, SqL.of ra7.one, atI_nat (j := 0) rfl, _, rfl, _, rfl, ?_⟩
    refine ⟨F'.q, F'.hl, F'.da, F'.n, F'.k, Z.us, Z.h, r, d, .str z, rfl, ra7, W7.lg, W7.q_ne hi, W7.hl, W7.fu, R7.pl, by omega, by have := R7.dl C; omega, ok, by have := R7.wl C; omega, .inl ⟨ov, over_told fun G8 t s8 nt ht => ?_⟩⟩
    refine ⟨(by show 3 ≤ sizeLine; decide), fun t' nt' => ?_⟩
    have s9 := s8.trans (same_upd (o := trp "over" "") nt')
    have kov : PyData.strOk "over" = true := by decide +kernel
    have kem : PyData.strOk "" = true := by decide +kernel
    refine rf3_q (same_upd nt' _ _ ht) upd_same kov kem ?_
    exact q _ (b5.trans ((Bs.ext e7).trans (.same s9))) ((hp5.ext e7).same s9) (tabs_same (tabs_same tb6 s7) s9)
end
end K71

set_option Elab.async false
set_option linter.all false
set_option maxRecDepth 100000
set_option maxHeartbeats 4000000
/-! L71k: calls that must raise. -/
namespace K71
open PySem PySem.Spec PyProof.Rows L2 LL ORD
abbrev s_l_wrong_right : Stmt := top 39
abbrev n_l_wrong_right : List Str := ["_law_pot_here", "_law_ledger", "_law_lanes", "_law_tries", "_law_odd", "_law_lane", "_law_cell", "_law_attempt", "_law_way"]
theorem sc_l_wrong_right : FnScope n_l_wrong_right ["_law_pot_here", "_law_ledger", "_law_lanes", "_law_tries"] (defScope s_l_wrong_right) := ⟨rfl, rfl, rfl, by decide +kernel, rfl, by decide +kernel, by decide +kernel⟩
section
variable {P : Program} {w : World} {K : PySem.W.Frag} {mg : Str → Option Value} {base : Heap} {CE CH CO CI CN CB CV CS CL CA : Addr} {f : Addr} {fd : FuncData} {Tb : List (Addr × Str)} {c Pt : Addr}
theorem kitF {a b : String} (h : PySem.W.kitOne K (.type a) (.type b) = some false) : PySem.W.kitOne K (.type a) (.type b) = some false := h
theorem noK_non {T : String} (h : PySem.W.kitOne K (.type "NoneType") (.type T) = some false) {H : Hp} : NoK K T H .non := ⟨_, fun _ _ => .base .non, h⟩
theorem noK_int {T : String} (h : PySem.W.kitOne K (.type "int") (.type T) = some false) {H : Hp} (i : Int) : NoK K T H (.int i) := ⟨_, fun _ _ => .base (.int i), h⟩
theorem noK_bl {T : String} (h : PySem.W.kitOne K (.type "bool") (.type T) = some false) {H : Hp} (b : Bool) : NoK K T H (.bl b) := ⟨_, fun _ _ => .base (.bl b), h⟩
theorem noK_str {T : String} (h : PySem.W.kitOne K (.type "str") (.type T) = some false) {H : Hp} (z : Str) : NoK K T H (.str z) := ⟨_, fun _ _ => .base (.str z), h⟩
theorem noK_tup {T : String} (h : PySem.W.kitOne K (.type "tuple") (.type T) = some false) {H : Hp} {a : Addr} {xs : List V} (e : H a = some (.tup xs)) : NoK K T H (.ref a) := ⟨_, fun _ s => .base (.tup (tup_ext e s)), h⟩
theorem noK_lst {T : String} (h : PySem.W.kitOne K (.type "list") (.type T) = some false) {H : Hp} {a : Addr} {xs : List V} (e : H a = some (.lst xs)) : NoK K T H (.ref a) := ⟨_, fun _ s => .base (.lst (lst_ext e s)), h⟩
theorem BadLn.ext {H H' : Hp} {v : V} {n : Nat} (h : BadLn K H v n) (s : LamX.ExtN H H') : BadLn K H' v n := h.imp (·.ext s) id
/-- no lane, and what repr tells of it -/
def OddLn (K : PySem.W.Frag) (H : Hp) (v : V) (n : Nat) : Prop := BadLn K H v n ∧ ∃ d, Tld K H v d
def OddCl (K : PySem.W.Frag) (H : Hp) (v : V) : Prop := CellV K H v false ∧ ∃ d, Tld K H v d
theorem tld_ta {H : Hp} {l : Addr} (hl : H l = some (.tup [.str "a"])) : Tld K H (.ref l) (.tuple [.str "a"]) := by
  have := hl
  exact ⟨by decide +kernel, fun H' s => dq_of (.tup (SqT.of (tup_ext hl s)) (.cons (.str _) .nil)) (by simp only [Shw]; exact ⟨asc_of _, trivial⟩) (by decide +kernel) (by decide +kernel)⟩
def lamW : Str := (envOfC "_law_wrong_right" (defScope s_l_wrong_right) 0 0 .none).qual ++ "<lambda>"
def spWgR (CL CA : Addr) (Tb : List (Addr × Str)) : Sp := fun vs H Q _ => ∃ (p : Addr) (F : Fx) (S : Sx) (t : Nat), vs = [.ref p, .ref F.q, .int (F.n : Nat), .ref F.tL] ∧ PotAt H p ∧ Apt F S p ∧ Wd CL CA F S H ∧ Lo F S t ∧ t ≤ 90 ∧ LamX.Tabs Tb H ∧ ∀ H', Bs [p] H H' → PotAt H' p → LamX.Tabs Tb H' → Q (.bl true) H'
theorem ok_l_wrong_right (T : Tx K mg CE CH CO) (S : Tz K mg CL CA) (G_l_take : Fnc P w K mg base CX0 1 "_law_take" [] spTake) (G_l_pick : Fnc P w K mg base CX0 2 "_law_pick" [] spPick) (M_begin : Mth P w K mg base (L2.CX P w) 5 CL "begin" [] (spBeg K CL CA CN CB)) (M_newest : Mth P w K mg base (L2.CX P w) 4 CL "newest" [] (spNew K CL CI)) (G_l_called : Fnc P w K mg base (L2.CX P w) 6 "_law_called" [] (spCalled K CL CA CV CI)) (G_l_told : Taker P w K mg base 8 "_law_told" "_law_call" (TTr K CO CI CN CB CV CS)) (F : FD K "_law_wrong_right" "_law_wrong_right" s_l_wrong_right [] f fd)
    (TB : LamX.TabB base mg (cOf K f) (tOf K f)) (hmT : (tOf K f, lamW) ∈ Tb) (huT : ∀ p ∈ Tb, p.1 = tOf K f → p.2 = lamW) : FnG P w K mg base CX0 10 f fd ["_law_pot_here", "_law_ledger", "_law_lanes", "_law_tries"] (spWgR CL CA Tb) := by
  refine okC F sc_l_wrong_right (fun vs H Q E h => ?_) (fun cdv ec A outer s H vs Q E hr h => ?_)
  · obtain ⟨p, F, S, t, rfl, _⟩ := h
    rfl
  · obtain ⟨p, F', Z, t, rfl, hp, ap, W, L, t9, tb, q⟩ := h
    have ecd : cdv = .ref (cOf K f) := Option.some.inj (ec.symm.trans (code_ref F))
    subst ecd
    have hcode : (cxOf CX0 P w K mg base n_l_wrong_right "_law_wrong_right" (defScope s_l_wrong_right) f (.ref (cOf K f)) A outer s H E).nox.env.code = .ref (cOf K f) := rfl
    have C := L.cs
    have n8 := L.n8
    have n1 := L.n1
    refine ⟨_, (pss_cons (ps_set (i := 4) sc_l_wrong_right.nd rfl (by first | exact Or.inl rfl | exact Or.inr rfl) (pe_fn G_l_pick (hr.mono (by decide)) pass0 (pa_cons (pv 0) (pa_cons (pe_lst (pa_cons (pe_un un_neg pe_int) (pa_cons (pv 2) (pa_cons (pe_op op_add (pv 2) pe_int) (pa_cons pe_bl (pa_cons pe_bl (pa_cons pe_non (pa_cons pe_str (pa_cons (pe_tup (pa_cons pe_int pa_nil)) (pa_cons (pe_lst pa_nil) pa_nil)))))))))) pa_nil))))
      (pss_cons (ps_set (i := 5) sc_l_wrong_right.nd rfl (by first | exact Or.inl rfl | exact Or.inr rfl) (pe_fn G_l_take (hr.mono (by decide)) pass0 (pa_cons (pv 0) (pa_cons (pv 2) pa_nil))))
      (pss_cons (ps_if (PW.pt (pw_and (pt_cmpR op_eq (pe_fn G_l_take (hr.mono (by decide)) pass0 (pa_cons (pv 0) (pa_cons pe_int pa_nil))) pe_int (nomark _)) (pw_and1 (pt_cmpR op_notN (pe_ix ix_list (pv 3) (pv 5) (fun _ _ => rfl)) pe_non (nomark _))))) (pss_one (ps_ret (pe_cmpR (op_eqD hr.r.units) (pe_lamG G_l_told TB hcode hmT huT (hr.mono (by decide)) (LamX.lamS_by (sc := defScope s_l_wrong_right) (by decide +kernel)) (fun _ _ _ _ _ _ _ hr => (pe_mt M_begin (hr.mono (by decide)) (passes_call (takes_of rfl rfl rfl rfl) (fun _ _ _ _ h => h)) (pv 1) (pa_cons (pv 5) pa_nil)))) (pe_tup (pa_cons pe_str (pa_cons (pe_callB (call_reprV (K := K) (by rfl) hr.g hr.r.units) (by rfl) T.n_repr (by decide +kernel) (pa_cons (pv 5) pa_nil)) (pa_cons pe_bl pa_nil)))) (nomark _)))) pss_nil)
      (pss_cons (ps_if (pt_cmpR op_eq (pe_fn G_l_take (hr.mono (by decide)) pass0 (pa_cons (pv 0) (pa_cons pe_int pa_nil))) pe_int (nomark _)) (pss_one (ps_ret (pe_cmpR (op_eqD hr.r.units) (pe_lamG G_l_told TB hcode hmT huT (hr.mono (by decide)) (LamX.lamS_by (sc := defScope s_l_wrong_right) (by decide +kernel)) (fun _ _ _ _ _ _ _ hr => (pe_mt M_begin (hr.mono (by decide)) (passes_call (takes_of rfl rfl rfl rfl) (fun _ _ _ _ h => h)) (pv 1) (pa_cons (pv 4) pa_nil)))) (pe_tup (pa_cons pe_str (pa_cons (pe_callB (call_reprV (K := K) (by rfl) hr.g hr.r.units) (by rfl) T.n_repr (by decide +kernel) (pa_cons (pv 4) pa_nil)) (pa_cons pe_bl pa_nil)))) (nomark _)))) pss_nil)
      (pss_cons (ps_set (i := 6) sc_l_wrong_right.nd rfl (by first | exact Or.inl rfl | exact Or.inr rfl) (pe_fn G_l_pick (hr.mono (by decide)) pass0 (pa_cons (pv 0) (pa_cons (pe_lst (pa_cons pe_str (pa_cons pe_str (pa_cons pe_str (pa_cons pe_str (pa_cons (pe_op op_mulS pe_str pe_int) (pa_cons pe_int (pa_cons pe_non (pa_cons (pe_tup (pa_cons pe_str pa_nil)) (pa_cons pe_bl (pa_cons pe_str pa_nil))))))))))) pa_nil))))
      (pss_cons (ps_if (PW.pt (pw_and (pt_cmpR op_notN (pe_ix ix_list (pv 3) (pv 5) (fun _ _ => rfl)) pe_non (nomark _)) (pw_and1 (pt_cmpR op_eq (pe_fn G_l_take (hr.mono (by decide)) pass0 (pa_cons (pv 0) (pa_cons pe_int pa_nil))) pe_int (nomark _))))) (pss_cons (ps_asg (pe_tup (pa_cons (pe_ix ix_list (pe_ix ix_list (pv 3) (pv 5) (fun _ _ => rfl)) pe_int (fun _ _ => rfl)) (pa_cons (pe_fn G_l_take (hr.mono (by decide)) pass0 (pa_cons (pv 0) (pa_cons pe_int pa_nil))) pa_nil))) (pg_tup rfl (pgs_cons (pg_name (i := 7) sc_l_wrong_right.nd rfl (by first | exact Or.inl rfl | exact Or.inr rfl)) (pgs_cons (pg_name (i := 8) sc_l_wrong_right.nd rfl (by first | exact Or.inl rfl | exact Or.inr rfl)) pgs_nil))))
      (pss_one (ps_ret (pe_cmpR (op_eqD hr.r.units) (pe_lamG G_l_told TB hcode hmT huT (hr.mono (by decide)) (LamX.lamS_by (sc := defScope s_l_wrong_right) (by decide +kernel)) (fun _ _ _ _ _ _ _ hr => (pe_fn G_l_called (hr.mono (by decide)) (passes_call (takes_of rfl rfl rfl rfl) (fun _ _ _ _ h => h)) (pa_cons (pv 7) (pa_cons (pv 8) (pa_cons (pv 6) pa_nil)))))) (pe_tup (pa_cons pe_str (pa_cons (pe_callB (call_reprV (K := K) (by rfl) hr.g hr.r.units) (by rfl) T.n_repr (by decide +kernel) (pa_cons (pv 6) pa_nil)) (pa_cons pe_bl pa_nil)))) (nomark _))))) pss_nil)
      (pss_one (ps_ret (pe_cmpR (op_eqD hr.r.units) (pe_lamG G_l_told TB hcode hmT huT (hr.mono (by decide)) (LamX.lamS_by (sc := defScope s_l_wrong_right) (by decide +kernel)) (fun _ _ _ _ _ _ _ hr => (pe_mt M_newest (hr.mono (by decide)) (passes_call (takes_of rfl rfl rfl rfl) (fun _ _ _ _ h => h)) (pv 1) (pa_cons (pv 6) pa_nil)))) (pe_tup (pa_cons pe_str (pa_cons (pe_callB (call_reprV (K := K) (by rfl) hr.g hr.r.units) (by rfl) T.n_repr (by decide +kernel) (pa_cons (pv 6) pa_nil)) (pa_cons pe_bl pa_nil)))) (nomark _)))))))))), ?_⟩
    refine ⟨_, rfl, _, rfl, _, rfl, _, rfl, _, _, rfl, rfl, (by show 1 ≤ sizeLine; decide), fun l1 n1' => ?_⟩
    obtain ⟨G1, e, s1, k1⟩ := mkO n1' (.tup [.int 0])
    rw [e]
    clear e
    refine ⟨(by show 0 ≤ sizeLine; decide), fun l2 n2 => ?_⟩
    obtain ⟨G2, e, s2, k2⟩ := mkO n2 (.lst [])
    rw [e]
    clear e
    refine ⟨(by show 9 ≤ sizeLine; decide), fun l3 n3 => ?_⟩
    obtain ⟨G3, e, s3, k3⟩ := mkO n3 (.lst [.int (-1), .int (F'.n : Nat), .int ((F'.n : Nat) + 7), .bl true, .bl false, .non, .str "0", .ref l1, .ref l2])
    rw [e]
    clear e
    have hp2 := (hp.same s1).same s2
    have hp3 := hp2.same s3
    refine ⟨p, _, rfl, hp3, .inl ⟨l3, _, rfl, k3, by simp, by simp, hp2.ne n3, fun H4 v b4 hp4 hv => nm_of ?_⟩⟩
    dsimp only
    have odd : ∀ H', Bs [p] H4 H' → OddLn K H' v F'.n := fun H' bb => by
      have k1' : H' l1 = some (.tup [.int 0]) := bb _ _ (b4 _ _ (s3 _ _ (s2 _ _ k1)) (hp.ne n1')) (fun z => hp.ne n1' (List.mem_singleton.mp z)) (fun _ z => by cases z)
      have k2' : H' l2 = some (.lst []) := bb _ _ (b4 _ _ (s3 _ _ k2) ((hp.same s1).ne n2)) (fun z => (hp.same s1).ne n2 (List.mem_singleton.mp z)) (fun _ z => by cases z)
      simp only [List.mem_cons, List.mem_nil_iff, or_false] at hv
      rcases hv with rfl | rfl | rfl | rfl | rfl | rfl | rfl | rfl | rfl
      · exact ⟨.inl (numF (by decide)), _, tld_int (by decide)⟩
      · exact ⟨.inr ⟨_, rfl, Int.le_refl _⟩, _, tld_int (Nat.lt_trans (show ((F'.n : Nat) : Int).natAbs < 100 by omega) (by decide))⟩
      · exact ⟨.inr ⟨_, rfl, by omega⟩, _, tld_int (Nat.lt_trans (show (((F'.n : Nat) : Int) + 7).natAbs < 100 by omega) (by decide))⟩
      · exact ⟨.inl (.bl _), _, tld_bl _⟩
      · exact ⟨.inl (.bl _), _, tld_bl _⟩
      · exact ⟨.inl (.no (noK_non kNoneI)), _, tld_non⟩
      · exact ⟨.inl (.no (noK_str kStrI _)), _, tld_zero⟩
      · exact ⟨.inl (.no (noK_tup kTupI k1')), _, tld_t0 k1'⟩
      · exact ⟨.inl (.no (noK_lst kLstI k2')), _, tld_nil k2'⟩
    have b04 : Bs [p] H H4 := ((Bs.same ((s1.trans s2).trans s3)).trans (.but b4 (by simp)))
    have tb4 := tabs_pot (tabs_same tb ((s1.trans s2).trans s3)) hp3 b4
    have W4 : Wd CL CA F' Z H4 := (W.same ((s1.trans s2).trans s3)).but hp3 b4 ap
    refine ⟨_, rfl, _, rfl, p, F'.n, rfl, hp4, by omega, by omega, fun H5 d b5 hp5 d0 d1 => nm_of ?_⟩
    dsimp only
    obtain ⟨l, rfl⟩ := Int.eq_ofNat_of_zero_le d0
    have ll : l < F'.n := by omega
    have tb5 := tabs_pot tb4 hp4 b5
    have b05 : Bs [p] H H5 := b04.trans (.but b5 (by simp))
    have b45 : Bs [p] H4 H5 := .but b5 (by simp)
    have spot : ∀ {G : Hp}, PotAt G p → SoftAt [p] G := fun h => let ⟨_, _, e, _⟩ := h; .cons e .l .nil
    have Wof : ∀ {G : Hp}, Bs [p] H G → Wd CL CA F' Z G := fun b => W.bs b (spot hp) (fun x hx => by rw [List.mem_singleton.mp hx]; exact ap)
    obtain ⟨o, ho⟩ : ∃ o, Z.ts[l]? = some o := ⟨_, List.getElem?_eq_getElem (by rw [L.tn]; exact ll)⟩
    have hot : (Z.ts.map (tV Z.rs))[l]? = some (tV Z.rs o) := by rw [List.getElem?_map, ho]; rfl
    have hkv := L.kv l ll
    have hn := L.hn
    have hk := L.kn
    -- a lane with an attempt
    refine seq_cut (fun σ' H' => σ' = [some (.ref p), some (.ref F'.q), some (.int (F'.n : Nat)), some (.ref F'.tL), some v, some (.int (l : Nat)), none, none, none] ∧ Bs [p] H H' ∧ Bs [p] H4 H' ∧ PotAt H' p ∧ LamX.Tabs Tb H') (fun N hN => ?_) ?_
    · refine ⟨_, rfl, p, 2, rfl, hp5, by decide, by decide, fun H6 d b6 hp6 _ _ => ⟨rfl, _, rfl, ?_⟩⟩
      have tb6 := tabs_pot tb5 hp5 b6
      have b06 := b05.trans (Bs.but b6 (by simp) : Bs [p] H5 H6)
      have b46 := b45.trans (Bs.but b6 (by simp) : Bs [p] H5 H6)
      have W6 := Wof b06
      by_cases d1 : d = 1
      · refine iteY (dec_eq d1) ⟨_, rfl, _, rfl, F'.tL, _, _, _, rfl, rfl, SqL.of W6.tl, atI_nat hot, rfl, _, rfl, ?_⟩
        cases o with
        | none => exact iteN (by show (!decide (V.non = V.non)) = false; simp) (hN _ _ ⟨rfl, b06, b46, hp6, tb6⟩)
        | some i =>
          refine iteY (by show (!decide (oneV Z.rs i = V.non)) = true; simp [oneV]) ?_
          obtain ⟨j, r, hj, ekv, z⟩ : ∃ (i : Nat) (r : Rec), Z.rs[i]? = some r ∧ valV Z.kvs (Sum.inl (l : Int)) = some (.ref r.att) ∧ Z.ts[l]? = some (some i) := by
            rcases hkv with ⟨z, _⟩ | ⟨j, r, h1, h2, h3 | ⟨h3, _⟩⟩
            · rw [ho] at z; cases z
            · exact ⟨j, r, h1, h2, h3⟩
            · rw [ho] at h3; cases h3
          obtain ⟨r', hr', _, ov⟩ := L.live l j z
          rw [hj] at hr'
          cases hr'
          refine ⟨tb6, fun H7 eN tb7 R hR t0 n0 => ?_⟩
          obtain ⟨G8, e, s8, k8⟩ := mkO n0 (.tup [.str "told", .non])
          rw [e]
          clear e
          have e8 : LamX.ExtN H6 G8 := eN.trans (.of s8)
          have W8 := W6.ext e8
          obtain ⟨dq, gs, hq, lf⟩ := id W8.lg
          refine ⟨_, rfl, F'.q, dq, gs, rfl, hq, lf.no "begin" (by decide +kernel) (by decide +kernel) (by decide +kernel), _, rfl, F'.q, F'.hl, F'.da, F'.n, F'.k, Z.us, .int (l : Nat), Z.kvs, rfl, W8.lg, W8.hl, by rw [W8.fu.len]; omega, W8.da, by omega, by omega, .inr ⟨l, rfl, ll, .inr ⟨⟨r.att, F'.q, r.lane, r.pl, r.dv, r.dw, ekv, by have := (W8.rc j r hj).att; rwa [ov] at this⟩, ?_⟩⟩⟩
          have tl : ∀ {G : Hp}, Tld K G (.int (l : Nat)) (.int (l : Nat)) := tld_int (Nat.lt_trans (show ((l : Nat) : Int).natAbs < 100 by omega) (by decide))
          refine er_told tl (.inr (.inr (.inr (.inl ⟨rfl, rfl, rfl⟩)))) fun G9 t s9 nt ht => ?_
          refine ⟨_, rfl, _, .int (l : Nat), rfl, tl.2 _ (.refl _), (by show 3 ≤ sizeLine; decide), fun t' nt' => ?_⟩
          have s10 := s9.trans (same_upd (o := trp "busy" (PyData.shown (.int (l : Nat)))) nt')
          refine rf3_q (same_upd nt' _ _ ht) upd_same (show PyData.strOk "busy" = true by decide +kernel) (okt_int _) ?_
          exact q _ (b06.trans ((Bs.ext e8).trans (.same s10))) ((hp6.ext e8).same s10) (tabs_same (tabs_same tb7 s8) s10)
      · exact iteN (dec_ne d1) (hN _ _ ⟨rfl, b06, b46, hp6, tb6⟩)
    clear hp5 tb5 b05 b45 b5
    rintro σ5 H5' ⟨rfl, b05, b45, hp5, tb5⟩
    -- no lane
    refine seq_cut (fun σ' H' => σ' = [some (.ref p), some (.ref F'.q), some (.int (F'.n : Nat)), some (.ref F'.tL), some v, some (.int (l : Nat)), none, none, none] ∧ Bs [p] H H' ∧ PotAt H' p ∧ LamX.Tabs Tb H') (fun N hN => ?_) ?_
    · refine ⟨_, rfl, p, 2, rfl, hp5, by decide, by decide, fun H6 d b6 hp6 _ _ => ⟨rfl, _, rfl, ?_⟩⟩
      have tb6 := tabs_pot tb5 hp5 b6
      have b06 := b05.trans (Bs.but b6 (by simp) : Bs [p] H5' H6)
      have b46 := b45.trans (Bs.but b6 (by simp) : Bs [p] H5' H6)
      have W6 := Wof b06
      by_cases d1 : d = 1
      · refine iteY (dec_eq d1) ?_
        refine ⟨tb6, fun H7 eN tb7 R hR t0 n0 => ?_⟩
        obtain ⟨G8, e, s8, k8⟩ := mkO n0 (.tup [.str "told", .non])
        rw [e]
        clear e
        have e8 : LamX.ExtN H6 G8 := eN.trans (.of s8)
        have W8 := W6.ext e8
        obtain ⟨dq, gs, hq, lf⟩ := id W8.lg
        obtain ⟨bad, dd, tl⟩ := odd G8 (b46.trans (.ext e8))
        refine ⟨_, rfl, F'.q, dq, gs, rfl, hq, lf.no "begin" (by decide +kernel) (by decide +kernel) (by decide +kernel), _, rfl, F'.q, F'.hl, F'.da, F'.n, F'.k, Z.us, v, Z.kvs, rfl, W8.lg, W8.hl, by rw [W8.fu.len]; omega, W8.da, by omega, by omega, .inl ⟨bad, ?_⟩⟩
        refine er_told tl (.inr (.inr (.inl ⟨rfl, rfl, rfl⟩))) fun G9 t s9 nt ht => ?_
        refine ⟨_, rfl, v, dd, rfl, tl.2 _ (.of s9), (by show 3 ≤ sizeLine; decide), fun t' nt' => ?_⟩
        have s10 := s9.trans (same_upd (o := trp "lane" dd.shown) nt')
        refine rf3_q (same_upd nt' _ _ ht) upd_same (show PyData.strOk "lane" = true by decide +kernel) tl.1 ?_
        exact q _ (b06.trans ((Bs.ext e8).trans (.same s10))) ((hp6.ext e8).same s10) (tabs_same (tabs_same tb7 s8) s10)
      · exact iteN (dec_ne d1) (hN _ _ ⟨rfl, b06, hp6, tb6⟩)
    clear hp5 tb5 b05 b45 b04 odd hv tb4 W4
    rintro σ6 H6 ⟨rfl, b06, hp6, tb6⟩
    -- no cell
    refine ⟨_, rfl, _, _, rfl, rfl, ⟨by decide +kernel, fun _ _ => by decide +kernel, fun _ _ => by decide +kernel⟩, (by show 1 ≤ sizeLine; decide), fun l1 n1' => ?_⟩
    obtain ⟨G1, e, s1, k1⟩ := mkO n1' (.tup [.str "a"])
    rw [e]
    clear e
    refine ⟨(by show 10 ≤ sizeLine; decide), fun l3 n3 => ?_⟩
    obtain ⟨G3, e, s3, k3⟩ := mkO n3 (.lst [.str "", .str "A", .str "a b", .str "a-b", .str (Txt.mul "x" 33), .int 5, .non, .ref l1, .bl true, .str "a\n"])
    rw [e]
    clear e
    have hp7 := (hp6.same s1).same s3
    refine ⟨p, _, rfl, hp7, .inl ⟨l3, _, rfl, k3, by simp, by simp, (hp6.same s1).ne n3, fun H7 u b7 hp7' hu => nm_of ?_⟩⟩
    dsimp only
    have b07 : Bs [p] H H7 := (b06.trans (.same (s1.trans s3))).trans (.but b7 (by simp))
    have oddc : ∀ H', Bs [p] H7 H' → OddCl K H' u := fun H' bb => by
      have k1' : H' l1 = some (.tup [.str "a"]) := bb _ _ (b7 _ _ (s3 _ _ k1) (hp6.ne n1')) (fun z => hp6.ne n1' (List.mem_singleton.mp z)) (fun _ z => by cases z)
      have st : ∀ z : Str, z.length ≤ 1000 → cellB z = false → PyData.strOk z = true → OddCl K H' (.str z) := fun z l c k => by
        have cv := CellV.str (K := K) (H := H') z l
        rw [c] at cv
        exact ⟨cv, _, tld_str k (by omega)⟩
      simp only [List.mem_cons, List.mem_nil_iff, or_false] at hu
      rcases hu with rfl | rfl | rfl | rfl | rfl | rfl | rfl | rfl | rfl | rfl
      · exact st _ (by decide +kernel) (by decide +kernel) (by decide +kernel)
      · exact st _ (by decide +kernel) (by decide +kernel) (by decide +kernel)
      · exact st _ (by decide +kernel) (by decide +kernel) (by decide +kernel)
      · exact st _ (by decide +kernel) (by decide +kernel) (by decide +kernel)
      · exact st _ (by decide +kernel) (by decide +kernel) (by decide +kernel)
      · exact ⟨.no (noK_int kIntS _), _, tld_int (by decide)⟩
      · exact ⟨.no (noK_non kNoneS), _, tld_non⟩
      · exact ⟨.no (noK_tup kTupS k1'), _, tld_ta k1'⟩
      · exact ⟨.no (noK_bl kBoolS _), _, tld_bl _⟩
      · exact st _ (by decide +kernel) (by decide +kernel) (by decide +kernel)
    have tb7 := tabs_pot (tabs_same tb6 (s1.trans s3)) hp7 b7
    clear hu
    have W7 := Wof b07
    have lc : PyData.strOk "cell" = true := by decide +kernel
    -- of an attempt
    refine seq_cut (fun σ' H' => σ' = [some (.ref p), some (.ref F'.q), some (.int (F'.n : Nat)), some (.ref F'.tL), some v, some (.int (l : Nat)), some u, none, none] ∧ Bs [p] H H' ∧ Bs [p] H7 H' ∧ PotAt H' p ∧ LamX.Tabs Tb H') (fun N hN => ?_) ?_
    · refine ⟨_, rfl, _, rfl, F'.tL, _, _, _, rfl, rfl, SqL.of W7.tl, atI_nat hot, rfl, _, rfl, ?_⟩
      cases o with
      | none => exact iteN (by show (!decide (V.non = V.non)) = false; simp) (hN _ _ ⟨rfl, b07, .refl, hp7', tb7⟩)
      | some i =>
        refine iteY (by show (!decide (oneV Z.rs i = V.non)) = true; simp [oneV]) ?_
        obtain ⟨r, hj, _, ov⟩ := L.live l i ho
        have R := L.rok i r hj
        refine ⟨_, rfl, p, 2, rfl, hp7', by decide, by decide, fun H8 d b8 hp8 _ _ => ⟨rfl, _, rfl, ?_⟩⟩
        have tb8 := tabs_pot tb7 hp7' b8
        have b08 := b07.trans (Bs.but b8 (by simp) : Bs [p] H7 H8)
        have b78 : Bs [p] H7 H8 := .but b8 (by simp)
        have W8 := Wof b08
        by_cases d1 : d = 1
        · refine iteY (dec_eq d1) ?_
          have ra := W8.rc i r hj
          have e1 : tV Z.rs (some i) = .ref r.one := oneV_of hj
          rw [e1] at hot
          refine ⟨_, rfl, _, rfl, F'.tL, _, _, _, rfl, rfl, SqL.of W8.tl, atI_nat hot, r.one, _, _, _, rfl, rfl, SqL.of ra.one, atI_nat (j := 0) rfl, ?_⟩
          refine ⟨_, rfl, p, 2, rfl, hp8, by decide, by decide, fun H9 wy b9 hp9 w0 w2 => ?_⟩
          refine ⟨(by show 2 ≤ sizeLine; decide), fun l4 n4 => ?_⟩
          obtain ⟨G9, e, s9, k9⟩ := mkO n4 (.tup [.ref r.att, .int wy])
          rw [e]
          clear e
          refine ⟨l4, _, rfl, SqT.of k9, rfl, _, _, rfl, _, _, rfl, rfl, ?_⟩
          have b09 : Bs [p] H G9 := (b08.trans (.but b9 (by simp))).trans (.same s9)
          have b79 : Bs [p] H7 G9 := (b78.trans (.but b9 (by simp))).trans (.same s9)
          have tb9 := tabs_same (tabs_pot tb8 hp8 b9) s9
          have W9 := Wof b09
          refine ⟨tb9, fun H10 eN tb10 R' hR t0 n0 => ?_⟩
          obtain ⟨G11, e, s11, k11⟩ := mkO n0 (.tup [.str "told", .non])
          rw [e]
          clear e
          have e11 : LamX.ExtN G9 G11 := eN.trans (.of s11)
          have W11 := W9.ext e11
          obtain ⟨cv, dd, tl⟩ := oddc G11 (b79.trans (.ext e11))
          refine ⟨_, rfl, _, rfl, _, rfl, F'.q, F'.hl, F'.da, F'.n, F'.k, Z.us, Z.h, r, wy, u, rfl, W11.rc i r hj, W11.lg, W11.q_ne hj, W11.hl, W11.fu, R.pl, by omega, by have := R.dl C; omega, fun c hc => C.ok c (R.dc c hc), by have := R.wl C; omega, .inr ⟨ov, by omega, cv, ?_⟩⟩
          refine er_told tl (.inl ⟨rfl, rfl, rfl⟩) fun G12 t s12 nt ht => ?_
          refine ⟨_, rfl, u, dd, rfl, tl.2 _ (.of s12), (by show 3 ≤ sizeLine; decide), fun t' nt' => ?_⟩
          have s13 := s12.trans (same_upd (o := trp "cell" dd.shown) nt')
          refine rf3_q (same_upd nt' _ _ ht) upd_same lc tl.1 ?_
          exact q _ (b09.trans ((Bs.ext e11).trans (.same s13))) (((hp9.same s9).ext e11).same s13) (tabs_same (tabs_same tb10 s11) s13)
        · exact iteN (dec_ne d1) (hN _ _ ⟨rfl, b08, b78, hp8, tb8⟩)
    clear tb7 W7 hp7' hp7 b7
    rintro σ8 H8 ⟨rfl, b08, b78, hp8, tb8⟩
    have W8 := Wof b08
    refine ⟨tb8, fun H10 eN tb10 R' hR t0 n0 => ?_⟩
    obtain ⟨G11, e, s11, k11⟩ := mkO n0 (.tup [.str "told", .non])
    rw [e]
    clear e
    have e11 : LamX.ExtN H8 G11 := eN.trans (.of s11)
    have W11 := W8.ext e11
    obtain ⟨cv, dd, tl⟩ := oddc G11 (b78.trans (.ext e11))
    obtain ⟨dq, gs, hq, lf⟩ := id W11.lg
    refine ⟨_, rfl, F'.q, dq, gs, rfl, hq, lf.no "newest" (by decide +kernel) (by decide +kernel) (by decide +kernel), _, rfl, F'.q, F'.hl, F'.da, F'.n, F'.k, Z.h, Z.us, u, rfl, W11.lg, W11.hl, W11.fu, by omega, .inr ⟨cv, ?_⟩⟩
    refine er_told tl (.inl ⟨rfl, rfl, rfl⟩) fun G12 t s12 nt ht => ?_
    refine ⟨_, rfl, u, dd, rfl, tl.2 _ (.of s12), (by show 3 ≤ sizeLine; decide), fun t' nt' => ?_⟩
    have s13 := s12.trans (same_upd (o := trp "cell" dd.shown) nt')
    refine rf3_q (same_upd nt' _ _ ht) upd_same lc tl.1 ?_
    exact q _ (b08.trans ((Bs.ext e11).trans (.same s13))) ((hp8.ext e11).same s13) (tabs_same (tabs_same tb10 s11) s13)
end
end K71

set_option Elab.async false
set_option linter.all false
set_option maxRecDepth 100000
set_option maxHeartbeats 4000000
/-! L71l: how the world changes. -/
namespace K71
open PySem PySem.Spec PyProof.Rows L2 LL ORD
theorem fp_l {h : Hs} {f : Fp} {i : Nat} (hi : i < h.length) : fp (h ++ [f]) i = fp h i := by
  unfold fp
  rw [List.getD_eq_getElem?_getD, List.getD_eq_getElem?_getD, List.getElem?_append_left hi]
theorem fp_r {h : Hs} {f : Fp} : fp (h ++ [f]) h.length = f := by
  unfold fp
  rw [List.getD_eq_getElem?_getD, List.getElem?_append_right (Nat.le_refl _), Nat.sub_self]
  rfl
theorem fp_lt {h : Hs} {f : Fp} {i : Nat} (hi : i < (h ++ [f]).length) : i < h.length ∨ i = h.length := by
  rw [List.length_append, List.length_singleton] at hi
  omega
theorem Fps.app {H : Hp} {us : List V} {h : Hs} {v : V} {f : Fp} (g : Fps H us h) (hv : FpAt H v f) : Fps H (us ++ [v]) (h ++ [f]) := by
  refine ⟨by rw [List.length_append, List.length_append, g.len]; rfl, fun i x e => ?_⟩
  by_cases c : i < us.length
  · rw [List.getElem?_append_left c] at e
    rw [fp_l (by rw [← g.len]; exact c)]
    exact g.at_ i x e
  · have l := (List.getElem?_eq_some_iff.mp e).1
    rw [List.length_append, List.length_singleton] at l
    have ei : i = us.length := by omega
    subst ei
    rw [List.getElem?_append_right (Nat.le_refl _), Nat.sub_self] at e
    cases e
    rw [g.len, fp_r]
    exact hv
def Sx.beg (S : Sx) (l : Nat) (r : Rec) : Sx := { S with rs := S.rs ++ [r], ts := S.ts.set l (some S.rs.length), kvs := putK S.kvs (Sum.inl (l : Int)) (.ref r.att) }
def Sx.gon (S : Sx) (i l : Nat) : Sx := { S with gs := S.gs ++ [i], ts := S.ts.set l none }
def Sx.run (S : Sx) (v v' : V) (f : Fp) : Sx := { S with us := S.us ++ [v], us' := S.us' ++ [v'], h := S.h ++ [f] }
section
variable {K : PySem.W.Frag} {CL CA : Addr} {F : Fx} {S : Sx} {H H' : Hp} {t : Nat}
theorem oneV_app {rs : List Rec} {r : Rec} {i : Nat} (h : i < rs.length) : oneV (rs ++ [r]) i = oneV rs i := by
  unfold oneV
  rw [List.getElem?_append_left h]
theorem app_get {rs : List Rec} {r s : Rec} {j : Nat} (h : (rs ++ [r])[j]? = some s) : (j < rs.length ∧ rs[j]? = some s) ∨ (j = rs.length ∧ s = r) := by
  by_cases c : j < rs.length
  · rw [List.getElem?_append_left c] at h
    exact .inl ⟨c, h⟩
  · have l := (List.getElem?_eq_some_iff.mp h).1
    rw [List.length_append, List.length_singleton] at l
    have ej : j = rs.length := by omega
    subst ej
    rw [List.getElem?_append_right (Nat.le_refl _), Nat.sub_self] at h
    cases h
    exact .inr ⟨rfl, rfl⟩
theorem Lo.lt (L : Lo F S t) {o : Option Nat} {l i : Nat} (h : S.ts[l]? = some (some i)) : i < S.rs.length := by
  obtain ⟨r, e, _⟩ := L.live l i h
  exact (List.getElem?_eq_some_iff.mp e).1
theorem Lo.glt (L : Lo F S t) {i : Nat} (h : i ∈ S.gs) : i < S.rs.length := by
  obtain ⟨r, e, _⟩ := L.gone i h
  exact (List.getElem?_eq_some_iff.mp e).1
/-! ### begun -/
theorem Lo.tApp (L : Lo F S t) {r : Rec} {l : Nat} (hl : l < F.n) : (S.ts.set l (some S.rs.length)).map (tV (S.rs ++ [r])) = (S.ts.map (tV S.rs)).set l (.ref r.one) := by
  refine List.ext_getElem? fun j => ?_
  rw [List.getElem?_map, List.getElem?_set, List.getElem?_set, List.length_map, L.tn]
  by_cases c : l = j
  · subst c
    rw [if_pos rfl, if_pos rfl, if_pos hl, if_pos hl]
    show some (oneV (S.rs ++ [r]) S.rs.length) = _
    rw [oneV_of (r := r) (by rw [List.getElem?_append_right (Nat.le_refl _), Nat.sub_self]; rfl)]
  · rw [if_neg c, if_neg c, List.getElem?_map]
    cases e : S.ts[j]? with
    | none => rfl
    | some o =>
      cases o with
      | none => rfl
      | some i =>
        show some (oneV (S.rs ++ [r]) i) = some (oneV S.rs i)
        rw [oneV_app (L.lt (o := none) e)]
theorem Lo.gApp (L : Lo F S t) {r : Rec} : S.gs.map (oneV (S.rs ++ [r])) = S.gs.map (oneV S.rs) := List.map_congr_left fun i hi => oneV_app (L.glt hi)
theorem Wd.beg {l : Nat} {r : Rec} (W : Wd CL CA F S H) (L : Lo F S t) (hl : l < F.n) (b : Bs [F.da, F.tL] H H') (hda : H' F.da = some (.dK (putK S.kvs (Sum.inl (l : Int)) (.ref r.att)))) (htl : H' F.tL = some (.lst ((S.ts.map (tV S.rs)).set l (.ref r.one)))) (R : RecAt CA F.q H' r) (fr : ∀ a ∈ r.as, H a = none) : Wd CL CA F (S.beg l r) H' := by
  have s : SoftAt [F.da, F.tL] H := .cons W.da .d (.cons W.tl .l .nil)
  have nd := W.nd
  simp only [Fx.as, List.nodup_cons, List.mem_cons, List.not_mem_nil, or_false, not_or, List.nodup_nil, and_true, not_false_eq_true] at nd
  obtain ⟨⟨n1, n2, n3, n4, n5, n6⟩, ⟨m1, m2, m3, m4, m5⟩, ⟨k1, k2, k3, k4⟩, ⟨j1, j2, j3⟩, ⟨i1, i2⟩, h1⟩ := nd
  have apr : ∀ a ∈ r.as, Apt F S a := fun a ha => W.apt (fr a ha)
  refine ⟨W.lg.bs b (by simp [n2, n4]), lst_bs W.hl b (by simp [m1, m3]), W.fu.bs b s, lst_bs W.hL b (by simp [Ne.symm k1, j1]), W.fU.bs b s, hda, ?_, ?_, lst_bs W.cl b (by simp [Ne.symm k4, Ne.symm i2]), fun j s' h' => ?_, W.nd, fun j s' h' => ?_, fun i j s' u e1 e2 ne => ?_⟩
  · show H' F.tL = some (.lst ((S.ts.set l (some S.rs.length)).map (tV (S.rs ++ [r]))))
    rw [L.tApp hl]
    exact htl
  · show H' F.gL = some (.lst (S.gs.map (oneV (S.rs ++ [r]))))
    rw [L.gApp]
    exact lst_bs W.gl b (by simp [Ne.symm k3, Ne.symm i1])
  · rcases app_get h' with ⟨_, h'⟩ | ⟨_, rfl⟩
    · exact (W.rc j s' h').bs b fun a ha m => W.ap j s' h' a ha (by
        rcases List.mem_cons.mp m with e | m
        · rw [e]; simp [Fx.as]
        · rw [List.mem_singleton.mp m]; simp [Fx.as])
    · exact R
  · rcases app_get h' with ⟨_, h'⟩ | ⟨_, rfl⟩
    · exact W.ap j s' h'
    · exact fun a ha => (apr a ha).1
  · rcases app_get e1 with ⟨l1, q1⟩ | ⟨l1, q1⟩ <;> rcases app_get e2 with ⟨l2, q2⟩ | ⟨l2, q2⟩
    · exact W.app i j s' u q1 q2 ne
    · exact fun a ha m => (apr a (q2 ▸ m)).2 i s' q1 ha
    · exact fun a ha m => (apr a (q1 ▸ ha)).2 j u q2 m
    · omega
theorem Lo.beg {l : Nat} {r : Rec} (L : Lo F S t) (hl : l < F.n) (hn : S.ts[l]? = some none) (e1 : r.lane = l) (e2 : r.pl = S.h.length) (e3 : r.D = []) (e4 : r.W = []) (e5 : r.over = false) : Lo F (S.beg l r) (t + 1) := by
  have up : ∀ {j : Nat} {s : Rec}, S.rs[j]? = some s → (S.rs ++ [r])[j]? = some s := fun {j s} h => by rw [List.getElem?_append_left (List.getElem?_eq_some_iff.mp h).1]; exact h
  have me : (S.rs ++ [r])[S.rs.length]? = some r := by rw [List.getElem?_append_right (Nat.le_refl _), Nat.sub_self]; rfl
  have ht : ∀ j, (S.ts.set l (some S.rs.length))[j]? = if l = j then some (some S.rs.length) else S.ts[j]? := fun j => by
    rw [List.getElem?_set, L.tn]
    by_cases c : l = j
    · rw [if_pos c, if_pos c, if_pos (c ▸ hl)]
    · rw [if_neg c, if_neg c]
  refine ⟨L.n1, L.n8, L.cs, L.cn, by show (S.ts.set _ _).length = _; rw [List.length_set]; exact L.tn, fun j i h => ?_, fun i hi => ?_, fun j hj => ?_, L.fok, L.fln, L.fwr, fun i s h => ?_, by have := L.hn; exact Nat.le_succ_of_le this, ?_, by have := L.gn; exact Nat.le_succ_of_le this⟩
  · have h : (S.ts.set l (some S.rs.length))[j]? = some (some i) := h
    rw [ht] at h
    by_cases c : l = j
    · rw [if_pos c] at h
      cases h
      exact ⟨r, me, e1.trans c, e5⟩
    · rw [if_neg c] at h
      obtain ⟨s, g1, g2⟩ := L.live j i h
      exact ⟨s, up g1, g2⟩
  · obtain ⟨s, g1, g2⟩ := L.gone i hi
    exact ⟨s, up g1, g2⟩
  · show ((S.ts.set l (some S.rs.length))[j]? = some none ∧ valV (putK S.kvs (Sum.inl (l : Int)) (.ref r.att)) (Sum.inl (j : Int)) = none) ∨ ∃ (i : Nat) (s : Rec), (S.rs ++ [r])[i]? = some s ∧ valV (putK S.kvs (Sum.inl (l : Int)) (.ref r.att)) (Sum.inl (j : Int)) = some (.ref s.att) ∧ ((S.ts.set l (some S.rs.length))[j]? = some (some i) ∨ ((S.ts.set l (some S.rs.length))[j]? = some none ∧ s.over = true))
    rw [ht, valV_put]
    by_cases c : l = j
    · subst c
      rw [if_pos rfl, if_pos rfl]
      exact .inr ⟨S.rs.length, r, me, rfl, .inl rfl⟩
    · rw [if_neg c, if_neg (fun z => c (by have := Sum.inl.inj z; omega))]
      rcases L.kv j hj with z | ⟨i, s, g1, g2, g3⟩
      · exact .inl z
      · exact .inr ⟨i, s, up g1, g2, g3⟩
  · rcases app_get h with ⟨_, h⟩ | ⟨_, rfl⟩
    · exact L.rok i s h
    · refine ⟨by rw [e2]; exact Nat.le_refl _, by rw [e1]; exact hl, by rw [e3]; exact .nil, (fun _ m => by rw [e3] at m; cases m), by rw [e4]; exact .nil, (fun _ m => by rw [e4] at m; cases m)⟩
  · show (putK S.kvs _ _).length ≤ _
    have := putK_len S.kvs (Sum.inl (l : Int)) (.ref r.att)
    have := L.kn
    omega
/-! ### gone -/
theorem Wd.gon {i l : Nat} {r : Rec} (W : Wd CL CA F S H) (L : Lo F S t) (hi : S.rs[i]? = some r) (hl : l < F.n) (b : Bs [F.gL, F.tL] H H') (hgl : H' F.gL = some (.lst (S.gs.map (oneV S.rs) ++ [.ref r.one]))) (htl : H' F.tL = some (.lst ((S.ts.map (tV S.rs)).set l .non))) : Wd CL CA F (S.gon i l) H' := by
  have s : SoftAt [F.gL, F.tL] H := .cons W.gl .l (.cons W.tl .l .nil)
  have nd := W.nd
  simp only [Fx.as, List.nodup_cons, List.mem_cons, List.not_mem_nil, or_false, not_or, List.nodup_nil, and_true, not_false_eq_true] at nd
  obtain ⟨⟨n1, n2, n3, n4, n5, n6⟩, ⟨m1, m2, m3, m4, m5⟩, ⟨k1, k2, k3, k4⟩, ⟨j1, j2, j3⟩, ⟨i1, i2⟩, h1⟩ := nd
  refine ⟨W.lg.bs b (by simp [n5, n4]), lst_bs W.hl b (by simp [m4, m3]), W.fu.bs b s, lst_bs W.hL b (by simp [j1, j2]), W.fU.bs b s, dk_bs W.da b (by simp [k2, k3]), ?_, ?_, lst_bs W.cl b (by simp [Ne.symm h1, Ne.symm i2]), fun j s' h' => ?_, W.nd, W.ap, W.app⟩
  · show H' F.tL = some (.lst ((S.ts.set l none).map (tV S.rs)))
    rw [List.map_set]
    exact htl
  · show H' F.gL = some (.lst ((S.gs ++ [i]).map (oneV S.rs)))
    rw [List.map_append, List.map_cons, List.map_nil, oneV_of hi]
    exact hgl
  · exact (W.rc j s' h').bs b fun a ha m => W.ap j s' h' a ha (by
      rcases List.mem_cons.mp m with e | m
      · rw [e]; simp [Fx.as]
      · rw [List.mem_singleton.mp m]; simp [Fx.as])
theorem Lo.gon {i l : Nat} {r : Rec} (L : Lo F S t) (hi : S.rs[i]? = some r) (hl : S.ts[l]? = some (some i)) : Lo F ((S.gon i l).setr i (r.wth r.D r.W true)) (t + 1) := by
  have ll : l < S.ts.length := (List.getElem?_eq_some_iff.mp hl).1
  have get : ∀ {j : Nat} {s' : Rec}, S.rs[j]? = some s' → (i = j ∧ s' = r ∧ (S.rs.set i (r.wth r.D r.W true))[j]? = some (r.wth r.D r.W true)) ∨ (i ≠ j ∧ (S.rs.set i (r.wth r.D r.W true))[j]? = some s') := fun {j s'} h' => by
    rw [List.getElem?_set]
    by_cases c : i = j
    · subst c
      rw [hi] at h'
      cases h'
      rw [if_pos rfl, if_pos (List.getElem?_eq_some_iff.mp hi).1]
      exact .inl ⟨rfl, rfl, rfl⟩
    · rw [if_neg c]
      exact .inr ⟨c, h'⟩
  have ht : ∀ j, (S.ts.set l none)[j]? = if l = j then some none else S.ts[j]? := fun j => by
    rw [List.getElem?_set]
    by_cases c : l = j
    · rw [if_pos c, if_pos c, if_pos ll]
    · rw [if_neg c, if_neg c]
  obtain ⟨r', hr', lr, ov⟩ := L.live l i hl
  rw [hi] at hr'
  cases hr'
  refine ⟨L.n1, L.n8, L.cs, L.cn, by show (S.ts.set _ _).length = _; rw [List.length_set]; exact L.tn, fun j k h => ?_, fun k hk => ?_, fun j hj => ?_, L.fok, L.fln, L.fwr, fun k s h => ?_, by have := L.hn; exact Nat.le_succ_of_le this, by have := L.kn; exact Nat.le_succ_of_le this, ?_⟩
  · have h : (S.ts.set l none)[j]? = some (some k) := h
    rw [ht] at h
    by_cases c : l = j
    · rw [if_pos c] at h
      cases h
    · rw [if_neg c] at h
      obtain ⟨s, g1, g2, g3⟩ := L.live j k h
      rcases get g1 with ⟨e, e', _⟩ | ⟨_, g⟩
      · rw [e'] at g2
        exact absurd (lr.symm.trans g2) c
      · exact ⟨s, g, g2, g3⟩
  · rcases List.mem_append.mp hk with hk | hk
    · obtain ⟨s, g1, g2⟩ := L.gone k hk
      rcases get g1 with ⟨_, _, g⟩ | ⟨_, g⟩
      · exact ⟨_, g, rfl⟩
      · exact ⟨s, g, g2⟩
    · rw [List.mem_singleton.mp hk]
      rcases get hi with ⟨_, _, g⟩ | ⟨n, _⟩
      · exact ⟨_, g, rfl⟩
      · exact absurd rfl n
  · show ((S.ts.set l none)[j]? = some none ∧ valV S.kvs (Sum.inl (j : Int)) = none) ∨ ∃ (k : Nat) (s : Rec), (S.rs.set i (r.wth r.D r.W true))[k]? = some s ∧ valV S.kvs (Sum.inl (j : Int)) = some (.ref s.att) ∧ ((S.ts.set l none)[j]? = some (some k) ∨ ((S.ts.set l none)[j]? = some none ∧ s.over = true))
    rw [ht]
    by_cases c : l = j
    · subst c
      rw [if_pos rfl]
      rcases L.kv l hj with ⟨z, _⟩ | ⟨k, s, g1, g2, g3⟩
      · rw [hl] at z
        cases z
      · have ek : k = i := by
          rcases g3 with g3 | ⟨g3, _⟩ <;> rw [hl] at g3 <;> cases g3
          rfl
        subst ek
        rcases get g1 with ⟨_, e, g⟩ | ⟨n, _⟩
        · exact .inr ⟨_, _, g, by rw [g2, e]; rfl, .inr ⟨rfl, rfl⟩⟩
        · exact absurd rfl n
    · rw [if_neg c]
      rcases L.kv j hj with z | ⟨k, s, g1, g2, g3⟩
      · exact .inl z
      · rcases get g1 with ⟨e, e', g⟩ | ⟨_, g⟩
        · refine .inr ⟨k, _, g, by rw [g2, e']; rfl, ?_⟩
          rcases g3 with g3 | g3
          · exact .inl g3
          · exact .inr ⟨g3.1, rfl⟩
        · exact .inr ⟨k, s, g, g2, g3⟩
  · rcases set_get h with ⟨_, rfl, _⟩ | ⟨_, h⟩
    · have R := L.rok i r hi
      exact ⟨R.pl, R.ln, R.dn, R.dc, R.wn, R.wc⟩
    · exact L.rok k s h
  · show (S.gs ++ [i]).length ≤ _
    have := L.gn
    rw [List.length_append, List.length_singleton]
    omega
/-! ### a run more -/
theorem Wd.run {i : Nat} {r : Rec} {v v' : V} {f : Fp} (W : Wd CL CA F S H) (hi : S.rs[i]? = some r) (b : Bs [r.att, F.hl, F.hL] H H') (R : RecAt CA F.q H' (r.wth r.D r.W true)) (h1 : H' F.hl = some (.lst (S.us ++ [v]))) (h2 : H' F.hL = some (.lst (S.us' ++ [v']))) (g1 : FpAt H' v f) (g2 : FpAt H' v' f) : Wd CL CA F ((S.setr i (r.wth r.D r.W true)).run v v' f) H' := by
  obtain ⟨dx, fs, ea, _⟩ := (W.rc i r hi).att
  have s : SoftAt [r.att, F.hl, F.hL] H := .cons ea .i (.cons W.hl .l (.cons W.hL .l .nil))
  have nd := W.nd
  simp only [Fx.as, List.nodup_cons, List.mem_cons, List.not_mem_nil, or_false, not_or, List.nodup_nil, and_true, not_false_eq_true] at nd
  obtain ⟨⟨n1, n2, n3, n4, n5, n6⟩, ⟨m1, m2, m3, m4, m5⟩, ⟨k1, k2, k3, k4⟩, ⟨j1, j2, j3⟩, ⟨i1, i2⟩, i3⟩ := nd
  have na : r.att ∉ F.as := W.ap i r hi r.att (by simp [Rec.as])
  simp only [Fx.as, List.mem_cons, List.not_mem_nil, or_false, not_or] at na
  obtain ⟨a1, a2, a3, a4, a5, a6, a7⟩ := na
  refine ⟨W.lg.bs b (by simp [n1, n3, Ne.symm a1]), h1, (W.fu.bs b s).app g1, h2, (W.fU.bs b s).app g2, dk_bs W.da b (by simp [Ne.symm m1, k1, Ne.symm a3]), ?_, ?_, lst_bs W.cl b (by simp [Ne.symm m5, Ne.symm j3, Ne.symm a7]), fun j s' h' => ?_, W.nd, fun j s' h' => ?_, fun j k s' u e1 e2 ne => ?_⟩
  · show H' F.tL = some (.lst (S.ts.map (tV (S.rs.set i (r.wth r.D r.W true)))))
    rw [tV_set (r' := r.wth r.D r.W true) hi rfl]
    exact lst_bs W.tl b (by simp [Ne.symm m3, Ne.symm j1, Ne.symm a5])
  · show H' F.gL = some (.lst (S.gs.map (oneV (S.rs.set i (r.wth r.D r.W true)))))
    rw [oneV_set (r' := r.wth r.D r.W true) hi rfl]
    exact lst_bs W.gl b (by simp [Ne.symm m4, Ne.symm j2, Ne.symm a6])
  · rcases set_get h' with ⟨_, rfl, _⟩ | ⟨ne, h'⟩
    · exact R
    · refine (W.rc j s' h').bs b fun a ha m => ?_
      rcases List.mem_cons.mp m with e | m
      · exact W.app j i s' r h' hi (Ne.symm ne) a ha (by rw [e]; simp [Rec.as])
      · refine W.ap j s' h' a ha ?_
        rcases List.mem_cons.mp m with e | m
        · rw [e]; simp [Fx.as]
        · rw [List.mem_singleton.mp m]; simp [Fx.as]
  · rcases set_get h' with ⟨_, rfl, _⟩ | ⟨ne, h'⟩
    · exact W.ap i r hi
    · exact W.ap j s' h'
  · rcases set_get e1 with ⟨q1, rfl, _⟩ | ⟨q1, e1⟩ <;> rcases set_get e2 with ⟨q2, rfl, _⟩ | ⟨q2, e2⟩
    · omega
    · exact W.app i k r u hi e2 q2
    · exact W.app j i s' r e1 hi (Ne.symm q1)
    · exact W.app j k s' u e1 e2 ne
theorem Lo.run {v v' : V} {f : Fp} (L : Lo F S t) (hh : S.h.length + 1 ≤ t) (ok : FpOk f) (ln : f.lane < F.n) (wr : ∀ c ∈ f.wr, c ∈ F.cs) : Lo F (S.run v v' f) t := by
  have key : ∀ {p : Fp → Prop}, (∀ i, i < S.h.length → p (fp S.h i)) → p f → ∀ i, i < (S.h ++ [f]).length → p (fp (S.h ++ [f]) i) := fun h1 h2 i hi => by
    rcases fp_lt hi with c | rfl
    · rw [fp_l c]
      exact h1 i c
    · rw [fp_r]
      exact h2
  refine ⟨L.n1, L.n8, L.cs, L.cn, L.tn, L.live, L.gone, L.kv, key L.fok ok, key (p := fun g => g.lane < F.n) L.fln ln, key (p := fun g => ∀ c ∈ g.wr, c ∈ F.cs) L.fwr wr, fun i r h => ?_, ?_, L.kn, L.gn⟩
  · have R := L.rok i r h
    refine ⟨?_, R.ln, R.dn, R.dc, R.wn, R.wc⟩
    show r.pl ≤ (S.h ++ [f]).length
    rw [List.length_append]
    exact Nat.le_add_right_of_le R.pl
  · show (S.h ++ [f]).length ≤ t
    rw [List.length_append, List.length_singleton]
    exact hh
end
end K71

set_option Elab.async false
set_option linter.all false
set_option maxRecDepth 100000
set_option maxHeartbeats 2000000
/-! LLDc: a dict comprehension whose keys are tuples (turned from the one with flat keys); a list's place in place. -/
namespace LL
open PySem PySem.Spec PyProof.Rows L2
/-- d[k] = v by a comprehension, k a tuple -/
theorem d_dictSetT {X : Cx} {pins : List (Addr × Obj)} {σ : L2.St} {H : Hp} {s : Shared} {E : Value → Shared → Prop} {D b : Addr} {kvs : List (List Key × V)} {k : List Key} {v : V} {u r : Value} {Q : Unit → Shared → Prop} (hu : X.A.units + 1 < cLine) (I : Inv X pins σ H s) (hD : H D = some (.dT kvs)) (eb : H b = some (.tup (k.map kV))) (hz : kvs.length < sizeLine)
    (ry : RelV (.ref b) u) (rv : RelV v r) (h : ∀ s', Inv X pins σ (upd H D (.dT (putK kvs k v))) s' → Q () s') : wpAny (model X.prog X.w) X.A (dictSet D u r) Q E s := by
  cases (show u = Value.ref b from ry)
  obtain ⟨z, hd, xs, rel, dd⟩ := dt_of I.hok hD
  have zx : xs.length ≤ sizeLine := by rw [← Paired.length rel]; exact z
  have hl : (putK kvs k v).length ≤ sizeLine := by have := length_putK kvs k v; omega
  refine wpAny_dictSet_heap (hsz := zx) ((show (tupleKind (mixKind X.prog X.w)).room X.A from Nat.lt_of_succ_lt hu)) (key_of I.hok eb) dd fun h' dd' hs => h _ ?_
  obtain ⟨q, es, ep, hq, h2, h3, h4, h6, h5⟩ := dd'
  refine d_write I (by rw [hD]; exact True.intro) hs ⟨q, hq⟩ ⟨hl, hd, _, (rel.put k eb rv).keeps fun c ys ec => ?_, q, es, ep, hq, h2, h3, h4, h5⟩
  rw [upd_ne (ne_of ec hD (fun z => nomatch z))]
  exact ec
section
variable {X : Cx}
/-- {k: v for ..}, keys tuples: D the new dict -/
def tDcT (wi : TI) (g : TG) (tt : TT) (tk tv : TE) (vs : List Nat) : TE := fun σ H Q => wi σ H fun J H1 => ∀ D, H1 D = none → ∃ W : Nat → Nat → Hp → Prop, (∃ m, W 0 m (upd H1 D (.dT []))) ∧ ∀ i m H, W i m H →
  (J.stop i H ∧ Q (.ref D) H) ∨ (J.go i H ∧ ∃ Nx : Hp → Prop, (∀ H', Nx H' → ∃ m', m' < m ∧ W (i + 1) m' H') ∧ ∀ x H', J.yld i H x H' → g x (wipe σ vs) H' fun σ2 H2 => wipe σ2 vs = wipe σ vs ∧ tt σ2 H2 fun b H3 =>
    if b = true then tk σ2 H3 fun y H4 => tv σ2 H4 fun z H5 => ∃ kvs k b, y = .ref b ∧ H5 b = some (.tup (k.map kV)) ∧ H5 D = some (.dT kvs) ∧ kvs.length < sizeLine ∧ Nx (upd H5 D (.dT (putK kvs k z))) else Nx H3)
theorem dcT_core {pins : List (Addr × Obj)} {s : Shared} {σ : L2.St} {H : Hp} {Q : VK} {kx vx tg iter : Expr} {ifs : List Expr} {scope : Scope} {own : List (Str × Nat)} {pos pos' : Pos} {wi : TI} {g : TG} {tt : TT} {tk tv : TE} {use : Option (Value → Sem Unit)} {Qf : Value → Shared → Prop}
    (hu : X.A.units + 1 < cLine) (hc : X.calm = true) (hN : X.N.Nodup) (I : Inv X pins σ H s) (hi : PI X tg iter wi) (ok : BlkOk X.N X.env.scope scope own)
    (hg : ∀ (s : Shared) (H : Hp) (C : Addr) (cl : List (Str × Addr)) (fp : List Addr), PG (X.blk s H scope (compEnvC scope cl C X.env) fp) tg g) (ht : ∀ (s : Shared) (H : Hp) (C : Addr) (cl : List (Str × Addr)) (fp : List Addr), PTs (X.blk s H scope (compEnvC scope cl C X.env) fp) ifs tt)
    (hk : ∀ (s : Shared) (H : Hp) (C : Addr) (cl : List (Str × Addr)) (fp : List Addr), PE (X.blk s H scope (compEnvC scope cl C X.env) fp) kx tk)
    (he : ∀ (s : Shared) (H : Hp) (C : Addr) (cl : List (Str × Addr)) (fp : List Addr), PE (X.blk s H scope (compEnvC scope cl C X.env) fp) vx tv) (hs : ∀ x, foldedSetIterable iter X.env x = pure x)
    (h : tDcT wi g tt tk tv (own.map (·.2)) σ H Q)
    (hRR : ∀ D C s' m H', Inv X pins σ H' s' → Q (.ref D) H' → s'.heap.Ns C m → FpOk X pins H' C → compPost (model X.prog X.w) X.A X.xe use Qf (.ref D) C (.ok .next) s') :
    wpAny (model X.prog X.w) X.A (comprehension (.DictComp kx vx [⟨tg, iter, ifs, 0⟩] scope pos) scope X.env pos' newDict false (eval iter X.env) use) Qf X.xe s := by
  have hfree : ∀ y ∈ scope.names, y.2 = .free → ∃ c, X.env.cells.lookup y.1 = some c := fun y hy e => by
    rcases ok.free y hy e with k | k
    · exact I.ok.has _ (.inl k)
    · exact I.ok.has _ (.inr k)
  refine wpAny_comprehension_free (use := use) rfl hs (closure_ok hfree) ok.kind (fun y hy e => by rw [ok.uniq y hy, e])
    (thn (hi.run pins s σ H _ I h) fun xv s1 hx => thn hx fun itv s2 h2 => ?_)
  obtain ⟨it, fp, tn, J, H2, e, I2, T, st2, f2, q⟩ := h2
  subst e
  refine wpAny_newObj_type (newEnv_comp ?_)
  generalize hD : s2.heap.objs.size = D
  have hDn : H2 D = none := I2.hok.fresh (Nat.le_of_eq hD)
  obtain ⟨W, ⟨m0, w0⟩, turn⟩ := q D hDn
  -- the new list
  generalize hs3 : ({ s2 with heap := s2.heap.push { cls := .type "dict", data := .dict #[] } } : Shared) = s3
  have I3 : Inv X pins σ (upd H2 D (.dT [])) s3 := by
    rw [← hs3]
    refine I2.laid (t' := s2.toks) (fun b o e => Heap.get?_push_of_some _ e) (Nat.le_of_eq hD) ?_
    rw [← hD]
    exact dt_empty s2.heap I2.big
  have h3 : s3.heap = s2.heap.push { cls := .type "dict", data := .dict #[] } := by rw [← hs3]
  have sz : ∀ b ∈ fp, b < s2.heap.objs.size := fun b hb => by
    obtain ⟨o, e, _⟩ := T.obj _ _ st2 b hb
    exact Heap.lt_size e
  have f3 : ∀ b ∈ fp, FpOk X pins (upd H2 D (.dT [])) b ∧ b < s3.heap.objs.size := fun b hb => by
    have hlt := sz b hb
    refine ⟨⟨?_, (f2 b hb).2⟩, by rw [h3, Heap.size_push]; exact Nat.lt_succ_of_lt hlt⟩
    rw [upd_ne (by rw [← hD]; exact Nat.ne_of_lt hlt)]
    exact (f2 b hb).1
  have st3 : tn 0 s3.heap := T.keep _ _ _ st2 fun b _ o e => by rw [h3]; exact Heap.get?_push_of_some _ e
  have I4 := block_start I3 ok hN f3
  have pg := hg s3 (upd H2 D (.dT [])) s3.heap.objs.size (cellsFrom (s3.heap.objs.size + 1) scope.names (cloFrom X.env.cells scope.names [])) fp
  have pt := ht s3 (upd H2 D (.dT [])) s3.heap.objs.size (cellsFrom (s3.heap.objs.size + 1) scope.names (cloFrom X.env.cells scope.names [])) fp
  have pk := hk s3 (upd H2 D (.dT [])) s3.heap.objs.size (cellsFrom (s3.heap.objs.size + 1) scope.names (cloFrom X.env.cells scope.names [])) fp
  have pe := he s3 (upd H2 D (.dT [])) s3.heap.objs.size (cellsFrom (s3.heap.objs.size + 1) scope.names (cloFrom X.env.cells scope.names [])) fp
  show codeAny _ _ (.compStart (.DictComp kx vx [⟨tg, iter, ifs, 0⟩] scope pos) 0 (.ref it) (.ref D) (compEnvC scope (cellsFrom (s3.heap.objs.size + 1) scope.names (cloFrom X.env.cells scope.names [])) s3.heap.objs.size X.env)) (compPost (model X.prog X.w) X.A X.xe use Qf (.ref D) s3.heap.objs.size) { s3 with heap := pushCells (s3.heap.push { cls := .type "dict", data := .dict #[] }) scope.names }
  have nfp : ∀ b ∈ fp, (upd H2 D (.dT [])) b = none := fun b hb => (f3 b hb).1.1
  generalize hce : compEnvC scope (cellsFrom (s3.heap.objs.size + 1) scope.names (cloFrom X.env.cells scope.names [])) s3.heap.objs.size X.env = ce at I4 pg pt pk pe ⊢
  have cL : ce.locals = s3.heap.objs.size := by subst hce; rfl
  generalize hH3 : upd H2 D (.dT []) = H3 at I3 I4 pg pt pk pe w0 nfp f3
  generalize hs4 : ({ s3 with heap := pushCells (s3.heap.push { cls := .type "dict", data := .dict #[] }) scope.names } : Shared) = s4 at I4 ⊢
  have st4 : tn 0 s4.heap := T.keep _ _ _ st3 fun b _ o e => by rw [← hs4]; exact pushCells_keeps _ _ _ _ (Heap.get?_push_of_some _ e)
  have stat : ∀ {σ' : L2.St} {H' : Hp} {s' : Shared}, Inv (X.blk s3 H3 scope ce fp) [] σ' H' s' → (∀ b ∈ fp, H' b = none) → ∀ b ∈ fp, FpOk (X.blk s3 H3 scope ce fp) [] H' b := fun {σ' H' s'} I' hn b hb =>
    ⟨hn b hb, (I'.ok.exf b hb).1, I'.ok.exfs b hb, .inl hb, fun x c e => (I'.ok.exf b hb).2 x c e, fun p hp => absurd (show p ∈ ([] : List (Addr × Obj)) ++ [] from hp) (by simp)⟩
  have loop : codeAny (model X.prog X.w) X.A (.compLoop (.DictComp kx vx [⟨tg, iter, ifs, 0⟩] scope pos) 0 (.ref it) (.ref D) ce) (compPost (model X.prog X.w) X.A X.xe use Qf (.ref D) s3.heap.objs.size) s4 := by
    refine compLoop_anyD (fun n s' => ∃ i H', Inv (X.blk s3 H3 scope ce fp) [] (wipe σ (own.map (·.2))) H' s' ∧ tn i s'.heap ∧ (∀ b ∈ fp, H' b = none) ∧ W i n H') ?_ m0 ⟨0, H3, I4, st4, nfp, w0⟩
    rintro n s5 ⟨i, H5, I5, st5, n5, w5⟩
    rcases turn i n H5 w5 with ⟨stop, qq⟩ | ⟨go, Nx, hNx, step⟩
    · have td := T.done (X.blk s3 H3 scope ce fp) rfl rfl rfl hc i [] s5 _ H5 (fun _ _ => False) I5 (stat I5 n5) st5 stop
      refine thnF td fun r s6 ⟨hr, I6⟩ => ?_
      subst hr
      -- back in the def's context
      have I7 : Inv X pins σ H5 s6 := I3.call' (ch := fp) I6.os I6.base I6.hok I6.bare fun b hb => ⟨(f3 b hb).1.2.2.2.1, (f3 b hb).1.2.1, (f3 b hb).1.2.2.2.2.1, (f3 b hb).1.2.2.2.2.2⟩
      have nC : H5 s3.heap.objs.size = none := by
        have z : H5 ce.locals = none := I6.free
        rw [cL] at z
        exact z
      obtain ⟨m, hn, _⟩ := I6.loc
      have hn : s6.heap.Ns ce.locals m := hn
      rw [cL] at hn
      exact hRR D s3.heap.objs.size s6 m H5 I7 qq hn (I3.fpOk (Nat.le_refl _) nC)
    · have ti := T.item (X.blk s3 H3 scope ce fp) rfl rfl rfl hc i [] s5 _ H5 (fun _ _ => False) I5 (stat I5 n5) st5 go
      refine thnF ti fun r s6 ⟨u, hr, h6⟩ => ?_
      subst hr
      refine thnF h6 fun _ s7 ⟨x, H7, I7, r7, y7, st7, n7⟩ => ?_
      have I7' := I7.pinned (stat I7 n7) (T.obj _ _ st7)
      refine thnF (pg.run _ s7 _ H7 x u _ I7' r7 (step x H7 y7)) fun _ s8 ⟨σ8, H8, I8, hw8, q8⟩ => ?_
      refine thnF (pt.run _ s8 σ8 H8 _ I8 q8) fun b s9 ⟨H9, I9, q9⟩ => ?_
      -- the turn's end
      have fin : ∀ {s' : Shared} {H' : Hp}, Inv (X.blk s3 H3 scope ce fp) ([] ++ pinsAt fp s7.heap) σ8 H' s' → Nx H' → ∃ m, m < n ∧ ∃ i H', Inv (X.blk s3 H3 scope ce fp) [] (wipe σ (own.map (·.2))) H' s' ∧ tn i s'.heap ∧ (∀ b ∈ fp, H' b = none) ∧ W i m H' := fun {s' H'} I' nx => by
        obtain ⟨m', hm, w'⟩ := hNx H' nx
        have pin' : ∀ b ∈ fp, ∀ o, s7.heap.get? b = some o → s'.heap.get? b = some o ∧ H' b = none := fun b hb o e =>
          let z := I'.pin (b, o) (List.mem_append_right _ (List.mem_append_right _ (mem_pinsAt hb e)))
          ⟨z.1, z.2.1⟩
        have hl : (wipe σ (own.map (·.2))).length = σ8.length := by rw [← hw8, wipe_length]
        refine ⟨m', hm, i + 1, H', (I'.unpinned (pins := [])).weak hl (fun j v e => ?_), T.keep _ _ _ st7 fun b hb o e => (pin' b hb o e).1, fun b hb => ?_, w'⟩
        · rw [← hw8] at e
          exact (wipe_some e).1
        · obtain ⟨o, e, _⟩ := T.obj _ _ st7 b hb
          exact (pin' b hb o e).2
      cases b with
      | false =>
        simp only [Bool.false_eq_true, if_false] at q9 ⊢
        exact fin I9 q9
      | true =>
        simp only [if_true] at q9 ⊢
        refine thnF (pk.run _ s9 σ8 H9 _ I9 q9) fun z s10 ⟨yk, H10, I10, r10, q10⟩ => ?_
        refine thnF (pe.run _ s10 σ8 H10 _ I10 q10) fun z2 s11 ⟨yv, H11, I11, r11, kvs, k, b, ek, eb, hD11, hz11, nx⟩ => ?_
        subst ek
        exact d_dictSetT (X := X.blk s3 H3 scope ce fp) hu I11 hD11 eb hz11 r10 r11 fun s12 I12 => fin I12 nx
  exact codeAny_compStart_dict loop (T.self X.A 0 _ _ _ st4 loop)
theorem pe_dcT {kx vx tg iter : Expr} {ifs : List Expr} {scope : Scope} {own : List (Str × Nat)} {pos : Pos} {wi : TI} {g : TG} {tt : TT} {tk tv : TE} (hu : X.A.units + 1 < cLine) (hc : X.calm = true) (hN : X.N.Nodup) (hi : PI X tg iter wi) (ok : BlkOk X.N X.env.scope scope own)
    (hg : ∀ (s : Shared) (H : Hp) (C : Addr) (cl : List (Str × Addr)) (fp : List Addr), PG (X.blk s H scope (compEnvC scope cl C X.env) fp) tg g) (ht : ∀ (s : Shared) (H : Hp) (C : Addr) (cl : List (Str × Addr)) (fp : List Addr), PTs (X.blk s H scope (compEnvC scope cl C X.env) fp) ifs tt)
    (hk : ∀ (s : Shared) (H : Hp) (C : Addr) (cl : List (Str × Addr)) (fp : List Addr), PE (X.blk s H scope (compEnvC scope cl C X.env) fp) kx tk)
    (he : ∀ (s : Shared) (H : Hp) (C : Addr) (cl : List (Str × Addr)) (fp : List Addr), PE (X.blk s H scope (compEnvC scope cl C X.env) fp) vx tv) (hs : ∀ x, foldedSetIterable iter X.env x = pure x := by intro _; rfl) :
    PE X (.DictComp kx vx [⟨tg, iter, ifs, 0⟩] scope pos) (tDcT wi g tt tk tv (own.map (·.2))) := by
  refine ⟨fun pins s σ H Q I h => ?_⟩
  rw [arm_eval_DictComp]
  refine dcT_core hu hc hN I hi ok hg ht hk he hs h fun D C s' m H' I' q hn f => ⟨m, hn, fun h'' sb => ?_⟩
  obtain ⟨f0, f1, f2, f3, f4, f5⟩ := f
  exact ⟨.ref D, H', I'.turned (t' := s'.toks) (fun b o hb e => (sb.2 b hb).trans e) f0 f1 f3 f4 f5, rfl, q⟩
/-- name = {..: .. for ..} on one line, the name a local -/
theorem ps_setDcT {i : Nat} {y : Str} {py : Pos} {kx vx tg iter : Expr} {ifs : List Expr} {scope : Scope} {own : List (Str × Nat)} {pos spos : Pos} {wi : TI} {g : TG} {tt : TT} {tk tv : TE} (hu : X.A.units + 1 < cLine) (hc : X.calm = true) (hN : X.N.Nodup) (hy : X.N[i]? = some y) (hyl : X.env.scope.names.lookup y = some .local)
    (hsw : swapsWith (.DictComp kx vx [⟨tg, iter, ifs, 0⟩] scope pos) (some (.Name y py)) spos.line X.env = pure true) (hi : PI X tg iter wi) (ok : BlkOk X.N X.env.scope scope own)
    (hg : ∀ (s : Shared) (H : Hp) (C : Addr) (cl : List (Str × Addr)) (fp : List Addr), PG (X.blk s H scope (compEnvC scope cl C X.env) fp) tg g) (ht : ∀ (s : Shared) (H : Hp) (C : Addr) (cl : List (Str × Addr)) (fp : List Addr), PTs (X.blk s H scope (compEnvC scope cl C X.env) fp) ifs tt)
    (hk : ∀ (s : Shared) (H : Hp) (C : Addr) (cl : List (Str × Addr)) (fp : List Addr), PE (X.blk s H scope (compEnvC scope cl C X.env) fp) kx tk)
    (he : ∀ (s : Shared) (H : Hp) (C : Addr) (cl : List (Str × Addr)) (fp : List Addr), PE (X.blk s H scope (compEnvC scope cl C X.env) fp) vx tv) (hs : ∀ x, foldedSetIterable iter X.env x = pure x := by intro _; rfl) :
    PS X (.Assign [.Name y py] (.DictComp kx vx [⟨tg, iter, ifs, 0⟩] scope pos) spos) (tAsg (tDcT wi g tt tk tv (own.map (·.2))) (gName i)) := by
  refine ⟨fun pins s σ H D I h => ?_⟩
  rw [exec_Assign_Name_used _ _ _ _ hsw]
  refine wpAny_bind (wpAny_standAt (wpAny_bind ?_))
  show wpAny _ X.A (do let _ ← comprehension (.DictComp kx vx [⟨tg, iter, ifs, 0⟩] scope pos) scope X.env (firstIterPos [⟨tg, iter, ifs, 0⟩] pos) newDict false (eval iter X.env) (some (assign (.Name y py) X.env))) _ _ s
  have h : tDcT wi g tt tk tv (own.map (·.2)) σ H (fun x H1 => gName i x σ H1 D.nx) := h
  refine wpAny_bind (thn (dcT_core (Qf := fun _ s' => SP X pins D .next s') hu hc hN I hi ok hg ht hk he hs h fun L C s' m H' I' q hn f => ?_) fun _ s' hq => wpAny_pure (wpAny_pure hq))
  show wpAny _ _ (assign (.Name y py) X.env (.ref L)) _ _ _
  refine wpAny_assign_Name (store_ok2 (v := V.ref L) I' hN hy (.inl hyl) rfl (fun s2 I2 ⟨a, sb, ha⟩ => ?_) (.inr hyl))
  obtain ⟨f0, f1, f2, f3, f4, f5⟩ := f
  have nC : C ≠ a := by
    rcases ha with z | z
    · rw [z]
      exact f1
    · exact fun e => f4 y a z e.symm
  exact ⟨m, hn.sameBut sb nC, fun h3 sb3 => ⟨_, H', I2.turned (t' := s2.toks) (fun b o hb e => (sb3.2 b hb).trans e) f0 f1 f3 f4 f5, q⟩⟩
theorem swD_true {kx vx : Expr} {gs : List Comprehension} {scope : Scope} {pos py : Pos} {y : Str} {l : Nat} {env : Env} (hk : env.scope.kind = .function) (hy : env.scope.names.lookup y = some .local) (hl : (py.line == pos.line) = true)
    (ha : (scope.names.any fun (n, k) => n == y && (k == .local || k == .cell)) = false) : swapsWith (.DictComp kx vx gs scope pos) (some (.Name y py)) l env = pure true := by
  have ky : env.kindOf y = some .local := hy
  have hb : env.blockKind = .function := by unfold Env.blockKind; rw [hk]; rfl
  unfold swapsWith
  simp only [hb, ky, ha, Expr.pos, hl]
  rfl
/-- such a comprehension by what it has made so far -/
theorem dcT_inv {J : It} {n : Nat} {G : Hp → Prop} {Y : Nat → Hp → V → Hp → Prop} {g : TG} {tt : TT} {tk tv : TE} {vs : List Nat} {σ : L2.St} {H1 : Hp} {D : Addr} {Qd : Hp → Prop} (w : Walk J n G Y) (I : Nat → List (List Key × V) → Hp → Prop) (bl : ∀ i kvs H o, I i kvs H → I i kvs (upd H D o)) (h0 : I 0 [] H1) (hl : ∀ i kvs H, i < n → I i kvs H → kvs.length < sizeLine) (hG : ∀ i kvs H, i ≤ n → I i kvs H → G H)
    (hs : ∀ i x kvs H H', i < n → I i kvs H → H D = some (.dT kvs) → Y i H x H' → ∀ (R : V → V → Hp → Prop) (S : Hp → Prop), (∀ k a v H4, H4 D = some (.dT kvs) → H4 a = some (.tup (k.map kV)) → I (i + 1) (putK kvs k v) H4 → R (.ref a) v H4) → (∀ H4, H4 D = some (.dT kvs) → I (i + 1) kvs H4 → S H4) →
      g x (wipe σ vs) H' fun σ2 H2 => wipe σ2 vs = wipe σ vs ∧ tt σ2 H2 fun b H3 => if b = true then tk σ2 H3 fun y H4 => tv σ2 H4 fun v H5 => R y v H5 else S H3) (hd : ∀ kvs H, H D = some (.dT kvs) → I n kvs H → Qd H) :
    ∃ W : Nat → Nat → Hp → Prop, (∃ m, W 0 m (upd H1 D (.dT []))) ∧ ∀ i m H, W i m H →
      (J.stop i H ∧ Qd H) ∨ (J.go i H ∧ ∃ Nx : Hp → Prop, (∀ H', Nx H' → ∃ m', m' < m ∧ W (i + 1) m' H') ∧ ∀ x H', J.yld i H x H' → g x (wipe σ vs) H' fun σ2 H2 => wipe σ2 vs = wipe σ vs ∧ tt σ2 H2 fun b H3 =>
        if b = true then tk σ2 H3 fun y H4 => tv σ2 H4 fun v H5 => ∃ kvs k a, y = .ref a ∧ H5 a = some (.tup (k.map kV)) ∧ H5 D = some (.dT kvs) ∧ kvs.length < sizeLine ∧ Nx (upd H5 D (.dT (putK kvs k v))) else Nx H3) := by
  refine ⟨fun i m H => m = n - i ∧ i ≤ n ∧ ∃ kvs, H D = some (.dT kvs) ∧ I i kvs H, ⟨n, by simp, Nat.zero_le _, [], upd_same, bl _ _ _ _ h0⟩, ?_⟩
  rintro i m H ⟨rfl, hi, kvs, e, p⟩
  by_cases hlt : i < n
  · refine .inr ⟨w.goes i H hlt (hG i kvs H hi p), fun H' => ∃ kvs, H' D = some (.dT kvs) ∧ I (i + 1) kvs H', fun H' p' => ⟨n - (i + 1), by omega, rfl, hlt, p'⟩, fun x H' y => ?_⟩
    exact hs i x kvs H H' hlt p e (w.yields i H x H' hlt (hG i kvs H hi p) y) _ _ (fun k a v H4 e4 ea p4 => ⟨kvs, k, a, rfl, ea, e4, hl i kvs H hlt p, _, upd_same, bl _ _ _ _ p4⟩) fun H4 e4 p4 => ⟨kvs, e4, p4⟩
  · have ei : i = n := by omega
    subst ei
    exact .inl ⟨w.stops H (hG _ kvs H hi p), hd kvs H e p⟩
/-- xs[i], to be written in place -/
def rGetL (K : PySem.W.Frag) : V → V → Hp → VK → Prop := fun x y H Q => ∃ (p : Addr) (xs : List V) (j : Nat) (v : V), x = .ref p ∧ y = .int (j : Nat) ∧ SqL K H p xs ∧ xs[j]? = some v ∧ Q v H
theorem get_list : PGet X (rGetL X.K) := by
  intro pins s σ H o i ov iv Q I ro ri h
  obtain ⟨p, xs, j, v, rfl, rfl, hq, he, q⟩ := h
  cases ro
  obtain ⟨t, rfl⟩ := ri
  obtain ⟨its, r, pl, hz⟩ := I.list hq
  obtain ⟨u, eu, ru⟩ := r.get he
  have hj := (List.getElem?_eq_some_iff.mp he).1
  have hn := line63
  exact wpAny_getItem_list pl.isList (by omega) (by omega) (by simpa using eu) ⟨v, H, I, ru, q⟩
end
end LL

set_option Elab.async false
set_option linter.all false
set_option maxRecDepth 100000
set_option maxHeartbeats 2000000
/-! LLView: d.values(), a list of it; a list beside the empty one; dict comprehensions whose keys are flat. -/
namespace LL
open PySem PySem.Spec PyProof.Rows L2
theorem paired_at {α β : Type} {R : α → β → Prop} {l : List α} {m : List β} (h : Paired R l m) : ∀ {i : Nat} {x : α} {y : β}, l[i]? = some x → m[i]? = some y → R x y := by
  induction h with
  | nil => intro i x y e; simp at e
  | cons a _ ih =>
    intro i x y e1 e2
    cases i with
    | zero =>
      cases e1
      cases e2
      exact a
    | succ i => exact ih e1 e2
section
variable {X : Cx}
def rValues : V → List V → Hp → VK → Prop := fun x xs H Q => ∃ (a : Addr) (kvs : List (Key × V)), x = .ref a ∧ xs = [] ∧ H a = some (.dK kvs) ∧ ∀ p, H p = none → Q (.ref p) (upd H p (viewO "dict_values" p a))
theorem mt_values : MtR X "dict.values" rValues := by
  intro pins s σ H x xs v us Q I rx rxs h
  obtain ⟨a, kvs, rfl, rfl, ha, q⟩ := h
  cases rx
  cases rxs
  obtain ⟨z, hd, vs, rel, dd⟩ := dk_of I.hok ha
  have hf : H s.heap.objs.size = none := I.hok.fresh (Nat.le_refl _)
  refine call_meetsIn PySem.F.slot_dict_values dd.typeIs PySem.F.entry_dict_values (PySem.F.args_dict_values_1 _) (meets_dict_values (mixKind X.prog X.w) a hd) ⟨⟨vs, dd⟩, ?_⟩
  exact ⟨.ref s.heap.objs.size, upd H s.heap.objs.size (viewO "dict_values" s.heap.objs.size a), I.laid (t' := s.toks) (fun b u e => Heap.get?_push_of_some _ e) (Nat.le_refl _) (viewO_ok (Heap.get?_push_size _ rfl)), rfl, q _ hf⟩
def rListV : List V → Hp → VK → Prop := fun vs H Q => ∃ (r a : Addr) (kvs : List (Key × V)), vs = [.ref r] ∧ H r = some (viewO "dict_values" r a) ∧ H a = some (.dK kvs) ∧ ∀ p, H p = none → Q (.ref p) (upd H p (.lst (kvs.map (·.2))))
theorem call_listV (hc : X.calm = true) : CallR X (.type "list") rListV := by
  intro pins s σ H xs us Q I r h
  obtain ⟨p, a, kvs, rfl, hp, ha, q⟩ := h
  obtain ⟨u, rfl, rx⟩ := vals1 r
  obtain rfl : u = Value.ref p := rx
  have view : s.heap.get? p = some (DSub.viewOb "dict_values" a) := (show ObjOk X.prog X.w H s.heap p (viewO "dict_values" p a) from I.hok p _ hp).1
  obtain ⟨z, lo, vs, rk, hd⟩ := (show ObjOk X.prog X.w H s.heap a (.dK kvs) from I.hok a _ ha)
  obtain ⟨ep, hat⟩ := hd.dictAt
  have hl : kvs.length = vs.length := Paired.length rk
  refine PySem.W.kdl_call (PySem.W.kdl_values (knd := mixKind X.prog X.w) (kvs := vs) (ep := ep)) (I.ok.hd hc) ⟨⟨_, view, rfl, rfl⟩, hat⟩ (by rw [← hl]; exact z) fun h' tk acc' c' hk hS hacc => ?_
  refine ⟨.ref s.heap.objs.size, upd H s.heap.objs.size (.lst (kvs.map (·.2))), I.laid hk (Nat.le_refl _) (show ObjOk X.prog X.w _ _ _ (.lst (kvs.map (·.2))) from ⟨?_, acc'.toList, c', ?_, ?_⟩), rfl, q _ (I.hok.fresh (Nat.le_refl _))⟩
  · rw [List.length_map]
    exact z
  · have el : acc'.toList.length = acc'.size := by simp
    refine vals_of_at (by rw [List.length_map, el, hacc.1, hl]) fun j x w h1 h2 => ?_
    obtain ⟨k, hk2⟩ := hacc.2 j w (by rw [← Array.getElem?_toList]; exact h2)
    rw [List.getElem?_map] at h1
    obtain ⟨kv, hkv, rfl⟩ := Option.map_eq_some_iff.mp h1
    exact (paired_at rk hkv hk2).2
  · rw [Array.toArray_toList]
    exact hS
/-- name = {..: .. for ..} on one line, flat keys, the name a local -/
theorem ps_setDcK {i : Nat} {y : Str} {py : Pos} {kx vx tg iter : Expr} {ifs : List Expr} {scope : Scope} {own : List (Str × Nat)} {pos spos : Pos} {wi : TI} {g : TG} {tt : TT} {tk tv : TE} (hc : X.calm = true) (hN : X.N.Nodup) (hy : X.N[i]? = some y) (hyl : X.env.scope.names.lookup y = some .local)
    (hsw : swapsWith (.DictComp kx vx [⟨tg, iter, ifs, 0⟩] scope pos) (some (.Name y py)) spos.line X.env = pure true) (hi : PI X tg iter wi) (ok : BlkOk X.N X.env.scope scope own)
    (hg : ∀ (s : Shared) (H : Hp) (C : Addr) (cl : List (Str × Addr)) (fp : List Addr), PG (X.blk s H scope (compEnvC scope cl C X.env) fp) tg g) (ht : ∀ (s : Shared) (H : Hp) (C : Addr) (cl : List (Str × Addr)) (fp : List Addr), PTs (X.blk s H scope (compEnvC scope cl C X.env) fp) ifs tt)
    (hk : ∀ (s : Shared) (H : Hp) (C : Addr) (cl : List (Str × Addr)) (fp : List Addr), PE (X.blk s H scope (compEnvC scope cl C X.env) fp) kx tk)
    (he : ∀ (s : Shared) (H : Hp) (C : Addr) (cl : List (Str × Addr)) (fp : List Addr), PE (X.blk s H scope (compEnvC scope cl C X.env) fp) vx tv) (hs : ∀ x, foldedSetIterable iter X.env x = pure x := by intro _; rfl) :
    PS X (.Assign [.Name y py] (.DictComp kx vx [⟨tg, iter, ifs, 0⟩] scope pos) spos) (tAsg (tDc wi g tt tk tv (own.map (·.2))) (gName i)) := by
  refine ⟨fun pins s σ H D I h => ?_⟩
  rw [exec_Assign_Name_used _ _ _ _ hsw]
  refine wpAny_bind (wpAny_standAt (wpAny_bind ?_))
  show wpAny _ X.A (do let _ ← comprehension (.DictComp kx vx [⟨tg, iter, ifs, 0⟩] scope pos) scope X.env (firstIterPos [⟨tg, iter, ifs, 0⟩] pos) newDict false (eval iter X.env) (some (assign (.Name y py) X.env))) _ _ s
  have h : tDc wi g tt tk tv (own.map (·.2)) σ H (fun x H1 => gName i x σ H1 D.nx) := h
  refine wpAny_bind (thn (dc_core (Qf := fun _ s' => SP X pins D .next s') hc hN I hi ok hg ht hk he hs h fun L C s' m H' I' q hn f => ?_) fun _ s' hq => wpAny_pure (wpAny_pure hq))
  show wpAny _ _ (assign (.Name y py) X.env (.ref L)) _ _ _
  refine wpAny_assign_Name (store_ok2 (v := V.ref L) I' hN hy (.inl hyl) rfl (fun s2 I2 ⟨a, sb, ha⟩ => ?_) (.inr hyl))
  obtain ⟨f0, f1, f2, f3, f4, f5⟩ := f
  have nC : C ≠ a := by
    rcases ha with z | z
    · rw [z]
      exact f1
    · exact fun e => f4 y a z e.symm
  exact ⟨m, hn.sameBut sb nC, fun h3 sb3 => ⟨_, H', I2.turned (t' := s2.toks) (fun b o hb e => (sb3.2 b hb).trans e) f0 f1 f3 f4 f5, q⟩⟩
/-- such a comprehension by what it has made so far -/
theorem dcK_inv {J : It} {n : Nat} {G : Hp → Prop} {Y : Nat → Hp → V → Hp → Prop} {g : TG} {tt : TT} {tk tv : TE} {vs : List Nat} {σ : L2.St} {H1 : Hp} {D : Addr} {Qd : Hp → Prop} (w : Walk J n G Y) (I : Nat → List (Key × V) → Hp → Prop) (bl : ∀ i kvs H o, I i kvs H → I i kvs (upd H D o)) (h0 : I 0 [] H1) (hl : ∀ i kvs H, i < n → I i kvs H → kvs.length < sizeLine) (hG : ∀ i kvs H, i ≤ n → I i kvs H → G H)
    (hs : ∀ i x kvs H H', i < n → I i kvs H → H D = some (.dK kvs) → Y i H x H' → ∀ (R : V → V → Hp → Prop) (S : Hp → Prop), (∀ k v H4, H4 D = some (.dK kvs) → I (i + 1) (putK kvs k v) H4 → R (kV k) v H4) → (∀ H4, H4 D = some (.dK kvs) → I (i + 1) kvs H4 → S H4) →
      g x (wipe σ vs) H' fun σ2 H2 => wipe σ2 vs = wipe σ vs ∧ tt σ2 H2 fun b H3 => if b = true then tk σ2 H3 fun y H4 => tv σ2 H4 fun v H5 => R y v H5 else S H3) (hd : ∀ kvs H, H D = some (.dK kvs) → I n kvs H → Qd H) :
    ∃ W : Nat → Nat → Hp → Prop, (∃ m, W 0 m (upd H1 D (.dK []))) ∧ ∀ i m H, W i m H →
      (J.stop i H ∧ Qd H) ∨ (J.go i H ∧ ∃ Nx : Hp → Prop, (∀ H', Nx H' → ∃ m', m' < m ∧ W (i + 1) m' H') ∧ ∀ x H', J.yld i H x H' → g x (wipe σ vs) H' fun σ2 H2 => wipe σ2 vs = wipe σ vs ∧ tt σ2 H2 fun b H3 =>
        if b = true then tk σ2 H3 fun y H4 => tv σ2 H4 fun z H5 => ∃ kvs k, y = kV k ∧ H5 D = some (.dK kvs) ∧ kvs.length < sizeLine ∧ Nx (upd H5 D (.dK (putK kvs k z))) else Nx H3) := by
  refine ⟨fun i m H => m = n - i ∧ i ≤ n ∧ ∃ kvs, H D = some (.dK kvs) ∧ I i kvs H, ⟨n, by simp, Nat.zero_le _, [], upd_same, bl _ _ _ _ h0⟩, ?_⟩
  rintro i m H ⟨rfl, hi, kvs, e, p⟩
  by_cases hlt : i < n
  · refine .inr ⟨w.goes i H hlt (hG i kvs H hi p), fun H' => ∃ kvs, H' D = some (.dK kvs) ∧ I (i + 1) kvs H', fun H' p' => ⟨n - (i + 1), by omega, rfl, hlt, p'⟩, fun x H' y => ?_⟩
    exact hs i x kvs H H' hlt p e (w.yields i H x H' hlt (hG i kvs H hi p) y) _ _ (fun k v H4 e4 p4 => ⟨kvs, k, rfl, e4, hl i kvs H hlt p, _, upd_same, bl _ _ _ _ p4⟩) fun H4 e4 p4 => ⟨kvs, e4, p4⟩
  · have ei : i = n := by omega
    subst ei
    exact .inl ⟨w.stops H (hG _ kvs H hi p), hd kvs H e p⟩
theorem pe_bm0N {K : PySem.W.Frag} {o : Expr} {to : TE} {name : Str} {apos cpos : Pos} {T id : String} {r : V → List V → Hp → VK → Prop} (hK : X.K = K) (pa : PlainAttrs T) (slot : Slot T name id) (hty : typeOf (.builtin id) = pure (.type "method_descriptor")) (hm : MtR X id r) (ho : PE X o to)
    (hbase : attributeBase o name X.env (eval o X.env) = eval o X.env := by rfl) (hline : (apos.endLine == cpos.line) = true := by rfl) : PE X (.Call (.Attribute o name apos) [] [] cpos) (tBM0 K T r to) := hK ▸ pe_bm0 pa slot hty hm ho hbase hline
/-- xs != [], whatever stands in xs -/
def rNeE : R2 := fun x y H Q => ∃ (a b : Addr) (xs : List V), x = .ref a ∧ y = .ref b ∧ H a = some (.lst xs) ∧ H b = some (.lst []) ∧ Q (.bl (!xs.isEmpty)) H
theorem op_neE (hu : X.A.units < cLine) : OpR X (compareOp .NotEq) rNeE := by
  intro pins s σ H x y v u Q I rx ry h
  obtain ⟨a, b, xs, rfl, rfl, ha, hb, q⟩ := h
  obtain rfl : v = Value.ref a := rx
  obtain rfl : u = Value.ref b := ry
  obtain ⟨its, n, r, ho, hz⟩ := I.lst ha
  obtain ⟨jts, m, r2, ho2, hz2⟩ := I.lst hb
  have e2 : jts = [] := by
    have := r2.length
    exact List.eq_nil_of_length_eq_zero this.symm
  subst e2
  have l1 : s.heap.IsList a its.toArray := ⟨_, ho, rfl, n, rfl⟩
  have l2 : s.heap.IsList b ([] : List Value).toArray := ⟨_, ho2, rfl, m, rfl⟩
  have fin : EP X pins σ Q (.bool (!xs.isEmpty)) s := ⟨.bl _, H, I, rfl, q⟩
  have len := r.length
  cases xs with
  | nil =>
    have ei : its = [] := List.eq_nil_of_length_eq_zero len.symm
    subst ei
    exact SeqAt.RcNeAt.lists (e := fun _ => true) l1 l2 rfl hu (fun j h1 _ => absurd h1 (by simp)) X.prog X.w _ _ fin
  | cons x xs =>
    refine SeqAt.RcNeAt.lists_lengths l1 l2 ?_ hu X.prog X.w _ _ fin
    rw [List.size_toArray, List.size_toArray, ← len]
    rfl
end
end LL

set_option Elab.async false
set_option linter.all false
set_option maxRecDepth 100000
set_option maxHeartbeats 4000000
/-! L71m: a deed. -/
namespace K71
open PySem PySem.Spec PyProof.Rows L2 LL ORD
abbrev s_l_deed_right : Stmt := top 40
abbrev n_l_deed_right : List Str := ["_law_pot_here", "_law_parts", "_law_ledger", "_law_history", "_law_tries", "_law_gone", "_law_cells_here", "_law_way", "_law_lane", "_law_attempt", "_law_one"]
theorem sc_l_deed_right : FnScope n_l_deed_right ["_law_pot_here", "_law_parts"] (defScope s_l_deed_right) := ⟨rfl, rfl, rfl, by decide +kernel, rfl, by decide +kernel, by decide +kernel⟩
theorem un0 {n : Nat} (h : n + 64 < cLine) : n < cLine := by omega
/-- all that is apart from the world stays, and stays apart -/
def Nxt (F : Fx) (S S' : Sx) (p : Addr) (H H' : Hp) : Prop := ∀ b o, H b = some o → b ≠ p → (∀ ps, o ≠ .tbl ps) → Apt F S b → H' b = some o ∧ Apt F S' b
theorem Nxt.of {F : Fx} {S : Sx} {p : Addr} {H H' : Hp} (b : Bs [p] H H') : Nxt F S S p H H' := fun x o e n t a => ⟨b x o e (by simp [n]) t, a⟩
def spDeed (CL CA : Addr) (Tb : List (Addr × Str)) : Sp := fun vs H Q _ => ∃ (p P' : Addr) (F : Fx) (S : Sx) (t : Nat), vs = [.ref p, .ref P'] ∧ H P' = some (.lst [.ref F.q, .ref F.hL, .ref F.tL, .ref F.gL, .ref F.cL]) ∧ P' ≠ p ∧ PotAt H p ∧ Apt F S p ∧ Wd CL CA F S H ∧ Lo F S t ∧ t ≤ 85 ∧ LamX.Tabs Tb H ∧
  ∀ H' S', Wd CL CA F S' H' → Lo F S' (t + 1) → LamX.Tabs Tb H' → Nxt F S S' p H H' → PotAt H' p → Apt F S' p → Q (.bl true) H'
section
variable {P : Program} {w : World} {K : PySem.W.Frag} {mg : Str → Option Value} {base : Heap} {CE CH CO CI CN CB CV CS CL CA : Addr} {f : Addr} {fd : FuncData} {Tb : List (Addr × Str)} {c Pt : Addr}
theorem RecAt.rd {q : Addr} {H H' : Hp} {r : Rec} {D : List (Str × Int)} (h : RecAt CA q H r) (b : But2 r.dv r.ld H H') (h1 : H' r.dv = some (.dK (dV D))) (h2 : H' r.ld = some (.dK (dV D))) : RecAt CA q H' (r.wth D r.W r.over) := by
  have nd := h.nd
  simp only [Rec.as, List.nodup_cons, List.mem_cons, List.not_mem_nil, or_false, not_or, List.nodup_nil, and_true, not_false_eq_true] at nd
  obtain ⟨⟨n1, n2, n3, n4, n5⟩, ⟨n6, n7, n8, n9⟩, ⟨n10, n11, n12⟩, ⟨n13, n14⟩, n15⟩ := nd
  obtain ⟨dx, fs, e, af⟩ := h.att
  exact ⟨b _ _ h.one n2 n4, ⟨dx, fs, b _ _ e n6 n8, af⟩, h1, b _ _ h.dw (Ne.symm n10) n13, h2, b _ _ h.ll (Ne.symm n12) (Ne.symm n15), h.nd⟩
theorem RecAt.wr {q : Addr} {H H' : Hp} {r : Rec} {W : List Str} (h : RecAt CA q H r) (b : But2 r.dw r.ll H H') (h1 : H' r.dw = some (.dK (wV W))) (h2 : H' r.ll = some (.lst (W.map V.str))) : RecAt CA q H' (r.wth r.D W r.over) := by
  have nd := h.nd
  simp only [Rec.as, List.nodup_cons, List.mem_cons, List.not_mem_nil, or_false, not_or, List.nodup_nil, and_true, not_false_eq_true] at nd
  obtain ⟨⟨n1, n2, n3, n4, n5⟩, ⟨n6, n7, n8, n9⟩, ⟨n10, n11, n12⟩, ⟨n13, n14⟩, n15⟩ := nd
  obtain ⟨dx, fs, e, af⟩ := h.att
  exact ⟨b _ _ h.one n3 n5, ⟨dx, fs, b _ _ e n7 n9, af⟩, b _ _ h.dv n10 n12, h1, b _ _ h.ld (Ne.symm n13) n15, h2, h.nd⟩
theorem putD_keys (D : List (Str × Int)) (z : Str) (i : Int) : (putD D z i).map (·.1) = if z ∈ D.map (·.1) then D.map (·.1) else D.map (·.1) ++ [z] := by
  unfold putD
  split
  · rw [List.map_map]
    refine List.map_congr_left fun p _ => ?_
    show (if p.1 = z then (z, i) else p).1 = p.1
    split
    · next h => exact h.symm
    · rfl
  · rw [List.map_append]
    rfl
theorem nd_put {D : List Str} {z : Str} (h : D.Nodup) : (if z ∈ D then D else D ++ [z]).Nodup := by
  split
  · exact h
  · next n =>
    refine List.nodup_append.mpr ⟨h, by simp, fun a ha b hb e => n ?_⟩
    rw [List.mem_singleton.mp hb] at e
    rw [← e]
    exact ha
theorem mem_put {D cs : List Str} {z : Str} (h : ∀ c ∈ D, c ∈ cs) (hz : z ∈ cs) : ∀ c ∈ (if z ∈ D then D else D ++ [z]), c ∈ cs := by
  split
  · exact h
  · intro c hc
    rcases List.mem_append.mp hc with e | e
    · exact h c e
    · rw [List.mem_singleton.mp e]
      exact hz
theorem ROk.rd {n : Nat} {cs : List Str} {h : Hs} {r : Rec} {z : Str} {o : Bool} (R : ROk n cs h r) (hz : z ∈ cs) : ROk n cs h (r.wth (rdD h r z) r.W o) := by
  refine ⟨R.pl, R.ln, ?_, ?_, R.wn, R.wc⟩
  · show ((rdD h r z).map (·.1)).Nodup
    unfold rdD
    split
    · exact R.dn
    · rw [putD_keys]
      exact nd_put R.dn
  · show ∀ c ∈ (rdD h r z).map (·.1), c ∈ cs
    unfold rdD
    split
    · exact R.dc
    · rw [putD_keys]
      exact mem_put R.dc hz
theorem ROk.wr {n : Nat} {cs : List Str} {h : Hs} {r : Rec} {z : Str} {o : Bool} (R : ROk n cs h r) (hz : z ∈ cs) : ROk n cs h (r.wth r.D (putW r.W z) o) := ⟨R.pl, R.ln, R.dn, R.dc, nd_put R.wn, mem_put R.wc hz⟩
/-- where one record is touched -/
theorem Nxt.setr {F : Fx} {S : Sx} {p : Addr} {H H1 H' : Hp} {i : Nat} {r : Rec} {D : List (Str × Int)} {W' : List Str} {o : Bool} (b : Bs [p] H H1) (hi : S.rs[i]? = some r) (b' : Bs r.as H1 H') : Nxt F S (S.setr i (r.wth D W' o)) p H H' := fun x u e n nt a => ⟨b' x u (b x u e (by simp [n]) nt) (a.2 i r hi) nt, a.setr hi⟩
theorem ok_l_deed_right (T : Tx K mg CE CH CO) (S : Tz K mg CL CA) (G_l_take : Fnc P w K mg base CX0 1 "_law_take" [] spTake) (G_l_pick : Fnc P w K mg base CX0 2 "_law_pick" [] spPick) (P_lane : Prp P w K mg base CX0 1 CA "lane" (spLane CA)) (P_place : Prp P w K mg base CX0 1 CA "place" (spPlace CA)) (P_is_over : Prp P w K mg base CX0 1 CA "is_over" (spOver CA)) (M_begin : Mth P w K mg base (L2.CX P w) 5 CL "begin" [] (spBeg K CL CA CN CB)) (M_drop : Mth P w K mg base (L2.CX P w) 3 CA "drop" [] (spDrop CA CV))
    (G_l_wrong_right : Fnc P w K mg base CX0 10 "_law_wrong_right" [] (spWgR CL CA Tb)) (G_l_over_right : Fnc P w K mg base CX0 10 "_law_over_right" [] (spOvR CL CA Tb)) (G_l_read_right : Fnc P w K mg base CX0 5 "_law_read_right" [] (spRdR CL CA)) (G_l_write_right : Fnc P w K mg base CX0 5 "_law_write_right" [] (spWrR CA)) (G_l_end_right : Fnc P w K mg base CX0 10 "_law_end_right" [] (spEndR CL CA Tb)) (F : FD K "_law_deed_right" "_law_deed_right" s_l_deed_right [] f fd) :
    FnG P w K mg base CX0 11 f fd ["_law_pot_here", "_law_parts"] (spDeed CL CA Tb) := by
  refine ok0 F sc_l_deed_right (fun vs H Q E h => ?_) (fun cdv A outer s H vs Q E hr h => ?_)
  · obtain ⟨p, P', F, S, t, rfl, _⟩ := h
    rfl
  · obtain ⟨p, P', F', Z, t, rfl, hP, nP, hp, ap, W, L, t8, tb, q⟩ := h
    have C := L.cs
    have n1 := L.n1
    have n8 := L.n8
    refine ⟨_, (pss_cons (ps_asg (pv 1) (pg_lst rfl (pgs_cons (pg_name (i := 2) sc_l_deed_right.nd rfl (by first | exact Or.inl rfl | exact Or.inr rfl)) (pgs_cons (pg_name (i := 3) sc_l_deed_right.nd rfl (by first | exact Or.inl rfl | exact Or.inr rfl)) (pgs_cons (pg_name (i := 4) sc_l_deed_right.nd rfl (by first | exact Or.inl rfl | exact Or.inr rfl)) (pgs_cons (pg_name (i := 5) sc_l_deed_right.nd rfl (by first | exact Or.inl rfl | exact Or.inr rfl)) (pgs_cons (pg_name (i := 6) sc_l_deed_right.nd rfl (by first | exact Or.inl rfl | exact Or.inr rfl)) pgs_nil)))))))
      (pss_cons (ps_par (i := 7) (j := 8) rfl sc_l_deed_right.nd rfl rfl (by decide) rfl rfl (pa_cons (pe_fn G_l_take (hr.mono (by decide)) pass0 (pa_cons (pv 0) (pa_cons pe_int pa_nil))) (pa_cons (pe_fn G_l_take (hr.mono (by decide)) pass0 (pa_cons (pv 0) (pa_cons (pe_callB call_len_seq (by rfl) T.n_len (by decide +kernel) (pa_cons (pv 4) pa_nil)) pa_nil))) pa_nil)) (by rfl))
      (pss_cons (ps_if (pt_cmpR op_eq (pv 7) pe_int (nomark _)) (pss_one (ps_ret (pe_fn G_l_wrong_right (hr.mono (by decide)) pass0 (pa_cons (pv 0) (pa_cons (pv 2) (pa_cons (pe_callB call_len_seq (by rfl) T.n_len (by decide +kernel) (pa_cons (pv 4) pa_nil)) (pa_cons (pv 4) pa_nil))))))) pss_nil)
      (pss_cons (ps_if (PW.pt (pw_and (pt_cmpR (op_neE (un0 hr.r.units)) (pv 5) (pe_lst pa_nil) (nomark _)) (pw_and1 (pt_cmpR op_eq (pe_fn G_l_take (hr.mono (by decide)) pass0 (pa_cons (pv 0) (pa_cons pe_int pa_nil))) pe_int (nomark _))))) (pss_one (ps_ret (pe_fn G_l_over_right (hr.mono (by decide)) pass0 (pa_cons (pv 0) (pa_cons (pe_fn G_l_pick (hr.mono (by decide)) pass0 (pa_cons (pv 0) (pa_cons (pv 5) pa_nil))) (pa_cons (pv 6) pa_nil)))))) pss_nil)
      (pss_cons (ps_if (pt_cmpR op_isN (pe_ix ix_list (pv 4) (pv 8) (fun _ _ => rfl)) pe_non (nomark _)) (pss_cons (ps_set (i := 9) sc_l_deed_right.nd rfl (by first | exact Or.inl rfl | exact Or.inr rfl) (pe_mt M_begin (hr.mono (by decide)) passF (pv 2) (pa_cons (pv 8) pa_nil)))
      (pss_cons (ps_asg (pe_lst (pa_cons (pv 9) (pa_cons (pv 8) (pa_cons (pe_callB call_len_seq (by rfl) T.n_len (by decide +kernel) (pa_cons (pv 3) pa_nil)) (pa_cons pe_dnewK (pa_cons (pe_lst pa_nil) pa_nil)))))) (pg_sub (pv 4) (pv 8) set_list))
      (pss_one (ps_ret (pe_cmpR (op_eqD hr.r.units) (pe_lst (pa_cons (pe_pr P_lane (hr.mono (by decide)) pass0 (pv 9)) (pa_cons (pe_pr P_place (hr.mono (by decide)) pass0 (pv 9)) (pa_cons (pe_pr P_is_over (hr.mono (by decide)) pass0 (pv 9)) pa_nil)))) (pe_lst (pa_cons (pv 8) (pa_cons (pe_callB call_len_seq (by rfl) T.n_len (by decide +kernel) (pa_cons (pv 3) pa_nil)) (pa_cons pe_bl pa_nil)))) (nomark _)))))) pss_nil)
      (pss_cons (ps_set (i := 10) sc_l_deed_right.nd rfl (by first | exact Or.inl rfl | exact Or.inr rfl) (pe_ix ix_list (pv 4) (pv 8) (fun _ _ => rfl)))
      (pss_cons (ps_if (pt_cmpR op_lt (pv 7) pe_int (nomark _)) (pss_one (ps_ret (pe_fn G_l_read_right (hr.mono (by decide)) pass0 (pa_cons (pv 3) (pa_cons (pv 10) (pa_cons (pe_fn G_l_pick (hr.mono (by decide)) pass0 (pa_cons (pv 0) (pa_cons (pv 6) pa_nil))) pa_nil)))))) pss_nil)
      (pss_cons (ps_if (pt_cmpR op_lt (pv 7) pe_int (nomark _)) (pss_one (ps_ret (pe_fn G_l_write_right (hr.mono (by decide)) pass0 (pa_cons (pv 10) (pa_cons (pe_fn G_l_pick (hr.mono (by decide)) pass0 (pa_cons (pv 0) (pa_cons (pv 6) pa_nil))) pa_nil))))) pss_nil)
      (pss_cons (ps_expr (pe_bm PySem.F.plainAttrs_list PySem.F.slot_list_append PySem.F.type_list_append mt_append (pv 5) (pa_cons (pv 10) pa_nil)))
      (pss_cons (ps_asg pe_non (pg_sub (pv 4) (pv 8) set_list))
      (pss_cons (ps_if (pt_cmpR op_eq (pv 7) pe_int (nomark _)) (pss_one (ps_ret (pe_and (pe_fn G_l_end_right (hr.mono (by decide)) pass0 (pa_cons (pv 3) (pa_cons (pv 10) pa_nil))) (pe_one (pe_cmpR op_isBl (pe_pr P_is_over (hr.mono (by decide)) pass0 (pe_ix ix_list (pv 10) pe_int (fun _ _ => rfl))) pe_bl (nomark _)))))) pss_nil)
      (pss_one (ps_ret (pe_and (pe_cmpR op_isN (pe_mt0 M_drop (hr.mono (by decide)) passF (pe_ix ix_list (pv 10) pe_int (fun _ _ => rfl))) pe_non (nomark _)) (pe_one (pe_cmpR op_isBl (pe_pr P_is_over (hr.mono (by decide)) pass0 (pe_ix ix_list (pv 10) pe_int (fun _ _ => rfl))) pe_bl (nomark _))))))))))))))))), ?_⟩
    refine ⟨_, rfl, P', _, rfl, SqL.of hP, rfl, _, _, rfl, _, _, rfl, _, _, rfl, _, _, rfl, _, _, rfl, rfl, ?_⟩
    refine ⟨_, rfl, p, 8, rfl, hp, by decide, by decide, fun H1 wy b1 hp1 w0 w8 => ?_⟩
    have W1 := W.but hp b1 ap
    refine ⟨_, rfl, _, rfl, F'.tL, _, rfl, .inl (SqL.of W1.tl), p, F'.n, by rw [List.length_map, L.tn]; rfl, hp1, by omega, by omega, fun H2 d b2 hp2 d0 d1 => ?_⟩
    obtain ⟨l, rfl⟩ := Int.eq_ofNat_of_zero_le d0
    have ll : l < F'.n := by omega
    have tb2 := tabs_pot (tabs_pot tb hp b1) hp1 b2
    have b02 : Bs [p] H H2 := (Bs.but b1 (by simp)).trans (.but b2 (by simp))
    have spot : SoftAt [p] H := let ⟨_, _, e, _⟩ := hp; .cons e .l .nil
    have Wof : ∀ {G : Hp}, Bs [p] H G → Wd CL CA F' Z G := fun b => W.bs b spot (fun x hx => by rw [List.mem_singleton.mp hx]; exact ap)
    have W2 := Wof b02
    clear W1
    refine ⟨_, _, rfl, ?_⟩
    dsimp only
    have stay : ∀ G, Bs [p] H G → PotAt G p → LamX.Tabs Tb G → Q (.bl true) G := fun G b hpG tbG => q G Z (Wof b) (L.le (Nat.le_succ _)) tbG (.of b) hpG ap
    -- what must raise
    refine seq_cut (fun σ' H' => σ' = [some (.ref p), some (.ref P'), some (.ref F'.q), some (.ref F'.hL), some (.ref F'.tL), some (.ref F'.gL), some (.ref F'.cL), some (.int wy), some (.int (l : Nat)), none, none] ∧ H' = H2) (fun N hN => ?_) ?_
    · refine ⟨_, rfl, rfl, _, rfl, ?_⟩
      by_cases c0 : wy = 0
      · refine iteY (dec_eq c0) ⟨_, rfl, _, rfl, _, rfl, F'.tL, _, rfl, .inl (SqL.of W2.tl), _, rfl, p, F', Z, t, by rw [List.length_map, L.tn]; rfl, hp2, ap, W2, L, by omega, tb2, fun H3 b3 hp3 tb3 => stay _ (b02.trans b3) hp3 tb3⟩
      · exact iteN (dec_ne c0) (hN _ _ ⟨rfl, rfl⟩)
    rintro σ3 H3 ⟨rfl, rfl⟩
    -- an attempt that is over
    refine seq_cut (fun σ' H' => σ' = [some (.ref p), some (.ref P'), some (.ref F'.q), some (.ref F'.hL), some (.ref F'.tL), some (.ref F'.gL), some (.ref F'.cL), some (.int wy), some (.int (l : Nat)), none, none] ∧ Bs [p] H H' ∧ PotAt H' p ∧ LamX.Tabs Tb H') (fun N hN => ?_) ?_
    · refine ⟨_, rfl, (by show 0 ≤ sizeLine; decide), fun lE nE => ?_⟩
      obtain ⟨G3, e, s3, k3⟩ := mkO nE (.lst [])
      rw [e]
      clear e
      have b03 : Bs [p] H G3 := b02.trans (.same s3)
      have tb3 := tabs_same tb2 s3
      have hp3 := hp2.same s3
      have W3 := Wof b03
      refine ⟨F'.gL, lE, _, rfl, rfl, W3.gl, k3, _, rfl, ?_⟩
      by_cases g0 : Z.gs = []
      · exact iteN (by rw [g0]; rfl) (hN _ _ ⟨rfl, b03, hp3, tb3⟩)
      · refine iteY (by cases e : Z.gs with | nil => exact absurd e g0 | cons _ _ => rfl) ?_
        refine ⟨_, rfl, p, 9, rfl, hp3, by decide, by decide, fun H4 d b4 hp4 _ _ => ⟨rfl, _, rfl, ?_⟩⟩
        have b04 : Bs [p] H H4 := b03.trans (.but b4 (by simp))
        have tb4 := tabs_pot tb3 hp3 b4
        have W4 := Wof b04
        by_cases d9 : d = 0
        · refine iteY (dec_eq d9) ?_
          have ngp : F'.gL ≠ p := fun z => ap.1 (by rw [← z]; simp [Fx.as])
          refine ⟨_, rfl, _, rfl, _, rfl, p, _, rfl, hp4, .inl ⟨F'.gL, _, rfl, W4.gl, by simp [g0], by rw [List.length_map]; have := L.gn; omega, ngp, fun H5 v b5 hp5 hv => ?_⟩⟩
          obtain ⟨i, hi, rfl⟩ := List.mem_map.mp hv
          obtain ⟨r, hr', ov⟩ := L.gone i hi
          have b05 : Bs [p] H H5 := b04.trans (.but b5 (by simp))
          refine ⟨_, rfl, p, F', Z, t, i, r, by rw [oneV_of hr']; rfl, hp5, ap, Wof b05, L, by omega, hr', ov, tabs_pot tb4 hp4 b5, fun H6 b6 hp6 tb6 => stay _ (b05.trans b6) hp6 tb6⟩
        · exact iteN (dec_ne d9) (hN _ _ ⟨rfl, b04, hp4, tb4⟩)
    clear b02 hp2 tb2 W2
    rintro σ2 H2' ⟨rfl, b02, hp2, tb2⟩
    have W2 := Wof b02
    obtain ⟨o, ho⟩ : ∃ o, Z.ts[l]? = some o := ⟨_, List.getElem?_eq_getElem (by rw [L.tn]; exact ll)⟩
    have hot : (Z.ts.map (tV Z.rs))[l]? = some (tV Z.rs o) := by rw [List.getElem?_map, ho]; rfl
    have hkv := L.kv l ll
    have hn := L.hn
    have hk := L.kn
    -- a new attempt
    refine seq_cut (fun σ' H' => (∃ i, o = some i) ∧ σ' = [some (.ref p), some (.ref P'), some (.ref F'.q), some (.ref F'.hL), some (.ref F'.tL), some (.ref F'.gL), some (.ref F'.cL), some (.int wy), some (.int (l : Nat)), none, none] ∧ H' = H2') (fun N hN => ?_) ?_
    · refine ⟨_, rfl, _, rfl, F'.tL, _, _, _, rfl, rfl, SqL.of W2.tl, atI_nat hot, rfl, _, rfl, ?_⟩
      cases o with
      | some i => exact iteN (by show (decide (oneV Z.rs i = V.non)) = false; simp [oneV]) (hN _ _ ⟨⟨i, rfl⟩, rfl, rfl⟩)
      | none =>
        refine iteY (by show decide (V.non = V.non) = true; simp) ?_
        obtain ⟨dq, gs, hq, lf⟩ := id W2.lg
        have nkv : valV Z.kvs (Sum.inl (l : Int)) = none ∨ ∃ a q' l' pl' dv' dw', valV Z.kvs (Sum.inl (l : Int)) = some (.ref a) ∧ AtAt CA H2' a q' l' pl' dv' dw' true := by
          rcases hkv with ⟨_, z⟩ | ⟨i, r, hi, ev, z | ⟨_, ov⟩⟩
          · exact .inl z
          · rw [ho] at z
            cases z
          · have := (W2.rc i r hi).att
            rw [ov] at this
            exact .inr ⟨_, _, _, _, _, _, ev, this⟩
        refine ⟨_, rfl, F'.q, dq, gs, rfl, hq, lf.no "begin" (by decide +kernel) (by decide +kernel) (by decide +kernel), _, rfl, F'.q, F'.hl, F'.da, F'.n, F'.k, Z.us, .int (l : Nat), Z.kvs, rfl, W2.lg, W2.hl, by rw [W2.fu.len]; omega, W2.da, by omega, by omega, .inr ⟨l, rfl, ll, .inl ⟨nkv, fun H3 pa dv dw at3 hv3 hw3 na nv nw b3 da3 => nm_of ?_⟩⟩⟩
        dsimp only
        have nd := W2.nd
        simp only [Fx.as, List.nodup_cons, List.mem_cons, List.not_mem_nil, or_false, not_or, List.nodup_nil, and_true, not_false_eq_true] at nd
        obtain ⟨⟨n1, n2, n3, n4, n5, n6⟩, ⟨m1, m2, m3, m4, m5⟩, ⟨k1, k2, k3, k4⟩, ⟨j1, j2, j3⟩, ⟨i1, i2⟩, h1⟩ := nd
        have hL3 := b3 _ _ W2.hL (Ne.symm k1)
        have tl3 := b3 _ _ W2.tl (Ne.symm k2)
        refine ⟨_, rfl, _, rfl, _, rfl, F'.hL, _, rfl, .inl (SqL.of hL3), fun ld nld => ?_⟩
        obtain ⟨G4, e, s4, k4'⟩ := mkO nld (.dK [])
        rw [e]
        clear e
        refine ⟨(by show 0 ≤ sizeLine; decide), fun lw' nlw => ?_⟩
        obtain ⟨G5, e, s5, k5⟩ := mkO nlw (.lst [])
        rw [e]
        clear e
        refine ⟨(by show 5 ≤ sizeLine; decide), fun one none_ => ?_⟩
        obtain ⟨G6, e, s6, k6⟩ := mkO none_ (.lst [.ref pa, .int (l : Nat), .int (Z.us'.length : Nat), .ref ld, .ref lw'])
        rw [e]
        clear e
        have s36 := (s4.trans s5).trans s6
        have tl6 := s36 _ _ tl3
        refine ⟨_, rfl, _, rfl, F'.tL, _, _, l, rfl, rfl, tl6, ?_, ?_⟩
        · rw [List.length_map, L.tn]
          unfold ixN
          rw [if_pos (by omega), if_pos (by omega)]
          rfl
        obtain ⟨G7, e7⟩ : ∃ G, upd G6 F'.tL (.lst ((Z.ts.map (tV Z.rs)).set l (.ref one))) = G := ⟨_, rfl⟩
        dsimp only
        rw [e7]
        have b7 : But F'.tL G6 G7 := e7 ▸ but_upd
        have tl7 : G7 F'.tL = some (.lst ((Z.ts.map (tV Z.rs)).set l (.ref one))) := by rw [← e7, upd_same]
        clear e7
        obtain ⟨dxa, fsa, hpa, afa⟩ := id at3
        have key : ∀ {x : Addr} {o : HO}, G6 x = some o → (∀ xs, o ≠ .lst xs) → x ≠ F'.tL := fun h1 h2 z => by
          rw [z, tl6] at h1
          exact h2 _ (Option.some.inj h1).symm
        have one7 : G7 one = some (.lst [.ref pa, .int (l : Nat), .int (Z.us'.length : Nat), .ref ld, .ref lw']) := b7 _ _ k6 fun z => by
          rw [z] at none_
          rw [(s4.trans s5) _ _ tl3] at none_
          cases none_
        have pa7 := b7 _ _ (s36 _ _ hpa) (key (s36 _ _ hpa) (fun _ z => by cases z))
        have dv7 := b7 _ _ (s36 _ _ hv3) (key (s36 _ _ hv3) (fun _ z => by cases z))
        have dw7 := b7 _ _ (s36 _ _ hw3) (key (s36 _ _ hw3) (fun _ z => by cases z))
        have ld6 := (s5.trans s6) _ _ k4'
        have ld7 := b7 _ _ ld6 (key ld6 (fun _ z => by cases z))
        have lw7 := b7 _ _ (s6 _ _ k5) (fun z => by
          rw [z] at nlw
          rw [s4 _ _ tl3] at nlw
          cases nlw)
        have nda : ∀ {x : Addr}, H3 x = none → H2' x = none := fun {x} hx => b3.free (ne_of_none da3 hx).symm hx
        have fld : H2' ld = none := nda nld
        have flw : H2' lw' = none := nda (s4.free nlw)
        have fone : H2' one = none := nda ((s4.trans s5).free none_)
        have ndr : [one, pa, dv, dw, ld, lw'].Nodup := by
          have a1 : ∀ {x : Addr} {o : HO}, G5 x = some o → one ≠ x := fun h1 z => by rw [← z, none_] at h1; cases h1
          have a2 : ∀ {x : Addr} {o : HO}, H3 x = some o → x ≠ ld := fun h1 z => by rw [z, nld] at h1; cases h1
          have a3 : ∀ {x : Addr} {o : HO}, G4 x = some o → x ≠ lw' := fun h1 z => by rw [z, nlw] at h1; cases h1
          have a4 : pa ≠ dv := fun z => by rw [z, hv3] at hpa; cases hpa
          have a5 : pa ≠ dw := fun z => by rw [z, hw3] at hpa; cases hpa
          simp only [List.nodup_cons, List.mem_cons, List.not_mem_nil, or_false, not_or, List.nodup_nil, and_true, not_false_eq_true]
          exact ⟨⟨a1 ((s4.trans s5) _ _ hpa), a1 ((s4.trans s5) _ _ hv3), a1 ((s4.trans s5) _ _ hw3), a1 (s5 _ _ k4'), a1 k5⟩, ⟨a4, a5, a2 hpa, a3 (s4 _ _ hpa)⟩, ⟨afa.vw, a2 hv3, a3 (s4 _ _ hv3)⟩, ⟨a2 hw3, a3 (s4 _ _ hw3)⟩, a3 k4'⟩
        let r : Rec := ⟨one, pa, dv, dw, ld, lw', l, Z.h.length, [], [], false⟩
        have eu : Z.us.length = Z.h.length := W2.fu.len
        have eu' : Z.us'.length = Z.h.length := W2.fU.len
        have R7 : RecAt CA F'.q G7 r := ⟨(by have z := one7; rw [eu'] at z; exact z), ⟨dxa, fsa, pa7, (by have z := afa; rw [eu] at z; exact z)⟩, dv7, dw7, ld7, lw7, ndr⟩
        have frr : ∀ a ∈ r.as, H2' a = none := fun a ha => by
          simp only [r, Rec.as, List.mem_cons, List.not_mem_nil, or_false] at ha
          rcases ha with rfl | rfl | rfl | rfl | rfl | rfl <;> assumption
        have da7 : G7 F'.da = some (.dK (putK Z.kvs (Sum.inl (l : Int)) (.ref pa))) := b7 _ _ (s36 _ _ da3) k2
        have b27 : Bs [F'.da, F'.tL] H2' G7 := ((Bs.but b3 (by simp)).trans (.same s36)).trans (.but b7 (by simp))
        have W7 : Wd CL CA F' (Z.beg l r) G7 := W2.beg L ll b27 da7 tl7 R7 frr
        have L7 : Lo F' (Z.beg l r) (t + 1) := L.beg ll ho rfl rfl rfl rfl rfl
        have tb7 : LamX.Tabs Tb G7 := tabs_bx (tabs_same (tabs_bx tb2 (.but b3 (List.mem_singleton.mpr rfl)) (.cons W2.da .d .nil)) s36) (.but b7 (List.mem_singleton.mpr rfl)) (.cons tl6 .l .nil)
        have nx7 : ∀ G, Same G7 G → Nxt F' Z (Z.beg l r) p H G := fun G sG b o e n nt a => by
          have e2 := b02 b o e (by simp [n]) nt
          refine ⟨sG _ _ (b27 b o e2 ?_ nt), a.1, fun i s' hs => ?_⟩
          · have := a.1
            simp only [Fx.as, List.mem_cons, List.not_mem_nil, or_false, not_or] at this
            simp [this]
          · rcases app_get hs with ⟨_, hs⟩ | ⟨_, rfl⟩
            · exact a.2 i s' hs
            · intro m
              rw [frr b m] at e2
              cases e2
        have pr : ∀ {G : Hp}, Same G7 G → AtAt CA G pa F'.q l Z.us.length dv dw false := fun sG => ⟨dxa, fsa, sG _ _ pa7, afa⟩
        have hL7 := b7 _ _ (s36 _ _ hL3) j1
        refine ⟨_, rfl, pa, dxa, fsa, rfl, pa7, pa, F'.q, dv, dw, l, Z.us.length, false, rfl, pr Same.rfl', _, rfl, pa, dxa, fsa, rfl, pa7, pa, F'.q, dv, dw, l, Z.us.length, false, rfl, pr Same.rfl', _, rfl, pa, dxa, fsa, rfl, pa7, pa, F'.q, dv, dw, l, Z.us.length, false, rfl, pr Same.rfl', (by show 3 ≤ sizeLine; decide), fun x1 nx1 => ?_⟩
        obtain ⟨G8, e, s8, k8⟩ := mkO nx1 (.lst [.int (l : Nat), .int (Z.us.length : Nat), .bl false])
        rw [e]
        clear e
        refine ⟨_, rfl, _, rfl, F'.hL, _, rfl, .inl (SqL.of (s8 _ _ hL7)), (by show 3 ≤ sizeLine; decide), fun x2 nx2 => ?_⟩
        have e1 : (Z.us'.length : Int) = (Z.us.length : Nat) := by rw [eu, eu']
        rw [e1]
        have shp : SeqAt.shaped (.list [.int (l : Nat), .int (Z.us.length : Nat), .bool false]) = true := by
          unfold SeqAt.shaped
          simp [PyData.canLay0, PyData.canLayAll0, PyData.depth, PyData.depthAll]
        have dpl : ∀ {G : Hp} {x : Addr}, G x = some (.lst [.int (l : Nat), .int (Z.us.length : Nat), .bl false]) → Dp K G (.ref x) (.list [.int (l : Nat), .int (Z.us.length : Nat), .bool false]) := fun h => .lst (SqL.of h) (.cons (.int _) (.cons (.int _) (.cons (.bl _) .nil)))
        refine ⟨_, _, dpl (same_upd nx2 _ _ k8), dpl upd_same, shp, shp, ?_⟩
        rw [SeqAt.eqv_refl _ (by simp [PyData.canLay0, PyData.canLayAll0])]
        have s79 := s8.trans (same_upd (o := .lst [.int (l : Nat), .int (Z.us.length : Nat), .bl false]) nx2)
        have hap := ap.1
        simp only [Fx.as, List.mem_cons, List.not_mem_nil, or_false, not_or] at hap
        refine q _ _ (W7.same s79) L7 (tabs_same tb7 s79) (nx7 _ s79) ((hp2.bs b27 (by simp [hap])).same s79) ⟨ap.1, fun i s' hs => ?_⟩
        rcases app_get hs with ⟨_, hs⟩ | ⟨_, rfl⟩
        · exact ap.2 i s' hs
        · intro m
          obtain ⟨_, _, ep, _⟩ := hp2
          rw [frr p m] at ep
          cases ep
    rintro σ4 H4 ⟨⟨i, rfl⟩, rfl, rfl⟩
    obtain ⟨r, hi, lr, ov⟩ := L.live l i ho
    have R := L.rok i r hi
    have okD : ∀ c ∈ r.D.map (·.1), CellOk c := fun c hc => C.ok c (R.dc c hc)
    have e1 : tV Z.rs (some i) = .ref r.one := oneV_of hi
    rw [e1] at hot
    refine ⟨_, rfl, _, rfl, F'.tL, _, _, _, rfl, rfl, SqL.of W2.tl, atI_nat hot, nm_of ?_⟩
    dsimp only
    have ncp : F'.cL ≠ p := fun z => ap.1 (by rw [← z]; simp [Fx.as])
    have cl : (F'.cs.map V.str).length ≤ 1000 := by rw [List.length_map]; have := C.len; omega
    have ce : F'.cs.map V.str ≠ [] := by simp [L.cn]
    -- a cell read
    refine seq_cut (fun σ' H' => σ' = [some (.ref p), some (.ref P'), some (.ref F'.q), some (.ref F'.hL), some (.ref F'.tL), some (.ref F'.gL), some (.ref F'.cL), some (.int wy), some (.int (l : Nat)), none, some (.ref r.one)] ∧ H' = H4) (fun N hN => ?_) ?_
    · refine ⟨_, rfl, _, _, rfl, rfl, _, rfl, ?_⟩
      by_cases c4 : wy < 4
      · refine iteY (decide_eq_true c4) ⟨_, rfl, _, rfl, _, rfl, _, rfl, p, _, rfl, hp2, .inl ⟨F'.cL, _, rfl, W2.cl, ce, cl, ncp, fun H5 v b5 hp5 hv => ?_⟩⟩
        obtain ⟨z, hz, rfl⟩ := List.mem_map.mp hv
        have b05 : Bs [p] H H5 := b02.trans (.but b5 (by simp))
        have W5 := Wof b05
        have tb5 := tabs_pot tb2 hp2 b5
        have ra5 := W5.rc i r hi
        refine ⟨F'.q, F'.hl, F'.da, F'.hL, F'.n, F'.k, Z.us, Z.us', Z.h, r, z, rfl, ra5, ov, W5.lg, W5.hl, W5.fu, W5.hL, W5.fU, R.pl, by omega, C.ok z hz, by have := R.dl C; omega, fun H6 b6 h1 h2 => ?_⟩
        have bx : Bx r.as H5 H6 := .but2 b6 (by simp [Rec.as]) (by simp [Rec.as])
        have R' : ROk F'.n F'.cs Z.h (r.wth (rdD Z.h r z) r.W r.over) := R.rd hz
        exact q _ _ (W5.setr hi bx.bs (ra5.rd b6 h1 h2)) ((L.setr hi R').le (Nat.le_succ _)) (tabs_bx tb5 bx ra5.soft) (Nxt.setr b05 hi bx.bs) (hp5.bs bx.bs (ap.2 i r hi)) (ap.setr hi)
      · exact iteN (decide_eq_false c4) (hN _ _ ⟨rfl, rfl⟩)
    rintro σ5 H5 ⟨rfl, rfl⟩
    -- a cell written
    refine seq_cut (fun σ' H' => σ' = [some (.ref p), some (.ref P'), some (.ref F'.q), some (.ref F'.hL), some (.ref F'.tL), some (.ref F'.gL), some (.ref F'.cL), some (.int wy), some (.int (l : Nat)), none, some (.ref r.one)] ∧ H' = H5) (fun N hN => ?_) ?_
    · refine ⟨_, rfl, _, _, rfl, rfl, _, rfl, ?_⟩
      by_cases c4 : wy < 6
      · refine iteY (decide_eq_true c4) ⟨_, rfl, _, rfl, _, rfl, p, _, rfl, hp2, .inl ⟨F'.cL, _, rfl, W2.cl, ce, cl, ncp, fun H6 v b5 hp5 hv => ?_⟩⟩
        obtain ⟨z, hz, rfl⟩ := List.mem_map.mp hv
        have b05 : Bs [p] H H6 := b02.trans (.but b5 (by simp))
        have W5 := Wof b05
        have tb5 := tabs_pot tb2 hp2 b5
        have ra5 := W5.rc i r hi
        refine ⟨F'.q, r, z, rfl, ra5, ov, C.ok z hz, by have := R.wl C; omega, fun H7 b6 h1 h2 => ?_⟩
        have bx : Bx r.as H6 H7 := .but2 b6 (by simp [Rec.as]) (by simp [Rec.as])
        have R' : ROk F'.n F'.cs Z.h (r.wth r.D (putW r.W z) r.over) := R.wr hz
        exact q _ _ (W5.setr hi bx.bs (ra5.wr b6 h1 h2)) ((L.setr hi R').le (Nat.le_succ _)) (tabs_bx tb5 bx ra5.soft) (Nxt.setr b05 hi bx.bs) (hp5.bs bx.bs (ap.2 i r hi)) (ap.setr hi)
      · exact iteN (decide_eq_false c4) (hN _ _ ⟨rfl, rfl⟩)
    rintro σ6 H6 ⟨rfl, rfl⟩
    have nd := W2.nd
    simp only [Fx.as, List.nodup_cons, List.mem_cons, List.not_mem_nil, or_false, not_or, List.nodup_nil, and_true, not_false_eq_true] at nd
    obtain ⟨⟨n1, n2, n3, n4, n5, n6⟩, ⟨m1, m2, m3, m4, m5⟩, ⟨k1, k2, k3, k4⟩, ⟨j1, j2, j3⟩, ⟨i1, i2⟩, h1⟩ := nd
    have hg := L.gn
    refine ⟨_, rfl, .inl ⟨rfl, _, SqL.of W2.gl⟩, _, rfl, F'.gL, _, _, rfl, rfl, W2.gl, Nat.lt_of_lt_of_le (show _ < 100000 by rw [List.length_map]; omega) (small (Nat.le_refl _)), ?_⟩
    obtain ⟨G7, e7⟩ : ∃ G, upd H6 F'.gL (.lst (Z.gs.map (oneV Z.rs) ++ [.ref r.one])) = G := ⟨_, rfl⟩
    rw [e7]
    have b7 : But F'.gL H6 G7 := e7 ▸ but_upd
    have gl7 : G7 F'.gL = some (.lst (Z.gs.map (oneV Z.rs) ++ [.ref r.one])) := by rw [← e7, upd_same]
    clear e7
    have tl7 := b7 _ _ W2.tl i1
    refine ⟨_, rfl, _, rfl, F'.tL, _, _, l, rfl, rfl, tl7, by rw [List.length_map, L.tn]; unfold ixN; rw [if_pos (by omega), if_pos (by omega)]; rfl, ?_⟩
    dsimp only
    obtain ⟨G8, e8⟩ : ∃ G, upd G7 F'.tL (.lst ((Z.ts.map (tV Z.rs)).set l .non)) = G := ⟨_, rfl⟩
    rw [e8]
    have b8 : But F'.tL G7 G8 := e8 ▸ but_upd
    have tl8 : G8 F'.tL = some (.lst ((Z.ts.map (tV Z.rs)).set l .non)) := by rw [← e8, upd_same]
    clear e8
    have gl8 := b8 _ _ gl7 (Ne.symm i1)
    have bx8 : Bx [F'.gL, F'.tL] H6 G8 := fun x o e n => b8 _ _ (b7 _ _ e (fun z => n (by rw [z]; simp))) (fun z => n (by rw [z]; simp))
    have W8 : Wd CL CA F' (Z.gon i l) G8 := W2.gon L hi ll bx8.bs gl8 tl8
    have tb8 : LamX.Tabs Tb G8 := tabs_bx tb2 bx8 (.cons W2.gl .l (.cons W2.tl .l .nil))
    have ra8 : RecAt CA F'.q G8 r := W8.rc i r hi
    have api := W2.ap i r hi
    have L9 := L.gon hi ho
    have nrs : ∀ {x : Addr}, x ∈ F'.as → x ∉ r.as := fun h m => api _ m h
    have aps : ∀ {x : Addr}, Apt F' Z x → Apt F' ((Z.gon i l).setr i (r.wth r.D r.W true)) x := fun a => ⟨a.1, fun j s' h' => by
      rcases set_get h' with ⟨_, rfl, _⟩ | ⟨_, h'⟩
      · exact a.2 i r hi
      · exact a.2 j s' h'⟩
    have nx : ∀ {G : Hp}, Bs [r.att, F'.hl, F'.hL] G8 G → ∀ b o, H b = some o → b ≠ p → (∀ ps, o ≠ .tbl ps) → Apt F' Z b → G b = some o := fun bb b o e n nt a => by
      have a1 := a.1
      simp only [Fx.as, List.mem_cons, List.not_mem_nil, or_false, not_or] at a1
      have a2 : b ≠ r.att := fun z => a.2 i r hi (by rw [z]; simp [Rec.as])
      exact bb b o (bx8.bs b o (b02 b o e (by simp [n]) nt) (by simp [a1]) nt) (by simp [a1, a2]) nt
    have hpE : ∀ {G : Hp}, Bs [r.att, F'.hl, F'.hL] G8 G → PotAt G p := fun bb => by
      have a1 := ap.1
      simp only [Fx.as, List.mem_cons, List.not_mem_nil, or_false, not_or] at a1
      have a2 : p ≠ r.att := fun z => ap.2 i r hi (by rw [z]; simp [Rec.as])
      exact (hp2.bs bx8.bs (by simp [a1])).bs bb (by simp [a1, a2])
    have att8 := ra8.att
    rw [ov] at att8
    obtain ⟨dx8, fs8, pa8, af8⟩ := id att8
    have Wst : ∀ {G : Hp}, Bs [r.att] G8 G → RecAt CA F'.q G (r.wth r.D r.W true) → Wd CL CA F' ((Z.gon i l).setr i (r.wth r.D r.W true)) G := fun bb ra => W8.setr hi (bb.mono (fun x hx => by rw [List.mem_singleton.mp hx]; simp [Rec.as])) ra
    refine seq_cut (fun σ' H' => σ' = [some (.ref p), some (.ref P'), some (.ref F'.q), some (.ref F'.hL), some (.ref F'.tL), some (.ref F'.gL), some (.ref F'.cL), some (.int wy), some (.int (l : Nat)), none, some (.ref r.one)] ∧ H' = G8) (fun N hN => ?_) ?_
    · refine ⟨_, rfl, rfl, _, rfl, ?_⟩
      by_cases c6 : wy = 6
      · refine iteY (dec_eq c6) ?_
        have fin : ∀ {G : Hp} {S' : Sx}, RecAt CA F'.q G (r.wth r.D r.W true) → Q (.bl true) G → ∃ c, V.bl true = V.bl c ∧ if c = true then tOp rIsB (tPr CA (spOver CA) E0 (tOp (rIxL K) (tVar 10) (tC (V.int 0)))) (tC (V.bl true)) [some (.ref p), some (.ref P'), some (.ref F'.q), some (.ref F'.hL), some (.ref F'.tL), some (.ref F'.gL), some (.ref F'.cL), some (.int wy), some (.int (l : Nat)), none, some (.ref r.one)] G Q else Q (.bl false) G := fun {G _} ra qq => by
          obtain ⟨dx, fs, hpa, af⟩ := ra.att
          have hone : G r.one = some (.lst [.ref r.att, .int (r.lane : Nat), .int (r.pl : Nat), .ref r.ld, .ref r.ll]) := ra.one
          refine ⟨true, rfl, iteT ⟨_, rfl, r.one, _, _, _, rfl, rfl, SqL.of hone, atI_nat (j := 0) rfl, r.att, dx, fs, rfl, hpa, r.att, F'.q, r.dv, r.dw, r.lane, r.pl, true, rfl, ⟨dx, fs, hpa, af⟩, true, true, rfl, rfl, ?_⟩⟩
          exact qq
        refine ⟨_, rfl, _, rfl, F'.q, F'.hl, F'.da, F'.hL, F'.n, F'.k, Z.us, Z.us', Z.h, r, rfl, ra8, ov, W8.lg, nrs (by simp [Fx.as]), W8.hl, W8.fu, W8.hL, W8.fU, Ne.symm m2, nrs (by simp [Fx.as]), nrs (by simp [Fx.as]), by omega, by have := R.dl C; omega, okD, by have := R.wl C; omega, tb8, fun H9 tb9 b9 ra9 => fin (S' := Z) ra9 ?_, fun H9 v v' f tb9 b9 ra9 g1 g2 g3 g4 g5 g6 g7 g8 g9 => fin (S' := Z) ra9 ?_⟩
        · have b9' : Bs [r.att, F'.hl, F'.hL] G8 H9 := b9.mono (fun x hx => by rw [List.mem_singleton.mp hx]; simp)
          exact q _ _ (Wst b9 ra9) L9 tb9 (fun b o e n nt a => ⟨nx b9' b o e n nt a, aps a⟩) (hpE b9') (aps ap)
        · have cr : CellsOk f.rd := ⟨fun c hc => okD c (g6.mem_iff.mp hc), strict_of (srtS g7) (g6.nodup_iff.mpr R.dn), by rw [g6.length_eq, List.length_map]; exact R.dl C⟩
          have cw : CellsOk f.wr := ⟨fun c hc => C.ok c (R.wc c (g8.mem_iff.mp hc)), strict_of (srtS g9) (g8.nodup_iff.mpr R.wn), by rw [g8.length_eq]; exact R.wl C⟩
          have lf : f.lane < F'.n := by rw [g5]; exact R.ln
          exact q _ _ (W8.run hi b9 ra9 g1 g2 g3 g4) (L9.run (v := v) (v' := v') (show Z.h.length + 1 ≤ t + 1 by omega) ⟨by omega, cr, cw⟩ lf fun c hc => R.wc c (g8.mem_iff.mp hc)) tb9 (fun b o e n nt a => ⟨nx b9 b o e n nt a, aps a⟩) (hpE b9) (aps ap)
      · exact iteN (dec_ne c6) (hN _ _ ⟨rfl, rfl⟩)
    rintro σ7 H7 ⟨rfl, rfl⟩
    refine ⟨_, rfl, r.one, _, _, _, rfl, rfl, SqL.of ra8.one, atI_nat (j := 0) rfl, r.att, dx8, fs8, rfl, pa8, af8.no "drop" (by decide +kernel) (by decide +kernel) (by decide +kernel) (by decide +kernel) (by decide +kernel) (by decide +kernel), r.att, F'.q, r.dv, r.dw, r.lane, r.pl, false, rfl, att8, fun _ H9 b9 at9 => ?_, fun z => by cases z⟩
    have bs9 : Bs [r.att] H7 H9 := .but b9 (by simp)
    have ra9 := ra8.over bs9 (fun a _ n m => n (List.mem_singleton.mp m)) at9
    obtain ⟨dx, fs, hpa, af⟩ := id at9
    have hone : H9 r.one = some (.lst [.ref r.att, .int (r.lane : Nat), .int (r.pl : Nat), .ref r.ld, .ref r.ll]) := ra9.one
    refine ⟨rfl, _, rfl, iteY (by simp) ⟨_, rfl, r.one, _, _, _, rfl, rfl, SqL.of hone, atI_nat (j := 0) rfl, r.att, dx, fs, rfl, hpa, r.att, F'.q, r.dv, r.dw, r.lane, r.pl, true, rfl, at9, true, true, rfl, rfl, ?_⟩⟩
    have b9' : Bs [r.att, F'.hl, F'.hL] H7 H9 := bs9.mono (fun x hx => by rw [List.mem_singleton.mp hx]; simp)
    exact q _ _ (Wst bs9 ra9) L9 (tabs_bx tb8 (.but b9 (List.mem_singleton.mpr rfl)) (.cons pa8 .i .nil)) (fun b o e n nt a => ⟨nx b9' b o e n nt a, aps a⟩) (hpE b9') (aps ap)
end
end K71

set_option Elab.async false
set_option linter.all false
set_option maxRecDepth 100000
set_option maxHeartbeats 4000000
/-! L71n: the ledger's state. -/
namespace K71
open PySem PySem.Spec PyProof.Rows L2 LL ORD
abbrev s_l_state_right : Stmt := top 41
abbrev n_l_state_right : List Str := ["_law_ledger", "_law_lanes", "_law_history", "_law_cells_here", "_law_told_here", "_law_newest_here", "_law_cell"]
theorem sc_l_state_right : FnScope n_l_state_right ["_law_ledger", "_law_lanes", "_law_history", "_law_cells_here"] (defScope s_l_state_right) := ⟨rfl, rfl, rfl, by decide +kernel, rfl, by decide +kernel, by decide +kernel⟩
def spState (CL CA : Addr) : Sp := fun vs H Q _ => ∃ (F : Fx) (S : Sx) (t : Nat), vs = [.ref F.q, .int (F.n : Nat), .ref F.hL, .ref F.cL] ∧ Wd CL CA F S H ∧ Lo F S t ∧ t ≤ 90 ∧ ∀ H', Same H H' → Q (.bl true) H'
section
variable {P : Program} {w : World} {K : PySem.W.Frag} {mg : Str → Option Value} {base : Heap} {CE CH CO CI CN CB CV CS CL CA : Addr} {f : Addr} {fd : FuncData} {Tb : List (Addr × Str)} {c Pt : Addr}
theorem zzOk : CellOk "zz" := ⟨by decide +kernel, by decide +kernel, by decide +kernel⟩
theorem ok_l_state_right (T : Tx K mg CE CH CO) (S : Tz K mg CL CA) (S_len : SpF P w K mg base CX0 1 CL "__len__" (spLen CL)) (P_lanes : Prp P w K mg base CX0 1 CL "lanes" (spLanes CL)) (M_history : Mth P w K mg base CX0 1 CL "history" [] (spHis CL)) (M_newest : Mth P w K mg base (L2.CX P w) 4 CL "newest" [] (spNew K CL CI)) (G_l_newest : Fnc P w K mg base CX0 1 "_law_newest" [] spNwl) (F : FD K "_law_state_right" "_law_state_right" s_l_state_right [] f fd) :
    FnG P w K mg base CX0 5 f fd ["_law_ledger", "_law_lanes", "_law_history", "_law_cells_here"] (spState CL CA) := by
  refine ok0 F sc_l_state_right (fun vs H Q E h => ?_) (fun cdv A outer s H vs Q E hr h => ?_)
  · obtain ⟨F, S, t, rfl, _⟩ := h
    rfl
  · obtain ⟨F', Z, t, rfl, W, L, t9, q⟩ := h
    have C := L.cs
    have ok := L.hs (by omega)
    refine ⟨_, (pss_cons (ps_set (i := 4) sc_l_state_right.nd rfl (by first | exact Or.inl rfl | exact Or.inr rfl) (pe_mt0 M_history (hr.mono (by decide)) pass0 (pv 0)))
      (pss_cons (ps_if (PW.pt (pw_or (pt_cmpR (op_neD hr.r.units) (pv 4) (pv 2) (nomark _)) (pw_or (pt_cmpR op_ne (pe_callB (call_lenO S_len (hr.mono (by decide)) pass0) (by rfl) T.n_len (by decide +kernel) (pa_cons (pv 0) pa_nil)) (pe_callB call_len_seq (by rfl) T.n_len (by decide +kernel) (pa_cons (pv 2) pa_nil)) (nomark _)) (pw_or1 (pt_cmpR op_ne (pe_pr P_lanes (hr.mono (by decide)) pass0 (pv 0)) (pv 1) (nomark _)))))) (pss_one (ps_ret pe_bl)) pss_nil)
      (pss_cons (ps_expr (pe_bm PySem.F.plainAttrs_list PySem.F.slot_list_append PySem.F.type_list_append mt_append (pv 4) (pa_cons (pe_tup (pa_cons pe_int (pa_cons (pe_tup pa_nil) (pa_cons (pe_tup (pa_cons pe_str pa_nil)) pa_nil)))) pa_nil)))
      (pss_cons (ps_setLc (i := 5) (own := [("_law_cell", 6)]) rfl sc_l_state_right.nd rfl rfl (sw_true rfl rfl rfl (by decide +kernel)) (pi_list (pe_op op_cat (pv 3) (pe_lst (pa_cons pe_str pa_nil)))) (blkOk_by (own := [("_law_cell", 6)]) (N := n_l_state_right) (sc := defScope s_l_state_right) (by decide +kernel)) (fun _ _ _ _ _ => (pg_name (i := 6) sc_l_state_right.nd rfl (by first | exact Or.inl rfl | exact Or.inr rfl))) (fun _ _ _ _ _ => pts_nil) (fun _ _ _ _ _ => (pe_mt M_newest (hr.mono (by decide)) passF (pv 0) (pa_cons (pv 6) pa_nil))))
      (pss_one (ps_ret (pe_cmpR (op_eqD hr.r.units) (pv 5) (pe_lc (own := [("_law_cell", 6)]) rfl sc_l_state_right.nd (pi_list (pe_op op_cat (pv 3) (pe_lst (pa_cons pe_str pa_nil)))) (blkOk_by (own := [("_law_cell", 6)]) (N := n_l_state_right) (sc := defScope s_l_state_right) (by decide +kernel)) (fun _ _ _ _ _ => (pg_name (i := 6) sc_l_state_right.nd rfl (by first | exact Or.inl rfl | exact Or.inr rfl))) (fun _ _ _ _ _ => pts_nil) (fun _ _ _ _ _ => (pe_fn G_l_newest (hr.mono (by decide)) pass0 (pa_cons (pv 2) (pa_cons (pe_callB (call_len_seqK (K := K) (by rfl)) (by rfl) T.n_len (by decide +kernel) (pa_cons (pv 2) pa_nil)) (pa_cons (pv 6) pa_nil)))))) (nomark _)))))))), ?_⟩
    obtain ⟨dq, gs, hq, lf⟩ := id W.lg
    refine ⟨_, rfl, F'.q, dq, gs, rfl, hq, lf.no "history" (by decide +kernel) (by decide +kernel) (by decide +kernel), F'.q, F'.hl, F'.da, F'.n, F'.k, Z.us, rfl, W.lg, W.hl, fun H1 l s1 nl kl => nm_of ?_⟩
    dsimp only
    have W1 := W.same s1
    have hq1 := s1 _ _ hq
    refine seq_cut (fun σ' H' => σ' = [some (.ref F'.q), some (.int (F'.n : Nat)), some (.ref F'.hL), some (.ref F'.cL), some (.ref l), none, none] ∧ H' = H1) (fun N hN => ?_) ?_
    · refine ⟨_, rfl, _, rfl, ne_pd (hs_dp kl W1.fu) (hs_dp W1.hL W1.fU) (hs_pn ok) (hs_pn ok) fun bb hbb => ⟨_, rfl, ?_⟩⟩
      rw [hbb.mpr rfl]
      refine iteF ?_
      have el : (Z.us.length : Int) = (Z.us'.length : Nat) := by rw [W.fu.len, W.fU.len]
      have hn := L.hn
      refine ⟨_, rfl, F'.q, dq, gs, rfl, hq1, F'.q, F'.hl, F'.da, F'.n, F'.k, Z.us, rfl, W1.lg, W1.hl, Z.us.length, rfl, by rw [W.fu.len]; omega, _, rfl, F'.hL, _, rfl, .inl (SqL.of W1.hL), rfl, _, rfl, iteN (by rw [el]; simp) ?_⟩
      exact ⟨_, rfl, F'.q, dq, gs, rfl, hq1, F'.q, F'.hl, F'.da, F'.n, F'.k, rfl, W1.lg, _, rfl, rfl, _, rfl, iteN (by simp) (hN _ _ ⟨rfl, rfl⟩)⟩
    rintro σ2 H2 ⟨rfl, rfl⟩
    refine ⟨_, rfl, .inl ⟨rfl, _, SqL.of kl⟩, (by show 0 ≤ sizeLine; decide), fun e1 ne1 => ?_⟩
    obtain ⟨G3, e, s3, k3⟩ := mkO ne1 (.tup [])
    rw [e]
    clear e
    refine ⟨(by show 1 ≤ sizeLine; decide), fun e2 ne2 => ?_⟩
    obtain ⟨G4, e, s4, k4⟩ := mkO ne2 (.tup [.str "zz"])
    rw [e]
    clear e
    refine ⟨(by show 3 ≤ sizeLine; decide), fun e3 ne3 => ?_⟩
    obtain ⟨G5, e, s5, k5⟩ := mkO ne3 (.tup [.int 0, .ref e1, .ref e2])
    rw [e]
    clear e
    have s25 := (s3.trans s4).trans s5
    have hn := L.hn
    refine ⟨l, _, _, rfl, rfl, s25 _ _ kl, Nat.lt_of_lt_of_le (show _ < 100000 by rw [W.fu.len]; omega) (small (Nat.le_refl _)), ?_⟩
    obtain ⟨G6, eg, s6⟩ : ∃ G, upd G5 l (.lst (Z.us ++ [.ref e3])) = G ∧ Same H G := ⟨_, rfl, own_same (s1.trans s25) nl⟩
    rw [eg]
    clear eg
    have W6 := W.same s6
    obtain ⟨zs, ez⟩ : ∃ zs : List Str, zs = F'.cs ++ [("zz" : Str)] := ⟨_, rfl⟩
    have emap : F'.cs.map V.str ++ [V.str "zz"] = zs.map V.str := by rw [ez, List.map_append]; rfl
    have okz : ∀ c ∈ zs, CellOk c := fun c hc => by
      rw [ez] at hc
      rcases List.mem_append.mp hc with h | h
      · exact C.ok c h
      · rw [List.mem_singleton.mp h]
        exact zzOk
    have lz : zs.length ≤ 6 := by rw [ez, List.length_append, List.length_singleton]; have := C.len; omega
    have cz : (F'.cs.map V.str).length + ([V.str "zz"] : List V).length ≤ sizeLine := by
      rw [List.length_map, List.length_singleton]
      exact small (by have := C.len; omega)
    refine ⟨_, rfl, (by show 1 ≤ sizeLine; decide), fun x1 nx1 => ?_⟩
    obtain ⟨G7, e, s7, k7⟩ := mkO nx1 (.lst [.str "zz"])
    rw [e]
    clear e
    refine ⟨F'.cL, x1, _, _, rfl, rfl, s7 _ _ W6.cl, k7, cz, fun x2 nx2 => ?_⟩
    rw [emap]
    obtain ⟨G8, e, s8, k8⟩ := mkO nx2 (.lst (zs.map V.str))
    rw [e]
    clear e
    have W8 := (W6.same s7).same s8
    refine ⟨x2, rfl, ⟨_, SqL.of k8⟩, fun D hD => ?_⟩
    refine lc_acc (walk_list (K := K) (a := x2) (xs := zs.map V.str)) hD (fun i => ((zs.take i).map fun c => oi (lw Z.h Z.h.length c)).map V.int) rfl (fun i hi => ?_) (fun H' s' => SqL.of (s' _ _ k8)) ?_ ?_
    · rw [List.length_map, List.length_map, List.length_take]
      omega
    · rintro i x H9 H9' hi s9 ⟨rfl, hx⟩ N S' hN hS
      rw [List.getElem?_map] at hx
      obtain ⟨c, hc, rfl⟩ := Option.map_eq_some_iff.mp hx
      have W9 := W8.same s9
      obtain ⟨dq9, gs9, hq9, lf9⟩ := id W9.lg
      refine ⟨rfl, _, rfl, F'.q, dq9, gs9, rfl, hq9, lf9.no "newest" (by decide +kernel) (by decide +kernel) (by decide +kernel), _, rfl, F'.q, F'.hl, F'.da, F'.n, F'.k, Z.h, Z.us, .str c, rfl, W9.lg, W9.hl, W9.fu, by omega, .inl ⟨c, rfl, okz c (List.mem_of_getElem? hc), fun H10 s10 => ?_⟩⟩
      refine hN _ _ s10 ?_
      show List.map V.int _ = List.map V.int _ ++ [V.int _]
      rw [take_map _ hc, List.map_append]
      rfl
    intro H9 s9 h9
    rw [List.take_of_length_le (by rw [List.length_map]; exact Nat.le_refl _)] at h9
    refine nm_of ?_
    dsimp only
    have W9 := W8.same s9
    -- the law's own
    refine ⟨_, rfl, _, rfl, (by show 1 ≤ sizeLine; decide), fun x3 nx3 => ?_⟩
    obtain ⟨G10, e, s10, k10⟩ := mkO nx3 (.lst [.str "zz"])
    rw [e]
    clear e
    refine ⟨F'.cL, x3, _, _, rfl, rfl, s10 _ _ W9.cl, k10, cz, fun x4 nx4 => ?_⟩
    rw [emap]
    obtain ⟨G11, e, s11, k11⟩ := mkO nx4 (.lst (zs.map V.str))
    rw [e]
    clear e
    have W11 := (W9.same s10).same s11
    refine ⟨x4, rfl, ⟨_, SqL.of k11⟩, fun D2 hD2 => ?_⟩
    refine lc_acc (walk_list (K := K) (a := x4) (xs := zs.map V.str)) hD2 (fun i => ((zs.take i).map fun c => oi (lw Z.h Z.h.length c)).map V.int) rfl (fun i hi => ?_) (fun H' s' => SqL.of (s' _ _ k11)) ?_ ?_
    · rw [List.length_map, List.length_map, List.length_take]
      omega
    · rintro i x H12 H12' hi s12 ⟨rfl, hx⟩ N S' hN hS
      rw [List.getElem?_map] at hx
      obtain ⟨c, hc, rfl⟩ := Option.map_eq_some_iff.mp hx
      have W12 := W11.same s12
      refine ⟨rfl, _, rfl, _, rfl, F'.hL, _, rfl, .inl (SqL.of W12.hL), _, rfl, F'.hL, Z.us', Z.h, Z.h.length, c, by rw [W.fU.len]; rfl, W12.hL, W12.fU, Nat.le_refl _, by omega, fun H13 s13 => ?_⟩
      refine hN _ _ s13 ?_
      show List.map V.int _ = List.map V.int _ ++ [V.int _]
      rw [take_map _ hc, List.map_append]
      rfl
    intro H12 s12 h12
    rw [List.take_of_length_le (by rw [List.length_map]; exact Nat.le_refl _)] at h12
    refine eq_pd (dp_ints ((((s10.trans s11).trans s12)) _ _ h9)) (dp_ints h12) (pn_ints _) (pn_ints _) fun bb hbb => ?_
    rw [hbb.mpr rfl]
    exact q _ ((((s6.trans s7).trans s8).trans s9).trans ((s10.trans s11).trans s12))
end
end K71

set_option Elab.async false
set_option linter.all false
set_option maxRecDepth 100000
set_option maxHeartbeats 4000000
/-! L71o: what the attempts tell. -/
namespace K71
open PySem PySem.Spec PyProof.Rows L2 LL ORD
abbrev s_l_tries_right : Stmt := top 42
abbrev n_l_tries_right : List Str := ["_law_tries", "_law_gone", "_law_rows", "_law_one", "_law_is_over"]
theorem sc_l_tries_right : FnScope n_l_tries_right ["_law_tries", "_law_gone"] (defScope s_l_tries_right) := ⟨rfl, rfl, rfl, by decide +kernel, rfl, by decide +kernel, by decide +kernel⟩
def spTries (CL CA : Addr) : Sp := fun vs H Q _ => ∃ (F : Fx) (S : Sx) (t : Nat), vs = [.ref F.tL, .ref F.gL] ∧ Wd CL CA F S H ∧ Lo F S t ∧ t ≤ 90 ∧ ∀ H', Same H H' → Q (.bl true) H'
/-- rows of an attempt's list and whether it is over -/
def RwsT (S : Sx) (D : Addr) (H : Hp) (acc : List V) : Prop := ∀ v ∈ acc, ∃ (t i : Nat) (r : Rec), v = .ref t ∧ t ≠ D ∧ H t = some (.tup [.ref r.one, .bl r.over]) ∧ S.rs[i]? = some r
theorem RwsT.same {S : Sx} {D : Addr} {H H' : Hp} {acc : List V} (h : RwsT S D H acc) (s : Same H H') : RwsT S D H' acc := fun v hv => let ⟨t, i, r, e, n, h1, h2⟩ := h v hv; ⟨t, i, r, e, n, s _ _ h1, h2⟩
theorem RwsT.upd {S : Sx} {D : Addr} {H : Hp} {acc : List V} {o : HO} (h : RwsT S D H acc) : RwsT S D (upd H D o) acc := fun v hv => let ⟨t, i, r, e, n, h1, h2⟩ := h v hv; ⟨t, i, r, e, n, by rw [upd_ne n]; exact h1, h2⟩
section
variable {P : Program} {w : World} {K : PySem.W.Frag} {mg : Str → Option Value} {base : Heap} {CE CH CO CI CN CB CV CS CL CA : Addr} {f : Addr} {fd : FuncData} {Tb : List (Addr × Str)} {c Pt : Addr}
theorem ok_l_tries_right (T : Tx K mg CE CH CO) (S : Tz K mg CL CA) (P_lane : Prp P w K mg base CX0 1 CA "lane" (spLane CA)) (P_place : Prp P w K mg base CX0 1 CA "place" (spPlace CA)) (P_is_over : Prp P w K mg base CX0 1 CA "is_over" (spOver CA)) (F : FD K "_law_tries_right" "_law_tries_right" s_l_tries_right [] f fd) :
    FnG P w K mg base CX0 3 f fd ["_law_tries", "_law_gone"] (spTries CL CA) := by
  refine ok0 F sc_l_tries_right (fun vs H Q E h => ?_) (fun cdv A outer s H vs Q E hr h => ?_)
  · obtain ⟨F, S, t, rfl, _⟩ := h
    rfl
  · obtain ⟨F', Z, t, rfl, W, L, t9, q⟩ := h
    refine ⟨_, (pss_cons (ps_set (i := 2) sc_l_tries_right.nd rfl (by first | exact Or.inl rfl | exact Or.inr rfl) (pe_op op_cat (pe_lc (own := [("_law_one", 3)]) rfl sc_l_tries_right.nd (pi_list (pv 0)) (blkOk_by (own := [("_law_one", 3)]) (N := n_l_tries_right) (sc := defScope s_l_tries_right) (by decide +kernel)) (fun _ _ _ _ _ => (pg_name (i := 3) sc_l_tries_right.nd rfl (by first | exact Or.inl rfl | exact Or.inr rfl))) (fun _ _ _ _ _ => (pts_one (pt_cmpR op_notN (pv 3) pe_non (nomark _)))) (fun _ _ _ _ _ => (pe_tup (pa_cons (pv 3) (pa_cons pe_bl pa_nil))))) (pe_lc (own := [("_law_one", 3)]) rfl sc_l_tries_right.nd (pi_list (pv 1)) (blkOk_by (own := [("_law_one", 3)]) (N := n_l_tries_right) (sc := defScope s_l_tries_right) (by decide +kernel)) (fun _ _ _ _ _ => (pg_name (i := 3) sc_l_tries_right.nd rfl (by first | exact Or.inl rfl | exact Or.inr rfl))) (fun _ _ _ _ _ => pts_nil) (fun _ _ _ _ _ => (pe_tup (pa_cons (pv 3) (pa_cons pe_bl pa_nil)))))))
      (pss_cons (ps_for PassesOwn.never rfl (pi_list (pv 2)) (pg_tup rfl (pgs_cons (pg_name (i := 3) sc_l_tries_right.nd rfl (by first | exact Or.inl rfl | exact Or.inr rfl)) (pgs_cons (pg_name (i := 4) sc_l_tries_right.nd rfl (by first | exact Or.inl rfl | exact Or.inr rfl)) pgs_nil))) (pss_one (ps_if (pt_cmpR op_ne (pe_callB (call_reprS hr) (by rfl) T.n_repr (by decide +kernel) (pa_cons (pe_lst (pa_cons (pe_pr P_lane (hr.mono (by decide)) pass0 (pe_ix ix_list (pv 3) pe_int (fun _ _ => rfl))) (pa_cons (pe_pr P_place (hr.mono (by decide)) pass0 (pe_ix ix_list (pv 3) pe_int (fun _ _ => rfl))) (pa_cons (pe_pr P_is_over (hr.mono (by decide)) pass0 (pe_ix ix_list (pv 3) pe_int (fun _ _ => rfl))) pa_nil)))) pa_nil)) (pe_callB (call_reprS hr) (by rfl) T.n_repr (by decide +kernel) (pa_cons (pe_lst (pa_cons (pe_ix ix_list (pv 3) pe_int (fun _ _ => rfl)) (pa_cons (pe_ix ix_list (pv 3) pe_int (fun _ _ => rfl)) (pa_cons (pv 4) pa_nil)))) pa_nil)) (nomark _)) (pss_one (ps_ret pe_bl)) pss_nil)))
      (pss_one (ps_ret pe_bl)))), ?_⟩
    refine ⟨_, rfl, F'.tL, rfl, ⟨_, SqL.of W.tl⟩, fun D hD => ?_⟩
    refine lc_inv (walk_list (K := K) (a := F'.tL) (xs := Z.ts.map (tV Z.rs))) (fun i acc H' => Same H H' ∧ acc.length ≤ i ∧ RwsT Z D H' acc) (fun i acc H' xs z => ⟨own_same z.1 hD, z.2.1, z.2.2.upd⟩) ⟨Same.rfl', Nat.le_refl _, fun _ m => by cases m⟩ (fun i acc H' hi z => ?_) (fun i acc H' _ z => SqL.of (z.1 _ _ W.tl)) ?_ ?_
    · refine Nat.lt_of_lt_of_le (show acc.length < 100000 from ?_) (small (Nat.le_refl _))
      have := z.2.1
      rw [List.length_map, L.tn] at hi
      have := L.n8
      omega
    · rintro i x acc H1 H1' hi ⟨s1, la, rw1⟩ eD ⟨rfl, hx⟩ N S' hN hS
      rw [List.getElem?_map] at hx
      obtain ⟨o, ho, rfl⟩ := Option.map_eq_some_iff.mp hx
      refine ⟨rfl, _, rfl, rfl, _, rfl, ?_⟩
      cases o with
      | none => exact iteN (by show (!decide (V.non = V.non)) = false; simp) (hS _ eD ⟨s1, by omega, rw1⟩)
      | some j =>
        refine iteY (by show (!decide (oneV Z.rs j = V.non)) = true; simp [oneV]) ?_
        obtain ⟨r, hj, _, ov⟩ := L.live i j ho
        refine ⟨_, rfl, (by show 2 ≤ sizeLine; decide), fun t nt => ?_⟩
        have ntD : t ≠ D := fun z => by rw [z, eD] at nt; cases nt
        have s2 := same_upd (o := .tup [tV Z.rs (some j), .bl false]) nt
        refine hN _ _ (s2 _ _ eD) ⟨s1.trans s2, by rw [List.length_append, List.length_singleton]; omega, fun v hv => ?_⟩
        rcases List.mem_append.mp hv with hv | hv
        · exact (rw1.same s2) v hv
        · refine ⟨t, j, r, List.mem_singleton.mp hv, ntD, ?_, hj⟩
          rw [upd_same, ov, show tV Z.rs (some j) = .ref r.one from oneV_of hj]
    rintro acc1 H1 e1 ⟨s1, la1, rw1⟩
    have W1 := W.same s1
    refine ⟨_, rfl, F'.gL, rfl, ⟨_, SqL.of W1.gl⟩, fun D2 hD2 => ?_⟩
    refine lc_inv (walk_list (K := K) (a := F'.gL) (xs := Z.gs.map (oneV Z.rs))) (fun i acc H' => Same H1 H' ∧ acc.length ≤ i ∧ RwsT Z D2 H' acc) (fun i acc H' xs z => ⟨own_same z.1 hD2, z.2.1, z.2.2.upd⟩) ⟨Same.rfl', Nat.le_refl _, fun _ m => by cases m⟩ (fun i acc H' hi z => ?_) (fun i acc H' _ z => SqL.of (z.1 _ _ W1.gl)) ?_ ?_
    · refine Nat.lt_of_lt_of_le (show acc.length < 100000 from ?_) (small (Nat.le_refl _))
      have := z.2.1
      rw [List.length_map] at hi
      have := L.gn
      omega
    · rintro i x acc H2 H2' hi ⟨s2, la, rw2⟩ eD ⟨rfl, hx⟩ N S' hN hS
      rw [List.getElem?_map] at hx
      obtain ⟨j, ho, rfl⟩ := Option.map_eq_some_iff.mp hx
      obtain ⟨r, hj, ov⟩ := L.gone j (List.mem_of_getElem? ho)
      refine ⟨rfl, _, rfl, (by show 2 ≤ sizeLine; decide), fun t nt => ?_⟩
      have ntD : t ≠ D2 := fun z => by rw [z, eD] at nt; cases nt
      have s3 := same_upd (o := .tup [oneV Z.rs j, .bl true]) nt
      refine hN _ _ (s3 _ _ eD) ⟨s2.trans s3, by rw [List.length_append, List.length_singleton]; omega, fun v hv => ?_⟩
      rcases List.mem_append.mp hv with hv | hv
      · exact (rw2.same s3) v hv
      · refine ⟨t, j, r, List.mem_singleton.mp hv, ntD, ?_, hj⟩
        rw [upd_same, ov, oneV_of hj]
    rintro acc2 H2 e2 ⟨s2, la2, rw2⟩
    rw [List.length_map, L.tn] at la1
    rw [List.length_map] at la2
    have hn8 := L.n8
    have hgn := L.gn
    refine ⟨D, D2, _, _, rfl, rfl, s2 _ _ e1, e2, small (by omega), fun R nR => nm_of ?_⟩
    obtain ⟨G3, e, s3, k3⟩ := mkO nR (.lst (acc1 ++ acc2))
    rw [e]
    clear e
    dsimp only
    have s03 := (s1.trans s2).trans s3
    have rws : ∀ v ∈ acc1 ++ acc2, ∃ (t i : Nat) (r : Rec), v = .ref t ∧ G3 t = some (.tup [.ref r.one, .bl r.over]) ∧ Z.rs[i]? = some r := fun v hv => by
      rcases List.mem_append.mp hv with hv | hv
      · obtain ⟨t, i, r, e, _, h1, h2⟩ := (rw1.same (s2.trans s3)) v hv
        exact ⟨t, i, r, e, h1, h2⟩
      · obtain ⟨t, i, r, e, _, h1, h2⟩ := (rw2.same s3) v hv
        exact ⟨t, i, r, e, h1, h2⟩
    refine ⟨_, rfl, R, rfl, ⟨_, SqL.of k3⟩, ?_⟩
    refine for_it (walk_list (K := K) (a := R) (xs := acc1 ++ acc2)) (fun i σ H' => Same G3 H' ∧ ∃ u3 u4, σ = [some (.ref F'.tL), some (.ref F'.gL), some (.ref R), u3, u4]) ⟨Same.rfl', none, none, rfl⟩ (fun i σ H' _ z => SqL.of (z.1 _ _ k3)) ?_ ?_
    · rintro i x σ H4 H4' hi ⟨s4, u3, u4, rfl⟩ ⟨rfl, hx⟩
      obtain ⟨t, j, r, rfl, ht, hj⟩ := rws x (List.mem_of_getElem? hx)
      have W4 := W.same (s03.trans s4)
      have ra := W4.rc j r hj
      obtain ⟨dx, fs, hpa, af⟩ := id ra.att
      have R' := L.rok j r hj
      have hn := L.hn
      refine ⟨t, _, rfl, SqT.of (s4 _ _ ht), rfl, _, _, rfl, _, _, rfl, rfl, ?_⟩
      refine ⟨_, rfl, r.one, _, _, _, rfl, rfl, SqL.of ra.one, atI_nat (j := 0) rfl, r.att, dx, fs, rfl, hpa, r.att, F'.q, r.dv, r.dw, r.lane, r.pl, r.over, rfl, ra.att, _, rfl, r.one, _, _, _, rfl, rfl, SqL.of ra.one, atI_nat (j := 0) rfl, r.att, dx, fs, rfl, hpa, r.att, F'.q, r.dv, r.dw, r.lane, r.pl, r.over, rfl, ra.att, _, rfl, r.one, _, _, _, rfl, rfl, SqL.of ra.one, atI_nat (j := 0) rfl, r.att, dx, fs, rfl, hpa, r.att, F'.q, r.dv, r.dw, r.lane, r.pl, r.over, rfl, ra.att, (by show 3 ≤ sizeLine; decide), fun l1 n1 => ?_⟩
      obtain ⟨G5, e, s5, k5⟩ := mkO n1 (.lst [.int (r.lane : Nat), .int (r.pl : Nat), .bl r.over])
      rw [e]
      clear e
      have dpl : ∀ {G : Hp} {x : Addr}, G x = some (.lst [.int (r.lane : Nat), .int (r.pl : Nat), .bl r.over]) → Dp K G (.ref x) (.list [.int (r.lane : Nat), .int (r.pl : Nat), .bool r.over]) := fun h => .lst (SqL.of h) (.cons (.int _) (.cons (.int _) (.cons (.bl _) .nil)))
      have sml : ∀ n : Nat, n < 100 → (n : Int).natAbs < 2 ^ 100 := fun n h => Nat.lt_trans (show ((n : Nat) : Int).natAbs < 100 by omega) (by decide)
      have hpl := R'.pl
      have hln := R'.ln
      have shw : Shw (.list [.int (r.lane : Nat), .int (r.pl : Nat), .bool r.over]) := by
        simp only [Shw, ShwAll]
        exact ⟨log_small (sml _ (by omega)), log_small (sml _ (by omega)), trivial, trivial⟩
      have dep : (PyData.list [.int (r.lane : Nat), .int (r.pl : Nat), .bool r.over]).depth ≤ 40 := by
        simp [PyData.depth, PyData.depthAll]
      have cst : cost (.list [.int (r.lane : Nat), .int (r.pl : Nat), .bool r.over]) ≤ sizeLine := by
        simp only [cost, costAll]
        exact small (by omega)
      refine ⟨l1, _, rfl, dpl k5, shw, dep, cst, ?_⟩
      have one5 := s5 _ _ ra.one
      refine ⟨_, rfl, r.one, _, _, _, rfl, rfl, SqL.of one5, atI_nat (j := 1) rfl, _, rfl, r.one, _, _, _, rfl, rfl, SqL.of one5, atI_nat (j := 2) rfl, _, rfl, (by show 3 ≤ sizeLine; decide), fun l2 n2 => ?_⟩
      obtain ⟨G6, e, s6, k6⟩ := mkO n2 (.lst [.int (r.lane : Nat), .int (r.pl : Nat), .bl r.over])
      rw [e]
      clear e
      exact ⟨l2, _, rfl, dpl k6, shw, dep, cst, rfl, _, rfl, iteN (by simp) ⟨(s4.trans s5).trans s6, _, _, rfl⟩⟩
    · rintro σ H4 ⟨s4, u3, u4, rfl⟩
      exact q _ (s03.trans s4)
end
end K71

set_option Elab.async false
set_option linter.all false
set_option maxRecDepth 100000
set_option maxHeartbeats 4000000
/-! L71p: ledgers compared; a clone. -/
namespace K71
open PySem PySem.Spec PyProof.Rows L2 LL ORD
abbrev s_l_equal_right : Stmt := top 43
abbrev n_l_equal_right : List Str := ["_law_lanes", "_law_one", "_law_other"]
theorem sc_l_equal_right : FnScope n_l_equal_right ["_law_lanes"] (defScope s_l_equal_right) := ⟨rfl, rfl, rfl, by decide +kernel, rfl, by decide +kernel, by decide +kernel⟩
abbrev s_l_clone_right : Stmt := top 44
abbrev n_l_clone_right : List Str := ["_law_ledger", "_law_history", "_law_tries", "_law_other", "_law_lane", "_law_attempt"]
theorem sc_l_clone_right : FnScope n_l_clone_right ["_law_ledger", "_law_history", "_law_tries"] (defScope s_l_clone_right) := ⟨rfl, rfl, rfl, by decide +kernel, rfl, by decide +kernel, by decide +kernel⟩
structure Tn (K : PySem.W.Frag) (mg : Str → Option Value) (CE CH CO CL CA : Addr) : Prop extends Tq K mg CE CH CO CL CA where
  ne : PySem.W.findIn K (.ref CL) "__ne__" = some (some (.builtin "object.__ne__"))
  nfC : PySem.W.notFirst K CL (.ref CL) = true
  nfL : PySem.W.notFirst K CL (.type "list") = true
def spEqR : Sp := fun vs H Q _ => ∃ n : Nat, vs = [.int (n : Nat)] ∧ 1 ≤ n ∧ n ≤ 8 ∧ ∀ H', Same H H' → Q (.bl true) H'
theorem fps_nil {H : Hp} : Fps H [] [] := ⟨rfl, fun i v e => by simp at e⟩
theorem hsok_nil : HsOk [] := ⟨fun i hi => absurd hi (Nat.not_lt_zero _), by decide, [], by decide, fun i hi => absurd hi (Nat.not_lt_zero _)⟩
section
variable {P : Program} {w : World} {K : PySem.W.Frag} {mg : Str → Option Value} {base : Heap} {CE CH CO CI CN CB CV CS CL CA : Addr} {f : Addr} {fd : FuncData} {Tb : List (Addr × Str)} {c Pt : Addr}
theorem ok_l_equal_right (T : Tx K mg CE CH CO) (S : Tn K mg CE CH CO CL CA) (S_eq : SpF P w K mg base CX0 1 CL "__eq__" (spEqL K CL)) (K_Ledger1 : Mkf P w K mg base (L2.CX P w) 4 "Ledger" (spMkL K CL CO)) (M_begin : Mth P w K mg base (L2.CX P w) 5 CL "begin" [] (spBeg K CL CA CN CB)) (F : FD K "_law_equal_right" "_law_equal_right" s_l_equal_right [] f fd) :
    FnG P w K mg base CX0 6 f fd ["_law_lanes"] spEqR := by
  refine ok0 F sc_l_equal_right (fun vs H Q E h => ?_) (fun cdv A outer s H vs Q E hr h => ?_)
  · obtain ⟨n, rfl, _⟩ := h
    rfl
  · obtain ⟨n, rfl, n1, n8, q⟩ := h
    refine ⟨_, (pss_cons (ps_par (i := 1) (j := 2) rfl sc_l_equal_right.nd rfl rfl (by decide) rfl rfl (pa_cons (pe_mf K_Ledger1 (hr.mono (by decide)) passF (pa_cons (pv 0) pa_nil)) (pa_cons (pe_mf K_Ledger1 (hr.mono (by decide)) passF (pa_cons (pv 0) pa_nil)) pa_nil)) (by rfl))
      (pss_cons (ps_expr (pe_mt M_begin (hr.mono (by decide)) passF (pv 1) (pa_cons (pe_op op_sub (pv 0) pe_int) pa_nil)))
      (pss_one (ps_ret (pe_and (pe_cmpR (op_eqF S_eq (hr.mono (by decide)) pass0) (pv 1) (pv 2) (nomark _)) (pe_and (pe_not (pe_cmpR (op_neF S_eq S.ne S.cm (hr.mono (by decide)) pass0) (pv 1) (pv 2) (nomark _))) (pe_one (pe_cmpR (op_neF S_eq S.ne S.cm (hr.mono (by decide)) pass0) (pv 1) (pe_mf K_Ledger1 (hr.mono (by decide)) passF (pa_cons (pe_op op_add (pe_op op_mod (pe_callTy call_int1 (by rfl) T.n_int (by decide +kernel) (pa_cons (pv 0) pa_nil)) pe_int) pe_int) pa_nil)) (nomark _))))))))), ?_⟩
    refine ⟨_, rfl, _, rfl, .inl ⟨n, rfl, n1, n8, fun H1 q1 hl1 da1 lg1 h1 d1 nq nhl nda s1 => ?_⟩⟩
    refine ⟨_, rfl, _, rfl, .inl ⟨n, rfl, n1, n8, fun H2 q2 hl2 da2 lg2 h2 d2 nq2 nhl2 nda2 s2 => ?_⟩⟩
    refine ⟨_, _, rfl, ?_⟩
    dsimp only
    have lg1' := lg1.same s2
    obtain ⟨dq, gs, hq, lf⟩ := id lg1'
    refine ⟨_, rfl, q1, dq, gs, rfl, hq, lf.no "begin" (by decide +kernel) (by decide +kernel) (by decide +kernel), _, rfl, _, _, rfl, rfl, q1, hl1, da1, n, 3, [], _, [], rfl, lg1', s2 _ _ h1, by decide, s2 _ _ d1, by decide, by omega, .inr ⟨n - 1, congrArg V.int (by omega), by omega, .inl ⟨.inl rfl, fun H3 p dv dw _ _ _ np nv nw b3 da3 => ?_⟩⟩⟩
    obtain ⟨dq2, gs2, hq2, lf2⟩ := id lg2
    have d1' := s2 _ _ d1
    have nop : ∀ {x : Addr} {o : HO}, H2 x = some o → (∀ kvs, o ≠ .dK kvs) → x ≠ da1 := fun {x o} h1 h2 z => by
      rw [z, d1'] at h1
      exact h2 _ (Option.some.inj h1).symm
    have hq3 := b3 _ _ hq (nop hq (fun _ z => by cases z))
    have h13 := b3 _ _ (s2 _ _ h1) (nop (s2 _ _ h1) (fun _ z => by cases z))
    have hq23 := b3 _ _ hq2 (nop hq2 (fun _ z => by cases z))
    have h23 := b3 _ _ h2 (nop h2 (fun _ z => by cases z))
    have lg13 : LgAt CL H3 q1 n hl1 da1 3 := ⟨dq, gs, hq3, lf⟩
    have lg23 : LgAt CL H3 q2 n hl2 da2 3 := ⟨dq2, gs2, hq23, lf2⟩
    have b03 : But da1 H H3 := (But.of (s1.trans s2)).trans b3
    have s03 : Same H H3 := b03.same nda
    dsimp only
    refine ⟨_, rfl, _, rfl, q1, dq, gs, .ref CL, rfl, hq3, tyS S.toTq hq23, S.nfC, q1, hl1, da1, n, 3, [], [], .ref q2, rfl, lg13, h13, fps_nil, hsok_nil, .inr ⟨q2, hl2, da2, n, 3, [], [], rfl, lg23, h23, fps_nil, hsok_nil, fun b hb => ?_⟩⟩
    rw [hb.mpr ⟨rfl, rfl⟩]
    refine ⟨true, rfl, iteT ?_⟩
    refine ⟨_, rfl, _, rfl, q1, dq, gs, .ref CL, rfl, hq3, tyS S.toTq hq23, S.nfC, q1, hl1, da1, n, 3, [], [], .ref q2, rfl, lg13, h13, fps_nil, hsok_nil, .inr ⟨q2, hl2, da2, n, 3, [], [], rfl, lg23, h23, fps_nil, hsok_nil, fun b hb => ?_⟩⟩
    rw [hb.mpr ⟨rfl, rfl⟩]
    refine ⟨true, rfl, false, rfl, true, rfl, iteT ?_⟩
    have e8 : ((n : Int) % 8 + 1) = ((n % 8 + 1 : Nat) : Int) := by omega
    refine ⟨_, rfl, _, rfl, .inl ⟨_, rfl, _, _, rfl, rfl, (show (0 : Int) < 8 by decide), _, _, rfl, rfl, _, rfl, .inl ⟨n % 8 + 1, congrArg V.int e8, by omega, by omega, fun H4 q3 hl3 da3' lg3 h3 _ nq3 _ _ s4 => ?_⟩⟩⟩
    obtain ⟨dq3, gs3, hq3', lf3⟩ := id lg3
    refine ⟨q1, dq, gs, .ref CL, rfl, s4 _ _ hq3, tyS S.toTq hq3', S.nfC, q1, hl1, da1, n, 3, [], [], .ref q3, rfl, lg13.same s4, s4 _ _ h13, fps_nil, hsok_nil, .inr ⟨q3, hl3, da3', n % 8 + 1, 3, [], [], rfl, lg3, h3, fps_nil, hsok_nil, fun b hb => ?_⟩⟩
    have bf : b = false := Bool.eq_false_iff.mpr fun z => by
      have := (hb.mp z).1
      omega
    rw [bf]
    exact ⟨false, rfl, q _ (s03.trans s4)⟩
end
end K71

set_option Elab.async false
set_option linter.all false
set_option maxRecDepth 100000
set_option maxHeartbeats 4000000
/-! L71q: a clone. -/
namespace K71
open PySem PySem.Spec PyProof.Rows L2 LL ORD
def spClR (CL CA : Addr) : Sp := fun vs H Q _ => ∃ (F : Fx) (S : Sx) (t : Nat), vs = [.ref F.q, .ref F.hL, .ref F.tL] ∧ Wd CL CA F S H ∧ Lo F S t ∧ t ≤ 90 ∧ ∀ H', Same H H' → Q (.bl true) H'
theorem hsok_app {F : Fx} {S : Sx} {t : Nat} {f : Fp} (L : Lo F S t) (ht : t ≤ 90) (ok : FpOk f) (wr : ∀ c ∈ f.wr, c = "zz") : HsOk (S.h ++ [f]) := by
  have := L.hn
  refine ⟨fun i hi => ?_, by rw [List.length_append, List.length_singleton]; omega, F.cs ++ [("zz" : Str)], by rw [List.length_append, List.length_singleton]; have := L.cs.len; omega, fun i hi c hc => ?_⟩
  · rcases fp_lt hi with h | rfl
    · rw [fp_l h]
      exact L.fok i h
    · rw [fp_r]
      exact ok
  · rcases fp_lt hi with h | rfl
    · unfold wrs at hc
      rw [fp_l h] at hc
      exact List.mem_append.mpr (.inl (L.fwr i h c hc))
    · unfold wrs at hc
      rw [fp_r] at hc
      exact List.mem_append.mpr (.inr (by rw [wr c hc]; exact List.mem_singleton.mpr rfl))
theorem hsD_ne {h : Hs} {f : Fp} : hsD (h ++ [f]) ≠ hsD h := fun z => by
  have := congrArg List.length (PyData.list.inj z)
  simp only [List.length_map, List.length_range, List.length_append, List.length_singleton] at this
  omega
section
variable {P : Program} {w : World} {K : PySem.W.Frag} {mg : Str → Option Value} {base : Heap} {CE CH CO CI CN CB CV CS CL CA : Addr} {f : Addr} {fd : FuncData} {Tb : List (Addr × Str)} {c Pt : Addr}
/-- the first place of None, if there is one -/
theorem fst_non : ∀ {xs : List V}, xs.any isNn = true → ∃ j, xs[j]? = some .non ∧ ∀ (m : Nat) z, m < j → xs[m]? = some z → isNn z = false
  | [], h => by cases h
  | x :: xs, h => by
    by_cases c : isNn x = true
    · refine ⟨0, ?_, fun m z hm => absurd hm (Nat.not_lt_zero _)⟩
      cases x <;> first | rfl | cases c
    · rw [List.any_cons, Bool.eq_false_iff.mpr c, Bool.false_or] at h
      obtain ⟨j, h1, h2⟩ := fst_non h
      refine ⟨j + 1, h1, fun m z hm e => ?_⟩
      cases m with
      | zero =>
        cases e
        exact Bool.eq_false_iff.mpr c
      | succ m => exact h2 m z (by omega) e
theorem ok_l_clone_right (T : Tx K mg CE CH CO) (S : Tn K mg CE CH CO CL CA) (S_len : SpF P w K mg base CX0 1 CL "__len__" (spLen CL)) (S_eq : SpF P w K mg base CX0 1 CL "__eq__" (spEqL K CL)) (M_clone : Mth P w K mg base (L2.CX P w) 7 CL "clone" [] (spClone CL)) (M_history : Mth P w K mg base CX0 1 CL "history" [] (spHis CL)) (M_begin : Mth P w K mg base (L2.CX P w) 5 CL "begin" [] (spBeg K CL CA CN CB)) (M_write : Mth P w K mg base (L2.CX P w) 4 CA "write" [] (spWr K CA CV CI)) (M_end : Mth P w K mg base (L2.CX P w) 5 CA "end" [] (spEnd CL CA CV CS)) (F : FD K "_law_clone_right" "_law_clone_right" s_l_clone_right [] f fd) :
    FnG P w K mg base CX0 8 f fd ["_law_ledger", "_law_history", "_law_tries"] (spClR CL CA) := by
  refine ok0 F sc_l_clone_right (fun vs H Q E h => ?_) (fun cdv A outer s H vs Q E hr h => ?_)
  · obtain ⟨F, S, t, rfl, _⟩ := h
    rfl
  · obtain ⟨F', Z, t, rfl, W, L, t9, q⟩ := h
    have ok := L.hs (by omega)
    have n1 := L.n1
    have n8 := L.n8
    have hn := L.hn
    refine ⟨_, (pss_cons (ps_set (i := 3) sc_l_clone_right.nd rfl (by first | exact Or.inl rfl | exact Or.inr rfl) (pe_mt0 M_clone (hr.mono (by decide)) passF (pv 0)))
      (pss_cons (ps_if (PW.pt (pw_or (pt_not (pt_cmpR (op_eqF S_eq (hr.mono (by decide)) pass0) (pv 3) (pv 0) (nomark _))) (pw_or (pt_cmpR (op_neD hr.r.units) (pe_mt0 M_history (hr.mono (by decide)) pass0 (pv 3)) (pv 1) (nomark _)) (pw_or1 (pt_cmpR (op_eqF S_eq (hr.mono (by decide)) pass0) (pv 3) (pv 1) (nomark _)))))) (pss_one (ps_ret pe_bl)) pss_nil)
      (pss_cons (ps_set (i := 4) sc_l_clone_right.nd rfl (by first | exact Or.inl rfl | exact Or.inr rfl) (pe_ifExp (pt_cmpR (op_inN (un65 hr)) pe_non (pv 2) (by rfl)) (pe_bm PySem.F.plainAttrs_list PySem.F.slot_list_index PySem.F.type_list_index (mt_indexN (un65 hr)) (pv 2) (pa_cons pe_non pa_nil)) pe_int))
      (pss_cons (ps_set (i := 5) sc_l_clone_right.nd rfl (by first | exact Or.inl rfl | exact Or.inr rfl) (pe_mt M_begin (hr.mono (by decide)) passF (pv 3) (pa_cons (pv 4) pa_nil)))
      (pss_cons (ps_expr (pe_mt M_write (hr.mono (by decide)) passF (pv 5) (pa_cons pe_str pa_nil)))
      (pss_one (ps_ret (pe_and (pe_cmpR op_eq (pe_mt0 M_end (hr.mono (by decide)) passF (pv 5)) (pe_callB call_len_seq (by rfl) T.n_len (by decide +kernel) (pa_cons (pv 1) pa_nil)) (nomark _)) (pe_and (pe_cmpR op_eq (pe_callB (call_lenO S_len (hr.mono (by decide)) pass0) (by rfl) T.n_len (by decide +kernel) (pa_cons (pv 0) pa_nil)) (pe_callB call_len_seq (by rfl) T.n_len (by decide +kernel) (pa_cons (pv 1) pa_nil)) (nomark _)) (pe_one (pe_not (pe_cmpR (op_eqF S_eq (hr.mono (by decide)) pass0) (pv 3) (pv 0) (nomark _))))))))))))), ?_⟩
    obtain ⟨dq, gs, hq, lf⟩ := id W.lg
    refine ⟨_, rfl, F'.q, dq, gs, rfl, hq, lf.no "clone" (by decide +kernel) (by decide +kernel) (by decide +kernel), F'.q, F'.hl, F'.da, F'.n, F'.k, Z.us, Z.h, rfl, W.lg, W.hl, W.fu, ok, L.fln, n1, n8, fun H1 q1 hl1 da1 s1 nq nhl nda lg1 hh1 hda1 => nm_of ?_⟩
    dsimp only
    obtain ⟨vs1, hl1', f1⟩ := hh1
    obtain ⟨dq1, gs1, hq1, lf1⟩ := id lg1
    have W1 := W.same s1
    have hqa := s1 _ _ hq
    -- it is as the ledger is
    refine seq_cut (fun σ' H' => σ' = [some (.ref F'.q), some (.ref F'.hL), some (.ref F'.tL), some (.ref q1), none, none] ∧ Same H1 H') (fun N hN => ?_) ?_
    · refine ⟨_, rfl, _, rfl, q1, dq1, gs1, .ref CL, rfl, hq1, tyS S.toTq hqa, S.nfC, q1, hl1, da1, F'.n, 4, vs1, Z.h, .ref F'.q, rfl, lg1, hl1', f1, ok, .inr ⟨F'.q, F'.hl, F'.da, F'.n, F'.k, Z.us, Z.h, rfl, W1.lg, W1.hl, W1.fu, ok, fun b hb => ?_⟩⟩
      rw [hb.mpr ⟨rfl, rfl⟩]
      refine ⟨true, rfl, iteF ?_⟩
      refine ⟨_, rfl, q1, dq1, gs1, rfl, hq1, lf1.no "history" (by decide +kernel) (by decide +kernel) (by decide +kernel), q1, hl1, da1, F'.n, 4, vs1, rfl, lg1, hl1', fun H2 l s2 nl kl => ?_⟩
      refine ⟨_, rfl, ne_pd (hs_dp kl (f1.same s2)) (hs_dp (s2 _ _ W1.hL) (W1.fU.same s2)) (hs_pn ok) (hs_pn ok) fun bb hbb => ⟨_, rfl, ?_⟩⟩
      rw [hbb.mpr rfl]
      refine iteF ?_
      exact ⟨_, rfl, _, rfl, q1, dq1, gs1, .type "list", rfl, s2 _ _ hq1, .base (.lst (s2 _ _ W1.hL)), S.nfL, q1, hl1, da1, F'.n, 4, vs1, Z.h, .ref F'.hL, rfl, lg1.same s2, s2 _ _ hl1', f1.same s2, ok, .inl ⟨.type "list", .base (.lst (s2 _ _ W1.hL)), S.kL, ⟨false, rfl, iteF (hN _ _ ⟨rfl, s2⟩)⟩⟩⟩
    rintro σ2 H2 ⟨rfl, s2⟩
    have s02 := s1.trans s2
    have W2 := W.same s02
    have lnm : (Z.ts.map (tV Z.rs)).length = F'.n := by rw [List.length_map, L.tn]
    have nls : ∀ v ∈ Z.ts.map (tV Z.rs), NonL K H2 v := fun v hv => by
      obtain ⟨o, ho, rfl⟩ := List.mem_map.mp hv
      cases o with
      | none => exact .inl rfl
      | some i =>
        obtain ⟨l, hl⟩ := List.getElem?_of_mem ho
        obtain ⟨r, hr', _⟩ := L.live l i hl
        exact .inr ⟨r.one, _, oneV_of hr', SqL.of (W2.rc i r hr').one⟩
    -- a lane
    refine seq_cut (fun σ' H' => ∃ l : Nat, l < F'.n ∧ σ' = [some (.ref F'.q), some (.ref F'.hL), some (.ref F'.tL), some (.ref q1), some (.int (l : Nat)), none] ∧ H' = H2) (fun N hN => ?_) ?_
    · refine ⟨_, rfl, F'.tL, _, rfl, rfl, SqL.of W2.tl, nls, _, rfl, ?_⟩
      cases hb : (Z.ts.map (tV Z.rs)).any isNn with
      | false => exact iteF (hN _ _ ⟨0, by omega, rfl, rfl⟩)
      | true =>
        obtain ⟨j, h1, h2⟩ := fst_non hb
        have lj := (List.getElem?_eq_some_iff.mp h1).1
        rw [lnm] at lj
        refine iteT ⟨_, rfl, .inl ⟨rfl, _, SqL.of W2.tl⟩, F'.tL, _, j, rfl, rfl, SqL.of W2.tl, nls, h1, h2, ?_⟩
        exact hN _ _ ⟨j, lj, rfl, rfl⟩
    rintro σ3 H3 ⟨l, ll, rfl, rfl⟩
    have hq2 := s2 _ _ hq1
    have hl2 := s2 _ _ hl1'
    have lg2 := lg1.same s2
    have f2 := f1.same s2
    have ev : vs1.length = Z.h.length := f1.len
    refine ⟨_, rfl, q1, dq1, gs1, rfl, hq2, lf1.no "begin" (by decide +kernel) (by decide +kernel) (by decide +kernel), _, rfl, q1, hl1, da1, F'.n, 4, vs1, .int (l : Nat), [], rfl, lg2, hl2, by rw [ev]; omega, s2 _ _ hda1, by decide, by omega, .inr ⟨l, rfl, ll, .inl ⟨.inl rfl, fun H4 pa dv dw at4 hv4 hw4 na nv nw b4 da4 => nm_of ?_⟩⟩⟩
    dsimp only
    have nda1 : H da1 = none := nda
    have nop : ∀ {x : Addr} {o : HO}, H3 x = some o → (∀ kvs, o ≠ .dK kvs) → x ≠ da1 := fun {x o} h1 h2 z => by
      rw [z, s2 _ _ hda1] at h1
      exact h2 _ (Option.some.inj h1).symm
    have s04 : Same H H4 := ((But.of s02).trans b4).same nda
    have hq4 := b4 _ _ hq2 (nop hq2 (fun _ z => by cases z))
    have hl4 := b4 _ _ hl2 (nop hl2 (fun _ z => by cases z))
    have f4 : Fps H4 vs1 Z.h := f2.bs (.but b4 (List.mem_singleton.mpr rfl)) (.cons (s2 _ _ hda1) .d .nil)
    have lg4 : LgAt CL H4 q1 F'.n hl1 da1 4 := ⟨dq1, gs1, hq4, lf1⟩
    -- it writes
    obtain ⟨dxa, fsa, hpa, afa⟩ := id at4
    have mk : ∀ {x : Addr}, H3 x = none → H x = none := fun h => s02.free h
    have nw0 : H dw = none := mk nw
    have np0 : H pa = none := mk na
    refine ⟨_, rfl, pa, dxa, fsa, rfl, hpa, afa.no "write" (by decide +kernel) (by decide +kernel) (by decide +kernel) (by decide +kernel) (by decide +kernel) (by decide +kernel), pa, q1, dv, dw, l, vs1.length, false, .str "zz", [], rfl, at4, hw4, by decide, (fun z => by cases z), fun _ => .inl ⟨"zz", rfl, zzOk, fun H5 b5 hw5 => ?_⟩⟩
    have now : ∀ {x : Addr} {o : HO}, H4 x = some o → (∀ kvs, o ≠ .dK kvs) → x ≠ dw := fun {x o} h1 h2 z => by
      rw [z, hw4] at h1
      exact h2 _ (Option.some.inj h1).symm
    have s05 : Same H H5 := ((But.of s04).trans b5).same nw0
    have hpa5 := b5 _ _ hpa (now hpa (fun _ z => by cases z))
    have hq5 := b5 _ _ hq4 (now hq4 (fun _ z => by cases z))
    have hl5 := b5 _ _ hl4 (now hl4 (fun _ z => by cases z))
    have hv5 := b5 _ _ hv4 afa.vw
    have f5 : Fps H5 vs1 Z.h := f4.bs (.but b5 (List.mem_singleton.mpr rfl)) (.cons hw4 .d .nil)
    have lg5 : LgAt CL H5 q1 F'.n hl1 da1 4 := ⟨dq1, gs1, hq5, lf1⟩
    have nqp : q1 ≠ pa := by
      intro z
      rw [← z] at na
      rw [hq2] at na
      cases na
    dsimp only
    refine ⟨_, rfl, pa, dxa, fsa, rfl, hpa5, afa.no "end" (by decide +kernel) (by decide +kernel) (by decide +kernel) (by decide +kernel) (by decide +kernel) (by decide +kernel), ?_⟩
    refine ⟨pa, q1, dv, dw, hl1, da1, l, vs1.length, F'.n, 4, false, vs1, Z.h, [], [("zz" : Str)], rfl, ⟨dxa, fsa, hpa5, afa⟩, lg5, nqp, hl5, f5, by omega, hv5, by decide, (fun c hc => by cases hc), hw5, by decide, (fun z => by cases z), (fun _ H6 _ _ c hc => by cases hc), fun _ _ H6 tt t1 t2 ys zs b6 at6 g1 g2 g3 g4 pm1 sr1 pm2 sr2 => ?_⟩
    have ey : ys = [] := List.perm_nil.mp pm1
    have ez : zs = [("zz" : Str)] := List.perm_singleton.mp pm2
    subst ey ez
    have W5 := W.same s05
    have nh0 : H hl1 = none := nhl
    have s06 : Same H H6 := fun x o e => b6 _ _ (s05 _ _ e) (ne_of_none e np0) (ne_of_none e nh0)
    have W6 := W.same s06
    have eh : (vs1.length : Int) = (Z.us'.length : Nat) := by rw [ev, W.fU.len]
    refine ⟨_, rfl, F'.hL, _, rfl, .inl (SqL.of W6.hL), rfl, true, by rw [eh]; simp, iteT ?_⟩
    have el : (Z.us.length : Int) = (Z.us'.length : Nat) := by rw [W.fu.len, W.fU.len]
    obtain ⟨dq6, gs6, hq6, lf6⟩ := id W6.lg
    have nq5 : q1 ≠ hl1 := by
      intro z
      rw [z, hl5] at hq5
      cases hq5
    have hq16 := b6 _ _ hq5 nqp nq5
    have lg6 : LgAt CL H6 q1 F'.n hl1 da1 4 := ⟨dq1, gs1, hq16, lf1⟩
    refine ⟨_, rfl, F'.q, dq6, gs6, rfl, hq6, F'.q, F'.hl, F'.da, F'.n, F'.k, Z.us, rfl, W6.lg, W6.hl, Z.us.length, rfl, by rw [W.fu.len]; omega, _, rfl, F'.hL, _, rfl, .inl (SqL.of W6.hL), rfl, true, by rw [el]; simp, iteT ?_⟩
    let f' : Fp := ⟨l, [], [("zz" : Str)]⟩
    have okf : FpOk f' := ⟨(by show l < 8; omega), ⟨(fun c hc => by cases hc), .nil, Nat.zero_le _⟩, ⟨(fun c hc => by rw [List.mem_singleton.mp hc]; exact zzOk), List.pairwise_singleton _ _, (by show 1 ≤ 5; decide)⟩⟩
    have f6 : Fps H6 (vs1 ++ [.ref tt]) (Z.h ++ [f']) := by
      refine (f5.bs (S := [pa, hl1]) (.but2 b6 (by simp) (by simp)) (.cons hpa5 .i (.cons hl5 .l .nil))).app ⟨tt, t1, t2, rfl, g2, g3, g4⟩
    refine ⟨_, rfl, _, rfl, q1, dq1, gs1, .ref CL, rfl, hq16, tyS S.toTq hq6, S.nfC, q1, hl1, da1, F'.n, 4, _, Z.h ++ [f'], .ref F'.q, rfl, lg6, g1, f6, hsok_app L t9 okf (fun c hc => List.mem_singleton.mp hc), .inr ⟨F'.q, F'.hl, F'.da, F'.n, F'.k, Z.us, Z.h, rfl, W6.lg, W6.hl, W6.fu, ok, fun b hb => ?_⟩⟩
    have bf : b = false := Bool.eq_false_iff.mpr fun z => hsD_ne (hb.mp z).2
    rw [bf]
    exact ⟨false, rfl, q _ s06⟩
end
end K71

set_option Elab.async false
set_option linter.all false
set_option maxRecDepth 100000
set_option maxHeartbeats 4000000
/-! L71r: the law. -/
namespace K71
open PySem PySem.Spec PyProof.Rows L2 LL ORD
abbrev s_law : Stmt := top 45
abbrev n_law : List Str := ["_law_script", "_law_pot_here", "_law_lanes", "_law_cells_here", "_law_ledger", "_law_beside", "_law_history", "_law_tries", "_law_gone", "_law_alone", "_law_parts", "_law_k", "_law_odd"]
theorem sc_law : FnScope n_law ["_law_script"] (defScope s_law) := ⟨rfl, rfl, rfl, by decide +kernel, rfl, by decide +kernel, by decide +kernel⟩
/-- what stood apart from the world at first stands, apart from it -/
def Fra (F : Fx) (S0 : Sx) (H0 : Hp) (S' : Sx) (H' : Hp) : Prop := ∀ b o, H0 b = some o → (∀ ps, o ≠ .tbl ps) → Apt F S0 b → H' b = some o ∧ Apt F S' b
theorem Fra.refl {F : Fx} {S0 : Sx} {H0 : Hp} : Fra F S0 H0 S0 H0 := fun _ _ e _ a => ⟨e, a⟩
theorem Fra.same {F : Fx} {S0 S1 : Sx} {H0 H1 H2 : Hp} (f : Fra F S0 H0 S1 H1) (s : Same H1 H2) : Fra F S0 H0 S1 H2 := fun b o e n a => ⟨s _ _ (f b o e n a).1, (f b o e n a).2⟩
theorem Fra.nxt {F : Fx} {S0 S1 S2 : Sx} {H0 H1 H2 H3 : Hp} {p : Addr} (f : Fra F S0 H0 S1 H1) (np : H1 p = none) (s : Same H1 H2) (x : Nxt F S1 S2 p H2 H3) : Fra F S0 H0 S2 H3 := fun b o e n a => by
  obtain ⟨e1, a1⟩ := f b o e n a
  exact x b o (s _ _ e1) (fun z => by rw [z, np] at e1; cases e1) n a1
theorem sqL_keep {K : PySem.W.Frag} {H : Hp} {a : Addr} {vs : List V} (h : SqL K H a vs) : ∀ H', (∀ o, H a = some o → (∀ ps, o ≠ .tbl ps) → H' a = some o) → SqL K H' a vs := fun H' k => by
  rcases h with (h | ⟨o, h⟩) | h
  · exact .inl (.inl (k _ h (fun _ z => by cases z)))
  · exact .inl (.inr ⟨o, k _ h (fun _ z => by cases z)⟩)
  · exact .inr h
def lamL : Str := (envOfC "law" (defScope s_law) 0 0 .none).qual ++ "<lambda>"
def spLaw (K : PySem.W.Frag) (Tb : List (Addr × Str)) : Sp := fun vs H Q _ => ∃ (a : Addr) (ns : List Int), vs = [.ref a] ∧ SqL K H a (ns.map V.int) ∧ ns.length ≤ 63 ∧ LamX.Tabs Tb H ∧ ∀ H', Q (.bl true) H'
section
variable {P : Program} {w : World} {K : PySem.W.Frag} {mg : Str → Option Value} {base : Heap} {CE CH CO CI CN CB CV CS CL CA : Addr} {f : Addr} {fd : FuncData} {Tb : List (Addr × Str)} {c Pt : Addr}
theorem ok_law (T : Tx K mg CE CH CO) (S : Tz K mg CL CA) (G_l_pot : Fnc P w K mg base CX0 1 "_law_pot" [] (spPot K)) (G_l_take : Fnc P w K mg base CX0 1 "_law_take" [] spTake) (G_l_pick : Fnc P w K mg base CX0 2 "_law_pick" [] spPick) (G_l_cells : Fnc P w K mg base CX0 3 "_law_cells" [] spCs) (K_Ledger1 : Mkf P w K mg base (L2.CX P w) 4 "Ledger" (spMkL K CL CO)) (S_len : SpF P w K mg base CX0 1 CL "__len__" (spLen CL)) (M_begin : Mth P w K mg base (L2.CX P w) 5 CL "begin" [] (spBeg K CL CA CN CB)) (M_read : Mth P w K mg base (L2.CX P w) 4 CA "read" [] (spRd K CL CA CV CI)) (M_end : Mth P w K mg base (L2.CX P w) 5 CA "end" [] (spEnd CL CA CV CS)) (M_history : Mth P w K mg base CX0 1 CL "history" [] (spHis CL))
    (G_l_told : Taker P w K mg base 8 "_law_told" "_law_call" (TTr K CO CI CN CB CV CS)) (G_l_deed_right : Fnc P w K mg base CX0 11 "_law_deed_right" [] (spDeed CL CA Tb)) (G_l_state_right : Fnc P w K mg base CX0 5 "_law_state_right" [] (spState CL CA)) (G_l_tries_right : Fnc P w K mg base CX0 3 "_law_tries_right" [] (spTries CL CA)) (G_l_clone_right : Fnc P w K mg base CX0 8 "_law_clone_right" [] (spClR CL CA)) (G_l_equal_right : Fnc P w K mg base CX0 6 "_law_equal_right" [] spEqR) (F : FD K "law" "law" s_law [] f fd)
    (TB : LamX.TabB base mg (cOf K f) (tOf K f)) (hmT : (tOf K f, lamL) ∈ Tb) (huT : ∀ p ∈ Tb, p.1 = tOf K f → p.2 = lamL) : FnG P w K mg base CX0 12 f fd ["_law_script"] (spLaw K Tb) := by
  refine okC F sc_law (fun vs H Q E h => ?_) (fun cdv ec A outer s H vs Q E hr h => ?_)
  · obtain ⟨a, ns, rfl, _⟩ := h
    rfl
  · obtain ⟨a, ns, rfl, hS, hl, tb, q⟩ := h
    have ecd : cdv = .ref (cOf K f) := Option.some.inj (ec.symm.trans (code_ref F))
    subst ecd
    have hcode : (cxOf CX0 P w K mg base n_law "law" (defScope s_law) f (.ref (cOf K f)) A outer s H E).nox.env.code = .ref (cOf K f) := rfl
    refine ⟨_, (pss_cons (ps_set (i := 1) sc_law.nd rfl (by first | exact Or.inl rfl | exact Or.inr rfl) (pe_fn G_l_pot (hr.mono (by decide)) pass0 (pa_cons (pv 0) (pa_cons pe_int pa_nil))))
      (pss_cons (ps_par (i := 2) (j := 3) rfl sc_law.nd rfl rfl (by decide) rfl rfl (pa_cons (pe_op op_add pe_int (pe_fn G_l_take (hr.mono (by decide)) pass0 (pa_cons (pv 1) (pa_cons pe_int pa_nil)))) (pa_cons (pe_fn G_l_cells (hr.mono (by decide)) pass0 (pa_cons (pv 1) pa_nil)) pa_nil)) (by rfl))
      (pss_cons (ps_par (i := 4) (j := 5) rfl sc_law.nd rfl rfl (by decide) rfl rfl (pa_cons (pe_mf K_Ledger1 (hr.mono (by decide)) passF (pa_cons (pv 2) pa_nil)) (pa_cons (pe_mf K_Ledger1 (hr.mono (by decide)) passF (pa_cons pe_int pa_nil)) pa_nil)) (by rfl))
      (pss_cons (ps_par3 (i := 6) (j := 7) (l := 8) rfl sc_law.nd rfl rfl rfl (by decide) (by decide) (by decide) rfl rfl rfl (pa_cons (pe_lst pa_nil) (pa_cons (pe_op op_rep (pe_lst (pa_cons pe_non pa_nil)) (pv 2)) (pa_cons (pe_lst pa_nil) pa_nil))) (by rfl))
      (pss_cons (ps_set (i := 9) sc_law.nd rfl (by first | exact Or.inl rfl | exact Or.inr rfl) (pe_mt M_begin (hr.mono (by decide)) passF (pv 5) (pa_cons pe_int pa_nil)))
      (pss_cons (ps_if (pt_cmpR op_ne (pe_mt M_read (hr.mono (by decide)) passF (pv 9) (pa_cons (pe_ix ix_list (pv 3) pe_int (fun _ _ => rfl)) pa_nil)) (pe_un un_neg pe_int) (nomark _)) (pss_one (ps_ret pe_bl)) pss_nil)
      (pss_cons (ps_set (i := 10) sc_law.nd rfl (by first | exact Or.inl rfl | exact Or.inr rfl) (pe_lst (pa_cons (pv 4) (pa_cons (pv 6) (pa_cons (pv 7) (pa_cons (pv 8) (pa_cons (pv 3) pa_nil)))))))
      (pss_cons (ps_for PassesOwn.never rfl (pi_range2 (by rfl) T.n_range (pa_cons pe_int (pa_cons (pe_callB (call_max2 rfl) (by rfl) T.n_max (by decide +kernel) (pa_cons pe_int (pa_cons (pe_callB (call_min2 rfl) (by rfl) T.n_min (by decide +kernel) (pa_cons pe_int (pa_cons (pe_callB call_len_seq (by rfl) T.n_len (by decide +kernel) (pa_cons (pv 0) pa_nil)) pa_nil))) pa_nil))) pa_nil))) (pg_name (i := 11) sc_law.nd rfl (by first | exact Or.inl rfl | exact Or.inr rfl)) (pss_cons (ps_set (i := 1) sc_law.nd rfl (by first | exact Or.inl rfl | exact Or.inr rfl) (pe_fn G_l_pot (hr.mono (by decide)) pass0 (pa_cons (pv 0) (pa_cons (pv 11) pa_nil))))
      (pss_cons (ps_if (pt_not (pt_val (pe_fn G_l_deed_right (hr.mono (by decide)) pass0 (pa_cons (pv 1) (pa_cons (pv 10) pa_nil))))) (pss_one (ps_ret pe_bl)) pss_nil)
      (pss_cons (ps_if (PW.pt (pw_or (pt_not (pt_val (pe_fn G_l_state_right (hr.mono (by decide)) pass0 (pa_cons (pv 4) (pa_cons (pv 2) (pa_cons (pv 6) (pa_cons (pv 3) pa_nil))))))) (pw_or1 (pt_cmpR op_ne (pe_callB (call_lenO S_len (hr.mono (by decide)) pass0) (by rfl) T.n_len (by decide +kernel) (pa_cons (pv 5) pa_nil)) pe_int (nomark _))))) (pss_one (ps_ret pe_bl)) pss_nil)
      (pss_one (ps_if (pt_not (pt_val (pe_fn G_l_tries_right (hr.mono (by decide)) pass0 (pa_cons (pv 7) (pa_cons (pv 8) pa_nil))))) (pss_one (ps_ret pe_bl)) pss_nil))))))
      (pss_cons (ps_set (i := 12) sc_law.nd rfl (by first | exact Or.inl rfl | exact Or.inr rfl) (pe_fn G_l_pick (hr.mono (by decide)) pass0 (pa_cons (pv 1) (pa_cons (pe_lst (pa_cons pe_int (pa_cons pe_int (pa_cons (pe_un un_neg pe_int) (pa_cons pe_bl (pa_cons pe_non (pa_cons pe_str (pa_cons (pe_op op_pow pe_int pe_int) pa_nil)))))))) pa_nil))))
      (pss_cons (ps_if (pt_cmpR (op_neD hr.r.units) (pe_lamG G_l_told TB hcode hmT huT (hr.mono (by decide)) (LamX.lamS_by (sc := defScope s_law) (by decide +kernel)) (fun _ _ _ _ _ _ _ hr => (pe_mf K_Ledger1 (hr.mono (by decide)) (passes_call (takes_of rfl rfl rfl rfl) (fun _ _ _ _ h => h)) (pa_cons (pv 12) pa_nil)))) (pe_tup (pa_cons pe_str (pa_cons (pe_callB (call_reprV (K := K) (by rfl) hr.g hr.r.units) (by rfl) T.n_repr (by decide +kernel) (pa_cons (pv 12) pa_nil)) (pa_cons pe_bl pa_nil)))) (nomark _)) (pss_one (ps_ret pe_bl)) pss_nil)
      (pss_cons (ps_if (PW.pt (pw_or (pt_cmpR op_ne (pe_mt0 M_end (hr.mono (by decide)) passF (pv 9)) pe_int (nomark _)) (pw_or1 (pt_cmpR (op_neD hr.r.units) (pe_mt0 M_history (hr.mono (by decide)) pass0 (pv 5)) (pe_lst (pa_cons (pe_tup (pa_cons pe_int (pa_cons (pe_tup (pa_cons (pe_ix ix_list (pv 3) pe_int (fun _ _ => rfl)) pa_nil)) (pa_cons (pe_tup pa_nil) pa_nil)))) pa_nil)) (nomark _))))) (pss_one (ps_ret pe_bl)) pss_nil)
      (pss_one (ps_ret (pe_and (pe_fn G_l_clone_right (hr.mono (by decide)) pass0 (pa_cons (pv 4) (pa_cons (pv 6) (pa_cons (pv 7) pa_nil)))) (pe_one (pe_fn G_l_equal_right (hr.mono (by decide)) pass0 (pa_cons (pv 2) pa_nil))))))))))))))))), ?_⟩
    refine ⟨_, rfl, a, ns, 0, rfl, hS, hl, by decide, fun H1 p s1 np hp => nm_of ?_⟩
    dsimp only
    have S1 : SqL K H1 a (ns.map V.int) := sqL_same hS s1
    refine ⟨_, rfl, p, 8, rfl, hp, by decide, by decide, fun H2 d b2 hp2 d0 d1 => ⟨_, _, rfl, rfl, ?_⟩⟩
    obtain ⟨m, rfl⟩ := Int.eq_ofNat_of_zero_le d0
    refine ⟨_, rfl, p, rfl, hp2, fun H3 cL cs b3 hp3 ncl ncp hcl C cne => ⟨_, _, rfl, ?_⟩⟩
    dsimp only
    have n8 : m + 1 ≤ 8 := by omega
    have en : (1 : Int) + (m : Nat) = ((m + 1 : Nat) : Int) := by omega
    rw [en]
    refine ⟨_, rfl, _, rfl, .inl ⟨m + 1, rfl, by omega, n8, fun H4 q1 hl1 da1 lg1 h1 d1' nq1 nhl1 nda1 s4 => ?_⟩⟩
    refine ⟨_, rfl, .inl ⟨1, rfl, by decide, by decide, fun H5 q2 hl2 da2 lg2 h2 d2' nq2 nhl2 nda2 s5 => ?_⟩⟩
    refine ⟨_, _, rfl, ?_⟩
    dsimp only
    refine ⟨(by show 0 ≤ sizeLine; decide), fun hL nhL => ?_⟩
    obtain ⟨G6, e, s6, khL⟩ := mkO nhL (.lst [])
    rw [e]
    clear e
    refine ⟨(by show 1 ≤ sizeLine; decide), fun x1 nx1 => ?_⟩
    obtain ⟨G7, e, s7, kx1⟩ := mkO nx1 (.lst [.non])
    rw [e]
    clear e
    refine ⟨_, rfl, x1, _, _, rfl, rfl, kx1, by omega, by omega, ?_, fun tL ntL => ?_⟩
    · show 1 * (m + 1) ≤ sizeLine
      exact small (by omega)
    have er : (List.replicate ((m + 1 : Nat) : Int).toNat [V.non]).flatten = List.replicate (m + 1) V.non := by
      rw [Int.toNat_natCast, List.flatten_replicate_singleton]
    rw [er]
    obtain ⟨G8, e, s8, ktL⟩ := mkO ntL (.lst (List.replicate (m + 1) V.non))
    rw [e]
    clear e
    refine ⟨(by show 0 ≤ sizeLine; decide), fun gL ngL => ?_⟩
    obtain ⟨G9, e, s9, kgL⟩ := mkO ngL (.lst [])
    rw [e]
    clear e
    refine ⟨_, _, _, rfl, ?_⟩
    dsimp only
    -- an attempt beside
    have s59 := ((s6.trans s7).trans s8).trans s9
    have lg2' := lg2.same s59
    obtain ⟨dq2, gs2, hq2, lf2⟩ := id lg2'
    refine ⟨_, rfl, q2, dq2, gs2, rfl, hq2, lf2.no "begin" (by decide +kernel) (by decide +kernel) (by decide +kernel), q2, hl2, da2, 1, 3, [], .int ((0 : Nat) : Int), [], rfl, lg2', s59 _ _ h2, by decide, s59 _ _ d2', by decide, by decide, .inr ⟨0, rfl, by decide, .inl ⟨.inl rfl, fun H10 pa dv dw at10 hv10 hw10 npa ndv ndw b10 hda10 => nm_of ?_⟩⟩⟩
    dsimp only
    obtain ⟨dxa, fsa, hpa10, afa⟩ := id at10
    obtain ⟨c0, cs', ecs⟩ : ∃ c0 cs', cs = c0 :: cs' := by
      cases cs with
      | nil => exact absurd rfl cne
      | cons x l => exact ⟨x, l, rfl⟩
    -- what stands at G9
    have s39 := s4.trans (s5.trans s59)
    have s49 := s5.trans s59
    have hcl9 := s39 _ _ hcl
    obtain ⟨dq1, gs1, hq1, lf1⟩ := id (lg1.same s49)
    have hl19 := s49 _ _ h1
    have hda19 := s49 _ _ d1'
    have khL9 := ((s7.trans s8).trans s9) _ _ khL
    have ktL9 := s9 _ _ ktL
    have hl29 := s59 _ _ h2
    have hda29 := s59 _ _ d2'
    -- none of it is da2
    have n5 : ∀ {x : Addr} {o : HO}, G9 x = some o → (∀ kvs, o ≠ .dK kvs) → x ≠ da2 := fun {x o} h1 h2 z => by
      rw [z, hda29] at h1
      exact h2 _ (Option.some.inj h1).symm
    have nda12 : da1 ≠ da2 := ne_of_none d1' nda2
    have b10' : ∀ {x : Addr} {o : HO}, G9 x = some o → x ≠ da2 → H10 x = some o := fun h n => b10 _ _ h n
    have hcl10 := b10' hcl9 (n5 hcl9 (fun _ z => by cases z))
    have hq2' := b10' hq2 (n5 hq2 (fun _ z => by cases z))
    have hl210 := b10' hl29 (n5 hl29 (fun _ z => by cases z))
    have hcl10c : H10 cL = some (.lst (V.str c0 :: cs'.map V.str)) := by rw [hcl10, ecs]; rfl
    have okc0 : CellOk c0 := C.ok c0 (by rw [ecs]; exact List.mem_cons_self ..)
    refine seq_cut (fun σ' H' => σ' = [some (.ref a), some (.ref p), some (.int (m + 1 : Nat)), some (.ref cL), some (.ref q1), some (.ref q2), some (.ref hL), some (.ref tL), some (.ref gL), some (.ref pa), none, none, none] ∧ But dv H10 H' ∧ H' dv = some (.dK (dV [(c0, -1)]))) (fun N hN => ?_) ?_
    · refine ⟨_, rfl, pa, dxa, fsa, rfl, hpa10, afa.no "read" (by decide +kernel) (by decide +kernel) (by decide +kernel) (by decide +kernel) (by decide +kernel) (by decide +kernel), _, rfl, cL, _, _, _, rfl, rfl, SqL.of hcl10c, atI_nat (j := 0) rfl, ?_⟩
      refine ⟨pa, q2, dv, dw, hl2, da2, 0, 0, 1, 3, false, .str c0, [], [], [], rfl, at10, ⟨dq2, gs2, hq2', lf2⟩, ⟨[], .inl hl210, fps_nil⟩, by decide, by decide, hv10, by decide, hw10, (fun z => by cases z), fun _ => .inl ⟨c0, rfl, okc0, (fun z => by cases z), fun _ H11 b11 hv11 => ?_⟩⟩
      exact ⟨_, rfl, rfl, _, rfl, iteN (by show (!decide (V.int (oi (lw [] 0 c0)) = V.int (-1))) = false; rw [show oi (lw [] 0 c0) = -1 from rfl]; simp) (hN _ _ ⟨rfl, b11, hv11⟩)⟩
    rintro σ11 H11 ⟨rfl, b11, hv11⟩
    refine ⟨_, rfl, _, rfl, _, rfl, _, rfl, _, rfl, (by show 5 ≤ sizeLine; decide), fun P' nP' => nm_of ?_⟩
    obtain ⟨G12, e, s12, kP'⟩ := mkO nP' (.lst [.ref q1, .ref hL, .ref tL, .ref gL, .ref cL])
    rw [e]
    clear e
    dsimp only
    -- the world at first
    let F' : Fx := ⟨q1, hl1, da1, hL, tL, gL, cL, m + 1, 3, cs⟩
    let S0 : Sx := ⟨[], List.replicate (m + 1) none, [], [], [], [], []⟩
    have k12 : ∀ {x : Addr} {o : HO}, G9 x = some o → x ≠ da2 → G12 x = some o := fun h n => s12 _ _ (b11 _ _ (b10' h n) (ne_of_none h ndv))
    have nl : ∀ {x : Addr} {xs : List V}, G9 x = some (.lst xs) → x ≠ da2 := fun h => n5 h (fun _ z => by cases z)
    have ni : ∀ {x : Addr} {fs : List (Str × V)} {dx : Addr}, G9 x = some (.ins CL dx fs) → x ≠ da2 := fun h => n5 h (fun _ z => by cases z)
    have a45 : ∀ {x : Addr} {o : HO}, H4 x = some o → H5 x = some o := fun h => s5 _ _ h
    have ndF : F'.as.Nodup := by
      have e1 : q1 ≠ hl1 := fun z => by rw [z, hl19] at hq1; cases hq1
      have e2 : q1 ≠ da1 := fun z => by rw [z, hda19] at hq1; cases hq1
      have e3 : hl1 ≠ da1 := fun z => by rw [z, hda19] at hl19; cases hl19
      obtain ⟨_, _, hq4, _⟩ := id lg1
      have f1 : ∀ {x : Addr} {o : HO}, H5 x = some o → x ≠ hL := fun h => ne_of_none h nhL
      have f2 : ∀ {x : Addr} {o : HO}, G7 x = some o → x ≠ tL := fun h => ne_of_none h ntL
      have f3 : ∀ {x : Addr} {o : HO}, G8 x = some o → x ≠ gL := fun h => ne_of_none h ngL
      have u57 : ∀ {x : Addr} {o : HO}, H5 x = some o → G7 x = some o := fun h => s7 _ _ (s6 _ _ h)
      have u58 : ∀ {x : Addr} {o : HO}, H5 x = some o → G8 x = some o := fun h => s8 _ _ (u57 h)
      have hcl5 := s5 _ _ (s4 _ _ hcl)
      have q5 := s5 _ _ hq4
      have hl5 := s5 _ _ h1
      have da5 := s5 _ _ d1'
      simp only [F', Fx.as, List.nodup_cons, List.mem_cons, List.not_mem_nil, or_false, not_or, List.nodup_nil, and_true, not_false_eq_true]
      exact ⟨⟨e1, e2, f1 q5, f2 (u57 q5), f3 (u58 q5), (ne_of_none hcl nq1).symm⟩, ⟨e3, f1 hl5, f2 (u57 hl5), f3 (u58 hl5), (ne_of_none hcl nhl1).symm⟩, ⟨f1 da5, f2 (u57 da5), f3 (u58 da5), (ne_of_none hcl nda1).symm⟩, ⟨f2 (s7 _ _ khL), f3 (s8 _ _ (s7 _ _ khL)), (f1 hcl5).symm⟩, ⟨f3 ktL, (f2 (u57 hcl5)).symm⟩, (f3 (u58 hcl5)).symm⟩
    have W12 : Wd CL CA F' S0 G12 := by
      refine ⟨⟨dq1, gs1, k12 hq1 (ni hq1), lf1⟩, k12 hl19 (nl hl19), fps_nil, k12 khL9 (nl khL9), fps_nil, k12 hda19 nda12, ?_, k12 kgL (nl kgL), k12 hcl9 (nl hcl9), fun i r h => by simp [S0] at h, ndF, fun i r h => by simp [S0] at h, fun i j r s h => by simp [S0] at h⟩
      have : (List.replicate (m + 1) (none : Option Nat)).map (tV []) = List.replicate (m + 1) V.non := by rw [List.map_replicate]; rfl
      show G12 tL = some (.lst ((List.replicate (m + 1) (none : Option Nat)).map (tV [])))
      rw [this]
      exact k12 ktL9 (nl ktL9)
    have L12 : Lo F' S0 0 := by
      refine ⟨(by show 1 ≤ m + 1; omega), n8, C, cne, List.length_replicate, fun l i h => ?_, (fun i h => by cases h), fun l hl => .inl ⟨?_, rfl⟩, fun i h => absurd h (Nat.not_lt_zero _), fun i h => absurd h (Nat.not_lt_zero _), fun i h => absurd h (Nat.not_lt_zero _), (fun i r h => by simp [S0] at h), Nat.le_refl _, Nat.le_refl _, Nat.le_refl _⟩
      · have h : (List.replicate (m + 1) (none : Option Nat))[l]? = some (some i) := h
        rw [List.getElem?_replicate] at h
        split at h <;> cases h
      · show (List.replicate (m + 1) (none : Option Nat))[l]? = some none
        rw [List.getElem?_replicate, if_pos hl]
    -- what stands beside it
    have apS : ∀ {x : Addr}, x ∉ F'.as → Apt F' S0 x := fun h => ⟨h, fun i r h => by simp [S0] at h⟩
    have inF : ∀ {x : Addr}, x ∈ F'.as → ∃ o, G9 x = some o := fun {x} h => by
      simp only [F', Fx.as, List.mem_cons, List.not_mem_nil, or_false] at h
      rcases h with rfl | rfl | rfl | rfl | rfl | rfl | rfl
      · exact ⟨_, hq1⟩
      · exact ⟨_, hl19⟩
      · exact ⟨_, hda19⟩
      · exact ⟨_, khL9⟩
      · exact ⟨_, ktL9⟩
      · exact ⟨_, kgL⟩
      · exact ⟨_, hcl9⟩
    have apN : ∀ {x : Addr}, G9 x = none → Apt F' S0 x := fun {x} h => apS fun m => by
      obtain ⟨o, e⟩ := inF m
      rw [h] at e
      cases e
    have late : ∀ {x : Addr} {o : HO}, H5 x = some o → H4 x = none → Apt F' S0 x := fun {x o} h5 h4 => apS fun m => by
      obtain ⟨_, _, hq4, _⟩ := id lg1
      simp only [F', Fx.as, List.mem_cons, List.not_mem_nil, or_false] at m
      rcases m with rfl | rfl | rfl | rfl | rfl | rfl | rfl
      · rw [h4] at hq4; cases hq4
      · rw [h4] at h1; cases h1
      · rw [h4] at d1'; cases d1'
      · rw [nhL] at h5; cases h5
      · rw [s7.free ntL |> s6.free] at h5; cases h5
      · rw [s6.free (s7.free (s8.free ngL))] at h5; cases h5
      · have := s4 _ _ hcl; rw [h4] at this; cases this
    obtain ⟨_, _, hq25, _⟩ := id lg2
    have apq2 := late hq25 nq2
    have aphl2 := late h2 nhl2
    have apda2 := late d2' nda2
    have appa := apN npa
    have apdv := apN ndv
    have apdw := apN ndw
    have G9n : ∀ {x : Addr} {o : HO}, H x = some o → H4 x = some o → True := fun _ _ => trivial
    have nP9 : G9 P' = none := by
      cases e : G9 P' with
      | none => rfl
      | some o =>
        by_cases c : P' = da2
        · have := b11 _ _ hda10 (ne_of_none hda29 ndv)
          rw [← c, nP'] at this
          cases this
        · have := b11 _ _ (b10' e c) (ne_of_none e ndv)
          rw [nP'] at this
          cases this
    have apP := apN nP9
    -- the script
    have scr : ∀ o, H a = some o → G12 a = some o ∧ Apt F' S0 a := fun o e => by
      have e1 := s1 _ _ e
      have e2 := b2 _ _ e1 (ne_of_none e np)
      have e3 := b3 _ _ e2 (ne_of_none e np)
      have e4 := s4 _ _ e3
      have e9 := s49 _ _ e4
      refine ⟨k12 e9 (ne_of_none e4 nda2), apS ?_⟩
      simp only [F', Fx.as, List.mem_cons, List.not_mem_nil, or_false, not_or]
      exact ⟨ne_of_none e3 nq1, ne_of_none e3 nhl1, ne_of_none e3 nda1, ne_of_none (s5 _ _ e4) nhL, ne_of_none (s7 _ _ (s6 _ _ (s5 _ _ e4))) ntL, ne_of_none (s8 _ _ (s7 _ _ (s6 _ _ (s5 _ _ e4)))) ngL, ne_of_none e2 ncl⟩
    have scrL : ∀ {S' : Sx} {H' : Hp}, Fra F' S0 G12 S' H' → SqL K H' a (ns.map V.int) := fun fr => sqL_keep hS _ fun o e n => by
      obtain ⟨e1, e2⟩ := scr o e
      exact (fr a o e1 n e2).1
    -- the pot
    have hp9 : PotAt G9 p := hp3.same s39
    have npd : p ≠ da2 := by
      obtain ⟨_, _, e, _⟩ := hp3
      exact ne_of_none (s4 _ _ e) nda2
    have hp12 : PotAt G12 p := by
      obtain ⟨x, y, e, z⟩ := hp9
      exact ⟨x, y, k12 e npd, z⟩
    have app0 : Apt F' S0 p := apS fun m => by
      obtain ⟨x, y, e3, z⟩ := hp3
      have e4 := s4 _ _ e3
      simp only [F', Fx.as, List.mem_cons, List.not_mem_nil, or_false] at m
      rcases m with e | e | e | e | e | e | e
      · exact ne_of_none e3 nq1 e
      · exact ne_of_none e3 nhl1 e
      · exact ne_of_none e3 nda1 e
      · exact ne_of_none (s5 _ _ e4) nhL e
      · exact ne_of_none (s7 _ _ (s6 _ _ (s5 _ _ e4))) ntL e
      · exact ne_of_none (s8 _ _ (s7 _ _ (s6 _ _ (s5 _ _ e4)))) ngL e
      · exact ncp e.symm
    -- the tables
    have tb2 : LamX.Tabs Tb H2 := tabs_pot (tabs_same tb s1) hp b2
    have tb3 : LamX.Tabs Tb H3 := tabs_pot tb2 hp2 b3
    have tb10 : LamX.Tabs Tb H10 := tabs_bx (tabs_same tb3 s39) (.but b10 (List.mem_singleton.mpr rfl)) (.cons hda29 .d .nil)
    have tb12 : LamX.Tabs Tb G12 := tabs_same (tabs_bx tb10 (.but b11 (List.mem_singleton.mpr rfl)) (.cons hv10 .d .nil)) s12
    -- beside
    have q212 := s12 _ _ (b11 _ _ hq2' (ne_of_none hq2 ndv))
    have hl212 := k12 hl29 (nl hl29)
    have pa12 := s12 _ _ (b11 _ _ hpa10 (fun z => by rw [z, hv10] at hpa10; cases hpa10))
    have dv12 := s12 _ _ hv11
    have dw12 := s12 _ _ (b11 _ _ hw10 (Ne.symm afa.vw))
    -- all turns
    refine seq_cut (fun σ' H' => ∃ (S' : Sx) (p' : Addr) (u : Option V), σ' = [some (.ref a), some (.ref p'), some (.int (m + 1 : Nat)), some (.ref cL), some (.ref q1), some (.ref q2), some (.ref hL), some (.ref tL), some (.ref gL), some (.ref pa), some (.ref P'), u, none] ∧ Wd CL CA F' S' H' ∧ Lo F' S' 70 ∧ LamX.Tabs Tb H' ∧ PotAt H' p' ∧ Apt F' S' p' ∧ Fra F' S0 G12 S' H') (fun N hN => ?_) ?_
    · refine ⟨_, rfl, a, _, rfl, .inl (scrL .refl), _, _, rfl, _, _, rfl, _, _, rfl, ?_, ?_⟩
      · rw [List.length_map]
        refine ⟨by decide, by decide, ?_, ?_⟩ <;> (repeat' split) <;> omega
      rw [List.length_map]
      obtain ⟨B, eB, lB⟩ : ∃ B : Int, (if (if (ns.length : Int) < 80 then (ns.length : Int) else 80) > 24 then (if (ns.length : Int) < 80 then (ns.length : Int) else 80) else 24) = B ∧ B ≤ 63 := ⟨_, rfl, by (repeat' split) <;> omega⟩
      rw [eB]
      have lN : (B - 1).toNat ≤ 62 := by omega
      refine for_it (walk_range (lo := 1) (n := (B - 1).toNat)) (fun i σ' H' => ∃ (S' : Sx) (p' : Addr) (u : Option V), σ' = [some (.ref a), some (.ref p'), some (.int (m + 1 : Nat)), some (.ref cL), some (.ref q1), some (.ref q2), some (.ref hL), some (.ref tL), some (.ref gL), some (.ref pa), some (.ref P'), u, none] ∧ Wd CL CA F' S' H' ∧ Lo F' S' i ∧ LamX.Tabs Tb H' ∧ PotAt H' p' ∧ Apt F' S' p' ∧ Fra F' S0 G12 S' H') ⟨S0, p, none, rfl, W12, L12, tb12, hp12, app0, .refl⟩ (fun _ _ _ _ _ => trivial) ?_ ?_
      · rintro i x σ H' H'' hi ⟨S', p', u, rfl, W', L', tb', hp', ap', fr'⟩ ⟨rfl, rfl⟩
        have ei : (1 : Int) + (i : Nat) = ((1 + i : Nat) : Int) := by omega
        refine nm_of ?_
        dsimp only
        rw [ei]
        refine ⟨_, rfl, _, rfl, a, ns, 1 + i, rfl, scrL fr', hl, by omega, fun H13 pk s13 npk hpk => nm_of ?_⟩
        dsimp only
        have fr13 := fr'.same s13
        have nPk : P' ≠ pk := ne_of_none (fr' P' _ kP' (fun _ z => by cases z) apP).1 npk
        refine ⟨_, rfl, _, rfl, pk, P', F', S', i, rfl, (fr13 P' _ kP' (fun _ z => by cases z) apP).1, nPk, hpk, W'.apt npk, W'.same s13, L', by omega, tabs_same tb' s13, fun H14 S14 W14 L14 tb14 nx14 hp14 ap14 => ⟨_, rfl, iteF ?_⟩⟩
        have fr14 : Fra F' S0 G12 S14 H14 := fr'.nxt npk s13 nx14
        refine ⟨_, rfl, _, rfl, _, rfl, _, rfl, F', S14, i + 1, rfl, W14, L14, by omega, fun H15 s15 => ⟨_, rfl, iteF ?_⟩⟩
        have fr15 := fr14.same s15
        have q15 := (fr15 q2 _ q212 (fun _ z => by cases z) apq2).1
        have h15 := (fr15 hl2 _ hl212 (fun _ z => by cases z) aphl2).1
        refine ⟨_, rfl, q2, dq2, gs2, rfl, q15, q2, hl2, da2, 1, 3, [], rfl, ⟨dq2, gs2, q15, lf2⟩, h15, 0, rfl, by decide, rfl, _, rfl, iteN (by simp) ?_⟩
        refine ⟨_, rfl, _, rfl, F', S14, i + 1, rfl, W14.same s15, L14, by omega, fun H16 s16 => ⟨_, rfl, iteF ?_⟩⟩
        exact ⟨S14, pk, _, rfl, (W14.same s15).same s16, L14, tabs_same (tabs_same tb14 s15) s16, (hp14.same s15).same s16, ap14, fr15.same s16⟩
      · rintro σ H' ⟨S', p', u, rfl, W', L', tb', hp', ap', fr'⟩
        exact hN _ _ ⟨S', p', u, rfl, W', L'.le (by omega), tb', hp', ap', fr'⟩
    rintro σ17 H17 ⟨S', p', u, rfl, W', L', tb', hp', ap', fr'⟩
    -- no number of lanes
    have q17 := (fr' q2 _ q212 (fun _ z => by cases z) apq2).1
    have h17 := (fr' hl2 _ hl212 (fun _ z => by cases z) aphl2).1
    have pa17 := (fr' pa _ pa12 (fun _ z => by cases z) appa).1
    have dv17 := (fr' dv _ dv12 (fun _ z => by cases z) apdv).1
    have dw17 := (fr' dw _ dw12 (fun _ z => by cases z) apdw).1
    have aq := (fr' q2 _ q212 (fun _ z => by cases z) apq2).2
    have ah := (fr' hl2 _ hl212 (fun _ z => by cases z) aphl2).2
    have ap_a := (fr' pa _ pa12 (fun _ z => by cases z) appa).2
    refine ⟨_, rfl, _, rfl, _, _, rfl, rfl, ⟨by decide, by decide, by decide⟩, (by show 7 ≤ sizeLine; decide), fun y1 ny1 => ?_⟩
    obtain ⟨G18, e, s18, k18⟩ := mkO ny1 (.lst [.int 0, .int 9, .int (-1), .bl true, .non, .str "2", .int (10 ^ (9 : Int).toNat)])
    rw [e]
    clear e
    have hp18 := hp'.same s18
    refine ⟨p', _, rfl, hp18, .inl ⟨y1, _, rfl, k18, by simp, by simp, hp'.ne ny1, fun H19 v b19 hp19 hv => nm_of ?_⟩⟩
    dsimp only
    have odd : ∀ H', BadCnt K H' v ∧ ∃ d, Tld K H' v d := fun H' => by
      simp only [List.mem_cons, List.mem_nil_iff, or_false] at hv
      rcases hv with rfl | rfl | rfl | rfl | rfl | rfl | rfl
      · exact ⟨.inr ⟨_, rfl, by decide, by decide⟩, _, tld_int (by decide)⟩
      · exact ⟨.inr ⟨_, rfl, by decide, by decide⟩, _, tld_int (by decide)⟩
      · exact ⟨.inl (numF (by decide)), _, tld_int (by decide)⟩
      · exact ⟨.inl (.bl _), _, tld_bl _⟩
      · exact ⟨.inl (.no (noK_non kNoneI)), _, tld_non⟩
      · exact ⟨.inl (.no (noK_str kStrI _)), _, tld_str (by decide +kernel) (by decide +kernel)⟩
      · exact ⟨.inr ⟨_, rfl, by decide, by decide⟩, _, tld_int (by decide)⟩
    clear hv k18
    have W19 : Wd CL CA F' S' H19 := (W'.same s18).but hp18 b19 ap'
    have tb19 : LamX.Tabs Tb H19 := tabs_pot (tabs_same tb' s18) hp18 b19
    have n19 : ∀ {x : Addr} {o : HO}, H17 x = some o → (∀ i j : Int, o ≠ .lst [.int i, .int j]) → H19 x = some o := fun {x o} e n => b19 _ _ (s18 _ _ e) fun z => by
      obtain ⟨i, j, ep, _⟩ := hp'
      rw [z, ep] at e
      exact n i j (Option.some.inj e).symm
    have q19 := n19 q17 (fun _ _ z => by cases z)
    have h19 := n19 h17 (fun _ _ z => by cases z)
    have pa19 := n19 pa17 (fun _ _ z => by cases z)
    have dv19 := n19 dv17 (fun _ _ z => by cases z)
    have dw19 := n19 dw17 (fun _ _ z => by cases z)
    refine seq_cut (fun σ' H' => σ' = [some (.ref a), some (.ref p'), some (.int (m + 1 : Nat)), some (.ref cL), some (.ref q1), some (.ref q2), some (.ref hL), some (.ref tL), some (.ref gL), some (.ref pa), some (.ref P'), u, some v] ∧ LamX.ExtN H19 H' ∧ LamX.Tabs Tb H') (fun N hN => ?_) ?_
    · refine ⟨tb19, fun H20 eN tb20 R hR t0 n0 => ?_⟩
      obtain ⟨G21, e, s21, k21⟩ := mkO n0 (.tup [.str "told", .non])
      rw [e]
      clear e
      obtain ⟨bad, dd, tl⟩ := odd G21
      refine ⟨_, rfl, v, rfl, .inr ⟨bad, er_told tl (.inr (.inl ⟨rfl, rfl, rfl⟩)) fun G22 t s22 nt ht => ?_⟩⟩
      refine ⟨_, rfl, v, dd, rfl, tl.2 _ (.of s22), (by show 3 ≤ sizeLine; decide), fun t' nt' => ?_⟩
      have s23 := s22.trans (same_upd (o := trp "count" dd.shown) nt')
      refine rf3_n (same_upd nt' _ _ ht) upd_same (show PyData.strOk "count" = true by decide +kernel) tl.1 ⟨_, rfl, iteF ?_⟩
      exact hN _ _ ⟨rfl, (eN.trans (.of s21)).trans (.of s23), tabs_same (tabs_same tb20 s21) s23⟩
    rintro σ24 H24 ⟨rfl, e24, tb24⟩
    have W24 := W19.ext e24
    have q24 := e24 _ _ q19 (fun _ z => by cases z)
    have h24 := e24 _ _ h19 (fun _ z => by cases z)
    have pa24 := e24 _ _ pa19 (fun _ z => by cases z)
    have dv24 := e24 _ _ dv19 (fun _ z => by cases z)
    have dw24 := e24 _ _ dw19 (fun _ z => by cases z)
    -- the attempt beside ends
    have nqp : q2 ≠ pa := fun z => by
      rw [z] at hq2
      rw [npa] at hq2
      cases hq2
    have nst : ∀ c, c ∈ ([(c0, -1)] : List (Str × Int)).map (·.1) → ¬ Stl [] [(c0, -1)] c := fun c hc z => by
      have ec : c = c0 := List.mem_singleton.mp hc
      subst ec
      refine z ?_
      unfold dGet
      rw [List.find?_cons, decide_eq_true rfl]
      rfl
    refine seq_cut (fun σ' H' => σ' = [some (.ref a), some (.ref p'), some (.int (m + 1 : Nat)), some (.ref cL), some (.ref q1), some (.ref q2), some (.ref hL), some (.ref tL), some (.ref gL), some (.ref pa), some (.ref P'), u, some v] ∧ Bs [pa, hl2] H24 H') (fun N hN => ?_) ?_
    · refine ⟨_, rfl, pa, dxa, fsa, rfl, pa24, afa.no "end" (by decide +kernel) (by decide +kernel) (by decide +kernel) (by decide +kernel) (by decide +kernel) (by decide +kernel), ?_⟩
      refine ⟨pa, q2, dv, dw, hl2, da2, 0, 0, 1, 3, false, [], [], [(c0, -1)], [], rfl, ⟨dxa, fsa, pa24, afa⟩, ⟨dq2, gs2, q24, lf2⟩, nqp, h24, fps_nil, by decide, dv24, (by show 1 < 64; decide), (fun c hc => by rw [List.mem_singleton.mp hc]; exact okc0), dw24, by decide, (fun z => by cases z), (fun _ H' _ _ c hc st _ => absurd st (nst c hc)), fun _ _ H25 tt t1 t2 ys zs b25 at25 g1 g2 g3 g4 pm1 sr1 pm2 sr2 => ?_⟩
      have ey : ys = [c0] := List.perm_singleton.mp pm1
      have ez : zs = [] := List.perm_nil.mp pm2
      subst ey ez
      refine ⟨rfl, _, rfl, iteN (by simp) ?_⟩
      have nq5 : q2 ≠ hl2 := fun z => by
        rw [z, h24] at q24
        cases q24
      have q25 := b25 _ _ q24 nqp nq5
      have B25 : Bs [pa, hl2] H24 H25 := .but2 b25 (by simp) (by simp)
      refine ⟨_, rfl, q2, dq2, gs2, rfl, q25, lf2.no "history" (by decide +kernel) (by decide +kernel) (by decide +kernel), q2, hl2, da2, 1, 3, _, rfl, ⟨dq2, gs2, q25, lf2⟩, g1, fun H26 l26 s26 nl26 kl26 => ?_⟩
      have B26 := B25.trans (Bs.same (S := [pa, hl2]) s26)
      have W26 : Wd CL CA F' S' H26 := W24.bs B26 (.cons pa24 .i (.cons h24 .l .nil)) (fun x hx => by
        rcases List.mem_cons.mp hx with e | hx
        · rw [e]; exact ap_a
        · rw [List.mem_singleton.mp hx]; exact ah)
      have hc26 : H26 cL = some (.lst (V.str c0 :: cs'.map V.str)) := by
        have := W26.cl
        rw [show F'.cs = c0 :: cs' from ecs] at this
        exact this
      refine ⟨_, rfl, cL, _, _, _, rfl, rfl, SqL.of hc26, atI_nat (j := 0) rfl, (by show 1 ≤ sizeLine; decide), fun w1 nw1 => ?_⟩
      obtain ⟨G27, e, s27, k27⟩ := mkO nw1 (.tup [.str c0])
      rw [e]
      clear e
      refine ⟨(by show 0 ≤ sizeLine; decide), fun w2 nw2 => ?_⟩
      obtain ⟨G28, e, s28, k28⟩ := mkO nw2 (.tup [])
      rw [e]
      clear e
      refine ⟨(by show 3 ≤ sizeLine; decide), fun w3 nw3 => ?_⟩
      obtain ⟨G29, e, s29, k29⟩ := mkO nw3 (.tup [.int 0, .ref w1, .ref w2])
      rw [e]
      clear e
      refine ⟨(by show 1 ≤ sizeLine; decide), fun w4 nw4 => ?_⟩
      obtain ⟨G30, e, s30, k30⟩ := mkO nw4 (.lst [.ref w3])
      rw [e]
      clear e
      let f1 : Fp := ⟨0, [c0], []⟩
      have s2630 := ((s27.trans s28).trans s29).trans s30
      have fA : Fps H26 [.ref tt] [f1] := (fps_nil.app ⟨tt, t1, t2, rfl, g2, g3, g4⟩ : Fps H25 ([] ++ [.ref tt]) ([] ++ [f1])).same s26
      have fB : Fps G30 [.ref w3] [f1] := (fps_nil.app ⟨w3, w1, w2, rfl, s30 _ _ k29, (s28.trans (s29.trans s30)) _ _ k27, (s29.trans s30) _ _ k28⟩ : Fps G30 ([] ++ [.ref w3]) ([] ++ [f1]))
      have okh : HsOk [f1] := ⟨fun i hi => by
        have : i = 0 := by simp at hi; omega
        subst this
        exact ⟨by show 0 < 8; decide, ⟨(fun c hc => by rw [List.mem_singleton.mp hc]; exact okc0), List.pairwise_singleton _ _, (by show 1 ≤ 5; decide)⟩, ⟨(fun c hc => by cases hc), .nil, Nat.zero_le _⟩⟩, by show 1 ≤ 100; decide, [], Nat.zero_le _, fun i hi c hc => by
        have : i = 0 := by simp at hi; omega
        subst this
        cases hc⟩
      refine ne_pd (hs_dp (s2630 _ _ kl26) (fA.same s2630)) (hs_dp k30 fB) (hs_pn okh) (hs_pn okh) fun bb hbb => ⟨_, rfl, ?_⟩
      rw [hbb.mpr rfl]
      exact iteF (hN _ _ ⟨rfl, B26.trans (.same s2630)⟩)
    rintro σ31 H31 ⟨rfl, B31⟩
    have W31 : Wd CL CA F' S' H31 := W24.bs B31 (.cons pa24 .i (.cons h24 .l .nil)) (fun x hx => by
      rcases List.mem_cons.mp hx with e | hx
      · rw [e]; exact ap_a
      · rw [List.mem_singleton.mp hx]; exact ah)
    refine ⟨_, rfl, _, rfl, _, rfl, F', S', 70, rfl, W31, L', by decide, fun H32 s32 => ⟨true, rfl, iteT ?_⟩⟩
    exact ⟨_, rfl, m + 1, rfl, by omega, n8, fun H33 _ => q _⟩
end
end K71

set_option Elab.async false
set_option linter.all false
set_option maxRecDepth 100000
set_option maxHeartbeats 2000000
/-! L71s: the error classes. -/
namespace K71
open PySem PySem.Spec PyProof.Rows L2 LL ORD
structure Tv (K : PySem.W.Frag) (mg : Str → Option Value) : Prop where
  n_LookupError : mg "LookupError" = none
  n_RuntimeError : mg "RuntimeError" = none
  vL : PySem.W.findCls K (.type "LookupError") (.type "type") "__init__" = some (.val (.builtin "LookupError.__init__"))
  vR : PySem.W.findCls K (.type "RuntimeError") (.type "type") "__init__" = some (.val (.builtin "RuntimeError.__init__"))
abbrev tL : List Value := [.type "LookupError", .type "Exception", .type "BaseException", .type "object"]
abbrev tR : List Value := [.type "RuntimeError", .type "Exception", .type "BaseException", .type "object"]
section
variable {P : Program} {w : World} {K : PySem.W.Frag} {mg : Str → Option Value} {base : Heap} {CE CH CO CI CN CB CV CS CL CA : Addr} {f : Addr} {fd : FuncData}
theorem ok_icell (T : Tx K mg CE CH CO) (O : OexC K CI) (nf : PySem.W.findIn K (.ref CI) "value" = some none) (F : FD K "__init__" "InvalidCell.__init__" s_InvalidCellinit [] f fd) : FnOk P w K mg base CX0 1 f fd ["self", "value"] (spXI CI "value") := by
  refine F.ok sc_InvalidCellinit (fun vs H Q E h => ?_) (fun cdv A outer s H vs Q E hr h => ?_)
  · obtain ⟨a, v, rfl, _⟩ := h
    rfl
  · obtain ⟨a, v, rfl, ha, q⟩ := h
    refine ⟨_, PSs.nox (pss_cons (ps_expr (pe_leinit T.le (by rfl) T.g_LeastlogError (pa_cons (pv 0) (pa_cons pe_str pa_nil)))) (pss_one (ps_ost (pv 0) (pv 1)))), ?_⟩
    refine ⟨_, rfl, a, CI, _, rfl, (by show 1 ≤ 1000; decide), O, ha, _, rfl, _, rfl, a, CI, rfl, O, nf, .inl ⟨ha, fun dx hd ne => q dx hd ne⟩⟩
theorem ok_xln (T : Tv K mg) (O : OexB K CN "LookupError.__new__" tL) (nf : PySem.W.findIn K (.ref CN) "value" = some none) (F : FD K "__init__" "UnknownLane.__init__" s_UnknownLaneinit [] f fd) : FnOk P w K mg base CX0 1 f fd ["self", "value"] (spXB CN ["value"]) := by
  refine F.ok sc_UnknownLaneinit (fun vs H Q E h => ?_) (fun cdv A outer s H vs Q E hr h => ?_)
  · obtain ⟨a, us, rfl, e, _⟩ := h
    rw [List.length_cons, e]
    rfl
  · obtain ⟨a, us, rfl, e, ha, q⟩ := h
    match us, e with
    | [v], _ =>
    refine ⟨_, PSs.nox (pss_cons (ps_expr (pe_beinit bas_L T.n_LookupError T.vL (pa_cons (pv 0) (pa_cons pe_str pa_nil)))) (pss_one (ps_ostB bas_L (pv 0) (pv 1)))), ?_⟩
    refine ⟨_, rfl, a, CN, _, rfl, (by show 1 ≤ 1000; decide), O, ha, _, rfl, _, rfl, a, CN, rfl, O, nf, .inl ⟨ha, fun dx hd ne => q dx hd ne⟩⟩
theorem ok_xbusy (T : Tv K mg) (O : OexB K CB "RuntimeError.__new__" tR) (nf : PySem.W.findIn K (.ref CB) "lane_number" = some none) (F : FD K "__init__" "LaneBusy.__init__" s_LaneBusyinit [] f fd) : FnOk P w K mg base CX0 1 f fd ["self", "lane_number"] (spXB CB ["lane_number"]) := by
  refine F.ok sc_LaneBusyinit (fun vs H Q E h => ?_) (fun cdv A outer s H vs Q E hr h => ?_)
  · obtain ⟨a, us, rfl, e, _⟩ := h
    rw [List.length_cons, e]
    rfl
  · obtain ⟨a, us, rfl, e, ha, q⟩ := h
    match us, e with
    | [v], _ =>
    refine ⟨_, PSs.nox (pss_cons (ps_expr (pe_beinit bas_R T.n_RuntimeError T.vR (pa_cons (pv 0) (pa_cons pe_str pa_nil)))) (pss_one (ps_ostB bas_R (pv 0) (pv 1)))), ?_⟩
    refine ⟨_, rfl, a, CB, _, rfl, (by show 1 ≤ 1000; decide), O, ha, _, rfl, _, rfl, a, CB, rfl, O, nf, .inl ⟨ha, fun dx hd ne => q dx hd ne⟩⟩
theorem ok_xstale (T : Tv K mg) (O : OexB K CS "RuntimeError.__new__" tR) (nf : PySem.W.findIn K (.ref CS) "cell" = some none) (F : FD K "__init__" "Stale.__init__" s_Staleinit [] f fd) : FnOk P w K mg base CX0 1 f fd ["self", "cell"] (spXB CS ["cell"]) := by
  refine F.ok sc_Staleinit (fun vs H Q E h => ?_) (fun cdv A outer s H vs Q E hr h => ?_)
  · obtain ⟨a, us, rfl, e, _⟩ := h
    rw [List.length_cons, e]
    rfl
  · obtain ⟨a, us, rfl, e, ha, q⟩ := h
    match us, e with
    | [v], _ =>
    refine ⟨_, PSs.nox (pss_cons (ps_expr (pe_beinit bas_R T.n_RuntimeError T.vR (pa_cons (pv 0) (pa_cons pe_str pa_nil)))) (pss_one (ps_ostB bas_R (pv 0) (pv 1)))), ?_⟩
    refine ⟨_, rfl, a, CS, _, rfl, (by show 1 ≤ 1000; decide), O, ha, _, rfl, _, rfl, a, CS, rfl, O, nf, .inl ⟨ha, fun dx hd ne => q dx hd ne⟩⟩
theorem mkL (G : Mkr P w K mg base (L2.CX P w) 4 "Ledger" CL [] (spLI K CL CO)) : Mkf P w K mg base (L2.CX P w) 4 "Ledger" (spMkL K CL CO) := by
  refine ⟨CL, [], _, G, fun vs H Q E h a dx ha hd ne => ?_⟩
  obtain ⟨v, rfl, h⟩ := h
  refine ⟨a, dx, v, rfl, upd_same, ?_⟩
  have s0 := same_new0 (CL := CL) ha hd
  rcases h with ⟨n, rfl, n1, n8, q⟩ | ⟨nt, er⟩
  · refine .inl ⟨n, rfl, n1, n8, fun H' hl da lg h1 h2 n1 n2 b => ⟨rfl, q H' a hl da lg h1 h2 ha (s0.free n1) (s0.free n2) (same_new ha hd b)⟩⟩
  · exact .inr ⟨nt.same s0, er.same s0⟩
end
/-! ### an own error class without an __init__: what is asked of it -/
def fXo (x : Str) (nI : String) (tl : List Value) : Ft := fun K => PySem.W.excIn K (He.ga K x) tl nI && (PySem.W.keepIn K (.ref (He.ga K x)) && (decide (PySem.W.subIn K (.ref (He.ga K x)) (.type "BaseException") = some true) && (decide (PySem.W.typeIn K (.ref (He.ga K x)) = some (.type "type")) &&
  (xfB K (He.ga K x) && (He.eqO (PySem.W.findIn K (.ref (He.ga K x)) "__class__") (some (some (.builtin "object.__class__"))) && (He.eqO (PySem.W.specialIn K (.builtin "object.__class__") "__get__") (some (some (.builtin "getset_descriptor.__get__"))) && (decide (PySem.W.takesIn K (.builtin "object.__class__") = some true) && decide (PySem.W.mroIn K (He.ga K x) (.type "object") = some true))))))))
theorem fXo_ok {B nI iI : String} {tl : List Value} {K : PySem.W.Frag} {mg : Str → Option Value} {x : Str} (Z : Bas B nI iI tl) (c : fXo x nI tl K = true) (hm : mg x = some (.ref (He.ga K x))) : XclO K mg x (He.ga K x) ∧ ExcC K (He.ga K x) := by
  obtain ⟨c1, c⟩ := He.ba c
  obtain ⟨c2, c⟩ := He.ba c
  obtain ⟨c3, c⟩ := He.ba c
  obtain ⟨c4, c⟩ := He.ba c
  obtain ⟨c5, c⟩ := He.ba c
  obtain ⟨c6, c⟩ := He.ba c
  obtain ⟨c7, c⟩ := He.ba c
  obtain ⟨c8, c9⟩ := He.ba c
  have xf := xfB_ok c5
  exact ⟨⟨⟨B, nI, iI, tl, Z.eb, c1⟩, hm, c2, of_decide_eq_true c3, of_decide_eq_true c4⟩, ⟨xf.ga, xf.gg, xf.exC, xf.hdC, He.eqO_ok c6, He.eqO_ok c7, of_decide_eq_true c8, of_decide_eq_true c9⟩⟩
end K71

set_option Elab.async false
set_option linter.all false
set_option maxRecDepth 100000
set_option maxHeartbeats 2000000
/-! LLBfs: the Hook over what the module's names reach, gathered level by level, the seen addresses as the bits of one number. -/
namespace LL
open PySem PySem.Spec PyProof.Rows L2
def addU {α : Type} : List Addr → Nat → List Addr → (Nat → List Addr → α) → α
  | [], m, nx, k => k m nx
  | a :: r, m, nx, k => match Nat.testBit m a with
    | true => addU r m nx k
    | false => HandSHeadRun.frNat (m ||| (1 <<< a)) fun m => addU r m (a :: nx) k
def rowU {α : Type} (g : Addr → Option Obj) : List Addr → Nat → List Addr → (Nat → List Addr → α) → α
  | [], m, nx, k => k m nx
  | a :: r, m, nx, k => match g a with
    | some o => addU (He.refsD o) m nx fun m nx => rowU g r m nx k
    | none => rowU g r m nx k
def asU (g : Addr → Option Obj) : Nat → List Addr → Nat → List Addr
  | 0, fr, _ => fr
  | n + 1, fr, m => fr ++ rowU g fr m [] fun m nx => asU g n nx m
/-- what the module's names reach in n steps, and the statics -/
def frU (n : Nat) (g : Addr → Option Obj) : PySem.W.Frag := He.frT g (addU [mainGlobals, PySem.cStatics] 0 [] fun m l => asU g n l m)
def obsUG (n : Nat) (ft : List Ft) (fn : List DefX) (tf : List (PySem.W.Frag → Addr)) (g : Addr → Option Obj) : AlT := (obsY ft fn (frU n g), tabY g tf (frU n g))
theorem saysU_of {n : Nat} {ft : List Ft} {fn : List DefX} {tf : List (PySem.W.Frag → Addr)} {h : Heap} (e : obsUG n ft fn tf h.get? = (valY fn, true)) : SaysT ft fn tf h (frU n h.get?) := by
  have e1 : obsY ft fn (frU n h.get?) = valY fn := congrArg Prod.fst e
  have e2 : tabY h.get? tf (frU n h.get?) = true := congrArg Prod.snd e
  have key : ∀ a ∈ tf, PySem.W.codeHdIn (frU n h.get?) (cOf (frU n h.get?) (a (frU n h.get?))) (tOf (frU n h.get?) (a (frU n h.get?))) = true ∧ ∃ o, h.get? (tOf (frU n h.get?) (a (frU n h.get?))) = some o ∧ He.emptyTab o = true := fun a ha => by
    obtain ⟨h1, h2⟩ := He.ba (List.all_eq_true.mp e2 a ha)
    cases q : h.get? (tOf (frU n h.get?) (a (frU n h.get?))) with
    | none =>
      rw [q] at h2
      cases h2
    | some o =>
      rw [q] at h2
      exact ⟨h1, o, rfl, h2⟩
  refine ⟨e1, fun a ha => (key a ha).1, fun a ha => ?_, fun a ha => ?_⟩
  · obtain ⟨_, o, q, z⟩ := key a ha
    exact He.frT_none q z
  · obtain ⟨_, o, q, z⟩ := key a ha
    rw [q, He.emptyTab_eq z]
def hookU (n : Nat) (ft : List Ft) (fn : List DefX) (tf : List (PySem.W.Frag → Addr)) : PySem.W.Hook where
  α := AlT
  obs := fun s => obsUG n ft fn tf s.heap.get?
  val := fun _ => (valY fn, true)
  says := fun _ h => ∃ K : PySem.W.Frag, K.In h ∧ SaysT ft fn tf h K
  of := fun _ _ e => ⟨_, He.frT_in, saysU_of e⟩
  keeps := fun _ _ _ ⟨K, hK, c⟩ k => ⟨K, PySem.W.Frag.In.keeps hK k, ⟨c.y, c.hd, c.out, fun a ha => k _ _ (c.emp a ha)⟩⟩
theorem obsUG_eq {n : Nat} {ft : List Ft} {fn : List DefX} {tf : List (PySem.W.Frag → Addr)} {g : Addr → Option Obj} {s : Shared} (h : ∀ a, g a = s.heap.get? a) : obsUG n ft fn tf g = (hookU n ft fn tf).obs s := by
  cases (funext h : g = s.heap.get?)
  rfl
end LL

set_option Elab.async false
set_option linter.all false
set_option maxRecDepth 100000
set_option maxHeartbeats 0
/-! the head, the end. -/
namespace K71
open PySem PySem.Spec PyProof.Rows L2 LL
def cmA (x m : Str) : PySem.W.Frag → Addr := fun K => He5.wf K (He.ga K x) "classmethod" m
def fCm (x m : Str) : Ft := fun K => He5.wrapB K (He.ga K x) "classmethod" "classmethod.__get__" m && (PySem.W.fnIn K (cmA x m K) && (PySem.W.readsIn K (He.ga K x) (.type "type") && He.eqO (PySem.W.specialIn K (.ref (He.ga K x)) "__getattribute__") (some (some (.builtin "type.__getattribute__")))))
theorem fCm_ok {x m : Str} {K : PySem.W.Frag} (c : fCm x m K = true) : ClX.CRead K (He.ga K x) (.type "type") ∧ ClX.CMet K (He.ga K x) (.type "type") m (He.ma K (He.ga K x) m) (cmA x m K) := by
  obtain ⟨c1, c⟩ := He.ba c
  obtain ⟨c2, c⟩ := He.ba c
  obtain ⟨c3, c4⟩ := He.ba c
  exact ⟨⟨c3, He.eqO_ok c4⟩, He5.cmet_of c1 c2⟩
def d_is_number : DefX := dX (gA "is_number") "is_number" "is_number" s_is_number
def d_is_cell : DefX := dX (gA "is_cell") "is_cell" "is_cell" s_is_cell
def d_are_cells : DefX := dX (gA "are_cells") "are_cells" "are_cells" s_are_cells
def d_is_footprint : DefX := dX (gA "is_footprint") "is_footprint" "is_footprint" s_is_footprint
def d_last_writer : DefX := dX (gA "last_writer") "last_writer" "last_writer" s_last_writer
def d_check_lanes : DefX := dX (gA "check_lanes") "check_lanes" "check_lanes" s_check_lanes
def d_check_lane : DefX := dX (gA "check_lane") "check_lane" "check_lane" s_check_lane
def d_check_cell : DefX := dX (gA "check_cell") "check_cell" "check_cell" s_check_cell
def d_l_pot : DefX := dX (gA "_law_pot") "_law_pot" "_law_pot" s_l_pot
def d_l_take : DefX := dX (gA "_law_take") "_law_take" "_law_take" s_l_take
def d_l_pick : DefX := dX (gA "_law_pick") "_law_pick" "_law_pick" s_l_pick
def d_l_cells : DefX := dX (gA "_law_cells") "_law_cells" "_law_cells" s_l_cells
def d_l_told : DefX := dX (gA "_law_told") "_law_told" "_law_told" s_l_told
def d_l_newest : DefX := dX (gA "_law_newest") "_law_newest" "_law_newest" s_l_newest
def d_l_read_right : DefX := dX (gA "_law_read_right") "_law_read_right" "_law_read_right" s_l_read_right
def d_l_write_right : DefX := dX (gA "_law_write_right") "_law_write_right" "_law_write_right" s_l_write_right
def d_l_end_right : DefX := dX (gA "_law_end_right") "_law_end_right" "_law_end_right" s_l_end_right
def d_l_called : DefX := dX (gA "_law_called") "_law_called" "_law_called" s_l_called
def d_l_over_right : DefX := dX (gA "_law_over_right") "_law_over_right" "_law_over_right" s_l_over_right
def d_l_wrong_right : DefX := dX (gA "_law_wrong_right") "_law_wrong_right" "_law_wrong_right" s_l_wrong_right
def d_l_deed_right : DefX := dX (gA "_law_deed_right") "_law_deed_right" "_law_deed_right" s_l_deed_right
def d_l_state_right : DefX := dX (gA "_law_state_right") "_law_state_right" "_law_state_right" s_l_state_right
def d_l_tries_right : DefX := dX (gA "_law_tries_right") "_law_tries_right" "_law_tries_right" s_l_tries_right
def d_l_equal_right : DefX := dX (gA "_law_equal_right") "_law_equal_right" "_law_equal_right" s_l_equal_right
def d_l_clone_right : DefX := dX (gA "_law_clone_right") "_law_clone_right" "_law_clone_right" s_l_clone_right
def d_law : DefX := dX (gA "law") "law" "law" s_law
def d_InvalidHistoryinit : DefX := dX (mA "InvalidHistory" "__init__") "__init__" "InvalidHistory.__init__" s_InvalidHistoryinit
def d_InvalidCountinit : DefX := dX (mA "InvalidCount" "__init__") "__init__" "InvalidCount.__init__" s_InvalidCountinit
def d_InvalidCellinit : DefX := dX (mA "InvalidCell" "__init__") "__init__" "InvalidCell.__init__" s_InvalidCellinit
def d_UnknownLaneinit : DefX := dX (mA "UnknownLane" "__init__") "__init__" "UnknownLane.__init__" s_UnknownLaneinit
def d_LaneBusyinit : DefX := dX (mA "LaneBusy" "__init__") "__init__" "LaneBusy.__init__" s_LaneBusyinit
def d_Staleinit : DefX := dX (mA "Stale" "__init__") "__init__" "Stale.__init__" s_Staleinit
def d_Ledgerinit : DefX := dX (mA "Ledger" "__init__") "__init__" "Ledger.__init__" s_Ledgerinit
def d_Attemptinit : DefX := dX (mA "Attempt" "__init__") "__init__" "Attempt.__init__" s_Attemptinit
def d_Ledger_begin : DefX := dX (mA "Ledger" "begin") "begin" "Ledger.begin" s_Ledger_begin
def d_Ledger_newest : DefX := dX (mA "Ledger" "newest") "newest" "Ledger.newest" s_Ledger_newest
def d_Ledger_history : DefX := dX (mA "Ledger" "history") "history" "Ledger.history" s_Ledger_history
def d_Ledger_added : DefX := dX (mA "Ledger" "added") "added" "Ledger.added" s_Ledger_added
def d_Ledger_version_at : DefX := dX (mA "Ledger" "version_at") "version_at" "Ledger.version_at" s_Ledger_version_at
def d_Ledger_clone : DefX := dX (mA "Ledger" "clone") "clone" "Ledger.clone" s_Ledger_clone
def d_Attempt_check : DefX := dX (mA "Attempt" "check") "check" "Attempt.check" s_Attempt_check
def d_Attempt_read : DefX := dX (mA "Attempt" "read") "read" "Attempt.read" s_Attempt_read
def d_Attempt_write : DefX := dX (mA "Attempt" "write") "write" "Attempt.write" s_Attempt_write
def d_Attempt_end : DefX := dX (mA "Attempt" "end") "end" "Attempt.end" s_Attempt_end
def d_Attempt_drop : DefX := dX (mA "Attempt" "drop") "drop" "Attempt.drop" s_Attempt_drop
def d_Ledgerlen : DefX := dX (mA "Ledger" "__len__") "__len__" "Ledger.__len__" s_Ledgerlen
def d_Ledgereq : DefX := dX (mA "Ledger" "__eq__") "__eq__" "Ledger.__eq__" s_Ledgereq
def d_Ledger_lanes : DefX := dX (pA "Ledger" "lanes") "lanes" "Ledger.lanes" s_Ledger_lanes
def d_Attempt_lane : DefX := dX (pA "Attempt" "lane") "lane" "Attempt.lane" s_Attempt_lane
def d_Attempt_place : DefX := dX (pA "Attempt" "place") "place" "Attempt.place" s_Attempt_place
def d_Attempt_is_over : DefX := dX (pA "Attempt" "is_over") "is_over" "Attempt.is_over" s_Attempt_is_over
def d_Ledger_replayed : DefX := dX (cmA "Ledger" "replayed") "replayed" "Ledger.replayed" s_Ledger_replayed
def fn : List DefX := [d_is_number, d_is_cell, d_are_cells, d_is_footprint, d_last_writer, d_check_lanes, d_check_lane, d_check_cell, d_l_pot, d_l_take, d_l_pick, d_l_cells, d_l_told, d_l_newest, d_l_read_right, d_l_write_right, d_l_end_right, d_l_called, d_l_over_right, d_l_wrong_right, d_l_deed_right, d_l_state_right, d_l_tries_right, d_l_equal_right, d_l_clone_right, d_law, d_InvalidHistoryinit, d_InvalidCountinit, d_InvalidCellinit, d_UnknownLaneinit, d_LaneBusyinit, d_Staleinit, d_Ledgerinit, d_Attemptinit, d_Ledger_begin, d_Ledger_newest, d_Ledger_history, d_Ledger_added, d_Ledger_version_at, d_Ledger_clone, d_Attempt_check, d_Attempt_read, d_Attempt_write, d_Attempt_end, d_Attempt_drop, d_Ledgerlen, d_Ledgereq, d_Ledger_lanes, d_Attempt_lane, d_Attempt_place, d_Attempt_is_over, d_Ledger_replayed]
def t0 : Ft := fGlo "is_number"
def t1 : Ft := fGlo "is_cell"
def t2 : Ft := fGlo "are_cells"
def t3 : Ft := fGlo "is_footprint"
def t4 : Ft := fGlo "last_writer"
def t5 : Ft := fGlo "check_lanes"
def t6 : Ft := fGlo "check_lane"
def t7 : Ft := fGlo "check_cell"
def t8 : Ft := fGlo "_law_pot"
def t9 : Ft := fGlo "_law_take"
def t10 : Ft := fGlo "_law_pick"
def t11 : Ft := fGlo "_law_cells"
def t12 : Ft := fGlo "_law_told"
def t13 : Ft := fGlo "_law_newest"
def t14 : Ft := fGlo "_law_read_right"
def t15 : Ft := fGlo "_law_write_right"
def t16 : Ft := fGlo "_law_end_right"
def t17 : Ft := fGlo "_law_called"
def t18 : Ft := fGlo "_law_over_right"
def t19 : Ft := fGlo "_law_wrong_right"
def t20 : Ft := fGlo "_law_deed_right"
def t21 : Ft := fGlo "_law_state_right"
def t22 : Ft := fGlo "_law_tries_right"
def t23 : Ft := fGlo "_law_equal_right"
def t24 : Ft := fGlo "_law_clone_right"
def t25 : Ft := fGlo "law"
def t26 : Ft := fXcl "InvalidHistory" "position"
def t27 : Ft := fXcl "InvalidCount" "value"
def t28 : Ft := fXcl "InvalidCell" "value"
def t29 : Ft := fXb "UnknownLane" "LookupError.__new__" tL ["value"]
def t30 : Ft := fXb "LaneBusy" "RuntimeError.__new__" tR ["lane_number"]
def t31 : Ft := fXb "Stale" "RuntimeError.__new__" tR ["cell"]
def t32 : Ft := fBi "LookupError" "LookupError.__init__"
def t33 : Ft := fBi "RuntimeError" "RuntimeError.__init__"
def t34 : Ft := fXo "AttemptOver" "RuntimeError.__new__" tR
def t35 : Ft := fMkr "Ledger"
def t36 : Ft := fCls "Ledger"
def t37 : Ft := fMkr "Attempt"
def t38 : Ft := fCls "Attempt"
def t39 : Ft := fMeth "Ledger" "begin"
def t40 : Ft := fMeth "Ledger" "newest"
def t41 : Ft := fMeth "Ledger" "history"
def t42 : Ft := fMeth "Ledger" "added"
def t43 : Ft := fMeth "Ledger" "version_at"
def t44 : Ft := fMeth "Ledger" "clone"
def t45 : Ft := fMeth "Attempt" "check"
def t46 : Ft := fMeth "Attempt" "read"
def t47 : Ft := fMeth "Attempt" "write"
def t48 : Ft := fMeth "Attempt" "end"
def t49 : Ft := fMeth "Attempt" "drop"
def t50 : Ft := fSpec "Ledger" "__len__"
def t51 : Ft := fSpec "Ledger" "__eq__"
def t52 : Ft := fProp "Ledger" "lanes"
def t53 : Ft := fProp "Attempt" "lane"
def t54 : Ft := fProp "Attempt" "place"
def t55 : Ft := fProp "Attempt" "is_over"
def t56 : Ft := fCm "Ledger" "replayed"
def t57 : Ft := fGlo "LeastlogError"
def t58 : Ft := fGlo "InvalidHistory"
def t59 : Ft := fGlo "InvalidCount"
def t60 : Ft := fGlo "InvalidCell"
def t61 : Ft := fGlo "UnknownLane"
def t62 : Ft := fGlo "LaneBusy"
def t63 : Ft := fGlo "AttemptOver"
def t64 : Ft := fGlo "Stale"
def t65 : Ft := fGlo "Ledger"
def t66 : Ft := fGlo "Attempt"
def t67 : Ft := fLe "LeastlogError"
def t68 : Ft := fBool (fun K => PySem.W.kitOne K (.ref (He.ga K "InvalidHistory")) (.ref (He.ga K "LeastlogError"))) true
def t69 : Ft := fBool (fun K => PySem.W.kitOne K (.ref (He.ga K "InvalidCount")) (.ref (He.ga K "LeastlogError"))) true
def t70 : Ft := fBool (fun K => PySem.W.kitOne K (.ref (He.ga K "InvalidCell")) (.ref (He.ga K "LeastlogError"))) true
def t71 : Ft := fBool (fun K => PySem.W.kitOne K (.ref (He.ga K "InvalidCell")) (.type "ValueError")) true
def t72 : Ft := fBool (fun K => PySem.W.kitOne K (.ref (He.ga K "UnknownLane")) (.type "LookupError")) true
def t73 : Ft := fBool (fun K => PySem.W.kitOne K (.ref (He.ga K "LaneBusy")) (.type "RuntimeError")) true
def t74 : Ft := fBool (fun K => PySem.W.kitOne K (.ref (He.ga K "AttemptOver")) (.type "RuntimeError")) true
def t75 : Ft := fBool (fun K => PySem.W.kitOne K (.ref (He.ga K "Stale")) (.type "RuntimeError")) true
def t76 : Ft := fBool (fun K => PySem.W.exmOne K (.ref (He.ga K "InvalidHistory")) (.ref (He.ga K "InvalidHistory"))) true
def t77 : Ft := fBool (fun K => PySem.W.exmOne K (.ref (He.ga K "InvalidCount")) (.ref (He.ga K "InvalidCount"))) true
def t78 : Ft := fBool (fun K => PySem.W.exmOne K (.ref (He.ga K "InvalidCell")) (.ref (He.ga K "InvalidCell"))) true
def t79 : Ft := fBool (fun K => PySem.W.exmOne K (.ref (He.ga K "InvalidCount")) (.ref (He.ga K "InvalidCell"))) false
def t80 : Ft := fBool (fun K => PySem.W.exmOne K (.ref (He.ga K "UnknownLane")) (.ref (He.ga K "InvalidCell"))) false
def t81 : Ft := fBool (fun K => PySem.W.exmOne K (.ref (He.ga K "UnknownLane")) (.ref (He.ga K "InvalidCount"))) false
def t82 : Ft := fBool (fun K => PySem.W.exmOne K (.ref (He.ga K "UnknownLane")) (.ref (He.ga K "UnknownLane"))) true
def t83 : Ft := fBool (fun K => PySem.W.exmOne K (.ref (He.ga K "LaneBusy")) (.ref (He.ga K "InvalidCell"))) false
def t84 : Ft := fBool (fun K => PySem.W.exmOne K (.ref (He.ga K "LaneBusy")) (.ref (He.ga K "InvalidCount"))) false
def t85 : Ft := fBool (fun K => PySem.W.exmOne K (.ref (He.ga K "LaneBusy")) (.ref (He.ga K "UnknownLane"))) false
def t86 : Ft := fBool (fun K => PySem.W.exmOne K (.ref (He.ga K "LaneBusy")) (.ref (He.ga K "LaneBusy"))) true
def t87 : Ft := fBool (fun K => PySem.W.exmOne K (.ref (He.ga K "AttemptOver")) (.ref (He.ga K "InvalidCell"))) false
def t88 : Ft := fBool (fun K => PySem.W.exmOne K (.ref (He.ga K "AttemptOver")) (.ref (He.ga K "InvalidCount"))) false
def t89 : Ft := fBool (fun K => PySem.W.exmOne K (.ref (He.ga K "AttemptOver")) (.ref (He.ga K "UnknownLane"))) false
def t90 : Ft := fBool (fun K => PySem.W.exmOne K (.ref (He.ga K "AttemptOver")) (.ref (He.ga K "LaneBusy"))) false
def t91 : Ft := fBool (fun K => PySem.W.exmOne K (.ref (He.ga K "AttemptOver")) (.ref (He.ga K "AttemptOver"))) true
def t92 : Ft := fBool (fun K => PySem.W.exmOne K (.ref (He.ga K "Stale")) (.ref (He.ga K "InvalidCell"))) false
def t93 : Ft := fBool (fun K => PySem.W.exmOne K (.ref (He.ga K "Stale")) (.ref (He.ga K "InvalidCount"))) false
def t94 : Ft := fBool (fun K => PySem.W.exmOne K (.ref (He.ga K "Stale")) (.ref (He.ga K "UnknownLane"))) false
def t95 : Ft := fBool (fun K => PySem.W.exmOne K (.ref (He.ga K "Stale")) (.ref (He.ga K "LaneBusy"))) false
def t96 : Ft := fBool (fun K => PySem.W.exmOne K (.ref (He.ga K "Stale")) (.ref (He.ga K "AttemptOver"))) false
def t97 : Ft := fBool (fun K => PySem.W.exmOne K (.ref (He.ga K "Stale")) (.ref (He.ga K "Stale"))) true
def t98 : Ft := fStr "CELL_CHARACTERS" chs
def t99 : Ft := fInt "MOST_LANES" 8
def t100 : Ft := fInt "LONGEST_CELL" 32
def t101 : Ft := fInt "NO_RUN" (-1)
def t102 : Ft := fNo "Ledger" "own_lanes"
def t103 : Ft := fNo "Ledger" "own_history"
def t104 : Ft := fNo "Ledger" "own_attempts"
def t105 : Ft := fNo "Attempt" "own_ledger"
def t106 : Ft := fNo "Attempt" "own_lane"
def t107 : Ft := fNo "Attempt" "own_place"
def t108 : Ft := fNo "Attempt" "own_versions"
def t109 : Ft := fNo "Attempt" "own_written"
def t110 : Ft := fNo "Attempt" "own_end"
def t111 : Ft := fSame (fun K => PySem.W.findIn K (.ref (He.ga K "Ledger")) "__class__") (fun _ => some (some (.builtin "object.__class__")))
def t112 : Ft := fSame (fun K => PySem.W.specialIn K (.builtin "object.__class__") "__get__") (fun _ => some (some (.builtin "getset_descriptor.__get__")))
def t113 : Ft := fBool (fun K => PySem.W.takesIn K (.builtin "object.__class__")) true
def t114 : Ft := fBool (fun K => PySem.W.mroIn K (He.ga K "Ledger") (.type "object")) true
def t115 : Ft := fBool (fun K => PySem.W.kitOne K (.ref (He.ga K "Ledger")) (.ref (He.ga K "Ledger"))) true
def t116 : Ft := fBool (fun K => PySem.W.kitOne K (.type "list") (.ref (He.ga K "Ledger"))) false
def t117 : Ft := (fun K => PySem.W.notFirst K (He.ga K "Ledger") (.ref (He.ga K "Ledger")))
def t118 : Ft := (fun K => PySem.W.notFirst K (He.ga K "Ledger") (.type "list"))
def t119 : Ft := fSame (fun K => PySem.W.findIn K (.ref (He.ga K "Ledger")) "__ne__") (fun _ => some (some (.builtin "object.__ne__")))
def t120 : Ft := (fun K => decide (tOf K (gA "_law_end_right" K) ≠ tOf K (gA "_law_over_right" K)))
def t121 : Ft := (fun K => decide (tOf K (gA "_law_end_right" K) ≠ tOf K (gA "_law_wrong_right" K)))
def t122 : Ft := (fun K => decide (tOf K (gA "_law_end_right" K) ≠ tOf K (gA "law" K)))
def t123 : Ft := (fun K => decide (tOf K (gA "_law_over_right" K) ≠ tOf K (gA "_law_wrong_right" K)))
def t124 : Ft := (fun K => decide (tOf K (gA "_law_over_right" K) ≠ tOf K (gA "law" K)))
def t125 : Ft := (fun K => decide (tOf K (gA "_law_wrong_right" K) ≠ tOf K (gA "law" K)))
def t126 : Ft := fFree "isinstance"
def t127 : Ft := fFree "int"
def t128 : Ft := fFree "bool"
def t129 : Ft := fFree "abs"
def t130 : Ft := fFree "str"
def t131 : Ft := fFree "repr"
def t132 : Ft := fFree "range"
def t133 : Ft := fFree "len"
def t134 : Ft := fFree "max"
def t135 : Ft := fFree "min"
def t136 : Ft := fFree "divmod"
def t137 : Ft := fFree "all"
def t138 : Ft := fFree "list"
def t139 : Ft := fFree "tuple"
def t140 : Ft := fFree "set"
def t141 : Ft := fFree "sorted"
def t142 : Ft := fFree "zip"
def t143 : Ft := fFree "enumerate"
def t144 : Ft := fFree "LookupError"
def t145 : Ft := fFree "RuntimeError"
def t146 : Ft := fFree "ValueError"
def ft0 : List Ft := [t0, t1, t2, t3, t4, t5, t6, t7, t8, t9, t10, t11, t12, t13, t14, t15, t16, t17, t18, t19, t20, t21, t22, t23, t24, t25, t26, t27, t28, t29]
def ft1 : List Ft := [t30, t31, t32, t33, t34, t35, t36, t37, t38, t39, t40, t41, t42, t43, t44, t45, t46, t47, t48, t49, t50, t51, t52, t53, t54, t55, t56, t57, t58, t59]
def ft2 : List Ft := [t60, t61, t62, t63, t64, t65, t66, t67, t68, t69, t70, t71, t72, t73, t74, t75, t76, t77, t78, t79, t80, t81, t82, t83, t84, t85, t86, t87, t88, t89]
def ft3 : List Ft := [t90, t91, t92, t93, t94, t95, t96, t97, t98, t99, t100, t101, t102, t103, t104, t105, t106, t107, t108, t109, t110, t111, t112, t113, t114, t115, t116, t117, t118, t119]
def ft4 : List Ft := [t120, t121, t122, t123, t124, t125, t126, t127, t128, t129, t130, t131, t132, t133, t134, t135, t136, t137, t138, t139, t140, t141, t142, t143, t144, t145, t146]
def ft : List Ft := ft0 ++ ft1 ++ ft2 ++ ft3 ++ ft4
def tf : List (PySem.W.Frag → Addr) := [gA "_law_end_right", gA "_law_over_right", gA "_law_wrong_right", gA "law"]
def loose0 : List PySem.Str := ["_wall", "LeastlogError", "InvalidCell", "InvalidCount", "InvalidHistory", "UnknownLane", "LaneBusy", "AttemptOver", "Stale", "MOST_LANES", "LONGEST_CELL", "CELL_CHARACTERS", "NO_RUN", "is_number", "is_cell", "are_cells", "is_footprint", "last_writer", "check_lanes", "check_lane", "check_cell", "Ledger", "Attempt", "_law_pot", "_law_take", "_law_pick", "_law_cells", "_law_told", "_law_newest", "_law_read_right"]
def loose1 : List PySem.Str := ["_law_write_right", "_law_end_right", "_law_called", "_law_over_right", "_law_wrong_right", "_law_deed_right", "_law_state_right", "_law_tries_right", "_law_equal_right", "_law_clone_right"]
def loose : List PySem.Str := loose0 ++ loose1
abbrev R : PySem.W.OpenRow := PySem.W.OpenLaw.row PySem.Challenge.rw_leastlog_k71_attempts
abbrev hk : PySem.W.Hook := hookU 7 ft fn tf
def ob (s : PySem.W.SharedT) : LL.AlT := LL.obsUG 7 ft fn tf (HandSHeadRun.getT s)
theorem ob_eq (s : PySem.W.SharedT) : ob s = hk.obs s.abs := LL.obsUG_eq (HandSHeadRun.getT_eq s)
theorem run (w : World) : HandSHeadRun.RunEq R (PySem.W.view R.prog [45]) hk ob 8000 loose w := by
  intro os
  kernel_rfl
def csOf (K : PySem.W.Frag) : List (Addr × Addr) := tf.map fun a => (cOf K (a K), tOf K (a K))
def tbOf (K : PySem.W.Frag) : List (Addr × Str) := [(tOf K (gA "_law_end_right" K), lamE), (tOf K (gA "_law_over_right" K), lamO), (tOf K (gA "_law_wrong_right" K), lamW), (tOf K (gA "law" K), lamL)]
section
variable {P : Program} {w : World} {K : PySem.W.Frag} {h : Heap} {mg : Str → Option Value} {fa : Addr}
theorem facts (X : K.In h) (G : h.Ns mainGlobals mg) (hfa : mg ("law" : Str) = some (.ref fa)) (c : SaysY ft fn K) :
    ∃ fd : FuncData, (∀ (s : Shared) (v : Value), BindsTo s fd ⟨[v], []⟩ [("_law_script", v)]) ∧ ∀ base : Heap, K.In base → base.Ns mainGlobals mg → (∀ p ∈ csOf K, LamX.TabB base mg p.1 p.2) → FnG P w K mg base CX0 12 fa fd ["_law_script"] (spLaw K (tbOf K)) := by
  obtain ⟨fd_is_number, F_is_number⟩ := c.fn_ 0
  obtain ⟨fd_is_cell, F_is_cell⟩ := c.fn_ 1
  obtain ⟨fd_are_cells, F_are_cells⟩ := c.fn_ 2
  obtain ⟨fd_is_footprint, F_is_footprint⟩ := c.fn_ 3
  obtain ⟨fd_last_writer, F_last_writer⟩ := c.fn_ 4
  obtain ⟨fd_check_lanes, F_check_lanes⟩ := c.fn_ 5
  obtain ⟨fd_check_lane, F_check_lane⟩ := c.fn_ 6
  obtain ⟨fd_check_cell, F_check_cell⟩ := c.fn_ 7
  obtain ⟨fd_l_pot, F_l_pot⟩ := c.fn_ 8
  obtain ⟨fd_l_take, F_l_take⟩ := c.fn_ 9
  obtain ⟨fd_l_pick, F_l_pick⟩ := c.fn_ 10
  obtain ⟨fd_l_cells, F_l_cells⟩ := c.fn_ 11
  obtain ⟨fd_l_told, F_l_told⟩ := c.fn_ 12
  obtain ⟨fd_l_newest, F_l_newest⟩ := c.fn_ 13
  obtain ⟨fd_l_read_right, F_l_read_right⟩ := c.fn_ 14
  obtain ⟨fd_l_write_right, F_l_write_right⟩ := c.fn_ 15
  obtain ⟨fd_l_end_right, F_l_end_right⟩ := c.fn_ 16
  obtain ⟨fd_l_called, F_l_called⟩ := c.fn_ 17
  obtain ⟨fd_l_over_right, F_l_over_right⟩ := c.fn_ 18
  obtain ⟨fd_l_wrong_right, F_l_wrong_right⟩ := c.fn_ 19
  obtain ⟨fd_l_deed_right, F_l_deed_right⟩ := c.fn_ 20
  obtain ⟨fd_l_state_right, F_l_state_right⟩ := c.fn_ 21
  obtain ⟨fd_l_tries_right, F_l_tries_right⟩ := c.fn_ 22
  obtain ⟨fd_l_equal_right, F_l_equal_right⟩ := c.fn_ 23
  obtain ⟨fd_l_clone_right, F_l_clone_right⟩ := c.fn_ 24
  obtain ⟨fd_law, F_law⟩ := c.fn_ 25
  obtain ⟨fd_InvalidHistoryinit, F_InvalidHistoryinit⟩ := c.fn_ 26
  obtain ⟨fd_InvalidCountinit, F_InvalidCountinit⟩ := c.fn_ 27
  obtain ⟨fd_InvalidCellinit, F_InvalidCellinit⟩ := c.fn_ 28
  obtain ⟨fd_UnknownLaneinit, F_UnknownLaneinit⟩ := c.fn_ 29
  obtain ⟨fd_LaneBusyinit, F_LaneBusyinit⟩ := c.fn_ 30
  obtain ⟨fd_Staleinit, F_Staleinit⟩ := c.fn_ 31
  obtain ⟨fd_Ledgerinit, F_Ledgerinit⟩ := c.fn_ 32
  obtain ⟨fd_Attemptinit, F_Attemptinit⟩ := c.fn_ 33
  obtain ⟨fd_Ledger_begin, F_Ledger_begin⟩ := c.fn_ 34
  obtain ⟨fd_Ledger_newest, F_Ledger_newest⟩ := c.fn_ 35
  obtain ⟨fd_Ledger_history, F_Ledger_history⟩ := c.fn_ 36
  obtain ⟨fd_Ledger_added, F_Ledger_added⟩ := c.fn_ 37
  obtain ⟨fd_Ledger_version_at, F_Ledger_version_at⟩ := c.fn_ 38
  obtain ⟨fd_Ledger_clone, F_Ledger_clone⟩ := c.fn_ 39
  obtain ⟨fd_Attempt_check, F_Attempt_check⟩ := c.fn_ 40
  obtain ⟨fd_Attempt_read, F_Attempt_read⟩ := c.fn_ 41
  obtain ⟨fd_Attempt_write, F_Attempt_write⟩ := c.fn_ 42
  obtain ⟨fd_Attempt_end, F_Attempt_end⟩ := c.fn_ 43
  obtain ⟨fd_Attempt_drop, F_Attempt_drop⟩ := c.fn_ 44
  obtain ⟨fd_Ledgerlen, F_Ledgerlen⟩ := c.fn_ 45
  obtain ⟨fd_Ledgereq, F_Ledgereq⟩ := c.fn_ 46
  obtain ⟨fd_Ledger_lanes, F_Ledger_lanes⟩ := c.fn_ 47
  obtain ⟨fd_Attempt_lane, F_Attempt_lane⟩ := c.fn_ 48
  obtain ⟨fd_Attempt_place, F_Attempt_place⟩ := c.fn_ 49
  obtain ⟨fd_Attempt_is_over, F_Attempt_is_over⟩ := c.fn_ 50
  obtain ⟨fd_Ledger_replayed, F_Ledger_replayed⟩ := c.fn_ 51
  have T : Tx K mg (He.ga K "LeastlogError") (He.ga K "InvalidHistory") (He.ga K "InvalidCount") := {
    le := fLe_ok (c.fact 67)
    g_LeastlogError := He.glo_ok X G (c.fact 57)
    g_InvalidHistory := He.glo_ok X G (c.fact 58)
    g_InvalidCount := He.glo_ok X G (c.fact 59)
    g_CELL_CHARACTERS := He.str_ok X G (c.fact 98)
    g_MOST_LANES := He.int_ok X G (c.fact 99)
    g_LONGEST_CELL := He.int_ok X G (c.fact 100)
    g_NO_RUN := He.int_ok X G (c.fact 101)
    kHE := of_decide_eq_true (c.fact 68)
    kOE := of_decide_eq_true (c.fact 69)
    xHH := of_decide_eq_true (c.fact 76)
    xOO := of_decide_eq_true (c.fact 77)
    n_isinstance := He.free_ok X G (c.fact 126)
    n_int := He.free_ok X G (c.fact 127)
    n_bool := He.free_ok X G (c.fact 128)
    n_abs := He.free_ok X G (c.fact 129)
    n_str := He.free_ok X G (c.fact 130)
    n_repr := He.free_ok X G (c.fact 131)
    n_range := He.free_ok X G (c.fact 132)
    n_len := He.free_ok X G (c.fact 133)
    n_max := He.free_ok X G (c.fact 134)
    n_min := He.free_ok X G (c.fact 135)
    n_divmod := He.free_ok X G (c.fact 136)
    n_all := He.free_ok X G (c.fact 137)
    n_list := He.free_ok X G (c.fact 138)
    n_tuple := He.free_ok X G (c.fact 139)
    n_set := He.free_ok X G (c.fact 140)
    n_sorted := He.free_ok X G (c.fact 141)
    n_zip := He.free_ok X G (c.fact 142)
    n_enumerate := He.free_ok X G (c.fact 143)
  }
  have S : Tz K mg (He.ga K "Ledger") (He.ga K "Attempt") := {
    cL := He.cls_ok (c.fact 36)
    cA := He.cls_ok (c.fact 38)
    g_Ledger := He.glo_ok X G (c.fact 65)
    l1 := He.noat_ok (c.fact 102)
    l2 := He.noat_ok (c.fact 103)
    l3 := He.noat_ok (c.fact 104)
    a1 := He.noat_ok (c.fact 105)
    a2 := He.noat_ok (c.fact 106)
    a3 := He.noat_ok (c.fact 107)
    a4 := He.noat_ok (c.fact 108)
    a5 := He.noat_ok (c.fact 109)
    a6 := He.noat_ok (c.fact 110)
  }
  have Sq : Tq K mg (He.ga K "LeastlogError") (He.ga K "InvalidHistory") (He.ga K "InvalidCount") (He.ga K "Ledger") (He.ga K "Attempt") := { T, S with
    ca := He.eqO_ok (c.fact 111)
    cn := He.eqO_ok (c.fact 112)
    ct := of_decide_eq_true (c.fact 113)
    cm := of_decide_eq_true (c.fact 114)
    kC := of_decide_eq_true (c.fact 115)
    kL := of_decide_eq_true (c.fact 116)
  }
  have Sn : Tn K mg (He.ga K "LeastlogError") (He.ga K "InvalidHistory") (He.ga K "InvalidCount") (He.ga K "Ledger") (He.ga K "Attempt") := { Sq with
    ne := He.eqO_ok (c.fact 119)
    nfC := (c.fact 117)
    nfL := (c.fact 118)
  }
  have V : Tv K mg := {
    n_LookupError := He.free_ok X G (c.fact 144)
    n_RuntimeError := He.free_ok X G (c.fact 145)
    vL := fBi_ok (c.fact 32)
    vR := fBi_ok (c.fact 33)
  }
  have W : Tw K mg (He.ga K "LeastlogError") (He.ga K "InvalidCount") (He.ga K "InvalidCell") (He.ga K "UnknownLane") (He.ga K "LaneBusy") (He.ga K "AttemptOver") (He.ga K "Stale") := {
    n_LookupError := He.free_ok X G (c.fact 144)
    n_RuntimeError := He.free_ok X G (c.fact 145)
    n_ValueError := He.free_ok X G (c.fact 146)
    kIE := of_decide_eq_true (c.fact 70)
    kIV := of_decide_eq_true (c.fact 71)
    kNL := of_decide_eq_true (c.fact 72)
    kBR := of_decide_eq_true (c.fact 73)
    kVR := of_decide_eq_true (c.fact 74)
    kSR := of_decide_eq_true (c.fact 75)
    xII := of_decide_eq_true (c.fact 78)
    xOI := of_decide_eq_true (c.fact 79)
    xNI := of_decide_eq_true (c.fact 80)
    xNO := of_decide_eq_true (c.fact 81)
    xNN := of_decide_eq_true (c.fact 82)
    xBI := of_decide_eq_true (c.fact 83)
    xBO := of_decide_eq_true (c.fact 84)
    xBN := of_decide_eq_true (c.fact 85)
    xBB := of_decide_eq_true (c.fact 86)
    xVI := of_decide_eq_true (c.fact 87)
    xVO := of_decide_eq_true (c.fact 88)
    xVN := of_decide_eq_true (c.fact 89)
    xVB := of_decide_eq_true (c.fact 90)
    xVV := of_decide_eq_true (c.fact 91)
    xSI := of_decide_eq_true (c.fact 92)
    xSO := of_decide_eq_true (c.fact 93)
    xSN := of_decide_eq_true (c.fact 94)
    xSB := of_decide_eq_true (c.fact 95)
    xSV := of_decide_eq_true (c.fact 96)
    xSS := of_decide_eq_true (c.fact 97)
  }
  have B_is_number : Binds K fd_is_number ["value"] [] := F_is_number.bindsN fun _ _ _ _ _ _ us hl => match us, hl with | [_], _ => rfl
  have B_is_cell : Binds K fd_is_cell ["value"] [] := F_is_cell.bindsN fun _ _ _ _ _ _ us hl => match us, hl with | [_], _ => rfl
  have B_are_cells : Binds K fd_are_cells ["value"] [] := F_are_cells.bindsN fun _ _ _ _ _ _ us hl => match us, hl with | [_], _ => rfl
  have B_is_footprint : Binds K fd_is_footprint ["value"] [] := F_is_footprint.bindsN fun _ _ _ _ _ _ us hl => match us, hl with | [_], _ => rfl
  have B_last_writer : Binds K fd_last_writer ["history", "end", "cell"] [] := F_last_writer.bindsN fun _ _ _ _ _ _ us hl => match us, hl with | [_, _, _], _ => rfl
  have B_check_lanes : Binds K fd_check_lanes ["lanes"] [] := F_check_lanes.bindsN fun _ _ _ _ _ _ us hl => match us, hl with | [_], _ => rfl
  have B_check_lane : Binds K fd_check_lane ["lane", "lanes"] [] := F_check_lane.bindsN fun _ _ _ _ _ _ us hl => match us, hl with | [_, _], _ => rfl
  have B_check_cell : Binds K fd_check_cell ["cell"] [] := F_check_cell.bindsN fun _ _ _ _ _ _ us hl => match us, hl with | [_], _ => rfl
  have B_l_pot : Binds K fd_l_pot ["_law_script", "_law_k"] [] := F_l_pot.bindsN fun _ _ _ _ _ _ us hl => match us, hl with | [_, _], _ => rfl
  have B_l_take : Binds K fd_l_take ["_law_pot_here", "_law_many"] [] := F_l_take.bindsN fun _ _ _ _ _ _ us hl => match us, hl with | [_, _], _ => rfl
  have B_l_pick : Binds K fd_l_pick ["_law_pot_here", "_law_some"] [] := F_l_pick.bindsN fun _ _ _ _ _ _ us hl => match us, hl with | [_, _], _ => rfl
  have B_l_cells : Binds K fd_l_cells ["_law_pot_here"] [] := F_l_cells.bindsN fun _ _ _ _ _ _ us hl => match us, hl with | [_], _ => rfl
  have B_l_told : Binds K fd_l_told ["_law_call"] [] := F_l_told.bindsN fun _ _ _ _ _ _ us hl => match us, hl with | [_], _ => rfl
  have B_l_newest : Binds K fd_l_newest ["_law_history", "_law_end", "_law_cell"] [] := F_l_newest.bindsN fun _ _ _ _ _ _ us hl => match us, hl with | [_, _, _], _ => rfl
  have B_l_read_right : Binds K fd_l_read_right ["_law_history", "_law_one", "_law_cell"] [] := F_l_read_right.bindsN fun _ _ _ _ _ _ us hl => match us, hl with | [_, _, _], _ => rfl
  have B_l_write_right : Binds K fd_l_write_right ["_law_one", "_law_cell"] [] := F_l_write_right.bindsN fun _ _ _ _ _ _ us hl => match us, hl with | [_, _], _ => rfl
  have B_l_end_right : Binds K fd_l_end_right ["_law_history", "_law_one"] [] := F_l_end_right.bindsN fun _ _ _ _ _ _ us hl => match us, hl with | [_, _], _ => rfl
  have B_l_called : Binds K fd_l_called ["_law_attempt", "_law_way", "_law_cell"] [] := F_l_called.bindsN fun _ _ _ _ _ _ us hl => match us, hl with | [_, _, _], _ => rfl
  have B_l_over_right : Binds K fd_l_over_right ["_law_pot_here", "_law_one", "_law_cells_here"] [] := F_l_over_right.bindsN fun _ _ _ _ _ _ us hl => match us, hl with | [_, _, _], _ => rfl
  have B_l_wrong_right : Binds K fd_l_wrong_right ["_law_pot_here", "_law_ledger", "_law_lanes", "_law_tries"] [] := F_l_wrong_right.bindsN fun _ _ _ _ _ _ us hl => match us, hl with | [_, _, _, _], _ => rfl
  have B_l_deed_right : Binds K fd_l_deed_right ["_law_pot_here", "_law_parts"] [] := F_l_deed_right.bindsN fun _ _ _ _ _ _ us hl => match us, hl with | [_, _], _ => rfl
  have B_l_state_right : Binds K fd_l_state_right ["_law_ledger", "_law_lanes", "_law_history", "_law_cells_here"] [] := F_l_state_right.bindsN fun _ _ _ _ _ _ us hl => match us, hl with | [_, _, _, _], _ => rfl
  have B_l_tries_right : Binds K fd_l_tries_right ["_law_tries", "_law_gone"] [] := F_l_tries_right.bindsN fun _ _ _ _ _ _ us hl => match us, hl with | [_, _], _ => rfl
  have B_l_equal_right : Binds K fd_l_equal_right ["_law_lanes"] [] := F_l_equal_right.bindsN fun _ _ _ _ _ _ us hl => match us, hl with | [_], _ => rfl
  have B_l_clone_right : Binds K fd_l_clone_right ["_law_ledger", "_law_history", "_law_tries"] [] := F_l_clone_right.bindsN fun _ _ _ _ _ _ us hl => match us, hl with | [_, _, _], _ => rfl
  have B_law : Binds K fd_law ["_law_script"] [] := F_law.bindsN fun _ _ _ _ _ _ us hl => match us, hl with | [_], _ => rfl
  have B_InvalidHistoryinit : Binds K fd_InvalidHistoryinit ["self", "position"] [] := F_InvalidHistoryinit.bindsN fun _ _ _ _ _ _ us hl => match us, hl with | [_, _], _ => rfl
  have B_InvalidCountinit : Binds K fd_InvalidCountinit ["self", "value"] [] := F_InvalidCountinit.bindsN fun _ _ _ _ _ _ us hl => match us, hl with | [_, _], _ => rfl
  have B_InvalidCellinit : Binds K fd_InvalidCellinit ["self", "value"] [] := F_InvalidCellinit.bindsN fun _ _ _ _ _ _ us hl => match us, hl with | [_, _], _ => rfl
  have B_UnknownLaneinit : Binds K fd_UnknownLaneinit ["self", "value"] [] := F_UnknownLaneinit.bindsN fun _ _ _ _ _ _ us hl => match us, hl with | [_, _], _ => rfl
  have B_LaneBusyinit : Binds K fd_LaneBusyinit ["self", "lane_number"] [] := F_LaneBusyinit.bindsN fun _ _ _ _ _ _ us hl => match us, hl with | [_, _], _ => rfl
  have B_Staleinit : Binds K fd_Staleinit ["self", "cell"] [] := F_Staleinit.bindsN fun _ _ _ _ _ _ us hl => match us, hl with | [_, _], _ => rfl
  have B_Ledgerinit : Binds K fd_Ledgerinit ["self", "lanes"] [] := F_Ledgerinit.bindsN fun _ _ _ _ _ _ us hl => match us, hl with | [_, _], _ => rfl
  have B_Attemptinit : Binds K fd_Attemptinit ["self", "ledger", "lane"] [] := F_Attemptinit.bindsN fun _ _ _ _ _ _ us hl => match us, hl with | [_, _, _], _ => rfl
  have B_Ledger_begin : Binds K fd_Ledger_begin ["self", "lane"] [] := F_Ledger_begin.bindsN fun _ _ _ _ _ _ us hl => match us, hl with | [_, _], _ => rfl
  have B_Ledger_newest : Binds K fd_Ledger_newest ["self", "cell"] [] := F_Ledger_newest.bindsN fun _ _ _ _ _ _ us hl => match us, hl with | [_, _], _ => rfl
  have B_Ledger_history : Binds K fd_Ledger_history ["self"] [] := F_Ledger_history.bindsN fun _ _ _ _ _ _ us hl => match us, hl with | [_], _ => rfl
  have B_Ledger_added : Binds K fd_Ledger_added ["self", "footprint"] [] := F_Ledger_added.bindsN fun _ _ _ _ _ _ us hl => match us, hl with | [_, _], _ => rfl
  have B_Ledger_version_at : Binds K fd_Ledger_version_at ["self", "place", "cell"] [] := F_Ledger_version_at.bindsN fun _ _ _ _ _ _ us hl => match us, hl with | [_, _, _], _ => rfl
  have B_Ledger_clone : Binds K fd_Ledger_clone ["self"] [] := F_Ledger_clone.bindsN fun _ _ _ _ _ _ us hl => match us, hl with | [_], _ => rfl
  have B_Attempt_check : Binds K fd_Attempt_check ["self"] [] := F_Attempt_check.bindsN fun _ _ _ _ _ _ us hl => match us, hl with | [_], _ => rfl
  have B_Attempt_read : Binds K fd_Attempt_read ["self", "cell"] [] := F_Attempt_read.bindsN fun _ _ _ _ _ _ us hl => match us, hl with | [_, _], _ => rfl
  have B_Attempt_write : Binds K fd_Attempt_write ["self", "cell"] [] := F_Attempt_write.bindsN fun _ _ _ _ _ _ us hl => match us, hl with | [_, _], _ => rfl
  have B_Attempt_end : Binds K fd_Attempt_end ["self"] [] := F_Attempt_end.bindsN fun _ _ _ _ _ _ us hl => match us, hl with | [_], _ => rfl
  have B_Attempt_drop : Binds K fd_Attempt_drop ["self"] [] := F_Attempt_drop.bindsN fun _ _ _ _ _ _ us hl => match us, hl with | [_], _ => rfl
  have B_Ledgerlen : Binds K fd_Ledgerlen ["self"] [] := F_Ledgerlen.bindsN fun _ _ _ _ _ _ us hl => match us, hl with | [_], _ => rfl
  have B_Ledgereq : Binds K fd_Ledgereq ["self", "other"] [] := F_Ledgereq.bindsN fun _ _ _ _ _ _ us hl => match us, hl with | [_, _], _ => rfl
  have B_Ledger_lanes : Binds K fd_Ledger_lanes ["self"] [] := F_Ledger_lanes.bindsN fun _ _ _ _ _ _ us hl => match us, hl with | [_], _ => rfl
  have B_Attempt_lane : Binds K fd_Attempt_lane ["self"] [] := F_Attempt_lane.bindsN fun _ _ _ _ _ _ us hl => match us, hl with | [_], _ => rfl
  have B_Attempt_place : Binds K fd_Attempt_place ["self"] [] := F_Attempt_place.bindsN fun _ _ _ _ _ _ us hl => match us, hl with | [_], _ => rfl
  have B_Attempt_is_over : Binds K fd_Attempt_is_over ["self"] [] := F_Attempt_is_over.bindsN fun _ _ _ _ _ _ us hl => match us, hl with | [_], _ => rfl
  have B_Ledger_replayed : Binds K fd_Ledger_replayed ["cls", "lanes", "history"] [] := F_Ledger_replayed.bindsN fun _ _ _ _ _ _ us hl => match us, hl with | [_, _, _], _ => rfl
  have e := hfa.symm.trans (He.glo_ok X G (c.fact 25))
  cases e
  have b := FunD.bindsA (ps := ["_law_script"]) F_law fun _ _ _ _ _ _ us hl => match us, hl with | [_], _ => rfl
  refine ⟨fd_law, fun s v => b s [v] rfl, fun base kb nb tbs => ?_⟩
  have O_InvalidHistory : OexC K (He.ga K "InvalidHistory") ∧ PySem.W.findIn K (.ref (He.ga K "InvalidHistory")) "position" = some none := by
    have q := (c.fact 26)
    exact fXcl_pre q
  have X_InvalidHistory : Xcl P w K mg base 1 "InvalidHistory" (He.ga K "InvalidHistory") "position" := fXcl_ok (c.fact 26) (He.glo_ok X G (c.fact 58)) B_InvalidHistoryinit (ok_hist T O_InvalidHistory.1 O_InvalidHistory.2 F_InvalidHistoryinit)
  have O_InvalidCount : OexC K (He.ga K "InvalidCount") ∧ PySem.W.findIn K (.ref (He.ga K "InvalidCount")) "value" = some none := by
    have q := (c.fact 27)
    exact fXcl_pre q
  have X_InvalidCount : Xcl P w K mg base 1 "InvalidCount" (He.ga K "InvalidCount") "value" := fXcl_ok (c.fact 27) (He.glo_ok X G (c.fact 59)) B_InvalidCountinit (ok_ord T O_InvalidCount.1 O_InvalidCount.2 F_InvalidCountinit)
  have O_InvalidCell : OexC K (He.ga K "InvalidCell") ∧ PySem.W.findIn K (.ref (He.ga K "InvalidCell")) "value" = some none := by
    have q := (c.fact 28)
    exact fXcl_pre q
  have X_InvalidCell : Xcl P w K mg base 1 "InvalidCell" (He.ga K "InvalidCell") "value" := fXcl_ok (c.fact 28) (He.glo_ok X G (c.fact 60)) B_InvalidCellinit (ok_icell T O_InvalidCell.1 O_InvalidCell.2 F_InvalidCellinit)
  have O_UnknownLane := fXb_pre (c.fact 29)
  have X_UnknownLane : XclB P w K mg base 1 "UnknownLane" (He.ga K "UnknownLane") ["value"] := fXb_ok bas_L (c.fact 29) (He.glo_ok X G (c.fact 61)) B_UnknownLaneinit (ok_xln V O_UnknownLane.1 (O_UnknownLane.2 _ (List.mem_singleton.mpr rfl)) F_UnknownLaneinit)
  have O_LaneBusy := fXb_pre (c.fact 30)
  have X_LaneBusy : XclB P w K mg base 1 "LaneBusy" (He.ga K "LaneBusy") ["lane_number"] := fXb_ok bas_R (c.fact 30) (He.glo_ok X G (c.fact 62)) B_LaneBusyinit (ok_xbusy V O_LaneBusy.1 (O_LaneBusy.2 _ (List.mem_singleton.mpr rfl)) F_LaneBusyinit)
  have O_Stale := fXb_pre (c.fact 31)
  have X_Stale : XclB P w K mg base 1 "Stale" (He.ga K "Stale") ["cell"] := fXb_ok bas_R (c.fact 31) (He.glo_ok X G (c.fact 64)) B_Staleinit (ok_xstale V O_Stale.1 (O_Stale.2 _ (List.mem_singleton.mpr rfl)) F_Staleinit)
  have X_V := fXo_ok (mg := mg) bas_R (c.fact 34) (He.glo_ok X G (c.fact 63))
  have X_AttemptOver : XclO K mg "AttemptOver" (He.ga K "AttemptOver") := X_V.1
  have G_is_number : Fnc P w K mg base CX0 1 "is_number" [] (spNum K) := ⟨_, _, _, [], He.glo_ok X G (c.fact 0), F_is_number.kp, B_is_number, .nil, ok_is_number T F_is_number⟩
  have G_is_cell : Fnc P w K mg base CX0 1 "is_cell" [] (spCell K) := ⟨_, _, _, [], He.glo_ok X G (c.fact 1), F_is_cell.kp, B_is_cell, .nil, ok_is_cell T F_is_cell⟩
  have G_are_cells : Fnc P w K mg base CX0 2 "are_cells" [] (spCells K) := ⟨_, _, _, [], He.glo_ok X G (c.fact 2), F_are_cells.kp, B_are_cells, .nil, ok_are_cells T G_is_cell F_are_cells⟩
  have G_is_footprint : Fnc P w K mg base CX0 3 "is_footprint" [] (spFp K) := ⟨_, _, _, [], He.glo_ok X G (c.fact 3), F_is_footprint.kp, B_is_footprint, .nil, ok_is_footprint T G_is_number G_are_cells F_is_footprint⟩
  have G_last_writer : Fnc P w K mg base CX0 1 "last_writer" [] spLw := ⟨_, _, _, [], He.glo_ok X G (c.fact 4), F_last_writer.kp, B_last_writer, .nil, ok_last_writer T F_last_writer⟩
  have G_check_lanes : Fnc P w K mg base (L2.CX P w) 3 "check_lanes" [] (spLns K (He.ga K "InvalidCount")) := ⟨_, _, _, [], He.glo_ok X G (c.fact 5), F_check_lanes.kp, B_check_lanes, .nil, ok_check_lanes T X_InvalidCount G_is_number F_check_lanes⟩
  have G_check_lane : Fnc P w K mg base (L2.CX P w) 3 "check_lane" [] (spLn K (He.ga K "UnknownLane")) := ⟨_, _, _, [], He.glo_ok X G (c.fact 6), F_check_lane.kp, B_check_lane, .nil, ok_check_lane T X_UnknownLane G_is_number F_check_lane⟩
  have G_check_cell : Fnc P w K mg base (L2.CX P w) 3 "check_cell" [] (spCc K (He.ga K "InvalidCell")) := ⟨_, _, _, [], He.glo_ok X G (c.fact 7), F_check_cell.kp, B_check_cell, .nil, ok_check_cell T X_InvalidCell G_is_cell F_check_cell⟩
  have linit := ok_linit (P := P) (w := w) (base := base) T S G_check_lanes F_Ledgerinit
  have KL : Mkr P w K mg base (L2.CX P w) 4 "Ledger" (He.ga K "Ledger") [] (spLI K (He.ga K "Ledger") (He.ga K "InvalidCount")) := ⟨_, _, _, _, He.mkr_ok (c.fact 35), S.g_Ledger, B_Ledgerinit, .nil, linit⟩
  have K_L := mkc KL
  have K_Ledger1 := mkL KL
  have C_replayed : Cmt P w K mg base (L2.CX P w) 6 (He.ga K "Ledger") "replayed" (spRp K (He.ga K "Ledger") (He.ga K "InvalidCount") (He.ga K "InvalidHistory")) := ⟨(fCm_ok (c.fact 56)).1, _, _, _, _, (fCm_ok (c.fact 56)).2, B_Ledger_replayed, ok_replayed T S X_InvalidHistory K_L G_is_footprint F_Ledger_replayed⟩
  have S_len : SpF P w K mg base CX0 1 (He.ga K "Ledger") "__len__" (spLen (He.ga K "Ledger")) := ⟨_, _, _, (fSpec_ok (c.fact 50)).1, (fSpec_ok (c.fact 50)).2, B_Ledgerlen, ok_len T S F_Ledgerlen⟩
  have S_eq : SpF P w K mg base CX0 1 (He.ga K "Ledger") "__eq__" (spEqL K (He.ga K "Ledger")) := ⟨_, _, _, (fSpec_ok (c.fact 51)).1, (fSpec_ok (c.fact 51)).2, B_Ledgereq, ok_eq Sq F_Ledgereq⟩
  have M_history : Mth P w K mg base CX0 1 (He.ga K "Ledger") "history" [] (spHis (He.ga K "Ledger")) := ⟨S.cL, _, _, _, [], He.meth_ok (c.fact 41), B_Ledger_history, .nil, ok_hist_ T S F_Ledger_history⟩
  have M_added : Mth P w K mg base CX0 1 (He.ga K "Ledger") "added" [] (spAdd (He.ga K "Ledger")) := ⟨S.cL, _, _, _, [], He.meth_ok (c.fact 42), B_Ledger_added, .nil, ok_added T S F_Ledger_added⟩
  have M_version_at : Mth P w K mg base CX0 2 (He.ga K "Ledger") "version_at" [] (spVer (He.ga K "Ledger")) := ⟨S.cL, _, _, _, [], He.meth_ok (c.fact 43), B_Ledger_version_at, .nil, ok_version T S G_last_writer F_Ledger_version_at⟩
  have M_newest : Mth P w K mg base (L2.CX P w) 4 (He.ga K "Ledger") "newest" [] (spNew K (He.ga K "Ledger") (He.ga K "InvalidCell")) := ⟨S.cL, _, _, _, [], He.meth_ok (c.fact 40), B_Ledger_newest, .nil, ok_newest T S G_check_cell G_last_writer F_Ledger_newest⟩
  have M_clone : Mth P w K mg base (L2.CX P w) 7 (He.ga K "Ledger") "clone" [] (spClone (He.ga K "Ledger")) := ⟨S.cL, _, _, _, [], He.meth_ok (c.fact 44), B_Ledger_clone, .nil, ok_clone T S C_replayed F_Ledger_clone⟩
  have P_lanes : Prp P w K mg base CX0 1 (He.ga K "Ledger") "lanes" (spLanes (He.ga K "Ledger")) := ⟨S.cL, _, _, _, _, fProp_ok (c.fact 52), B_Ledger_lanes, ok_lanes T S F_Ledger_lanes⟩
  have P_lane : Prp P w K mg base CX0 1 (He.ga K "Attempt") "lane" (spLane (He.ga K "Attempt")) := ⟨S.cA, _, _, _, _, fProp_ok (c.fact 53), B_Attempt_lane, ok_lane T S F_Attempt_lane⟩
  have P_place : Prp P w K mg base CX0 1 (He.ga K "Attempt") "place" (spPlace (He.ga K "Attempt")) := ⟨S.cA, _, _, _, _, fProp_ok (c.fact 54), B_Attempt_place, ok_place T S F_Attempt_place⟩
  have P_is_over : Prp P w K mg base CX0 1 (He.ga K "Attempt") "is_over" (spOver (He.ga K "Attempt")) := ⟨S.cA, _, _, _, _, fProp_ok (c.fact 55), B_Attempt_is_over, ok_over T S F_Attempt_is_over⟩
  have ainit := ok_ainit (P := P) (w := w) (base := base) T S S_len F_Attemptinit
  have KA : Mkr P w K mg base CX0 3 "Attempt" (He.ga K "Attempt") [] (spAI (He.ga K "Ledger") (He.ga K "Attempt")) := ⟨_, _, _, _, He.mkr_ok (c.fact 37), He.glo_ok X G (c.fact 66), B_Attemptinit, .nil, ainit⟩
  have K_Attempt2 := mkA KA
  have M_check : Mth P w K mg base (L2.CX P w) 2 (He.ga K "Attempt") "check" [] (spChkA (He.ga K "Attempt") (He.ga K "AttemptOver")) := ⟨S.cA, _, _, _, [], He.meth_ok (c.fact 45), B_Attempt_check, .nil, ok_acheck T S X_AttemptOver F_Attempt_check⟩
  have M_drop : Mth P w K mg base (L2.CX P w) 3 (He.ga K "Attempt") "drop" [] (spDrop (He.ga K "Attempt") (He.ga K "AttemptOver")) := ⟨S.cA, _, _, _, [], He.meth_ok (c.fact 49), B_Attempt_drop, .nil, ok_drop T S M_check F_Attempt_drop⟩
  have M_write : Mth P w K mg base (L2.CX P w) 4 (He.ga K "Attempt") "write" [] (spWr K (He.ga K "Attempt") (He.ga K "AttemptOver") (He.ga K "InvalidCell")) := ⟨S.cA, _, _, _, [], He.meth_ok (c.fact 47), B_Attempt_write, .nil, ok_write T S M_check G_check_cell F_Attempt_write⟩
  have M_read : Mth P w K mg base (L2.CX P w) 4 (He.ga K "Attempt") "read" [] (spRd K (He.ga K "Ledger") (He.ga K "Attempt") (He.ga K "AttemptOver") (He.ga K "InvalidCell")) := ⟨S.cA, _, _, _, [], He.meth_ok (c.fact 46), B_Attempt_read, .nil, ok_read T S M_check G_check_cell M_version_at F_Attempt_read⟩
  have M_end : Mth P w K mg base (L2.CX P w) 5 (He.ga K "Attempt") "end" [] (spEnd (He.ga K "Ledger") (He.ga K "Attempt") (He.ga K "AttemptOver") (He.ga K "Stale")) := ⟨S.cA, _, _, _, [], He.meth_ok (c.fact 48), B_Attempt_end, .nil, ok_end T S X_Stale M_check M_newest M_added F_Attempt_end⟩
  have M_begin : Mth P w K mg base (L2.CX P w) 5 (He.ga K "Ledger") "begin" [] (spBeg K (He.ga K "Ledger") (He.ga K "Attempt") (He.ga K "UnknownLane") (He.ga K "LaneBusy")) := ⟨S.cL, _, _, _, [], He.meth_ok (c.fact 39), B_Ledger_begin, .nil, ok_begin T S X_LaneBusy G_check_lane P_is_over K_Attempt2 F_Ledger_begin⟩
  have G_l_pot : Fnc P w K mg base CX0 1 "_law_pot" [] (spPot K) := ⟨_, _, _, [], He.glo_ok X G (c.fact 8), F_l_pot.kp, B_l_pot, .nil, ok_l_pot T F_l_pot⟩
  have G_l_take : Fnc P w K mg base CX0 1 "_law_take" [] spTake := ⟨_, _, _, [], He.glo_ok X G (c.fact 9), F_l_take.kp, B_l_take, .nil, ok_l_take T F_l_take⟩
  have G_l_pick : Fnc P w K mg base CX0 2 "_law_pick" [] spPick := ⟨_, _, _, [], He.glo_ok X G (c.fact 10), F_l_pick.kp, B_l_pick, .nil, ok_l_pick T G_l_take F_l_pick⟩
  have G_l_cells : Fnc P w K mg base CX0 3 "_law_cells" [] spCs := ⟨_, _, _, [], He.glo_ok X G (c.fact 11), F_l_cells.kp, B_l_cells, .nil, ok_l_cells T G_l_take G_l_pick F_l_cells⟩
  have G_l_newest : Fnc P w K mg base CX0 1 "_law_newest" [] spNwl := ⟨_, _, _, [], He.glo_ok X G (c.fact 13), F_l_newest.kp, B_l_newest, .nil, ok_l_newest T F_l_newest⟩
  have G_l_told : Taker P w K mg base 8 "_law_told" "_law_call" (TTr K (He.ga K "InvalidCount") (He.ga K "InvalidCell") (He.ga K "UnknownLane") (He.ga K "LaneBusy") (He.ga K "AttemptOver") (He.ga K "Stale")) := tk_told T W X_InvalidCell X_InvalidCount X_UnknownLane X_LaneBusy X_V.1 X_V.2 X_Stale F_l_told (He.glo_ok X G (c.fact 12)) B_l_told
  have G_l_write_right : Fnc P w K mg base CX0 5 "_law_write_right" [] (spWrR (He.ga K "Attempt")) := ⟨_, _, _, [], He.glo_ok X G (c.fact 15), F_l_write_right.kp, B_l_write_right, .nil, ok_l_write_right T S M_write F_l_write_right⟩
  have G_l_read_right : Fnc P w K mg base CX0 5 "_law_read_right" [] (spRdR (He.ga K "Ledger") (He.ga K "Attempt")) := ⟨_, _, _, [], He.glo_ok X G (c.fact 14), F_l_read_right.kp, B_l_read_right, .nil, ok_l_read_right T S G_l_newest M_read F_l_read_right⟩
  have G_l_called : Fnc P w K mg base (L2.CX P w) 6 "_law_called" [] (spCalled K (He.ga K "Ledger") (He.ga K "Attempt") (He.ga K "AttemptOver") (He.ga K "InvalidCell")) := ⟨_, _, _, [], He.glo_ok X G (c.fact 17), F_l_called.kp, B_l_called, .nil, ok_l_called T S M_read M_write M_end M_drop F_l_called⟩
  have dif01 : tOf K (gA "_law_end_right" K) ≠ tOf K (gA "_law_over_right" K) := of_decide_eq_true (c.fact 120)
  have dif02 : tOf K (gA "_law_end_right" K) ≠ tOf K (gA "_law_wrong_right" K) := of_decide_eq_true (c.fact 121)
  have dif03 : tOf K (gA "_law_end_right" K) ≠ tOf K (gA "law" K) := of_decide_eq_true (c.fact 122)
  have dif12 : tOf K (gA "_law_over_right" K) ≠ tOf K (gA "_law_wrong_right" K) := of_decide_eq_true (c.fact 123)
  have dif13 : tOf K (gA "_law_over_right" K) ≠ tOf K (gA "law" K) := of_decide_eq_true (c.fact 124)
  have dif23 : tOf K (gA "_law_wrong_right" K) ≠ tOf K (gA "law" K) := of_decide_eq_true (c.fact 125)
  have tb0 : LamX.TabB base mg (cOf K (gA "_law_end_right" K)) (tOf K (gA "_law_end_right" K)) := tbs _ (List.mem_map.mpr ⟨_, (List.mem_cons_self ..), rfl⟩)
  have hm0 : (tOf K (gA "_law_end_right" K), lamE) ∈ tbOf K := (List.mem_cons_self ..)
  have hu0 : ∀ p ∈ tbOf K, p.1 = tOf K (gA "_law_end_right" K) → p.2 = lamE := fun p hp e => by
    simp only [tbOf, List.mem_cons, List.not_mem_nil, or_false] at hp
    rcases hp with rfl | rfl | rfl | rfl
    · rfl
    · exact absurd e.symm dif01
    · exact absurd e.symm dif02
    · exact absurd e.symm dif03
  have tb1 : LamX.TabB base mg (cOf K (gA "_law_over_right" K)) (tOf K (gA "_law_over_right" K)) := tbs _ (List.mem_map.mpr ⟨_, (List.mem_cons_of_mem _ (List.mem_cons_self ..)), rfl⟩)
  have hm1 : (tOf K (gA "_law_over_right" K), lamO) ∈ tbOf K := (List.mem_cons_of_mem _ (List.mem_cons_self ..))
  have hu1 : ∀ p ∈ tbOf K, p.1 = tOf K (gA "_law_over_right" K) → p.2 = lamO := fun p hp e => by
    simp only [tbOf, List.mem_cons, List.not_mem_nil, or_false] at hp
    rcases hp with rfl | rfl | rfl | rfl
    · exact absurd e dif01
    · rfl
    · exact absurd e.symm dif12
    · exact absurd e.symm dif13
  have tb2 : LamX.TabB base mg (cOf K (gA "_law_wrong_right" K)) (tOf K (gA "_law_wrong_right" K)) := tbs _ (List.mem_map.mpr ⟨_, (List.mem_cons_of_mem _ (List.mem_cons_of_mem _ (List.mem_cons_self ..))), rfl⟩)
  have hm2 : (tOf K (gA "_law_wrong_right" K), lamW) ∈ tbOf K := (List.mem_cons_of_mem _ (List.mem_cons_of_mem _ (List.mem_cons_self ..)))
  have hu2 : ∀ p ∈ tbOf K, p.1 = tOf K (gA "_law_wrong_right" K) → p.2 = lamW := fun p hp e => by
    simp only [tbOf, List.mem_cons, List.not_mem_nil, or_false] at hp
    rcases hp with rfl | rfl | rfl | rfl
    · exact absurd e dif02
    · exact absurd e dif12
    · rfl
    · exact absurd e.symm dif23
  have tb3 : LamX.TabB base mg (cOf K (gA "law" K)) (tOf K (gA "law" K)) := tbs _ (List.mem_map.mpr ⟨_, (List.mem_cons_of_mem _ (List.mem_cons_of_mem _ (List.mem_cons_of_mem _ (List.mem_cons_self ..)))), rfl⟩)
  have hm3 : (tOf K (gA "law" K), lamL) ∈ tbOf K := (List.mem_cons_of_mem _ (List.mem_cons_of_mem _ (List.mem_cons_of_mem _ (List.mem_cons_self ..))))
  have hu3 : ∀ p ∈ tbOf K, p.1 = tOf K (gA "law" K) → p.2 = lamL := fun p hp e => by
    simp only [tbOf, List.mem_cons, List.not_mem_nil, or_false] at hp
    rcases hp with rfl | rfl | rfl | rfl
    · exact absurd e dif03
    · exact absurd e dif13
    · exact absurd e dif23
    · rfl
  have G_l_end_right : Fnc P w K mg base CX0 10 "_law_end_right" [] (spEndR (He.ga K "Ledger") (He.ga K "Attempt") (tbOf K)) := ⟨_, _, _, [], He.glo_ok X G (c.fact 16), F_l_end_right.kp, B_l_end_right, .nil, (fun F_ => ok_l_end_right T S G_l_newest M_end G_l_told F_ tb0 hm0 hu0) F_l_end_right⟩
  have G_l_over_right : Fnc P w K mg base CX0 10 "_law_over_right" [] (spOvR (He.ga K "Ledger") (He.ga K "Attempt") (tbOf K)) := ⟨_, _, _, [], He.glo_ok X G (c.fact 18), F_l_over_right.kp, B_l_over_right, .nil, (fun F_ => ok_l_over_right T S G_l_take G_l_pick P_is_over G_l_called G_l_told F_ tb1 hm1 hu1) F_l_over_right⟩
  have G_l_wrong_right : Fnc P w K mg base CX0 10 "_law_wrong_right" [] (spWgR (He.ga K "Ledger") (He.ga K "Attempt") (tbOf K)) := ⟨_, _, _, [], He.glo_ok X G (c.fact 19), F_l_wrong_right.kp, B_l_wrong_right, .nil, (fun F_ => ok_l_wrong_right T S G_l_take G_l_pick M_begin M_newest G_l_called G_l_told F_ tb2 hm2 hu2) F_l_wrong_right⟩
  have G_l_deed_right : Fnc P w K mg base CX0 11 "_law_deed_right" [] (spDeed (He.ga K "Ledger") (He.ga K "Attempt") (tbOf K)) := ⟨_, _, _, [], He.glo_ok X G (c.fact 20), F_l_deed_right.kp, B_l_deed_right, .nil, ok_l_deed_right T S G_l_take G_l_pick P_lane P_place P_is_over M_begin M_drop G_l_wrong_right G_l_over_right G_l_read_right G_l_write_right G_l_end_right F_l_deed_right⟩
  have G_l_state_right : Fnc P w K mg base CX0 5 "_law_state_right" [] (spState (He.ga K "Ledger") (He.ga K "Attempt")) := ⟨_, _, _, [], He.glo_ok X G (c.fact 21), F_l_state_right.kp, B_l_state_right, .nil, ok_l_state_right T S S_len P_lanes M_history M_newest G_l_newest F_l_state_right⟩
  have G_l_tries_right : Fnc P w K mg base CX0 3 "_law_tries_right" [] (spTries (He.ga K "Ledger") (He.ga K "Attempt")) := ⟨_, _, _, [], He.glo_ok X G (c.fact 22), F_l_tries_right.kp, B_l_tries_right, .nil, ok_l_tries_right T S P_lane P_place P_is_over F_l_tries_right⟩
  have G_l_equal_right : Fnc P w K mg base CX0 6 "_law_equal_right" [] spEqR := ⟨_, _, _, [], He.glo_ok X G (c.fact 23), F_l_equal_right.kp, B_l_equal_right, .nil, ok_l_equal_right T Sn S_eq K_Ledger1 M_begin F_l_equal_right⟩
  have G_l_clone_right : Fnc P w K mg base CX0 8 "_law_clone_right" [] (spClR (He.ga K "Ledger") (He.ga K "Attempt")) := ⟨_, _, _, [], He.glo_ok X G (c.fact 24), F_l_clone_right.kp, B_l_clone_right, .nil, ok_l_clone_right T Sn S_len S_eq M_clone M_history M_begin M_write M_end F_l_clone_right⟩
  exact ok_law T S G_l_pot G_l_take G_l_pick G_l_cells K_Ledger1 S_len M_begin M_read M_end M_history G_l_told G_l_deed_right G_l_state_right G_l_tries_right G_l_clone_right G_l_equal_right F_law tb3 hm3 hu3
end
end K71
open PySem PySem.W PySem.Calls PyProof.Rows
theorem PySem.Challenge.cw_leastlog_k71_attempts_holds : PySem.Challenge.rw_leastlog_k71_attempts.Holds := by
  w_on; o_law
  refine HandSHeadRun.head_any (r := OpenLaw.row PySem.Challenge.rw_leastlog_k71_attempts) (q := view (OpenLaw.row PySem.Challenge.rw_leastlog_k71_attempts).prog [45]) (H := K71.hk) (ob := K71.ob) (M := 8000) (loose := K71.loose) (d := HandSHeadRun.topDef (OpenLaw.row PySem.Challenge.rw_leastlog_k71_attempts).prog 45) (kwd := []) K71.ob_eq
    (by kernel_rfl) (fun s => by kernel_rfl) K71.run (by kernel_rfl) (by kernel_rfl) (by kernel_rfl) (by rfl) (by first | assumption | decide +kernel) (by decide +kernel) ⟨rfl, rfl, rfl, rfl, rfl, by decide +kernel⟩ ?hw ?hc
  case hw => w_witness2
  case hc =>
    refine LL.walkT (l := PySem.Challenge.rw_leastlog_k71_attempts) (n := 63) (k := 12) (x := "_law_script") (CX := L2.CX0) rfl (by decide) (by kernel_rfl) ⟨⟨rfl, by decide, by decide⟩, rfl⟩ ?F (fun _ _ _ _ z => z)
    intro w mg fa h Y G hmg0
    obtain ⟨K, KX, c⟩ := Y
    have hmg : mg ("law" : PySem.Str) = some (.ref fa) := by
      have e : (HandSHeadRun.topDef (OpenLaw.row PySem.Challenge.rw_leastlog_k71_attempts).prog 45).name = ("law" : PySem.Str) := by kernel_rfl
      rw [← e]
      exact hmg0
    obtain ⟨fd, hb, hF⟩ := K71.facts (P := (PySem.Challenge.rw_leastlog_k71_attempts).prog) (w := w) KX G hmg c.y
    have mem : ∀ p ∈ K71.csOf K, ∃ a ∈ K71.tf, p = (LL.cOf K (a K), LL.tOf K (a K)) := fun p hp => by
      obtain ⟨a, ha, e⟩ := List.mem_map.mp hp
      exact ⟨a, ha, e.symm⟩
    refine ⟨K, fd, K71.spLaw K (K71.tbOf K), K71.csOf K, KX, fun p hp => ?_, fun p hp => ?_, fun p hp => ?_, hb, fun H a ns hl _ hT hS => ⟨a, ns, rfl, hS, hl, (fun p hp => by
      simp only [K71.tbOf, List.mem_cons, List.not_mem_nil, or_false] at hp
      rcases hp with rfl | rfl | rfl | rfl
      · exact LamX.TabS.nil (hT _ (List.mem_map.mpr ⟨_, (List.mem_cons_self ..), rfl⟩))
      · exact LamX.TabS.nil (hT _ (List.mem_map.mpr ⟨_, (List.mem_cons_of_mem _ (List.mem_cons_self ..)), rfl⟩))
      · exact LamX.TabS.nil (hT _ (List.mem_map.mpr ⟨_, (List.mem_cons_of_mem _ (List.mem_cons_of_mem _ (List.mem_cons_self ..))), rfl⟩))
      · exact LamX.TabS.nil (hT _ (List.mem_map.mpr ⟨_, (List.mem_cons_of_mem _ (List.mem_cons_of_mem _ (List.mem_cons_of_mem _ (List.mem_cons_self ..)))), rfl⟩))), fun _ => rfl⟩, hF⟩
    · obtain ⟨a, ha, rfl⟩ := mem p hp
      exact c.emp a ha
    · obtain ⟨a, ha, rfl⟩ := mem p hp
      exact c.out a ha
    · obtain ⟨a, ha, rfl⟩ := mem p hp
      exact c.hd a ha
