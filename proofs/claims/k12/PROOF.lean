import PyProof.Rows.All
import Wide.All
import OpenK.AllK
import Wide.FinOn
import KE.KOpsOwn
import KE.KCallOwn
import KE.KFmtOwn
import PyProof.ReprRoads
import HandS.ForMost
import HandS.Exc
import HandS.Lambda
import HandS.Defaults
import HandS.Property
import HandS.IsInst
import HandS.FStr
import HandS.WideBits
import HandS.EndTab
import HandS.SlotsOwn
import HandS.FStrTup
import HandS.RaiseMore
import HandS.Head0
import HandS.Head1
import HandS.Head2
import HandS.HeadEnd
import HandS.HeadHook1
import HandS.HeadHook2
import HandS.EndBits
import HandS.TryOnly
import HandS.TryMany
import HandS.ExcInit
import HandS.ExcField
import HandS.ExcIs
import HandS.HeadHook4
import HandS.Walk
import HandS.Zip
import KE.GoesZip
import KE.GoesMore
import HandS.SetFor
import HandS.Strs
import HandS.TupAny
import HandS.More
import HandS.Conv
import HandS.CallSlots
import HandS.ExcOwn
import HandS.Style
import KE.KExcInit
import KE.KExcPX
import PyProof.ExcBaseAll.LookupError
import PyProof.ExcBaseAll.RuntimeError
import PyProof.ExcBaseAll.ArithmeticError
import HandS.ClsMeth
import HandS.HeadNt
import HandS.MakeKw
import HandS.Small
import HandS.Deep
import PyProof.P3In
import PyProof.EqKinds
import HandS.ListEq
import HandS.DictComp
import HandS.DictSubView
import HandS.Rev
import PyProof.DictValues
import HandS.DictEq
import HandS.Star
import KE.KUnpackStar
import PyProof.CollectIter
import HandS.Iter
import HandS.ExcCtx
import HandS.HotCalls
import HandS.Hot
import PySem.Challenge.RW_leastlog_k12_amounts_refused
set_option Elab.async false
set_option linter.all false
set_option maxRecDepth 100000
set_option maxHeartbeats 2000000
/-! LLBase: the layer with one fact more: no repr is under way where a def is called. -/
namespace LL
open PySem PySem.Spec PyProof.Rows L2

/-- room for k calls, and no container's repr is under way -/
structure Rm (k : Nat) (A : Around) : Prop where
  r : Room k A
  g : 12 < k → A.guards = some []
theorem Rm.mono {j k : Nat} {A : Around} (h : Rm k A) (q : j ≤ k) : Rm j A := ⟨h.r.mono q, fun z => h.g (Nat.lt_of_lt_of_le z q)⟩
theorem Rm.deeper {k : Nat} {A : Around} (h : Rm (k + 1) A) (env : Env) : Rm k (A.deeper env) := ⟨h.r.deeper env, fun z => h.g (Nat.lt_succ_of_lt z)⟩
theorem Rm.in1 {k : Nat} {A : Around} (h : Rm (k + 1) A) : Rm k A.in1 := ⟨h.r.in1, fun z => h.g (Nat.lt_succ_of_lt z)⟩
theorem Rm.make {k : Nat} {A : Around} (h : Rm (k + 1) A) (C : Addr) (us : List Value) (kw : List (Str × Value)) : Rm k (A.under (.builtin "type.__call__" ⟨.ref C :: us, kw⟩)) :=
  ⟨h.r.make C us kw, fun z => by
    have e : (Code.builtin "type.__call__" ⟨.ref C :: us, kw⟩).guards = [] := by
      first | rfl | simp [Code.guards, Code.isGuard, guardIds]
    unfold Around.under
    rw [e, h.g (Nat.lt_succ_of_lt z)]
    rfl⟩

/-- a def keeps its promise wherever there is room and no repr is under way -/
structure FnG (P : Program) (w : World) (K : PySem.W.Frag) (mg : Str → Option Value) (base : Heap) (CX : CXT) (k : Nat) (f : Addr) (fd : FuncData) (ps : List Str) (sp : Sp) : Prop where
  len : ∀ vs H Q E, sp vs H Q E → vs.length = ps.length
  run : ∀ (A : Around) (outer : List Env) (s : Shared) (H : Hp) (args : Args) (us : List Value) (vs : List V) (Q : VK) (E : XK), Rm k A → Env0 P w K mg base A outer s H → BindsTo s fd args (ps.zip us) → Vals vs us → sp vs H Q E →
    codeAny (model P w) A (.call (.ref f) args) (CR CX outer P w H s Q E) s
section
variable {P : Program} {w : World} {K : PySem.W.Frag} {mg : Str → Option Value} {base : Heap} {CX : CXT} {k : Nat} {f : Addr} {fd : FuncData} {ps : List Str} {sp sp' : Sp}
theorem FnG.mono {j : Nat} (F : FnG P w K mg base CX j f fd ps sp) (h : j ≤ k) : FnG P w K mg base CX k f fd ps sp :=
  ⟨F.len, fun A outer s H args us vs Q E hr => F.run A outer s H args us vs Q E (hr.mono h)⟩
theorem FnG.imp (F : FnG P w K mg base CX k f fd ps sp) (h : ∀ vs H Q E, sp' vs H Q E → sp vs H Q E) : FnG P w K mg base CX k f fd ps sp' :=
  ⟨fun vs H Q E q => F.len vs H Q E (h _ _ _ _ q), fun A outer s H args us vs Q E hr he hb hv hs => F.run A outer s H args us vs Q E hr he hb hv (h _ _ _ _ hs)⟩
/-- a def by its body: it may raise -/
theorem okX {x qual : Str} {params : Arguments} {body : List Stmt} {scope : Scope} {dvs : List V} {kws : List (Str × V)} {N : List Str} (F : FunD K x qual params body scope dvs kws f fd) (S : FnScope N ps scope) (len : ∀ vs H Q E, sp vs H Q E → vs.length = ps.length)
    (hbody : ∀ (cdv : Value) (A : Around) (outer : List Env) (s : Shared) (H : Hp) (vs : List V) (Q : VK) (E : XK), Rm k (A.deeper (envOfC qual scope s.heap.objs.size f cdv)) → sp vs H Q E →
      ∃ t, PSs (cxOf CX P w K mg base N qual scope f cdv A outer s H E) body t ∧ t { nx := fun _ H' => Q .non H', rt := Q } (L2.start N vs) H) : FnG P w K mg base CX (k + 1) f fd ps sp := by
  obtain ⟨oc, od, dV, kV, doc, pm, an, cdv, ct, osl, rfl, lk, hcd, _, _⟩ := F.ex
  refine ⟨len, fun A outer s H args us vs Q E hr e0 hb r hsp => ?_⟩
  exact LamX.run_ofS (CX := CX) lk hcd S hr.r e0 hb r (len _ _ _ _ hsp) fun _ => hbody cdv A outer s H vs Q E (hr.deeper _) hsp
/-- a def by its body: nothing leaves it -/
theorem ok0 {x qual : Str} {params : Arguments} {body : List Stmt} {scope : Scope} {dvs : List V} {kws : List (Str × V)} {N : List Str} (F : FunD K x qual params body scope dvs kws f fd) (S : FnScope N ps scope) (len : ∀ vs H Q E, sp vs H Q E → vs.length = ps.length)
    (hbody : ∀ (cdv : Value) (A : Around) (outer : List Env) (s : Shared) (H : Hp) (vs : List V) (Q : VK) (E : XK), Rm k (A.deeper (envOfC qual scope s.heap.objs.size f cdv)) → sp vs H Q E →
      ∃ t, PSs (cxOf CX0 P w K mg base N qual scope f cdv A outer s H E).nox body t ∧ t { nx := fun _ H' => Q .non H', rt := Q } (L2.start N vs) H) : FnG P w K mg base CX0 (k + 1) f fd ps sp :=
  okX F S len fun cdv A outer s H vs Q E hr h => by
    obtain ⟨t, ht, q⟩ := hbody cdv A outer s H vs Q E hr h
    exact ⟨t, ht.nox, q⟩
end

section
variable {X : Cx} {CX : CXT} {k : Nat} {f C : Addr} {fd : FuncData} {ps : List Str} {sp : Sp} {dvs : List V} {ds : List Value} {E : XK} {x m : Str} {p pos apos : Pos} {e o : Expr} {es : List Expr} {ta : TE} {t : TA}
/-- the callee runs, at any place that stands for this body's -/
theorem run_g {pins : List (Addr × Obj)} {σ : L2.St} {H : Hp} {s : Shared} {Q : VK} {us : List Value} {vs : List V} {A : Around} (F : FnG X.prog X.w X.K X.mg X.base CX k f fd ps sp) (hr : Rm k A) (e0 : Env0 X.prog X.w X.K X.mg X.base A X.stack s H) (hb : Binds X.K fd ps ds) (hd : Vals dvs ds) (hx : Passes CX X E)
    (I : Inv X pins σ H s) (r : Vals vs us) (h : sp (vs ++ dvs) H Q E) : wpAny (model X.prog X.w) A (call (.ref f) us) (EP X pins σ Q) X.xe s := by
  have r2 : Vals (vs ++ dvs) (us ++ ds) := r.append hd
  have hl : (us ++ ds).length = ps.length := by
    have := F.len _ _ _ _ h
    rw [← this]
    exact r2.length.symm
  have go := F.run A X.stack s H ⟨us, []⟩ (us ++ ds) (vs ++ dvs) Q E hr e0 (hb s us I.kIn hl) r2 h
  refine wpAny_call (codeAny_mono go fun r s' hq => ?_)
  match r, hq with
  | .error er, hq => exact hx pins σ H s er s' I hq
  | .ok (.ret u), hq => exact I.after hq
  | .ok .next, hq => exact False.elim hq
  | .ok .brk, hq => exact False.elim hq
  | .ok .cont, hq => exact False.elim hq
/-- f(e, ..) -/
theorem pe_callG (F : FnG X.prog X.w X.K X.mg X.base CX k f fd ps sp) (hr : Rm k X.A) (hg : Gl X x) (hm : X.mg x = some (.ref f)) (hk : PySem.W.keepIn X.K (.ref f) = true) (hb : Binds X.K fd ps ds) (hd : Vals dvs ds) (hx : Passes CX X E)
    (ha : PA X (e :: es) t) (hdb : (x == ("__debug__" : Str)) = false := by decide) (he : starEach (e :: es) X.env = (false, eval e X.env) :: starEach es X.env := by rfl) (hpl : (backTo pos (starEach es X.env)).any (·.1) = false := by rfl) :
    PE X (.Call (.Name x p) (e :: es) [] pos) (tCall sp dvs E t) :=
  ⟨fun pins s σ H Q I h => wpAny_Call_Name_kw (ld_glob I hg hm (PySem.W.callWith_K (h₀ := X.base) I.ok.mod.kin hk (thn (ha.run pos pins s σ H _ I h) fun us s1 ⟨vs, H1, I1, r, q⟩ => ⟨I1.kIn, run_g F hr I1.env0 hb hd hx I1 r q⟩) he hpl) hdb)⟩
theorem pe_call0G (F : FnG X.prog X.w X.K X.mg X.base CX k f fd ps sp) (hr : Rm k X.A) (hg : Gl X x) (hm : X.mg x = some (.ref f)) (hk : PySem.W.keepIn X.K (.ref f) = true) (hb : Binds X.K fd ps ds) (hd : Vals dvs ds) (hx : Passes CX X E)
    (hdb : (x == ("__debug__" : Str)) = false := by decide) : PE X (.Call (.Name x p) [] [] pos) (tCall sp dvs E tNil) :=
  ⟨fun pins s σ H Q I h => wpAny_Call_Name_kw (ld_glob I hg hm (PySem.W.callWith_K0 I.kIn hk (run_g (us := []) F hr I.env0 hb hd hx I .nil h)) hdb)⟩
/-- o.m(e, ..) -/
theorem pe_methG {pl : Sem Bool} (he : PE X o ta) (c : Cls X.K C) (hm : Meth X.K C m f) (F : FnG X.prog X.w X.K X.mg X.base CX k f fd ps sp) (hr : Rm k X.A) (hb : Binds X.K fd ps ds) (hd : Vals dvs ds) (hx : Passes CX X E) (ha : PA X (e :: es) t)
    (hst : starEach (e :: es) X.env = (false, eval e X.env) :: starEach es X.env := by rfl) (hpl : (backTo pos (starEach es X.env)).any (·.1) = false := by rfl)
    (ht : eval (.Call (.Attribute o m apos) (e :: es) [] pos) X.env = (do
      let ov ← eval o X.env
      standAt apos.atName
      let (f, first) ← holding [ov] (getMethod ov m pl)
      callWith pos f first (backTo pos (starEach (e :: es) X.env)) (backToKw pos (keywordEach [] X.env))) := by rfl) :
    PE X (.Call (.Attribute o m apos) (e :: es) [] pos) (tMeth C m sp dvs E ta t) := by
  refine ⟨fun pins s σ H Q I h => PySem.W.methodCall_KW (pl := pl) (thn (he.run pins s σ H _ I h) fun u s1 hh => ?_) ht⟩
  obtain ⟨x, H1, I1, rx, a, dx, fs, rfl, ea, l, q⟩ := hh
  obtain rfl : u = Value.ref a := rx
  exact getmeth_ok I1 ea c hm l (PySem.W.callWith_K (first := [.ref a]) (h₀ := X.base) I.ok.mod.kin hm.kp (thn (ha.run pos pins s1 σ H1 _ I1 q) fun us s2 ⟨vs, H2, I2, r, q2⟩ =>
    ⟨I2.kIn, run_g (us := .ref a :: us) (vs := .ref a :: vs) F hr I2.env0 hb hd hx I2 (.cons rfl r) q2⟩) hst hpl)
theorem pe_meth0G {pl : Sem Bool} (he : PE X o ta) (c : Cls X.K C) (hm : Meth X.K C m f) (F : FnG X.prog X.w X.K X.mg X.base CX k f fd ps sp) (hr : Rm k X.A) (hb : Binds X.K fd ps ds) (hd : Vals dvs ds) (hx : Passes CX X E)
    (ht : eval (.Call (.Attribute o m apos) [] [] pos) X.env = (do
      let ov ← eval o X.env
      standAt apos.atName
      let (f, first) ← holding [ov] (getMethod ov m pl)
      callWith pos f first (backTo pos (starEach [] X.env)) (backToKw pos (keywordEach [] X.env))) := by rfl) :
    PE X (.Call (.Attribute o m apos) [] [] pos) (tMeth C m sp dvs E ta tNil) := by
  refine ⟨fun pins s σ H Q I h => PySem.W.methodCall_KW (pl := pl) (thn (he.run pins s σ H _ I h) fun u s1 hh => ?_) ht⟩
  obtain ⟨x, H1, I1, rx, a, dx, fs, rfl, ea, l, q⟩ := hh
  obtain rfl : u = Value.ref a := rx
  exact getmeth_ok I1 ea c hm l (PySem.W.callWith_K0 (first := [.ref a]) I1.kIn hm.kp (run_g (us := [.ref a]) (vs := [.ref a]) F hr I1.env0 hb hd hx I1 (.cons rfl .nil) q))
/-- C(e, ..): a new instance, then its __init__ -/
theorem run_makeG {pins : List (Addr × Obj)} {σ : L2.St} {H : Hp} {s : Shared} {Q : VK} {us : List Value} {vs : List V} (M : Mk X.K C f) (F : FnG X.prog X.w X.K X.mg X.base CX k f fd ps sp) (hr : Rm (k + 1) X.A) (hb : Binds X.K fd ps ds) (hd : Vals dvs ds)
    (hx : Passes CX X E) (I : Inv X pins σ H s) (r : Vals vs us)
    (h : ∀ x dx, H x = none → H dx = none → dx ≠ x → sp (.ref x :: (vs ++ dvs)) (upd (upd H dx (.own x)) x (.ins C dx [])) (fun v H2 => v = .non ∧ Q (.ref x) H2) E) :
    wpAny (model X.prog X.w) X.A (call (.ref C) us) (EP X pins σ Q) X.xe s := by
  have n1 : H (s.heap.objs.size + 1) = none := I.hok.fresh (Nat.le_succ _)
  have n0 : H s.heap.objs.size = none := I.hok.fresh (Nat.le_refl _)
  have hq := h (s.heap.objs.size + 1) s.heap.objs.size n1 n0 (Nat.ne_of_lt (Nat.lt_succ_self _))
  have I2 := Inv.made (C := C) I
  have r2 : Vals (V.ref (s.heap.objs.size + 1) :: (vs ++ dvs)) (Value.ref (s.heap.objs.size + 1) :: (us ++ ds)) := .cons rfl (r.append hd)
  have hl : (Value.ref (s.heap.objs.size + 1) :: us ++ ds).length = ps.length := r2.length.symm.trans (F.len _ _ _ _ hq)
  have go := F.run (X.A.under (.builtin "type.__call__" ⟨.ref C :: us, []⟩)) X.stack _ _ ⟨Value.ref (s.heap.objs.size + 1) :: us, []⟩ (Value.ref (s.heap.objs.size + 1) :: (us ++ ds)) _ _ E (hr.make C us [])
    (I2.env0.make C us []) (hb _ (Value.ref (s.heap.objs.size + 1) :: us) I2.kIn hl) r2 hq
  refine wpAny_call (make_map (f := f) I.kIn M.makes M.init (beq_iff_eq.mp M.fn) (codeAny_mono go fun r s' hq' => ?_))
  match r, hq' with
  | .error er, hq' => exact hx pins σ _ _ er s' I2 hq'
  | .ok (.ret u), hq' =>
    obtain ⟨v, H', I3, rv, rfl, q3⟩ := I2.after hq'
    exact ⟨rv, ⟨V.ref (s.heap.objs.size + 1), H', I3, rfl, q3⟩⟩
  | .ok .next, hq' => exact False.elim hq'
  | .ok .brk, hq' => exact False.elim hq'
  | .ok .cont, hq' => exact False.elim hq'
theorem pe_makeG (M : Mk X.K C f) (F : FnG X.prog X.w X.K X.mg X.base CX k f fd ps sp) (hr : Rm (k + 1) X.A) (hg : Gl X x) (hm : X.mg x = some (.ref C)) (hb : Binds X.K fd ps ds) (hd : Vals dvs ds) (hx : Passes CX X E)
    (ha : PA X (e :: es) t) (hdb : (x == ("__debug__" : Str)) = false := by decide) (he : starEach (e :: es) X.env = (false, eval e X.env) :: starEach es X.env := by rfl) (hpl : (backTo pos (starEach es X.env)).any (·.1) = false := by rfl) :
    PE X (.Call (.Name x p) (e :: es) [] pos) (tMake C sp dvs E t) :=
  ⟨fun pins s σ H Q I h => wpAny_Call_Name_kw (ld_glob I hg hm (PySem.W.callWith_K (h₀ := X.base) I.ok.mod.kin M.kp (thn (ha.run pos pins s σ H _ I h) fun us s1 ⟨vs, H1, I1, r, q⟩ => ⟨I1.kIn, run_makeG M F hr hb hd hx I1 r q⟩) he hpl) hdb)⟩
theorem pe_make0G (M : Mk X.K C f) (F : FnG X.prog X.w X.K X.mg X.base CX k f fd ps sp) (hr : Rm (k + 1) X.A) (hg : Gl X x) (hm : X.mg x = some (.ref C)) (hb : Binds X.K fd ps ds) (hd : Vals dvs ds) (hx : Passes CX X E)
    (hdb : (x == ("__debug__" : Str)) = false := by decide) : PE X (.Call (.Name x p) [] [] pos) (tMake C sp dvs E tNil) :=
  ⟨fun pins s σ H Q I h => wpAny_Call_Name_kw (ld_glob I hg hm (PySem.W.callWith_K0 I.kIn M.kp (run_makeG (us := []) M F hr hb hd hx I .nil h)) hdb)⟩
end
end LL

set_option Elab.async false
set_option linter.all false
set_option maxRecDepth 100000
set_option maxHeartbeats 2000000
/-! LLOwn: operators, ==, !=, str, repr of instances of own classes; repr of data. -/
namespace LL
open PySem PySem.Spec PyProof.Rows L2
/-! ### != by an own __eq__ -/
section
variable {prog : Program} {w : World} {A : Around} {E : Value → Shared → Prop} {s : Shared} {K : PySem.W.Frag} {x C f : Addr} {ox : Obj} {od : Option Obj} {b tb : Value}
/-- a special method that is a built-in's, bound if it can be -/
theorem ifBound_b {M : Model} {name : Str} {id : String} {args : List Value} {Q : Option Value → Shared → Prop} (X : K.In s.heap) (I : PySem.W.InstAt s.heap x ox C od) (hs : PySem.W.findIn K (.ref C) name = some (some (.builtin id)))
    (hb : ∀ self, bindSpecial (.builtin id) self = pure (.builtin id, [self])) (h : wpAny M A (call (.builtin id) (.ref x :: args)) (fun v => Q (some v)) E s) : wpAny M A (callSpecialIfBound? (.ref x) name args) Q E s := by
  have fin : wpAny M A (call (.builtin id) ([.ref x] ++ args) >>= fun v => pure (some v)) Q E s := wpAny_bind (thn h fun _ _ z => wpAny_pure z)
  have bnd : PySem.W.Looks M s.heap (bindSpecial (.builtin id) (.ref x)) (.builtin id, [.ref x]) := PySem.W.Looks.of_pure (hb _)
  unfold callSpecialIfBound? bindSpecialIfBound?
  refine wpAny_holding (wpAny_bind (wpAny_bind (wpAny_bind (I.type.here ((PySem.W.looks_findIn X hs).here ?_)))))
  refine wpAny_bind (wpAny_askSetting (wpAny_ite ?_))
  split
  · exact wpAny_bind (bnd.here (wpAny_pure (by exact fin)))
  · exact wpAny_tryCatch (wpAny_bind (bnd.here (wpAny_pure (by exact fin))))
open Builtin in
theorem ne_own {Q : Value → Shared → Prop} (hu : A.units + 1 < cLine) (X : K.In s.heap) (I : PySem.W.InstAt s.heap x ox C od) (hb : PySem.W.Looks (model prog w) s.heap (typeOf b) tb) (hn : PySem.W.notFirst K C tb = true) (hm : PySem.W.mroIn K C (.type "object") = some true)
    (hs : PySem.W.findIn K (.ref C) "__eq__" = some (some (.ref f))) (hf : PySem.W.isFn K (.ref f) = true) (hne : PySem.W.findIn K (.ref C) "__ne__" = some (some (.builtin "object.__ne__")))
    (h : wpAny (model prog w) A.in1 (call (.ref f) [.ref x, b]) (fun v s' => ∃ c, v = .bool c ∧ Q (.bool (!c)) s') E s) : wpAny (model prog w) A (richCompare .NotEq (.ref x) b) Q E s := by
  have one : wpAny (model prog w) A (tryCompare (.ref x) (cmpInfo .NotEq).2.1 b) (fun r s' => ∃ v, r = some v ∧ Q v s') E s := by
    unfold tryCompare
    refine wpAny_bind (ifBound_b (name := "__ne__") X I hne PySem.F.slot_tuple_iterator_ne.bind ?_)
    refine wpAny_call (codeAny_call_builtin PySem.F.slot_tuple_iterator_ne.plain PySem.F.cmpEntry_ne (PySem.W.check_slot PySem.F.cmpKind_ne PySem.F.cmpSplit_ne (I.type.andThen (PySem.W.looks_mroIn X hm)) (PySem.F.cmpArgs_ne _ _) ?_))
    unfold Builtin.«object.__ne__»
    refine wpAny_bind (m := slotArgs "__ne__" 1 _) (wpAny_pure ?_)
    refine wpAny_bind (m := cRoomFor _ _) (wpAny_cRoomFor hu ?_)
    refine wpAny_bind (m := callSpecialIfBound? (.ref x) (Str.ofString "__eq__") _) (PySem.W.ifBound_K X I hs hf (thn h fun r s' hr => ?_))
    obtain ⟨c, rfl, hq⟩ := hr
    refine wpAny_bind (wpAny_truthy_bool (wpAny_pure ?_))
    exact wpAny_pure ⟨_, rfl, hq⟩
  unfold richCompare
  simp only [oneThing_ref]
  refine wpAny_holding (wpAny_bind (wpAny_cRoomFor (by omega) ?_))
  refine wpAny_bind (I.type.here (wpAny_bind (hb.here ?_)))
  split
  · rename_i q
    have e : PySem.W.subIn K tb (.ref C) = some false := by
      rcases Bool.or_eq_true_iff.mp hn with e | e
      · rw [beq_iff_eq.mp e] at q
        simp at q
      · exact beq_iff_eq.mp e
    refine wpAny_bind ((PySem.W.looks_subIn X e).here ?_)
    simp only [Bool.false_eq_true, if_false]
    refine wpAny_bind (thn one fun r s' z => ?_)
    obtain ⟨v, rfl, hq⟩ := z
    exact wpAny_pure hq
  · refine wpAny_bind (wpAny_pure ?_)
    simp only [Bool.false_eq_true, if_false]
    refine wpAny_bind (thn one fun r s' z => ?_)
    obtain ⟨v, rfl, hq⟩ := z
    exact wpAny_pure hq
end
/-! ### rules -/
section
variable {X : Cx} {CX : CXT} {k : Nat} {f C : Addr} {fd : FuncData} {ps : List Str} {sp : Sp} {E : XK}
/-- the object's own record -/
theorem inst_of {pins : List (Addr × Obj)} {σ : L2.St} {H : Hp} {s : Shared} {a dx : Addr} {fs : List (Str × V)} (I : Inv X pins σ H s) (e : H a = some (.ins C dx fs)) : ∃ od, PySem.W.InstAt s.heap a (PySem.W.instObj C dx) C (some od) := by
  obtain ⟨mA, O, _⟩ := ins_get I.hok e
  obtain ⟨od, J, _⟩ := O.look
  exact ⟨od, J⟩
/-- a number's operator that the class at C has as a def -/
structure OpAt (K : PySem.W.Frag) (C : Addr) (op : Operator) (f : Addr) : Prop where
  first : PySem.W.selfFirst K C = true
  at_ : PySem.W.findIn K (.ref C) (PySem.dunder op.info.2) = some (some (.ref f))
  fn : PySem.W.isFn K (.ref f) = true
/-- .. asked with an int at the right -/
structure OpInt (K : PySem.W.Frag) (C : Addr) (op : Operator) : Prop where
  back : PySem.W.findIn K (.ref C) (PySem.dunderR op.info.2) = some none
  io : ∃ fo, PySem.W.findIn K (.type "int") (PySem.dunder op.info.2) = some fo
  ir : ∃ ro, PySem.W.findIn K (.type "int") (PySem.dunderR op.info.2) = some ro
  sub : PySem.W.subIn K (.type "int") (.ref C) = some false
/-- x op y: both of the class at C; or y an int -/
def rBin (C : Addr) (sp : Sp) (E : XK) : R2 := fun x y H Q => ∃ a dx fs, x = .ref a ∧ H a = some (.ins C dx fs) ∧ ((∃ b dy gs, y = .ref b ∧ H b = some (.ins C dy gs)) ∨ ∃ i, y = .int i) ∧ sp [x, y] H Q E
theorem op_bin {op : Operator} (O : OpAt X.K C op f) (OI : OpInt X.K C op) (F : FnG X.prog X.w X.K X.mg X.base CX k f fd ps sp) (hr : Rm k X.A) (hb : Binds X.K fd ps []) (hx : Passes CX X E) : OpR X (binaryOp op) (rBin C sp E) := by
  intro pins s σ H x y v u Q I rx ry h
  obtain ⟨a, dx, fs, rfl, ha, hy, q⟩ := h
  cases (show v = Value.ref a from rx)
  obtain ⟨od, J⟩ := inst_of I ha
  obtain ⟨m, hF⟩ := I.fr
  have go : wpAny (model X.prog X.w) X.A (call (.ref f) [.ref a, u]) (PySem.W.CmpBack (EP X pins σ Q)) X.xe s := by
    refine thn (run_g (us := [.ref a, u]) (vs := [.ref a, y]) (dvs := []) F hr I.env0 hb .nil hx I (.cons rfl (.cons ry .nil)) q) fun w s' z => ?_
    obtain ⟨z', H', I', rz, qz⟩ := z
    exact SlX.cmpback rz ⟨z', H', I', rz, qz⟩
  rcases hy with ⟨b, dy, gs, rfl, hb⟩ | ⟨i, rfl⟩
  · cases (show u = Value.ref b from ry)
    obtain ⟨od', J'⟩ := inst_of I hb
    exact PySem.W.binop_K hF I.ok.mod.kin J J'.type O.first O.at_ O.fn go
  · obtain ⟨t, rfl⟩ := (show ∃ t, u = Value.int i t from ry)
    obtain ⟨fo, h1⟩ := OI.io
    obtain ⟨ro, h2⟩ := OI.ir
    exact PySem.W.ksp_binT (T := "int") hF I.ok.mod.kin J (by rfl) O.first O.at_ O.fn OI.back (.inl rfl) h1 h2 OI.sub go
/-- -x -/
def rNeg (C : Addr) (sp : Sp) (E : XK) : V → Hp → VK → Prop := fun x H Q => ∃ a dx fs, x = .ref a ∧ H a = some (.ins C dx fs) ∧ sp [x] H Q E
theorem un_own (hs : PySem.W.findIn X.K (.ref C) "__neg__" = some (some (.ref f))) (hf : PySem.W.isFn X.K (.ref f) = true) (F : FnG X.prog X.w X.K X.mg X.base CX k f fd ps sp) (hr : Rm k X.A) (hb : Binds X.K fd ps []) (hx : Passes CX X E) : UnR X (unaryOp .USub) (rNeg C sp E) := by
  intro pins s σ H x v Q I rx h
  obtain ⟨a, dx, fs, rfl, ha, q⟩ := h
  cases (show v = Value.ref a from rx)
  obtain ⟨od, J⟩ := inst_of I ha
  obtain ⟨m, hF⟩ := I.fr
  exact PySem.W.ksp_neg hF I.ok.mod.kin J hs hf (run_g (us := [.ref a]) (vs := [.ref a]) (dvs := []) F hr I.env0 hb .nil hx I (.cons rfl .nil) q)
/-- x == y by x's own __eq__, whatever y is -/
def rEqO (K : PySem.W.Frag) (C : Addr) (sp : Sp) (E : XK) : R2 := fun x y H Q => ∃ a dx fs t, x = .ref a ∧ H a = some (.ins C dx fs) ∧ TyX K H y t ∧ PySem.W.notFirst K C t = true ∧ sp [x, y] H Q E
theorem op_eqO (hs : PySem.W.findIn X.K (.ref C) "__eq__" = some (some (.ref f))) (hf : PySem.W.isFn X.K (.ref f) = true) (F : FnG X.prog X.w X.K X.mg X.base CX k f fd ps sp) (hr : Rm k X.A) (hb : Binds X.K fd ps []) (hx : Passes CX X E) : OpR X (compareOp .Eq) (rEqO X.K C sp E) := by
  intro pins s σ H x y v u Q I rx ry h
  obtain ⟨a, dx, fs, t, rfl, ha, ty, hn, q⟩ := h
  cases (show v = Value.ref a from rx)
  obtain ⟨od, J⟩ := inst_of I ha
  obtain ⟨m, hF⟩ := I.fr
  obtain ⟨P, Z, hp, _⟩ := kit_of I ry ty
  refine PySem.W.cmp_K (op := .Eq) hr.r.units0 hF I.ok.mod.kin J (Z.ty _ _ I.kIn hp) hn hs hf ?_
  refine thn (run_g (us := [.ref a, u]) (vs := [.ref a, y]) (dvs := []) F hr I.env0 hb .nil hx I (.cons rfl (.cons ry .nil)) q) fun w s' z => ?_
  obtain ⟨z', H', I', rz, qz⟩ := z
  exact SlX.cmpback rz ⟨z', H', I', rz, qz⟩
/-- x != y by x's own __eq__ -/
def rNeO (K : PySem.W.Frag) (C : Addr) (sp : Sp) (E : XK) : R2 := fun x y H Q => ∃ a dx fs t, x = .ref a ∧ H a = some (.ins C dx fs) ∧ TyX K H y t ∧ PySem.W.notFirst K C t = true ∧ sp [x, y] H (fun z H' => ∃ c, z = .bl c ∧ Q (.bl (!c)) H') E
theorem op_neO (hs : PySem.W.findIn X.K (.ref C) "__eq__" = some (some (.ref f))) (hf : PySem.W.isFn X.K (.ref f) = true) (hne : PySem.W.findIn X.K (.ref C) "__ne__" = some (some (.builtin "object.__ne__"))) (hm : PySem.W.mroIn X.K C (.type "object") = some true)
    (F : FnG X.prog X.w X.K X.mg X.base CX k f fd ps sp) (hr : Rm (k + 1) X.A) (hb : Binds X.K fd ps []) (hx : Passes CX X E) : OpR X (compareOp .NotEq) (rNeO X.K C sp E) := by
  intro pins s σ H x y v u Q I rx ry h
  obtain ⟨a, dx, fs, t, rfl, ha, ty, hn, q⟩ := h
  cases (show v = Value.ref a from rx)
  obtain ⟨od, J⟩ := inst_of I ha
  obtain ⟨P, Z, hp, _⟩ := kit_of I ry ty
  have hu := hr.r.units
  refine ne_own (by omega) I.kIn J (Z.ty _ _ I.kIn hp) hn hm hs hf hne ?_
  refine thn (run_g (us := [.ref a, u]) (vs := [.ref a, y]) (dvs := []) F hr.in1 I.env0.in1 hb .nil hx I (.cons rfl (.cons ry .nil)) q) fun w s' z => ?_
  obtain ⟨z', H', I', rz, c, rfl, qz⟩ := z
  cases (show w = Value.bool c from rz)
  exact ⟨c, rfl, .bl (!c), H', I', rfl, qz⟩
/-- repr(x), str(x) by the class's own def -/
def rShow (C : Addr) (sp : Sp) (E : XK) : List V → Hp → VK → Prop := fun xs H Q => ∃ a dx fs, xs = [.ref a] ∧ H a = some (.ins C dx fs) ∧ sp [.ref a] H (fun z H' => ∃ y, z = .str y ∧ Q z H') E
theorem call_reprO (hs : PySem.W.findIn X.K (.ref C) "__repr__" = some (some (.ref f))) (hf : PySem.W.isFn X.K (.ref f) = true) (F : FnG X.prog X.w X.K X.mg X.base CX k f fd ps sp) (hr : Rm (k + 1) X.A) (hb : Binds X.K fd ps []) (hx : Passes CX X E) : CallR X (.builtin "repr") (rShow C sp E) := by
  intro pins s σ H xs us Q I r h
  obtain ⟨a, dx, fs, rfl, ha, q⟩ := h
  obtain ⟨u, rfl, ru⟩ := r.one
  cases (show u = Value.ref a from ru)
  obtain ⟨od, J⟩ := inst_of I ha
  obtain ⟨m, hF⟩ := I.fr
  refine PySem.W.repr_K hr.in1.r.units0 hF I.ok.mod.kin J hs hf (thn (run_g (us := [.ref a]) (vs := [.ref a]) (dvs := []) F hr.in1 I.env0.in1 hb .nil hx I (.cons rfl .nil) q) fun w s' z => ?_)
  obtain ⟨z', H', I', rz, y, rfl, qz⟩ := z
  obtain ⟨t, rfl⟩ := (show ∃ t, w = Value.str y t from rz)
  exact ⟨.str y, H', I', ⟨t, rfl⟩, qz⟩
theorem call_strO (hs : PySem.W.findIn X.K (.ref C) "__str__" = some (some (.ref f))) (hf : PySem.W.isFn X.K (.ref f) = true) (F : FnG X.prog X.w X.K X.mg X.base CX k f fd ps sp) (hr : Rm (k + 2) X.A) (hb : Binds X.K fd ps []) (hx : Passes CX X E) : CallR X (.type "str") (rShow C sp E) := by
  intro pins s σ H xs us Q I r h
  obtain ⟨a, dx, fs, rfl, ha, q⟩ := h
  obtain ⟨u, rfl, ru⟩ := r.one
  cases (show u = Value.ref a from ru)
  obtain ⟨od, J⟩ := inst_of I ha
  have hr2 : Rm k X.A.in1.in1 := (show Rm (k + 1) X.A.in1 from hr.in1).in1
  refine PySem.W.kso_call hr2.r.units0 I.kIn J hs hf (thn (run_g (us := [.ref a]) (vs := [.ref a]) (dvs := []) F hr2 I.env0.in1.in1 hb .nil hx I (.cons rfl .nil) q) fun w s' z => ?_)
  obtain ⟨z', H', I', rz, y, rfl, qz⟩ := z
  obtain ⟨t, rfl⟩ := (show ∃ t, w = Value.str y t from rz)
  exact ⟨.str y, H', I', ⟨t, rfl⟩, qz⟩
/-- repr of data: ints, texts, bools, None, lists and tuples of these -/
def rRepD (K : PySem.W.Frag) : List V → Hp → VK → Prop := fun xs H Q => ∃ a d, xs = [.ref a] ∧ Dp K H (.ref a) d ∧ d.showable = true ∧ d.hasDict = false ∧ d.depth ≤ 40 ∧ d.shown.length ≤ sizeLine ∧ Q (.str d.shown) H
theorem call_reprD (hr : Rm k X.A) (hk : 12 < k := by decide) : CallR X (.builtin "repr") (rRepD X.K) := by
  intro pins s σ H xs us Q I r h
  obtain ⟨a, d, rfl, hd, hs, hn, hp, hz, q⟩ := h
  obtain ⟨u, rfl, ru⟩ := r.one
  obtain ⟨as, rd⟩ := Dp.reads I d _ _ hd ru
  cases (show u = Value.ref a from ru)
  have hu := hr.r.units
  exact repr_of_reads' rd hs (fun z => by rw [hn] at z; cases z) (hr.g hk) (by omega) (fun _ _ e => e) (fun h' u tk hk => ⟨.str d.shown, H, I.kept hk, ⟨_, rfl⟩, q⟩) hz
end
end LL

set_option Elab.async false
set_option linter.all false
set_option maxRecDepth 100000
set_option maxHeartbeats 2000000
/-! LLCall: a def, a method, a maker, a property, each as one fact; some operators. -/
namespace LL
open PySem PySem.Spec PyProof.Rows L2
section
variable (P : Program) (w : World) (K : PySem.W.Frag) (mg : Str → Option Value) (base : Heap) (CX : CXT) (k : Nat)
/-- the module's name x is a def that keeps sp; dvs fill up -/
structure Fnc (x : Str) (dvs : List V) (sp : Sp) : Prop where
  ex : ∃ (f : Addr) (fd : FuncData) (ps : List Str) (ds : List Value), mg x = some (.ref f) ∧ PySem.W.keepIn K (.ref f) = true ∧ Binds K fd ps ds ∧ Vals dvs ds ∧ FnG P w K mg base CX k f fd ps sp
/-- the class at C has the method m -/
structure Mth (C : Addr) (m : Str) (dvs : List V) (sp : Sp) : Prop where
  cl : Cls K C
  ex : ∃ (f : Addr) (fd : FuncData) (ps : List Str) (ds : List Value), Meth K C m f ∧ Binds K fd ps ds ∧ Vals dvs ds ∧ FnG P w K mg base CX k f fd ps sp
/-- the module's name x is the class at C, made by an __init__ that keeps sp -/
structure Mkr (x : Str) (C : Addr) (dvs : List V) (sp : Sp) : Prop where
  ex : ∃ (f : Addr) (fd : FuncData) (ps : List Str) (ds : List Value), Mk K C f ∧ mg x = some (.ref C) ∧ Binds K fd ps ds ∧ Vals dvs ds ∧ FnG P w K mg base CX k f fd ps sp
/-- the class at C has the property m -/
structure Prp (C : Addr) (m : Str) (sp : Sp) : Prop where
  cl : Cls K C
  ex : ∃ (p g : Addr) (fd : FuncData) (ps : List Str), PropOf K C m p g ∧ Binds K fd ps [] ∧ FnG P w K mg base CX k g fd ps sp
end
section
variable {X : Cx} {CX : CXT} {k : Nat} {C : Addr} {sp : Sp} {dvs : List V} {E : XK} {x m : Str} {p pos apos : Pos} {e o : Expr} {es : List Expr} {ta : TE} {t : TA}
theorem pe_fn (G : Fnc X.prog X.w X.K X.mg X.base CX k x dvs sp) (hr : Rm k X.A) (hx : Passes CX X E) (ha : PA X (e :: es) t) (hg : Gl X x := by rfl) (hdb : (x == ("__debug__" : Str)) = false := by decide)
    (he : starEach (e :: es) X.env = (false, eval e X.env) :: starEach es X.env := by rfl) (hpl : (backTo pos (starEach es X.env)).any (·.1) = false := by rfl) : PE X (.Call (.Name x p) (e :: es) [] pos) (tCall sp dvs E t) := by
  obtain ⟨f, fd, ps, ds, hm, hk, hb, hd, F⟩ := G.ex
  exact pe_callG F hr hg hm hk hb hd hx ha hdb he hpl
theorem pe_fn0 (G : Fnc X.prog X.w X.K X.mg X.base CX k x dvs sp) (hr : Rm k X.A) (hx : Passes CX X E) (hg : Gl X x := by rfl) (hdb : (x == ("__debug__" : Str)) = false := by decide) : PE X (.Call (.Name x p) [] [] pos) (tCall sp dvs E tNil) := by
  obtain ⟨f, fd, ps, ds, hm, hk, hb, hd, F⟩ := G.ex
  exact pe_call0G F hr hg hm hk hb hd hx hdb
theorem pe_mt {pl : Sem Bool} (G : Mth X.prog X.w X.K X.mg X.base CX k C m dvs sp) (hr : Rm k X.A) (hx : Passes CX X E) (he : PE X o ta) (ha : PA X (e :: es) t)
    (hst : starEach (e :: es) X.env = (false, eval e X.env) :: starEach es X.env := by rfl) (hpl : (backTo pos (starEach es X.env)).any (·.1) = false := by rfl)
    (ht : eval (.Call (.Attribute o m apos) (e :: es) [] pos) X.env = (do
      let ov ← eval o X.env
      standAt apos.atName
      let (f, first) ← holding [ov] (getMethod ov m pl)
      callWith pos f first (backTo pos (starEach (e :: es) X.env)) (backToKw pos (keywordEach [] X.env))) := by rfl) : PE X (.Call (.Attribute o m apos) (e :: es) [] pos) (tMeth C m sp dvs E ta t) := by
  obtain ⟨f, fd, ps, ds, hm, hb, hd, F⟩ := G.ex
  exact pe_methG he G.cl hm F hr hb hd hx ha hst hpl ht
theorem pe_mt0 {pl : Sem Bool} (G : Mth X.prog X.w X.K X.mg X.base CX k C m dvs sp) (hr : Rm k X.A) (hx : Passes CX X E) (he : PE X o ta)
    (ht : eval (.Call (.Attribute o m apos) [] [] pos) X.env = (do
      let ov ← eval o X.env
      standAt apos.atName
      let (f, first) ← holding [ov] (getMethod ov m pl)
      callWith pos f first (backTo pos (starEach [] X.env)) (backToKw pos (keywordEach [] X.env))) := by rfl) : PE X (.Call (.Attribute o m apos) [] [] pos) (tMeth C m sp dvs E ta tNil) := by
  obtain ⟨f, fd, ps, ds, hm, hb, hd, F⟩ := G.ex
  exact pe_meth0G he G.cl hm F hr hb hd hx ht
theorem pe_mk (G : Mkr X.prog X.w X.K X.mg X.base CX k x C dvs sp) (hr : Rm (k + 1) X.A) (hx : Passes CX X E) (ha : PA X (e :: es) t) (hg : Gl X x := by rfl) (hdb : (x == ("__debug__" : Str)) = false := by decide)
    (he : starEach (e :: es) X.env = (false, eval e X.env) :: starEach es X.env := by rfl) (hpl : (backTo pos (starEach es X.env)).any (·.1) = false := by rfl) : PE X (.Call (.Name x p) (e :: es) [] pos) (tMake C sp dvs E t) := by
  obtain ⟨f, fd, ps, ds, M, hm, hb, hd, F⟩ := G.ex
  exact pe_makeG M F hr hg hm hb hd hx ha hdb he hpl
theorem pe_mk0 (G : Mkr X.prog X.w X.K X.mg X.base CX k x C dvs sp) (hr : Rm (k + 1) X.A) (hx : Passes CX X E) (hg : Gl X x := by rfl) (hdb : (x == ("__debug__" : Str)) = false := by decide) : PE X (.Call (.Name x p) [] [] pos) (tMake C sp dvs E tNil) := by
  obtain ⟨f, fd, ps, ds, M, hm, hb, hd, F⟩ := G.ex
  exact pe_make0G M F hr hg hm hb hd hx hdb
/-- e.m, a property -/
def tPr (C : Addr) (sp : Sp) (E : XK) (ta : TE) : TE := fun σ H Q => ta σ H fun x H1 => ∃ a dx fs, x = .ref a ∧ H1 a = some (.ins C dx fs) ∧ sp [.ref a] H1 Q E
theorem pe_pr (G : Prp X.prog X.w X.K X.mg X.base CX k C m sp) (hr : Rm (k + 1) X.A) (hx : Passes CX X.nox E) (he : PE X e ta) (hab : attributeBase e m X.env (eval e X.env) = eval e X.env := by rfl) : PE X (.Attribute e m pos) (tPr C sp E ta) := by
  obtain ⟨p, g, fd, ps, hp, hb, F⟩ := G.ex
  refine ⟨fun pins s σ H Q I h => attr_of hab (thn (he.run pins s σ H _ I h) fun u s1 hh => ?_)⟩
  obtain ⟨x, H1, I1, rx, a, dx, fs, rfl, ea, q⟩ := hh
  obtain rfl : u = Value.ref a := rx
  obtain ⟨od, J⟩ := inst_of I1 ea
  have c := G.cl
  have hc : (PySem.W.clsIn X.K C).isSome = true := by
    obtain ⟨cd, hc, _⟩ := PySem.W.any_some c.hd
    rw [hc]
    rfl
  obtain ⟨rest, hrec⟩ := hp.rec_
  have I2 : Inv X pins σ H1 { s1 with toks := s1.toks + 1 } := I1.tok _
  have hl : ([Value.ref a] : List Value).length = ps.length := F.len _ _ _ _ q
  refine PySem.W.get_bind I1.kIn J (PySem.W.plainGet_of (c.get m)).1 (PySem.W.findObj_data hc hp.at_ hp.get hp.tak) (PySem.W.plainGet_of (c.get m)).2 (wpAny_call (PySem.W.prop_get (s := { s1 with toks := s1.toks + 1 }) I1.kIn hrec ?_))
  have go := F.run X.A.in1 X.stack { s1 with toks := s1.toks + 1 } H1 ⟨[.ref a], []⟩ [.ref a] [.ref a] Q E hr.in1 I2.env0.in1 (hb _ [.ref a] I2.kIn hl) (.cons rfl .nil) q
  refine codeAny_mono go fun r s' hq => ?_
  match r, hq with
  | .error er, hq => exact False.elim (hx pins σ H1 _ er s' (I2.wish _) hq)
  | .ok (.ret u), hq =>
    obtain ⟨v, H', I3, rv, q3⟩ := I2.after hq
    exact wpAny_of_eq (PySem.W.handedOut_of (handed_of rv)) ⟨v, H', I3, rv, q3⟩
  | .ok .next, hq => exact False.elim hq
  | .ok .brk, hq => exact False.elim hq
  | .ok .cont, hq => exact False.elim hq
/-! ### some operators -/
/-- // by any number but 0 -/
def CDivZ (_ j : Int) : Prop := j ≠ 0 ∧ j.natAbs.log2 < 9000
theorem op_fdivZ : OpR X (binaryOp .FloorDiv) (rI CDivZ fun i j => .int (i.fdiv j)) := opI fun _ _ _ _ _ _ _ hc q => floordiv_int hc.1 q (.inl (PyProof.noPylong_of_log2 hc.2))
theorem wide_divZ {i j : Int} {b : Nat} (h : j ≠ 0) (hb : j.natAbs < 2 ^ b) (h0 : 0 < b) (h9 : b ≤ 9000) : CDivZ i j := ⟨h, Nat.lt_of_lt_of_le (PySem.Flt.log2_lt_of h0 hb) h9⟩
end
/-! ### tests -/
theorem iteY {c : Bool} {A B : Prop} (h : c = true) (a : A) : if c = true then A else B := by
  rw [if_pos h]
  exact a
theorem iteN {c : Bool} {A B : Prop} (h : c = false) (b : B) : if c = true then A else B := by
  rw [if_neg (by rw [h]; exact Bool.false_ne_true)]
  exact b
theorem iteB {c : Bool} {A B : Prop} (h1 : c = true → A) (h2 : c = false → B) : if c = true then A else B := by
  cases c with
  | true => exact iteT (h1 rfl)
  | false => exact iteF (h2 rfl)
theorem dec_ne {i j : Int} (h : i ≠ j) : decide (V.int i = V.int j) = false := decide_eq_false fun z => h (V.int.inj z)
theorem dec_eq {i j : Int} (h : i = j) : decide (V.int i = V.int j) = true := decide_eq_true (by rw [h])
/-! ### heaps -/
/-- all that was tracked but p is as it was -/
def But (p : Addr) (H H' : Hp) : Prop := ∀ b o, H b = some o → b ≠ p → H' b = some o
theorem But.refl {p : Addr} {H : Hp} : But p H H := fun _ _ e _ => e
theorem But.trans {p : Addr} {H H1 H2 : Hp} (a : But p H H1) (b : But p H1 H2) : But p H H2 := fun c o e n => b c o (a c o e n) n
theorem But.of {p : Addr} {H H' : Hp} (a : Same H H') : But p H H' := fun c o e _ => a c o e
theorem same_upd {H : Hp} {p : Addr} {o : HO} (h : H p = none) : Same H (upd H p o) := fun b x e => by
  rw [upd_ne (ne_of_none e h)]
  exact e
theorem but_upd {H : Hp} {p : Addr} {o : HO} : But p H (upd H p o) := fun b x e n => by
  rw [upd_ne n]
  exact e
/-- what was new at p stands beside what was -/
theorem But.same {p : Addr} {H H' : Hp} (a : But p H H') (n : H p = none) : Same H H' := fun b o e => a b o e (ne_of_none e n)
theorem But.free {p : Addr} {H H' : Hp} (a : But p H H') {b : Addr} (hb : b ≠ p) (h : H' b = none) : H b = none := by
  cases q : H b with
  | none => rfl
  | some o =>
    rw [a b o q hb] at h
    cases h
end LL

set_option Elab.async false
set_option linter.all false
set_option maxRecDepth 100000
set_option maxHeartbeats 2000000
/-! LLData: what repr of data is, how long it is. -/
namespace LL
open PySem PySem.Spec PyProof.Rows L2
/-- signs as texts have them -/
def Asc (x : Str) : Prop := ∀ c ∈ x.cps.toList, c < 16 ^ 8
theorem asc_of (s : String) : Asc (Str.ofString s) := by
  intro c hc
  rw [signs_ofString] at hc
  obtain ⟨k, _, rfl⟩ := List.mem_map.mp hc
  have h : k.toNat < 1114112 := by
    have := k.valid
    rcases this with h | ⟨_, h⟩
    · exact Nat.lt_trans h (by decide)
    · exact h
  exact Nat.lt_trans h (by decide)
theorem Asc.app {x y : Str} (hx : Asc x) (hy : Asc y) : Asc (x ++ y) := by
  intro c hc
  rw [Str.cps_append, Array.toList_append] at hc
  rcases List.mem_append.mp hc with h | h
  · exact hx c h
  · exact hy c h
theorem textFrom_size : ∀ (ts : List Str) (k : Nat) (acc : Str), (textFrom k acc ts).length ≤ acc.length + piled ts
  | [], _, acc => Nat.le_add_right _ _
  | t :: r, k, acc => by
    have h := textFrom_size r (k + 1) (acc ++ (if k > 0 then ", " else "" : String) ++ t)
    have e : (((if k > 0 then ", " else "" : String) : Str)).length ≤ 2 := by split <;> decide +kernel
    rw [strLen_append, strLen_append] at h
    rw [piled_cons]
    show (textFrom (k + 1) _ r).length ≤ _
    omega
theorem listText_size (ts : List Str) : (listText ts).length ≤ piled ts + 2 := by
  have h := textFrom_size ts 0 "["
  unfold listText
  rw [strLen_append]
  have e1 : ((("[" : String) : Str)).length = 1 := rfl
  have e2 : ((("]" : String) : Str)).length = 1 := rfl
  omega
mutual
/-- a bound on the signs that are shown -/
def cost : PyData → Nat
  | .none => 5
  | .bool _ => 5
  | .int _ => 1930
  | .str x => 10 * x.length + 2
  | .list xs => costAll xs + 2
  | .tuple xs => costAll xs + 2
  | .dict _ => 0
def costAll : List PyData → Nat
  | [] => 0
  | x :: xs => cost x + 2 + costAll xs
end
mutual
/-- data without dicts that repr can show -/
def Shw : PyData → Prop
  | .none => True
  | .bool _ => True
  | .int i => i.natAbs.log2 < 1920
  | .str x => Asc x
  | .list xs => ShwAll xs
  | .tuple xs => ShwAll xs
  | .dict _ => False
def ShwAll : List PyData → Prop
  | [] => True
  | x :: xs => Shw x ∧ ShwAll xs
end
mutual
theorem Shw.all : ∀ d : PyData, Shw d → d.shown.length ≤ cost d ∧ d.showable = true ∧ d.hasDict = false
  | .none, _ => ⟨by simp only [PyData.shown, cost]; decide +kernel, by simp only [PyData.showable], by simp only [PyData.hasDict]⟩
  | .bool b, _ => ⟨by simp only [PyData.shown, cost]; cases b <;> decide +kernel, by simp only [PyData.showable], by simp only [PyData.hasDict]⟩
  | .int i, h => by
    simp only [Shw] at h
    refine ⟨?_, by simp only [PyData.showable]; exact decide_eq_true h, by simp only [PyData.hasDict]⟩
    simp only [PyData.shown, cost]
    have e := int_text_length_le (k := 1920) (by decide) h
    rw [PySem.ofString_length]
    omega
  | .str x, h => by
    simp only [Shw] at h
    exact ⟨by simp only [PyData.shown, cost]; exact StrLaws.reprText_len x h, by simp only [PyData.showable], by simp only [PyData.hasDict]⟩
  | .list xs, h => by
    simp only [Shw] at h
    obtain ⟨h1, h2, h3⟩ := ShwAll.all xs h
    refine ⟨?_, by simp only [PyData.showable]; exact h2, by simp only [PyData.hasDict]; exact h3⟩
    simp only [PyData.shown, cost]
    exact Nat.le_trans (listText_size _) (by omega)
  | .tuple xs, h => by
    simp only [Shw] at h
    obtain ⟨h1, h2, h3⟩ := ShwAll.all xs h
    refine ⟨?_, by simp only [PyData.showable]; exact h2, by simp only [PyData.hasDict]; exact h3⟩
    simp only [PyData.shown, cost]
    exact Nat.le_trans (fmt_text _) (by omega)
  | .dict _, h => by
    simp only [Shw] at h
theorem ShwAll.all : ∀ xs : List PyData, ShwAll xs → piled (PyData.shownAll xs) ≤ costAll xs ∧ PyData.showableAll xs = true ∧ PyData.hasDictAll xs = false
  | [], _ => ⟨by simp only [PyData.shownAll, costAll]; exact Nat.le_refl _, by simp only [PyData.showableAll], by simp only [PyData.hasDictAll]⟩
  | x :: xs, h => by
    simp only [ShwAll] at h
    obtain ⟨a1, a2, a3⟩ := Shw.all x h.1
    obtain ⟨b1, b2, b3⟩ := ShwAll.all xs h.2
    refine ⟨?_, by simp only [PyData.showableAll]; rw [a2, b2]; rfl, by simp only [PyData.hasDictAll]; rw [a3, b3]; rfl⟩
    simp only [PyData.shownAll, costAll]
    rw [piled_cons]
    omega
end
section
variable {X : Cx} {k : Nat}
/-- repr of a list or tuple of such -/
def rRepS (K : PySem.W.Frag) : List V → Hp → VK → Prop := fun xs H Q => ∃ a d, xs = [.ref a] ∧ Dp K H (.ref a) d ∧ Shw d ∧ d.depth ≤ 40 ∧ cost d ≤ sizeLine ∧ Q (.str d.shown) H
theorem call_reprS (hr : Rm k X.A) (hk : 12 < k := by decide) : CallR X (.builtin "repr") (rRepS X.K) := by
  intro pins s σ H xs us Q I r h
  obtain ⟨a, d, rfl, hd, hs, hp, hz, q⟩ := h
  obtain ⟨h1, h2, h3⟩ := Shw.all d hs
  exact call_reprD hr hk pins s σ H _ us Q I r ⟨a, d, rfl, hd, h2, h3, hp, Nat.le_trans h1 hz, q⟩
/-- repr of what is no object: None, a bool, an int, a text -/
def rRepF : List V → Hp → VK → Prop := fun xs H Q => (∃ i, xs = [.int i] ∧ i.natAbs.log2 < 1920 ∧ Q (.str (toString i)) H) ∨ (∃ b, xs = [.bl b] ∧ Q (.str (if b then "True" else "False")) H) ∨ (xs = [.non] ∧ Q (.str "None") H) ∨
  (∃ x, xs = [.str x] ∧ (reprText x).length ≤ sizeLine ∧ Q (.str (reprText x)) H)
theorem call_reprF : CallR X (.builtin "repr") rRepF := by
  intro pins s σ H xs us Q I r h
  rcases h with ⟨i, rfl, hi, q⟩ | ⟨b, rfl, q⟩ | ⟨rfl, q⟩ | ⟨x, rfl, hx, q⟩
  · obtain ⟨u, rfl, ru⟩ := r.one
    obtain ⟨t, rfl⟩ := (show ∃ t, u = Value.int i t from ru)
    exact PySem.P.repr_of_int hi ⟨.str _, H, I.tok _, ⟨_, rfl⟩, q⟩
  · obtain ⟨u, rfl, ru⟩ := r.one
    cases (show u = Value.bool b from ru)
    exact PySem.P.repr_of_bool ⟨.str _, H, I.tok _, ⟨_, rfl⟩, q⟩
  · obtain ⟨u, rfl, ru⟩ := r.one
    cases (show u = Value.none from ru)
    exact PySem.P.repr_of_none ⟨.str _, H, I.tok _, ⟨_, rfl⟩, q⟩
  · obtain ⟨u, rfl, ru⟩ := r.one
    obtain ⟨t, rfl⟩ := (show ∃ t, u = Value.str x t from ru)
    exact PySem.P.repr_of_str ⟨.str _, H, I.tok _, ⟨_, rfl⟩, q⟩ hx
end
/-! ### an operator, a special method of an own class, each as one fact -/
section
variable (P : Program) (w : World) (K : PySem.W.Frag) (mg : Str → Option Value) (base : Heap) (CX : CXT) (k : Nat)
structure OpF (C : Addr) (op : Operator) (sp : Sp) : Prop where
  ex : ∃ (f : Addr) (fd : FuncData) (ps : List Str), OpAt K C op f ∧ OpInt K C op ∧ Binds K fd ps [] ∧ FnG P w K mg base CX k f fd ps sp
structure SpF (C : Addr) (m : Str) (sp : Sp) : Prop where
  ex : ∃ (f : Addr) (fd : FuncData) (ps : List Str), PySem.W.findIn K (.ref C) m = some (some (.ref f)) ∧ PySem.W.isFn K (.ref f) = true ∧ Binds K fd ps [] ∧ FnG P w K mg base CX k f fd ps sp
end
section
variable {X : Cx} {CX : CXT} {k : Nat} {C : Addr} {sp : Sp} {E : XK}
theorem op_binF {op : Operator} (O : OpF X.prog X.w X.K X.mg X.base CX k C op sp) (hr : Rm k X.A) (hx : Passes CX X E) : OpR X (binaryOp op) (rBin C sp E) := by
  obtain ⟨f, fd, ps, o1, o2, hb, F⟩ := O.ex
  exact op_bin o1 o2 F hr hb hx
theorem un_negF (O : SpF X.prog X.w X.K X.mg X.base CX k C "__neg__" sp) (hr : Rm k X.A) (hx : Passes CX X E) : UnR X (unaryOp .USub) (rNeg C sp E) := by
  obtain ⟨f, fd, ps, o1, o2, hb, F⟩ := O.ex
  exact un_own o1 o2 F hr hb hx
theorem op_eqF (O : SpF X.prog X.w X.K X.mg X.base CX k C "__eq__" sp) (hr : Rm k X.A) (hx : Passes CX X E) : OpR X (compareOp .Eq) (rEqO X.K C sp E) := by
  obtain ⟨f, fd, ps, o1, o2, hb, F⟩ := O.ex
  exact op_eqO o1 o2 F hr hb hx
theorem op_neF (O : SpF X.prog X.w X.K X.mg X.base CX k C "__eq__" sp) (hne : PySem.W.findIn X.K (.ref C) "__ne__" = some (some (.builtin "object.__ne__"))) (hm : PySem.W.mroIn X.K C (.type "object") = some true) (hr : Rm (k + 1) X.A) (hx : Passes CX X E) : OpR X (compareOp .NotEq) (rNeO X.K C sp E) := by
  obtain ⟨f, fd, ps, o1, o2, hb, F⟩ := O.ex
  exact op_neO o1 o2 hne hm F hr hb hx
theorem call_reprOF (O : SpF X.prog X.w X.K X.mg X.base CX k C "__repr__" sp) (hr : Rm (k + 1) X.A) (hx : Passes CX X E) : CallR X (.builtin "repr") (rShow C sp E) := by
  obtain ⟨f, fd, ps, o1, o2, hb, F⟩ := O.ex
  exact call_reprO o1 o2 F hr hb hx
theorem call_strOF (O : SpF X.prog X.w X.K X.mg X.base CX k C "__str__" sp) (hr : Rm (k + 2) X.A) (hx : Passes CX X E) : CallR X (.type "str") (rShow C sp E) := by
  obtain ⟨f, fd, ps, o1, o2, hb, F⟩ := O.ex
  exact call_strO o1 o2 F hr hb hx
end
end LL

set_option Elab.async false
set_option linter.all false
set_option maxRecDepth 100000
set_option maxHeartbeats 2000000
/-! LLEnd: the law's end over FnG; the head's facts as any tests of the written part. -/
namespace LL
open PySem PySem.Spec PyProof.Rows L2
section
variable {P : Program} {w : World} {K : PySem.W.Frag} {mg mb : Str → Option Value} {CX : CXT} {k : Nat} {fa a : Addr} {fd : FuncData} {x : Str} {sp : Sp} {t : Shared} {us : List Value} {ns : List Int}
/-- what the caller asks of the law's call -/
abbrev LawEnd (t : Shared) (r : Result) (t' : Shared) : Prop := r = .ok (.ret (.bool true)) ∧ OldK t.heap t'.heap ∧ t'.os = t.os ∧ AllBare t'.gens
/-- the law's call where H tracks at most the script -/
theorem lawAt {H : Hp} {osc : Obj} (KX : K.In t.heap) (hns : t.heap.Ns mainGlobals mg) (hb : t.heap.Ns builtinsNs mb) (hbb : ∀ x : Str, x ≠ "__name__" → mb x = bootBuiltins x) (hlim : t.heap.NoLimit) (hg : t.gens = #[])
    (ha : t.heap.get? a = some osc) (hd : ∀ es ep, osc.data ≠ .dict es ep) (hr : Rm k callerA) (F : ∀ base : Heap, K.In base → base.Ns mainGlobals mg → FnG P w K mg base CX k fa fd [x] sp)
    (bd : ∀ (s : Shared) (u : Value), BindsTo s fd ⟨[u], []⟩ [(x, u)]) (hsp : sp [.ref a] H (fun v _ => v = .bl true) fun _ _ _ => False) (hCX : ∀ e s', CX [] H t (fun _ _ _ => False) e s' → False)
    (only : ∀ b, H b = none ∨ (b = a ∧ K.lookup a = none ∧ ∃ o l, H b = some (.frz o (.lst l)))) (hok : HOk P w H t.heap) : codeAny (model P w) callerA (.call (.ref fa) ⟨[.ref a], []⟩) (LawEnd t) t := by
  have free : ∀ {b : Addr} {o : Obj}, t.heap.get? b = some o → (b = a → K.lookup a = none → False) → H b = none := fun {b o} _ h =>
    (only b).elim id fun q => (h q.1 q.2.1).elim
  have nsB : ∀ {b : Addr} {m : Str → Option Value}, t.heap.Ns b m → (hidT t.heap H).Ns b m := by
    rintro b m ⟨o, es, ep, e, d, r⟩
    refine ⟨o, es, ep, hidT_get e (free e fun z _ => ?_), d, r⟩
    subst z
    rw [ha] at e
    cases e
    exact hd _ _ d
  have kB : K.In (hidT t.heap H) := by
    intro b o e
    refine hidT_get (KX b o e) (free (KX b o e) fun z q => ?_)
    rw [z, q] at e
    cases e
  obtain ⟨ml, l1, l2⟩ := hlim
  have env : Env0 P w K mg (hidT t.heap H) callerA [] t H :=
    { frames := rfl
      mod := ⟨kB, nsB hns, ⟨mb, nsB hb, hbb⟩, ⟨ml, nsB l1, l2⟩⟩
      bs := fun _ _ e => of_hidT e
      bsz := Nat.le_of_eq (hidT_size _ _)
      funs := trivial
      frf := fun _ z => by cases (show _ ∈ ([] : List Addr) from z)
      hok := hok
      bare := .of_eq hg }
  have go := (F _ kB (nsB hns)).run callerA [] t H ⟨[.ref a], []⟩ [.ref a] [.ref a] _ _ hr env (bd t (.ref a)) (.cons rfl .nil) hsp
  refine codeAny_mono go fun r t' h => ?_
  match r, h with
  | .error e, h => exact (hCX e t' h).elim
  | .ok .next, h => exact False.elim h
  | .ok .brk, h => exact False.elim h
  | .ok .cont, h => exact False.elim h
  | .ok (.ret u), h =>
    obtain ⟨v, H', e1, e2, un, hok', rv, (rfl : v = .bl true)⟩ := h
    cases (show u = Value.bool true from rv)
    refine ⟨rfl, OldK.of_keep fun b o e => ?_, e1, e2⟩
    rcases only b with n | ⟨_, _, ob, l, z⟩
    · exact un.keep b o e n (fun z => by cases (show b ∈ ([] : List Addr) from z)) (fun z => by cases z)
    · have z1 := (hok b _ z).1
      have z2 := (hok' b _ (un.frzs b ob _ z)).1
      rw [e] at z1
      cases z1
      exact z2
/-- the law's call -/
theorem lawG (KX : K.In t.heap) (hns : t.heap.Ns mainGlobals mg) (hb : t.heap.Ns builtinsNs mb) (hbb : ∀ x : Str, x ≠ "__name__" → mb x = bootBuiltins x) (hlim : t.heap.NoLimit) (hg : t.gens = #[])
    (ha : t.heap.get? a = some { cls := .type "list", data := .seq us.toArray }) (hi : IntsAre us ns) (hl : ns.length ≤ sizeLine) (hr : Rm k callerA) (F : ∀ base : Heap, K.In base → base.Ns mainGlobals mg → FnG P w K mg base CX k fa fd [x] sp)
    (bd : ∀ (s : Shared) (u : Value), BindsTo s fd ⟨[u], []⟩ [(x, u)]) (hsp : ∀ H : Hp, SqL K H a (ns.map V.int) → sp [.ref a] H (fun v _ => v = .bl true) fun _ _ _ => False) (hCX : ∀ H e s', CX [] H t (fun _ _ _ => False) e s' → False) :
    codeAny (model P w) callerA (.call (.ref fa) ⟨[.ref a], []⟩) (LawEnd t) t := by
  have rv := vals_ints hi
  have dd : ∀ es ep, ({ cls := .type "list", data := .seq us.toArray } : Obj).data ≠ .dict es ep := fun _ _ z => by cases z
  cases q : K.lookup a with
  | none =>
    let H : Hp := fun b => if b = a then some (.frz { cls := .type "list", data := .seq us.toArray } (.lst (ns.map V.int))) else none
    have Ha : H a = some (.frz { cls := .type "list", data := .seq us.toArray } (.lst (ns.map V.int))) := if_pos rfl
    have Hn : ∀ b, b ≠ a → H b = none := fun b n => if_neg n
    refine lawAt (H := H) KX hns hb hbb hlim hg ha dd hr F bd (hsp H (.inl (.inr ⟨_, Ha⟩))) (hCX H) (fun b => ?_) fun b u z => ?_
    · by_cases c : b = a
      · exact .inr ⟨c, q, _, _, by rw [c]; exact Ha⟩
      · exact .inl (Hn b c)
    · by_cases c : b = a
      · subst c
        rw [Ha] at z
        cases z
        exact ⟨ha, by rw [List.length_map]; exact hl, us, _, rv, ha⟩
      · rw [Hn b c] at z
        cases z
  | some o =>
    have e := KX a o q
    rw [ha] at e
    cases e
    refine lawAt (H := fun _ => none) KX hns hb hbb hlim hg ha dd hr F bd (hsp _ (.inr ⟨_, us.toArray, _, q, rfl, rfl, rfl, ?_, by simpa using rv⟩)) (hCX _) (fun _ => .inl rfl) fun b u z => by cases z
    rw [List.size_toArray, hi.length]
    exact hl
end
/-- the goal that the head leaves, from the law's promise -/
theorem walkG {l : PySem.W.OpenLaw} {n k : Nat} {q : Program} {loose : List Str} {XP : (Str → Option Value) → Heap → Prop} {YP : World → Heap → Prop} {d : DefRec} {CX : CXT} {x : Str} (hn : l.most = some n) (hn2 : n ≤ sizeLine) (hdf : d.params.defaults = []) (hr : Rm k callerA)
    (F : ∀ (w : World) (mg : Str → Option Value) (fa : Addr) (h : Heap), YP w h → h.Ns mainGlobals mg → mg d.name = some (.ref fa) →
      ∃ (K : PySem.W.Frag) (fd : FuncData) (sp : Sp), K.In h ∧ (∀ (s : Shared) (u : Value), BindsTo s fd ⟨[u], []⟩ [(x, u)]) ∧
        (∀ (H : Hp) (a : Addr) (ns : List Int), ns.length ≤ n → (∀ i ∈ ns, Builtin.Int.intBits i ≤ 1048576) → SqL K H a (ns.map V.int) → sp [.ref a] H (fun v _ => v = .bl true) fun _ _ _ => False) ∧ ∀ base : Heap, K.In base → base.Ns mainGlobals mg → FnG l.prog w K mg base CX k fa fd [x] sp)
    (hCX : ∀ (H : Hp) (s : Shared) (e : Value) (s' : Shared), CX [] H s (fun _ _ _ => False) e s' → False) : PySem.W.WalkO q loose XP YP l.row.toRowW d [] (fun f vs => PySem.call f vs) := by
  refine Att.attach_callB hn hdf fun w _ t mg mb fa _ _ _ _ a us ns G Y _ _ _ hm ho hi hlen hbits hg => ?_
  obtain ⟨K, fd, sp, KX, bd, hs, hF⟩ := F w mg fa _ Y G.T.g hm
  exact lawG KX G.T.g G.T.b G.T.builtins G.T.nolimit hg ho hi (Nat.le_trans hlen hn2) hr hF bd (fun H hS => hs H a ns hlen hbits hS) fun H e s' => hCX H t e s'
/-! ### the Hook: tests of the written part, and defs -/
abbrev Ft : Type := PySem.W.Frag → Bool
def obsX (ft : List Ft) (fn : List He.DefD) (K : PySem.W.Frag) : He.AlD := ((ft.all fun f => f K) && fn.all fun d => d.ok K, fn.map fun d => He.fnW K d.at_)
def SaysX (ft : List Ft) (fn : List He.DefD) (K : PySem.W.Frag) : Prop := obsX ft fn K = He.valD fn
def obsXG (n : Nat) (ft : List Ft) (fn : List He.DefD) (g : Addr → Option Obj) : He.AlD := obsX ft fn (He.frG g (He.asD g n))
def hookX (n : Nat) (ft : List Ft) (fn : List He.DefD) : PySem.W.Hook where
  α := He.AlD
  obs := fun s => obsXG n ft fn s.heap.get?
  val := fun _ => He.valD fn
  says := fun _ h => ∃ K : PySem.W.Frag, K.In h ∧ SaysX ft fn K
  of := fun _ _ e => ⟨_, He.frG_in, e⟩
  keeps := fun _ _ _ ⟨K, hK, c⟩ k => ⟨K, PySem.W.Frag.In.keeps hK k, c⟩
theorem obsXG_eq {n : Nat} {ft : List Ft} {fn : List He.DefD} {g : Addr → Option Obj} {s : Shared} (h : ∀ a, g a = s.heap.get? a) : obsXG n ft fn g = (hookX n ft fn).obs s := by
  have e : g = s.heap.get? := funext h
  rw [e] <;> rfl
theorem SaysX.fact {ft : List Ft} {fn : List He.DefD} {K : PySem.W.Frag} (c : SaysX ft fn K) (i : Nat) {f : Ft} (h : ft[i]? = some f := by rfl) : f K = true := by
  have e : ((ft.all fun f => f K) && fn.all fun d => d.ok K) = true := congrArg Prod.fst c
  exact List.all_eq_true.mp (He.ba e).1 f (List.mem_of_getElem? h)
theorem SaysX.def_ {ft : List Ft} {fn : List He.DefD} {K : PySem.W.Frag} (c : SaysX ft fn K) (i : Nat) {d : He.DefD} (h : fn[i]? = some d := by rfl) : ∃ fd, FunD K d.name d.qual d.params d.body d.scope (d.dvs K) (d.kws K) (He.fAd K d.at_) fd := by
  have e : ((ft.all fun f => f K) && fn.all fun d => d.ok K) = true := congrArg Prod.fst c
  have e1 : (fn.map fun d => He.fnW K d.at_)[i]? = (fn.map He.DefD.val)[i]? := congrArg (fun z : He.AlD => z.2[i]?) c
  rw [List.getElem?_map, List.getElem?_map, h] at e1
  exact He.DefD.funD (Option.some.inj e1) (List.all_eq_true.mp (He.ba e).2 d (List.mem_of_getElem? h))
end LL

set_option Elab.async false
set_option linter.all false
set_option maxRecDepth 100000
set_option maxHeartbeats 2000000
/-! LLCut: a reading cut in two: what stands between is told once. -/
namespace LL
open PySem PySem.Spec PyProof.Rows L2
/-- behind a statement I holds -/
theorem seq_cut {t u : TS} {D : Ends} {σ : L2.St} {H : Hp} (I : L2.St → Hp → Prop) (h1 : ∀ N : L2.St → Hp → Prop, (∀ σ' H', I σ' H' → N σ' H') → t { D with nx := N } σ H) (h2 : ∀ σ' H', I σ' H' → u D σ' H') : tSeq t u D σ H := h1 _ h2
/-- an expression has a value of which I holds -/
theorem ex_cut {t : TE} {σ : L2.St} {H : Hp} {Q : VK} (I : VK) (h1 : ∀ R : VK, (∀ x H', I x H' → R x H') → t σ H R) (h2 : ∀ x H', I x H' → Q x H') : t σ H Q := h1 Q h2
/-- a test has an answer of which I holds -/
theorem tt_cut {t : TT} {σ : L2.St} {H : Hp} {Q : Bool → Hp → Prop} (I : Bool → Hp → Prop) (h1 : ∀ R : Bool → Hp → Prop, (∀ x H', I x H' → R x H') → t σ H R) (h2 : ∀ x H', I x H' → Q x H') : t σ H Q := h1 Q h2
/-- a and b, both without an effect -/
theorem and_of {ta tb : TE} {σ : L2.St} {H : Hp} {Q : VK} (c d : Bool) (h1 : ∀ R : VK, R (.bl c) H → ta σ H R) (h2 : c = true → ∀ R : VK, R (.bl d) H → tb σ H R) (q : Q (.bl (c && d)) H) : tAndV ta tb σ H Q := by
  refine h1 _ ⟨c, rfl, ?_⟩
  cases c with
  | true => exact iteT (h2 rfl _ q)
  | false => exact iteF q
theorem or_of {ta tb : TE} {σ : L2.St} {H : Hp} {Q : VK} (c d : Bool) (h1 : ∀ R : VK, R (.bl c) H → ta σ H R) (h2 : c = false → ∀ R : VK, R (.bl d) H → tb σ H R) (q : Q (.bl (c || d)) H) : tOrV ta tb σ H Q := by
  refine h1 _ ⟨c, rfl, ?_⟩
  cases c with
  | true => exact iteT q
  | false => exact iteF (h2 rfl _ q)
theorem seq_asg {te : TE} {g : TG} {u : TS} {D : Ends} {σ : L2.St} {H : Hp} (h : te σ H fun x H1 => g x σ H1 (u D)) : tSeq (tAsg te g) u D σ H := h
theorem ret_of {te : TE} {D : Ends} {σ : L2.St} {H : Hp} (h : te σ H D.rt) : tRet te D σ H := h
theorem nm_of {i : Nat} {v : V} {σ : L2.St} {H : Hp} {N : L2.St → Hp → Prop} (h : N (σ.set i (some v)) H) : gName i v σ H N := h
theorem nx_of {D : Ends} {σ : L2.St} {H : Hp} (h : D.nx σ H) : tNext D σ H := h
/-! ### a class called, as a def is -/
section
variable (P : Program) (w : World) (K : PySem.W.Frag) (mg : Str → Option Value) (base : Heap) (CX : CXT) (k : Nat)
/-- C(..) keeps sp: its __init__ does, at each new instance -/
structure Mkf (x : Str) (sp : Sp) : Prop where
  ex : ∃ (C : Addr) (dvs : List V) (si : Sp), Mkr P w K mg base CX k x C dvs si ∧ ∀ vs H Q E, sp vs H Q E → ∀ a dx, H a = none → H dx = none → dx ≠ a → si (.ref a :: (vs ++ dvs)) (upd (upd H dx (.own a)) a (.ins C dx [])) (fun v H2 => v = .non ∧ Q (.ref a) H2) E
end
section
variable {X : Cx} {CX : CXT} {k : Nat} {sp : Sp} {E : XK} {x : Str} {p pos : Pos} {e : Expr} {es : List Expr} {t : TA}
theorem pe_mf (G : Mkf X.prog X.w X.K X.mg X.base CX k x sp) (hr : Rm (k + 1) X.A) (hx : Passes CX X E) (ha : PA X (e :: es) t) (hg : Gl X x := by rfl) (hdb : (x == ("__debug__" : Str)) = false := by decide)
    (he : starEach (e :: es) X.env = (false, eval e X.env) :: starEach es X.env := by rfl) (hpl : (backTo pos (starEach es X.env)).any (·.1) = false := by rfl) : PE X (.Call (.Name x p) (e :: es) [] pos) (tCall sp [] E t) := by
  obtain ⟨C, dvs, si, ⟨f, fd, ps, ds, M, hm, hb, hd, F⟩, conv⟩ := G.ex
  refine ⟨fun pins s σ H Q I h => wpAny_Call_Name_kw (ld_glob I hg hm (PySem.W.callWith_K (h₀ := X.base) I.ok.mod.kin M.kp (thn (ha.run pos pins s σ H _ I h) fun us s1 z => ?_) he hpl) hdb)⟩
  obtain ⟨vs, H1, I1, r, q⟩ := z
  exact ⟨I1.kIn, run_makeG M F hr hb hd hx I1 r (conv vs H1 Q E (by simpa using q))⟩
theorem pe_mf0 (G : Mkf X.prog X.w X.K X.mg X.base CX k x sp) (hr : Rm (k + 1) X.A) (hx : Passes CX X E) (hg : Gl X x := by rfl) (hdb : (x == ("__debug__" : Str)) = false := by decide) : PE X (.Call (.Name x p) [] [] pos) (tCall sp [] E tNil) := by
  obtain ⟨C, dvs, si, ⟨f, fd, ps, ds, M, hm, hb, hd, F⟩, conv⟩ := G.ex
  exact ⟨fun pins s σ H Q I h => wpAny_Call_Name_kw (ld_glob I hg hm (PySem.W.callWith_K0 I.kIn M.kp (run_makeG (us := []) M F hr hb hd hx I .nil (conv [] H Q E h))) hdb)⟩
end
/-! ### rules within a comprehension: the written part by its name -/
theorem ix_tupK {X : Cx} {K : PySem.W.Frag} (h : X.K = K) : IxR X (rIxT K) := h ▸ ix_tup
theorem ix_listK {X : Cx} {K : PySem.W.Frag} (h : X.K = K) : IxR X (rIxL K) := h ▸ ix_list
/-! ### texts that == can read -/
theorem okt_iff {x : Str} : PyData.strOk x = true ↔ ∀ c ∈ x.cps.toList, c < 1114112 := by
  unfold PyData.strOk
  rw [← Array.all_toList, List.all_eq_true]
  exact ⟨fun h c hc => of_decide_eq_true (h c hc), fun h c hc => decide_eq_true (h c hc)⟩
theorem okt_of (s : String) : PyData.strOk (Str.ofString s) = true := by
  rw [okt_iff]
  intro c hc
  rw [signs_ofString] at hc
  obtain ⟨k, _, rfl⟩ := List.mem_map.mp hc
  rcases k.valid with h | ⟨_, h⟩
  · exact Nat.lt_trans h (by decide)
  · exact h
theorem okt_app {x y : Str} (hx : PyData.strOk x = true) (hy : PyData.strOk y = true) : PyData.strOk (x ++ y) = true := by
  rw [okt_iff] at *
  intro c hc
  rw [Str.cps_append, Array.toList_append] at hc
  rcases List.mem_append.mp hc with h | h
  · exact hx c h
  · exact hy c h
/-! ### all but lists stay -/
def Kp (H H' : Hp) : Prop := ∀ b o, H b = some o → (∀ xs, o ≠ .lst xs) → H' b = some o
theorem Kp.refl {H : Hp} : Kp H H := fun _ _ e _ => e
theorem Kp.trans {H H1 H2 : Hp} (a : Kp H H1) (b : Kp H1 H2) : Kp H H2 := fun c o e n => b c o (a c o e n) n
theorem Kp.of {H H' : Hp} (a : Same H H') : Kp H H' := fun c o e _ => a c o e
theorem But.kp {p : Addr} {H H' : Hp} {xs : List V} (a : But p H H') (h : H p = some (.lst xs)) : Kp H H' := fun c o e n => a c o e fun z => by
  rw [z, h] at e
  exact n xs (Option.some.inj e).symm
theorem kp_upd {H : Hp} {p : Addr} {o : HO} {xs : List V} (h : H p = some (.lst xs)) : Kp H (upd H p o) := (but_upd (o := o)).kp h
end LL

set_option Elab.async false
set_option linter.all false
set_option maxRecDepth 100000
set_option maxHeartbeats 2000000
/-! LLTry: try .. with several clauses 'except x as n', all of one name. -/
namespace LL
open PySem PySem.Spec PyProof.Rows L2
/-- behind a suite the clause's name is gone -/
def Dgone (D : Ends) (i : Nat) : Ends := { nx := fun τ G => D.nx (τ.set i none) G, rt := D.rt, bk := fun τ G => D.bk (τ.set i none) G, ct := fun τ G => D.ct (τ.set i none) G }
abbrev Clause : Type := Value × (Addr → Value → Option Addr → TS)
/-- what the clauses wish of what the body lets out -/
def wRow (K : PySem.W.Frag) (Wo : WX) (D : Ends) (i : Nat) : List Clause → WX
  | [] => Wo
  | q :: r => fun cls d τ G => ∃ b, PySem.W.exmOne K cls q.1 = some b ∧ (b = true → ∀ e, G e = none → q.2 e cls d (Dgone D i) (τ.set i (some (.ref e))) G) ∧ (b = false → wRow K Wo D i r cls d τ G)
inductive RowOk (X : Cx) (n : Str) : List ExceptHandler → List Clause → Prop
  | nil : RowOk X n [] []
  | cons {x : Str} {c : Value} {ts : Addr → Value → Option Addr → TS} {t₀ : Stmt} {more : List Stmt} {q1 q2 : Pos} {hs : List ExceptHandler} {l : List Clause} (nm : Names X x c)
      (su : ∀ (e : Addr) (oe : Obj) (cls : Value) (d : Option Addr) (pn : List (Addr × Obj)), Zc cls d oe → (∃ fs, oe.data = .fields fs) → PSs (X.suite e ((e, oe) :: pn)) (t₀ :: more) (ts e cls d)) (r : RowOk X n hs l) :
      RowOk X n (.ExceptHandler (some (.Name x q1)) (some n) (t₀ :: more) q2 :: hs) ((c, ts) :: l)
section
variable {X : Cx} {n : Str} {i : Nat} {body : List Stmt} {h₀ : ExceptHandler} {hs : List ExceptHandler} {l : List Clause} {pos : Pos} {tb : WX → TS} {Wo : WX}
theorem ps_tryRow (st : X.stack = X.env :: X.outer) (fr : X.env.frame = some X.env.locals) (nd : X.N.Nodup) (ni : X.N[i]? = some n) (nl : X.env.kindOf n = some .local) (tk : Takes X Wo)
    (bd : ∀ (W : WX) (pn : List (Addr × Obj)) (xe : Value → Shared → Prop), Takes (X.tr pn xe) W → PassesOwn (model X.prog X.w) X.A X.env xe → PSs (X.tr pn xe) body (tb W)) (hh : RowOk X n (h₀ :: hs) l) :
    PS X (.Try body (h₀ :: hs) [] [] pos) (fun D τ G => tb (wRow X.K Wo D i l) D τ G) := by
  constructor
  intro pins s τ G D I h
  have ok := I.ok
  have frs' : X.A.frames = some (X.env :: X.outer) := ok.frames.trans (by rw [st])
  refine wpAny_Try_except ?_
  let after : Value → Shared → Prop := fun e u => wpAny (model X.prog X.w) X.A (noteFrame e X.env)
    (fun _ u2 => wpAny (model X.prog X.w) X.A (setFlight e none)
      (fun _ u3 => wpAny (model X.prog X.w) X.A (handleBy e X.env (h₀ :: hs)) (SP X pins D) X.xe u3) X.xe u2) X.xe u
  have catch_ : Takes (X.tr (X.pn ++ pins) after) (wRow X.K Wo D i l) := by
    intro u s' xx
    obtain ⟨e, B, sI, pn', τ', G', cls, d, eu, J', nb, up, sky, ne, os, ag, w⟩ := xx
    subst eu
    have J : Inv X pins τ' G' sI := J'.ofTry ok
    have sky2 : Sky B (X.env :: X.outer) e (Zc cls d) X.env.locals s'.heap := st ▸ sky
    show wpAny (model X.prog X.w) X.A (noteFrame (.ref e) X.env) _ _ _
    refine Sky.land Zc.steady frs' fr sky2 fun h3 fl up3 => ?_
    have J3 : Inv X pins τ' G' { s' with heap := h3 } := J.landed nb fl.1 (up.trans up3) os ag
    obtain ⟨oe, fs, at3, z3, d3⟩ := fl.there
    have out : e ∉ frs (X.env :: X.outer) := fun hm => by
      obtain ⟨_, o', q, hnf⟩ := fl.2.2.1.mem hm
      rw [at3] at q
      cases q
      exact hnf _ d3
    have nL : e ≠ X.env.locals := fun z => out (List.mem_filterMap.mpr ⟨X.env, List.mem_cons_self, by rw [fr, z]⟩)
    have nF : e ∉ X.fs := fun hm => by
      obtain ⟨v, hv, q⟩ := List.mem_filterMap.mp hm
      exact out (List.mem_filterMap.mpr ⟨v, List.mem_cons_of_mem _ hv, q⟩)
    have S3 := J3.suite at3 d3 ne nL nF
    have row : ∀ {hs' : List ExceptHandler} {l' : List Clause}, RowOk X n hs' l' → wRow X.K Wo D i l' cls d τ' G' → wpAny (model X.prog X.w) X.A (handleBy (.ref e) X.env hs') (SP X pins D) X.xe { s' with heap := h3 } := by
      intro hs' l' hk
      induction hk with
      | nil =>
        intro w
        refine wpAny_handleBy_nil ?_
        obtain ⟨k1, k2, k3, o1, v1, T1, oT, t1, g1, g2, g3, g4, g5⟩ := id fl
        unfold PySem.passOn
        refine wpAny_bind (wpAny_field g1 g3 g4 ?_)
        rw [if_neg (by simp)]
        have go : wpAny (model X.prog X.w) X.A (setFlight (.ref e) X.env.frame) (fun _ u4 => wpAny (model X.prog X.w) X.A (throw (.ref e) : Sem Flow) (SP X pins D) X.xe u4) X.xe { s' with heap := h3 } := by
          rw [fr]
          refine HandSPX.setFlight_upZ fl fun h4 up4 upb => wpAny_throw (tk _ _ ?_)
          exact ⟨e, B, sI, pins, τ', G', cls, d, rfl, J, nb, (up.trans up3).trans upb, .inr (.inr (by rw [st]; exact up4)), ne, os, ag, w⟩
        first
          | exact wpAny_bind (wpAny_pure (wpAny_bind go))
          | exact wpAny_bind go
      | @cons x c ts t₀ more q1 q2 hs2 l2 nm su r ih =>
        intro w
        obtain ⟨b, e1, yes, no⟩ := w
        refine wpAny_handleBy_cons (codeAny_handlers_test ?_) (fun q => by cases q)
        have isC : PySem.W.Looks (model X.prog X.w) h3 (typeOf (.ref e)) cls := fun A Q E s k q => wpAny_typeOf_ref (k _ _ at3) (z3.1 ▸ q)
        have ask := PySem.W.exm_one (M := model X.prog X.w) J3.kIn isC e1
        have name_ : ∀ {Q : Value → Shared → Prop} {E : Value → Shared → Prop}, Q c { s' with heap := h3 } → wpAny (model X.prog X.w) (X.A.mark (some (.ref e))) (eval (.Name x q1) X.env) Q E { s' with heap := h3 } := by
          intro Q E q
          rcases nm with ⟨y1, y2, y3 | ⟨y3, y4, y5⟩⟩
          · exact ld_glob (X := X.suite e ((e, oe) :: (X.pn ++ pins))) S3 y1 y3 q y2
          · exact ld_blt (X := X.suite e ((e, oe) :: (X.pn ++ pins))) S3 y1 y3 y4 q y5 y2
        refine name_ (ask.here ?_)
        cases b with
        | false =>
          show wpAny _ X.A (handleBy (.ref e) X.env hs2) _ _ _
          exact ih (no rfl)
        | true =>
          refine codeAny_handlers_suite_as ?_
          refine HandSPX.lands_againZ fl fun h4 fl4 up4 => ?_
          have J4 : Inv X pins τ' G' { s' with heap := h4 } := J.landed nb fl4.1 ((up.trans up3).trans up4) os ag
          obtain ⟨oe4, fs4, at4, z4, d4⟩ := fl4.there
          have S4 := J4.suite at4 d4 ne nL nF
          refine store_ok (X := X.suite e ((e, oe4) :: (X.pn ++ pins))) (v := .ref e) S4 nd ni (.inl nl) rfl (fun s5 S5 => ?_) (.inr nl)
          refine wpAny_mono ((su e oe4 cls d (X.pn ++ pins) z4 ⟨_, d4⟩).run [] s5 _ G' _ S5 (yes rfl e ne)) (fun f s6 z => ?_) (fun _ _ z => z.elim)
          have fin : ∀ {τ6 : L2.St} {G6 : Hp} {Q : Shared → Prop}, Inv (X.suite e ((e, oe4) :: (X.pn ++ pins))) [] τ6 G6 s6 → (∀ s7, Inv X pins (τ6.set i none) G6 s7 → Q s7) →
              wpAny (model X.prog X.w) X.A (do bindName X.env n .none; unbindBehindTheSuite X.env n q2) (fun _ s7 => Q s7) X.xe s6 := fun S6 hq => gone_ok (S6.unsuite ok) nd ni nl hq
          match f, z with
          | .next, ⟨_, _, S6, q6⟩ => exact fin S6 fun s7 J7 => ⟨_, _, J7, q6⟩
          | .brk, ⟨_, _, S6, q6⟩ => exact fin S6 fun s7 J7 => ⟨_, _, J7, q6⟩
          | .cont, ⟨_, _, S6, q6⟩ => exact fin S6 fun s7 J7 => ⟨_, _, J7, q6⟩
          | .ret u, ⟨_, _, _, S6, r6, q6⟩ => exact fin S6 fun s7 J7 => ⟨_, _, _, J7, r6, q6⟩
    exact row hh w
  refine wpAny_mono ((bd (wRow X.K Wo D i l) (X.pn ++ pins) after catch_ PassesOwn.looking).run [] s τ G D (I.toTry _) h) (fun f s1 z => ?_) (fun _ _ z => z)
  match f, z with
  | .next, ⟨_, _, J', q⟩ => exact wpAny_execs_nil ⟨_, _, J'.ofTry ok, q⟩
  | .brk, ⟨_, _, J', q⟩ => exact ⟨_, _, J'.ofTry ok, q⟩
  | .cont, ⟨_, _, J', q⟩ => exact ⟨_, _, J'.ofTry ok, q⟩
  | .ret u, ⟨_, _, _, J', r, q⟩ => exact ⟨_, _, _, J'.ofTry ok, r, q⟩
end
end LL

set_option Elab.async false
set_option linter.all false
set_option maxRecDepth 100000
set_option maxHeartbeats 2000000
/-! LLExc: own error classes with one field; what a suite asks of the error it holds; repr of any data. -/
namespace LL
open PySem PySem.Spec PyProof.Rows L2
/-! ### B.__init__(self, ..), B an own class over ValueError without one -/
structure LeC (K : PySem.W.Frag) (B : Addr) : Prop where
  sp : PySem.W.specialIn K (.ref B) "__getattribute__" = some (some (.builtin "type.__getattribute__"))
  rd : PySem.W.readsIn K B (.type "type") = true
  fi : PySem.W.findCls K (.ref B) (.type "type") "__init__" = some (.val (.builtin "ValueError.__init__"))
section
variable {X : Cx} {B : Addr} {x : Str} {e : Expr} {es : List Expr} {ta : TA} {p1 p2 pos : Pos}
theorem pe_leinit {pl : Sem Bool} (L : LeC X.K B) (hg : Gl X x) (hm : X.mg x = some (.ref B)) (ha : PA X (e :: es) ta) (hdb : (x == ("__debug__" : Str)) = false := by decide)
    (ev : eval (.Call (.Attribute (.Name x p1) "__init__" p2) (e :: es) [] pos) X.env = (do
      let o ← eval (.Name x p1) X.env
      standAt p2.atName
      let (g, first) ← holding [o] (getMethod o "__init__" pl)
      callWith pos g first (backTo pos (starEach (e :: es) X.env)) (backToKw pos (keywordEach [] X.env))) := by rfl)
    (se : starEach (e :: es) X.env = (false, eval e X.env) :: starEach es X.env := by rfl) (sn : (backTo pos (starEach es X.env)).any (·.1) = false := by rfl) : PE X (.Call (.Attribute (.Name x p1) "__init__" p2) (e :: es) [] pos) (tVeI X.K ta) := by
  constructor
  intro pins s σ H Q I h
  refine PySem.W.methodCall_KW (ld_glob I hg hm ?_ hdb) ev
  refine PySem.W.method_cls I.kIn L.sp (PySem.W.cls_value I.kIn L.rd L.fi (by decide +kernel) ?_)
  show wpAny _ _ (callWith pos (Value.builtin "ValueError.__init__") [] (backTo pos (starEach (e :: es) X.env)) []) _ _ _
  refine PyProof.Rows.callWith_method1 (thn (ha.run pos pins _ σ H _ (I.tok _) h) fun us s1 z => ?_) se sn
  obtain ⟨vs, H1, I1, r, a, C, ws, rfl, hl, T, ea, q⟩ := z
  cases r with
  | @cons _ u _ ur ru rr =>
    cases (show u = Value.ref a from ru)
    have hz : ur.length ≤ sizeLine := Nat.le_trans (Nat.le_of_eq (Paired.length rr).symm) (Nat.le_trans hl (by rw [sizeLine_eq]; decide))
    exact oinit_ok T I1 ea hz fun s2 J => ⟨.non, H1, J, rfl, q⟩
end
/-! ### raise C(v) -/
/-- the promise of an __init__ that keeps one value in the field f -/
def spXI (C : Addr) (f : Str) : Sp := fun vs H Q _ => ∃ a v, vs = [.ref a, v] ∧ H a = some (exo a C none) ∧ ∀ dx, H dx = none → dx ≠ a → Q .non (upd (upd H dx (exd dx [(f, v)])) a (exo a C (some dx)))
section
variable (P : Program) (w : World) (K : PySem.W.Frag) (mg : Str → Option Value) (base : Heap) (k : Nat)
/-- the module's name x is the error class at C, its field is f -/
structure Xcl (x : Str) (C : Addr) (f : Str) : Prop where
  T : OexC K C
  nf : PySem.W.findIn K (.ref C) f = some none
  mx : mg x = some (.ref C)
  ex : ∃ (fI : Addr) (fd : FuncData) (ps : List Str), PySem.W.findIn K (.ref C) "__init__" = some (some (.ref fI)) ∧ PySem.W.typeIn K (.ref fI) = some (.type "function") ∧ Binds K fd ps [] ∧ FnOk P w K mg base CX0 k fI fd ps (spXI C f)
  xf : XfC K C
  ec : ExcC K C
end
section
variable {X : Cx} {k : Nat} {C : Addr} {x f : Str} {W : WX} {e : Expr} {te : TE} {p pos rpos : Pos}
theorem ps_raiseX (G : Xcl X.prog X.w X.K X.mg X.base k x C f) (hr : Room (k + 1) X.A) (tk : Takes X W) (he : PE X e te) (hc : X.calm = true := by rfl) (hg : Gl X x := by rfl) (hdb : (x == ("__debug__" : Str)) = false := by decide)
    (se : starEach [e] X.env = (false, eval e X.env) :: starEach [] X.env := by rfl) (sn : (backTo pos (starEach [] X.env)).any (·.1) = false := by rfl) :
    PS X (.Raise (some (.Call (.Name x p) [e] [] pos)) none rpos) (fun _ σ H => tMkO C (spXI C f) [] (tCons te tNil) σ H fun cls d H' => W cls d σ H') := by
  obtain ⟨fI, fd, ps, h1, h2, h3, h4⟩ := G.ex
  exact ps_raise hc tk (pmk_oex G.T h1 h2 h4 hr h3 .nil pass0 hg G.mx (pa_cons he pa_nil (hs := se)) hdb se sn)
/-- the error's own dict is new -/
theorem raise_of {v : V} {H : Hp} {Q : XK} (h : ∀ d, H d = none → Q (.ref C) (some d) (upd H d (.xd [(f, v)]))) : ([v] : List V).length ≤ 1000 ∧ ∀ a, H a = none → spXI C f (.ref a :: ([v] ++ [])) (upd H a (exo a C none))
    (fun z H2 => z = .non ∧ ∃ (d : Addr) (fs : List (Str × V)), H2 a = some (exo a C (some d)) ∧ H2 d = some (exd d fs) ∧ H d = none ∧ Q (.ref C) (some d) (upd (del H2 a) d (.xd fs))) (fun _ _ _ => False) := by
  refine ⟨(by show 1 ≤ 1000; decide), fun a ha => ⟨a, v, rfl, upd_same, fun dx hd ne => ⟨rfl, dx, [(f, v)], upd_same, ?_, ?_, ?_⟩⟩⟩
  · rw [upd_ne ne, upd_same]
  · rw [upd_ne ne] at hd
    exact hd
  · rw [upd_ne ne] at hd
    have e : upd (del (upd (upd (upd H a (exo a C none)) dx (exd dx [(f, v)])) a (exo a C (some dx))) a) dx (.xd [(f, v)]) = upd H dx (.xd [(f, v)]) := by
      funext b
      by_cases h1 : b = dx
      · rw [h1, upd_same, upd_same]
      · rw [upd_ne h1, upd_ne h1]
        by_cases h2 : b = a
        · rw [h2, del_same, ha]
        · rw [del_ne h2, upd_ne h2, upd_ne h1, upd_ne h2]
    rw [e]
    exact h dx hd
end
/-! ### isinstance(e, c) of a caught error that has its dict -/
section
variable {prog : Program} {w : World} {A : Around} {E : Value → Shared → Prop} {s : Shared} {K : PySem.W.Frag} {z D : Addr} {oz : Obj} {od : Option Obj}
open PySem.W in
theorem clsE {Q : Option Value → Shared → Prop} (C : ExcC K D) (kin : K.In s.heap) (I : InstAt s.heap z oz D od) (h : Q (some (.ref D)) { s with toks := s.toks + 1 }) : wpAny (model prog w) A (getAttr? (.ref z) "__class__") Q E s := by
  have isc : (clsIn K D).isSome = true := by
    obtain ⟨cd, hc, _⟩ := any_some C.hd
    rw [hc]
    rfl
  have found : findObj K D od "__class__" = some (.bind (.builtin "getset_descriptor.__get__") (.builtin "object.__class__")) := by
    cases od with
    | none => exact findObj_dataN isc C.ha C.hn C.ht
    | some o => exact findObj_data isc C.ha C.hn C.ht
  obtain ⟨hh, gg, dd, tt, oo⟩ := s
  have T0 := I.type (M := model prog w)
  have T1 := looks_findIn (M := model prog w) kin C.hg
  have T2 := looks_findIn (M := model prog w) kin C.hk
  have T3 := looks_find (M := model prog w) kin I found
  have isB : Looks (model prog w) hh (isInstance (.ref z) (.type "BaseException")) true := T0.andThen (looks_subIn kin C.hs)
  have n2 : (Value.builtin "BaseException.__getattribute__" == Value.builtin "object.__getattribute__") = false := by
    decide +kernel
  have n1 : (onTheHeap (Value.ref D) && Value.builtin "BaseException.__getattribute__" == Value.builtin "object.__getattribute__") = false := by
    rw [n2]
    rfl
  unfold getAttr?
  unfold getAttrBy?
  unfold getAttrBy
  refine wpAny_bind (wpAny_mkText (wpAny_bind (wpAny_attempt (wpAny_holding (wpAny_bind (T0.at (wpAny_bind (T1.at ?_))))))))
  show wpAny _ _ (ite ((onTheHeap (Value.ref D) && Value.builtin "BaseException.__getattribute__" == Value.builtin "object.__getattribute__") = true) _ _) _ _ _
  rw [n1]
  rw [if_neg Bool.false_ne_true]
  unfold getAttrByItsOwn
  unfold hookBefore
  refine wpAny_bind ?_
  rw [if_pos (show onTheHeap (.ref D) = true from rfl)]
  refine T2.at (wpAny_bind (wpAny_attempt (wpAny_holding ?_)))
  unfold callGetattribute
  rw [show (false && onTheHeap (Value.builtin "BaseException.__getattribute__")) = false from rfl]
  rw [if_neg Bool.false_ne_true]
  unfold boundAndCalled
  rw [PySem.F.excAttr_ValueError.ga.bind (.ref z)]
  refine wpAny_bind (wpAny_pure ?_)
  show wpAny _ _ (call (.builtin "BaseException.__getattribute__") [.ref z, .str "__class__" tt]) _ _ _
  refine wpAny_call (codeAny_call_builtin PySem.F.excAttr_ValueError.ga.plain PySem.F.entry_bexc_ga (@check_slot (model prog w) _ _ ⟨hh, gg, dd, tt + 1, oo⟩ "BaseException.__getattribute__" "BaseException" "__getattribute__" (.ref z) [.str "__class__" tt] [] _ (by decide +kernel) (by decide +kernel) isB (PySem.F.args_bexc_ga (.ref z) (.str "__class__" tt)) ?_))
  unfold Builtin.«object.__getattribute__»
  refine wpAny_bind (wpAny_of_eq (a := ((Value.ref z : Value), [Value.str "__class__" tt])) (by first | rfl | (simp only [slotArgs]; rfl)) ?_)
  refine wpAny_bind (wpAny_pure (wpAny_bind (T0.at (wpAny_bind (T3.at ?_)))))
  show wpAny _ _ (holding [Value.builtin "object.__class__"] (call (.builtin "getset_descriptor.__get__") [.builtin "object.__class__", .ref z, .ref D]) >>= ret) _ _ _
  refine wpAny_bind (wpAny_holding (wpAny_call (class_get (s := ⟨hh, gg, dd, tt + 1, oo⟩) (ox := oz) (od := od) kin I C.hm (wpAny_pure ?_))))
  show wpAny _ _ (handedOut (.ref D)) _ _ _
  rw [handedOut_of (v := .ref D) rfl]
  first
    | exact wpAny_pure (wpAny_pure h)
    | exact wpAny_pure h
    | exact wpAny_pure (wpAny_bind (wpAny_pure (wpAny_pure h)))
open PySem.W in
theorem kitE (C : ExcC K D) : KitX K (.ref z) (.ref D) (fun h => ∃ od, InstAt h z oz D od) where
  ty := fun _ _ _ ⟨_, I⟩ => I.type
  it := fun _ _ kin _ => by
    obtain ⟨cd, hc, _⟩ := any_some C.hd
    unfold clsIn at hc
    split at hc
    · rename_i ho
      intro A' Q' E' s' kp q
      unfold isType loadHead
      exact wpAny_bind (wpAny_loadPart (kp _ _ (kin _ _ ho)) (wpAny_pure q))
    · cases hc
  ne := fun h tp dd its n sl kin htp => by
    obtain ⟨cd, hc, _⟩ := any_some C.hd
    rw [Bool.eq_false_iff]
    intro q
    cases (Value.ref.inj (beq_iff_eq.mp q) : D = tp)
    unfold clsIn at hc
    split at hc
    · rename_i ho
      cases (kin _ _ ho).symm.trans htp
    · cases hc
  ca := fun kin ⟨_, I⟩ q => clsE C kin I q
end
/-- isinstance(e, c) in a suite: a the error, cls its class, d its dict -/
def rIsD (K : PySem.W.Frag) (D a : Addr) (cls : Value) (d : Option Addr) : List V → Hp → VK → Prop := fun xs H Q => ∃ (c : V) (cv : Value) (b : Bool) (dd : Addr) (fs : List (Str × V)), xs = [.ref a, c] ∧ (∀ u, RelV c u → u = cv) ∧ cls = .ref D ∧ d = some dd ∧ H dd = some (.xd fs) ∧ PySem.W.kitOne K (.ref D) cv = some b ∧ Q (.bl b) H
theorem call_isD {X : Cx} {a D : Addr} {oe : Obj} {cls : Value} {d : Option Addr} {pn : List (Addr × Obj)} (C : ExcC X.K D) (hz : Zc cls d oe) (hf : ∃ vs, oe.data = .fields vs) : CallR (X.suite a ((a, oe) :: pn)) (.builtin "isinstance") (rIsD X.K D a cls d) := by
  intro pins s σ H xs us Q I r h
  obtain ⟨c, cv, b, dd, fs, rfl, hcv, rfl, rfl, ed, e, q⟩ := h
  cases r with
  | cons rx rr =>
    cases rr with
    | cons rt rr =>
      cases rr
      cases rx
      cases hcv _ rt
      obtain ⟨at_, _⟩ := I.pin (a, oe) (List.mem_append.mpr (.inl List.mem_cons_self))
      obtain ⟨vs, hv⟩ := hf
      obtain ⟨mA, hns, _⟩ := (show ObjOk X.prog X.w H s.heap dd (.xd fs) from I.hok dd _ ed)
      obtain ⟨od, ho, _⟩ := lookIn_ns hns
      have J : PySem.W.InstAt s.heap a oe D (some od) := ⟨at_, hz.1, by unfold PySem.W.notCls; rw [hv] <;> rfl, by rw [hz.2]; exact ho⟩
      exact PySem.W.kia_one (kitE C) I.kIn ⟨_, J⟩ e (fun z => nomatch z) fun tk => ⟨.bl b, H, I.kept (t' := tk) fun _ _ z => z, rfl, q⟩
/-! ### repr of any data, an empty dict among it -/
/-- data, or an empty dict -/
inductive Dq (K : PySem.W.Frag) (H : Hp) : V → PyData → Prop
  | dat {v : V} {d : PyData} : Dp K H v d → Shw d → d.depth ≤ 40 → cost d ≤ sizeLine → Dq K H v d
  | emp {a : Addr} : H a = some (.dK []) → Dq K H (.ref a) (.dict [])
theorem empty_reads {X : Cx} {pins : List (Addr × Obj)} {σ : L2.St} {H : Hp} {s : Shared} {a : Addr} (I : Inv X pins σ H s) (e : H a = some (.dK [])) : Reads s.heap (.ref a) (.dict []) (a :: [] ++ []) ∧ a ≠ sysModules := by
  obtain ⟨_, ns, vs, kv, o, es, ep, h1, h2, h3, _, h5, _⟩ := (show ObjOk X.prog X.w H s.heap a (.dK []) from I.hok a _ e)
  cases kv
  have e0 : es.toList = [] := by
    cases q : es.toList with
    | nil => rfl
    | cons y ys =>
      rw [q] at h5
      cases h5
  refine ⟨.dict h1 h2.1 h3 ?_ ?_, fun z => ?_⟩
  · rw [e0]
    exact .nil
  · rw [e0]
    exact .nil
  · rw [z] at ns
    simp at ns
def rRepV (K : PySem.W.Frag) : List V → Hp → VK → Prop := fun xs H Q => ∃ v d, xs = [v] ∧ Dq K H v d ∧ Q (.str d.shown) H
theorem call_reprV {X : Cx} {K : PySem.W.Frag} (hk : X.K = K) (g : X.A.guards = some []) (hu : X.A.units + 64 < cLine) : CallR X (.builtin "repr") (rRepV K) := by
  subst hk
  intro pins s σ H xs us Q I r h
  obtain ⟨v, d, rfl, hd, q⟩ := h
  obtain ⟨u, rfl, ru⟩ := r.one
  cases hd with
  | emp e =>
    cases (show u = Value.ref _ from ru)
    obtain ⟨rd, ns⟩ := empty_reads I e
    refine repr_of_reads' rd (by decide +kernel) (fun _ z => ns (List.mem_singleton.mp z).symm) g ?_ (fun _ _ e => e) (fun h' u tk hk => ⟨.str _, H, I.kept hk, ⟨_, rfl⟩, q⟩) (by decide +kernel)
    have : (PyData.dict []).depth ≤ 2 := by decide +kernel
    omega
  | dat hp hs hd hc =>
    obtain ⟨h1, h2, h3⟩ := Shw.all d hs
    have fin : ∀ h' t' tk, (∀ b o, s.heap.get? b = some o → h'.get? b = some o) → EP X pins σ Q (.str d.shown t') { s with heap := h', toks := tk } := fun h' t' tk hk => ⟨.str d.shown, H, I.kept hk, ⟨_, rfl⟩, q⟩
    have ref_ : ∀ a : Addr, v = .ref a → wpAny (model X.prog X.w) X.A (call (.builtin "repr") [u]) (EP X pins σ Q) X.xe s := fun a ea => by
      subst ea
      obtain ⟨as, rd⟩ := Dp.reads I d _ _ hp ru
      cases (show u = Value.ref a from ru)
      exact repr_of_reads' rd h2 (fun z => by rw [h3] at z; cases z) g (by omega) (fun _ _ e => e) fin (Nat.le_trans h1 hc)
    cases hp with
    | non =>
      cases (show u = Value.none from ru)
      refine PySem.P.repr_of_none ⟨.str _, H, I.tok _, ⟨_, rfl⟩, ?_⟩
      simp only [PyData.shown] at q
      exact q
    | bl b =>
      cases (show u = Value.bool b from ru)
      refine PySem.P.repr_of_bool ⟨.str _, H, I.tok _, ⟨_, rfl⟩, ?_⟩
      simp only [PyData.shown] at q
      exact q
    | int i =>
      obtain ⟨t, rfl⟩ := (show ∃ t, u = Value.int i t from ru)
      simp only [Shw] at hs
      refine PySem.P.repr_of_int hs ⟨.str _, H, I.tok _, ⟨_, rfl⟩, ?_⟩
      simp only [PyData.shown] at q
      exact q
    | str x =>
      obtain ⟨t, rfl⟩ := (show ∃ t, u = Value.str x t from ru)
      simp only [PyData.shown] at q h1
      exact PySem.P.repr_of_str ⟨.str _, H, I.tok _, ⟨_, rfl⟩, q⟩ (Nat.le_trans h1 hc)
    | lst _ _ => exact ref_ _ rfl
    | tup _ _ => exact ref_ _ rfl
end LL

set_option Elab.async false
set_option linter.all false
set_option maxRecDepth 100000
set_option maxHeartbeats 2000000
/-! LLLam: x(lambda: body), with no repr under way; LamX's own layer for it lacks that. -/
namespace LL
open PySem PySem.Spec PyProof.Rows L2 LamX
section
variable {X : Cx} {pins : List (Addr × Obj)} {σ : L2.St} {H : Hp} {s : Shared}
/-- the call of the lambda, in the def that got it -/
theorem pe_run {CXg : CXT} {Eg : XK} {Ng : List Str} {qg : Str} {sg : Scope} {g f c' : Addr} {cdg pm ctv : Value} {params : Arguments} {body : Expr} {scope : Scope} {k i : Nat} {y : Str} {pn : List (Addr × Obj)} {xe : Value → Shared → Prop} {W : WX} {E : XK} {tb : TE} {p1 p2 : Pos}
    (I : Inv X pins σ H s) (L : LamS X.env.scope scope) (of : s.heap.get? f = some (PySem.W.kla_obj "<lambda>" (X.env.qual ++ "<lambda>") params body scope (cloFrom X.env.cells scope.names []) pm c' ctv)) (fn : H f = none) (fo : f ∉ frs X.stack)
    (ba : bindArgs (PySem.W.kla_fn "<lambda>" (X.env.qual ++ "<lambda>") params body scope (cloFrom X.env.cells scope.names []) pm (.ref c') ctv) ⟨[], []⟩ = pure [])
    (tk : Takes ((cxOf CXg X.prog X.w X.K X.mg X.base Ng qg sg g cdg X.A X.stack s H Eg).tr pn xe) W) (hr : Rm (k + 1) (X.A.deeper (envOfC qg sg s.heap.objs.size g cdg)))
    (hb : ∀ (A : Around) (outer : List Env) (s : Shared) (H : Hp), Rm k (A.deeper (lamEnv X scope s.heap.objs.size f c')) → PE (lamCx X A outer s H E scope f c') body tb)
    (hN : Ng[i]? = some y) (hv : Vis sg y) (hd : (y == ("__debug__" : Str)) = false := by decide) (hcd : (y == ("__classdict__" : Str)) = false := by decide) :
    PE ((cxOf CXg X.prog X.w X.K X.mg X.base Ng qg sg g cdg X.A X.stack s H Eg).tr pn xe) (.Call (.Name y p1) [] [] p2)
      (fun τ G Q => τ[i]? = some (some (.ref f)) ∧ G c' = some (CodeO c' (X.env.qual ++ "<lambda>")) ∧ (∀ cls d G', E cls d G' → W cls d τ G') ∧ tb σ G Q) := by
  constructor
  intro pz sz τ G Q J h
  obtain ⟨h1, h2, hW, h3⟩ := h
  have look := (pe_var (pos := p1) (i := i) hN hv hd hcd).run pz sz τ G (fun v G1 => v = .ref f ∧ G1 = G) J ⟨.ref f, h1, rfl, rfl⟩
  refine wpAny_Call_Name_kw (thn look fun u s1 z => ?_)
  obtain ⟨v, G1, J1, rv, rfl, rfl⟩ := z
  cases (show u = Value.ref f from rv)
  have of1 := J1.base.keep f _ of fn fo (fun z => nomatch (show f ∈ ([] : List Addr) from z))
  refine PySem.W.callWith_F0 ⟨_, _, _, _, of1⟩ ?_
  obtain ⟨⟨oc, vs, t, co1, co2, co3⟩, _, _⟩ := J1.hok c' _ h2
  have run : codeAny (model X.prog X.w) (X.A.deeper (envOfC qg sg s.heap.objs.size g cdg)) (.call (.ref f) ⟨[], []⟩) (CR (L2.CX X.prog X.w) (envOfC qg sg s.heap.objs.size g cdg :: X.stack) X.prog X.w G1 s1 Q E) s1 := by
    refine PySem.W.kla_callFunE hr.r.depth of1 rfl L.co L.gen rfl ⟨c', oc, vs, t, rfl, co1, co2, co3⟩ ?_
    rw [ba]
    refine wpAny_pure (wpAny_newFunctionEnv (fun n hn => (L.own n hn).2) (fun n hn => absurd hn (by simp)) (fun h₁ ns1 sb => ⟨J1.nolimit.fresh _ sb, ?_⟩) L.kind)
    show codeAny _ _ (.expr body (lamEnv X scope s1.heap.objs.size f c')) _ _
    have kp : ∀ b o, s1.heap.get? b = some o → h₁.get? b = some o := fun b o e => sb.extBut b o (Nat.ne_of_lt (Heap.lt_size e)) (Heap.get?_push_of_some _ e)
    have S : Inv (lamCx X (X.A.deeper (envOfC qg sg s.heap.objs.size g cdg)) (envOfC qg sg s.heap.objs.size g cdg :: X.stack) s1 G1 E scope f c') [] σ G1 { s1 with heap := h₁, toks := s1.toks + ([] : List (Str × Value)).length } :=
      lam_start2 I L J1.env0 hr.r.hd J1.base ns1 kp
    refine PySem.W.kla_codeExpr (wpAny_mono ((hb _ _ s1 G1 (hr.deeper _)).run [] _ _ G1 Q S h3) (fun v s2 z => ?_) fun _ _ z => z)
    obtain ⟨w', G2, S2, rv2, q⟩ := z
    exact ⟨w', G2, S2.os, S2.bare, S2.base, S2.hok, rv2, q⟩
  refine wpAny_call (codeAny_mono run fun r s2 z => ?_)
  match r, z with
  | .error e, z => exact tk _ _ (XE.of_call J1 hW z)
  | .ok (.ret u), z => exact J1.after z
  | .ok .next, z => exact z.elim
  | .ok .brk, z => exact z.elim
  | .ok .cont, z => exact z.elim
end
/-- the def x that calls what it got by its one name y: TT is what it makes of the lambda's reading -/
def Gives (X : Cx) (k : Nat) (Ng : List Str) (x : Str) (sg : Scope) (g : Addr) (cdg : Value) (bg : List Stmt) (y : Str) (q : Str) (TT : (XK → Hp → VK → Prop) → Hp → VK → Prop) : Prop :=
  ∀ (f c' : Addr) (s : Shared) (H : Hp) (Q : VK) (tl : XK → Hp → VK → Prop), Rm k (X.A.deeper (envOfC x sg s.heap.objs.size g cdg)) →
    (∀ (W : WX) (pn : List (Addr × Obj)) (xe : Value → Shared → Prop) (E : XK) (p1 p2 : Pos), Takes ((cxOf CX0 X.prog X.w X.K X.mg X.base Ng x sg g cdg X.A X.stack s H E0).tr pn xe) W →
      PE ((cxOf CX0 X.prog X.w X.K X.mg X.base Ng x sg g cdg X.A X.stack s H E0).tr pn xe) (.Call (.Name y p1) [] [] p2) (fun τ G Q => τ[0]? = some (some (.ref f)) ∧ G c' = some (CodeO c' q) ∧ (∀ cls d G', E cls d G' → W cls d τ G') ∧ tl E G Q)) →
    H c' = some (CodeO c' q) → TT tl H Q →
    ∃ t, PSs (cxOf CX0 X.prog X.w X.K X.mg X.base Ng x sg g cdg X.A X.stack s H E0).nox bg t ∧ t { nx := fun _ H' => Q .non H', rt := Q } (L2.start Ng [.ref f]) H
/-- the def x, as one fact: it calls what it gets, and makes TT of it -/
structure Taker (P : Program) (w : World) (K : PySem.W.Frag) (mg : Str → Option Value) (base : Heap) (k : Nat) (x y : Str) (TT : (XK → Hp → VK → Prop) → Hp → VK → Prop) : Prop where
  ex : ∃ (g : Addr) (fd : FuncData) (pg : Arguments) (bg : List Stmt) (sg : Scope) (Ng : List Str), mg x = some (.ref g) ∧ FunD K x x pg bg sg [] [] g fd ∧ FnScope Ng [y] sg ∧ Ng[0]? = some y ∧ Vis sg y ∧ Binds K fd [y] [] ∧
    ∀ (X : Cx) (cdg : Value) (q : Str), X.prog = P → X.w = w → X.K = K → X.mg = mg → X.base = base → Gives X k Ng x sg g cdg bg y q TT
section
variable {X : Cx}
/-- x(lambda: body) -/
theorem pe_lamG {T : List (Addr × Str)} {TT : (XK → Hp → VK → Prop) → Hp → VK → Prop} {x y : Str} {c P : Addr} {k : Nat} {params : Arguments} {body : Expr} {scope : Scope} {t : XK → TE} {p lpos pos : Pos} (G : Taker X.prog X.w X.K X.mg X.base (k + 1) x y TT)
    (TB : TabB X.base X.mg c P) (hcode : X.env.code = .ref c) (hmT : (P, X.env.qual ++ "<lambda>") ∈ T) (hu : ∀ p ∈ T, p.1 = P → p.2 = X.env.qual ++ "<lambda>") (hr : Rm (k + 2) X.A) (L : LamS X.env.scope scope)
    (hbody : ∀ (A : Around) (outer : List Env) (s : Shared) (H : Hp) (E : XK) (f c' : Addr), Rm k (A.deeper (lamEnv X scope s.heap.objs.size f c')) → PE (lamCx X A outer s H E scope f c') body (t E)) (hg : Gl X x := by rfl)
    (hdef : defaultsOf params X.env = ([], []) := by rfl) (hbind : ∀ (q : Str) (cl : List (Str × Addr)) (pm cv ctv : Value), bindArgs (PySem.W.kla_fn "<lambda>" q params body scope cl pm cv ctv) ⟨[], []⟩ = pure [] := by intros; rfl)
    (hdb : (x == ("__debug__" : Str)) = false := by decide) (hd : (y == ("__debug__" : Str)) = false := by decide) (hcd : (y == ("__classdict__" : Str)) = false := by decide) :
    PE X (.Call (.Name x p) [.Lambda params body scope lpos] [] pos) (tLam T TT t) := by
  obtain ⟨g, fd, pg, bg, sg, Ng, hm, FF, Sg, hNg, hva, hb, hG⟩ := G.ex
  obtain ⟨oc, od, dV, kV, doc, pm, an, cdv, ct, osl, rfl, lk, hcg, _, _⟩ := FF.ex
  constructor
  intro pins s σ H Q I h
  obtain ⟨hT, h⟩ := h
  refine wpAny_Call_Name_kw (ld_glob I hg hm (PySem.W.callWith_K (h₀ := X.base) I.ok.mod.kin FF.kp ?_ (by rfl) (by rfl)) hdb)
  show wpAny _ _ (spliced ((false, eval (.Lambda params body scope lpos) X.env) :: backTo pos (starEach [] X.env))) _ _ s
  refine Calls.spliced_cons (lam_make2 I TB hcode hmT hu hT hdef (L.has I.ok) fun f c' pm' ctv H1 s1 I1 eN T1 of fn fo co => Calls.spliced_nil ⟨I1.kIn, ?_⟩)
  have run : codeAny (model X.prog X.w) X.A (.call (.ref g) ⟨[.ref f], []⟩) (CR CX0 X.stack X.prog X.w H1 s1 Q E0) s1 := by
    refine run_ofS (N := Ng) (ps := [y]) (us := [.ref f]) (vs := [.ref f]) lk hcg Sg hr.r I1.env0 (hb s1 [.ref f] I1.kIn rfl) (.cons rfl .nil) rfl fun _ => ?_
    have hr1 : Rm (k + 1) (X.A.deeper (envOfC x sg s1.heap.objs.size g cdv)) := hr.deeper _
    obtain ⟨t', ht, hq⟩ := hG X cdv (X.env.qual ++ "<lambda>") rfl rfl rfl rfl rfl f c' s1 H1 Q (fun E H' Q' => t E σ H' Q') hr1
      (fun W pn xe E p1 p2 tk => pe_run (i := 0) I1 L of fn fo (hbind _ _ _ _ _) tk hr1 (fun A outer s H hr2 => hbody A outer s H E f c' hr2) hNg hva hd hcd) co (h H1 eN T1)
    exact ⟨t', ht.nox, hq⟩
  refine wpAny_call (codeAny_mono run fun r s2 z => ?_)
  match r, z with
  | .error e, z => exact (show False from z).elim
  | .ok (.ret u), z => exact I1.after z
  | .ok .next, z => exact z.elim
  | .ok .brk, z => exact z.elim
  | .ok .cont, z => exact z.elim
end
end LL

set_option Elab.async false
set_option linter.all false
set_option maxRecDepth 100000
set_option maxHeartbeats 2000000
/-! LLHead: defs of the text at any address of the written part; the Hook over them; facts as tests. -/
namespace LL
open PySem PySem.Spec PyProof.Rows L2
/-- a def: where it stands, what it is -/
structure DefX where
  adr : PySem.W.Frag → Addr
  name : Str
  qual : Str
  params : Arguments
  body : List Stmt
  scope : Scope
  dfl : PySem.W.Frag → List V := fun _ => []
def dX (adr : PySem.W.Frag → Addr) (name qual : Str) (st : Stmt) (dfl : List V := []) : DefX := ⟨adr, name, qual, defArgs st, defBody st, defScope st, fun _ => dfl⟩
/-- .. with defaults that lie in the written part -/
def dXK (adr : PySem.W.Frag → Addr) (name qual : Str) (st : Stmt) (dfl : PySem.W.Frag → List V) : DefX := ⟨adr, name, qual, defArgs st, defBody st, defScope st, dfl⟩
/-- the function object at a -/
def fdAt (K : PySem.W.Frag) (a : Addr) : Option FuncData := match K.lookup a with
  | some ⟨_, _, .func g, _⟩ => some g
  | _ => none
def shapeX (g : FuncData) : Str × Str × Arguments × FuncBody × Scope × Addr × List (Str × Addr) × Addr := (g.name, g.qualname, g.params, g.body, g.scope, g.globals, g.closure, g.builtins)
def DefX.shape (d : DefX) : Option (Str × Str × Arguments × FuncBody × Scope × Addr × List (Str × Addr) × Addr) := some (d.name, d.qual, d.params, .stmts d.body, d.scope, mainGlobals, [], builtinsNs)
def DefX.fine (K : PySem.W.Frag) (d : DefX) : Bool := PySem.W.keepIn K (.ref (d.adr K)) && ((fdAt K (d.adr K)).any fun g => PySem.W.codeIn K g.code d.qual && He.dflB K g.defaults (d.dfl K))
theorem fdAt_look {K : PySem.W.Frag} {a : Addr} {g : FuncData} (e : fdAt K a = some g) : ∃ oc od osl, K.lookup a = some ⟨oc, od, .func g, osl⟩ := by
  unfold fdAt at e
  split at e
  · rename_i c d z sl q
    cases e
    exact ⟨c, d, sl, q⟩
  · cases e
theorem DefX.fun_ {K : PySem.W.Frag} {d : DefX} (e : (fdAt K (d.adr K)).map shapeX = d.shape) (c : d.fine K = true) : ∃ fd, FunD K d.name d.qual d.params d.body d.scope (d.dfl K) [] (d.adr K) fd := by
  obtain ⟨kp, c2⟩ := He.ba c
  obtain ⟨g, eg, es⟩ := Option.map_eq_some_iff.mp e
  rw [eg] at c2
  obtain ⟨c3, c4⟩ := He.ba (show (PySem.W.codeIn K g.code d.qual && He.dflB K g.defaults (d.dfl K)) = true from c2)
  obtain ⟨oc, od, osl, lk⟩ := fdAt_look eg
  unfold shapeX at es
  simp only [Prod.mk.injEq] at es
  obtain ⟨e1, e2, e3, e4, e5, e6, e7, e8⟩ := es
  refine ⟨g, ⟨oc, od, g.defaults, g.kwdefaults, g.doc, g.pyModule, g.annotations, g.code, g.closureTuple, osl, ?_, lk, c3, He.dflB_ok c4, .inl rfl⟩, kp⟩
  obtain ⟨a1, a2, a3, a4, a5, a6, a7, a8, a9, a10, a11, a12, a13, a14, a15⟩ := g
  subst e1 e2 e3 e4 e5 e6 e7 e8
  rfl
/-! ### the Hook -/
abbrev AlX : Type := Bool × List (Option (Str × Str × Arguments × FuncBody × Scope × Addr × List (Str × Addr) × Addr))
def obsY (ft : List Ft) (fn : List DefX) (K : PySem.W.Frag) : AlX := ((ft.all fun f => f K) && fn.all fun d => d.fine K, fn.map fun d => (fdAt K (d.adr K)).map shapeX)
def valY (fn : List DefX) : AlX := (true, fn.map DefX.shape)
def SaysY (ft : List Ft) (fn : List DefX) (K : PySem.W.Frag) : Prop := obsY ft fn K = valY fn
def obsYG (n : Nat) (ft : List Ft) (fn : List DefX) (g : Addr → Option Obj) : AlX := obsY ft fn (He.frG g (He.asD g n))
def hookY (n : Nat) (ft : List Ft) (fn : List DefX) : PySem.W.Hook where
  α := AlX
  obs := fun s => obsYG n ft fn s.heap.get?
  val := fun _ => valY fn
  says := fun _ h => ∃ K : PySem.W.Frag, K.In h ∧ SaysY ft fn K
  of := fun _ _ e => ⟨_, He.frG_in, e⟩
  keeps := fun _ _ _ ⟨K, hK, c⟩ k => ⟨K, PySem.W.Frag.In.keeps hK k, c⟩
theorem obsYG_eq {n : Nat} {ft : List Ft} {fn : List DefX} {g : Addr → Option Obj} {s : Shared} (h : ∀ a, g a = s.heap.get? a) : obsYG n ft fn g = (hookY n ft fn).obs s := by
  cases (funext h : g = s.heap.get?)
  rfl
theorem SaysY.fact {ft : List Ft} {fn : List DefX} {K : PySem.W.Frag} (c : SaysY ft fn K) (i : Nat) {f : Ft} (h : ft[i]? = some f := by rfl) : f K = true := by
  have e : ((ft.all fun f => f K) && fn.all fun d => d.fine K) = true := congrArg Prod.fst c
  exact List.all_eq_true.mp (He.ba e).1 f (List.mem_of_getElem? h)
theorem SaysY.fn_ {ft : List Ft} {fn : List DefX} {K : PySem.W.Frag} (c : SaysY ft fn K) (i : Nat) {d : DefX} (h : fn[i]? = some d := by rfl) : ∃ fd, FunD K d.name d.qual d.params d.body d.scope (d.dfl K) [] (d.adr K) fd := by
  have e : ((ft.all fun f => f K) && fn.all fun d => d.fine K) = true := congrArg Prod.fst c
  have e1 : (fn.map fun d => (fdAt K (d.adr K)).map shapeX)[i]? = (fn.map DefX.shape)[i]? := congrArg (fun z : AlX => z.2[i]?) c
  rw [List.getElem?_map, List.getElem?_map, h] at e1
  exact DefX.fun_ (Option.some.inj e1) (List.all_eq_true.mp (He.ba e).2 d (List.mem_of_getElem? h))
/-! ### addresses and tests -/
/-- a global, a method, a property's getter -/
def gA (x : Str) (K : PySem.W.Frag) : Addr := He.ga K x
def mA (x m : Str) (K : PySem.W.Frag) : Addr := He.ma K (He.ga K x) m
def pA (x m : Str) (K : PySem.W.Frag) : Addr := match PySem.W.recIn K (mA x m K) "property" with
  | some (.ref g :: _) => g
  | _ => 0
def fGlo (x : Str) : Ft := fun K => (He.Fa.glo x).ok K
def fFree (x : Str) : Ft := fun K => (He.Fa.free x).ok K
def fCls (x : Str) : Ft := fun K => (He.Fa.cls x).ok K
def fNo (x f : Str) : Ft := fun K => (He.Fa.noat x f).ok K
def fMeth (x m : Str) : Ft := fun K => (He.Fa.meth x m).ok K
def fMkr (x : Str) : Ft := fun K => (He.Fa.mkr x).ok K
def fSame (a b : PySem.W.Frag → Option (Option Value)) : Ft := fun K => He.eqO (a K) (b K)
def fBool (a : PySem.W.Frag → Option Bool) (b : Bool) : Ft := fun K => decide (a K = some b)
def fProp (x m : Str) : Ft := fun K => He.eqO (PySem.W.findIn K (.ref (He.ga K x)) m) (some (some (.ref (mA x m K)))) && (He.eqO (PySem.W.specialIn K (.ref (mA x m K)) "__get__") (some (some (.builtin "property.__get__"))) && (decide (PySem.W.takesIn K (.ref (mA x m K)) = some true) &&
  (match PySem.W.recIn K (mA x m K) "property" with
  | some (.ref _ :: _) => true
  | _ => false)))
theorem fProp_ok {K : PySem.W.Frag} {x m : Str} (h : fProp x m K = true) : PropOf K (He.ga K x) m (mA x m K) (pA x m K) := by
  obtain ⟨h1, h2⟩ := He.ba h
  obtain ⟨h3, h4⟩ := He.ba h2
  obtain ⟨h5, h6⟩ := He.ba h4
  refine ⟨He.eqO_ok h1, He.eqO_ok h3, of_decide_eq_true h5, ?_⟩
  unfold pA
  split at h6
  · rename_i g rest q
    exact ⟨rest, by rw [q]⟩
  · cases h6
/-- an operator of the class x -/
def fOper (x : Str) (op : Operator) : Ft := fun K => PySem.W.selfFirst K (He.ga K x) && (He.eqO (PySem.W.findIn K (.ref (He.ga K x)) (PySem.dunder op.info.2)) (some (some (.ref (mA x (PySem.dunder op.info.2) K)))) && PySem.W.isFn K (.ref (mA x (PySem.dunder op.info.2) K)))
theorem fOper_ok {K : PySem.W.Frag} {x : Str} {op : Operator} (h : fOper x op K = true) : OpAt K (He.ga K x) op (mA x (PySem.dunder op.info.2) K) := by
  obtain ⟨h1, h2⟩ := He.ba h
  obtain ⟨h3, h4⟩ := He.ba h2
  exact ⟨h1, He.eqO_ok h3, h4⟩
def fOpInt (x : Str) (op : Operator) : Ft := fun K => He.eqO (PySem.W.findIn K (.ref (He.ga K x)) (PySem.dunderR op.info.2)) (some none) && ((PySem.W.findIn K (.type "int") (PySem.dunder op.info.2)).isSome && ((PySem.W.findIn K (.type "int") (PySem.dunderR op.info.2)).isSome && decide (PySem.W.subIn K (.type "int") (.ref (He.ga K x)) = some false)))
theorem fOpInt_ok {K : PySem.W.Frag} {x : Str} {op : Operator} (h : fOpInt x op K = true) : OpInt K (He.ga K x) op := by
  obtain ⟨h1, h2⟩ := He.ba h
  obtain ⟨h3, h4⟩ := He.ba h2
  obtain ⟨h5, h6⟩ := He.ba h4
  exact ⟨He.eqO_ok h1, Option.isSome_iff_exists.mp h3, Option.isSome_iff_exists.mp h5, of_decide_eq_true h6⟩
/-- a special method of the class x -/
def fSpec (x m : Str) : Ft := fun K => He.eqO (PySem.W.findIn K (.ref (He.ga K x)) m) (some (some (.ref (mA x m K)))) && PySem.W.isFn K (.ref (mA x m K))
theorem fSpec_ok {K : PySem.W.Frag} {x m : Str} (h : fSpec x m K = true) : PySem.W.findIn K (.ref (He.ga K x)) m = some (some (.ref (mA x m K))) ∧ PySem.W.isFn K (.ref (mA x m K)) = true := by
  obtain ⟨h1, h2⟩ := He.ba h
  exact ⟨He.eqO_ok h1, h2⟩
end LL

set_option Elab.async false
set_option linter.all false
set_option maxRecDepth 100000
set_option maxHeartbeats 2000000
/-! LLTab: the law's end, and the head's Hook, where some defs make lambdas (tables of code objects). -/
namespace LL
open PySem PySem.Spec PyProof.Rows L2 LamX
/-! ### a def by its body, its code object known -/
section
variable {P : Program} {w : World} {K : PySem.W.Frag} {mg : Str → Option Value} {base : Heap} {CX : CXT} {k : Nat} {f : Addr} {fd : FuncData} {ps : List Str} {sp : Sp}
theorem okC {x qual : Str} {params : Arguments} {body : List Stmt} {scope : Scope} {dvs : List V} {kws : List (Str × V)} {N : List Str} (F : FunD K x qual params body scope dvs kws f fd) (S : FnScope N ps scope) (len : ∀ vs H Q E, sp vs H Q E → vs.length = ps.length)
    (hbody : ∀ (cdv : Value), (fdAt K f).map FuncData.code = some cdv → ∀ (A : Around) (outer : List Env) (s : Shared) (H : Hp) (vs : List V) (Q : VK) (E : XK), Rm k (A.deeper (envOfC qual scope s.heap.objs.size f cdv)) → sp vs H Q E →
      ∃ t, PSs (cxOf CX0 P w K mg base N qual scope f cdv A outer s H E).nox body t ∧ t { nx := fun _ H' => Q .non H', rt := Q } (L2.start N vs) H) : FnG P w K mg base CX0 (k + 1) f fd ps sp := by
  obtain ⟨oc, od, dV, kV, doc, pm, an, cdv, ct, osl, rfl, lk, hcd, _, _⟩ := F.ex
  have ec : (fdAt K f).map FuncData.code = some cdv := by
    unfold fdAt
    rw [lk]
    rfl
  refine ⟨len, fun A outer s H args us vs Q E hr e0 hb r hsp => ?_⟩
  refine LamX.run_ofS (CX := CX0) lk hcd S hr.r e0 hb r (len _ _ _ _ hsp) fun _ => ?_
  obtain ⟨t, ht, q⟩ := hbody cdv ec A outer s H vs Q E (hr.deeper _) hsp
  exact ⟨t, ht.nox, q⟩
end
/-- the code object of the def at a, its table -/
def cOf (K : PySem.W.Frag) (a : Addr) : Addr := match (fdAt K a).map FuncData.code with
  | some (Value.ref c) => c
  | _ => 0
theorem cOf_of {K : PySem.W.Frag} {a c : Addr} (e : (fdAt K a).map FuncData.code = some (Value.ref c)) : cOf K a = c := by
  unfold cOf
  rw [e]
def tOf (K : PySem.W.Frag) (a : Addr) : Addr := He.tabOf K (cOf K a)
/-! ### the law's call -/
section
variable {P : Program} {w : World} {K : PySem.W.Frag} {mg mb : Str → Option Value} {CX : CXT} {k : Nat} {fa a : Addr} {fd : FuncData} {x : Str} {sp : Sp} {t : Shared} {us : List Value} {ns : List Int} {cs : List (Addr × Addr)}
/-- an empty table -/
abbrev tab0 : Obj := { cls := .none, data := .fields #[] }
theorem lawAtT {H : Hp} (KX : K.In t.heap) (hns : t.heap.Ns mainGlobals mg) (hb : t.heap.Ns builtinsNs mb) (hbb : ∀ x : Str, x ≠ "__name__" → mb x = bootBuiltins x) (hlim : t.heap.NoLimit) (hg : t.gens = #[])
    (tT : ∀ p ∈ cs, t.heap.get? p.2 = some tab0) (tK : ∀ p ∈ cs, K.lookup p.2 = none) (tC : ∀ p ∈ cs, PySem.W.codeHdIn K p.1 p.2 = true)
    (bm : ∃ (m : Addr) (om : Obj), mg "__builtins__" = some (.ref m) ∧ m ≠ builtinsNs ∧ t.heap.get? m = some om ∧ om.cls = .type "module" ∧ om.dict = some builtinsNs ∧ om.data = .plain)
    (ha : t.heap.get? a = some { cls := .type "list", data := .seq us.toArray }) (hr : Rm k callerA) (F : ∀ base : Heap, K.In base → base.Ns mainGlobals mg → (∀ p ∈ cs, TabB base mg p.1 p.2) → FnG P w K mg base CX k fa fd [x] sp)
    (bd : ∀ (s : Shared) (u : Value), BindsTo s fd ⟨[u], []⟩ [(x, u)]) (hsp : sp [.ref a] H (fun v _ => v = .bl true) fun _ _ _ => False) (hCX : ∀ e s', CX [] H t (fun _ _ _ => False) e s' → False)
    (only : ∀ b, H b = none ∨ (b = a ∧ K.lookup a = none ∧ ∃ o l, H b = some (.frz o (.lst l))) ∨ ∃ p ∈ cs, b = p.2 ∧ H b = some (.tbl #[])) (hok : HOk P w H t.heap) : codeAny (model P w) callerA (.call (.ref fa) ⟨[.ref a], []⟩) (LawEnd t) t := by
  -- what is neither a list nor a table is free
  have free : ∀ {b : Addr} {o : Obj}, t.heap.get? b = some o → (∀ vs m, o.data ≠ .seq vs m) → (o.data ≠ .fields #[]) → H b = none := fun {b o} e n1 n2 => by
    rcases only b with z | ⟨rfl, _, _⟩ | ⟨p, hp, rfl, _⟩
    · exact z
    · rw [ha] at e
      cases e
      exact (n1 _ _ rfl).elim
    · rw [tT p hp] at e
      cases e
      exact (n2 rfl).elim
  have nsB : ∀ {b : Addr} {m : Str → Option Value}, t.heap.Ns b m → (hidT t.heap H).Ns b m := by
    rintro b m ⟨o, es, ep, e, d, r⟩
    refine ⟨o, es, ep, hidT_get e (free e (fun vs m z => ?_) fun z => ?_), d, r⟩ <;> rw [d] at z <;> cases z
  have kB : K.In (hidT t.heap H) := by
    intro b o e
    refine hidT_get (KX b o e) ?_
    rcases only b with z | ⟨z, q, _⟩ | ⟨p, hp, z, _⟩
    · exact z
    · rw [z, q] at e
      cases e
    · rw [z, tK p hp] at e
      cases e
  have TB : ∀ p ∈ cs, TabB (hidT t.heap H) mg p.1 p.2 := fun p hp => by
    refine ⟨PySem.W.codeHd_of_K kB (tC p hp), ?_, fun z => ?_⟩
    · obtain ⟨m, om, m1, m2, m3, m4, m5, m6⟩ := bm
      refine ⟨m, om, m1, m2, fun z => ?_, fun z => ?_, hidT_get m3 (free m3 (fun vs n z => ?_) fun z => ?_), m4, m5, m6⟩
      · obtain ⟨o, es, ep, e, d, _⟩ := hns
        rw [z, e] at m3
        cases m3
        rw [d] at m6
        cases m6
      · rw [z, tT p hp] at m3
        cases m3
        cases m6
      · rw [m6] at z
        cases z
      · rw [m6] at z
        cases z
    · obtain ⟨o, es, ep, e, d, _⟩ := hns
      rw [z, tT p hp] at e
      cases e
      cases d
  obtain ⟨ml, l1, l2⟩ := hlim
  have env : Env0 P w K mg (hidT t.heap H) callerA [] t H :=
    { frames := rfl
      mod := ⟨kB, nsB hns, ⟨mb, nsB hb, hbb⟩, ⟨ml, nsB l1, l2⟩⟩
      bs := fun _ _ e => of_hidT e
      bsz := Nat.le_of_eq (hidT_size _ _)
      funs := trivial
      frf := fun _ z => by cases (show _ ∈ ([] : List Addr) from z)
      hok := hok
      bare := .of_eq hg }
  have go := (F _ kB (nsB hns) TB).run callerA [] t H ⟨[.ref a], []⟩ [.ref a] [.ref a] _ _ hr env (bd t (.ref a)) (.cons rfl .nil) hsp
  refine codeAny_mono go fun r t' h => ?_
  match r, h with
  | .error e, h => exact (hCX e t' h).elim
  | .ok .next, h => exact False.elim h
  | .ok .brk, h => exact False.elim h
  | .ok .cont, h => exact False.elim h
  | .ok (.ret u), h =>
    obtain ⟨v, H', e1, e2, un, hok', rv, (rfl : v = .bl true)⟩ := h
    cases (show u = Value.bool true from rv)
    have key : ∀ b o, t.heap.get? b = some o → t'.heap.get? b = some o ∨ ∃ p ∈ cs, b = p.2 ∧ o = tab0 ∧ ∃ more : Array Value, t'.heap.get? b = some { cls := .none, data := .fields more } := fun b o e => by
      rcases only b with n | ⟨_, _, ob, l, z⟩ | ⟨p, hp, rfl, z⟩
      · exact .inl (un.keep b o e n (fun z => by cases (show b ∈ ([] : List Addr) from z)) (fun z => by cases z))
      · have z1 := (hok b _ z).1
        have z2 := (hok' b _ (un.frzs b ob _ z)).1
        rw [e] at z1
        cases z1
        exact .inl z2
      · obtain ⟨more, y⟩ := un.tbls p.2 #[] z
        have y2 := tT p hp
        rw [e] at y2
        exact .inr ⟨p, hp, rfl, Option.some.inj y2, _, hok' p.2 _ y⟩
    refine ⟨rfl, ⟨fun b o e => ?_, fun b o e => ?_⟩, e1, e2⟩
    · rcases key b o e with z | ⟨p, hp, rfl, rfl, more, z⟩
      · exact .inl z
      · exact .inr (.inl ⟨((PySem.W.codeHd_of_K KX (tC p hp)).tab (tT p hp)).isCodeTable, rfl, #[], more, rfl, by rw [Array.empty_append]; exact z⟩)
    · rcases key b o e with z | ⟨p, hp, rfl, rfl, more, z⟩
      · exact ⟨o, z⟩
      · exact ⟨_, z⟩
theorem lawT (KX : K.In t.heap) (hns : t.heap.Ns mainGlobals mg) (hb : t.heap.Ns builtinsNs mb) (hbb : ∀ x : Str, x ≠ "__name__" → mb x = bootBuiltins x) (hlim : t.heap.NoLimit) (hg : t.gens = #[])
    (tT : ∀ p ∈ cs, t.heap.get? p.2 = some tab0) (tK : ∀ p ∈ cs, K.lookup p.2 = none) (tC : ∀ p ∈ cs, PySem.W.codeHdIn K p.1 p.2 = true)
    (bm : ∃ (m : Addr) (om : Obj), mg "__builtins__" = some (.ref m) ∧ m ≠ builtinsNs ∧ t.heap.get? m = some om ∧ om.cls = .type "module" ∧ om.dict = some builtinsNs ∧ om.data = .plain)
    (ha : t.heap.get? a = some { cls := .type "list", data := .seq us.toArray }) (hi : IntsAre us ns) (hl : ns.length ≤ sizeLine) (hr : Rm k callerA) (F : ∀ base : Heap, K.In base → base.Ns mainGlobals mg → (∀ p ∈ cs, TabB base mg p.1 p.2) → FnG P w K mg base CX k fa fd [x] sp)
    (bd : ∀ (s : Shared) (u : Value), BindsTo s fd ⟨[u], []⟩ [(x, u)]) (hsp : ∀ H : Hp, (∀ p ∈ cs, H p.2 = some (.tbl #[])) → SqL K H a (ns.map V.int) → sp [.ref a] H (fun v _ => v = .bl true) fun _ _ _ => False) (hCX : ∀ H e s', CX [] H t (fun _ _ _ => False) e s' → False) :
    codeAny (model P w) callerA (.call (.ref fa) ⟨[.ref a], []⟩) (LawEnd t) t := by
  classical
  have rv := vals_ints hi
  have na : ∀ p ∈ cs, p.2 ≠ a := fun p hp z => by
    have e := tT p hp
    rw [z, ha] at e
    cases e
  let T : Hp := fun b => if ∃ p ∈ cs, b = p.2 then some (.tbl #[]) else none
  have T1 : ∀ p ∈ cs, T p.2 = some (.tbl #[]) := fun p hp => if_pos ⟨p, hp, rfl⟩
  have T2 : ∀ b u, T b = some u → (∃ p ∈ cs, b = p.2) ∧ u = .tbl #[] := fun b u e => by
    by_cases c : ∃ p ∈ cs, b = p.2
    · have e' : some (HO.tbl #[]) = some u := (if_pos c).symm.trans e
      exact ⟨c, (Option.some.inj e').symm⟩
    · have e' : none = some u := (if_neg c).symm.trans e
      cases e'
  have T3 : ∀ b, T b = none ∨ ∃ p ∈ cs, b = p.2 ∧ T b = some (.tbl #[]) := fun b => by
    by_cases c : ∃ p ∈ cs, b = p.2
    · obtain ⟨p, hp, e⟩ := c
      exact .inr ⟨p, hp, e, e ▸ T1 p hp⟩
    · exact .inl (if_neg c)
  have T4 : HOk P w T t.heap := fun b u e => by
    obtain ⟨⟨p, hp, rfl⟩, rfl⟩ := T2 b u e
    exact tT p hp
  cases q : K.lookup a with
  | none =>
    let o : Obj := { cls := .type "list", data := .seq us.toArray }
    have Ha : upd T a (.frz o (.lst (ns.map V.int))) a = some (.frz o (.lst (ns.map V.int))) := upd_same
    refine lawAtT (H := upd T a (.frz o (.lst (ns.map V.int)))) KX hns hb hbb hlim hg tT tK tC bm ha hr F bd (hsp _ (fun p hp => ?_) (.inl (.inr ⟨_, Ha⟩))) (hCX _) (fun b => ?_) fun b u z => ?_
    · rw [upd_ne (na p hp)]
      exact T1 p hp
    · by_cases c : b = a
      · exact .inr (.inl ⟨c, q, o, _, by rw [c]; exact Ha⟩)
      · rw [upd_ne c]
        exact (T3 b).imp id fun z => .inr z
    · by_cases c : b = a
      · subst c
        rw [Ha] at z
        cases z
        exact ⟨ha, by rw [List.length_map]; exact hl, us, _, rv, ha⟩
      · rw [upd_ne c] at z
        obtain ⟨⟨p, hp, rfl⟩, rfl⟩ := T2 b u z
        exact tT p hp
  | some o =>
    have e := KX a o q
    rw [ha] at e
    cases e
    refine lawAtT (H := T) KX hns hb hbb hlim hg tT tK tC bm ha hr F bd (hsp _ T1 (.inr ⟨_, us.toArray, _, q, rfl, rfl, rfl, ?_, by simpa using rv⟩)) (hCX _) (fun b => (T3 b).imp id fun z => .inr z) T4
    rw [List.size_toArray, hi.length]
    exact hl
end
/-- the goal that the head leaves, from the law's promise -/
theorem walkT {l : PySem.W.OpenLaw} {n k : Nat} {q : Program} {loose : List Str} {XP : (Str → Option Value) → Heap → Prop} {YP : World → Heap → Prop} {d : DefRec} {CX : CXT} {x : Str} (hn : l.most = some n) (hn2 : n ≤ sizeLine) (hdf : d.params.defaults = []) (hr : Rm k callerA)
    (F : ∀ (w : World) (mg : Str → Option Value) (fa : Addr) (h : Heap), YP w h → h.Ns mainGlobals mg → mg d.name = some (.ref fa) →
      ∃ (K : PySem.W.Frag) (fd : FuncData) (sp : Sp) (cs : List (Addr × Addr)), K.In h ∧ (∀ p ∈ cs, h.get? p.2 = some tab0) ∧ (∀ p ∈ cs, K.lookup p.2 = none) ∧ (∀ p ∈ cs, PySem.W.codeHdIn K p.1 p.2 = true) ∧ (∀ (s : Shared) (u : Value), BindsTo s fd ⟨[u], []⟩ [(x, u)]) ∧
        (∀ (H : Hp) (a : Addr) (ns : List Int), ns.length ≤ n → (∀ i ∈ ns, Builtin.Int.intBits i ≤ 1048576) → (∀ p ∈ cs, H p.2 = some (.tbl #[])) → SqL K H a (ns.map V.int) → sp [.ref a] H (fun v _ => v = .bl true) fun _ _ _ => False) ∧
        ∀ base : Heap, K.In base → base.Ns mainGlobals mg → (∀ p ∈ cs, TabB base mg p.1 p.2) → FnG l.prog w K mg base CX k fa fd [x] sp)
    (hCX : ∀ (H : Hp) (s : Shared) (e : Value) (s' : Shared), CX [] H s (fun _ _ _ => False) e s' → False) : PySem.W.WalkO q loose XP YP l.row.toRowW d [] (fun f vs => PySem.call f vs) := by
  refine Att.attach_callB hn hdf fun w _ t mg mb fa _ _ _ _ a us ns G Y _ _ _ hm ho hi hlen hbits hg => ?_
  obtain ⟨K, fd, sp, cs, KX, tT, tK, tC, bd, hs, hF⟩ := F w mg fa _ Y G.T.g hm
  exact lawT KX G.T.g G.T.b G.T.builtins G.T.nolimit hg tT tK tC G.T.bmain ho hi (Nat.le_trans hlen hn2) hr hF bd (fun H hT hS => hs H a ns hlen hbits hT hS) fun H e s' => hCX H t e s'
/-! ### the Hook -/
/-- what the module's names reach in n steps, and the statics -/
def asY (g : Addr → Option Obj) : Nat → List Addr
  | 0 => [mainGlobals, cStatics]
  | n + 1 => He.growD g (asY g n)
def frY (n : Nat) (g : Addr → Option Obj) : PySem.W.Frag := He.frT g (asY g n)
def tabY (g : Addr → Option Obj) (tf : List (PySem.W.Frag → Addr)) (K : PySem.W.Frag) : Bool := tf.all fun a => PySem.W.codeHdIn K (cOf K (a K)) (tOf K (a K)) && (g (tOf K (a K))).any He.emptyTab
abbrev AlT : Type := AlX × Bool
def obsTG (n : Nat) (ft : List Ft) (fn : List DefX) (tf : List (PySem.W.Frag → Addr)) (g : Addr → Option Obj) : AlT := (obsY ft fn (frY n g), tabY g tf (frY n g))
structure SaysT (ft : List Ft) (fn : List DefX) (tf : List (PySem.W.Frag → Addr)) (h : Heap) (K : PySem.W.Frag) : Prop where
  y : SaysY ft fn K
  hd : ∀ a ∈ tf, PySem.W.codeHdIn K (cOf K (a K)) (tOf K (a K)) = true
  out : ∀ a ∈ tf, K.lookup (tOf K (a K)) = none
  emp : ∀ a ∈ tf, h.get? (tOf K (a K)) = some tab0
theorem saysT_of {n : Nat} {ft : List Ft} {fn : List DefX} {tf : List (PySem.W.Frag → Addr)} {h : Heap} (e : obsTG n ft fn tf h.get? = (valY fn, true)) : SaysT ft fn tf h (frY n h.get?) := by
  have e1 : obsY ft fn (frY n h.get?) = valY fn := congrArg Prod.fst e
  have e2 : tabY h.get? tf (frY n h.get?) = true := congrArg Prod.snd e
  have key : ∀ a ∈ tf, PySem.W.codeHdIn (frY n h.get?) (cOf (frY n h.get?) (a (frY n h.get?))) (tOf (frY n h.get?) (a (frY n h.get?))) = true ∧ ∃ o, h.get? (tOf (frY n h.get?) (a (frY n h.get?))) = some o ∧ He.emptyTab o = true := fun a ha => by
    obtain ⟨h1, h2⟩ := He.ba (List.all_eq_true.mp e2 a ha)
    cases q : h.get? (tOf (frY n h.get?) (a (frY n h.get?))) with
    | none =>
      rw [q] at h2
      cases h2
    | some o =>
      rw [q] at h2
      exact ⟨h1, o, rfl, h2⟩
  refine ⟨e1, fun a ha => (key a ha).1, fun a ha => ?_, fun a ha => ?_⟩
  · obtain ⟨_, o, q, z⟩ := key a ha
    exact He.frT_none q z
  · obtain ⟨_, o, q, z⟩ := key a ha
    rw [q, He.emptyTab_eq z]
def hookT (n : Nat) (ft : List Ft) (fn : List DefX) (tf : List (PySem.W.Frag → Addr)) : PySem.W.Hook where
  α := AlT
  obs := fun s => obsTG n ft fn tf s.heap.get?
  val := fun _ => (valY fn, true)
  says := fun _ h => ∃ K : PySem.W.Frag, K.In h ∧ SaysT ft fn tf h K
  of := fun _ _ e => ⟨_, He.frT_in, saysT_of e⟩
  keeps := fun _ _ _ ⟨K, hK, c⟩ k => ⟨K, PySem.W.Frag.In.keeps hK k, ⟨c.y, c.hd, c.out, fun a ha => k _ _ (c.emp a ha)⟩⟩
theorem obsTG_eq {n : Nat} {ft : List Ft} {fn : List DefX} {tf : List (PySem.W.Frag → Addr)} {g : Addr → Option Obj} {s : Shared} (h : ∀ a, g a = s.heap.get? a) : obsTG n ft fn tf g = (hookT n ft fn tf).obs s := by
  cases (funext h : g = s.heap.get?)
  rfl
/-! ### an error class of the text, over ValueError -/
def oexB (K : PySem.W.Frag) (C : Addr) : Bool := match K.lookup C with
  | some ⟨.type c, _, .cls cd, sl⟩ => c == "type" && (match cd.mro, sl.toList with
    | .ref D :: bm, [_, _, _, _, some (.builtin n), _] => D == C && (n == "ValueError.__new__" && (!cd.hasDel && (cd.hasDict && PySem.HandSPX.refsVE bm)))
    | _, _ => false)
  | _ => false
theorem oexB_ok {K : PySem.W.Frag} {C : Addr} (h : oexB K C = true) : ∃ nm q N bs bm sn sub ab col dd k0 k1 k2 k3 k5, K.lookup C = some (excClassObj nm q C N bs bm true sn sub ab col dd k0 k1 k2 k3 k5 "ValueError.__new__") ∧ PySem.HandSPX.refsVE bm = true := by
  unfold oexB at h
  split at h
  · rename_i c dd cd sl lk
    obtain ⟨h1, h2⟩ := He.ba h
    split at h2
    · rename_i D bm k0 k1 k2 k3 n k5 hm hs
      obtain ⟨g1, g2⟩ := He.ba h2
      obtain ⟨g3, g4⟩ := He.ba g2
      obtain ⟨g5, g6⟩ := He.ba g4
      obtain ⟨g7, g8⟩ := He.ba g6
      obtain ⟨c1, c2, c3, c4, c5, c6, c7, c8, c9, c10, c11⟩ := cd
      have es : sl = #[k0, k1, k2, k3, some (.builtin n), k5] := by
        have : sl = sl.toList.toArray := by simp
        rw [this, hs]
      have e1 : c = "type" := beq_iff_eq.mp h1
      have e2 : D = C := beq_iff_eq.mp g1
      have e3 : n = "ValueError.__new__" := beq_iff_eq.mp g3
      have e4 : c11 = false := by simpa using g5
      have e5 : c6 = true := g7
      have e6 : c3 = .ref D :: bm := hm
      subst es e1 e2 e3 e4 e5 e6
      exact ⟨_, _, _, _, _, _, _, _, _, _, _, _, _, _, _, lk, g8⟩
    · cases h2
  · cases h
/-- all that is asked of an error class x with the field f -/
def fXcl (x f : Str) : Ft := fun K => oexB K (He.ga K x) && (He.eqO (PySem.W.findIn K (.ref (He.ga K x)) "__setattr__") (some (some (.builtin "object.__setattr__"))) && (decide (PySem.W.subIn K (.ref (He.ga K x)) (.type "BaseException") = some true) && (decide (PySem.W.typeIn K (.ref (He.ga K x)) = some (.type "type")) &&
  (PySem.W.keepIn K (.ref (He.ga K x)) && (He.eqO (PySem.W.findIn K (.ref (He.ga K x)) f) (some none) && (He.eqO (PySem.W.findIn K (.ref (He.ga K x)) "__init__") (some (some (.ref (mA x "__init__" K)))) && (decide (PySem.W.typeIn K (.ref (mA x "__init__" K)) = some (.type "function")) &&
  (xfB K (He.ga K x) && (He.eqO (PySem.W.findIn K (.ref (He.ga K x)) "__class__") (some (some (.builtin "object.__class__"))) && (He.eqO (PySem.W.specialIn K (.builtin "object.__class__") "__get__") (some (some (.builtin "getset_descriptor.__get__"))) && (decide (PySem.W.takesIn K (.builtin "object.__class__") = some true) && decide (PySem.W.mroIn K (He.ga K x) (.type "object") = some true))))))))))))
theorem fXcl_ok {P : Program} {w : World} {K : PySem.W.Frag} {mg : Str → Option Value} {base : Heap} {k : Nat} {x f : Str} {fd : FuncData} {ps : List Str} (c : fXcl x f K = true) (hm : mg x = some (.ref (He.ga K x))) (B : Binds K fd ps []) (F : FnOk P w K mg base CX0 k (mA x "__init__" K) fd ps (spXI (He.ga K x) f)) :
    Xcl P w K mg base k x (He.ga K x) f := by
  obtain ⟨c1, c⟩ := He.ba c
  obtain ⟨c2, c⟩ := He.ba c
  obtain ⟨c3, c⟩ := He.ba c
  obtain ⟨c4, c⟩ := He.ba c
  obtain ⟨c5, c⟩ := He.ba c
  obtain ⟨c6, c⟩ := He.ba c
  obtain ⟨c7, c⟩ := He.ba c
  obtain ⟨c8, c⟩ := He.ba c
  obtain ⟨c9, c⟩ := He.ba c
  obtain ⟨c10, c⟩ := He.ba c
  obtain ⟨c11, c⟩ := He.ba c
  obtain ⟨c12, c13⟩ := He.ba c
  have xf := xfB_ok c9
  exact ⟨⟨oexB_ok c1, He.eqO_ok c2, of_decide_eq_true c3, of_decide_eq_true c4, c5⟩, He.eqO_ok c6, hm, ⟨_, fd, ps, He.eqO_ok c7, of_decide_eq_true c8, B, F⟩, xf, ⟨xf.ga, xf.gg, xf.exC, xf.hdC, He.eqO_ok c10, He.eqO_ok c11, of_decide_eq_true c12, of_decide_eq_true c13⟩⟩
theorem fXcl_pre {K : PySem.W.Frag} {x f : Str} (c : fXcl x f K = true) : OexC K (He.ga K x) ∧ PySem.W.findIn K (.ref (He.ga K x)) f = some none := by
  obtain ⟨c1, c⟩ := He.ba c
  obtain ⟨c2, c⟩ := He.ba c
  obtain ⟨c3, c⟩ := He.ba c
  obtain ⟨c4, c⟩ := He.ba c
  obtain ⟨c5, c⟩ := He.ba c
  obtain ⟨c6, _⟩ := He.ba c
  exact ⟨⟨oexB_ok c1, He.eqO_ok c2, of_decide_eq_true c3, of_decide_eq_true c4, c5⟩, He.eqO_ok c6⟩
/-- the class B over ValueError that has no __init__ of its own -/
def fLe (x : Str) : Ft := fun K => He.eqO (PySem.W.specialIn K (.ref (He.ga K x)) "__getattribute__") (some (some (.builtin "type.__getattribute__"))) && (PySem.W.readsIn K (He.ga K x) (.type "type") && (match PySem.W.findCls K (.ref (He.ga K x)) (.type "type") "__init__" with
  | some (.val (.builtin n)) => n == "ValueError.__init__"
  | _ => false))
theorem fLe_ok {K : PySem.W.Frag} {x : Str} (c : fLe x K = true) : LeC K (He.ga K x) := by
  obtain ⟨c1, c⟩ := He.ba c
  obtain ⟨c2, c3⟩ := He.ba c
  refine ⟨He.eqO_ok c1, c2, ?_⟩
  split at c3
  · rename_i n e
    rw [e, beq_iff_eq.mp c3]
  · cases c3
end LL

set_option Elab.async false
set_option linter.all false
set_option maxRecDepth 100000
set_option maxHeartbeats 2000000
/-! LLBfs: the Hook over what the module's names reach, gathered level by level, the seen addresses as the bits of one number. -/
namespace LL
open PySem PySem.Spec PyProof.Rows L2
def addU {α : Type} : List Addr → Nat → List Addr → (Nat → List Addr → α) → α
  | [], m, nx, k => k m nx
  | a :: r, m, nx, k => match Nat.testBit m a with
    | true => addU r m nx k
    | false => HandSHeadRun.frNat (m ||| (1 <<< a)) fun m => addU r m (a :: nx) k
def rowU {α : Type} (g : Addr → Option Obj) : List Addr → Nat → List Addr → (Nat → List Addr → α) → α
  | [], m, nx, k => k m nx
  | a :: r, m, nx, k => match g a with
    | some o => addU (He.refsD o) m nx fun m nx => rowU g r m nx k
    | none => rowU g r m nx k
def asU (g : Addr → Option Obj) : Nat → List Addr → Nat → List Addr
  | 0, fr, _ => fr
  | n + 1, fr, m => fr ++ rowU g fr m [] fun m nx => asU g n nx m
/-- what the module's names reach in n steps, and the statics -/
def frU (n : Nat) (g : Addr → Option Obj) : PySem.W.Frag := He.frT g (addU [mainGlobals, PySem.cStatics] 0 [] fun m l => asU g n l m)
def obsUG (n : Nat) (ft : List Ft) (fn : List DefX) (tf : List (PySem.W.Frag → Addr)) (g : Addr → Option Obj) : AlT := (obsY ft fn (frU n g), tabY g tf (frU n g))
theorem saysU_of {n : Nat} {ft : List Ft} {fn : List DefX} {tf : List (PySem.W.Frag → Addr)} {h : Heap} (e : obsUG n ft fn tf h.get? = (valY fn, true)) : SaysT ft fn tf h (frU n h.get?) := by
  have e1 : obsY ft fn (frU n h.get?) = valY fn := congrArg Prod.fst e
  have e2 : tabY h.get? tf (frU n h.get?) = true := congrArg Prod.snd e
  have key : ∀ a ∈ tf, PySem.W.codeHdIn (frU n h.get?) (cOf (frU n h.get?) (a (frU n h.get?))) (tOf (frU n h.get?) (a (frU n h.get?))) = true ∧ ∃ o, h.get? (tOf (frU n h.get?) (a (frU n h.get?))) = some o ∧ He.emptyTab o = true := fun a ha => by
    obtain ⟨h1, h2⟩ := He.ba (List.all_eq_true.mp e2 a ha)
    cases q : h.get? (tOf (frU n h.get?) (a (frU n h.get?))) with
    | none =>
      rw [q] at h2
      cases h2
    | some o =>
      rw [q] at h2
      exact ⟨h1, o, rfl, h2⟩
  refine ⟨e1, fun a ha => (key a ha).1, fun a ha => ?_, fun a ha => ?_⟩
  · obtain ⟨_, o, q, z⟩ := key a ha
    exact He.frT_none q z
  · obtain ⟨_, o, q, z⟩ := key a ha
    rw [q, He.emptyTab_eq z]
def hookU (n : Nat) (ft : List Ft) (fn : List DefX) (tf : List (PySem.W.Frag → Addr)) : PySem.W.Hook where
  α := AlT
  obs := fun s => obsUG n ft fn tf s.heap.get?
  val := fun _ => (valY fn, true)
  says := fun _ h => ∃ K : PySem.W.Frag, K.In h ∧ SaysT ft fn tf h K
  of := fun _ _ e => ⟨_, He.frT_in, saysU_of e⟩
  keeps := fun _ _ _ ⟨K, hK, c⟩ k => ⟨K, PySem.W.Frag.In.keeps hK k, ⟨c.y, c.hd, c.out, fun a ha => k _ _ (c.emp a ha)⟩⟩
theorem obsUG_eq {n : Nat} {ft : List Ft} {fn : List DefX} {tf : List (PySem.W.Frag → Addr)} {g : Addr → Option Obj} {s : Shared} (h : ∀ a, g a = s.heap.get? a) : obsUG n ft fn tf g = (hookU n ft fn tf).obs s := by
  cases (funext h : g = s.heap.get?)
  rfl
end LL

set_option Elab.async false
set_option linter.all false
set_option maxRecDepth 100000
set_option maxHeartbeats 2000000
/-! LLVal: values that are refused, and how repr tells them; heaps with tables; constants of the module. -/
namespace LL
open PySem PySem.Spec PyProof.Rows L2
theorem small {n : Nat} (h : n ≤ 100000) : n ≤ sizeLine := Nat.le_trans h (by rw [sizeLine_eq]; decide)
theorem passF {X : Cx} : Passes (L2.CX X.prog X.w) X E0 := fun _ _ _ _ _ _ _ h => by
  obtain ⟨_, _, _, _, _, _, _, _, _, _, _, _, z⟩ := h
  exact z.elim
/-- a constant of the module -/
theorem pe_gS {X : Cx} {x z : Str} {pos : Pos} (h : ∃ t, X.mg x = some (.str z t)) (hg : Gl X x := by rfl) (hd : (x == ("__debug__" : Str)) = false := by decide) : PE X (.Name x pos) (tC (.str z)) := by
  obtain ⟨t, h⟩ := h
  exact pe_glob hg h ⟨t, rfl⟩ hd
theorem pe_gI {X : Cx} {x : Str} {i : Int} {pos : Pos} (h : ∃ t, X.mg x = some (.int i t)) (hg : Gl X x := by rfl) (hd : (x == ("__debug__" : Str)) = false := by decide) : PE X (.Name x pos) (tC (.int i)) := by
  obtain ⟨t, h⟩ := h
  exact pe_glob hg h ⟨t, rfl⟩ hd
def fStr (x z : Str) : Ft := fun K => (He.Fa.str x z).ok K
def fInt (x : Str) (i : Int) : Ft := fun K => (He.Fa.int x i).ok K
/-- a value that is no text -/
def NoTxt (K : PySem.W.Frag) (H : Hp) (v : V) : Prop := ∃ t, (∀ H', LamX.ExtN H H' → TyX K H' v t) ∧ PySem.W.kitOne K t (.type "str") = some false
theorem NoTxt.ext {K : PySem.W.Frag} {H H' : Hp} {v : V} (h : NoTxt K H v) (s : LamX.ExtN H H') : NoTxt K H' v := let ⟨t, a, b⟩ := h; ⟨t, fun H2 s2 => a H2 (s.trans s2), b⟩
theorem NoTxt.same {K : PySem.W.Frag} {H H' : Hp} {v : V} (h : NoTxt K H v) (s : Same H H') : NoTxt K H' v := h.ext (.of s)
/-- an error with this value -/
def Err (Cx : Addr) (H : Hp) (v : V) (E : XK) : Prop := ∀ H' d, Same H H' → H d = none → H' d = some (.xd [("value", v)]) → E (.ref Cx) (some d) H'
theorem Err.now {Cx : Addr} {H : Hp} {v : V} {E : XK} (h : Err Cx H v E) : ∀ d, H d = none → E (.ref Cx) (some d) (upd H d (.xd [("value", v)])) := fun d hd => h _ d (same_upd hd) hd upd_same
theorem Err.same {Cx : Addr} {H H1 : Hp} {v : V} {E : XK} (h : Err Cx H v E) (s : Same H H1) : Err Cx H1 v E := fun H' d s2 hd e => h H' d (s.trans s2) (s.free hd) e
theorem kStr {K : PySem.W.Frag} : PySem.W.kitOne K (.type "str") (.type "str") = some true := kit_ty (by decide +kernel)
/-! ### heaps with tables -/
def ButN (p : Addr) (H H' : Hp) : Prop := ∀ b o, H b = some o → b ≠ p → (∀ ps, o ≠ .tbl ps) → H' b = some o
theorem ButN.trans {p : Addr} {H H1 H2 : Hp} (a : ButN p H H1) (b : ButN p H1 H2) : ButN p H H2 := fun c o e n t => b c o (a c o e n t) n t
theorem ButN.of {p : Addr} {H H' : Hp} (a : But p H H') : ButN p H H' := fun c o e n _ => a c o e n
theorem ButN.ext {p : Addr} {H H' : Hp} (a : LamX.ExtN H H') : ButN p H H' := fun c o e _ t => a c o e t
theorem ButN.same {p : Addr} {H H' : Hp} (a : Same H H') : ButN p H H' := fun c o e _ _ => a c o e
theorem lst_ext {H H' : Hp} {l : Addr} {xs : List V} (h : H l = some (.lst xs)) (b : LamX.ExtN H H') : H' l = some (.lst xs) := b _ _ h (fun _ z => by cases z)
theorem tabs_kp {T : List (Addr × Str)} {H H' : Hp} (t : LamX.Tabs T H) (k : Kp H H') : LamX.Tabs T H' := fun p hp => by
  obtain ⟨ps, h1, h2, h3⟩ := t p hp
  refine ⟨ps, k _ _ h1 (fun _ z => by cases z), h2, fun pos cv hc => ?_⟩
  obtain ⟨c, e1, e2⟩ := h3 pos cv hc
  exact ⟨c, e1, k _ _ e2 (fun _ z => by unfold LamX.CodeO at z; cases z)⟩
theorem tabs_same {T : List (Addr × Str)} {H H' : Hp} (t : LamX.Tabs T H) (k : Same H H') : LamX.Tabs T H' := tabs_kp t (Kp.of k)
theorem asc_okt {z : Str} (h : PyData.strOk z = true) : Asc z := fun c hc => Nat.lt_trans (okt_iff.mp h c hc) (by decide)
theorem log_small {n : Int} (h : n.natAbs < 2 ^ 100) : n.natAbs.log2 < 1920 := Nat.lt_of_lt_of_le (PySem.Flt.log2_lt_of (by decide) h) (by decide)
section
variable {K : PySem.W.Frag}
theorem dq_of {H : Hp} {v : V} {d : PyData} (h : Dp K H v d) (s : Shw d) (p : d.depth ≤ 40) (c : cost d ≤ sizeLine) : Dq K H v d := .dat h s p c
/-- told by repr as d, whatever else is made -/
def Tld (K : PySem.W.Frag) (H : Hp) (v : V) (d : PyData) : Prop := PyData.strOk d.shown = true ∧ ∀ H', LamX.ExtN H H' → Dq K H' v d
theorem Tld.ext {H H' : Hp} {v : V} {d : PyData} (h : Tld K H v d) (s : LamX.ExtN H H') : Tld K H' v d := ⟨h.1, fun H2 s2 => h.2 H2 (s.trans s2)⟩
theorem okt_int (i : Int) : PyData.strOk (PyData.shown (.int i)) = true := by
  simp only [PyData.shown]
  exact okt_of _
theorem tld_non {H : Hp} : Tld K H .non .none := ⟨by decide +kernel, fun _ _ => dq_of .non (by simp only [Shw]) (by decide +kernel) (by decide +kernel)⟩
theorem tld_bl {H : Hp} (b : Bool) : Tld K H (.bl b) (.bool b) := ⟨by cases b <;> decide +kernel, fun _ _ => dq_of (.bl b) (by simp only [Shw]) (by cases b <;> decide +kernel) (by cases b <;> decide +kernel)⟩
theorem tld_int {H : Hp} {i : Int} (h : i.natAbs < 2 ^ 100) : Tld K H (.int i) (.int i) := by
  refine ⟨okt_int i, fun _ _ => dq_of (.int i) (by simp only [Shw]; exact log_small h) ?_ ?_⟩
  · simp only [PyData.depth]
    decide
  · simp only [cost]
    exact small (by decide)
theorem tld_zero {H : Hp} : Tld K H (.str "0") (.str "0") := ⟨by decide +kernel, fun _ _ => dq_of (.str _) (by simp only [Shw]; exact asc_of _) (by decide +kernel) (by decide +kernel)⟩
theorem tld_list1 {H : Hp} {l : Addr} {i : Int} (h : i.natAbs < 2 ^ 100) (hl : H l = some (.lst [.int i])) : Tld K H (.ref l) (.list [.int i]) := by
  refine ⟨?_, fun H' s => dq_of (.lst (SqL.of (lst_ext hl s)) (.cons (.int _) .nil)) (by simp only [Shw, ShwAll]; exact ⟨log_small h, trivial⟩) ?_ ?_⟩
  · simp only [PyData.shown, PyData.shownAll, listText, textFrom]
    exact okt_app (okt_app (okt_app (okt_of _) (okt_of _)) (okt_of _)) (okt_of _)
  · simp only [PyData.depth, PyData.depthAll]
    decide
  · simp only [cost, costAll]
    exact small (by decide)
theorem tld_a {H : Hp} {l : Addr} (hl : H l = some (.lst [.str "a"])) : Tld K H (.ref l) (.list [.str "a"]) :=
  ⟨by decide +kernel, fun H' s => dq_of (.lst (SqL.of (lst_ext hl s)) (.cons (.str _) .nil)) (by simp only [Shw, ShwAll]; exact ⟨asc_of _, trivial⟩) (by decide +kernel) (by decide +kernel)⟩
theorem tld_nil {H : Hp} {l : Addr} (hl : H l = some (.lst [])) : Tld K H (.ref l) (.list []) :=
  ⟨by decide +kernel, fun H' s => dq_of (.lst (SqL.of (lst_ext hl s)) .nil) (by simp only [Shw, ShwAll]) (by decide +kernel) (by decide +kernel)⟩
theorem tld_t0 {H : Hp} {l : Addr} (hl : H l = some (.tup [.int 0])) : Tld K H (.ref l) (.tuple [.int 0]) :=
  ⟨by decide +kernel, fun H' s => dq_of (.tup (SqT.of (s _ _ hl (fun _ z => by cases z))) (.cons (.int _) .nil)) (by simp only [Shw, ShwAll]; decide +kernel) (by decide +kernel) (by decide +kernel)⟩
theorem tld_tnil {H : Hp} {l : Addr} (hl : H l = some (.tup [])) : Tld K H (.ref l) (.tuple []) :=
  ⟨by decide +kernel, fun H' s => dq_of (.tup (SqT.of (s _ _ hl (fun _ z => by cases z))) .nil) (by simp only [Shw, ShwAll]) (by decide +kernel) (by decide +kernel)⟩
theorem tld_d {H : Hp} {l : Addr} (hl : H l = some (.dK [])) : Tld K H (.ref l) (.dict []) := ⟨by decide +kernel, fun H' s => .emp (s _ _ hl (fun _ z => by cases z))⟩
theorem kNoneI : PySem.W.kitOne K (.type "NoneType") (.type "int") = some false := kit_ty (by decide +kernel)
theorem kStrI : PySem.W.kitOne K (.type "str") (.type "int") = some false := kit_ty (by decide +kernel)
theorem kLstI : PySem.W.kitOne K (.type "list") (.type "int") = some false := kit_ty (by decide +kernel)
theorem kTupI : PySem.W.kitOne K (.type "tuple") (.type "int") = some false := kit_ty (by decide +kernel)
theorem kDicI : PySem.W.kitOne K (.type "dict") (.type "int") = some false := kit_ty (by decide +kernel)
theorem kNoneS : PySem.W.kitOne K (.type "NoneType") (.type "str") = some false := kit_ty (by decide +kernel)
theorem kIntS : PySem.W.kitOne K (.type "int") (.type "str") = some false := kit_ty (by decide +kernel)
theorem kBoolS : PySem.W.kitOne K (.type "bool") (.type "str") = some false := kit_ty (by decide +kernel)
theorem kLstS : PySem.W.kitOne K (.type "list") (.type "str") = some false := kit_ty (by decide +kernel)
theorem kTupS : PySem.W.kitOne K (.type "tuple") (.type "str") = some false := kit_ty (by decide +kernel)
theorem kDicS : PySem.W.kitOne K (.type "dict") (.type "str") = some false := kit_ty (by decide +kernel)
theorem ty_lst {H H' : Hp} {l : Addr} {xs : List V} (h : H l = some (.lst xs)) (s : LamX.ExtN H H') : TyX K H' (.ref l) (.type "list") := .base (.lst (lst_ext h s))
theorem ty_tup {H H' : Hp} {l : Addr} {xs : List V} (h : H l = some (.tup xs)) (s : LamX.ExtN H H') : TyX K H' (.ref l) (.type "tuple") := .base (.tup (s _ _ h (fun _ z => by cases z)))
theorem ty_dK {H H' : Hp} {l : Addr} (h : H l = some (.dK [])) (s : LamX.ExtN H H') : TyX K H' (.ref l) (.type "dict") := .base (.dK (s _ _ h (fun _ z => by cases z)))
/-- a refusal as a tuple, and the one that is due -/
def rfs (x s : Str) : PyData := .tuple [.str x, .str s, .bool true]
theorem rfs_lay {x s : Str} (hx : PyData.strOk x = true) (hs : PyData.strOk s = true) : PyData.canLay0 (rfs x s) = true := by
  simp [rfs, PyData.canLay0, PyData.canLayAll0, hx, hs]
theorem rfs_shp {x s : Str} (hx : PyData.strOk x = true) (hs : PyData.strOk s = true) : SeqAt.shaped (rfs x s) = true := by
  unfold SeqAt.shaped
  rw [rfs_lay hx hs]
  simp [rfs, PyData.depth, PyData.depthAll]
theorem rfs_dp {H : Hp} {t : Addr} {x s : Str} (h : H t = some (.tup [.str x, .str s, .bl true])) : Dp K H (.ref t) (rfs x s) := .tup (SqT.of h) (.cons (.str _) (.cons (.str _) (.cons (.bl _) .nil)))
end
def Fre (H : Hp) (a : Addr) : Prop := ∀ o, H a = some o → ∃ ps, o = HO.tbl ps
/-- beside what was there, but p, an own a is changed -/
theorem bn_own {p a : Addr} {H H1 H2 : Hp} (b : ButN p H H1) (f : Fre H a) (c : But a H1 H2) : ButN p H H2 := fun x o e n t => c x o (b x o e n t) fun z => by
  obtain ⟨ps, q⟩ := f o (z ▸ e)
  exact t ps q
theorem code_ref {K : PySem.W.Frag} {f : Addr} {fd : FuncData} {x qual : Str} {params : Arguments} {body : List Stmt} {scope : Scope} {dvs : List V} {kws : List (Str × V)} (F : FunD K x qual params body scope dvs kws f fd) : (fdAt K f).map FuncData.code = some (.ref (cOf K f)) := by
  obtain ⟨oc, od, dV, kV, doc, pm, an, cdv, ct, osl, rfl, lk, hcd, _, _⟩ := F.ex
  obtain ⟨c, rfl⟩ := He.codeIn_ref hcd
  have e : (fdAt K f).map FuncData.code = some (.ref c) := by
    unfold fdAt
    rw [lk]
    rfl
  rw [cOf_of e]
  exact e
theorem look_v (v : V) : ([(("value" : Str), v)] : List (Str × V)).lookup ("value" : Str) = some v := by
  rw [show ([(("value" : Str), v)] : List (Str × V)) = putF "value" v [] from rfl, lookup_putF, if_pos rfl]
theorem sq_ext {K : PySem.W.Frag} {H H' : Hp} {a : Addr} {xs : List V} (h : SqL K H a xs) (e : LamX.ExtN H H') : SqL K H' a xs := by
  rcases h with (h | ⟨o, h⟩) | h
  · exact .inl (.inl (e _ _ h (fun _ z => by cases z)))
  · exact .inl (.inr ⟨o, e _ _ h (fun _ z => by cases z)⟩)
  · exact .inr h
/-! ### slices -/
theorem cutV_to (xs : List V) (n : Nat) : cutV xs none (some (n : Int)) = xs.take n := by
  unfold cutV
  rw [HT.sIx_none, HT.sIx_nat, List.drop_zero, Nat.sub_zero, List.take_eq_take_iff]
  omega
theorem cutV_from (xs : List V) (n : Nat) : cutV xs (some (n : Int)) none = xs.drop n := by
  unfold cutV
  rw [HT.sIx_none, HT.sIx_nat]
  by_cases h : n ≤ xs.length
  · rw [Nat.min_eq_left h, List.take_of_length_le (by rw [List.length_drop]; omega)]
  · rw [Nat.min_eq_right (by omega), List.drop_of_length_le (Nat.le_refl _), List.drop_of_length_le (by omega)]
    simp
theorem cutV_one (xs : List V) (n : Nat) : cutV xs (some (n : Int)) (some ((n : Int) + 1)) = (xs.drop n).take 1 := by
  unfold cutV
  rw [show ((n : Int) + 1) = ((n + 1 : Nat) : Int) by omega, HT.sIx_nat, HT.sIx_nat]
  by_cases h : n < xs.length
  · rw [Nat.min_eq_left (by omega), Nat.min_eq_left (by omega), Nat.add_sub_cancel_left]
  · rw [show min n xs.length = xs.length by omega, List.drop_of_length_le (Nat.le_refl _), List.drop_of_length_le (by omega)]
    simp
theorem cutV_last (xs : List V) : cutV xs none (some (-1)) = xs.dropLast := by
  unfold cutV
  have e : HT.sIx xs.length xs.length (some (-1)) = xs.length - 1 := by
    show (if (-1 : Int) < 0 then ((-1 : Int) + (xs.length : Int)).toNat else min (-1 : Int).toNat xs.length) = _
    rw [if_pos (by decide)]
    omega
  rw [HT.sIx_none, e, List.drop_zero, Nat.sub_zero, List.dropLast_eq_take]
theorem cutS_to (z : Str) (n : Nat) : cutS z none (some (n : Int)) = ⟨(z.cps.toList.take n).toArray⟩ := by
  have h : z.cps.toList.length = z.length := rfl
  unfold cutS
  rw [HT.sIx_none, HT.sIx_nat, List.drop_zero, Nat.sub_zero]
  congr 2
  rw [List.take_eq_take_iff]
  omega
theorem cutS_from (z : Str) (n : Nat) : cutS z (some (n : Int)) none = ⟨(z.cps.toList.drop n).toArray⟩ := by
  have e : z.cps.toList.length = z.length := rfl
  unfold cutS
  rw [HT.sIx_none, HT.sIx_nat]
  by_cases h : n ≤ z.length
  · rw [Nat.min_eq_left h, List.take_of_length_le (by rw [List.length_drop]; omega)]
  · rw [Nat.min_eq_right (by omega), List.drop_of_length_le (by omega), List.drop_of_length_le (by omega)]
    simp
/-! ### a text times a number; texts told by repr -/
def rMulS : R2 := fun x y H Q => ∃ z k, x = .str z ∧ y = .int k ∧ MulOk z k ∧ Q (.str (Txt.mul z k)) H
theorem op_mulS {X : Cx} : OpR X (binaryOp .Mult) rMulS := by
  intro pins s σ H x y v u Q I rx ry h
  obtain ⟨i, j, rfl, rfl, hz, q⟩ := h
  obtain ⟨t, rfl⟩ := rx
  obtain ⟨t', rfl⟩ := ry
  exact PySem.SB.mul hz (fun t' tk => ⟨.str (Txt.mul i j), H, I.tok _, ⟨_, rfl⟩, q⟩)
theorem repr_char (q c : Nat) (hq : q < 1114112) (h : c < 1114112) : ∀ d ∈ Builtin.Str.reprChar q c, d < 1114112 := by
  have hx : ∀ w d, d ∈ List.replicate (w - ((Nat.toDigits 16 c).map Char.toNat).length) 48 ++ (Nat.toDigits 16 c).map Char.toNat → d < 1114112 := fun w d hd => by
    rcases List.mem_append.mp hd with hd | hd
    · rw [List.eq_of_mem_replicate hd]
      decide
    · obtain ⟨k, _, rfl⟩ := List.mem_map.mp hd
      rcases k.valid with h | ⟨_, h⟩
      · exact Nat.lt_trans h (by decide)
      · exact h
  intro d hd
  unfold Builtin.Str.reprChar at hd
  dsimp only at hd
  repeat' split at hd
  all_goals first
    | (rcases List.mem_append.mp hd with z | z
       · rcases List.mem_cons.mp z with rfl | z
         · decide
         · rw [List.mem_singleton.mp z]; decide
       · exact hx _ _ z)
    | (rcases List.mem_cons.mp hd with rfl | z
       · decide
       · rw [List.mem_singleton.mp z]; first | decide | exact h)
    | (rw [List.mem_singleton.mp hd]; exact h)
theorem fold_repr (q : Nat) (hq : q < 1114112) : ∀ (l : List Nat) (acc : Array Nat), (∀ c ∈ l, c < 1114112) → (∀ c ∈ acc.toList, c < 1114112) → ∀ c ∈ (l.foldl (fun out c => out ++ (Builtin.Str.reprChar q c).toArray) acc).toList, c < 1114112
  | [], _, _, h => h
  | d :: r, acc, hl, h => by
    refine fold_repr q hq r _ (fun c hc => hl c (List.mem_cons_of_mem _ hc)) fun c hc => ?_
    rw [Array.toList_append] at hc
    rcases List.mem_append.mp hc with z | z
    · exact h c z
    · exact repr_char q d hq (hl d (List.mem_cons_self ..)) c z
theorem okt_repr {z : Str} (h : PyData.strOk z = true) : PyData.strOk (PyData.shown (.str z)) = true := by
  simp only [PyData.shown]
  rw [okt_iff] at h ⊢
  have hq : reprQuote z < 1114112 := by
    unfold reprQuote
    split <;> decide
  intro c hc
  unfold reprText at hc
  rw [Array.toList_push, ← Array.foldl_toList] at hc
  rcases List.mem_append.mp hc with w | w
  · refine fold_repr _ hq _ _ h (fun c hc => ?_) c w
    rw [List.mem_singleton.mp hc]
    exact hq
  · rw [List.mem_singleton.mp w]
    exact hq
theorem tld_str {K : PySem.W.Frag} {H : Hp} {z : Str} (h : PyData.strOk z = true) (l : z.length ≤ 9000) : Tld K H (.str z) (.str z) := by
  refine ⟨okt_repr h, fun _ _ => dq_of (.str _) (by simp only [Shw]; exact asc_okt h) ?_ ?_⟩
  · simp only [PyData.depth]
    decide
  · simp only [cost]
    exact small (by omega)
theorem kDicS' {K : PySem.W.Frag} : PySem.W.kitOne K (.type "dict") (.type "str") = some false := kit_ty (by decide +kernel)
end LL

set_option Elab.async false
set_option linter.all false
set_option maxRecDepth 100000
set_option maxHeartbeats 2000000
/-! LLZip: enumerate of a list or a tuple; zip of three lists or tuples. -/
namespace LL
open PySem PySem.Spec PyProof.Rows L2
/-! ### a list or a tuple -/
/-- a list (k) or a tuple -/
def sqK (k : Bool) (K : PySem.W.Frag) (H : Hp) (a : Addr) (xs : List V) : Prop := match k with | true => SqL K H a xs | false => SqT K H a xs
def itK (k : Bool) (h : Heap) (it a : Addr) (i : Nat) : Prop := match k with | true => h.IsListIter it a i | false => h.IsTupleIter it a i
def hpK (k : Bool) (h : Heap) (a : Addr) (items : Array Value) : Prop := match k with | true => h.IsList a items | false => h.IsTuple a items
def obK (k : Bool) (a : Addr) : Obj := match k with | true => { cls := .type "list_iterator", data := .fields #[.ref a, .int 0 0] } | false => { cls := .type "tuple_iterator", data := .fields #[.ref a, .int 0 0] }
theorem itK.at {k : Bool} {h h' : Heap} {it a : Addr} {i : Nat} (x : itK k h it a i) (e : ∀ o, h.get? it = some o → h'.get? it = some o) : itK k h' it a i := by
  cases k with
  | true => exact Heap.IsListIter.at x e
  | false => exact Heap.IsTupleIter.at x e
theorem itK.ob {k : Bool} {h : Heap} {it a : Addr} {i : Nat} (x : itK k h it a i) : ∃ o, h.get? it = some o ∧ ∀ v, o.data ≠ .cell v := by
  cases k with
  | true => obtain ⟨o, e, _, d⟩ := x; exact ⟨o, e, fun v q => by rw [d] at q; cases q⟩
  | false => obtain ⟨o, e, _, d⟩ := x; exact ⟨o, e, fun v q => by rw [d] at q; cases q⟩
theorem itK.new {k : Bool} {h : Heap} {it a : Addr} (e : h.get? it = some (obK k a)) : itK k h it a 0 := by
  cases k with
  | true => exact ⟨_, e, rfl, rfl⟩
  | false => exact ⟨_, e, rfl, rfl⟩
theorem begK (k : Bool) (a : Addr) (items : Array Value) : Begins (.ref a) (obK k a) fun h => hpK k h a items := by
  cases k with
  | true => exact begins_list a items
  | false => exact begins_tuple a items
theorem drwK {prog : Program} {w : World} {A : Around} (hh : A.handled = none) (k : Bool) (it a : Addr) (hne : a ≠ it) (items : Array Value) :
    Draws prog w A it [it, a] items.size (fun i v => items[i]? = some v) (fun i h => itK k h it a i ∧ hpK k h a items) := by
  cases k with
  | true => exact Draws.list hh it a hne items
  | false => exact Draws.tuple hh it a hne items
section
variable {X : Cx} {pins : List (Addr × Obj)} {σ : L2.St} {H : Hp} {s : Shared}
theorem inv_K {k : Bool} {a : Addr} {xs : List V} (I : Inv X pins σ H s) (h : sqK k X.K H a xs) : ∃ its : List Value, Vals xs its ∧ hpK k s.heap a its.toArray ∧ ∃ o, s.heap.get? a = some o := by
  cases k with
  | true =>
    obtain ⟨its, r, p, _⟩ := I.list h
    obtain ⟨o, e, _⟩ := id p.isList
    exact ⟨its, r, p.isList, o, e⟩
  | false =>
    obtain ⟨its, r, p, _⟩ := I.tuple h
    obtain ⟨o, e, _⟩ := id p
    exact ⟨its, r, p, o, e⟩
theorem inj_K {k : Bool} {a : Addr} {xs ys : List V} (I : Inv X pins σ H s) (h : sqK k X.K H a xs) (h' : sqK k X.K H a ys) : xs = ys := by
  cases k with
  | true => exact I.list_inj h h'
  | false => exact I.tuple_inj h h'
end
/-! ### enumerate -/
/-- enumerate(v) makes two new objects -/
theorem enum_new {v : Value} {o : Obj} {G : Heap → Prop} (B : Begins v o G) :
    Meets (Builtin.«enumerate.__new__» ⟨[.type "enumerate", v], []⟩) (fun _ R s => G s.heap ∧ R (.ok (.ret (.ref (s.heap.push o).objs.size)))
      { s with heap := (s.heap.push o).push { cls := .type "enumerate", data := .fields #[.none, .bool false, .ref s.heap.objs.size, rawInt 0, .none, .none] } }) :=
  .of_wp fun prog w A R s h => by
    obtain ⟨hp, g, d, tk, os⟩ := s
    have sub := sub_enumerate
    have it : ∀ {A' : Around} {E : Value → Shared → Prop} {Q : Value → Shared → Prop}, Q (.ref hp.objs.size) ⟨hp.push o, g, d, tk, os⟩ → wpAny (model prog w) A' (pyIter v) Q E ⟨hp, g, d, tk, os⟩ := fun q => B.iter _ _ _ _ _ _ h.1 q
    wp_walk using it
    refine wpAny_stack_any fun st => wpAny_pure ?_
    split <;> try (rename_i c _ _ _ _ _; cases (c == Value.type "enumerate"))
    all_goals
      wp_walk using it
      exact ⟨_, rfl, h.2⟩
/-- the things at a as they stand at each turn, each in a new pair behind its number -/
def IteK (K : PySem.W.Frag) (k : Bool) (a : Addr) : It where
  go := fun i H => ∃ (xs : List V) (x : V), sqK k K H a xs ∧ xs[i]? = some x
  yld := fun i H v H' => ∃ T x, v = .ref T ∧ H T = none ∧ H' = upd H T (.tup [.int (i : Nat), x]) ∧ ∀ xs, sqK k K H a xs → xs[i]? = some x
  stop := fun i H => ∃ xs : List V, sqK k K H a xs ∧ xs.length = i
theorem two_mem {x a b : Addr} (h : x ∈ [a, b]) : x = a ∨ x = b := (List.mem_cons.mp h).imp id List.mem_singleton.mp
theorem turn_enumK {P : Program} {w : World} {K : PySem.W.Frag} {elts : List Expr} {kk : Nat} {tpos : Pos} {k : Bool} (a e it : Addr) (n1 : a ≠ it) (n2 : e ≠ a) (n3 : e ≠ it) :
    Turn P w K (.Tuple elts kk tpos) (IteK K k a) [e, it] e (fun i h => (∃ v, IsEnum h e it (i : Nat) v) ∧ itK k h it a i) where
  mem := List.mem_cons_self ..
  obj := fun i h st b hb => (two_mem hb).elim (fun z => z ▸ let ⟨_, he⟩ := st.1; ⟨_, he, fun _ q => nomatch q⟩) fun z => z ▸ st.2.ob
  keep := fun i h h' st hk => ⟨st.1.imp fun v he => hk e (List.mem_cons_self ..) _ he, st.2.at fun o q => hk it (List.mem_cons_of_mem _ (List.mem_cons_self ..)) o q⟩
  item := by
    rintro X rfl rfl rfl calm i pins s σ H E I own ⟨⟨v0, he⟩, hit⟩ ⟨xs, x, hq, hx⟩
    obtain ⟨its, rv, p, _⟩ := inv_K I hq
    obtain ⟨u, hu, ru⟩ := rv.get hx
    have bound : ∀ b ∈ [e, it], b < s.heap.objs.size := fun b hb => (two_mem hb).elim (fun z => z ▸ Heap.lt_size he) fun z => z ▸ let ⟨_, q, _⟩ := hit.ob; Heap.lt_size q
    have eu : its.toArray[i]? = some u := by simpa using hu
    refine wpAny_pyNext_enum_itemD (drwK (A := X.A.in1) (show X.A.in1.handled = none from I.ok.hd calm) k it a n1 its.toArray) he ⟨hit, p⟩ (Array.getElem?_eq_some_iff.mp eu).1 n3 (fun q => (two_mem q).elim n3 n2) fun y h1 tk py ho st' hT _ far => ?_
    cases Option.some.inj ((show its.toArray[i]? = some y from py).symm.trans eu)
    refine ⟨_, rfl, wpAny_letOwnedTupleGo_enum (s := { s with heap := h1, toks := tk + 1 }) ho fun h2 he2 sb => ?_⟩
    have off {b : Addr} (hb : b ∉ [e, it]) : b ≠ e ∧ b ≠ it := ⟨fun z => hb (z ▸ List.mem_cons_self ..), fun z => hb (z ▸ List.mem_cons_of_mem _ (List.mem_cons_self ..))⟩
    have pair : h2.get? s.heap.objs.size = some { cls := .type "tuple", data := .seq #[.int i tk, u] } := (sb.2 _ (Nat.ne_of_gt (Heap.lt_size he))).trans hT
    have I1 : Inv X pins σ (upd H s.heap.objs.size (.tup [.int (i : Nat), x])) { s with heap := h2, toks := tk + 1 } :=
      I.turnedNew (ch := [e, it]) (fun b o hb q => (sb.2 b (off hb).1).trans (far b o (off hb).1 (off hb).2 q)) own (Nat.le_refl _) ⟨by show 2 ≤ sizeLine; decide, [.int i tk, u], .cons ⟨_, rfl⟩ (.cons ru .nil), ⟨_, pair, rfl, _, rfl⟩⟩
    refine ⟨.ref s.heap.objs.size, _, I1, rfl, ⟨_, x, rfl, I.hok.fresh (Nat.le_refl _), rfl, fun ys hy => inj_K I hy hq ▸ hx⟩, ⟨⟨u, ?_⟩, st'.1.at fun o q => (sb.2 it n3.symm).trans q⟩, fun b hb => ?_⟩
    · rw [show ((i + 1 : Nat) : Int) = (i : Int) + 1 by omega]
      exact he2
    · rw [upd_ne (Nat.ne_of_lt (bound b hb))]
      exact (own b hb).1
  done := by
    rintro X rfl rfl rfl calm i pins s σ H E I own ⟨⟨v0, he⟩, hit⟩ ⟨xs, hq, rfl⟩
    obtain ⟨its, rv, p, _⟩ := inv_K I hq
    have len : xs.length = its.toArray.size := by rw [List.size_toArray]; exact rv.length
    rw [len] at hit
    obtain ⟨f0, f1, _, f3, f4, f5⟩ := own it (List.mem_cons_of_mem _ (List.mem_cons_self ..))
    exact wpAny_pyNext_enum_endD (drwK (A := X.A.in1) (show X.A.in1.handled = none from I.ok.hd calm) k it a n1 its.toArray) he ⟨hit, p⟩ fun h1 far => ⟨rfl, I.turned (t' := s.toks) (fun b o hb q => far b o hb q) f0 f1 f3 f4 f5⟩
  self := fun A i s Q E st h => let ⟨_, he⟩ := st.1; wpAny_pyIter_enum he h
def iEnumA (K : PySem.W.Frag) (ta : TA) : TI := fun σ H R => ta σ H fun vs H1 => ∃ k a xs, vs = [.ref a] ∧ sqK k K H1 a xs ∧ R (IteK K k a) H1
theorem pi_enumA {X : Cx} {e : Expr} {ta : TA} {p pos tpos : Pos} {elts : List Expr} {kk : Nat} (hg : Gl X "enumerate") (hm : X.mg "enumerate" = none) (ha : PA X [e] ta) (hs : starEach [e] X.env = [(false, eval e X.env)] := by rfl) :
    PI X (.Tuple elts kk tpos) (.Call (.Name "enumerate" p) [e] [] pos) (iEnumA X.K ta) := by
  refine ⟨fun pins s σ H R I h => Call_ (ld_blt I hg hm boot_enumerate (PyProof.Rows.callWith_type1 (thn (ha.run pos pins s σ H _ I h) fun us s1 ⟨vs, H1, I1, r1, k, a, xs, ex, hq, q⟩ => ?_) hs rfl))⟩
  subst ex
  obtain ⟨u, rfl, ru⟩ := vals1 r1
  cases ru
  obtain ⟨its, rv, p1, o1, ho1⟩ := inv_K I1 hq
  have la := Heap.lt_size ho1
  refine callType_new F.called_enumerate (by decide) (F.typeCall_enumerate_1 _) (F.newCall_enumerate_1 _) (fun obj => F.args_object_init_2 obj _) F.entry_enumerate_new (enum_new (begK k a its.toArray)) ⟨p1, ?_⟩
  have sz : (s1.heap.push (obK k a)).objs.size = s1.heap.objs.size + 1 := Heap.size_push ..
  have he := Heap.get?_push_size (s1.heap.push (obK k a)) (o := { cls := .type "enumerate", data := .fields #[.none, .bool false, .ref s1.heap.objs.size, rawInt 0, .none, .none] }) rfl
  rw [sz] at he
  have hi : ((s1.heap.push (obK k a)).push { cls := .type "enumerate", data := .fields #[.none, .bool false, .ref s1.heap.objs.size, rawInt 0, .none, .none] }).get? s1.heap.objs.size = some (obK k a) := Heap.get?_push_of_some _ (Heap.get?_push_size _ (begK k a its.toArray).free)
  show _ ∧ _
  rw [sz]
  refine ⟨⟨_, he, rfl⟩, wpAny_pyIter_enum he ?_⟩
  refine ⟨s1.heap.objs.size + 1, [s1.heap.objs.size + 1, s1.heap.objs.size], _, _, H1, rfl, I1.kept (t' := s1.toks) (fun b o x => Heap.get?_push_of_some _ (Heap.get?_push_of_some _ x)), turn_enumK a _ _ (Nat.ne_of_lt la) (Nat.ne_of_gt (Nat.lt_succ_of_lt la)) (Nat.succ_ne_self _), ⟨⟨.none, he⟩, .new hi⟩, fun b hb => ?_, q⟩
  have hle : s1.heap.objs.size ≤ b := (two_mem hb).elim (fun z => z ▸ Nat.le_succ _) fun z => z ▸ Nat.le_refl _
  exact I1.fpOk hle (I1.hok.fresh hle)
theorem walk_enumK {K : PySem.W.Frag} {k : Bool} {a : Addr} {xs : List V} : Walk (IteK K k a) xs.length (fun H => sqK k K H a xs) (YPair (fun i => some (.int (i : Nat))) (fun i => xs[i]?)) where
  goes := fun i H hi h => ⟨xs, xs[i], h, List.getElem?_eq_getElem hi⟩
  stops := fun H h => ⟨xs, h, rfl⟩
  yields := fun i H x H' hi h y => let ⟨T, v, e1, e2, e3, e4⟩ := y; ⟨T, _, v, e1, e2, e3, rfl, e4 xs h⟩
/-! ### zip of three -/
/-- the three as they stand at each turn, the items in new triples -/
def Itz3 (K : PySem.W.Frag) (k1 k2 k3 : Bool) (a b c : Addr) : It :=
  ⟨fun i H => ∃ (xs ys zs : List V) (x y z : V), sqK k1 K H a xs ∧ sqK k2 K H b ys ∧ sqK k3 K H c zs ∧ xs[i]? = some x ∧ ys[i]? = some y ∧ zs[i]? = some z,
    fun i H v H' => ∃ T x y z, v = .ref T ∧ H T = none ∧ H' = upd H T (.tup [x, y, z]) ∧ (∀ xs, sqK k1 K H a xs → xs[i]? = some x) ∧ (∀ ys, sqK k2 K H b ys → ys[i]? = some y) ∧ ∀ zs, sqK k3 K H c zs → zs[i]? = some z,
    fun i H => ∃ xs ys zs : List V, sqK k1 K H a xs ∧ sqK k2 K H b ys ∧ sqK k3 K H c zs ∧ i ≤ xs.length ∧ i ≤ ys.length ∧ i ≤ zs.length ∧ (i = xs.length ∨ i = ys.length ∨ i = zs.length)⟩
theorem turn_zip3 {P : Program} {w : World} {K : PySem.W.Frag} {elts : List Expr} {kk : Nat} {tpos : Pos} {k1 k2 k3 : Bool} {a b c z TI TO i1 i2 i3 : Addr} (S : ZipSep3 z TI TO i1 i2 i3 [i1, a] [i2, b] [i3, c]) (n1 : a ≠ i1) (n2 : b ≠ i2) (n3 : c ≠ i3) :
    Turn P w K (.Tuple elts kk tpos) (Itz3 K k1 k2 k3 a b c) [z, TI, TO, i1, i2, i3] z (fun i h => IsZip h z TI TO .none ∧ IsTupOf3 h TI (.ref i1) (.ref i2) (.ref i3) ∧ (∃ x y u, IsTupOf3 h TO x y u) ∧ itK k1 h i1 a i ∧ itK k2 h i2 b i ∧ itK k3 h i3 c i) where
  mem := by simp
  obj := fun i h st d hd => by
    obtain ⟨hz, hTI, ⟨x, y, u, hTO⟩, h1, h2, h3⟩ := st
    have e' : d = z ∨ d = TI ∨ d = TO ∨ d = i1 ∨ d = i2 ∨ d = i3 := by simpa using hd
    rcases e' with q | q | q | q | q | q
    · rw [q]; exact ⟨_, hz, fun v q => nomatch q⟩
    · rw [q]; exact ⟨_, hTI, fun v q => nomatch q⟩
    · rw [q]; exact ⟨_, hTO, fun v q => nomatch q⟩
    · rw [q]; exact h1.ob
    · rw [q]; exact h2.ob
    · rw [q]; exact h3.ob
  keep := fun i h h' st k => by
    obtain ⟨hz, hTI, ⟨x, y, u, hTO⟩, h1, h2, h3⟩ := st
    exact ⟨k z (by simp) _ hz, k TI (by simp) _ hTI, ⟨x, y, u, k TO (by simp) _ hTO⟩, h1.at fun o q => k i1 (by simp) o q, h2.at fun o q => k i2 (by simp) o q, h3.at fun o q => k i3 (by simp) o q⟩
  item := by
    intro X hP hw hK hc i pins s σ H E I hf st hg
    subst hP hw hK
    obtain ⟨hz, hTI, ⟨x0, y0, u0, hTO⟩, h1, h2, h3⟩ := st
    obtain ⟨xs, ys, zs, x, y, u, hqx, hqy, hqz, hx, hy, hu⟩ := hg
    obtain ⟨its, rv, p, _⟩ := inv_K I hqx
    obtain ⟨its2, rv2, p2, _⟩ := inv_K I hqy
    obtain ⟨its3, rv3, p3, _⟩ := inv_K I hqz
    obtain ⟨w1, hw1, rw1⟩ := rv.get hx
    obtain ⟨w2, hw2, rw2⟩ := rv2.get hy
    obtain ⟨w3, hw3, rw3⟩ := rv3.get hu
    have hzl : z < s.heap.objs.size := Heap.lt_size hz
    have hA : X.A.in1.handled = none := I.ok.hd hc
    have lt {l : List Value} {v : Value} (q : l[i]? = some v) : i < l.toArray.size := by
      have := (List.getElem?_eq_some_iff.mp q).1
      simpa using this
    have same {l : List Value} {v v' : Value} (q : l[i]? = some v) (q' : l.toArray[i]? = some v') : v' = v := by
      have : l[i]? = some v' := by simpa using q'
      rw [q] at this
      exact (Option.some.inj this).symm
    refine wpAny_pyNext_zipD3_item S (drwK hA k1 i1 a n1 its.toArray) (drwK hA k2 i2 b n2 its2.toArray) (drwK hA k3 i3 c n3 its3.toArray) hz hTI hTO ⟨h1, p⟩ ⟨h2, p2⟩ ⟨h3, p3⟩ (lt hw1) (lt hw2) (lt hw3) fun v1 v2 v3 h' tk y1 y2 y3 z' TO' d1 d2 d3 hT hsz hk => ?_
    have e1 := same hw1 y1
    have e2 := same hw2 y2
    have e3 := same hw3 y3
    subst e1 e2 e3
    refine ⟨_, rfl, wpAny_letOwnedTupleGo_zip (s := { s with heap := h', toks := tk }) z' fun h'' z'' sb => ?_⟩
    have hT2 : h''.get? s.heap.objs.size = some { cls := .type "tuple", data := .seq #[v1, v2, v3] } := (sb.2 _ (Nat.ne_of_gt hzl)).trans hT
    have new : ObjOk X.prog X.w (upd H s.heap.objs.size (.tup [x, y, u])) h'' s.heap.objs.size (.tup [x, y, u]) :=
      ⟨by show 3 ≤ sizeLine; decide, [v1, v2, v3], .cons rw1 (.cons rw2 (.cons rw3 .nil)), ⟨_, hT2, rfl, _, rfl⟩⟩
    have I1 : Inv X pins σ (upd H s.heap.objs.size (.tup [x, y, u])) { s with heap := h'', toks := tk } :=
      I.turnedNew (ch := [z, TI, TO, i1, i2, i3]) (fun d o hb q => (sb.2 d (fun q' => hb (by simp [q']))).trans (hk d o (fun q' => hb (by simp [q'])) (fun q' => hb (by simp [q'])) (fun q' => hb (by simp [q'])) (fun q' => hb (by simp [q'])) (fun q' => hb (by simp [q'])) q)) hf (Nat.le_refl _) new
    refine ⟨.ref s.heap.objs.size, _, I1, rfl, ⟨_, x, y, u, rfl, I.hok.fresh (Nat.le_refl _), rfl, fun l hl => by rw [inj_K I hl hqx]; exact hx, fun l hl => by rw [inj_K I hl hqy]; exact hy, fun l hl => by rw [inj_K I hl hqz]; exact hu⟩, ⟨z'', ?_, ⟨v1, v2, v3, ?_⟩, ?_, ?_, ?_⟩, fun d hdm => ?_⟩
    · exact (sb.2 _ S.TIz).trans (hk _ _ S.TIz S.TITO S.TIi1 S.TIi2 S.TIi3 hTI)
    · exact (sb.2 _ S.TOz).trans TO'
    · exact d1.1.at fun o q => (sb.2 _ S.zi1.symm).trans q
    · exact d2.1.at fun o q => (sb.2 _ S.zi2.symm).trans q
    · exact d3.1.at fun o q => (sb.2 _ S.zi3.symm).trans q
    · have hlt : d < s.heap.objs.size := by
        have e' : d = z ∨ d = TI ∨ d = TO ∨ d = i1 ∨ d = i2 ∨ d = i3 := by simpa using hdm
        rcases e' with q | q | q | q | q | q
        · rw [q]; exact hzl
        · rw [q]; exact Heap.lt_size hTI
        · rw [q]; exact Heap.lt_size hTO
        · rw [q]; obtain ⟨_, e1, _⟩ := h1.ob; exact Heap.lt_size e1
        · rw [q]; obtain ⟨_, e2, _⟩ := h2.ob; exact Heap.lt_size e2
        · rw [q]; obtain ⟨_, e2, _⟩ := h3.ob; exact Heap.lt_size e2
      rw [upd_ne (Nat.ne_of_lt hlt)]
      exact (hf d hdm).1
  done := by
    intro X hP hw hK hc i pins s σ H E I hf st hg
    subst hP hw hK
    obtain ⟨hz, hTI, ⟨x0, y0, u0, hTO⟩, h1, h2, h3⟩ := st
    obtain ⟨xs, ys, zs, hqx, hqy, hqz, g1, g2, g3, g4⟩ := hg
    obtain ⟨its, rv, p, _⟩ := inv_K I hqx
    obtain ⟨its2, rv2, p2, _⟩ := inv_K I hqy
    obtain ⟨its3, rv3, p3, _⟩ := inv_K I hqz
    have l1 := rv.length
    have l2 := rv2.length
    have l3 := rv3.length
    have hA : X.A.in1.handled = none := I.ok.hd hc
    have z1 : its.toArray.size = its.length := List.size_toArray
    have z2 : its2.toArray.size = its2.length := List.size_toArray
    have z3 : its3.toArray.size = its3.length := List.size_toArray
    exact wpAny_pyNext_zipD3_end S (drwK hA k1 i1 a n1 its.toArray) (drwK hA k2 i2 b n2 its2.toArray) (drwK hA k3 i3 c n3 its3.toArray) hz hTI hTO ⟨h1, p⟩ ⟨h2, p2⟩ ⟨h3, p3⟩ (by omega) (by omega) (by omega) (by omega) fun h' tk hk => ⟨rfl, I.turnedL (ch := [z, TI, TO, i1, i2, i3]) (fun d o hb q =>
      hk d o (fun q' => hb (by simp [q'])) (fun q' => hb (by simp [q'])) (fun q' => hb (by simp [q'])) (fun q' => hb (by simp [q'])) (fun q' => hb (by simp [q'])) q) hf⟩
  self := fun A i s Q E st h => wpAny_pyIter_zip st.1 h
theorem no2 {x y z : Nat} (h1 : x ≠ y) (h2 : x ≠ z) : x ∉ [y, z] := fun q => (List.mem_cons.mp q).elim h1 fun q => h2 (List.mem_singleton.mp q)
theorem sep3 (N a b c : Nat) (la : a < N) (lb : b < N) (lc : c < N) : ZipSep3 (N + 5) (N + 3) (N + 4) N (N + 1) (N + 2) [N, a] [N + 1, b] [N + 2, c] where
  TIz := fun (q : N + 3 = N + 5) => by omega
  TOz := fun (q : N + 4 = N + 5) => by omega
  TITO := fun (q : N + 3 = N + 4) => by omega
  TIi1 := fun (q : N + 3 = N) => by omega
  mem1 := List.mem_cons_self ..
  zf1 := no2 (by omega) (by omega)
  Tf1 := no2 (by omega) (by omega)
  TIi2 := fun (q : N + 3 = N + 1) => by omega
  mem2 := List.mem_cons_self ..
  zf2 := no2 (by omega) (by omega)
  Tf2 := no2 (by omega) (by omega)
  TIi3 := fun (q : N + 3 = N + 2) => by omega
  mem3 := List.mem_cons_self ..
  zf3 := no2 (by omega) (by omega)
  Tf3 := no2 (by omega) (by omega)
  sep1_2 := no2 (by omega) (by omega)
  sep1_3 := no2 (by omega) (by omega)
  sep2_1 := no2 (by omega) (by omega)
  sep2_3 := no2 (by omega) (by omega)
  sep3_1 := no2 (by omega) (by omega)
  sep3_2 := no2 (by omega) (by omega)
def iZip3 (K : PySem.W.Frag) (ta : TA) : TI := fun σ H R => ta σ H fun vs H1 => ∃ k1 k2 k3 a b c xs ys zs, vs = [.ref a, .ref b, .ref c] ∧ sqK k1 K H1 a xs ∧ sqK k2 K H1 b ys ∧ sqK k3 K H1 c zs ∧ R (Itz3 K k1 k2 k3 a b c) H1
theorem pi_zip3 {X : Cx} {e e2 e3 : Expr} {ta : TA} {p pos tpos : Pos} {elts : List Expr} {kk : Nat} (hg : Gl X "zip") (hm : X.mg "zip" = none) (ha : PA X [e, e2, e3] ta)
    (hs : starEach [e, e2, e3] X.env = (false, eval e X.env) :: starEach [e2, e3] X.env := by rfl) (hpl : (backTo pos (starEach [e2, e3] X.env)).any (·.1) = false := by rfl) :
    PI X (.Tuple elts kk tpos) (.Call (.Name "zip" p) [e, e2, e3] [] pos) (iZip3 X.K ta) := by
  refine ⟨fun pins s σ H R I h => ?_⟩
  refine Call_ (ld_blt I hg hm PyProof.Rows.boot_zip (PyProof.Rows.callWith_type1 (thn (ha.run pos pins s σ H _ I h) fun us s1 ⟨vs, H1, I1, r1, q1⟩ => ?_) hs hpl))
  obtain ⟨k1, k2, k3, a, b, c, xs, ys, zs, ex, hqx, hqy, hqz, q⟩ := q1
  subst ex
  cases r1 with
  | cons r rr =>
    cases rr with
    | cons r' rr =>
      cases rr with
      | cons r'' rr =>
        cases rr
        cases r
        cases r'
        cases r''
        obtain ⟨its, rv, p1, o1, ho1⟩ := inv_K I1 hqx
        obtain ⟨its2, rv2, p2, o2, ho2⟩ := inv_K I1 hqy
        obtain ⟨its3, rv3, p3, o3, ho3⟩ := inv_K I1 hqz
        have la : a < s1.heap.objs.size := Heap.lt_size ho1
        have lb : b < s1.heap.objs.size := Heap.lt_size ho2
        have lc : c < s1.heap.objs.size := Heap.lt_size ho3
        refine zip_begins3 (begK k1 a its.toArray) (begK k2 b its2.toArray) (begK k3 c its3.toArray) p1 p2 p3 fun h' hz hTI hTO h1 h2 h3 hsz hk => wpAny_pyIter_zip hz ?_
        have I2 : Inv X pins σ H1 { s1 with heap := h' } := I1.kept (t' := s1.toks) hk
        have sep : ZipSep3 (s1.heap.objs.size + 5) (s1.heap.objs.size + 3) (s1.heap.objs.size + 4) s1.heap.objs.size (s1.heap.objs.size + 1) (s1.heap.objs.size + 2) [s1.heap.objs.size, a] [s1.heap.objs.size + 1, b] [s1.heap.objs.size + 2, c] := sep3 _ a b c la lb lc
        refine ⟨s1.heap.objs.size + 5, [s1.heap.objs.size + 5, s1.heap.objs.size + 3, s1.heap.objs.size + 4, s1.heap.objs.size, s1.heap.objs.size + 1, s1.heap.objs.size + 2], _, _, H1, rfl, I2, turn_zip3 sep (Nat.ne_of_lt la) (Nat.ne_of_lt (Nat.lt_succ_of_lt lb)) (Nat.ne_of_lt (Nat.lt_succ_of_lt (Nat.lt_succ_of_lt lc))), ⟨hz, hTI, ⟨_, _, _, hTO⟩, .new h1, .new h2, .new h3⟩, fun d hd => ?_, q⟩
        have hle : s1.heap.objs.size ≤ d := by
          simp only [List.mem_cons, List.not_mem_nil, or_false] at hd
          rcases hd with z | z | z | z | z | z
          · rw [z]; exact Nat.le_add_right _ _
          · rw [z]; exact Nat.le_add_right _ _
          · rw [z]; exact Nat.le_add_right _ _
          · rw [z]; exact Nat.le_refl _
          · rw [z]; exact Nat.le_add_right _ _
          · rw [z]; exact Nat.le_add_right _ _
        exact I1.fpOk hle (I1.hok.fresh hle)
theorem walk_zip3 {K : PySem.W.Frag} {k1 k2 k3 : Bool} {a b c : Addr} {xs ys zs : List V} (h1 : xs.length = ys.length) (h2 : xs.length = zs.length) : Walk (Itz3 K k1 k2 k3 a b c) xs.length (fun H => sqK k1 K H a xs ∧ sqK k2 K H b ys ∧ sqK k3 K H c zs)
    (fun i H v H' => ∃ T x y z, v = .ref T ∧ H T = none ∧ H' = upd H T (.tup [x, y, z]) ∧ xs[i]? = some x ∧ ys[i]? = some y ∧ zs[i]? = some z) where
  goes := fun i H hi h => ⟨xs, ys, zs, xs[i], ys[i], zs[i], h.1, h.2.1, h.2.2, List.getElem?_eq_getElem hi, List.getElem?_eq_getElem (by omega), List.getElem?_eq_getElem (by omega)⟩
  stops := fun H h => ⟨xs, ys, zs, h.1, h.2.1, h.2.2, Nat.le_refl _, by omega, by omega, .inl rfl⟩
  yields := fun i H x H' hi h y => by
    obtain ⟨T, x, y, z, e1, e2, e3, e4, e5, e6⟩ := y
    exact ⟨T, x, y, z, e1, e2, e3, e4 xs h.1, e5 ys h.2.1, e6 zs h.2.2⟩
end LL

set_option Elab.async false
set_option linter.all false
set_option maxRecDepth 100000
set_option maxHeartbeats 3200000
/-! LLSet: set(a list of ints). -/
namespace LL
open PySem PySem.Spec PyProof.Rows L2
/-- a set as it is born -/
abbrev born (w : World) : Obj := { cls := .type "set", dict := none, data := .set #[] 0 (.fresh 0 0 (!w.params.followText "set-order")) }
abbrev walker (l : Addr) : Obj := { cls := .type "list_iterator", data := .fields #[.ref l, .int 0 0] }
section
variable {P : Program} {w : World} {A : Around} {E : Value → Shared → Prop} {s : Shared}
/-- what is left when the set is filled -/
def Filled (w : World) (s : Shared) (ns : List Int) (s2 : Shared) : Prop := ∃ (h' : Heap) (tk c : Nat), s2 = { s with heap := h', toks := tk } ∧ SetR w h' s.heap.objs.size (fun j => decide (j ∈ ns)) c ∧ c ≤ ns.length ∧ ∀ b o, s.heap.get? b = some o → h'.get? b = some o
theorem set_of_ints {l : Addr} {items : Array Value} (ns : List Int) {Q : Value → Shared → Prop} (hh : A.handled = none) (hl : s.heap.IsList l items) (hit : IntsAre items.toList ns) (hb : ns.length + 1 < scanBound)
    (h : ∀ s2, Filled w s ns s2 → Q (.ref s.heap.objs.size) s2) : wpAny (model P w) A (call (.type "set") [.ref l]) Q E s := by
  have many : items.size = ns.length := by have q := IntsAre.length hit; rwa [Array.length_toList] at q
  obtain ⟨⟨_, dc, _, sl⟩, at0, cl, nn, dt⟩ := hl
  cases cl
  cases dt
  have below : l < s.heap.objs.size := Heap.lt_size at0
  have me : (s.heap.push (born w)).get? s.heap.objs.size = some (born w) := Heap.get?_push_size _ rfl
  have at1 : (s.heap.push (born w)).get? l = some { cls := .type "list", dict := dc, data := .seq items nn, slots := sl } := Heap.get?_push_of_some _ at0
  have lst : (s.heap.push (born w)).IsList l items := ⟨_, at1, rfl, nn, rfl⟩
  -- the class is called
  obtain ⟨_, _, g1⟩ := F.called_set.mro
  have g2 := F.called_set.made
  have g3 := F.called_set.sub
  have g4 := F.called_set.notType
  have g5 := F.called_set.canCreate
  have g6 := F.typeCall_set_1 (.ref l)
  refine wpAny_call (codeAny_of_tree (show wpAny _ _ (callAny (.type "set") _) _ _ _ from wpAny_pure ⟨Code.quiet_builtin _ (by decide +kernel), codeAny_builtin F.entry_type_call ?_⟩))
  rw [Around.under_plain (weight_type_call_type "set" [.ref l] []) rfl]
  repeat (any_goals (first | assumption | wp_step))
  -- it is born
  refine codeAny_mono (code_set_led1 (.ref l) (E := E) (Q₁ := fun v s1 => v = .ref s.heap.objs.size ∧ s1 = { s with heap := s.heap.push (born w) }) ⟨rfl, rfl⟩) fun r s1 e1 => ?_
  rcases r with _ | fl
  · exact e1
  rcases fl with _ | _ | _ | v
  any_goals exact e1.elim
  all_goals
    obtain ⟨rfl, rfl⟩ := e1
    have ty : Shared.TypeIs { s with heap := s.heap.push (born w) } (.ref s.heap.objs.size) "set" := ⟨_, me, rfl⟩
    have k1 := F.called_set.init.lookup
    have k2 := F.called_set.init.bind (.ref s.heap.objs.size)
    repeat (any_goals (first | assumption | wp_step))
    -- it is filled
    refine codeAny_mono (codeAny_call_builtin (R := wants (fun v s2 => v = .none ∧ Filled w s ns s2) E) F.called_set.init.plain F.entry_set_init (check_set_init_1 ty ?_)) fun r s2 e2 => ?_
    · have u1 := F.sub_list_set
      have u2 := F.sub_list_frozenset
      have u3 : (Value.type "list" == Value.type "dict") = false := by decide
      unfold Builtin.«set.__init__» noKeywords Builtin.Frozenset.updateFrom
      generalize keep : pyIter = pi
      wp_walk
      subst keep
      refine wpAny_pyIter_list lst (wpAny_bind (wpAny_runValue ?_))
      have size1 : (s.heap.push (born w)).objs.size = s.heap.objs.size + 1 := Heap.size_push ..
      have out : s.heap.objs.size ∉ [(s.heap.push (born w)).objs.size, l] := fun q => by
        rw [size1] at q
        rcases List.mem_cons.mp q with q | q
        · exact absurd q (Nat.ne_of_lt (Nat.lt_succ_self _))
        · exact absurd (List.mem_singleton.mp q) (Nat.ne_of_gt below)
      have val : ∀ (i : Nat) (v : Value), items[i]? = some v → ∃ k t, ns[i]? = some k ∧ v = .int k t := fun i v hv => by
        have hi : i < ns.length := many ▸ (Array.getElem?_eq_some_iff.mp hv).1
        obtain ⟨t, e⟩ := IntsAre.int_at hit i v (by rw [Array.getElem?_toList]; exact hv)
        exact ⟨ns[i], t, List.getElem?_eq_getElem hi, by rw [e, List.getD_eq_getElem?_getD, List.getElem?_eq_getElem hi]; rfl⟩
      refine set_update_ints ((Walks.list (by simp [hh]) _ l (by rw [size1]; exact Nat.ne_of_lt (Nat.lt_succ_of_lt below)) items).toS) s.heap.objs.size out ns many hb val items.size 0 _ rfl (Nat.zero_le _)
        ⟨⟨_, Heap.get?_push_size _ rfl, rfl, rfl⟩, lst.push _⟩ ⟨0, Nat.le_refl 0, setR_new_at (Heap.get?_push_of_some (walker l) me)⟩ ?_
      rintro ⟨h2, g', d', tk, os'⟩ c mv hc R
      cases (show g' = s.gens from mv.gens)
      cases (show d' = s.drawn from mv.drawn)
      cases (show os' = s.os from mv.os)
      refine wpAny_pure (wpAny_pure ⟨rfl, h2, tk, c, rfl, R, many ▸ hc, fun b o e => ?_⟩)
      have lt := Heap.lt_size e
      refine mv.heap b o (fun q => ?_) (Heap.get?_push_of_some _ (Heap.get?_push_of_some _ e))
      rcases List.mem_cons.mp q with q | q
      · exact Nat.ne_of_lt lt q
      · have q := List.mem_singleton.mp q
        rw [size1] at q
        exact Nat.ne_of_lt (Nat.lt_succ_of_lt lt) q
    · rcases r with _ | fl
      · exact e2
      rcases fl with _ | _ | _ | v
      any_goals exact e2.elim
      all_goals
        obtain ⟨rfl, e2⟩ := e2
        have done := h _ e2
        obtain ⟨h2, tk, c, rfl, _⟩ := e2
        repeat (any_goals (first | assumption | wp_step))
end
section
variable {X : Cx}
/-- set(a list of ints) -/
def rSetL (K : PySem.W.Frag) (w : World) : List V → Hp → VK → Prop := fun vs H Q => ∃ (p : Addr) (ns : List Int), vs = [.ref p] ∧ SqL K H p (ns.map V.int) ∧ ns.length ≤ 1000 ∧ ∀ a c, (∀ D : List Int, (∀ x ∈ ns, x ∈ D) → c ≤ D.length) → H a = none → Q (.ref a) (upd H a (SetO w a (fun j => decide (j ∈ ns)) c))
theorem cr_setL (hc : X.calm = true) : CallR X (.type "set") (rSetL X.K X.w) := by
  intro pins s σ H xs us Q I r h
  obtain ⟨p, ns, rfl, hq, hl, q⟩ := h
  obtain ⟨u, rfl, rx⟩ := vals1 r
  cases rx
  obtain ⟨its, rv, pt, hz⟩ := I.list hq
  refine set_of_ints ns (I.ok.hd hc) pt.isList (by simpa using ints_of_vals rv) (by unfold scanBound; omega) fun s2 z => ?_
  obtain ⟨h2, tk, c, rfl, R, hc2, hk⟩ := z
  refine ⟨.ref _, _, I.laid (t' := tk) hk (Nat.le_refl _) (setO_new R), rfl, q _ c (fun D hD => ?_) (I.hok.fresh (Nat.le_refl _))⟩
  obtain ⟨o, es, ep, t, _, _, _, _, nd, mem, _, _, sz, _⟩ := R
  rw [← sz, ← Array.length_toList, ← List.length_map (f := keyOf)]
  exact nd.length_le_of_subset fun x hx => hD x (of_decide_eq_true ((mem x).mpr hx))
end
end LL

set_option Elab.async false
set_option linter.all false
set_option maxRecDepth 100000
set_option maxHeartbeats 2000000
/-! LLSeq: lists or tuples; small rules. -/
namespace LL
open PySem PySem.Spec PyProof.Rows L2
theorem un1 {n : Nat} (h : n + 64 < cLine) : n + 1 < cLine := by omega
section
variable {X : Cx} {tg l : Expr} {tl : TE}
/-- for x in s, s a list or a tuple -/
def iSeqA (K : PySem.W.Frag) (tl : TE) : TI := fun σ H R => iList K tl σ H R ∨ iTup K tl σ H R
theorem pi_seqA (hl : PE X l tl) : PI X tg l (iSeqA X.K tl) := ⟨fun pins s σ H R I h => h.elim ((pi_list hl).run pins s σ H R I) ((pi_tup hl).run pins s σ H R I)⟩
theorem ix_seqK {K : PySem.W.Frag} (h : X.K = K) : IxR X (rIx K) := h ▸ ix_seq
end
/-- s stands at a -/
def Sq (K : PySem.W.Frag) (H : Hp) (a : Addr) (xs : List V) : Prop := SqL K H a xs ∨ SqT K H a xs
theorem Sq.k {K : PySem.W.Frag} {H : Hp} {a : Addr} {xs : List V} (h : Sq K H a xs) : ∃ k, sqK k K H a xs := h.elim (fun h => ⟨true, h⟩) fun h => ⟨false, h⟩
theorem sqL_same {K : PySem.W.Frag} {H H' : Hp} {a : Addr} {xs : List V} (h : SqL K H a xs) (s : Same H H') : SqL K H' a xs := sq_ext h (.of s)
theorem sqT_same {K : PySem.W.Frag} {H H' : Hp} {a : Addr} {xs : List V} (h : SqT K H a xs) (s : Same H H') : SqT K H' a xs := by
  rcases h with (h | ⟨o, h⟩) | h
  · exact .inl (.inl (s _ _ h))
  · exact .inl (.inr ⟨o, s _ _ h⟩)
  · exact .inr h
theorem Sq.same {K : PySem.W.Frag} {H H' : Hp} {a : Addr} {xs : List V} (h : Sq K H a xs) (s : Same H H') : Sq K H' a xs := h.imp (sqL_same · s) (sqT_same · s)
end LL

set_option Elab.async false
set_option linter.all false
set_option maxRecDepth 100000
set_option maxHeartbeats 2000000
/-! LLMix: sorted of a tuple, rules by the name of the written part, errors by their field, lists or tuples that are tracked. -/
namespace LL
open PySem PySem.Spec PyProof.Rows L2
section
variable {prog : Program} {w : World} {A : Around} {E : Value → Shared → Prop} {s : Shared}
/-- what is drawn of a list or a tuple -/
theorem collect_q {l : Addr} {vs : List Value} {T : String} {o : Obj} {n : Nat} {Q : List Value → Shared → Prop} (hT : T = "list" ∨ T = "tuple") (ho : s.heap.get? l = some o) (hc : o.cls = .type T) (hd : o.data = .seq vs.toArray n) (hsz : vs.length ≤ sizeLine)
    (h : Q vs { s with heap := (s.heap.push (seqObj "list" #[] 0)).update s.heap.objs.size (Obj.mapSeq (· ++ vs.toArray)) }) : wpAny (model prog w) A (collect (.ref l)) Q E s := by
  have ho' : (s.heap.push (seqObj "list" #[] 0)).get? l = some o := Heap.get?_push_of_some _ ho
  have ht : (Builtin.List.listSameRef (.ref s.heap.objs.size) (.ref l) || Value.type T == Value.type "list" || Value.type T == Value.type "tuple") = true := by
    rcases hT with rfl | rfl <;> simp
  unfold collect; refine wpAny_bind (wpAny_runValue (codeAny_builtin entry_proto_collect' ?_))
  show wpAny _ _ (do again (.builtin "list.__iadd__" ⟨[← newList [], .ref l], []⟩)) _ _ s; refine wpAny_bind (wpAny_newList (wpAny_pure ⟨Code.quiet_builtin _ (by decide +kernel), codeAny_builtin entry_list_iadd' ?_⟩))
  show wpAny _ _ (Builtin.List.listExtendWith (.ref s.heap.objs.size) (.ref l) (.ref s.heap.objs.size)) _ _ { s with heap := s.heap.push (seqObj "list" #[] 0) }; unfold Builtin.List.listExtendWith
  refine wpAny_bind (wpAny_typeOf (T := T) ⟨o, ho', hc⟩ ?_); rw [if_pos ht]
  refine wpAny_bind (listItems_at ho' hd (wpAny_bind (listItems_at (xs := #[]) (n := 0) (Heap.get?_push_size _ rfl) rfl ?_))); rw [if_neg (by simp)]
  refine wpAny_bind (listUpdate_at (xs := #[]) (n := 0) (Heap.get?_push_size _ rfl) rfl (wpAny_pure ?_) (Nat.zero_le _) (by show (#[] ++ vs.toArray).size ≤ sizeLine + 1; simp only [Array.size_append, List.size_toArray, List.length_nil]; omega))
  refine wpAny_bind (m := load s.heap.objs.size) (wpAny_load (get?_update_seq (Heap.get?_push_size _ rfl) _) ?_)
  show wpAny _ _ (pure ((#[] : Array Value) ++ vs.toArray).toList) Q E _; rw [show ((#[] : Array Value) ++ vs.toArray).toList = vs by simp]; exact wpAny_pure h
theorem sorted_q {l : Addr} {vs : List Value} {ns : List Int} {T : String} {o : Obj} {n : Nat} {Q : Value → Shared → Prop} (hT : T = "list" ∨ T = "tuple") (ho : s.heap.get? l = some o) (hc : o.cls = .type T) (hd : o.data = .seq vs.toArray n) (hI : IntsAre vs ns) (h64 : vs.length < 64)
    (h : ∀ (out : Array Value) (ns' : List Int), IntsAre out.toList ns' → ns'.Perm ns → ns'.Pairwise (· ≤ ·) → Q (.ref (s.heap.objs.size + 1)) { s with heap := sortedAll s.heap vs out }) : wpAny (model prog w) A (call (.builtin "sorted") [.ref l]) Q E s := by
  have hsz : ((s.heap.push (seqObj "list" #[] 0)).update s.heap.objs.size (Obj.mapSeq (· ++ vs.toArray))).objs.size = s.heap.objs.size + 1 := (by rw [Heap.size_update, size_push'])
  have hoL : (((s.heap.push (seqObj "list" #[] 0)).update s.heap.objs.size (Obj.mapSeq (· ++ vs.toArray))).push (seqObj "list" vs.toArray 0)).get? (s.heap.objs.size + 1) = some (seqObj "list" vs.toArray 0) := (by rw [← hsz]; exact Heap.get?_push_size _ rfl)
  refine Calls.call_function_entry kind_sorted plain_sorted entry_sorted (args_sorted1 _) ?_; unfold Builtin.«sorted»
  refine wpAny_bind (m := checkCount "sorted" 1 1 _) (wpAny_pure (wpAny_bind (collect_q hT ho hc hd (by rw [sizeLine_eq]; omega) (wpAny_bind (wpAny_newList ?_)))))
  show wpAny _ _ _ _ _ { s with heap := ((s.heap.push (seqObj "list" #[] 0)).update s.heap.objs.size (Obj.mapSeq (· ++ vs.toArray))).push (seqObj "list" vs.toArray 0) }; rw [hsz]
  exact wpAny_bind (wpAny_holding (wpAny_call_entry slot_list_sort ⟨_, hoL, rfl⟩ entry_list_sort (list_sort_tree hoL hI h64 fun out ns' a1 a2 a3 => ⟨_, rfl, wpAny_pure ⟨_, rfl, h out ns' a1 a2 a3⟩⟩) (args_list_sort _)))
end
/-- a list or a tuple that is tracked -/
def Lt (H : Hp) (a : Addr) (vs : List V) : Prop := H a = some (.lst vs) ∨ H a = some (.tup vs)
theorem Lt.sq {K : PySem.W.Frag} {H : Hp} {a : Addr} {vs : List V} (h : Lt H a vs) : SqL K H a vs ∨ SqT K H a vs := h.imp SqL.of SqT.of
theorem Lt.same {H H' : Hp} {a : Addr} {vs : List V} (h : Lt H a vs) (s : Same H H') : Lt H' a vs := h.imp (s _ _) (s _ _)
theorem Lt.uniq {H : Hp} {a : Addr} {vs us : List V} (h : Lt H a vs) (g : Lt H a us) : vs = us := by
  rcases h with h | h <;> rcases g with g | g <;> rw [h] at g <;> cases g <;> rfl
theorem Lt.k {K : PySem.W.Frag} {H : Hp} {a : Addr} {vs : List V} (h : Lt H a vs) : ∃ k, sqK k K H a vs := h.elim (fun h => ⟨true, SqL.of h⟩) fun h => ⟨false, SqT.of h⟩
theorem sqK_same {k : Bool} {K : PySem.W.Frag} {H H' : Hp} {a : Addr} {xs : List V} (h : sqK k K H a xs) (s : Same H H') : sqK k K H' a xs := by
  cases k with
  | true => exact sqL_same h s
  | false => exact sqT_same h s
section
variable {X : Cx}
def rSortQ : List V → Hp → VK → Prop := fun vs H Q => ∃ (a : Addr) (ns : List Int), vs = [V.ref a] ∧ Lt H a (ns.map V.int) ∧ ns.length < 64 ∧ ∀ (ns' : List Int) (p : Addr), ns'.Perm ns → ns'.Pairwise (· ≤ ·) → H p = none → Q (.ref p) (upd H p (.lst (ns'.map V.int)))
theorem cr_sortedQ : CallR X (.builtin "sorted") rSortQ := by
  intro pins s σ H vs us Q I r h
  obtain ⟨a, ns, rfl, hs, h64, q⟩ := h
  rcases hs with hs | hs
  · exact cr_sorted pins s σ H _ us Q I r ⟨a, ns, rfl, SqL.of hs, h64, q⟩
  · obtain ⟨its, rv, hl, _⟩ := I.tuple (SqT.of (K := X.K) hs)
    obtain ⟨o, h1, h2, n, h3⟩ := hl
    rw [Vals.ref1 r]
    have hi := rv.ints
    refine sorted_q (.inr rfl) h1 h2 h3 hi (by rw [hi.length]; exact h64) fun out ns' a1 a2 a3 => ?_
    obtain ⟨ep, he'⟩ := PyProof.Rows.sortedAll_at s.heap its out
    exact ⟨.ref _, upd H (s.heap.objs.size + 1) (.lst (ns'.map V.int)), I.laid (t' := s.toks) (fun _ _ => PyProof.Rows.sortedAll_old) (Nat.le_succ _) ⟨by rw [List.length_map, a2.length_eq]; exact small64 h64, out.toList, ep, vals_of_ints a1, he'⟩, rfl, q ns' _ a2 a3 (I.hok.fresh (Nat.le_succ _))⟩
theorem op_in_seqK {K : PySem.W.Frag} (h : X.K = K) : OpR X (compareOp .In) (rIn K false) := h ▸ op_in_seq
theorem op_notIn_seqK {K : PySem.W.Frag} (h : X.K = K) : OpR X (compareOp .NotIn) (rIn K true) := h ▸ op_notIn_seq
end
/-- an error with the field f -/
def ErF (C : Addr) (f : Str) (H : Hp) (v : V) (E : XK) : Prop := ∀ H' d, Same H H' → H d = none → H' d = some (.xd [(f, v)]) → E (.ref C) (some d) H'
theorem ErF.now {C : Addr} {f : Str} {H : Hp} {v : V} {E : XK} (h : ErF C f H v E) : ∀ d, H d = none → E (.ref C) (some d) (upd H d (.xd [(f, v)])) := fun d hd => h _ d (same_upd hd) hd upd_same
theorem ErF.same {C : Addr} {f : Str} {H H1 : Hp} {v : V} {E : XK} (h : ErF C f H v E) (s : Same H H1) : ErF C f H1 v E := fun H' d s2 hd e => h H' d (s.trans s2) (s.free hd) e
/-- texts in a list of texts -/
theorem inV_str (c : Str) (l : List Str) : inV (.str c) (l.map V.str) = decide (c ∈ l) := by
  induction l with
  | nil => rfl
  | cons d l ih =>
    unfold inV at ih ⊢
    rw [List.map_cons, List.any_cons, ih]
    have e : eqV (.str d) (.str c) = decide (d = c) := by
      show (d == c) = _
      rw [Bool.eq_iff_iff, beq_iff_eq, decide_eq_true_iff]
    rw [e]
    by_cases h : d = c
    · simp [h]
    · have h' : c ≠ d := fun z => h z.symm
      simp [h, h']
theorem inV_int (c : Int) (l : List Int) : inV (.int c) (l.map V.int) = decide (c ∈ l) := by
  induction l with
  | nil => rfl
  | cons d l ih =>
    unfold inV at ih ⊢
    rw [List.map_cons, List.any_cons, ih]
    have e : eqV (.int d) (.int c) = decide (d = c) := by
      show (d == c) = _
      rw [Bool.eq_iff_iff, beq_iff_eq, decide_eq_true_iff]
    rw [e]
    by_cases h : d = c
    · simp [h]
    · have h' : c ≠ d := fun z => h z.symm
      simp [h, h']
theorem flatS (l : List Str) : (l.map V.str).all flatV = true := by
  rw [List.all_map]
  exact List.all_eq_true.mpr fun _ _ => rfl
theorem flatI (l : List Int) : (l.map V.int).all flatV = true := by
  rw [List.all_map]
  exact List.all_eq_true.mpr fun _ _ => rfl
/-- a list or a tuple at an index -/
theorem ix_lt {K : PySem.W.Frag} {H : Hp} {a : Addr} {vs : List V} {i : Int} {v : V} {Q : VK} (h : Lt H a vs) (e : atI vs i = some v) (q : Q v H) : rIx K (.ref a) (.int i) H Q :=
  h.elim (fun h => .inl ⟨a, vs, i, v, rfl, rfl, SqL.of h, e, q⟩) fun h => .inr (.inl ⟨a, vs, i, v, rfl, rfl, SqT.of h, e, q⟩)
/-! ### comprehensions by what they have made so far -/
section
variable {J : It} {n : Nat} {G : Hp → Prop} {Y : Nat → Hp → V → Hp → Prop} {g : TG} {tt : TT} {te : TE} {vs : List Nat} {σ : L2.St} {H1 : Hp} {D : Addr} {Qd : Hp → Prop}
theorem lc_inv (w : Walk J n G Y) (I : Nat → List V → Hp → Prop) (bl : ∀ i acc H xs, I i acc H → I i acc (upd H D (.lst xs))) (h0 : I 0 [] H1) (hl : ∀ i acc H, i < n → I i acc H → acc.length < sizeLine) (hG : ∀ i acc H, i ≤ n → I i acc H → G H)
    (hs : ∀ i x acc H H', i < n → I i acc H → H D = some (.lst acc) → Y i H x H' → ∀ (N : V → Hp → Prop) (S : Hp → Prop), (∀ v H4, H4 D = some (.lst acc) → I (i + 1) (acc ++ [v]) H4 → N v H4) → (∀ H4, H4 D = some (.lst acc) → I (i + 1) acc H4 → S H4) →
      g x (wipe σ vs) H' fun σ2 H2 => wipe σ2 vs = wipe σ vs ∧ tt σ2 H2 fun b H3 => if b = true then te σ2 H3 N else S H3) (hd : ∀ acc H, H D = some (.lst acc) → I n acc H → Qd H) :
    ∃ W : Nat → Nat → Hp → Prop, (∃ m, W 0 m (upd H1 D (.lst []))) ∧ ∀ i m H, W i m H →
      (J.stop i H ∧ Qd H) ∨ (J.go i H ∧ ∃ Nx : Hp → Prop, (∀ H', Nx H' → ∃ m', m' < m ∧ W (i + 1) m' H') ∧ ∀ x H', J.yld i H x H' → g x (wipe σ vs) H' fun σ2 H2 => wipe σ2 vs = wipe σ vs ∧ tt σ2 H2 fun b H3 =>
        if b = true then te σ2 H3 fun y H4 => ∃ acc, H4 D = some (.lst acc) ∧ acc.length < sizeLine ∧ Nx (upd H4 D (.lst (acc ++ [y]))) else Nx H3) := by
  refine lc_it w (fun i H => ∃ acc, H D = some (.lst acc) ∧ I i acc H) ⟨[], upd_same, bl _ _ _ _ h0⟩ (fun i H hi ⟨acc, _, h⟩ => hG i acc H hi h) ?_ (fun H ⟨acc, e, h⟩ => hd acc H e h)
  rintro i x H H' hi ⟨acc, e, h⟩ y
  exact hs i x acc H H' hi h e y _ _ (fun v H4 e4 h4 => ⟨acc, e4, hl i acc H hi h, _, upd_same, bl _ _ _ _ h4⟩) fun H4 e4 h4 => ⟨acc, e4, h4⟩
/-- all stays beside the new list -/
theorem lc_acc (w : Walk J n G Y) (nD : H1 D = none) (out : Nat → List V) (o0 : out 0 = []) (ol : ∀ i, i < n → (out i).length ≤ 99999) (hG : ∀ H, Same H1 H → G H)
    (hs : ∀ i x H H', i < n → Same H1 H → Y i H x H' → ∀ (N : V → Hp → Prop) (S : Hp → Prop), (∀ v H4, Same H H4 → out (i + 1) = out i ++ [v] → N v H4) → (∀ H4, Same H H4 → out (i + 1) = out i → S H4) →
      g x (wipe σ vs) H' fun σ2 H2 => wipe σ2 vs = wipe σ vs ∧ tt σ2 H2 fun b H3 => if b = true then te σ2 H3 N else S H3) (hd : ∀ H, Same H1 H → H D = some (.lst (out n)) → Qd H) :
    ∃ W : Nat → Nat → Hp → Prop, (∃ m, W 0 m (upd H1 D (.lst []))) ∧ ∀ i m H, W i m H →
      (J.stop i H ∧ Qd H) ∨ (J.go i H ∧ ∃ Nx : Hp → Prop, (∀ H', Nx H' → ∃ m', m' < m ∧ W (i + 1) m' H') ∧ ∀ x H', J.yld i H x H' → g x (wipe σ vs) H' fun σ2 H2 => wipe σ2 vs = wipe σ vs ∧ tt σ2 H2 fun b H3 =>
        if b = true then te σ2 H3 fun y H4 => ∃ acc, H4 D = some (.lst acc) ∧ acc.length < sizeLine ∧ Nx (upd H4 D (.lst (acc ++ [y]))) else Nx H3) := by
  refine lc_inv w (fun i acc H => Same H1 H ∧ acc = out i) (fun i acc H xs h => ⟨fun b o e => ?_, h.2⟩) ⟨fun _ _ e => e, o0.symm⟩ (fun i acc H hi h => ?_) (fun i acc H _ h => hG H h.1) ?_ (fun acc H e h => hd H h.1 (h.2 ▸ e))
  · rw [upd_ne (ne_of_none e nD)]
    exact h.1 b o e
  · rw [h.2]
    exact Nat.lt_of_lt_of_le (Nat.lt_succ_of_le (ol i hi)) (small (by decide))
  · rintro i x acc H H' hi ⟨s, rfl⟩ e y N S hN hS
    exact hs i x H H' hi s y N S (fun v H4 s4 eo => hN v H4 (s4 _ _ e) ⟨s.trans s4, eo.symm⟩) fun H4 s4 eo => hS H4 (s4 _ _ e) ⟨s.trans s4, eo.symm⟩
end
theorem take_map {α : Type} {β : Type} {xs : List α} {i : Nat} {x : α} (f : α → β) (h : xs[i]? = some x) : (xs.take (i + 1)).map f = (xs.take i).map f ++ [f x] := by
  rw [List.take_add_one, h, Option.toList_some, List.map_append]
  rfl
theorem take_fil {α : Type} {xs : List α} {i : Nat} {x : α} (p : α → Bool) (h : xs[i]? = some x) : (xs.take (i + 1)).filter p = (xs.take i).filter p ++ (if p x then [x] else []) := by
  rw [List.take_add_one, h, Option.toList_some, List.filter_append]
  cases e : p x <;> simp [e]
theorem rep_succ (n : Nat) : (List.replicate (n + 1) true).map V.bl = (List.replicate n true).map V.bl ++ [V.bl true] := by
  rw [List.replicate_succ', List.map_append]
  rfl
theorem rep_all (n : Nat) : (List.replicate n true).all id = true := by simp
theorem Same.rfl' {H : Hp} : Same H H := fun _ _ e => e
/-- a new object beside what was there -/
theorem mkO {H : Hp} {a : Addr} (n : H a = none) (o : HO) : ∃ G : Hp, upd H a o = G ∧ Same H G ∧ G a = some o := ⟨_, rfl, same_upd n, upd_same⟩
/-- an own object is changed beside what was there -/
theorem own_same {H0 H : Hp} {D : Addr} {o : HO} (s : Same H0 H) (n : H0 D = none) : Same H0 (upd H D o) := fun b x e => by
  rw [upd_ne (ne_of_none e n)]
  exact s b x e
/-- t + u, in whatever way -/
theorem cat_of {K : PySem.W.Frag} {H : Hp} {a b : Addr} {xs ys : List V} {Q : VK} (ha : H a = some (.tup xs)) (hb : H b = some (.tup ys)) (hz : xs.length + ys.length ≤ 100000) (q : ∀ p H', Same H H' → H' p = some (.tup (xs ++ ys)) → Q (.ref p) H') : rCatA K (.ref a) (.ref b) H Q := by
  refine ⟨a, b, xs, ys, rfl, rfl, SqT.of ha, SqT.of hb, small hz, fun e => ?_, fun _ e => ?_, fun _ _ p hp => q p _ (same_upd hp) upd_same⟩
  · subst e
    exact q b H Same.rfl' hb
  · subst e
    exact q a H Same.rfl' (by rw [List.append_nil]; exact ha)
theorem fil_pos {α : Type} {l : List α} {x : α} {p : α → Bool} (h : p x = true) : (l ++ [x]).filter p = l.filter p ++ [x] := by rw [List.filter_append, List.filter_cons_of_pos h, List.filter_nil]
theorem fil_neg {α : Type} {l : List α} {x : α} {p : α → Bool} (h : p x = false) : (l ++ [x]).filter p = l.filter p := by rw [List.filter_append, List.filter_cons_of_neg (by rw [h]; exact Bool.false_ne_true), List.filter_nil, List.append_nil]
theorem own_but {H0 H : Hp} {p D : Addr} {o : HO} (b : But p H0 H) (n : H0 D = none) : But p H0 (upd H D o) := fun c x e ne => by
  rw [upd_ne (ne_of_none e n)]
  exact b c x e ne
theorem but_same {p : Addr} {H H1 H2 : Hp} (b : But p H H1) (s : Same H1 H2) : But p H H2 := fun c x e ne => s _ _ (b c x e ne)
/-! ### texts of one sign, joined -/
abbrev tls (x : Str) : List Nat := TL.tl x
def mkS (l : List Nat) : Str := ⟨l.toArray⟩
theorem tls_mk (l : List Nat) : tls (mkS l) = l := rfl
theorem len_mk (l : List Nat) : (mkS l).length = l.length := TL.len_tl (mkS l)
theorem mk_app (a b : List Nat) : mkS a ++ mkS b = mkS (a ++ b) := TL.ext_tl (by show tls _ = tls _; rw [show tls (mkS a ++ mkS b) = tls (mkS a) ++ tls (mkS b) from TL.tl_append _ _, tls_mk, tls_mk, tls_mk])
abbrev sgV (r : List Nat) : List V := r.map fun c => V.str ⟨#[c]⟩
theorem join_sg (r : List Nat) : Txt.join "" (r.map fun c => (⟨#[c]⟩ : Str)) = mkS r := by
  rw [TL.join_eq]
  induction r with
  | nil => rfl
  | cons x r ih =>
    cases r with
    | nil => rfl
    | cons y r =>
      show mkS [x] ++ mkS [] ++ Str.join "" ((y :: r).map fun c => (⟨#[c]⟩ : Str)) = _
      rw [ih, mk_app, mk_app]
      rfl
abbrev sgs (r : List Nat) : List Str := r.map fun c => (⟨#[c]⟩ : Str)
theorem sq_sg {K : PySem.W.Frag} {H : Hp} {D : Addr} {r : List Nat} (h : H D = some (.lst (sgV r))) : SqL K H D ((sgs r).map V.str) := SqL.of (by rw [h, List.map_map]; rfl)
theorem sz_sg {r : List Nat} (l : r.length ≤ 100000) : ((sgs r).map (·.length)).sum + (sgs r).length * (("" : Str)).length ≤ 16777216 := by
  have e : ∀ r : List Nat, ((sgs r).map (·.length)).sum = r.length := fun r => by
    induction r with
    | nil => rfl
    | cons c r ih =>
      show 1 + ((sgs r).map (·.length)).sum = _
      rw [ih, List.length_cons]
      omega
  rw [e, show (("" : Str)).length = 0 from rfl]
  omega
end LL

set_option Elab.async false
set_option linter.all false
set_option maxRecDepth 100000
set_option maxHeartbeats 2000000
/-! LLEq: data of None, ints, texts, lists and tuples: == is equality. -/
namespace LL
open PySem PySem.Spec PyProof.Rows L2
/-- such data, at most n deep -/
def Pn : Nat → PyData → Prop
  | _, .none => True
  | _, .int _ => True
  | _, .str x => PyData.strOk x = true
  | n + 1, .list xs => ∀ d ∈ xs, Pn n d
  | n + 1, .tuple xs => ∀ d ∈ xs, Pn n d
  | _, _ => False
theorem lay_all : ∀ {xs : List PyData}, (∀ d ∈ xs, d.canLay0 = true) → PyData.canLayAll0 xs = true
  | [], _ => by simp only [PyData.canLayAll0]
  | x :: xs, h => by
    simp only [PyData.canLayAll0]
    rw [h x (List.mem_cons_self ..), lay_all fun d hd => h d (List.mem_cons_of_mem _ hd)]
    rfl
theorem depth_all {n : Nat} : ∀ {xs : List PyData}, (∀ d ∈ xs, d.depth ≤ n) → PyData.depthAll xs ≤ n
  | [], _ => by simp only [PyData.depthAll]; exact Nat.zero_le _
  | x :: xs, h => by
    simp only [PyData.depthAll]
    exact Nat.max_le.mpr ⟨h x (List.mem_cons_self ..), depth_all fun d hd => h d (List.mem_cons_of_mem _ hd)⟩
theorem Pn.lay : ∀ {n : Nat} {d : PyData}, Pn n d → d.canLay0 = true ∧ d.depth ≤ n
  | n, .none, _ => ⟨by simp only [PyData.canLay0], by simp only [PyData.depth]; exact Nat.zero_le _⟩
  | n, .int _, _ => ⟨by simp only [PyData.canLay0], by simp only [PyData.depth]; exact Nat.zero_le _⟩
  | n, .str x, h => ⟨by simp only [PyData.canLay0]; cases n <;> exact h, by simp only [PyData.depth]; exact Nat.zero_le _⟩
  | n + 1, .list xs, h => ⟨by simp only [PyData.canLay0]; exact lay_all fun d hd => (Pn.lay (h d hd)).1, by simp only [PyData.depth]; exact Nat.succ_le_succ (depth_all fun d hd => (Pn.lay (h d hd)).2)⟩
  | n + 1, .tuple xs, h => ⟨by simp only [PyData.canLay0]; exact lay_all fun d hd => (Pn.lay (h d hd)).1, by simp only [PyData.depth]; exact Nat.succ_le_succ (depth_all fun d hd => (Pn.lay (h d hd)).2)⟩
  | 0, .list _, h => h.elim
  | 0, .tuple _, h => h.elim
  | 0, .bool _, h => h.elim
  | n + 1, .bool _, h => h.elim
  | 0, .dict _, h => h.elim
  | n + 1, .dict _, h => h.elim
theorem Pn.shp {n : Nat} {d : PyData} (h : Pn n d) (hn : n ≤ 60) : SeqAt.shaped d = true := by
  obtain ⟨a, b⟩ := h.lay
  unfold SeqAt.shaped
  rw [a, Bool.true_and]
  exact decide_eq_true (by omega)
theorem eqv_all : ∀ {xs ys : List PyData}, (∀ d ∈ xs, ∀ e ∈ ys, (PyData.eqv d e = true ↔ d = e)) → (PyData.eqvAll xs ys = true ↔ xs = ys)
  | [], [], _ => by simp [PyData.eqvAll]
  | [], _ :: _, _ => by simp [PyData.eqvAll]
  | _ :: _, [], _ => by simp [PyData.eqvAll]
  | x :: xs, y :: ys, h => by
    simp only [PyData.eqvAll, Bool.and_eq_true, List.cons.injEq]
    exact and_congr (h x (List.mem_cons_self ..) y (List.mem_cons_self ..)) (eqv_all fun d hd e he => h d (List.mem_cons_of_mem _ hd) e (List.mem_cons_of_mem _ he))
theorem Pn.no_bool {n : Nat} {b : Bool} : ¬ Pn n (.bool b) := by cases n <;> exact fun h => h
theorem Pn.no_dict {n : Nat} {b : List (PyData × PyData)} : ¬ Pn n (.dict b) := by cases n <;> exact fun h => h
theorem Pn.eqv : ∀ {n m : Nat} {d e : PyData}, Pn n d → Pn m e → (PyData.eqv d e = true ↔ d = e) := by
  intro n
  induction n with
  | zero =>
    intro m d e hd he
    cases d <;> cases e <;> first | exact hd.elim | exact absurd he Pn.no_bool | exact absurd he Pn.no_dict | simp [PyData.eqv]
  | succ n ih =>
    intro m d e hd he
    cases d with
    | list xs =>
      cases e with
      | list ys =>
        cases m with
        | zero => exact he.elim
        | succ m =>
          simp only [PyData.eqv, PyData.list.injEq]
          exact eqv_all fun d hd' e he' => ih (hd d hd') (he e he')
      | bool b => exact absurd he Pn.no_bool
      | dict b => exact absurd he Pn.no_dict
      | _ => simp [PyData.eqv]
    | tuple xs =>
      cases e with
      | tuple ys =>
        cases m with
        | zero => exact he.elim
        | succ m =>
          simp only [PyData.eqv, PyData.tuple.injEq]
          exact eqv_all fun d hd' e he' => ih (hd d hd') (he e he')
      | bool b => exact absurd he Pn.no_bool
      | dict b => exact absurd he Pn.no_dict
      | _ => simp [PyData.eqv]
    | bool b => exact hd.elim
    | dict b => exact hd.elim
    | _ => cases e <;> first | exact absurd he Pn.no_bool | exact absurd he Pn.no_dict | simp [PyData.eqv]
theorem dec_b {b : Bool} {p : Prop} (h : b = true ↔ p) : (p → b = true) ∧ (¬ p → b = false) := ⟨h.mpr, fun n => Bool.eq_false_iff.mpr fun z => n (h.mp z)⟩
section
variable {K : PySem.W.Frag} {H : Hp} {x y : V} {d e : PyData} {n m : Nat} {Q : VK}
theorem eq_pd (hx : Dp K H x d) (hy : Dp K H y e) (pd : Pn n d) (pe : Pn m e) (q : ∀ b, (b = true ↔ d = e) → Q (.bl b) H) (hn : n ≤ 60 := by decide) (hm : m ≤ 60 := by decide) : rEqD K x y H Q := ⟨d, e, hx, hy, pd.shp hn, pe.shp hm, q _ (pd.eqv pe)⟩
theorem ne_pd (hx : Dp K H x d) (hy : Dp K H y e) (pd : Pn n d) (pe : Pn m e) (q : ∀ b, (b = true ↔ d = e) → Q (.bl (!b)) H) (hn : n ≤ 60 := by decide) (hm : m ≤ 60 := by decide) : rNeD K x y H Q := ⟨d, e, hx, hy, pd.shp hn, pe.shp hm, q _ (pd.eqv pe)⟩
end
mutual
theorem Dp.same {K : PySem.W.Frag} {H H' : Hp} (s : Same H H') : ∀ {v : V} {d : PyData}, Dp K H v d → Dp K H' v d
  | _, _, .non => .non
  | _, _, .bl b => .bl b
  | _, _, .int i => .int i
  | _, _, .str x => .str x
  | _, _, .lst h a => .lst (sqL_same h s) (DpAll.same s a)
  | _, _, .tup h a => .tup (sqT_same h s) (DpAll.same s a)
theorem DpAll.same {K : PySem.W.Frag} {H H' : Hp} (s : Same H H') : ∀ {vs : List V} {ds : List PyData}, DpAll K H vs ds → DpAll K H' vs ds
  | _, _, .nil => .nil
  | _, _, .cons h a => .cons (Dp.same s h) (DpAll.same s a)
end
theorem dpa_map {K : PySem.W.Frag} {H : Hp} {α : Type} {f : α → V} {g : α → PyData} : ∀ {l : List α}, (∀ x ∈ l, Dp K H (f x) (g x)) → DpAll K H (l.map f) (l.map g)
  | [], _ => .nil
  | x :: l, h => .cons (h x (List.mem_cons_self ..)) (dpa_map fun y hy => h y (List.mem_cons_of_mem _ hy))
theorem dpa_at {K : PySem.W.Frag} {H : Hp} : ∀ {vs : List V} {ds : List PyData}, vs.length = ds.length → (∀ (i : Nat) v d, vs[i]? = some v → ds[i]? = some d → Dp K H v d) → DpAll K H vs ds
  | [], [], _, _ => .nil
  | v :: vs, d :: ds, hl, h => .cons (h 0 v d rfl rfl) (dpa_at (by simpa using hl) fun i v d h1 h2 => h (i + 1) v d h1 h2)
  | [], _ :: _, hl, _ => by cases hl
  | _ :: _, [], hl, _ => by cases hl
theorem pn_ints (l : List Int) : Pn 1 (.list (l.map PyData.int)) := fun d hd => by
  obtain ⟨i, _, rfl⟩ := List.mem_map.mp hd
  trivial
theorem dp_ints {K : PySem.W.Frag} {H : Hp} {a : Addr} {l : List Int} (h : H a = some (.lst (l.map V.int))) : Dp K H (.ref a) (.list (l.map PyData.int)) := .lst (SqL.of h) (dpa_map fun i _ => .int i)
theorem int_inj {a b : List Int} (h : a.map PyData.int = b.map PyData.int) : a = b := List.map_inj_right (fun x y e => PyData.int.inj e) |>.mp h
theorem Lt.keep {H H' : Hp} {a : Addr} {us : List V} (h : Lt H a us) (s : Same H H') : H' a = H a := by
  rcases h with h | h <;> rw [h, s _ _ h]
/-- a walk of a list or a tuple that stands -/
theorem seq_lt {K : PySem.W.Frag} {tl : TE} {σ : L2.St} {H : Hp} {a : Addr} {us : List V} {R : It → Hp → Prop} (h : Lt H a us) (hq : ∀ Q : VK, Q (.ref a) H → tl σ H Q) (k : ∀ J, Walk J us.length (fun H' => H' a = H a) (YAt us) → R J H) : iSeqA K tl σ H R := by
  rcases h with h | h
  · exact .inl (hq _ ⟨a, rfl, ⟨us, SqL.of h⟩, k _ ((walk_list (K := K)).mono (fun H' s => SqL.of (s.trans h)) fun _ _ _ _ _ _ y => y)⟩)
  · exact .inr (hq _ ⟨a, rfl, ⟨us, SqT.of h⟩, k _ ((walk_tup (K := K)).mono (fun H' s => SqT.of (s.trans h)) fun _ _ _ _ _ _ y => y)⟩)
theorem putK_len {κ : Type} [DecidableEq κ] (kvs : List (κ × V)) (k : κ) (v : V) : (putK kvs k v).length ≤ kvs.length + 1 := by
  unfold putK
  split
  · rw [List.length_map]
    exact Nat.le_succ _
  · rw [List.length_append]
    exact Nat.le_refl _
theorem all_dec {α : Type} (l : List α) (p : α → Bool) : ((l.map p).all id) = l.all p := by rw [List.all_map]; rfl
end LL

set_option Elab.async false
set_option linter.all false
set_option maxRecDepth 100000
set_option maxHeartbeats 2000000
/-! LLNest: rules for what stands within a comprehension; the scope of a comprehension in a text. -/
namespace LL
open PySem PySem.Spec PyProof.Rows L2
section
variable {X : Cx} {K : PySem.W.Frag} {tg l : Expr} {tl : TE}
theorem pi_listK (h : X.K = K) (hl : PE X l tl) : PI X tg l (iList K tl) := h ▸ pi_list hl
theorem op_eqDK (h : X.K = K) (hu : X.A.units + 64 < cLine) : OpR X (compareOp .Eq) (rEqD K) := h ▸ op_eqD hu
theorem op_neDK (h : X.K = K) (hu : X.A.units + 64 < cLine) : OpR X (compareOp .NotEq) (rNeD K) := h ▸ op_neD hu
theorem sl_listK (h : X.K = K) : SlR X (rSlL K) := h ▸ sl_list
end
def stIn (b : List Stmt) (i : Nat) : Stmt := b.getD i (.Pass ⟨0, 0, 0, 0⟩)
def forBody : Stmt → List Stmt
  | .For _ _ b _ _ => b
  | _ => []
def asgVal : Stmt → Expr
  | .Assign _ e _ => e
  | _ => .Name "" ⟨0, 0, 0, 0⟩
def compSc : Expr → Scope
  | .ListComp _ _ sc _ => sc
  | _ => defScope (.Pass ⟨0, 0, 0, 0⟩)
end LL

set_option Elab.async false
set_option linter.all false
set_option maxRecDepth 100000
set_option maxHeartbeats 2000000
/-! LLSlots: a def called in a try's body: what is raised is wished for at the slots that stand then. -/
namespace LL
open PySem PySem.Spec PyProof.Rows L2
section
variable {X : Cx} {CX : CXT} {k : Nat} {sp : Sp} {dvs : List V} {E : L2.St → XK} {x : Str} {p pos : Pos} {e : Expr} {es : List Expr} {t : TA}
theorem pe_fnS (G : Fnc X.prog X.w X.K X.mg X.base CX k x dvs sp) (hr : Rm k X.A) (hx : ∀ σ, PassesAt CX X σ (E σ)) (ha : PA X (e :: es) t) (hg : Gl X x := by rfl) (hdb : (x == ("__debug__" : Str)) = false := by decide)
    (he : starEach (e :: es) X.env = (false, eval e X.env) :: starEach es X.env := by rfl) (hpl : (backTo pos (starEach es X.env)).any (·.1) = false := by rfl) : PE X (.Call (.Name x p) (e :: es) [] pos) (tCallSD sp dvs E t) := by
  obtain ⟨f, fd, ps, ds, hm, hk, hb, hd, F⟩ := G.ex
  refine ⟨fun pins s σ H Q I h => wpAny_Call_Name_kw (ld_glob I hg hm (PySem.W.callWith_K (h₀ := X.base) I.ok.mod.kin hk (thn (ha.run pos pins s σ H _ I h) fun us s1 z => ?_) he hpl) hdb)⟩
  obtain ⟨vs, H1, I1, r, q⟩ := z
  have r2 : Vals (vs ++ dvs) (us ++ ds) := r.append hd
  have hl : (us ++ ds).length = ps.length := r2.length.symm.trans (F.len _ _ _ _ q)
  refine ⟨I1.kIn, wpAny_call (codeAny_mono (F.run X.A X.stack s1 H1 ⟨us, []⟩ (us ++ ds) (vs ++ dvs) Q (E σ) hr I1.env0 (hb s1 us I1.kIn hl) r2 q) fun r s' hq => ?_)⟩
  match r, hq with
  | .error er, hq => exact hx σ pins H1 s1 er s' I1 hq
  | .ok (.ret u), hq => exact I1.after hq
  | .ok .next, hq => exact False.elim hq
  | .ok .brk, hq => exact False.elim hq
  | .ok .cont, hq => exact False.elim hq
end
theorem look_f (f : Str) (v : V) : ([(f, v)] : List (Str × V)).lookup f = some v := by
  rw [show ([(f, v)] : List (Str × V)) = putF f v [] from rfl, lookup_putF, if_pos rfl]
section
variable {K : PySem.W.Frag}
theorem kNoneL : PySem.W.kitOne K (.type "NoneType") (.type "list") = some false := kit_ty (by decide +kernel)
theorem kNoneT : PySem.W.kitOne K (.type "NoneType") (.type "tuple") = some false := kit_ty (by decide +kernel)
theorem kIntL : PySem.W.kitOne K (.type "int") (.type "list") = some false := kit_ty (by decide +kernel)
theorem kIntT : PySem.W.kitOne K (.type "int") (.type "tuple") = some false := kit_ty (by decide +kernel)
theorem kStrL : PySem.W.kitOne K (.type "str") (.type "list") = some false := kit_ty (by decide +kernel)
theorem kStrT : PySem.W.kitOne K (.type "str") (.type "tuple") = some false := kit_ty (by decide +kernel)
theorem kDicL : PySem.W.kitOne K (.type "dict") (.type "list") = some false := kit_ty (by decide +kernel)
theorem kDicT : PySem.W.kitOne K (.type "dict") (.type "tuple") = some false := kit_ty (by decide +kernel)
end
end LL

set_option Elab.async false
set_option linter.all false
set_option maxRecDepth 100000
set_option maxHeartbeats 2000000
/-! LLExb: own error classes over LookupError, RuntimeError, ArithmeticError, with one field or two. -/
namespace LL
open PySem PySem.Spec PyProof.Rows L2
/-- what is known of a built-in error class -/
structure Bas (B nI iI : String) (tl : List Value) : Prop where
  eb : ExcBaseFacts B nI iI tl
  st : StoreFacts B tl "object.__setattr__" "object"
  ty : typeOf (.type B) = pure (.type "type")
  sb : Manifest.isStub B = false
  hi : PySem.W.handedIn (.builtin iI) = true
  bt : bootBuiltins (Str.ofString B) = some (.type B)
  n1 : Str.ofString B ≠ "__name__"
  n2 : (Str.ofString B == ("__debug__" : Str)) = false
theorem bas_L : Bas "LookupError" "LookupError.__new__" "LookupError.__init__" [.type "LookupError", .type "Exception", .type "BaseException", .type "object"] := ⟨F.excBase_LookupError, F.store_LookupError, by kernel_rfl, by decide +kernel, by decide +kernel, by decide +kernel, by decide +kernel, by decide +kernel⟩
theorem bas_R : Bas "RuntimeError" "RuntimeError.__new__" "RuntimeError.__init__" [.type "RuntimeError", .type "Exception", .type "BaseException", .type "object"] := ⟨F.excBase_RuntimeError, F.store_RuntimeError, by kernel_rfl, by decide +kernel, by decide +kernel, by decide +kernel, by decide +kernel, by decide +kernel⟩
theorem bas_A : Bas "ArithmeticError" "ArithmeticError.__new__" "ArithmeticError.__init__" [.type "ArithmeticError", .type "Exception", .type "BaseException", .type "object"] := ⟨F.excBase_ArithmeticError, F.store_ArithmeticError, by kernel_rfl, by decide +kernel, by decide +kernel, by decide +kernel, by decide +kernel, by decide +kernel⟩
/-- what the written part says of the own class at C -/
structure OexB (K : PySem.W.Frag) (C : Addr) (nI : String) (tl : List Value) : Prop where
  cls : PySem.W.excInitIn K C tl nI = true
  over : PySem.W.excOver K C tl = true
  hd : PySem.W.hasDictIn K C = true
  sa : PySem.W.findIn K (.ref C) "__setattr__" = some (some (.builtin "object.__setattr__"))
  exC : PySem.W.subIn K (.ref C) (.type "BaseException") = some true
  tyC : PySem.W.typeIn K (.ref C) = some (.type "type")
  kC : PySem.W.keepIn K (.ref C) = true
theorem taker_of {K : PySem.W.Frag} {C : Addr} {f : Str} (h : PySem.W.findIn K (.ref C) f = some none) : PySem.W.takerIn K C f = some none := by
  unfold PySem.W.takerIn
  rw [h]
  rfl
section
variable {X : Cx} {pins : List (Addr × Obj)} {σ : L2.St} {H : Hp} {s : Shared} {a C dx : Addr} {f : Str} {y : V} {u : Value} {fs : List (Str × V)} {Q : Unit → Shared → Prop} {E : Value → Shared → Prop} {A : Around} {B nI iI : String} {tl : List Value}
/-- the error has got its dict -/
theorem inv_dict {hp h' : Heap} {g : Array GenState} {d : Drawn} {t tk' : Nat} {os : OsState} {t1 : Addr} (I : Inv X pins σ H ⟨hp, g, d, t, os⟩) (e : H a = some (exo a C none)) (ry : RelV y u) (k : ∀ b o, b ≠ a → hp.get? b = some o → h'.get? b = some o) (dn : hp.objs.size ≤ dx)
    (hx : h'.get? a = some ({ cls := .ref C, dict := some dx, data := .fields #[.ref t1, .none, .none, .none, .bool false, .none] } : Obj)) (hn : h'.Ns1 dx fun y => if y = f then some u else none) :
    Inv X pins σ (upd (upd H dx (exd dx [(f, y)])) a (exo a C (some dx))) ⟨h', g, d, tk', os⟩ := by
  have free : H dx = none := I.hok.fresh dn
  have off : ∀ {b : Addr}, H b = none → b ≠ a := fun {b} n z => (by rw [z, e] at n; cases n)
  have low : ∀ {b : Addr} {o : Obj}, hp.get? b = some o → b ≠ dx := fun {b o} q => Nat.ne_of_lt (Nat.lt_of_lt_of_le (Heap.lt_size q) dn)
  have same : ∀ {b : Addr} {o : HO}, H b = some o → b ≠ a → upd (upd H dx (exd dx [(f, y)])) a (exo a C (some dx)) b = some o := fun {b o} q n => by rw [upd_ne n, upd_ne (ne_of_none q free)]; exact q
  refine I.un (t' := tk') ⟨fun b o q n _ _ => k b o (off n) q, fun b o q n _ _ => ⟨o.slots, k b o (off n) q⟩, fun b o q n _ => ?_, fun b o q _ => ?_, fun b xs q => same q (at_ne e q exo_tup), fun b o v q => same q (at_ne e q exo_frz), fun b ps q => ⟨#[], ?_⟩⟩ fun b o q => ?_
  · rw [upd_ne (off n), upd_ne (low q)]
    exact n
  · by_cases c : b = a
    · exact ⟨_, c ▸ hx⟩
    · exact ⟨o, k b o c q⟩
  · rw [same q (at_ne e q exo_tbl)]
    simp
  · by_cases c : b = a
    · subst c
      rw [upd_same] at q
      cases q
      exact exo_ok hx
    rw [upd_ne c] at q
    by_cases c2 : b = dx
    · subst c2
      rw [upd_same] at q
      cases q
      exact exd_ok hn (relO_put (fs := []) ry fun _ => trivial)
    rw [upd_ne c2] at q
    refine (I.hok b o q).stay (fun z v hz w => k z v ?_ w) (fun z hz => same hz (at_ne e hz exo_own)) fun z xs hz => same hz (at_ne e hz exo_tup)
    exact hz.elim (fun hz => hz ▸ c) fun hz => at_ne e hz exo_own
/-- self.f = y, the first one -/
theorem ostB_new (Z : Bas B nI iI tl) (T : OexB X.K C nI tl) (I : Inv X pins σ H s) (e : H a = some (exo a C none)) (hno : PySem.W.findIn X.K (.ref C) f = some none) (ry : RelV y u)
    (h : ∀ dx s', H dx = none → dx ≠ a → Inv X pins σ (upd (upd H dx (exd dx [(f, y)])) a (exo a C (some dx))) s' → Q () s') : wpAny (model X.prog X.w) A (setAttr (.ref a) f u) Q E s := by
  obtain ⟨t1, ho⟩ := exo_at I.hok e
  obtain ⟨hp, g, d, t, os⟩ := s
  have J : PySem.W.InstAt hp a { cls := .ref C, dict := none, data := .fields #[.ref t1, .none, .none, .none, .bool false, .none] } C none := ⟨ho, rfl, rfl, trivial⟩
  obtain ⟨cd, hc, hd'⟩ := PySem.W.any_some T.hd
  have as : a < hp.objs.size := Heap.lt_size ho
  refine PySem.W.set_plain I.kIn J T.sa (PySem.W.osa_openX (s := ⟨hp, g, d, t + 1, os⟩) Z.st I.kIn J T.over (taker_of hno) fun b => ?_)
  show wpAny _ _ (Builtin.ObjectAttr.storeInOwnDict (.ref a) (.ref C) (.str f t) f u b) _ _ _
  refine wpAny_bind (wpAny_pure (wpAny_bind (PySem.W.instanceDict_exc (t := t1) (c2 := .none) ho (PySem.W.looks_clsIn I.kIn hc) hd' ?_)))
  show wpAny _ _ (Builtin.ObjectAttr.storeInDict hp.objs.size (.str f t) f u) _ _ ⟨_, g, d, t + 1, os⟩
  have n0 : ((hp.push (PySem.W.dictOf [] 0)).update a fun o => { o with dict := some hp.objs.size }).Ns1 hp.objs.size fun _ => none :=
    ⟨_, #[], 0, (Heap.get?_update_ne _ _ _ _ (Nat.ne_of_gt as)).trans (Heap.get?_push_size _ rfl), rfl, fun e he => absurd he (by simp), List.Pairwise.nil, fun _ => rfl⟩
  refine PySem.OEX.store_in_old (ns := []) n0 (fun y hy => absurd rfl hy) (Nat.zero_le _) fun h' tk' hn' hs => ?_
  have ho1 : (hp.push (PySem.W.dictOf [] 0)).get? a = some { cls := .ref C, dict := none, data := .fields #[.ref t1, .none, .none, .none, .bool false, .none] } := Heap.get?_push_of_some _ ho
  refine h hp.objs.size _ (I.hok.fresh (Nat.le_refl _)) (Nat.ne_of_gt as) (inv_dict (t1 := t1) I e ry (fun b o nb q => ?_) (Nat.le_refl _) ?_ hn')
  · exact (hs.2 b (Nat.ne_of_lt (Heap.lt_size q))).trans ((Heap.get?_update_ne _ _ _ _ nb).trans (Heap.get?_push_of_some _ q))
  · exact (hs.2 a (Nat.ne_of_lt as)).trans (Heap.get?_update_self _ ho1 rfl)
/-- self.f = y, a further one -/
theorem ostB_old (Z : Bas B nI iI tl) (T : OexB X.K C nI tl) (I : Inv X pins σ H s) (e : H a = some (exo a C (some dx))) (ed : H dx = some (exd dx fs)) (hl : fs.length ≤ 900) (hno : PySem.W.findIn X.K (.ref C) f = some none) (ry : RelV y u)
    (h : ∀ s', Inv X pins σ (upd H dx (exd dx ((f, y) :: fs))) s' → Q () s') : wpAny (model X.prog X.w) A (setAttr (.ref a) f u) Q E s := by
  obtain ⟨t1, ho⟩ := exo_at I.hok e
  obtain ⟨mA, hns, rel⟩ := exd_at I.hok ed
  obtain ⟨hp, g, d, t, os⟩ := s
  obtain ⟨oD, _, _, hoD, _, _⟩ := hns.count (within_of rel)
  have J : PySem.W.InstAt hp a { cls := .ref C, dict := some dx, data := .fields #[.ref t1, .none, .none, .none, .bool false, .none] } C (some oD) := ⟨ho, rfl, rfl, hoD⟩
  obtain ⟨cd, hc, hd'⟩ := PySem.W.any_some T.hd
  have cl : PySem.W.Looks (model X.prog X.w) hp (classData C) cd := PySem.W.looks_clsIn I.kIn hc
  refine PySem.W.set_plain I.kIn J T.sa (PySem.W.osa_openX (s := ⟨hp, g, d, t + 1, os⟩) Z.st I.kIn J T.over (taker_of hno) fun b => ?_)
  show wpAny _ _ (Builtin.ObjectAttr.storeInOwnDict (.ref a) (.ref C) (.str f t) f u b) _ _ _
  have go : ∀ {Qf : Fin → Shared → Prop} {E' : Value → Shared → Prop}, (∀ s', Q () s' → Qf (.done (.ret .none)) s') → wpAny (model X.prog X.w) A.in1 (Builtin.ObjectAttr.storeInDict dx (.str f t) f u) Qf E' ⟨hp, g, d, t + 1, os⟩ := fun {Qf E'} hQ => by
    refine PySem.OEX.store_in_old hns (within_of rel) (by rw [List.length_map]; omega) fun h' tk' hn' hs => ?_
    have ex : ∃ o, h'.get? dx = some o := let ⟨o, _, _, e', _⟩ := hn'; ⟨o, e'⟩
    exact hQ _ (h _ (I.write (t' := tk') (x := dx) (e := dx) (o := exd dx ((f, y) :: fs)) (by rw [ed]; exact trivial) (.inl rfl) (fun b o nb q => (hs.2 b nb).trans q) ex (exd_ok hn' (relO_put ry rel))))
  refine wpAny_bind (wpAny_pure (wpAny_bind (show wpAny _ _ (instanceDict a true) _ _ _ from ?_)))
  unfold instanceDict
  refine wpAny_bind (wpAny_loadPart ho ?_)
  dsimp only
  refine wpAny_bind (cl.at ?_)
  rw [hd']
  first
    | exact wpAny_pure (by exact go fun _ z => z)
    | exact wpAny_bind (wpAny_pure (wpAny_pure (by exact go fun _ z => z)))
theorem oinitB {us : List Value} {Q : Value → Shared → Prop} (Z : Bas B nI iI tl) (T : OexB X.K C nI tl) (I : Inv X pins σ H s) (e : H a = some (exo a C none)) (hl : us.length ≤ sizeLine) (h : ∀ s', Inv X pins σ H s' → Q .none s') : wpAny (model X.prog X.w) A (call (.builtin iI) (.ref a :: us)) Q E s := by
  obtain ⟨nm, N, qn, bs, bm, hdct, sn, sub, ab, col, dd, k0, k1, k2, k3, k5, hC, hT⟩ := PySem.W.excInit_of I.kIn T.cls
  obtain ⟨t1, ho⟩ := exo_at I.hok e
  obtain ⟨hp, g, d, t, os⟩ := s
  refine wpAny_call (PySem.PX.init_base Z.eb hT hC ho hl fun h' t2 k hx => ?_)
  have J := I.write (t' := t) (x := a) (e := a) (o := exo a C none) (by rw [e]; exact trivial) (.inl rfl) k ⟨_, hx⟩ (exo_ok hx)
  have same : upd H a (exo a C none) = H := funext fun b => by
    by_cases c : b = a
    · rw [c, upd_same, e]
    · rw [upd_ne c]
  exact h _ (same ▸ J)
end
/-! ### readings -/
def tBeI (K : PySem.W.Frag) (nI : String) (tl : List Value) (ta : TA) : TE := fun σ H Q => ta σ H fun vs H1 => ∃ (a C : Addr) (ws : List V), vs = .ref a :: ws ∧ ws.length ≤ 1000 ∧ OexB K C nI tl ∧ H1 a = some (exo a C none) ∧ Q .non H1
def tOstB (K : PySem.W.Frag) (nI : String) (tl : List Value) (f : Str) (to te : TE) : TS := fun D σ H => te σ H fun y H1 => to σ H1 fun x H2 => ∃ a C : Addr, x = .ref a ∧ OexB K C nI tl ∧ PySem.W.findIn K (.ref C) f = some none ∧
  ((H2 a = some (exo a C none) ∧ ∀ dx, H2 dx = none → dx ≠ a → D.nx σ (upd (upd H2 dx (exd dx [(f, y)])) a (exo a C (some dx)))) ∨
    ∃ (dx : Addr) (fs : List (Str × V)), H2 a = some (exo a C (some dx)) ∧ H2 dx = some (exd dx fs) ∧ fs.length ≤ 900 ∧ D.nx σ (upd H2 dx (exd dx ((f, y) :: fs))))
section
variable {X : Cx} {o e : Expr} {es : List Expr} {to te : TE} {ta : TA} {f : Str} {p p' p1 p2 pos : Pos} {B nI iI : String} {tl : List Value}
/-- B.__init__(self, ..) -/
theorem pe_beinit {pl : Sem Bool} (Z : Bas B nI iI tl) (hm : X.mg (Str.ofString B) = none) (vV : PySem.W.findCls X.K (.type B) (.type "type") "__init__" = some (.val (.builtin iI))) (ha : PA X (e :: es) ta)
    (hg : Gl X (Str.ofString B) := by rfl) (ev : eval (.Call (.Attribute (.Name (Str.ofString B) p1) "__init__" p2) (e :: es) [] pos) X.env = (do
      let o ← eval (.Name (Str.ofString B) p1) X.env
      standAt p2.atName
      let (g, first) ← holding [o] (getMethod o "__init__" pl)
      callWith pos g first (backTo pos (starEach (e :: es) X.env)) (backToKw pos (keywordEach [] X.env))) := by rfl)
    (se : starEach (e :: es) X.env = (false, eval e X.env) :: starEach es X.env := by rfl) (sn : (backTo pos (starEach es X.env)).any (·.1) = false := by rfl) : PE X (.Call (.Attribute (.Name (Str.ofString B) p1) "__init__" p2) (e :: es) [] pos) (tBeI X.K nI tl ta) := by
  constructor
  intro pins s σ H Q I h
  obtain ⟨m, fr⟩ := I.fr
  refine PySem.W.methodCall_KW (ld_blt I hg hm Z.bt ?_ Z.n1 Z.n2) ev
  refine PySem.W.method_type fr I.ok.mod.kin Z.ty Z.sb vV Z.hi ?_
  show wpAny _ _ (callWith pos (Value.builtin iI) [] (backTo pos (starEach (e :: es) X.env)) []) _ _ _
  refine PyProof.Rows.callWith_method1 (thn (ha.run pos pins _ σ H _ (I.tok _) h) fun us s1 z => ?_) se sn
  obtain ⟨vs, H1, I1, r, a, C, ws, rfl, hl, T, ea, q⟩ := z
  cases r with
  | @cons _ u _ ur ru rr =>
    cases (show u = Value.ref a from ru)
    exact oinitB Z T I1 ea (Nat.le_trans (Nat.le_of_eq (Paired.length rr).symm) (Nat.le_trans hl (by rw [sizeLine_eq]; decide))) fun s2 J => ⟨.non, H1, J, rfl, q⟩
theorem ps_ostB (Z : Bas B nI iI tl) (ho : PE X o to) (he : PE X e te) (hs : swapsWith e (some (.Attribute o f p')) pos.line X.env = pure false := by rfl) : PS X (.Assign [.Attribute o f p'] e pos) (tOstB X.K nI tl f to te) := by
  constructor
  intro pins s σ H D I h
  refine plainObj_wpAny_Assign_Attribute (thn (he.run pins s σ H _ I h) fun v s1 z => ?_) hs
  obtain ⟨y, H1, I1, r1, q1⟩ := z
  refine thn (ho.run pins s1 σ H1 _ I1 q1) fun u s2 z => ?_
  obtain ⟨x, H2, I2, r2, a, C, rfl, T, hno, q⟩ := z
  cases (show u = Value.ref a from r2)
  rcases q with ⟨ea, q⟩ | ⟨dx, fs, ea, ed, hl, q⟩
  · exact ostB_new Z T I2 ea hno r1 fun dx s' n ne J => ⟨σ, _, J, q dx n ne⟩
  · exact ostB_old Z T I2 ea ed hl hno r1 fun s' J => ⟨σ, _, J, q⟩
theorem pmk_oexB {CX : CXT} {x : Str} {C fI : Addr} {k : Nat} {fd : FuncData} {ps : List Str} {sp : Sp} (Z : Bas B nI iI tl) (T : OexB X.K C nI tl) (iC : PySem.W.findIn X.K (.ref C) "__init__" = some (some (.ref fI))) (tI : PySem.W.typeIn X.K (.ref fI) = some (.type "function"))
    (F1 : FnOk X.prog X.w X.K X.mg X.base CX k fI fd ps sp) (hr : Room (k + 1) X.A) (hb : Binds X.K fd ps []) (hx : Passes CX X (fun _ _ _ => False)) (hg : Gl X x) (hm : X.mg x = some (.ref C)) (ha : PA X (e :: es) ta)
    (hdb : (x == ("__debug__" : Str)) = false := by decide) (he : starEach (e :: es) X.env = (false, eval e X.env) :: starEach es X.env := by rfl) (hpl : (backTo pos (starEach es X.env)).any (·.1) = false := by rfl) : PMk X (.Call (.Name x p) (e :: es) [] pos) (tMkO C sp [] ta) := by
  intro pins s σ H Q I h
  refine wpAny_Call_Name_kw (ld_glob I hg hm (PySem.W.callWith_K (h₀ := X.base) I.ok.mod.kin T.kC (thn (ha.run pos pins s σ H _ I h) fun us s1 z => ?_) he hpl) hdb)
  obtain ⟨vs, H1, I1, r1, hz, q1⟩ := z
  refine ⟨I1.kIn, show wpAny _ _ (call (.ref C) us) _ _ _ from ?_⟩
  obtain ⟨nm, N, qn, bs, bm, hdct, sn, sub, ab, col, dd, k0, k1, k2, k3, k5, hC, hT⟩ := PySem.W.excInit_of I1.kIn T.cls
  obtain ⟨hp, g, dr, tk, os⟩ := s1
  have up : hp.objs.size ≤ hp.objs.size + 1 := Nat.le_succ _
  have hq := q1 (hp.objs.size + 1) (I1.hok.fresh up)
  have kk : ∀ b o, hp.get? b = some o → ((hp.push (PySem.W.kdv_tup us)).push (PySem.PX.excO C hp.objs.size)).get? b = some o := fun b o e => Heap.get?_push_of_some _ (Heap.get?_push_of_some _ e)
  have got : ((hp.push (PySem.W.kdv_tup us)).push (PySem.PX.excO C hp.objs.size)).get? (hp.objs.size + 1) = some (PySem.PX.excO C hp.objs.size) := by heap_get
  have I2 : Inv X pins σ (upd H1 (hp.objs.size + 1) (exo (hp.objs.size + 1) C none)) ⟨(hp.push (PySem.W.kdv_tup us)).push (PySem.PX.excO C hp.objs.size), g, dr, tk, os⟩ := I1.laid (t' := tk) (o := exo (hp.objs.size + 1) C none) kk up (exo_ok got)
  have r2 : Vals (V.ref (hp.objs.size + 1) :: (vs ++ [])) (Value.ref (hp.objs.size + 1) :: (us ++ [])) := .cons rfl (r1.append .nil)
  have hl : (Value.ref (hp.objs.size + 1) :: us ++ []).length = ps.length := r2.length.symm.trans (F1.len _ _ _ _ hq)
  have hus : us.length ≤ sizeLine := Nat.le_trans (Nat.le_of_eq (Paired.length r1).symm) (Nat.le_trans hz (by rw [sizeLine_eq]; decide))
  have bd : BindsTo (⟨(hp.push (PySem.W.kdv_tup us)).push (PySem.PX.excO C hp.objs.size), g, dr, tk, os⟩ : Shared) fd ⟨Value.ref (hp.objs.size + 1) :: us, []⟩ (ps.zip (Value.ref (hp.objs.size + 1) :: (us ++ []))) := by
    have z := hb ⟨(hp.push (PySem.W.kdv_tup us)).push (PySem.PX.excO C hp.objs.size), g, dr, tk, os⟩ (Value.ref (hp.objs.size + 1) :: us) I2.kIn hl
    rw [List.cons_append] at z
    exact z
  refine wpAny_call (PySem.PX.call_own Z.eb hT hC (PySem.W.looks_findIn I1.kIn iC) (fun self => PySem.W.bind_fn I1.kIn self tI) hus (codeAny_mono (F1.run _ X.stack _ _ ⟨Value.ref (hp.objs.size + 1) :: us, []⟩ (Value.ref (hp.objs.size + 1) :: (us ++ [])) _ _ (fun _ _ _ => False) (hr.make C us []) (I2.env0.make C us []) bd r2 hq) fun r s' hq' => ?_))
  match r, hq' with
  | .error er, hq' => exact hx pins σ _ _ er s' I2 hq'
  | .ok (.ret u), hq' =>
    obtain ⟨v, H2, os2, bare2, un2, hok2, rv, rfl, d, fs, ea, ed, hd1, q2⟩ := hq'
    obtain ⟨h2, g2, d2, t2, os'⟩ := s'
    exact ⟨rv, mk_end (raises_own T.exC T.tyC) I1 up kk un2 hok2 os2 bare2 ea ed hd1 q2⟩
  | .ok .next, hq' => exact False.elim hq'
  | .ok .brk, hq' => exact False.elim hq'
  | .ok .cont, hq' => exact False.elim hq'
end
/-! ### the class as one fact -/
/-- an __init__ that keeps its arguments in the fields fs -/
def spXB (C : Addr) (fs : List Str) : Sp := fun vs H Q _ => ∃ a us, vs = .ref a :: us ∧ us.length = fs.length ∧ H a = some (exo a C none) ∧ ∀ dx, H dx = none → dx ≠ a → Q .non (upd (upd H dx (exd dx (fs.zip us).reverse)) a (exo a C (some dx)))
section
variable (P : Program) (w : World) (K : PySem.W.Frag) (mg : Str → Option Value) (base : Heap) (k : Nat)
structure XclB (x : Str) (C : Addr) (fs : List Str) : Prop where
  nf : ∀ f ∈ fs, PySem.W.findIn K (.ref C) f = some none
  mx : mg x = some (.ref C)
  ex : ∃ (B nI iI : String) (tl : List Value) (fI : Addr) (fd : FuncData) (ps : List Str), Bas B nI iI tl ∧ OexB K C nI tl ∧ PySem.W.findIn K (.ref C) "__init__" = some (some (.ref fI)) ∧ PySem.W.typeIn K (.ref fI) = some (.type "function") ∧ Binds K fd ps [] ∧ FnOk P w K mg base CX0 k fI fd ps (spXB C fs)
  xf : XfC K C
  ec : ExcC K C
end
section
variable {X : Cx} {k : Nat} {C : Addr} {x : Str} {fs : List Str} {W : WX} {e : Expr} {es : List Expr} {ta : TA} {p pos rpos : Pos}
theorem ps_raiseB (G : XclB X.prog X.w X.K X.mg X.base k x C fs) (hr : Room (k + 1) X.A) (tk : Takes X W) (ha : PA X (e :: es) ta) (hc : X.calm = true := by rfl) (hg : Gl X x := by rfl) (hdb : (x == ("__debug__" : Str)) = false := by decide)
    (se : starEach (e :: es) X.env = (false, eval e X.env) :: starEach es X.env := by rfl) (sn : (backTo pos (starEach es X.env)).any (·.1) = false := by rfl) :
    PS X (.Raise (some (.Call (.Name x p) (e :: es) [] pos)) none rpos) (fun _ σ H => tMkO C (spXB C fs) [] ta σ H fun cls d H' => W cls d σ H') := by
  obtain ⟨B, nI, iI, tl, fI, fd, ps, z, h0, h1, h2, h3, h4⟩ := G.ex
  exact ps_raise hc tk (pmk_oexB z h0 h1 h2 h4 hr h3 pass0 hg G.mx ha hdb se sn)
theorem raiseB_of {us : List V} {H : Hp} {Q : XK} (hl : us.length = fs.length) (h9 : us.length ≤ 1000) (h : ∀ d, H d = none → Q (.ref C) (some d) (upd H d (.xd (fs.zip us).reverse))) : us.length ≤ 1000 ∧ ∀ a, H a = none → spXB C fs (.ref a :: (us ++ [])) (upd H a (exo a C none))
    (fun z H2 => z = .non ∧ ∃ (d : Addr) (gs : List (Str × V)), H2 a = some (exo a C (some d)) ∧ H2 d = some (exd d gs) ∧ H d = none ∧ Q (.ref C) (some d) (upd (del H2 a) d (.xd gs))) (fun _ _ _ => False) := by
  refine ⟨h9, fun a ha => ⟨a, us, by rw [List.append_nil], hl, upd_same, fun dx hd ne => ⟨rfl, dx, (fs.zip us).reverse, upd_same, ?_, ?_, ?_⟩⟩⟩
  · rw [upd_ne ne, upd_same]
  · rw [upd_ne ne] at hd
    exact hd
  · rw [upd_ne ne] at hd
    have e : upd (del (upd (upd (upd H a (exo a C none)) dx (exd dx (fs.zip us).reverse)) a (exo a C (some dx))) a) dx (.xd (fs.zip us).reverse) = upd H dx (.xd (fs.zip us).reverse) := funext fun b => by
      by_cases h1 : b = dx
      · rw [h1, upd_same, upd_same]
      · rw [upd_ne h1, upd_ne h1]
        by_cases h2 : b = a
        · rw [h2, del_same, ha]
        · rw [del_ne h2, upd_ne h2, upd_ne h1, upd_ne h2]
    rw [e]
    exact h dx hd
end
/-! ### the __init__ with one field, with two -/
section
variable {P : Program} {w : World} {K : PySem.W.Frag} {mg : Str → Option Value} {base : Heap} {C f : Addr} {fd : FuncData} {nI iI : String} {tl : List Value}
theorem two_up {H : Hp} {a dx : Addr} {f1 f2 : Str} {v1 v2 : V} (ne : dx ≠ a) : upd (upd (upd H dx (exd dx [(f1, v1)])) a (exo a C (some dx))) dx (exd dx [(f2, v2), (f1, v1)]) = upd (upd H dx (exd dx [(f2, v2), (f1, v1)])) a (exo a C (some dx)) := funext fun b => by
  by_cases h1 : b = dx
  · rw [h1, upd_same, upd_ne ne, upd_same]
  · rw [upd_ne h1]
    by_cases h2 : b = a
    · rw [h2, upd_same, upd_same]
    · rw [upd_ne h2, upd_ne h2, upd_ne h1, upd_ne h1]
end
/-! ### tests -/
def oexBB (nI : String) (tl : List Value) (K : PySem.W.Frag) (C : Addr) : Bool := PySem.W.excInitIn K C tl nI && (PySem.W.excOver K C tl && (PySem.W.hasDictIn K C && (He.eqO (PySem.W.findIn K (.ref C) "__setattr__") (some (some (.builtin "object.__setattr__"))) && (decide (PySem.W.subIn K (.ref C) (.type "BaseException") = some true) && (decide (PySem.W.typeIn K (.ref C) = some (.type "type")) && PySem.W.keepIn K (.ref C))))))
theorem oexBB_ok {nI : String} {tl : List Value} {K : PySem.W.Frag} {C : Addr} (c : oexBB nI tl K C = true) : OexB K C nI tl := by
  obtain ⟨c1, c⟩ := He.ba c
  obtain ⟨c2, c⟩ := He.ba c
  obtain ⟨c3, c⟩ := He.ba c
  obtain ⟨c4, c⟩ := He.ba c
  obtain ⟨c5, c⟩ := He.ba c
  obtain ⟨c6, c7⟩ := He.ba c
  exact ⟨c1, c2, c3, He.eqO_ok c4, of_decide_eq_true c5, of_decide_eq_true c6, c7⟩
/-- all that is asked of an own error class x over the built-in with nI, tl; its fields are fs -/
def fXb (x : Str) (nI : String) (tl : List Value) (fs : List Str) : Ft := fun K => oexBB nI tl K (He.ga K x) && ((fs.all fun f => He.eqO (PySem.W.findIn K (.ref (He.ga K x)) f) (some none)) && (He.eqO (PySem.W.findIn K (.ref (He.ga K x)) "__init__") (some (some (.ref (mA x "__init__" K)))) && (decide (PySem.W.typeIn K (.ref (mA x "__init__" K)) = some (.type "function")) &&
  (xfB K (He.ga K x) && (He.eqO (PySem.W.findIn K (.ref (He.ga K x)) "__class__") (some (some (.builtin "object.__class__"))) && (He.eqO (PySem.W.specialIn K (.builtin "object.__class__") "__get__") (some (some (.builtin "getset_descriptor.__get__"))) && (decide (PySem.W.takesIn K (.builtin "object.__class__") = some true) && decide (PySem.W.mroIn K (He.ga K x) (.type "object") = some true))))))))
theorem fXb_pre {x : Str} {nI : String} {tl : List Value} {fs : List Str} {K : PySem.W.Frag} (c : fXb x nI tl fs K = true) : OexB K (He.ga K x) nI tl ∧ ∀ f ∈ fs, PySem.W.findIn K (.ref (He.ga K x)) f = some none := by
  obtain ⟨c1, c⟩ := He.ba c
  obtain ⟨c2, _⟩ := He.ba c
  exact ⟨oexBB_ok c1, fun f hf => He.eqO_ok (List.all_eq_true.mp c2 f hf)⟩
theorem fXb_ok {P : Program} {w : World} {K : PySem.W.Frag} {mg : Str → Option Value} {base : Heap} {k : Nat} {x : Str} {B nI iI : String} {tl : List Value} {fs : List Str} {fd : FuncData} {ps : List Str} (Z : Bas B nI iI tl) (c : fXb x nI tl fs K = true) (hm : mg x = some (.ref (He.ga K x))) (Bd : Binds K fd ps []) (F : FnOk P w K mg base CX0 k (mA x "__init__" K) fd ps (spXB (He.ga K x) fs)) :
    XclB P w K mg base k x (He.ga K x) fs := by
  obtain ⟨h1, h2⟩ := fXb_pre c
  obtain ⟨_, c⟩ := He.ba c
  obtain ⟨_, c⟩ := He.ba c
  obtain ⟨c3, c⟩ := He.ba c
  obtain ⟨c4, c⟩ := He.ba c
  obtain ⟨c5, c⟩ := He.ba c
  obtain ⟨c6, c⟩ := He.ba c
  obtain ⟨c7, c⟩ := He.ba c
  obtain ⟨c8, c9⟩ := He.ba c
  have xf := xfB_ok c5
  exact ⟨h2, hm, ⟨B, nI, iI, tl, _, fd, ps, Z, h1, He.eqO_ok c3, of_decide_eq_true c4, Bd, F⟩, xf, ⟨xf.ga, xf.gg, xf.exC, xf.hdC, He.eqO_ok c6, He.eqO_ok c7, of_decide_eq_true c8, of_decide_eq_true c9⟩⟩
/-- the built-in's __init__ -/
def fBi (B iI : String) : Ft := fun K => match PySem.W.findCls K (.type B) (.type "type") "__init__" with
  | some (.val (.builtin n)) => n == iI
  | _ => false
theorem fBi_ok {B iI : String} {K : PySem.W.Frag} (c : fBi B iI K = true) : PySem.W.findCls K (.type B) (.type "type") "__init__" = some (.val (.builtin iI)) := by
  unfold fBi at c
  split at c
  · rename_i n e
    rw [e, beq_iff_eq.mp c]
  · cases c
end LL

set_option Elab.async false
set_option linter.all false
set_option maxRecDepth 100000
set_option maxHeartbeats 2000000
/-! LLMeth: len of an own object; a class held by a local name; classmethods. -/
namespace LL
open PySem PySem.Spec PyProof.Rows L2
section
variable {X : Cx} {CX : CXT} {k : Nat} {C f : Addr} {fd : FuncData} {ps : List Str} {sp : Sp} {E : XK}
def rLenO (C : Addr) (sp : Sp) (E : XK) : List V → Hp → VK → Prop := fun xs H Q => ∃ a dx fs, xs = [.ref a] ∧ H a = some (.ins C dx fs) ∧ sp [.ref a] H (fun z H' => ∃ n : Nat, z = .int (n : Nat) ∧ n ≤ 100000 ∧ Q z H') E
theorem call_lenO (G : SpF X.prog X.w X.K X.mg X.base CX k C "__len__" sp) (hr : Rm (k + 1) X.A) (hx : Passes CX X E) : CallR X (.builtin "len") (rLenO C sp E) := by
  obtain ⟨f, fd, ps, hs, hf, hb, F⟩ := G.ex
  intro pins s σ H xs us Q I r h
  obtain ⟨a, dx, fs, rfl, ha, q⟩ := h
  obtain ⟨u, rfl, ru⟩ := r.one
  cases (show u = Value.ref a from ru)
  obtain ⟨od, J⟩ := inst_of I ha
  obtain ⟨m, hF⟩ := I.fr
  refine PySem.W.len_K hF I.ok.mod.kin J hs hf (thn (run_g (us := [.ref a]) (vs := [.ref a]) (dvs := []) F hr.in1 I.env0.in1 hb .nil hx I (.cons rfl .nil) q) fun w s' z => ?_)
  obtain ⟨z', H', I', rz, n, rfl, hn, qz⟩ := z
  obtain ⟨t, rfl⟩ := (show ∃ t, w = Value.int (n : Nat) t from rz)
  exact ⟨⟨by omega, by omega⟩, .int (n : Nat), H', I'.tok _, ⟨_, rfl⟩, qz⟩
/-- the class at C, made -/
structure MkC (P : Program) (w : World) (K : PySem.W.Frag) (mg : Str → Option Value) (base : Heap) (CX : CXT) (k : Nat) (C : Addr) (sp : Sp) : Prop where
  ex : ∃ (x : Str) (dvs : List V) (si : Sp), Mkr P w K mg base CX k x C dvs si ∧ ∀ vs H Q E, sp vs H Q E → ∀ a dx, H a = none → H dx = none → dx ≠ a → si (.ref a :: (vs ++ dvs)) (upd (upd H dx (.own a)) a (.ins C dx [])) (fun v H2 => v = .non ∧ Q (.ref a) H2) E
def tMkL (i : Nat) (C : Addr) (sp : Sp) (E : XK) (t : TA) : TE := fun σ H Q => σ[i]? = some (some (.ref C)) ∧ t σ H fun vs H1 => sp vs H1 Q E
theorem pe_mkL {i : Nat} {x : Str} {p pos : Pos} {e : Expr} {es : List Expr} {t : TA} (G : MkC X.prog X.w X.K X.mg X.base CX k C sp) (hr : Rm (k + 1) X.A) (hx : Passes CX X E) (hN : X.N[i]? = some x) (hv : Vis X.env.scope x) (ha : PA X (e :: es) t)
    (hdb : (x == ("__debug__" : Str)) = false := by decide) (hcd : (x == ("__classdict__" : Str)) = false := by decide)
    (he : starEach (e :: es) X.env = (false, eval e X.env) :: starEach es X.env := by rfl) (hpl : (backTo pos (starEach es X.env)).any (·.1) = false := by rfl) : PE X (.Call (.Name x p) (e :: es) [] pos) (tMkL i C sp E t) := by
  obtain ⟨y, dvs, si, ⟨f, fd, ps, ds, M, hm, hb, hd, F⟩, conv⟩ := G.ex
  refine ⟨fun pins s σ H Q I h => ?_⟩
  obtain ⟨hs, ht⟩ := h
  refine wpAny_Call_Name_kw (thn ((pe_var (pos := p) hN hv hdb hcd).run pins s σ H (fun v H1 => v = .ref C ∧ H1 = H) I ⟨.ref C, hs, rfl, rfl⟩) fun u s1 ⟨v, H1, I1, r1, q1⟩ => ?_)
  obtain ⟨rfl, rfl⟩ := q1
  cases r1
  refine PySem.W.callWith_K (h₀ := X.base) I.ok.mod.kin M.kp (thn (ha.run pos pins s1 σ _ _ I1 ht) fun us s2 ⟨vs, H2, I2, r, q⟩ => ⟨I2.kIn, ?_⟩) he hpl
  exact run_makeG M F hr hb hd hx I2 r (conv vs H2 Q E q)
/-- C.m is a classmethod -/
structure Cmt (P : Program) (w : World) (K : PySem.W.Frag) (mg : Str → Option Value) (base : Heap) (CX : CXT) (k : Nat) (C : Addr) (m : Str) (sp : Sp) : Prop where
  rd : ClX.CRead K C (.type "type")
  ex : ∃ (p g : Addr) (fd : FuncData) (ps : List Str), ClX.CMet K C (.type "type") m p g ∧ Binds K fd ps [] ∧ FnG P w K mg base CX k g fd ps sp
theorem run_gC {pins : List (Addr × Obj)} {σ : L2.St} {H : Hp} {s : Shared} {Q : VK} {us : List Value} {vs : List V} {A : Around} (F : FnG X.prog X.w X.K X.mg X.base CX k f fd ps sp) (hr : Rm k A) (e0 : Env0 X.prog X.w X.K X.mg X.base A X.stack s H) (hb : Binds X.K fd ps []) (hx : Passes CX X E)
    (I : Inv X pins σ H s) (r : Vals vs us) (h : sp vs H Q E) : codeAny (model X.prog X.w) A (.call (.ref f) ⟨us, []⟩) (fun r s' => match r with | .ok (.ret v) => EP X pins σ Q v s' | .ok _ => False | .error e => X.xe e s') s := by
  have hl : (us ++ []).length = ps.length := by
    rw [List.append_nil, ← F.len _ _ _ _ h]
    exact r.length.symm
  have b := hb s us I.kIn hl
  rw [List.append_nil] at b
  have go := F.run A X.stack s H ⟨us, []⟩ us vs Q E hr e0 b r h
  refine codeAny_mono go fun r s' hq => ?_
  match r, hq with
  | .error er, hq => exact hx pins σ H s er s' I hq
  | .ok (.ret u), hq => exact I.after hq
  | .ok .next, hq => exact False.elim hq
  | .ok .brk, hq => exact False.elim hq
  | .ok .cont, hq => exact False.elim hq
theorem pe_cm {o e : Expr} {es : List Expr} {m : Str} {pos apos : Pos} {ta : TE} {t : TA} {pl : Sem Bool} (he : PE X o ta) (G : Cmt X.prog X.w X.K X.mg X.base CX k C m sp) (hr : Rm k X.A) (hx : Passes CX X E) (ha : PA X (e :: es) t)
    (hst : starEach (e :: es) X.env = (false, eval e X.env) :: starEach es X.env := by rfl) (hpl : (backTo pos (starEach es X.env)).any (·.1) = false := by rfl)
    (ht : eval (.Call (.Attribute o m apos) (e :: es) [] pos) X.env = (do
      let ov ← eval o X.env
      standAt apos.atName
      let (f, first) ← holding [ov] (getMethod ov m pl)
      callWith pos f first (backTo pos (starEach (e :: es) X.env)) (backToKw pos (keywordEach [] X.env))) := by rfl) :
    PE X (.Call (.Attribute o m apos) (e :: es) [] pos) (ClX.tCMeth C sp E ta t) := by
  obtain ⟨p, g, fd, ps, c, hb, F⟩ := G.ex
  refine ⟨fun pins s σ H Q I h => ?_⟩
  refine PySem.W.methodCall_KW (pl := pl) (thn (he.run pins s σ H _ I h) fun u s1 ⟨x, H1, I1, rx, ex, q⟩ => ?_) ht
  subst ex
  obtain rfl : u = Value.ref C := rx
  refine ClX.getmethcm_ok I1 G.rd c fun s2 I2 => ?_
  refine ClX.callwith_cm I2 (ClX.base_none I1 (Nat.le_refl _)) c.fi (thn (ha.run pos _ s2 σ H1 _ I2 q) fun us s3 ⟨vs, H2, I3, rv, q2⟩ => ⟨⟨ClX.pin_at I3, I3.kIn⟩, ?_⟩) hst hpl
  refine thn (wpAny_call (PySem.W.method_call (ClX.pin_at I3) (run_gC (us := .ref C :: us) (vs := .ref C :: vs) F hr I3.env0 hb hx I3 (.cons rfl rv) q2))) fun _ _ y => ClX.unpinE y
end
end LL

set_option Elab.async false
set_option linter.all false
set_option maxRecDepth 100000
set_option maxHeartbeats 2000000
/-! LLOwnT: x op y, y an instance of another own class that has the operator as a def, too. -/
namespace PySem.W
open PySem PySem.Calls PyProof.Rows
section
variable {prog : Program} {w : World} {A : Around} {E : Value → Shared → Prop} {s : Shared} {K : Frag} {x C D L f g : Addr} {h₀ : Heap} {m : Str → Option Value} {ox : Obj} {od : Option Obj}
theorem bin_other {op : Operator} {b : Value} {Q : Value → Shared → Prop} (F : Fr h₀ L s.heap m) (X₀ : K.In h₀) (I : InstAt s.heap x ox C od) (hb : Looks (model prog w) s.heap (typeOf b) (.ref D)) (c1 : selfFirst K C = true) (d1 : selfFirst K D = true)
    (cs : findIn K (.ref C) (PySem.dunder op.info.2) = some (some (.ref f))) (cf : isFn K (.ref f) = true) (cr : findIn K (.ref C) (dunderR op.info.2) = some none) (ds : findIn K (.ref D) (PySem.dunder op.info.2) = some (some (.ref g))) (dr : findIn K (.ref D) (dunderR op.info.2) = some none)
    (sub : subIn K (.ref D) (.ref C) = some false) (ne : (Value.ref C == Value.ref D) = false) (h : wpAny (model prog w) A (call (.ref f) [.ref x, b]) (CmpBack Q) E s) : wpAny (model prog w) A (binaryOp op (.ref x) b) Q E s := by
  have X := X₀.keeps F.keep
  obtain ⟨cc, rc, c2, c3⟩ := ksp_first c1
  obtain ⟨cd, rd, d2, d3⟩ := ksp_first d1
  rcases hi : op.info with ⟨sym, nm⟩
  rw [hi] at cs cr ds dr
  dsimp only at cs cr ds dr
  have one := ksp_try X I cs cf h
  obtain ⟨hh, gn, dw, tt, os⟩ := s
  have l1 : Looks (model prog w) hh (typeOf (.ref x)) (.ref C) := I.type
  have l2 : Looks (model prog w) hh (typeOf b) (.ref D) := hb
  have l3 : Looks (model prog w) hh (fillsNumberSlot (.ref C) nm) true := fills_K X c2 c3 cs
  have l4 : Looks (model prog w) hh (fillsNumberSlot (.ref D) nm) true := fills_K X d2 d3 ds
  have l5 : Looks (model prog w) hh (isSubtype (.ref D) (.ref C)) false := looks_subIn X sub
  have l6 : Looks (model prog w) hh (numberSlotInPython (.ref C) nm) true := ksp_inPy X cs cr (.inl rfl)
  have l7 : Looks (model prog w) hh (numberSlotInPython (.ref D) nm) true := ksp_inPy X ds dr (.inl rfl)
  simp only [binaryOp, hi]
  refine wpAny_holding (wpAny_bind ?_)
  unfold binaryOp1
  refine wpAny_bind (l1.at (wpAny_bind (l2.at (wpAny_bind (l3.at ?_)))))
  simp only [ne, Bool.false_eq_true, if_false]
  ksp_lk
  refine wpAny_mono one (fun r s' hr' => ?_) fun _ _ e => e
  obtain ⟨v, rfl, hq⟩ := hr'
  ksp_lk
  exact hq
end
end PySem.W
namespace LL
open PySem PySem.Spec PyProof.Rows L2
section
variable {X : Cx} {CX : CXT} {k : Nat} {f C D : Addr} {fd : FuncData} {ps : List Str} {sp : Sp} {E : XK}
/-- .. asked with an instance of the class at D at the right -/
structure OpOth (K : PySem.W.Frag) (C D : Addr) (op : Operator) : Prop where
  first : PySem.W.selfFirst K D = true
  back : PySem.W.findIn K (.ref C) (PySem.dunderR op.info.2) = some none
  dat : ∃ g : Addr, PySem.W.findIn K (.ref D) (PySem.dunder op.info.2) = some (some (.ref g))
  dback : PySem.W.findIn K (.ref D) (PySem.dunderR op.info.2) = some none
  sub : PySem.W.subIn K (.ref D) (.ref C) = some false
  ne : (Value.ref C == Value.ref D) = false
/-- x op y: y of the class at C or at D, or an int -/
def rBinT (C D : Addr) (sp : Sp) (E : XK) : R2 := fun x y H Q => ∃ a dx fs, x = .ref a ∧ H a = some (.ins C dx fs) ∧ ((∃ b dy gs, y = .ref b ∧ H b = some (.ins C dy gs)) ∨ (∃ b dy gs, y = .ref b ∧ H b = some (.ins D dy gs)) ∨ ∃ i, y = .int i) ∧ sp [x, y] H Q E
structure OpT (P : Program) (w : World) (K : PySem.W.Frag) (mg : Str → Option Value) (base : Heap) (CX : CXT) (k : Nat) (C D : Addr) (op : Operator) (sp : Sp) : Prop where
  o : OpF P w K mg base CX k C op sp
  t : OpOth K C D op
theorem op_binT {op : Operator} (O : OpT X.prog X.w X.K X.mg X.base CX k C D op sp) (hr : Rm k X.A) (hx : Passes CX X E) : OpR X (binaryOp op) (rBinT C D sp E) := by
  obtain ⟨f, fd, ps, o1, o2, hb, F⟩ := O.o.ex
  have t := O.t
  intro pins s σ H x y v u Q I rx ry h
  obtain ⟨a, dx, fs, rfl, ha, hy, q⟩ := h
  rcases hy with hy | ⟨b, dy, gs, rfl, hb'⟩ | hy
  · exact op_binF O.o hr hx pins s σ H _ y v u Q I rx ry ⟨a, dx, fs, rfl, ha, .inl hy, q⟩
  · cases (show v = Value.ref a from rx)
    cases (show u = Value.ref b from ry)
    obtain ⟨od, J⟩ := inst_of I ha
    obtain ⟨od', J'⟩ := inst_of I hb'
    obtain ⟨m, hF⟩ := I.fr
    obtain ⟨g, dg⟩ := t.dat
    refine PySem.W.bin_other hF I.ok.mod.kin J J'.type o1.first t.first o1.at_ o1.fn t.back dg t.dback t.sub t.ne ?_
    refine thn (run_g (us := [.ref a, .ref b]) (vs := [.ref a, .ref b]) (dvs := []) F hr I.env0 hb .nil hx I (.cons rfl (.cons rfl .nil)) (by rw [List.append_nil]; exact q)) fun w s' z => ?_
    obtain ⟨z', H', I', rz, qz⟩ := z
    exact SlX.cmpback rz ⟨z', H', I', rz, qz⟩
  · exact op_binF O.o hr hx pins s σ H _ y v u Q I rx ry ⟨a, dx, fs, rfl, ha, .inr hy, q⟩
end
def fOpOth (x y : Str) (op : Operator) : Ft := fun K => PySem.W.selfFirst K (He.ga K y) && (He.eqO (PySem.W.findIn K (.ref (He.ga K x)) (PySem.dunderR op.info.2)) (some none) && (He.eqO (PySem.W.findIn K (.ref (He.ga K y)) (PySem.dunder op.info.2)) (some (some (.ref (mA y (PySem.dunder op.info.2) K)))) && (He.eqO (PySem.W.findIn K (.ref (He.ga K y)) (PySem.dunderR op.info.2)) (some none) && (decide (PySem.W.subIn K (.ref (He.ga K y)) (.ref (He.ga K x)) = some false) && !(Value.ref (He.ga K x) == Value.ref (He.ga K y))))))
theorem fOpOth_ok {K : PySem.W.Frag} {x y : Str} {op : Operator} (h : fOpOth x y op K = true) : OpOth K (He.ga K x) (He.ga K y) op := by
  obtain ⟨c1, c⟩ := He.ba h
  obtain ⟨c2, c⟩ := He.ba c
  obtain ⟨c3, c⟩ := He.ba c
  obtain ⟨c4, c⟩ := He.ba c
  obtain ⟨c5, c6⟩ := He.ba c
  exact ⟨c1, He.eqO_ok c2, ⟨_, He.eqO_ok c3⟩, He.eqO_ok c4, of_decide_eq_true c5, by simpa using c6⟩
end LL

set_option Elab.async false
set_option linter.all false
set_option maxRecDepth 100000
set_option maxHeartbeats 2000000
/-! LLExo: an own error class without an __init__ of its own, raised with a text. -/
namespace LL
open PySem PySem.Spec PyProof.Rows L2
structure XclO (K : PySem.W.Frag) (mg : Str → Option Value) (x : Str) (C : Addr) : Prop where
  ex : ∃ (B newId initId : String) (bmB : List Value), ExcBaseFacts B newId initId bmB ∧ PySem.W.excIn K C bmB newId = true
  mx : mg x = some (.ref C)
  kC : PySem.W.keepIn K (.ref C) = true
  sb : PySem.W.subIn K (.ref C) (.type "BaseException") = some true
  ty : PySem.W.typeIn K (.ref C) = some (.type "type")
theorem ps_raiseO {X : Cx} {C : Addr} {x m : Str} {W : WX} {j : Nat} {p p2 pos rpos : Pos} (G : XclO X.K X.mg x C) (tk : Takes X W) (hc : X.calm = true := by rfl) (hg : Gl X x := by rfl) (hdb : (x == ("__debug__" : Str)) = false := by decide) :
    PS X (.Raise (some (.Call (.Name x p) [.Constant (.str m) j p2] [] pos)) none rpos) (fun _ σ H => W (.ref C) none σ H) := by
  obtain ⟨B, n, i, bm, F, q⟩ := G.ex
  exact ps_raise hc tk (pmk_own F q G.mx G.kC (raises_own G.sb G.ty) hg hdb)
/-- isinstance(e, c) in a suite, the error without a dict of its own -/
def rIsE (K : PySem.W.Frag) (D a : Addr) (cls : Value) (d : Option Addr) : List V → Hp → VK → Prop := fun xs H Q => ∃ (c : V) (cv : Value) (b : Bool), xs = [.ref a, c] ∧ (∀ u, RelV c u → u = cv) ∧ cls = .ref D ∧ d = none ∧ PySem.W.kitOne K (.ref D) cv = some b ∧ Q (.bl b) H
theorem call_isE {X : Cx} {a D : Addr} {oe : Obj} {cls : Value} {d : Option Addr} {pn : List (Addr × Obj)} (C : ExcC X.K D) (hz : Zc cls d oe) (hf : ∃ vs, oe.data = .fields vs) : CallR (X.suite a ((a, oe) :: pn)) (.builtin "isinstance") (rIsE X.K D a cls d) := by
  intro pins s σ H xs us Q I r h
  obtain ⟨c, cv, b, rfl, hcv, rfl, rfl, e, q⟩ := h
  cases r with
  | cons rx rr =>
    cases rr with
    | cons rt rr =>
      cases rr
      cases rx
      cases hcv _ rt
      obtain ⟨at_, _⟩ := I.pin (a, oe) (List.mem_append.mpr (.inl List.mem_cons_self))
      obtain ⟨vs, hv⟩ := hf
      have J : PySem.W.InstAt s.heap a oe D none := ⟨at_, hz.1, by unfold PySem.W.notCls; rw [hv] <;> rfl, by rw [hz.2]; trivial⟩
      exact PySem.W.kia_one (kitE C) I.kIn ⟨_, J⟩ e (fun z => nomatch z) fun tk => ⟨.bl b, H, I.kept (t' := tk) fun _ _ z => z, rfl, q⟩
end LL

set_option Elab.async false
set_option linter.all false
set_option maxRecDepth 100000
set_option maxHeartbeats 2000000
/-! LLOwnA: x op y, x an instance of an own class, y of any built-in's type. -/
namespace PySem.W
open PySem PySem.Calls PyProof.Rows
section
variable {prog : Program} {w : World} {A : Around} {E : Value → Shared → Prop} {s : Shared} {K : Frag} {x C L f : Addr} {h₀ : Heap} {m : Str → Option Value} {ox : Obj} {od : Option Obj} {T : String}
theorem bin_any {op : Operator} {b : Value} {fo ro : Option Value} {Q : Value → Shared → Prop} (F : Fr h₀ L s.heap m) (X₀ : K.In h₀) (I : InstAt s.heap x ox C od) (hb : Looks (model prog w) s.heap (typeOf b) (.type T)) (c1 : selfFirst K C = true)
    (cs : findIn K (.ref C) (PySem.dunder op.info.2) = some (some (.ref f))) (cf : isFn K (.ref f) = true) (cr : findIn K (.ref C) (dunderR op.info.2) = some none) (t1 : findIn K (.type T) (PySem.dunder op.info.2) = some fo) (t2 : findIn K (.type T) (dunderR op.info.2) = some ro) (sub : subIn K (.type T) (.ref C) = some false)
    (h : wpAny (model prog w) A (call (.ref f) [.ref x, b]) (CmpBack Q) E s) : wpAny (model prog w) A (binaryOp op (.ref x) b) Q E s := by
  have X := X₀.keeps F.keep
  obtain ⟨cc, rc, c2, c3⟩ := ksp_first c1
  rcases hi : op.info with ⟨sym, nm⟩
  rw [hi] at cs cr t1 t2
  dsimp only at cs cr t1 t2
  have one := ksp_try X I cs cf h
  obtain ⟨hh, gn, dw, tt, os⟩ := s
  have l1 : Looks (model prog w) hh (typeOf (.ref x)) (.ref C) := I.type
  have l2 : Looks (model prog w) hh (typeOf b) (.type T) := hb
  have l3 : Looks (model prog w) hh (fillsNumberSlot (.ref C) nm) true := fills_K X c2 c3 cs
  have l4 : Looks (model prog w) hh (fillsNumberSlot (.type T) nm) ((fo.isSome && !isSeqSlot fo) || (ro.isSome && !isSeqSlot ro)) := ksp_fillsT X t1 t2
  have l5 : Looks (model prog w) hh (isSubtype (.type T) (.ref C)) false := looks_subIn X sub
  have l6 : Looks (model prog w) hh (numberSlotInPython (.ref C) nm) true := ksp_inPy X cs cr (.inl rfl)
  have l7 : Looks (model prog w) hh (numberSlotInPython (.type T) nm) false := Looks.of_pure rfl
  have l8 : Looks (model prog w) hh (typeLookup (.type T) (dunderR nm)) ro := looks_findIn X t2
  have ne : (Value.ref C == Value.type T) = false := Bool.eq_false_iff.mpr fun q => by cases beq_iff_eq.mp q
  obtain ⟨right, hright⟩ : ∃ r, ((fo.isSome && !isSeqSlot fo) || (ro.isSome && !isSeqSlot ro)) = r := ⟨_, rfl⟩
  rw [hright] at l4
  simp only [binaryOp, hi]
  refine wpAny_holding (wpAny_bind ?_)
  unfold binaryOp1
  refine wpAny_bind (l1.at (wpAny_bind (l2.at (wpAny_bind (l3.at ?_)))))
  simp only [ne, Bool.false_eq_true, if_false]
  cases right <;>
  · ksp_lk
    refine wpAny_mono one (fun r s' hr' => ?_) fun _ _ e => e
    obtain ⟨v, rfl, hq⟩ := hr'
    ksp_lk
    exact hq
end
end PySem.W
namespace LL
open PySem PySem.Spec PyProof.Rows L2
/-- .. asked with a value of the built-in type T at the right -/
structure OpTy (K : PySem.W.Frag) (C : Addr) (op : Operator) (T : String) : Prop where
  back : PySem.W.findIn K (.ref C) (PySem.dunderR op.info.2) = some none
  io : ∃ fo, PySem.W.findIn K (.type T) (PySem.dunder op.info.2) = some fo
  ir : ∃ ro, PySem.W.findIn K (.type T) (PySem.dunderR op.info.2) = some ro
  sub : PySem.W.subIn K (.type T) (.ref C) = some false
section
variable {X : Cx} {CX : CXT} {k : Nat} {f C D : Addr} {fd : FuncData} {ps : List Str} {sp : Sp} {E : XK}
def rBinA (K : PySem.W.Frag) (C : Addr) (op : Operator) (sp : Sp) (E : XK) : R2 := fun x y H Q => ∃ a dx fs T, x = .ref a ∧ H a = some (.ins C dx fs) ∧ TyX K H y (.type T) ∧ OpTy K C op T ∧ sp [x, y] H Q E
theorem op_binA {op : Operator} (O : OpF X.prog X.w X.K X.mg X.base CX k C op sp) (hr : Rm k X.A) (hx : Passes CX X E) : OpR X (binaryOp op) (rBinA X.K C op sp E) := by
  obtain ⟨f, fd, ps, o1, o2, hb, F⟩ := O.ex
  intro pins s σ H x y v u Q I rx ry h
  obtain ⟨a, dx, fs, T, rfl, ha, ty, t, q⟩ := h
  cases (show v = Value.ref a from rx)
  obtain ⟨od, J⟩ := inst_of I ha
  obtain ⟨m, hF⟩ := I.fr
  obtain ⟨P, Z, hp, _⟩ := kit_of I ry ty
  obtain ⟨fo, h1⟩ := t.io
  obtain ⟨ro, h2⟩ := t.ir
  refine PySem.W.bin_any hF I.ok.mod.kin J (Z.ty _ _ I.kIn hp) o1.first o1.at_ o1.fn t.back h1 h2 t.sub ?_
  refine thn (run_g (us := [.ref a, u]) (vs := [.ref a, y]) (dvs := []) F hr I.env0 hb .nil hx I (.cons rfl (.cons ry .nil)) (by rw [List.append_nil]; exact q)) fun w s' z => ?_
  obtain ⟨z', H', I', rz, qz⟩ := z
  exact SlX.cmpback rz ⟨z', H', I', rz, qz⟩
end
end LL

set_option Elab.async false
set_option linter.all false
set_option maxRecDepth 100000
set_option maxHeartbeats 2000000
/-! LLFx: tests of the head: an error class without an __init__, an own operator with built-in values at the right. -/
namespace LL
open PySem PySem.Spec PyProof.Rows L2
def fXo (x : Str) (nI : String) (tl : List Value) : Ft := fun K => PySem.W.excIn K (He.ga K x) tl nI && (PySem.W.keepIn K (.ref (He.ga K x)) && (decide (PySem.W.subIn K (.ref (He.ga K x)) (.type "BaseException") = some true) && (decide (PySem.W.typeIn K (.ref (He.ga K x)) = some (.type "type")) &&
  (xfB K (He.ga K x) && (He.eqO (PySem.W.findIn K (.ref (He.ga K x)) "__class__") (some (some (.builtin "object.__class__"))) && (He.eqO (PySem.W.specialIn K (.builtin "object.__class__") "__get__") (some (some (.builtin "getset_descriptor.__get__"))) && (decide (PySem.W.takesIn K (.builtin "object.__class__") = some true) && decide (PySem.W.mroIn K (He.ga K x) (.type "object") = some true))))))))
theorem fXo_ok {B nI iI : String} {tl : List Value} {K : PySem.W.Frag} {mg : Str → Option Value} {x : Str} (Z : Bas B nI iI tl) (c : fXo x nI tl K = true) (hm : mg x = some (.ref (He.ga K x))) : XclO K mg x (He.ga K x) ∧ ExcC K (He.ga K x) := by
  obtain ⟨c1, c⟩ := He.ba c
  obtain ⟨c2, c⟩ := He.ba c
  obtain ⟨c3, c⟩ := He.ba c
  obtain ⟨c4, c⟩ := He.ba c
  obtain ⟨c5, c⟩ := He.ba c
  obtain ⟨c6, c⟩ := He.ba c
  obtain ⟨c7, c⟩ := He.ba c
  obtain ⟨c8, c9⟩ := He.ba c
  have xf := xfB_ok c5
  exact ⟨⟨⟨B, nI, iI, tl, Z.eb, c1⟩, hm, c2, of_decide_eq_true c3, of_decide_eq_true c4⟩, ⟨xf.ga, xf.gg, xf.exC, xf.hdC, He.eqO_ok c6, He.eqO_ok c7, of_decide_eq_true c8, of_decide_eq_true c9⟩⟩
abbrev tArith : List Value := [.type "ArithmeticError", .type "Exception", .type "BaseException", .type "object"]
def fOpTy (x : Str) (op : Operator) (T : String) : Ft := fun K => He.eqO (PySem.W.findIn K (.ref (He.ga K x)) (PySem.dunderR op.info.2)) (some none) && ((PySem.W.findIn K (.type T) (PySem.dunder op.info.2)).isSome && ((PySem.W.findIn K (.type T) (PySem.dunderR op.info.2)).isSome && decide (PySem.W.subIn K (.type T) (.ref (He.ga K x)) = some false)))
theorem fOpTy_ok {x : Str} {op : Operator} {T : String} {K : PySem.W.Frag} (c : fOpTy x op T K = true) : OpTy K (He.ga K x) op T := by
  obtain ⟨c1, c⟩ := He.ba c
  obtain ⟨c2, c⟩ := He.ba c
  obtain ⟨c3, c4⟩ := He.ba c
  exact ⟨He.eqO_ok c1, Option.isSome_iff_exists.mp c2, Option.isSome_iff_exists.mp c3, of_decide_eq_true c4⟩
end LL

set_option Elab.async false
set_option linter.all false
set_option maxRecDepth 100000
set_option maxHeartbeats 0
/-! the run of the head, ahead of the rest. -/
namespace K12
open PySem PySem.Spec PyProof.Rows L2 LL
def topR (i : Nat) : Stmt := PySem.Challenge.pw_leastlog_k12_amounts_refused.main.body.getD i (.Pass ⟨0, 0, 0, 0⟩)
abbrev r_is_integer : Stmt := topR 10
abbrev r_common_divisor : Stmt := topR 11
abbrev r_as_amount : Stmt := topR 14
abbrev r_is_amount : Stmt := topR 13
abbrev r_is_symbol : Stmt := topR 19
abbrev r_require_symbol : Stmt := topR 20
abbrev r_are_terms : Stmt := topR 21
abbrev r_term_text : Stmt := topR 24
abbrev r_form_text : Stmt := topR 25
abbrev r_l_pot : Stmt := topR 27
abbrev r_l_digit : Stmt := topR 28
abbrev r_l_pick : Stmt := topR 29
abbrev r_l_odd : Stmt := topR 30
abbrev r_l_refused : Stmt := topR 31
abbrev r_l_part : Stmt := topR 32
abbrev r_l_made_right : Stmt := topR 33
abbrev r_l_signs_right : Stmt := topR 34
abbrev r_l_right : Stmt := topR 35
abbrev r_law : Stmt := topR 36
abbrev r_Amountinit : Stmt := inClass (topR 12) 0
abbrev r_Forminit : Stmt := inClass (topR 22) 0
abbrev r_Amountadd : Stmt := inClass (topR 12) 4
abbrev r_Amountsub : Stmt := inClass (topR 12) 5
abbrev r_Amountmul : Stmt := inClass (topR 12) 6
abbrev r_Amountneg : Stmt := inClass (topR 12) 7
abbrev r_Amount_over : Stmt := inClass (topR 12) 8
abbrev r_Amount_below : Stmt := inClass (topR 12) 9
abbrev r_Amounteq : Stmt := inClass (topR 12) 10
abbrev r_Amountstr : Stmt := inClass (topR 12) 11
abbrev r_Amountrepr : Stmt := inClass (topR 12) 12
abbrev r_Formrepr : Stmt := inClass (topR 22) 17
abbrev r_InvalidAmountinit : Stmt := inClass (topR 3) 0
abbrev r_Amount_sign : Stmt := inClass (topR 12) 3
abbrev r_Form_of : Stmt := inClass (topR 22) 1
def cmA (x m : Str) : PySem.W.Frag → Addr := fun K => He5.wf K (He.ga K x) "classmethod" m
def fRd (x : Str) : Ft := fun K => PySem.W.readsIn K (He.ga K x) (.type "type") && He.eqO (PySem.W.specialIn K (.ref (He.ga K x)) "__getattribute__") (some (some (.builtin "type.__getattribute__")))
def fCm (x m : Str) : Ft := fun K => He5.wrapB K (He.ga K x) "classmethod" "classmethod.__get__" m && (PySem.W.fnIn K (cmA x m K) && fRd x K)
theorem fCm_ok {x m : Str} {K : PySem.W.Frag} (c : fCm x m K = true) : ClX.CRead K (He.ga K x) (.type "type") ∧ ClX.CMet K (He.ga K x) (.type "type") m (He.ma K (He.ga K x) m) (cmA x m K) := by
  obtain ⟨c1, c⟩ := He.ba c
  obtain ⟨c2, c⟩ := He.ba c
  obtain ⟨c3, c4⟩ := He.ba c
  exact ⟨⟨c3, He.eqO_ok c4⟩, He5.cmet_of c1 c2⟩
def smA (x m : Str) : PySem.W.Frag → Addr := fun K => He5.wf K (He.ga K x) "staticmethod" m
def fSm (x m : Str) : Ft := fun K => He5.wrapB K (He.ga K x) "staticmethod" "staticmethod.__get__" m && (PySem.W.keepIn K (.ref (smA x m K)) && fRd x K)
theorem fSm_ok {x m : Str} {K : PySem.W.Frag} (c : fSm x m K = true) : ClX.CRead K (He.ga K x) (.type "type") ∧ PySem.W.findCls K (.ref (He.ga K x)) (.type "type") m = some (.get (.builtin "staticmethod.__get__") (.ref (He.ma K (He.ga K x) m)) .none (.ref (He.ga K x))) ∧ (∃ rest, PySem.W.recIn K (He.ma K (He.ga K x) m) "staticmethod" = some (.ref (smA x m K) :: rest)) ∧ PySem.W.keepIn K (.ref (smA x m K)) = true := by
  obtain ⟨c1, c⟩ := He.ba c
  obtain ⟨c2, c⟩ := He.ba c
  obtain ⟨c3, c4⟩ := He.ba c
  obtain ⟨h1, h2⟩ := He5.wrapB_ok c1
  exact ⟨⟨c3, He.eqO_ok c4⟩, h1, h2, c2⟩
def fOth (x y : Str) (op : Operator) : Ft := fun K => PySem.W.selfFirst K (He.ga K y) && (He.eqO (PySem.W.findIn K (.ref (He.ga K x)) (PySem.dunderR op.info.2)) (some none) && (He.eqO (PySem.W.findIn K (.ref (He.ga K y)) (PySem.dunder op.info.2)) (some (some (.ref (mA y (PySem.dunder op.info.2) K)))) && (He.eqO (PySem.W.findIn K (.ref (He.ga K y)) (PySem.dunderR op.info.2)) (some none) &&
  (decide (PySem.W.subIn K (.ref (He.ga K y)) (.ref (He.ga K x)) = some false) && !decide (He.ga K x = He.ga K y)))))
theorem ne_refs {a b : Addr} (h : (!decide (a = b)) = true) : (Value.ref a == Value.ref b) = false := by
  rw [Bool.not_eq_true', decide_eq_false_iff_not] at h
  exact beq_eq_false_iff_ne.mpr fun z => h (Value.ref.inj z)
theorem fOth_ok {x y : Str} {op : Operator} {K : PySem.W.Frag} (c : fOth x y op K = true) : OpOth K (He.ga K x) (He.ga K y) op := by
  obtain ⟨c1, c⟩ := He.ba c
  obtain ⟨c2, c⟩ := He.ba c
  obtain ⟨c3, c⟩ := He.ba c
  obtain ⟨c4, c⟩ := He.ba c
  obtain ⟨c5, c6⟩ := He.ba c
  exact ⟨c1, He.eqO_ok c2, ⟨_, He.eqO_ok c3⟩, He.eqO_ok c4, of_decide_eq_true c5, ne_refs c6⟩
def d_is_integer : DefX := dX (gA "is_integer") "is_integer" "is_integer" r_is_integer
def d_common_divisor : DefX := dX (gA "common_divisor") "common_divisor" "common_divisor" r_common_divisor
def d_as_amount : DefX := dX (gA "as_amount") "as_amount" "as_amount" r_as_amount
def d_is_amount : DefX := dX (gA "is_amount") "is_amount" "is_amount" r_is_amount
def d_is_symbol : DefX := dX (gA "is_symbol") "is_symbol" "is_symbol" r_is_symbol
def d_require_symbol : DefX := dX (gA "require_symbol") "require_symbol" "require_symbol" r_require_symbol
def d_are_terms : DefX := dX (gA "are_terms") "are_terms" "are_terms" r_are_terms
def d_term_text : DefX := dX (gA "term_text") "term_text" "term_text" r_term_text
def d_form_text : DefX := dX (gA "form_text") "form_text" "form_text" r_form_text
def d_l_pot : DefX := dX (gA "_law_pot") "_law_pot" "_law_pot" r_l_pot
def d_l_digit : DefX := dX (gA "_law_digit") "_law_digit" "_law_digit" r_l_digit
def d_l_pick : DefX := dX (gA "_law_pick") "_law_pick" "_law_pick" r_l_pick
def d_l_odd : DefX := dX (gA "_law_odd") "_law_odd" "_law_odd" r_l_odd
def d_l_refused : DefX := dX (gA "_law_refused") "_law_refused" "_law_refused" r_l_refused
def d_l_part : DefX := dX (gA "_law_part") "_law_part" "_law_part" r_l_part
def d_l_made_right : DefX := dX (gA "_law_made_right") "_law_made_right" "_law_made_right" r_l_made_right
def d_l_signs_right : DefX := dX (gA "_law_signs_right") "_law_signs_right" "_law_signs_right" r_l_signs_right
def d_l_right : DefX := dX (gA "_law_right") "_law_right" "_law_right" r_l_right
def d_law : DefX := dX (gA "law") "law" "law" r_law
def d_Amountinit : DefX := dX (mA "Amount" "__init__") "__init__" "Amount.__init__" r_Amountinit [.int 1]
def d_Forminit : DefX := dX (mA "Form" "__init__") "__init__" "Form.__init__" r_Forminit [.int 0, .non]
def d_Amountadd : DefX := dX (mA "Amount" "__add__") "__add__" "Amount.__add__" r_Amountadd
def d_Amountsub : DefX := dX (mA "Amount" "__sub__") "__sub__" "Amount.__sub__" r_Amountsub
def d_Amountmul : DefX := dX (mA "Amount" "__mul__") "__mul__" "Amount.__mul__" r_Amountmul
def d_Amountneg : DefX := dX (mA "Amount" "__neg__") "__neg__" "Amount.__neg__" r_Amountneg
def d_Amount_over : DefX := dX (mA "Amount" "over") "over" "Amount.over" r_Amount_over
def d_Amount_below : DefX := dX (mA "Amount" "below") "below" "Amount.below" r_Amount_below
def d_Amounteq : DefX := dX (mA "Amount" "__eq__") "__eq__" "Amount.__eq__" r_Amounteq
def d_Amountstr : DefX := dX (mA "Amount" "__str__") "__str__" "Amount.__str__" r_Amountstr
def d_Amountrepr : DefX := dX (mA "Amount" "__repr__") "__repr__" "Amount.__repr__" r_Amountrepr
def d_Formrepr : DefX := dX (mA "Form" "__repr__") "__repr__" "Form.__repr__" r_Formrepr
def d_InvalidAmountinit : DefX := dX (mA "InvalidAmount" "__init__") "__init__" "InvalidAmount.__init__" r_InvalidAmountinit
def d_Amount_sign : DefX := dX (pA "Amount" "sign") "sign" "Amount.sign" r_Amount_sign
def d_Form_of : DefX := dX (cmA "Form" "of") "of" "Form.of" r_Form_of [.int 0]
def fn : List DefX := [d_is_integer, d_common_divisor, d_as_amount, d_is_amount, d_is_symbol, d_require_symbol, d_are_terms, d_term_text, d_form_text, d_l_pot, d_l_digit, d_l_pick, d_l_odd, d_l_refused, d_l_part, d_l_made_right, d_l_signs_right, d_l_right, d_law, d_Amountinit, d_Forminit, d_Amountadd, d_Amountsub, d_Amountmul, d_Amountneg, d_Amount_over, d_Amount_below, d_Amounteq, d_Amountstr, d_Amountrepr, d_Formrepr, d_InvalidAmountinit, d_Amount_sign, d_Form_of]
def t0 : Ft := fGlo "is_integer"
def t1 : Ft := fGlo "common_divisor"
def t2 : Ft := fGlo "as_amount"
def t3 : Ft := fGlo "is_amount"
def t4 : Ft := fGlo "is_symbol"
def t5 : Ft := fGlo "require_symbol"
def t6 : Ft := fGlo "are_terms"
def t7 : Ft := fGlo "term_text"
def t8 : Ft := fGlo "form_text"
def t9 : Ft := fGlo "_law_pot"
def t10 : Ft := fGlo "_law_digit"
def t11 : Ft := fGlo "_law_pick"
def t12 : Ft := fGlo "_law_odd"
def t13 : Ft := fGlo "_law_refused"
def t14 : Ft := fGlo "_law_part"
def t15 : Ft := fGlo "_law_made_right"
def t16 : Ft := fGlo "_law_signs_right"
def t17 : Ft := fGlo "_law_right"
def t18 : Ft := fGlo "law"
def t19 : Ft := fProp "Amount" "sign"
def t20 : Ft := fCm "Form" "of"
def t21 : Ft := fXcl "InvalidAmount" "value"
def t22 : Ft := fXo "ZeroDivisor" "ArithmeticError.__new__" tArith
def t23 : Ft := fGlo "InvalidAmount"
def t24 : Ft := fGlo "ZeroDivisor"
def t25 : Ft := fGlo "InvalidForm"
def t26 : Ft := fGlo "LeastlogError"
def t27 : Ft := fLe "LeastlogError"
def t28 : Ft := fBool (fun K => PySem.W.kitOne K (.type "NoneType") (.ref (He.ga K "Amount"))) false
def t29 : Ft := fBool (fun K => PySem.W.kitOne K (.type "bool") (.ref (He.ga K "Amount"))) false
def t30 : Ft := fBool (fun K => PySem.W.kitOne K (.type "str") (.ref (He.ga K "Amount"))) false
def t31 : Ft := fBool (fun K => PySem.W.kitOne K (.type "list") (.ref (He.ga K "Amount"))) false
def t32 : Ft := fBool (fun K => PySem.W.kitOne K (.type "tuple") (.ref (He.ga K "Amount"))) false
def t33 : Ft := fBool (fun K => PySem.W.kitOne K (.type "dict") (.ref (He.ga K "Amount"))) false
def t34 : Ft := fBool (fun K => PySem.W.kitOne K (.ref (He.ga K "Form")) (.type "int")) false
def t35 : Ft := fBool (fun K => PySem.W.kitOne K (.ref (He.ga K "Form")) (.type "bool")) false
def t36 : Ft := fBool (fun K => PySem.W.kitOne K (.ref (He.ga K "Amount")) (.type "int")) false
def t37 : Ft := fBool (fun K => PySem.W.kitOne K (.ref (He.ga K "Amount")) (.type "bool")) false
def t38 : Ft := fBool (fun K => PySem.W.exmOne K (.ref (He.ga K "InvalidAmount")) (.ref (He.ga K "InvalidAmount"))) true
def t39 : Ft := fBool (fun K => PySem.W.exmOne K (.ref (He.ga K "ZeroDivisor")) (.ref (He.ga K "InvalidAmount"))) false
def t40 : Ft := fBool (fun K => PySem.W.exmOne K (.ref (He.ga K "ZeroDivisor")) (.ref (He.ga K "ZeroDivisor"))) true
def t41 : Ft := fBool (fun K => PySem.W.kitOne K (.ref (He.ga K "InvalidAmount")) (.ref (He.ga K "LeastlogError"))) true
def t42 : Ft := fBool (fun K => PySem.W.kitOne K (.ref (He.ga K "InvalidAmount")) (.ref (He.ga K "InvalidForm"))) false
def t43 : Ft := fBool (fun K => PySem.W.kitOne K (.ref (He.ga K "ZeroDivisor")) (.type "ArithmeticError")) true
def t44 : Ft := fBool (fun K => PySem.W.kitOne K (.ref (He.ga K "ZeroDivisor")) (.ref (He.ga K "LeastlogError"))) false
def t45 : Ft := (fun K => PySem.W.notFirst K (He.ga K "Amount") (.type "str"))
def t46 : Ft := (fun K => PySem.W.notFirst K (He.ga K "Amount") (.type "list"))
def t47 : Ft := (fun K => decide (tOf K (gA "_law_made_right" K) ≠ tOf K (gA "_law_signs_right" K)))
def t48 : Ft := (fun K => decide (tOf K (gA "_law_made_right" K) ≠ tOf K (gA "_law_right" K)))
def t49 : Ft := (fun K => decide (tOf K (gA "_law_signs_right" K) ≠ tOf K (gA "_law_right" K)))
def t50 : Ft := fGlo "Amount"
def t51 : Ft := fCls "Amount"
def t52 : Ft := fMkr "Amount"
def t53 : Ft := fGlo "Form"
def t54 : Ft := fCls "Form"
def t55 : Ft := fMkr "Form"
def t56 : Ft := fNo "Amount" "own_top"
def t57 : Ft := fNo "Amount" "own_bottom"
def t58 : Ft := fNo "Form" "own_constant"
def t59 : Ft := fNo "Form" "own_weights"
def t60 : Ft := fSame (fun K => PySem.W.findIn K (.ref (He.ga K "Amount")) "__class__") (fun _ => some (some (.builtin "object.__class__")))
def t61 : Ft := fSame (fun K => PySem.W.findIn K (.ref (He.ga K "Form")) "__class__") (fun _ => some (some (.builtin "object.__class__")))
def t62 : Ft := fSame (fun K => PySem.W.specialIn K (.builtin "object.__class__") "__get__") (fun _ => some (some (.builtin "getset_descriptor.__get__")))
def t63 : Ft := fSame (fun K => PySem.W.findIn K (.ref (He.ga K "Amount")) "__ne__") (fun _ => some (some (.builtin "object.__ne__")))
def t64 : Ft := fSame (fun K => PySem.W.findIn K (.ref (He.ga K "Form")) "__ne__") (fun _ => some (some (.builtin "object.__ne__")))
def t65 : Ft := fSame (fun K => PySem.W.findIn K (.ref (He.ga K "Amount")) "__format__") (fun _ => some (some (.builtin "object.__format__")))
def t66 : Ft := fBool (fun K => PySem.W.takesIn K (.builtin "object.__class__")) true
def t67 : Ft := fBool (fun K => PySem.W.mroIn K (He.ga K "Amount") (.type "object")) true
def t68 : Ft := fBool (fun K => PySem.W.mroIn K (He.ga K "Form") (.type "object")) true
def t69 : Ft := fBool (fun K => PySem.W.kitOne K (.type "int") (.ref (He.ga K "Amount"))) false
def t70 : Ft := fBool (fun K => PySem.W.kitOne K (.ref (He.ga K "Amount")) (.ref (He.ga K "Amount"))) true
def t71 : Ft := fBool (fun K => PySem.W.kitOne K (.ref (He.ga K "Form")) (.ref (He.ga K "Form"))) true
def t72 : Ft := fBool (fun K => PySem.W.kitOne K (.ref (He.ga K "Amount")) (.ref (He.ga K "Form"))) false
def t73 : Ft := fBool (fun K => PySem.W.kitOne K (.ref (He.ga K "Form")) (.ref (He.ga K "Amount"))) false
def t74 : Ft := fBool (fun K => PySem.W.kitOne K (.type "int") (.ref (He.ga K "Form"))) false
def t75 : Ft := fBool (fun K => PySem.W.kitOne K (.type "str") (.ref (He.ga K "Form"))) false
def t76 : Ft := (fun K => PySem.W.notFirst K (He.ga K "Amount") (.type "int"))
def t77 : Ft := (fun K => PySem.W.notFirst K (He.ga K "Amount") (.ref (He.ga K "Amount")))
def t78 : Ft := (fun K => PySem.W.notFirst K (He.ga K "Form") (.ref (He.ga K "Form")))
def t79 : Ft := (fun K => PySem.W.notFirst K (He.ga K "Form") (.ref (He.ga K "Amount")))
def t80 : Ft := (fun K => PySem.W.notFirst K (He.ga K "Form") (.type "int"))
def t81 : Ft := (fun K => PySem.W.notFirst K (He.ga K "Form") (.type "str"))
def t82 : Ft := (fun K => PySem.W.notFirst K (He.ga K "Amount") (.ref (He.ga K "Form")))
def t83 : Ft := fStr "DIGITS" "0123456789"
def t84 : Ft := fStr "SIGNS" "abcdefghijklmnopqrstuvwxyz.0123456789"
def t85 : Ft := fInt "MOST_SIGNS" 24
def t86 : Ft := fMeth "Amount" "over"
def t87 : Ft := fMeth "Amount" "below"
def t88 : Ft := fOper "Amount" .Add
def t89 : Ft := fOpInt "Amount" .Add
def t90 : Ft := fOth "Amount" "Form" .Add
def t91 : Ft := fOpTy "Amount" .Add "NoneType"
def t92 : Ft := fOpTy "Amount" .Add "bool"
def t93 : Ft := fOpTy "Amount" .Add "str"
def t94 : Ft := fOpTy "Amount" .Add "list"
def t95 : Ft := fOpTy "Amount" .Add "tuple"
def t96 : Ft := fOpTy "Amount" .Add "dict"
def t97 : Ft := fOper "Amount" .Sub
def t98 : Ft := fOpInt "Amount" .Sub
def t99 : Ft := fOth "Amount" "Form" .Sub
def t100 : Ft := fOpTy "Amount" .Sub "NoneType"
def t101 : Ft := fOpTy "Amount" .Sub "bool"
def t102 : Ft := fOpTy "Amount" .Sub "str"
def t103 : Ft := fOpTy "Amount" .Sub "list"
def t104 : Ft := fOpTy "Amount" .Sub "tuple"
def t105 : Ft := fOpTy "Amount" .Sub "dict"
def t106 : Ft := fOper "Amount" .Mult
def t107 : Ft := fOpInt "Amount" .Mult
def t108 : Ft := fOth "Amount" "Form" .Mult
def t109 : Ft := fOpTy "Amount" .Mult "NoneType"
def t110 : Ft := fOpTy "Amount" .Mult "bool"
def t111 : Ft := fOpTy "Amount" .Mult "str"
def t112 : Ft := fOpTy "Amount" .Mult "list"
def t113 : Ft := fOpTy "Amount" .Mult "tuple"
def t114 : Ft := fOpTy "Amount" .Mult "dict"
def t115 : Ft := fSpec "Amount" "__neg__"
def t116 : Ft := fSpec "Amount" "__eq__"
def t117 : Ft := fSpec "Amount" "__str__"
def t118 : Ft := fSpec "Amount" "__repr__"
def t119 : Ft := fSpec "Form" "__repr__"
def t120 : Ft := fFree "isinstance"
def t121 : Ft := fFree "int"
def t122 : Ft := fFree "bool"
def t123 : Ft := fFree "abs"
def t124 : Ft := fFree "str"
def t125 : Ft := fFree "repr"
def t126 : Ft := fFree "range"
def t127 : Ft := fFree "len"
def t128 : Ft := fFree "max"
def t129 : Ft := fFree "min"
def t130 : Ft := fFree "divmod"
def t131 : Ft := fFree "all"
def t132 : Ft := fFree "zip"
def t133 : Ft := fFree "sorted"
def t134 : Ft := fFree "list"
def t135 : Ft := fFree "dict"
def t136 : Ft := fFree "ArithmeticError"
def ft0 : List Ft := [t0, t1, t2, t3, t4, t5, t6, t7, t8, t9, t10, t11, t12, t13, t14, t15, t16, t17, t18, t19, t20, t21, t22, t23, t24, t25, t26, t27, t28, t29]
def ft1 : List Ft := [t30, t31, t32, t33, t34, t35, t36, t37, t38, t39, t40, t41, t42, t43, t44, t45, t46, t47, t48, t49, t50, t51, t52, t53, t54, t55, t56, t57, t58, t59]
def ft2 : List Ft := [t60, t61, t62, t63, t64, t65, t66, t67, t68, t69, t70, t71, t72, t73, t74, t75, t76, t77, t78, t79, t80, t81, t82, t83, t84, t85, t86, t87, t88, t89]
def ft3 : List Ft := [t90, t91, t92, t93, t94, t95, t96, t97, t98, t99, t100, t101, t102, t103, t104, t105, t106, t107, t108, t109, t110, t111, t112, t113, t114, t115, t116, t117, t118, t119]
def ft4 : List Ft := [t120, t121, t122, t123, t124, t125, t126, t127, t128, t129, t130, t131, t132, t133, t134, t135, t136]
def ft : List Ft := ft0 ++ ft1 ++ ft2 ++ ft3 ++ ft4
def tf : List (PySem.W.Frag → Addr) := [gA "_law_made_right", gA "_law_signs_right", gA "_law_right"]
def loose0 : List PySem.Str := ["_wall", "LeastlogError", "InvalidAmount", "InvalidSymbol", "InvalidTerms", "InvalidForm", "ZeroDivisor", "is_integer", "common_divisor", "Amount", "is_amount", "as_amount", "DIGITS", "SIGNS", "MOST_SIGNS", "is_symbol", "require_symbol", "are_terms", "Form", "as_form", "term_text", "form_text", "_law_pot", "_law_digit", "_law_pick", "_law_odd", "_law_refused", "_law_part", "_law_made_right", "_law_signs_right"]
def loose1 : List PySem.Str := ["_law_right"]
def loose : List PySem.Str := loose0 ++ loose1
abbrev R : PySem.W.OpenRow := PySem.W.OpenLaw.row PySem.Challenge.rw_leastlog_k12_amounts_refused
abbrev hk : PySem.W.Hook := hookU 7 ft fn tf
def ob (s : PySem.W.SharedT) : LL.AlT := LL.obsUG 7 ft fn tf (HandSHeadRun.getT s)
theorem ob_eq (s : PySem.W.SharedT) : ob s = hk.obs s.abs := LL.obsUG_eq (HandSHeadRun.getT_eq s)
theorem run (w : World) : HandSHeadRun.RunEq R (PySem.W.view R.prog [36]) hk ob 8000 loose w := by
  intro os
  kernel_rfl
end K12

set_option linter.all false
/-! M11: fractions in lowest terms, plain. -/
namespace K11
/-- the greatest common divisor, with the bottom's sign -/
def dv (x y : Int) : Int := if y < 0 then -(Int.gcd x y : Int) else (Int.gcd x y : Int)
def lt (x y : Int) : Int := x.fdiv (dv x y)
def lb (x y : Int) : Int := y.fdiv (dv x y)
theorem gcd_pos {x y : Int} (hy : y ≠ 0) : 0 < Int.gcd x y := by
  rcases Nat.eq_zero_or_pos (Int.gcd x y) with h | h
  · exact absurd (Int.gcd_eq_zero_iff.mp h).2 hy
  · exact h
theorem dv_ne {x y : Int} (hy : y ≠ 0) : dv x y ≠ 0 := by
  have := gcd_pos (x := x) hy
  unfold dv
  split <;> omega
theorem dv_abs (x y : Int) : (dv x y).natAbs = Int.gcd x y := by
  unfold dv
  split <;> omega
theorem dv_dvd_left (x y : Int) : dv x y ∣ x := by
  unfold dv
  split
  · exact Int.neg_dvd.mpr (Int.gcd_dvd_left ..)
  · exact Int.gcd_dvd_left ..
theorem dv_dvd_right (x y : Int) : dv x y ∣ y := by
  unfold dv
  split
  · exact Int.neg_dvd.mpr (Int.gcd_dvd_right ..)
  · exact Int.gcd_dvd_right ..
theorem fdiv_of {a b q : Int} (hb : b ≠ 0) (h : a = q * b) : a.fdiv b = q := by
  rw [h]
  exact Int.mul_fdiv_cancel q hb
theorem lt_mul {x y : Int} (hy : y ≠ 0) : lt x y * dv x y = x := by
  obtain ⟨q, h⟩ := dv_dvd_left x y
  have e : lt x y = q := fdiv_of (dv_ne hy) (by rw [Int.mul_comm]; exact h)
  rw [e, Int.mul_comm]
  exact h.symm
theorem lb_mul {x y : Int} (hy : y ≠ 0) : lb x y * dv x y = y := by
  obtain ⟨q, h⟩ := dv_dvd_right x y
  have e : lb x y = q := fdiv_of (dv_ne hy) (by rw [Int.mul_comm]; exact h)
  rw [e, Int.mul_comm]
  exact h.symm
theorem lb_pos {x y : Int} (hy : y ≠ 0) : 0 < lb x y := by
  have h := lb_mul (x := x) hy
  have g := gcd_pos (x := x) hy
  by_cases c : y < 0
  · have e : dv x y = -(Int.gcd x y : Int) := if_pos c
    rw [e] at h
    rcases Int.lt_trichotomy (lb x y) 0 with z | z | z
    · have : 0 < lb x y * -(Int.gcd x y : Int) := Int.mul_pos_of_neg_of_neg z (by omega)
      omega
    · rw [z] at h
      omega
    · exact z
  · have e : dv x y = (Int.gcd x y : Int) := if_neg c
    rw [e] at h
    rcases Int.lt_trichotomy (lb x y) 0 with z | z | z
    · have : lb x y * (Int.gcd x y : Int) < 0 := Int.mul_neg_of_neg_of_pos z (by omega)
      omega
    · rw [z] at h
      omega
    · exact z
theorem dv_scale {k x y : Int} (hk : k ≠ 0) (hy : y ≠ 0) : dv (k * x) (k * y) = k * dv x y := by
  have e : Int.gcd (k * x) (k * y) = k.natAbs * Int.gcd x y := Int.gcd_mul_left ..
  unfold dv
  rw [e, Int.natCast_mul]
  rcases Int.lt_or_gt_of_ne hk with h | h <;> rcases Int.lt_or_gt_of_ne hy with z | z
  · have c : ¬ k * y < 0 := Int.not_lt.mpr (Int.le_of_lt (Int.mul_pos_of_neg_of_neg h z))
    rw [if_neg c, if_pos z, show ((k.natAbs : Nat) : Int) = -k by omega, Int.neg_mul, Int.mul_neg]
  · have c : k * y < 0 := Int.mul_neg_of_neg_of_pos h z
    rw [if_pos c, if_neg (by omega), show ((k.natAbs : Nat) : Int) = -k by omega, Int.neg_mul, Int.neg_neg]
  · have c : k * y < 0 := Int.mul_neg_of_pos_of_neg h z
    rw [if_pos c, if_pos z, show ((k.natAbs : Nat) : Int) = k by omega, Int.mul_neg]
  · have c : ¬ k * y < 0 := Int.not_lt.mpr (Int.le_of_lt (Int.mul_pos h z))
    rw [if_neg c, if_neg (by omega), show ((k.natAbs : Nat) : Int) = k by omega]
theorem lt_scale {k x y : Int} (hk : k ≠ 0) (hy : y ≠ 0) : lt (k * x) (k * y) = lt x y := by
  have h := lt_mul (x := x) hy
  refine fdiv_of (dv_ne (Int.mul_ne_zero hk hy)) ?_
  rw [dv_scale hk hy, Int.mul_left_comm, h]
theorem lb_scale {k x y : Int} (hk : k ≠ 0) (hy : y ≠ 0) : lb (k * x) (k * y) = lb x y := by
  have h := lb_mul (x := x) hy
  refine fdiv_of (dv_ne (Int.mul_ne_zero hk hy)) ?_
  rw [dv_scale hk hy, Int.mul_left_comm, h]
theorem lt_idem {x y : Int} (hy : y ≠ 0) : lt (lt x y) (lb x y) = lt x y := by
  have h := lt_scale (x := lt x y) (y := lb x y) (dv_ne (x := x) hy) (Int.ne_of_gt (lb_pos hy))
  rw [Int.mul_comm (dv x y), Int.mul_comm (dv x y), lt_mul hy, lb_mul hy] at h
  exact h.symm
theorem lb_idem {x y : Int} (hy : y ≠ 0) : lb (lt x y) (lb x y) = lb x y := by
  have h := lb_scale (x := lt x y) (y := lb x y) (dv_ne (x := x) hy) (Int.ne_of_gt (lb_pos hy))
  rw [Int.mul_comm (dv x y), Int.mul_comm (dv x y), lt_mul hy, lb_mul hy] at h
  exact h.symm
theorem lt_le {x y : Int} (hy : y ≠ 0) : (lt x y).natAbs ≤ x.natAbs := by
  have h := lt_mul (x := x) hy
  have g := gcd_pos (x := x) hy
  rw [← dv_abs] at g
  rw [← h, Int.natAbs_mul]
  rw [h]
  exact Nat.le_mul_of_pos_right _ g
theorem lb_le {x y : Int} (hy : y ≠ 0) : (lb x y).natAbs ≤ y.natAbs := by
  have h := lb_mul (x := x) hy
  have g := gcd_pos (x := x) hy
  rw [← dv_abs] at g
  have : (lb x y * dv x y).natAbs = y.natAbs := by rw [h]
  rw [Int.natAbs_mul] at this
  rw [← this]
  exact Nat.le_mul_of_pos_right _ g
theorem lt_one (x : Int) : lt x 1 = x ∧ lb x 1 = 1 := by
  have e : dv x 1 = 1 := by
    unfold dv
    rw [if_neg (by omega), Int.gcd_one_right]
    rfl
  unfold lt lb
  rw [e]
  exact ⟨Int.fdiv_one x, Int.fdiv_one 1⟩
/-! the ways, of fractions and of their lowest terms -/
theorem low_eq {k x y x' y' : Int} (hk : k ≠ 0) (hy : y' ≠ 0) (ex : x = k * x') (ey : y = k * y') : lt x y = lt x' y' ∧ lb x y = lb x' y' := by
  rw [ex, ey]
  exact ⟨lt_scale hk hy, lb_scale hk hy⟩
theorem sum_low {a b c d : Int} (hb : b ≠ 0) (hd : d ≠ 0) : lt (a * d + c * b) (b * d) = lt (lt a b * lb c d + lt c d * lb a b) (lb a b * lb c d) ∧ lb (a * d + c * b) (b * d) = lb (lt a b * lb c d + lt c d * lb a b) (lb a b * lb c d) := by
  refine low_eq (k := dv a b * dv c d) (Int.mul_ne_zero (dv_ne hb) (dv_ne hd)) (Int.mul_ne_zero (Int.ne_of_gt (lb_pos hb)) (Int.ne_of_gt (lb_pos hd))) ?_ ?_
  · have h1 := lt_mul (x := a) hb
    have h2 := lb_mul (x := a) hb
    have h3 := lt_mul (x := c) hd
    have h4 := lb_mul (x := c) hd
    generalize lt a b = A at *
    generalize lb a b = B at *
    generalize lt c d = C at *
    generalize lb c d = D at *
    generalize dv a b = m at *
    generalize dv c d = n at *
    subst h1 h2 h3 h4
    rw [Int.mul_add]
    congr 1 <;> ac_rfl
  · have h2 := lb_mul (x := a) hb
    have h4 := lb_mul (x := c) hd
    generalize lb a b = B at *
    generalize lb c d = D at *
    generalize dv a b = m at *
    generalize dv c d = n at *
    subst h2 h4
    ac_rfl
theorem gap_low {a b c d : Int} (hb : b ≠ 0) (hd : d ≠ 0) : lt (a * d - c * b) (b * d) = lt (lt a b * lb c d - lt c d * lb a b) (lb a b * lb c d) ∧ lb (a * d - c * b) (b * d) = lb (lt a b * lb c d - lt c d * lb a b) (lb a b * lb c d) := by
  refine low_eq (k := dv a b * dv c d) (Int.mul_ne_zero (dv_ne hb) (dv_ne hd)) (Int.mul_ne_zero (Int.ne_of_gt (lb_pos hb)) (Int.ne_of_gt (lb_pos hd))) ?_ ?_
  · have h1 := lt_mul (x := a) hb
    have h2 := lb_mul (x := a) hb
    have h3 := lt_mul (x := c) hd
    have h4 := lb_mul (x := c) hd
    generalize lt a b = A at *
    generalize lb a b = B at *
    generalize lt c d = C at *
    generalize lb c d = D at *
    generalize dv a b = m at *
    generalize dv c d = n at *
    subst h1 h2 h3 h4
    rw [Int.mul_sub]
    congr 1 <;> ac_rfl
  · have h2 := lb_mul (x := a) hb
    have h4 := lb_mul (x := c) hd
    generalize lb a b = B at *
    generalize lb c d = D at *
    generalize dv a b = m at *
    generalize dv c d = n at *
    subst h2 h4
    ac_rfl
theorem product_low {a b c d : Int} (hb : b ≠ 0) (hd : d ≠ 0) : lt (a * c) (b * d) = lt (lt a b * lt c d) (lb a b * lb c d) ∧ lb (a * c) (b * d) = lb (lt a b * lt c d) (lb a b * lb c d) := by
  refine low_eq (k := dv a b * dv c d) (Int.mul_ne_zero (dv_ne hb) (dv_ne hd)) (Int.mul_ne_zero (Int.ne_of_gt (lb_pos hb)) (Int.ne_of_gt (lb_pos hd))) ?_ ?_
  · have h1 := lt_mul (x := a) hb
    have h3 := lt_mul (x := c) hd
    generalize lt a b = A at *
    generalize lt c d = C at *
    generalize dv a b = m at *
    generalize dv c d = n at *
    subst h1 h3
    ac_rfl
  · have h2 := lb_mul (x := a) hb
    have h4 := lb_mul (x := c) hd
    generalize lb a b = B at *
    generalize lb c d = D at *
    generalize dv a b = m at *
    generalize dv c d = n at *
    subst h2 h4
    ac_rfl
theorem lt_zero {c d : Int} (hd : d ≠ 0) : lt c d = 0 ↔ c = 0 := by
  have h := lt_mul (x := c) hd
  constructor
  · intro e
    rw [e] at h
    omega
  · intro e
    rw [e] at h
    exact (Int.mul_eq_zero.mp (by rw [e]; exact h)).resolve_right (dv_ne hd)
theorem part_low {a b c d : Int} (hb : b ≠ 0) (hd : d ≠ 0) (hc : c ≠ 0) : lt (a * d) (b * c) = lt (lt a b * lb c d) (lb a b * lt c d) ∧ lb (a * d) (b * c) = lb (lt a b * lb c d) (lb a b * lt c d) := by
  refine low_eq (k := dv a b * dv c d) (Int.mul_ne_zero (dv_ne hb) (dv_ne hd)) (Int.mul_ne_zero (Int.ne_of_gt (lb_pos hb)) (fun z => hc ((lt_zero hd).mp z))) ?_ ?_
  · have h1 := lt_mul (x := a) hb
    have h3 := lb_mul (x := c) hd
    generalize lt a b = A at *
    generalize lb c d = C at *
    generalize dv a b = m at *
    generalize dv c d = n at *
    subst h1 h3
    ac_rfl
  · have h2 := lb_mul (x := a) hb
    have h4 := lt_mul (x := c) hd
    generalize lb a b = B at *
    generalize lt c d = D at *
    generalize dv a b = m at *
    generalize dv c d = n at *
    subst h2 h4
    ac_rfl
theorem turned_low {a b : Int} (hb : b ≠ 0) : lt (-a) b = lt (-(lt a b)) (lb a b) ∧ lb (-a) b = lb (-(lt a b)) (lb a b) := by
  refine low_eq (k := dv a b) (dv_ne hb) (Int.ne_of_gt (lb_pos hb)) ?_ ?_
  · rw [Int.mul_neg, Int.mul_comm, lt_mul hb]
  · rw [Int.mul_comm, lb_mul hb]
/-! one turn of the divisor's loop -/
theorem gcd_turn {a b : Int} (ha : 0 ≤ a) (hb : 0 ≤ b) : Int.gcd b (a % b) = Int.gcd a b := by
  obtain ⟨n, rfl⟩ := Int.eq_ofNat_of_zero_le ha
  obtain ⟨m, rfl⟩ := Int.eq_ofNat_of_zero_le hb
  have e : ((n : Int) % (m : Int)) = ((n % m : Nat) : Int) := rfl
  rw [e]
  show Nat.gcd m (n % m) = Nat.gcd n m
  rw [Nat.gcd_comm m, ← Nat.gcd_rec, Nat.gcd_comm]
theorem gcd_end {a : Int} (ha : 0 ≤ a) : (Int.gcd a 0 : Int) = a := by
  rw [Int.gcd_zero_right]
  omega
theorem gcd_abs (x y : Int) : Int.gcd (if x < 0 then -x else x) (if y < 0 then -y else y) = Int.gcd x y := by
  split <;> split <;> simp
end K11

set_option Elab.async false
set_option linter.all false
set_option maxRecDepth 100000
set_option maxHeartbeats 4000000
/-! A13: the class Amount. -/
namespace K12
open PySem PySem.Spec PyProof.Rows L2 LL K11
def top (i : Nat) : Stmt := PySem.Challenge.pw_leastlog_k12_amounts_refused.main.body.getD i (.Pass ⟨0, 0, 0, 0⟩)
abbrev s_is_integer : Stmt := top 10
abbrev n_is_integer : List Str := ["value"]
theorem sc_is_integer : FnScope n_is_integer ["value"] (defScope s_is_integer) := ⟨rfl, rfl, rfl, by decide +kernel, rfl, by decide +kernel, by decide +kernel⟩
abbrev s_common_divisor : Stmt := top 11
abbrev n_common_divisor : List Str := ["one", "other"]
theorem sc_common_divisor : FnScope n_common_divisor ["one", "other"] (defScope s_common_divisor) := ⟨rfl, rfl, rfl, by decide +kernel, rfl, by decide +kernel, by decide +kernel⟩
abbrev s_Amountinit : Stmt := inClass (top 12) 0
abbrev n_Amountinit : List Str := ["self", "top", "bottom", "value", "divisor"]
theorem sc_Amountinit : FnScope n_Amountinit ["self", "top", "bottom"] (defScope s_Amountinit) := ⟨rfl, rfl, rfl, by decide +kernel, rfl, by decide +kernel, by decide +kernel⟩
abbrev s_Amount_top : Stmt := inClass (top 12) 1
abbrev n_Amount_top : List Str := ["self"]
theorem sc_Amount_top : FnScope n_Amount_top ["self"] (defScope s_Amount_top) := ⟨rfl, rfl, rfl, by decide +kernel, rfl, by decide +kernel, by decide +kernel⟩
abbrev s_Amount_bottom : Stmt := inClass (top 12) 2
abbrev n_Amount_bottom : List Str := ["self"]
theorem sc_Amount_bottom : FnScope n_Amount_bottom ["self"] (defScope s_Amount_bottom) := ⟨rfl, rfl, rfl, by decide +kernel, rfl, by decide +kernel, by decide +kernel⟩
abbrev s_Amount_sign : Stmt := inClass (top 12) 3
abbrev n_Amount_sign : List Str := ["self"]
theorem sc_Amount_sign : FnScope n_Amount_sign ["self"] (defScope s_Amount_sign) := ⟨rfl, rfl, rfl, by decide +kernel, rfl, by decide +kernel, by decide +kernel⟩
abbrev s_Amountadd : Stmt := inClass (top 12) 4
abbrev n_Amountadd : List Str := ["self", "other", "second", "top"]
theorem sc_Amountadd : FnScope n_Amountadd ["self", "other"] (defScope s_Amountadd) := ⟨rfl, rfl, rfl, by decide +kernel, rfl, by decide +kernel, by decide +kernel⟩
abbrev s_Amountsub : Stmt := inClass (top 12) 5
abbrev n_Amountsub : List Str := ["self", "other", "second", "top"]
theorem sc_Amountsub : FnScope n_Amountsub ["self", "other"] (defScope s_Amountsub) := ⟨rfl, rfl, rfl, by decide +kernel, rfl, by decide +kernel, by decide +kernel⟩
abbrev s_Amountmul : Stmt := inClass (top 12) 6
abbrev n_Amountmul : List Str := ["self", "other", "second"]
theorem sc_Amountmul : FnScope n_Amountmul ["self", "other"] (defScope s_Amountmul) := ⟨rfl, rfl, rfl, by decide +kernel, rfl, by decide +kernel, by decide +kernel⟩
abbrev s_Amountneg : Stmt := inClass (top 12) 7
abbrev n_Amountneg : List Str := ["self"]
theorem sc_Amountneg : FnScope n_Amountneg ["self"] (defScope s_Amountneg) := ⟨rfl, rfl, rfl, by decide +kernel, rfl, by decide +kernel, by decide +kernel⟩
abbrev s_Amount_over : Stmt := inClass (top 12) 8
abbrev n_Amount_over : List Str := ["self", "divisor", "second"]
theorem sc_Amount_over : FnScope n_Amount_over ["self", "divisor"] (defScope s_Amount_over) := ⟨rfl, rfl, rfl, by decide +kernel, rfl, by decide +kernel, by decide +kernel⟩
abbrev s_Amounteq : Stmt := inClass (top 12) 10
abbrev n_Amounteq : List Str := ["self", "other"]
theorem sc_Amounteq : FnScope n_Amounteq ["self", "other"] (defScope s_Amounteq) := ⟨rfl, rfl, rfl, by decide +kernel, rfl, by decide +kernel, by decide +kernel⟩
abbrev s_Amountstr : Stmt := inClass (top 12) 11
abbrev n_Amountstr : List Str := ["self"]
theorem sc_Amountstr : FnScope n_Amountstr ["self"] (defScope s_Amountstr) := ⟨rfl, rfl, rfl, by decide +kernel, rfl, by decide +kernel, by decide +kernel⟩
abbrev s_Amountrepr : Stmt := inClass (top 12) 12
abbrev n_Amountrepr : List Str := ["self"]
theorem sc_Amountrepr : FnScope n_Amountrepr ["self"] (defScope s_Amountrepr) := ⟨rfl, rfl, rfl, by decide +kernel, rfl, by decide +kernel, by decide +kernel⟩
abbrev s_as_amount : Stmt := top 14
abbrev n_as_amount : List Str := ["value"]
theorem sc_as_amount : FnScope n_as_amount ["value"] (defScope s_as_amount) := ⟨rfl, rfl, rfl, by decide +kernel, rfl, by decide +kernel, by decide +kernel⟩
/-- what the top has made: the built-in names that are free, the class Amount at C -/
structure Tx (K : PySem.W.Frag) (mg : Str → Option Value) (C : Addr) : Prop where
  cl : Cls K C
  nT : NoAttr K C "own_top"
  nB : NoAttr K C "own_bottom"
  g_Amount : mg "Amount" = some (.ref C)
  ca : PySem.W.findIn K (.ref C) "__class__" = some (some (.builtin "object.__class__"))
  cn : PySem.W.specialIn K (.builtin "object.__class__") "__get__" = some (some (.builtin "getset_descriptor.__get__"))
  ct : PySem.W.takesIn K (.builtin "object.__class__") = some true
  cm : PySem.W.mroIn K C (.type "object") = some true
  kI : PySem.W.kitOne K (.type "int") (.ref C) = some false
  kC : PySem.W.kitOne K (.ref C) (.ref C) = some true
  ne : PySem.W.findIn K (.ref C) "__ne__" = some (some (.builtin "object.__ne__"))
  fI : PySem.W.notFirst K C (.type "int") = true
  fC : PySem.W.notFirst K C (.ref C) = true
  n_isinstance : mg "isinstance" = none
  n_int : mg "int" = none
  n_bool : mg "bool" = none
  n_abs : mg "abs" = none
  n_str : mg "str" = none
  n_repr : mg "repr" = none
  n_range : mg "range" = none
  n_len : mg "len" = none
  n_max : mg "max" = none
  n_min : mg "min" = none
  n_divmod : mg "divmod" = none
  n_all : mg "all" = none
  n_zip : mg "zip" = none
section
variable {P : Program} {w : World} {K : PySem.W.Frag} {mg : Str → Option Value} {base : Heap} {C : Addr} {f : Addr} {fd : FuncData}
/-- a def of the text, no defaults -/
abbrev FD (K : PySem.W.Frag) (x qual : Str) (st : Stmt) (dvs : List V) (f : Addr) (fd : FuncData) : Prop := FunD K x qual (defArgs st) (defBody st) (defScope st) dvs [] f fd
/-! ### is_integer -/
def spIsInt (K : PySem.W.Frag) : Sp := fun vs H Q _ => ∃ v t b1 b2, vs = [v] ∧ TyX K H v t ∧ PySem.W.kitOne K t (.type "int") = some b1 ∧ PySem.W.kitOne K t (.type "bool") = some b2 ∧ Q (.bl (b1 && !b2)) H
theorem ok_is_integer (T : Tx K mg C) (F : FD K "is_integer" "is_integer" s_is_integer [] f fd) : FnG P w K mg base CX0 1 f fd ["value"] (spIsInt K) := by
  refine ok0 F sc_is_integer (fun vs H Q E h => ?_) (fun cdv A outer s H vs Q E hr h => ?_)
  · obtain ⟨v, t, b1, b2, rfl, _⟩ := h
    rfl
  · obtain ⟨v, t, b1, b2, rfl, ty, e1, e2, q⟩ := h
    refine ⟨_, (pss_one (ps_ret (pe_and (pe_callB call_isi (by rfl) T.n_isinstance (by decide +kernel) (pa_cons (pv 0) (pa_cons (pe_bltn (v := .ty "int") (by rfl) T.n_int (by decide +kernel) rfl) pa_nil))) (pe_one (pe_not (pe_callB call_isi (by rfl) T.n_isinstance (by decide +kernel) (pa_cons (pv 0) (pa_cons (pe_bltn (v := .ty "bool") (by rfl) T.n_bool (by decide +kernel) rfl) pa_nil)))))))), ?_⟩
    refine ⟨_, rfl, _, _, t, _, _, rfl, .ty "int", ty, e1, _, rfl, ?_⟩
    cases b1 with
    | false => exact iteF q
    | true => exact iteT ⟨_, rfl, _, _, t, _, _, rfl, .ty "bool", ty, e2, _, rfl, q⟩
/-! ### common_divisor -/
def spGcd : Sp := fun vs H Q _ => ∃ x y : Int, vs = [.int x, .int y] ∧ Q (.int (Int.gcd x y : Int)) H
theorem ok_common_divisor (T : Tx K mg C) (F : FD K "common_divisor" "common_divisor" s_common_divisor [] f fd) : FnG P w K mg base CX0 1 f fd ["one", "other"] spGcd := by
  refine ok0 F sc_common_divisor (fun vs H Q E h => ?_) (fun cdv A outer s H vs Q E hr h => ?_)
  · obtain ⟨x, y, rfl, _⟩ := h
    rfl
  · obtain ⟨x, y, rfl, q⟩ := h
    refine ⟨_, (pss_cons (ps_par (i := 0) (j := 1) rfl sc_common_divisor.nd rfl rfl (by decide) rfl rfl (pa_cons (pe_callB call_abs (by rfl) T.n_abs (by decide +kernel) (pa_cons (pv 0) pa_nil)) (pa_cons (pe_callB call_abs (by rfl) T.n_abs (by decide +kernel) (pa_cons (pv 1) pa_nil)) pa_nil)) (by rfl))
      (pss_cons (ps_while PassesOwn.never (pt_cmpR op_ne (pv 1) pe_int (nomark _)) (pss_one (ps_par (i := 0) (j := 1) rfl sc_common_divisor.nd rfl rfl (by decide) rfl rfl (pa_cons (pv 1) (pa_cons (pe_op op_mod (pv 0) (pv 1)) pa_nil)) (by rfl))))
      (pss_one (ps_ret (pv 0))))), ?_⟩
    refine ⟨_, rfl, _, rfl, _, rfl, _, rfl, _, _, rfl, ?_⟩
    refine while_by (fun σ H' => H' = H ∧ ∃ a b : Int, σ = [some (.int a), some (.int b)] ∧ 0 ≤ a ∧ 0 ≤ b ∧ Int.gcd a b = Int.gcd x y) (fun σ _ => match σ with | [_, some (.int b)] => b.toNat | _ => 0) ?_ ?_ ?_
    · exact ⟨rfl, _, _, rfl, by split <;> omega, by split <;> omega, gcd_abs x y⟩
    · rintro σ H' ⟨rfl, a, b, rfl, ha, hb, hg⟩
      refine ⟨_, rfl, rfl, _, rfl, ?_⟩
      by_cases c : b = 0
      · subst c
        refine iteF ?_
        refine ⟨_, rfl, ?_⟩
        rw [← gcd_end ha, hg]
        exact q
      · refine iteY (by rw [dec_ne c]; rfl) ?_
        refine ⟨_, rfl, _, rfl, _, rfl, _, _, rfl, rfl, by omega, _, _, rfl, ⟨rfl, _, _, rfl, hb, Int.emod_nonneg _ c, ?_⟩, ?_⟩
        · rw [gcd_turn ha hb]
          exact hg
        · have := Int.emod_lt_of_pos a (show 0 < b by omega)
          have := Int.emod_nonneg a c
          show (a % b).toNat < b.toNat
          omega
    · rintro σ H' Q Q' hq ⟨v, e, e2, k, e3, h⟩
      exact ⟨v, e, e2, k, e3, hq _ _ h⟩
/-! ### the object -/
def flds (t b : Int) : List (Str × V) := [("own_top", .int t), ("own_bottom", .int b)]
theorem ne_tb : ¬ (("own_top" : Str) = "own_bottom") := by decide +kernel
theorem ne_bt : ¬ (("own_bottom" : Str) = "own_top") := by decide +kernel
theorem put_tb (t b : Int) : putF "own_bottom" (.int b) (putF "own_top" (.int t) []) = flds t b := by
  show (if ("own_top" : Str) = "own_bottom" then [(("own_top" : Str), V.int b)] else (("own_top" : Str), V.int t) :: putF "own_bottom" (V.int b) []) = _
  rw [if_neg ne_tb]
  rfl
theorem look_t (t b : Int) : (flds t b).lookup ("own_top" : Str) = some (V.int t) := by
  rw [← put_tb, lookup_putF, if_neg ne_tb, lookup_putF, if_pos rfl]
theorem look_b (t b : Int) : (flds t b).lookup ("own_bottom" : Str) = some (V.int b) := by
  rw [← put_tb, lookup_putF, if_pos rfl]
theorem look_no (t b : Int) {m : Str} (h1 : ¬ m = "own_top") (h2 : ¬ m = "own_bottom") : (flds t b).lookup m = none := by
  rw [← put_tb, lookup_putF, if_neg h2, lookup_putF, if_neg h1]
  rfl
/-- an Amount with these lowest terms stands at p -/
def AmtAt (C : Addr) (H : Hp) (p : Addr) (t b : Int) : Prop := ∃ dx, H p = some (.ins C dx (flds t b))
theorem AmtAt.same {H H' : Hp} {p : Addr} {t b : Int} (h : AmtAt C H p t b) (s : Same H H') : AmtAt C H' p t b := let ⟨dx, e⟩ := h; ⟨dx, s _ _ e⟩
/-! ### __init__ -/
def spInit (C : Addr) : Sp := fun vs H Q _ => ∃ (p dx : Addr) (x y : Int), vs = [.ref p, .int x, .int y] ∧ H p = some (.ins C dx []) ∧ y ≠ 0 ∧ x.natAbs < 2 ^ 4000 ∧ y.natAbs < 2 ^ 4000 ∧
  ∀ H', H' p = some (.ins C dx (flds (lt x y) (lb x y))) → But p H H' → Q .non H'
theorem dv_big {x y : Int} (hy : y ≠ 0) (h : y.natAbs < 2 ^ 4000) : (dv x y).natAbs < 2 ^ 4000 := by
  rw [dv_abs]
  have : Int.gcd x y ≤ y.natAbs := Nat.le_of_dvd (by omega) (Nat.gcd_dvd_right ..)
  omega
theorem kInt {K : PySem.W.Frag} : PySem.W.kitOne K (.type "int") (.type "int") = some true := kit_ty (by decide +kernel)
theorem kIntB {K : PySem.W.Frag} : PySem.W.kitOne K (.type "int") (.type "bool") = some false := kit_ty (by decide +kernel)
theorem ok_init (T : Tx K mg C) (G_is_integer : Fnc P w K mg base CX0 1 "is_integer" [] (spIsInt K)) (G_common_divisor : Fnc P w K mg base CX0 1 "common_divisor" [] spGcd)
    (F : FD K "__init__" "Amount.__init__" s_Amountinit [.int 1] f fd) : FnG P w K mg base CX0 2 f fd ["self", "top", "bottom"] (spInit C) := by
  refine ok0 F sc_Amountinit (fun vs H Q E h => ?_) (fun cdv A outer s H vs Q E hr h => ?_)
  · obtain ⟨p, dx, x, y, rfl, _⟩ := h
    rfl
  · obtain ⟨p, dx, x, y, rfl, hp, hy, bx, by_, q⟩ := h
    refine ⟨_, (pss_cons (ps_for PassesOwn.never rfl (pi_tup (pe_tup (pa_cons (pv 1) (pa_cons (pv 2) pa_nil)))) (pg_name (i := 3) sc_Amountinit.nd rfl (by first | exact Or.inl rfl | exact Or.inr rfl)) (pss_one (ps_if (pt_not (pt_val (pe_fn G_is_integer (hr.mono (by decide)) pass0 (pa_cons (pv 3) pa_nil)))) (pss_one ps_never) pss_nil)))
      (pss_cons (ps_if (pt_cmpR op_eq (pv 2) pe_int (nomark _)) (pss_one ps_never) pss_nil)
      (pss_cons (ps_set (i := 4) sc_Amountinit.nd rfl (by first | exact Or.inl rfl | exact Or.inr rfl) (pe_fn G_common_divisor (hr.mono (by decide)) pass0 (pa_cons (pv 1) (pa_cons (pv 2) pa_nil))))
      (pss_cons (ps_if (pt_cmpR op_lt (pv 2) pe_int (nomark _)) (pss_one (ps_set (i := 4) sc_Amountinit.nd rfl (by first | exact Or.inl rfl | exact Or.inr rfl) (pe_un un_neg (pv 4)))) pss_nil)
      (pss_cons (ps_fld (pv 0) (pe_op op_fdivZ (pv 1) (pv 4)) rfl)
      (pss_one (ps_fld (pv 0) (pe_op op_fdivZ (pv 2) (pv 4)) rfl))))))), ?_⟩
    refine ⟨_, rfl, _, rfl, (by show 2 ≤ sizeLine; decide), fun t ht => ⟨t, rfl, ⟨_, SqT.of upd_same⟩, for_tup (K := K) (a := t) (xs := [.int x, .int y]) (fun i σ H' => H' = upd H t (.tup [.int x, .int y]) ∧ ∃ v, σ = [some (.ref p), some (.int x), some (.int y), v, none]) ⟨rfl, none, rfl⟩ ?_ ?_ ?_⟩⟩
    · rintro i σ H' _ ⟨rfl, _⟩
      exact SqT.of upd_same
    · rintro i z σ H' hi ⟨rfl, v, rfl⟩
      obtain ⟨n, rfl⟩ : ∃ n : Int, z = .int n := by
        match i, hi with
        | 0, hi => exact ⟨x, (Option.some.inj hi).symm⟩
        | 1, hi => exact ⟨y, (Option.some.inj hi).symm⟩
      exact ⟨_, rfl, _, .type "int", true, false, rfl, .base (.int _), kInt, kIntB, _, rfl, iteF ⟨rfl, _, rfl⟩⟩
    · rintro σ H' ⟨rfl, v, rfl⟩
      have npt : p ≠ t := ne_of_none hp ht
      -- bottom == 0, the divisor
      refine ⟨_, rfl, rfl, _, rfl, iteN (dec_ne hy) ?_⟩
      refine ⟨_, rfl, _, rfl, x, y, rfl, ?_⟩
      refine ⟨_, rfl, _, _, rfl, rfl, _, rfl, ?_⟩
      -- behind the sign
      have fin : ∀ (d : Int), d = dv x y → (tSeq (sFld K (tVar 0) (tOp (rI CDivZ fun i j => .int (i.fdiv j)) (tVar 1) (tVar 4)) "own_top") (sFld K (tVar 0) (tOp (rI CDivZ fun i j => .int (i.fdiv j)) (tVar 2) (tVar 4)) "own_bottom")) { nx := fun _ H' => Q .non H', rt := Q } [some (.ref p), some (.int x), some (.int y), v, some (.int d)] (upd H t (.tup [.int x, .int y])) := by
        intro d hd
        have cd : CDivZ x d := by
          rw [hd]
          exact wide_divZ (dv_ne hy) (dv_big hy by_) (by decide) (by decide)
        refine ⟨_, rfl, _, rfl, _, _, rfl, rfl, cd, _, rfl, p, C, dx, [], rfl, (by rw [upd_ne npt]; exact hp), T.cl, T.nT, (by show 0 < 1000; decide), ?_⟩
        refine ⟨_, rfl, _, rfl, _, _, rfl, rfl, cd, _, rfl, p, C, dx, _, rfl, upd_same, T.cl, T.nB, (by show 1 < 1000; decide), ?_⟩
        refine q _ (upd_same.trans ?_) fun b o e n => ?_
        · rw [put_tb, hd]
          rfl
        · rw [upd_ne n, upd_ne n, upd_ne (ne_of_none e ht)]
          exact e
      refine iteB (fun c => ?_) (fun c => ?_)
      · have c' : y < 0 := of_decide_eq_true c
        exact ⟨_, rfl, _, rfl, fin _ (by unfold dv; rw [if_pos c'])⟩
      · have c' : ¬ y < 0 := of_decide_eq_false c
        exact fin _ (by unfold dv; rw [if_neg c'])
/-- Amount(x, y): a new object -/
theorem mk_amt {H : Hp} {x y : Int} {Q : VK} {E : XK} (hy : y ≠ 0) (bx : x.natAbs < 2 ^ 4000) (by_ : y.natAbs < 2 ^ 4000) (q : ∀ H' p, Same H H' → H p = none → AmtAt C H' p (lt x y) (lb x y) → Q (.ref p) H') :
    ∀ a dx, H a = none → H dx = none → dx ≠ a → spInit C [.ref a, .int x, .int y] (upd (upd H dx (.own a)) a (.ins C dx [])) (fun v H2 => v = .non ∧ Q (.ref a) H2) E := by
  intro a dx ha hd ne
  refine ⟨a, dx, x, y, rfl, upd_same, hy, bx, by_, fun H' e b => ⟨rfl, q H' a (fun c o z => ?_) ha ⟨dx, e⟩⟩⟩
  refine b c o ?_ (ne_of_none z ha)
  rw [upd_ne (ne_of_none z ha), upd_ne (ne_of_none z hd)]
  exact z
/-- an amount handed in: an Amount, or an int -/
def AmtV (C : Addr) (H : Hp) (v : V) (t b : Int) : Prop := (∃ p, v = .ref p ∧ AmtAt C H p t b) ∨ (v = .int t ∧ b = 1)
def spAs (C : Addr) : Sp := fun vs H Q _ => ∃ v t b, vs = [v] ∧ AmtV C H v t b ∧ t.natAbs < 2 ^ 4000 ∧ ∀ H' p, Same H H' → AmtAt C H' p t b → Q (.ref p) H'
theorem tyA (T : Tx K mg C) {H : Hp} {p : Addr} {t b : Int} (h : AmtAt C H p t b) : TyX K H (.ref p) (.ref C) := let ⟨_, e⟩ := h; .base (.ins e T.cl T.ca T.cn T.ct T.cm)
theorem ok_as_amount (T : Tx K mg C) (K_Amount1 : Mkr P w K mg base CX0 2 "Amount" C [.int 1] (spInit C)) (F : FD K "as_amount" "as_amount" s_as_amount [] f fd) : FnG P w K mg base CX0 4 f fd ["value"] (spAs C) := by
  refine ok0 F sc_as_amount (fun vs H Q E h => ?_) (fun cdv A outer s H vs Q E hr h => ?_)
  · obtain ⟨v, t, b, rfl, _⟩ := h
    rfl
  · obtain ⟨v, t, b, rfl, hv, bt, q⟩ := h
    refine ⟨_, (pss_cons (ps_if (pt_val (pe_callB call_isi (by rfl) T.n_isinstance (by decide +kernel) (pa_cons (pv 0) (pa_cons (pe_glob (v := .ref C) (by rfl) T.g_Amount rfl) pa_nil)))) (pss_one (ps_ret (pv 0))) pss_nil)
      (pss_one (ps_ret (pe_mk K_Amount1 (hr.mono (by decide)) pass0 (pa_cons (pv 0) pa_nil))))), ?_⟩
    rcases hv with ⟨p, rfl, hp⟩ | ⟨rfl, rfl⟩
    · refine ⟨_, rfl, _, _, .ref C, _, _, rfl, .own C, tyA T hp, T.kC, _, rfl, iteT ⟨_, rfl, ?_⟩⟩
      exact q H p (Same.refl H) hp
    · refine ⟨_, rfl, _, _, .type "int", _, _, rfl, .own C, .base (.int t), T.kI, _, rfl, iteF ⟨_, rfl, ?_⟩⟩
      refine mk_amt (C := C) (x := t) (y := 1) (by decide) bt (by decide +kernel) fun H' p s _ ha => q H' p s ?_
      rw [(lt_one t).1, (lt_one t).2] at ha
      exact ha
/-! ### the operators -/
/-- small enough -/
def Sm (n : Int) : Prop := n.natAbs < 2 ^ 900
theorem Sm.lift {n : Int} (h : Sm n) : n.natAbs < 2 ^ 4000 := Nat.lt_of_lt_of_le h (Nat.pow_le_pow_right (by decide) (by decide))
theorem Sm.mulx {m n : Int} (hm : Sm m) (hn : Sm n) : CMulX m n := mulx_ok hm hn (by decide)
theorem Sm.mul {m n : Int} (hm : Sm m) (hn : Sm n) : (m * n).natAbs < 2 ^ 1800 := wide_lt hm hn
theorem big1 {n : Int} (h : n.natAbs < 2 ^ 1800) : n.natAbs < 2 ^ 4000 := Nat.lt_of_lt_of_le h (Nat.pow_le_pow_right (by decide) (by decide))
theorem big2 {m n : Int} (hm : m.natAbs < 2 ^ 1800) (hn : n.natAbs < 2 ^ 1800) : (m + n).natAbs < 2 ^ 4000 := by
  have h : (m + n).natAbs < 2 ^ 1801 := by
    have := Int.natAbs_add_le m n
    have e : (2 : Nat) ^ 1801 = 2 ^ 1800 + 2 ^ 1800 := by rw [Nat.pow_succ]; omega
    omega
  exact Nat.lt_of_lt_of_le h (Nat.pow_le_pow_right (by decide) (by decide))
theorem big3 {m n : Int} (hm : m.natAbs < 2 ^ 1800) (hn : n.natAbs < 2 ^ 1800) : (m - n).natAbs < 2 ^ 4000 := by
  rw [Int.sub_eq_add_neg]
  exact big2 hm (by rw [Int.natAbs_neg]; exact hn)
/-- x op y of two amounts: a new Amount, of the lowest terms of g -/
def spBin (C : Addr) (gt gb : Int → Int → Int → Int → Int) (ok : Int → Prop) : Sp := fun vs H Q _ => ∃ p v t b t2 b2, vs = [.ref p, v] ∧ AmtAt C H p t b ∧ AmtV C H v t2 b2 ∧ (Sm t ∧ Sm b ∧ Sm t2 ∧ Sm b2) ∧ (0 < b ∧ 0 < b2) ∧ ok t2 ∧
  ∀ H' r, Same H H' → H r = none → AmtAt C H' r (lt (gt t b t2 b2) (gb t b t2 b2)) (lb (gt t b t2 b2) (gb t b t2 b2)) → Q (.ref r) H'
theorem ok_add (T : Tx K mg C) (K_Amount2 : Mkr P w K mg base CX0 2 "Amount" C [] (spInit C)) (G_as_amount : Fnc P w K mg base CX0 4 "as_amount" [] (spAs C)) (F : FD K "__add__" "Amount.__add__" s_Amountadd [] f fd) :
    FnG P w K mg base CX0 5 f fd ["self", "other"] (spBin C (fun t b t2 b2 => t * b2 + t2 * b) (fun _ b _ b2 => b * b2) fun _ => True) := by
  refine ok0 F sc_Amountadd (fun vs H Q E h => ?_) (fun cdv A outer s H vs Q E hr h => ?_)
  · obtain ⟨p, v, t, b, t2, b2, rfl, _⟩ := h
    rfl
  · obtain ⟨p, v, t, b, t2, b2, rfl, hp, hv, ⟨st, sb, st2, sb2⟩, ⟨pb, pb2⟩, _, q⟩ := h
    refine ⟨_, (pss_cons (ps_set (i := 2) sc_Amountadd.nd rfl (by first | exact Or.inl rfl | exact Or.inr rfl) (pe_fn G_as_amount (hr.mono (by decide)) pass0 (pa_cons (pv 1) pa_nil)))
      (pss_cons (ps_set (i := 3) sc_Amountadd.nd rfl (by first | exact Or.inl rfl | exact Or.inr rfl) (pe_op op_add (pe_op op_mulX (pe_fld (pv 0) rfl) (pe_fld (pv 2) rfl)) (pe_op op_mulX (pe_fld (pv 2) rfl) (pe_fld (pv 0) rfl))))
      (pss_one (ps_ret (pe_mk K_Amount2 (hr.mono (by decide)) pass0 (pa_cons (pv 3) (pa_cons (pe_op op_mulX (pe_fld (pv 0) rfl) (pe_fld (pv 2) rfl)) pa_nil))))))), ?_⟩
    refine ⟨_, rfl, v, t2, b2, rfl, hv, st2.lift, fun H1 r s1 hr1 => ?_⟩
    obtain ⟨dx, hp1⟩ := hp.same s1
    obtain ⟨dy, hr1⟩ := hr1
    refine ⟨_, rfl, p, C, dx, _, _, rfl, hp1, T.cl, T.nT, look_t _ _, _, rfl, r, C, dy, _, _, rfl, hr1, T.cl, T.nB, look_b _ _, _, _, rfl, rfl, st.mulx sb2, ?_⟩
    refine ⟨_, rfl, r, C, dy, _, _, rfl, hr1, T.cl, T.nT, look_t _ _, _, rfl, p, C, dx, _, _, rfl, hp1, T.cl, T.nB, look_b _ _, _, _, rfl, rfl, st2.mulx sb, _, _, rfl, rfl, ?_⟩
    refine ⟨_, rfl, _, rfl, p, C, dx, _, _, rfl, hp1, T.cl, T.nB, look_b _ _, _, rfl, r, C, dy, _, _, rfl, hr1, T.cl, T.nB, look_b _ _, _, _, rfl, rfl, sb.mulx sb2, ?_⟩
    exact mk_amt (C := C) (Int.mul_ne_zero (by omega) (by omega)) (big2 (st.mul sb2) (st2.mul sb)) (big1 (sb.mul sb2)) fun H' z s2 n ha => q H' z (s1.trans s2) (s1.free n) ha
theorem ok_sub (T : Tx K mg C) (K_Amount2 : Mkr P w K mg base CX0 2 "Amount" C [] (spInit C)) (G_as_amount : Fnc P w K mg base CX0 4 "as_amount" [] (spAs C)) (F : FD K "__sub__" "Amount.__sub__" s_Amountsub [] f fd) :
    FnG P w K mg base CX0 5 f fd ["self", "other"] (spBin C (fun t b t2 b2 => t * b2 - t2 * b) (fun t b t2 b2 => b * b2) fun _ => True) := by
  refine ok0 F sc_Amountsub (fun vs H Q E h => ?_) (fun cdv A outer s H vs Q E hr h => ?_)
  · obtain ⟨p, v, t, b, t2, b2, rfl, _⟩ := h
    rfl
  · obtain ⟨p, v, t, b, t2, b2, rfl, hp, hv, ⟨st, sb, st2, sb2⟩, ⟨pb, pb2⟩, ok, q⟩ := h
    refine ⟨_, (pss_cons (ps_set (i := 2) sc_Amountsub.nd rfl (by first | exact Or.inl rfl | exact Or.inr rfl) (pe_fn G_as_amount (hr.mono (by decide)) pass0 (pa_cons (pv 1) pa_nil)))
      (pss_cons (ps_set (i := 3) sc_Amountsub.nd rfl (by first | exact Or.inl rfl | exact Or.inr rfl) (pe_op op_sub (pe_op op_mulX (pe_fld (pv 0) rfl) (pe_fld (pv 2) rfl)) (pe_op op_mulX (pe_fld (pv 2) rfl) (pe_fld (pv 0) rfl))))
      (pss_one (ps_ret (pe_mk K_Amount2 (hr.mono (by decide)) pass0 (pa_cons (pv 3) (pa_cons (pe_op op_mulX (pe_fld (pv 0) rfl) (pe_fld (pv 2) rfl)) pa_nil))))))), ?_⟩
    refine ⟨_, rfl, v, t2, b2, rfl, hv, st2.lift, fun H1 r s1 hr1 => ?_⟩
    obtain ⟨dx, hp1⟩ := hp.same s1
    obtain ⟨dy, hr1⟩ := hr1
    refine ⟨_, rfl, p, C, dx, _, _, rfl, hp1, T.cl, T.nT, look_t _ _, _, rfl, r, C, dy, _, _, rfl, hr1, T.cl, T.nB, look_b _ _, _, _, rfl, rfl, st.mulx sb2, ?_⟩
    refine ⟨_, rfl, r, C, dy, _, _, rfl, hr1, T.cl, T.nT, look_t _ _, _, rfl, p, C, dx, _, _, rfl, hp1, T.cl, T.nB, look_b _ _, _, _, rfl, rfl, st2.mulx sb, _, _, rfl, rfl, ?_⟩
    refine ⟨_, rfl, _, rfl, p, C, dx, _, _, rfl, hp1, T.cl, T.nB, look_b _ _, _, rfl, r, C, dy, _, _, rfl, hr1, T.cl, T.nB, look_b _ _, _, _, rfl, rfl, sb.mulx sb2, ?_⟩
    exact mk_amt (C := C) (Int.mul_ne_zero (by omega) (by omega)) (big3 (st.mul sb2) (st2.mul sb)) (big1 (sb.mul sb2)) fun H' z s2 n ha => q H' z (s1.trans s2) (s1.free n) ha
theorem ok_mul (T : Tx K mg C) (K_Amount2 : Mkr P w K mg base CX0 2 "Amount" C [] (spInit C)) (G_as_amount : Fnc P w K mg base CX0 4 "as_amount" [] (spAs C)) (F : FD K "__mul__" "Amount.__mul__" s_Amountmul [] f fd) :
    FnG P w K mg base CX0 5 f fd ["self", "other"] (spBin C (fun t b t2 b2 => t * t2) (fun t b t2 b2 => b * b2) fun _ => True) := by
  refine ok0 F sc_Amountmul (fun vs H Q E h => ?_) (fun cdv A outer s H vs Q E hr h => ?_)
  · obtain ⟨p, v, t, b, t2, b2, rfl, _⟩ := h
    rfl
  · obtain ⟨p, v, t, b, t2, b2, rfl, hp, hv, ⟨st, sb, st2, sb2⟩, ⟨pb, pb2⟩, ok, q⟩ := h
    refine ⟨_, (pss_cons (ps_set (i := 2) sc_Amountmul.nd rfl (by first | exact Or.inl rfl | exact Or.inr rfl) (pe_fn G_as_amount (hr.mono (by decide)) pass0 (pa_cons (pv 1) pa_nil)))
      (pss_one (ps_ret (pe_mk K_Amount2 (hr.mono (by decide)) pass0 (pa_cons (pe_op op_mulX (pe_fld (pv 0) rfl) (pe_fld (pv 2) rfl)) (pa_cons (pe_op op_mulX (pe_fld (pv 0) rfl) (pe_fld (pv 2) rfl)) pa_nil)))))), ?_⟩
    refine ⟨_, rfl, v, t2, b2, rfl, hv, st2.lift, fun H1 r s1 hr1 => ?_⟩
    obtain ⟨dx, hp1⟩ := hp.same s1
    obtain ⟨dy, hr1⟩ := hr1
    refine ⟨_, rfl, p, C, dx, _, _, rfl, hp1, T.cl, T.nT, look_t _ _, _, rfl, r, C, dy, _, _, rfl, hr1, T.cl, T.nT, look_t _ _, _, _, rfl, rfl, st.mulx st2, ?_⟩
    refine ⟨_, rfl, p, C, dx, _, _, rfl, hp1, T.cl, T.nB, look_b _ _, _, rfl, r, C, dy, _, _, rfl, hr1, T.cl, T.nB, look_b _ _, _, _, rfl, rfl, sb.mulx sb2, ?_⟩
    exact mk_amt (C := C) (Int.mul_ne_zero (by omega) (by omega)) (big1 (st.mul st2)) (big1 (sb.mul sb2)) fun H' z s2 n ha => q H' z (s1.trans s2) (s1.free n) ha
theorem ok_over (T : Tx K mg C) (K_Amount2 : Mkr P w K mg base CX0 2 "Amount" C [] (spInit C)) (G_as_amount : Fnc P w K mg base CX0 4 "as_amount" [] (spAs C)) (F : FD K "over" "Amount.over" s_Amount_over [] f fd) :
    FnG P w K mg base CX0 5 f fd ["self", "divisor"] (spBin C (fun t b t2 b2 => t * b2) (fun t b t2 b2 => b * t2) fun t2 => t2 ≠ 0) := by
  refine ok0 F sc_Amount_over (fun vs H Q E h => ?_) (fun cdv A outer s H vs Q E hr h => ?_)
  · obtain ⟨p, v, t, b, t2, b2, rfl, _⟩ := h
    rfl
  · obtain ⟨p, v, t, b, t2, b2, rfl, hp, hv, ⟨st, sb, st2, sb2⟩, ⟨pb, pb2⟩, ok, q⟩ := h
    refine ⟨_, (pss_cons (ps_set (i := 2) sc_Amount_over.nd rfl (by first | exact Or.inl rfl | exact Or.inr rfl) (pe_fn G_as_amount (hr.mono (by decide)) pass0 (pa_cons (pv 1) pa_nil)))
      (pss_cons (ps_if (pt_cmpR op_eq (pe_fld (pv 2) rfl) pe_int (nomark _)) (pss_one ps_never) pss_nil)
      (pss_one (ps_ret (pe_mk K_Amount2 (hr.mono (by decide)) pass0 (pa_cons (pe_op op_mulX (pe_fld (pv 0) rfl) (pe_fld (pv 2) rfl)) (pa_cons (pe_op op_mulX (pe_fld (pv 0) rfl) (pe_fld (pv 2) rfl)) pa_nil))))))), ?_⟩
    refine ⟨_, rfl, v, t2, b2, rfl, hv, st2.lift, fun H1 r s1 hr1 => ?_⟩
    obtain ⟨dx, hp1⟩ := hp.same s1
    obtain ⟨dy, hr1⟩ := hr1
    refine ⟨_, rfl, r, C, dy, _, _, rfl, hr1, T.cl, T.nT, look_t _ _, rfl, _, rfl, iteN (dec_ne ok) ?_⟩
    refine ⟨_, rfl, p, C, dx, _, _, rfl, hp1, T.cl, T.nT, look_t _ _, _, rfl, r, C, dy, _, _, rfl, hr1, T.cl, T.nB, look_b _ _, _, _, rfl, rfl, st.mulx sb2, ?_⟩
    refine ⟨_, rfl, p, C, dx, _, _, rfl, hp1, T.cl, T.nB, look_b _ _, _, rfl, r, C, dy, _, _, rfl, hr1, T.cl, T.nT, look_t _ _, _, _, rfl, rfl, sb.mulx st2, ?_⟩
    exact mk_amt (C := C) (Int.mul_ne_zero (by omega) ok) (big1 (st.mul sb2)) (big1 (sb.mul st2)) fun H' z s2 n ha => q H' z (s1.trans s2) (s1.free n) ha

/-- -x -/
def spNeg (C : Addr) : Sp := fun vs H Q _ => ∃ p t b, vs = [.ref p] ∧ AmtAt C H p t b ∧ Sm t ∧ Sm b ∧ 0 < b ∧ ∀ H' r, Same H H' → H r = none → AmtAt C H' r (lt (-t) b) (lb (-t) b) → Q (.ref r) H'
theorem ok_neg (T : Tx K mg C) (K_Amount2 : Mkr P w K mg base CX0 2 "Amount" C [] (spInit C)) (F : FD K "__neg__" "Amount.__neg__" s_Amountneg [] f fd) : FnG P w K mg base CX0 4 f fd ["self"] (spNeg C) := by
  refine ok0 F sc_Amountneg (fun vs H Q E h => ?_) (fun cdv A outer s H vs Q E hr h => ?_)
  · obtain ⟨p, t, b, rfl, _⟩ := h
    rfl
  · obtain ⟨p, t, b, rfl, ⟨dx, hp⟩, st, sb, pb, q⟩ := h
    refine ⟨_, (pss_one (ps_ret (pe_mk K_Amount2 (hr.mono (by decide)) pass0 (pa_cons (pe_un un_neg (pe_fld (pv 0) rfl)) (pa_cons (pe_fld (pv 0) rfl) pa_nil))))), ?_⟩
    refine ⟨_, rfl, p, C, dx, _, _, rfl, hp, T.cl, T.nT, look_t _ _, _, rfl, _, rfl, p, C, dx, _, _, rfl, hp, T.cl, T.nB, look_b _ _, ?_⟩
    exact mk_amt (C := C) (by omega) (by rw [Int.natAbs_neg]; exact st.lift) sb.lift fun H' z s2 n ha => q H' z s2 n ha
/-! ### what it tells -/
theorem decV (i j : Int) : decide (V.int i = V.int j) = decide (i = j) := by
  by_cases h : i = j
  · rw [dec_eq h, decide_eq_true h]
  · rw [dec_ne h, decide_eq_false h]
/-- x == y -/
def spEq (K : PySem.W.Frag) (C : Addr) : Sp := fun vs H Q _ => ∃ p v t b ty c, vs = [.ref p, v] ∧ AmtAt C H p t b ∧ TyX K H v ty ∧ PySem.W.kitOne K ty (.ref C) = some c ∧ (c = false → Q (.bl false) H) ∧
  (c = true → ∃ r t2 b2, v = .ref r ∧ AmtAt C H r t2 b2 ∧ Q (.bl (decide (t = t2) && decide (b = b2))) H)
theorem ok_eq (T : Tx K mg C) (F : FD K "__eq__" "Amount.__eq__" s_Amounteq [] f fd) : FnG P w K mg base CX0 1 f fd ["self", "other"] (spEq K C) := by
  refine ok0 F sc_Amounteq (fun vs H Q E h => ?_) (fun cdv A outer s H vs Q E hr h => ?_)
  · obtain ⟨p, v, t, b, ty, c, rfl, _⟩ := h
    rfl
  · obtain ⟨p, v, t, b, ty, c, rfl, ⟨dx, hp⟩, hty, hk, q0, q1⟩ := h
    refine ⟨_, (pss_one (ps_ret (pe_and (pe_callB call_isi (by rfl) T.n_isinstance (by decide +kernel) (pa_cons (pv 1) (pa_cons (pe_glob (v := .ref C) (by rfl) T.g_Amount rfl) pa_nil))) (pe_and (pe_cmpR op_eq (pe_fld (pv 0) rfl) (pe_fld (pv 1) rfl) (nomark _)) (pe_one (pe_cmpR op_eq (pe_fld (pv 0) rfl) (pe_fld (pv 1) rfl) (nomark _))))))), ?_⟩
    refine ⟨_, rfl, _, _, ty, _, _, rfl, .own C, hty, hk, _, rfl, iteB (fun e => ?_) (fun e => q0 e)⟩
    obtain ⟨r, t2, b2, rfl, ⟨dy, hr1⟩, q⟩ := q1 e
    refine ⟨_, rfl, p, C, dx, _, _, rfl, hp, T.cl, T.nT, look_t _ _, _, rfl, r, C, dy, _, _, rfl, hr1, T.cl, T.nT, look_t _ _, rfl, _, rfl, iteB (fun e => ?_) (fun e => ?_)⟩
    · refine ⟨_, rfl, p, C, dx, _, _, rfl, hp, T.cl, T.nB, look_b _ _, _, rfl, r, C, dy, _, _, rfl, hr1, T.cl, T.nB, look_b _ _, rfl, ?_⟩
      rw [decV] at e ⊢
      rw [e] at q
      exact q
    · rw [decV] at e
      rw [e] at q
      exact q
/-- a number that can be written -/
def Md (n : Int) : Prop := n.natAbs < 2 ^ 1900
theorem Md.log {n : Int} (h : Md n) : n.natAbs.log2 < 1920 := Nat.lt_of_lt_of_le (PySem.Flt.log2_lt_of (by decide) h) (by decide)
theorem Sm.md {n : Int} (h : Sm n) : Md n := Nat.lt_of_lt_of_le h (Nat.pow_le_pow_right (by decide) (by decide))
def txt (n : Int) : Str := toString n
theorem Md.len {n : Int} (h : Md n) : (txt n).length ≤ 1921 := by
  unfold txt
  rw [PySem.ofString_length]
  exact int_text_length_le (k := 1920) (by decide) h.log
def shown (t b : Int) : Str := if b = 1 then txt t else txt t ++ "/" ++ txt b
def repS (t b : Int) : Str := "Amount(" ++ txt t ++ ", " ++ txt b ++ ")"
def spShow (C : Addr) (g : Int → Int → Str) : Sp := fun vs H Q _ => ∃ p t b, vs = [.ref p] ∧ AmtAt C H p t b ∧ Md t ∧ Md b ∧ Q (.str (g t b)) H
theorem small {n : Nat} (h : n ≤ 100000) : n ≤ sizeLine := Nat.le_trans h (by rw [sizeLine_eq]; decide)
theorem ok_str (T : Tx K mg C) (F : FD K "__str__" "Amount.__str__" s_Amountstr [] f fd) : FnG P w K mg base CX0 1 f fd ["self"] (spShow C shown) := by
  refine ok0 F sc_Amountstr (fun vs H Q E h => ?_) (fun cdv A outer s H vs Q E hr h => ?_)
  · obtain ⟨p, t, b, rfl, _⟩ := h
    rfl
  · obtain ⟨p, t, b, rfl, ⟨dx, hp⟩, mt, mb, q⟩ := h
    refine ⟨_, (pss_cons (ps_if (pt_cmpR op_eq (pe_fld (pv 0) rfl) pe_int (nomark _)) (pss_one (ps_ret (pe_callTy call_str_int (by rfl) T.n_str (by decide +kernel) (pa_cons (pe_fld (pv 0) rfl) pa_nil)))) pss_nil)
      (pss_one (ps_ret (pe_joined (.cons (pe_fmt (pe_fld (pv 0) rfl)) (.cons pe_str (.cons (pe_fmt (pe_fld (pv 0) rfl)) .nil))))))), ?_⟩
    refine ⟨_, rfl, p, C, dx, _, _, rfl, hp, T.cl, T.nB, look_b _ _, rfl, _, rfl, iteB (fun e => ?_) (fun e => ?_)⟩
    · have e' : b = 1 := V.int.inj (of_decide_eq_true e)
      unfold shown at q
      rw [if_pos e'] at q
      exact ⟨_, rfl, p, C, dx, _, _, rfl, hp, T.cl, T.nT, look_t _ _, _, rfl, mt.log, q⟩
    · have e' : ¬ b = 1 := fun z => of_decide_eq_false e (by rw [z])
      unfold shown at q
      rw [if_neg e'] at q
      have l1 := mt.len
      have l2 := mb.len
      refine ⟨_, rfl, p, C, dx, _, _, rfl, hp, T.cl, T.nT, look_t _ _, .inr ⟨_, rfl, mt.log, _, rfl, ?_, ?_⟩⟩
      · rw [Str.empty_append]
        exact small (by show (txt t).length ≤ _; omega)
      · refine ⟨_, rfl, ?_, _, rfl, p, C, dx, _, _, rfl, hp, T.cl, T.nB, look_b _ _, .inr ⟨_, rfl, mb.log, _, rfl, ?_, ?_⟩⟩
        · rw [Str.empty_append, strLen_append]
          exact small (by show (txt t).length + 1 ≤ _; omega)
        · rw [Str.empty_append, strLen_append, strLen_append]
          exact small (by show (txt t).length + 1 + (txt b).length ≤ _; omega)
        · rw [Str.empty_append]
          exact q
theorem ok_repr (T : Tx K mg C) (F : FD K "__repr__" "Amount.__repr__" s_Amountrepr [] f fd) : FnG P w K mg base CX0 1 f fd ["self"] (spShow C repS) := by
  refine ok0 F sc_Amountrepr (fun vs H Q E h => ?_) (fun cdv A outer s H vs Q E hr h => ?_)
  · obtain ⟨p, t, b, rfl, _⟩ := h
    rfl
  · obtain ⟨p, t, b, rfl, ⟨dx, hp⟩, mt, mb, q⟩ := h
    refine ⟨_, (pss_one (ps_ret (pe_joined (.cons pe_str (.cons (pe_fmt (pe_fld (pv 0) rfl)) (.cons pe_str (.cons (pe_fmt (pe_fld (pv 0) rfl)) (.cons pe_str .nil)))))))), ?_⟩
    have l1 := mt.len
    have l2 := mb.len
    have e1 : Str.empty ++ ("Amount(" : Str) = "Amount(" := Str.empty_append _
    refine ⟨_, rfl, by rw [e1]; exact small (by decide), _, rfl, p, C, dx, _, _, rfl, hp, T.cl, T.nT, look_t _ _, .inr ⟨_, rfl, mt.log, _, rfl, ?_, ?_⟩⟩
    · rw [e1, strLen_append]
      exact small (by show 7 + (txt t).length ≤ _; omega)
    · refine ⟨_, rfl, ?_, _, rfl, p, C, dx, _, _, rfl, hp, T.cl, T.nB, look_b _ _, .inr ⟨_, rfl, mb.log, _, rfl, ?_, ?_⟩⟩
      · rw [e1, strLen_append, strLen_append]
        exact small (by show 7 + (txt t).length + 2 ≤ _; omega)
      · rw [e1, strLen_append, strLen_append, strLen_append]
        exact small (by show 7 + (txt t).length + 2 + (txt b).length ≤ _; omega)
      · refine ⟨_, rfl, ?_, ?_⟩
        · rw [e1, strLen_append, strLen_append, strLen_append, strLen_append]
          exact small (by show 7 + (txt t).length + 2 + (txt b).length + 1 ≤ _; omega)
        · rw [e1]
          exact q
/-- a property -/
def sgn (t : Int) : Int := (if decide (0 < t) = true then 1 else 0) - (if decide (t < 0) = true then 1 else 0)
def spGet (C : Addr) (g : Int → Int → Int) : Sp := fun vs H Q _ => ∃ p t b, vs = [.ref p] ∧ AmtAt C H p t b ∧ Q (.int (g t b)) H
theorem ok_top (T : Tx K mg C) (F : FD K "top" "Amount.top" s_Amount_top [] f fd) : FnG P w K mg base CX0 1 f fd ["self"] (spGet C fun t _ => t) := by
  refine ok0 F sc_Amount_top (fun vs H Q E h => ?_) (fun cdv A outer s H vs Q E hr h => ?_)
  · obtain ⟨p, t, b, rfl, _⟩ := h
    rfl
  · obtain ⟨p, t, b, rfl, ⟨dx, hp⟩, q⟩ := h
    exact ⟨_, (pss_one (ps_ret (pe_fld (pv 0) rfl))), _, rfl, p, C, dx, _, _, rfl, hp, T.cl, T.nT, look_t _ _, q⟩
theorem ok_bottom (T : Tx K mg C) (F : FD K "bottom" "Amount.bottom" s_Amount_bottom [] f fd) : FnG P w K mg base CX0 1 f fd ["self"] (spGet C fun _ b => b) := by
  refine ok0 F sc_Amount_bottom (fun vs H Q E h => ?_) (fun cdv A outer s H vs Q E hr h => ?_)
  · obtain ⟨p, t, b, rfl, _⟩ := h
    rfl
  · obtain ⟨p, t, b, rfl, ⟨dx, hp⟩, q⟩ := h
    exact ⟨_, (pss_one (ps_ret (pe_fld (pv 0) rfl))), _, rfl, p, C, dx, _, _, rfl, hp, T.cl, T.nB, look_b _ _, q⟩
theorem ok_sign (T : Tx K mg C) (F : FD K "sign" "Amount.sign" s_Amount_sign [] f fd) : FnG P w K mg base CX0 1 f fd ["self"] (spGet C fun t _ => sgn t) := by
  refine ok0 F sc_Amount_sign (fun vs H Q E h => ?_) (fun cdv A outer s H vs Q E hr h => ?_)
  · obtain ⟨p, t, b, rfl, _⟩ := h
    rfl
  · obtain ⟨p, t, b, rfl, ⟨dx, hp⟩, q⟩ := h
    exact ⟨_, (pss_one (ps_ret (pe_op op_sub (pe_callTy call_int1 (by rfl) T.n_int (by decide +kernel) (pa_cons (pe_cmpR op_gt (pe_fld (pv 0) rfl) pe_int (nomark _)) pa_nil)) (pe_callTy call_int1 (by rfl) T.n_int (by decide +kernel) (pa_cons (pe_cmpR op_lt (pe_fld (pv 0) rfl) pe_int (nomark _)) pa_nil))))), _, rfl, p, C, dx, _, _, rfl, hp, T.cl, T.nT, look_t _ _, _, _, rfl, rfl, .inr ⟨_, rfl, _, rfl, p, C, dx, _, _, rfl, hp, T.cl, T.nT, look_t _ _, _, _, rfl, rfl, .inr ⟨_, rfl, _, _, rfl, rfl, q⟩⟩⟩
end
end K12

set_option Elab.async false
set_option linter.all false
set_option maxRecDepth 100000
set_option maxHeartbeats 2000000
/-! LLKw: a class called with keywords; t[::-1] of a tuple; {x!r} of data. -/
namespace LL
open PySem PySem.Spec PyProof.Rows L2
section
variable (P : Program) (w : World) (K : PySem.W.Frag) (mg : Str → Option Value) (base : Heap) (CX : CXT) (k : Nat)
/-- C(e, .., k = v, ..): n values and the keywords ks; sp of all in the order in which they are written -/
structure Mkk (x : Str) (n : Nat) (ks : List Str) (sp : Sp) : Prop where
  ex : ∃ (C f : Addr) (fd : FuncData) (ps : List Str) (g : List Value → List Value → List Value) (gV : List V → List V → List V) (si : Sp), Mk K C f ∧ mg x = some (.ref C) ∧ KBn K fd ps (n + 1) ks g gV ∧ FnG P w K mg base CX k f fd ps si ∧
    ∀ vs zs H Q E, vs.length = n → zs.length = ks.length → sp (vs ++ zs) H Q E → ∀ a dx, H a = none → H dx = none → dx ≠ a → si (gV (.ref a :: vs) zs) (upd (upd H dx (.own a)) a (.ins C dx [])) (fun v H2 => v = .non ∧ Q (.ref a) H2) E
end
def tKw (n m : Nat) (sp : Sp) (E : XK) (t tk : TA) : TE := fun σ H Q => t σ H fun vs H1 => tk σ H1 fun zs H2 => vs.length = n ∧ zs.length = m ∧ sp (vs ++ zs) H2 Q E
section
variable {X : Cx} {CX : CXT} {k n : Nat} {f C : Addr} {fd : FuncData} {ps ks : List Str} {sp : Sp} {E : XK} {x : Str} {p pos : Pos} {e : Expr} {es : List Expr} {kws : List Keyword} {t tk : TA} {g : List Value → List Value → List Value} {gV : List V → List V → List V}
theorem run_makeW {pins : List (Addr × Obj)} {σ : L2.St} {H : Hp} {s : Shared} {Q : VK} {us ws : List Value} {vs zs : List V} (M : Mk X.K C f) (F : FnG X.prog X.w X.K X.mg X.base CX k f fd ps sp) (hr : Rm (k + 1) X.A) (hb : KBn X.K fd ps (n + 1) ks g gV)
    (hx : Passes CX X E) (I : Inv X pins σ H s) (r : Vals vs us) (rz : Vals zs ws) (l1 : vs.length = n) (l2 : zs.length = ks.length)
    (h : ∀ x dx, H x = none → H dx = none → dx ≠ x → sp (gV (.ref x :: vs) zs) (upd (upd H dx (.own x)) x (.ins C dx [])) (fun v H2 => v = .non ∧ Q (.ref x) H2) E) :
    wpAny (model X.prog X.w) X.A (call (.ref C) us (ks.zip ws)) (EP X pins σ Q) X.xe s := by
  have hq := h (s.heap.objs.size + 1) s.heap.objs.size (I.hok.fresh (Nat.le_succ _)) (I.hok.fresh (Nat.le_refl _)) (Nat.ne_of_lt (Nat.lt_succ_self _))
  have I2 := Inv.made (C := C) I
  have r1 : Vals (V.ref (s.heap.objs.size + 1) :: vs) (Value.ref (s.heap.objs.size + 1) :: us) := .cons rfl r
  have r2 := hb.rel r1 rz
  have e1 : (Value.ref (s.heap.objs.size + 1) :: us).length = n + 1 := r1.length.symm.trans (congrArg Nat.succ l1)
  have e2 : ws.length = ks.length := rz.length.symm.trans l2
  refine wpAny_call (make_map (f := f) I.kIn M.makes M.init (beq_iff_eq.mp M.fn) (codeAny_mono (F.run _ X.stack _ _ ⟨Value.ref (s.heap.objs.size + 1) :: us, ks.zip ws⟩ (g (Value.ref (s.heap.objs.size + 1) :: us) ws) _ _ E (hr.make C us (ks.zip ws))
    (I2.env0.make C us (ks.zip ws)) (hb.to _ (Value.ref (s.heap.objs.size + 1) :: us) ws I2.kIn e1 e2) r2 hq) fun r s' hq' => ?_))
  match r, hq' with
  | .error er, hq' => exact hx pins σ _ _ er s' I2 hq'
  | .ok (.ret u), hq' =>
    obtain ⟨v, H', I3, rv, rfl, q3⟩ := I2.after hq'
    exact ⟨rv, ⟨V.ref (s.heap.objs.size + 1), H', I3, rfl, q3⟩⟩
  | .ok .next, hq' => exact False.elim hq'
  | .ok .brk, hq' => exact False.elim hq'
  | .ok .cont, hq' => exact False.elim hq'
theorem pe_mkk (G : Mkk X.prog X.w X.K X.mg X.base CX k x n ks sp) (hr : Rm (k + 1) X.A) (hx : Passes CX X E) (ha : PA X (e :: es) t) (hkw : PK X kws tk) (hg : Gl X x := by rfl)
    (hall : (backToKw pos (keywordEach kws X.env)).all (·.1.isSome) = true := by rfl) (hks : (backToKw pos (keywordEach kws X.env)).filterMap (·.1) = ks := by rfl)
    (hdb : (x == ("__debug__" : Str)) = false := by decide) (he : starEach (e :: es) X.env = (false, eval e X.env) :: starEach es X.env := by rfl)
    (hpl : ((backTo pos (starEach (e :: es) X.env)).any (·.1) || (backToKw pos (keywordEach kws X.env)).any (·.1.isNone)) = false := by rfl) :
    PE X (.Call (.Name x p) (e :: es) kws pos) (tKw n ks.length sp E t tk) := by
  obtain ⟨C, f, fd, ps, g, gV, si, M, hm, hb, F, conv⟩ := G.ex
  refine ⟨fun pins s σ H Q I h => ?_⟩
  refine wpAny_Call_Name_kw (ld_glob I hg hm ?_ hdb)
  refine PySem.W.callWith_KW (h₀ := X.base) I.ok.mod.kin M.kp hall (thn (ha.run pos pins s σ H _ I h) fun us s1 z => ?_) hpl he
  obtain ⟨vs, H1, I1, r, q⟩ := z
  refine thn (hkw.run pos pins s1 σ H1 _ I1 q) fun ws s2 z => ?_
  obtain ⟨zs, H2, I2, rz, l1, l2, q2⟩ := z
  refine ⟨I2.kIn, ?_⟩
  rw [hks]
  exact run_makeW M F hr hb hx I2 r rz l1 l2 (conv vs zs H2 Q E l1 l2 q2)
theorem pe_mkk0 (G : Mkk X.prog X.w X.K X.mg X.base CX k x 0 ks sp) (hr : Rm (k + 1) X.A) (hx : Passes CX X E) (hkw : PK X kws tk) (hg : Gl X x := by rfl)
    (hall : (backToKw pos (keywordEach kws X.env)).all (·.1.isSome) = true := by rfl) (hks : (backToKw pos (keywordEach kws X.env)).filterMap (·.1) = ks := by rfl) (hdb : (x == ("__debug__" : Str)) = false := by decide)
    (hpl : ((backTo pos (starEach [] X.env)).any (·.1) || (backToKw pos (keywordEach kws X.env)).any (·.1.isNone)) = false := by rfl) :
    PE X (.Call (.Name x p) [] kws pos) (tKw 0 ks.length sp E tNil tk) := by
  obtain ⟨C, f, fd, ps, g, gV, si, M, hm, hb, F, conv⟩ := G.ex
  refine ⟨fun pins s σ H Q I h => ?_⟩
  refine wpAny_Call_Name_kw (ld_glob I hg hm ?_ hdb)
  refine PySem.W.callWith_KW0 (h₀ := X.base) I.ok.mod.kin M.kp hall ?_ hpl
  refine thn (hkw.run pos pins s σ H _ I h) fun ws s2 z => ?_
  obtain ⟨zs, H2, I2, rz, l1, l2, q2⟩ := z
  refine ⟨I2.kIn, ?_⟩
  rw [hks]
  exact run_makeW (us := []) (vs := []) M F hr hb hx I2 .nil rz rfl l2 (conv [] zs H2 Q E rfl l2 q2)
end
/-! ### t[::-1] -/
section
variable {prog : Program} {w : World} {A : Around} {E : Value → Shared → Prop} {s : Shared}
theorem adjust_rev (n : Nat) : Builtin.Slice.sliceAdjust none none (-1) (n : Int) = ((n : Int) - 1, -1) := rfl
theorem places_rev (n : Nat) : Builtin.Slice.slicePlaces ((n : Int) - 1) (-1) (-1) = n := by
  unfold Builtin.Slice.slicePlaces
  rw [if_neg (by decide)]
  have e : (-(-1) : Int) = 1 := rfl
  rw [e, Int.ediv_one]
  split <;> omega
theorem fm_congr {α β : Type} {f g : α → Option β} : ∀ {l : List α}, (∀ a ∈ l, f a = g a) → l.filterMap f = l.filterMap g
  | [], _ => rfl
  | a :: l, h => by rw [List.filterMap_cons, List.filterMap_cons, h a (List.mem_cons_self ..), fm_congr fun b hb => h b (List.mem_cons_of_mem _ hb)]
theorem pick_rev (xs : Array Value) : ((List.range xs.size).filterMap fun (m : Nat) => xs[((xs.size : Int) - 1 + (m : Int) * -1).toNat]?).toArray = xs.toList.reverse.toArray := by
  have e := HT.pick_gen xs.toList.reverse.toArray 0 xs.size
  rw [List.drop_zero, List.take_of_length_le (by rw [List.length_reverse, Array.length_toList]; exact Nat.le_refl _)] at e
  refine Eq.trans (congrArg List.toArray (fm_congr fun m hm => ?_)) e
  have hm := List.mem_range.mp hm
  have q : ((xs.size : Int) - 1 + (m : Int) * -1).toNat = xs.size - 1 - m := by omega
  have q2 : (((0 : Nat) : Int) + (m : Int) * 1).toNat = m := by omega
  rw [q, q2, show xs.toList.reverse.toArray[m]? = xs.toList.reverse[m]? from List.getElem?_toArray .., List.getElem?_reverse (by rw [Array.length_toList]; exact hm), Array.length_toList, Array.getElem?_toList]
theorem getItem_tuple_rev {t sl : Addr} {items : Array Value} {vl vu vs : Value} {Q : Value → Shared → Prop} (ht : IsTup s.heap t items) (hs : s.heap.IsSliceOf sl vl vu vs) (pl : IsPart vl none) (pu : IsPart vu none) (ps : IsPart vs (some (-1)))
    (h : Q (.ref s.heap.objs.size) { s with heap := s.heap.push { cls := .type "tuple", data := .seq items.toList.reverse.toArray } })
    (hsz : items.size ≤ sizeLine) : wpAny (model prog w) A (getItem (.ref t) (.ref sl)) Q E s := by
  have htake : sizeOk (.seq items.toList.reverse.toArray) := by
    show items.toList.reverse.toArray.size ≤ sizeLine
    rw [List.size_toArray, List.length_reverse, Array.length_toList]
    exact hsz
  obtain ⟨os, hos, hcs, hds⟩ := id hs
  have hTs : s.TypeIs (.ref sl) "slice" := ⟨os, hos, hcs⟩
  unfold getItem
  try with_reducible refine wpAny_holding ?_
  first | refine wpAny_bind (wpAny_pure ?_) | skip
  refine wpAny_bind (wpAny_sequenceKey ht.typeIs (by decide) ?_)
  refine wpAny_bind (wpAny_callSpecial?_slot (name := Str.ofString "__getitem__") ht.typeIs PyProof.Rows.slot_tuple_getitem
    (wpAny_call_entry PyProof.Rows.slot_tuple_getitem ht.typeIs entry_tuple_getitem ?_ (args_tuple_getitem _ _)))
  show wpAny _ _ (Builtin.Tuple.tupleItemsOf (.ref t) >>= _) _ _ s
  refine wpAny_bind (tupleItemsOf_ ht ?_)
  refine wpAny_bind (wpAny_typeOf hTs ?_)
  rw [if_pos (by decide)]
  have app : ∀ {A : Around} {Q : Int × Int × Nat → Shared → Prop}, Q ((items.size : Int) - 1, -1, items.size) s → wpAny (model prog w) A (Builtin.Slice.sliceApplied (.ref sl) (pure (items.size : Int))) Q E s := by
    intro A Q h
    unfold Builtin.Slice.sliceApplied Builtin.Slice.sliceFields
    refine wpAny_bind (wpAny_bind (wpAny_field hos hds (x := vl) rfl (wpAny_bind (wpAny_field hos hds (x := vu) rfl (wpAny_bind (wpAny_field hos hds (x := vs) rfl (wpAny_pure ?_)))))))
    refine wpAny_bind (HT.slicePart_ ps ?_)
    show wpAny _ _ (if ((-1 : Int) == 0) = true then _ else _) _ _ s
    rw [if_neg (by decide)]
    refine wpAny_bind (HT.slicePart_ pl (wpAny_bind (HT.slicePart_ pu (wpAny_bind (wpAny_pure ?_)))))
    show wpAny _ _ (match Builtin.Slice.sliceAdjust none none (-1) (items.size : Int) with | (lo, hi) => pure (lo, (-1 : Int), Builtin.Slice.slicePlaces lo hi (-1))) _ _ s
    rw [adjust_rev]
    show wpAny _ _ (pure ((items.size : Int) - 1, (-1 : Int), Builtin.Slice.slicePlaces ((items.size : Int) - 1) (-1) (-1))) _ _ s
    rw [places_rev]
    exact wpAny_pure h
  refine wpAny_bind (app ?_)
  have hno : ¬ ((((items.size : Int) - 1) == 0 && (-1 : Int) == 1 && items.size == items.size) = true) := by
    rw [show ((-1 : Int) == 1) = false from rfl, Bool.and_false, Bool.false_and]
    exact Bool.false_ne_true
  show wpAny _ _ (if (((items.size : Int) - 1) == 0 && (-1 : Int) == 1 && items.size == items.size) = true then _ else _) _ _ s
  rw [if_neg hno, pick_rev]
  first
    | exact wpAny_bind (m := Builtin.Tuple.tupleExact _) (wpAny_newObj_type (wpAny_pure ⟨_, rfl, wpAny_pure h⟩) htake)
    | exact wpAny_bind (m := Builtin.Tuple.tupleExact _) (wpAny_newObj_type (wpAny_bind (wpAny_pure (wpAny_pure ⟨_, rfl, wpAny_pure h⟩))) htake)
    | exact wpAny_bind (wpAny_bind (m := Builtin.Tuple.tupleExact _) (wpAny_newObj_type (wpAny_pure (wpAny_pure ⟨_, rfl, wpAny_pure h⟩)) htake))
    | exact wpAny_bind (wpAny_bind (m := Builtin.Tuple.tupleExact _) (wpAny_newObj_type (wpAny_pure ⟨_, rfl, wpAny_pure h⟩) htake))
end
section
variable {X : Cx}
def tRevT (K : PySem.W.Frag) (te : TE) : TE := fun σ H Q => te σ H fun x H1 => ∃ a xs, x = .ref a ∧ SqT K H1 a xs ∧ ∀ p, H1 p = none → Q (.ref p) (upd H1 p (.tup xs.reverse))
theorem pe_revT {e : Expr} {te : TE} {k : Nat} {p1 p2 p3 pos : Pos} (he : PE X e te) : PE X (.Subscript e (.Slice none none (some (.UnaryOp .USub (.Constant (.int 1) k p1) p2)) p3) pos) (tRevT X.K te) := by
  refine ⟨fun pins s σ H Q I h => ?_⟩
  refine Subscript_ (thn (he.run pins s σ H _ I h) fun v s1 z => ?_)
  obtain ⟨x, H1, I1, r1, q1⟩ := z
  obtain ⟨a, xs, ex, hx, q⟩ := q1
  subst ex
  cases r1
  have hst : PO X (some (.UnaryOp .USub (.Constant (.int 1) k p1) p2)) (tPart (tUn (rU fun i => .int (-i)) (tC (.int 1)))) := po_some (pe_un un_neg pe_int)
  refine wpAny_Slice (thn (po_none.run pins s1 σ H1 (fun o H2 => o = none ∧ H2 = H1) I1 ⟨rfl, rfl⟩) fun vl s2 z => ?_)
  obtain ⟨l, H2, I2, pl, el, e2⟩ := z
  subst el e2
  refine thn (po_none.run pins s2 σ H2 (fun o H3 => o = none ∧ H3 = H2) I2 ⟨rfl, rfl⟩) fun vu s3 z => ?_
  obtain ⟨u, H3, I3, pu, eu, e3⟩ := z
  subst eu e3
  refine thn (hst.run pins s3 σ H3 (fun o H4 => o = some (-1) ∧ H4 = H3) I3 ⟨1, rfl, -1, rfl, rfl, rfl⟩) fun vs s4 z => ?_
  obtain ⟨o, H4, I4, ps, eo, e4⟩ := z
  subst eo e4
  have I5 : Inv X pins σ H4 { s4 with heap := s4.heap.push { cls := .type "slice", data := .fields #[vl, vu, vs] } } := I4.kept (t' := s4.toks) fun b ob q => Heap.get?_push_of_some _ q
  obtain ⟨its, r, ht, hz⟩ := I5.tuple hx
  have hlen := r.length
  show wpAny (model X.prog X.w) X.A (subscriptTail e (.Slice none none (some (.UnaryOp .USub (.Constant (.int 1) k p1) p2)) p3) (.ref a) (.ref s4.heap.objs.size)) (EP X pins σ Q) X.xe { s4 with heap := s4.heap.push { cls := .type "slice", data := .fields #[vl, vu, vs] } }
  refine tail_any (ops := [.ref a, .ref s4.heap.objs.size]) ht.typeIs (PyProof.Rows.slot_tuple_getitem.lookup) ?_ (by with_unfolding_all rfl)
  refine getItem_tuple_rev ht (Heap.IsSliceOf.new _ vl vu vs) pl pu ps ?_ (by rw [List.size_toArray]; omega)
  refine ⟨.ref _, _, I5.laid (t' := s4.toks) (o := .tup xs.reverse) (fun b ob q => Heap.get?_push_of_some _ q) (Nat.le_refl _) ?_, rfl, q _ (I5.hok.fresh (Nat.le_refl _))⟩
  exact ⟨by rw [List.length_reverse]; exact hz, _, r.reverse, IsTup.new _ _⟩
end
/-! ### {x!r} of data -/
def tFmtRD (K : PySem.W.Frag) (te : TE) : TE := fun σ H Q => te σ H fun x H1 => ∃ a d, x = .ref a ∧ Dp K H1 (.ref a) d ∧ Shw d ∧ d.depth ≤ 40 ∧ cost d ≤ 1000000 ∧ Q (.str d.shown) H1
theorem pe_fmtRD {X : Cx} {k : Nat} {e : Expr} {te : TE} {pos : Pos} (hr : Rm k X.A) (he : PE X e te) (hk : 12 < k := by decide) : PE X (.FormattedValue e 114 none pos) (tFmtRD X.K te) := by
  refine ⟨fun pins s σ H Q I h => ?_⟩
  refine wpAny_FormattedValue_repr (thn (he.run pins s σ H _ I h) fun v s1 hv => ?_)
  obtain ⟨x, H1, I1, r1, a, d, rfl, hd, hs, hp, hc, q⟩ := hv
  obtain ⟨as, rd⟩ := Dp.reads I1 d _ _ hd r1
  cases (show v = Value.ref a from r1)
  have hu := hr.r.units
  obtain ⟨z1, z2, z3⟩ := hs.all
  have hz : d.shown.length ≤ sizeLine := Nat.le_trans (Nat.le_trans z1 hc) (by rw [sizeLine_eq]; decide)
  exact pyReprObj_of_reads rd z2 (fun z => by rw [z3] at z; cases z) (hr.g hk) (by omega) (fun _ _ e => e) (fun h' u tk hk => wpAny_formatField_str ⟨.str d.shown, H1, I1.kept hk, ⟨_, rfl⟩, q⟩ ⟨.str d.shown, H1, (I1.kept hk).tok _, ⟨_, rfl⟩, q⟩ hz) hz
/-- list(d) of a dict that may be walked -/
theorem listD_of {H : Hp} {p : Addr} {kvs : List (Key × V)} {Q : VK} (h : H p = some (.dK kvs)) (q : ∀ r H', Same H H' → H r = none → H' r = some (.lst (kvs.map fun kv => kV kv.1)) → Q (.ref r) H') : rListD [.ref p] H Q := ⟨p, kvs, rfl, h, fun r hr => q r _ (same_upd hr) hr upd_same⟩
section
variable {X : Cx} {K : PySem.W.Frag} {e : Expr} {f : Str} {pos : Pos} {ta : TE}
theorem pe_fldK (h : X.K = K) (he : PE X e ta) (hab : attributeBase e f X.env (eval e X.env) = eval e X.env := by rfl) : PE X (.Attribute e f pos) (tFld K ta f) := h ▸ pe_fld he hab
end
section
variable {X : Cx} {K : PySem.W.Frag} {o e : Expr} {es : List Expr} {to : TE} {t : TA} {name : Str} {apos cpos : Pos} {T id : String} {r : V → List V → Hp → VK → Prop}
theorem pe_bmN (hK : X.K = K) (pa : PlainAttrs T) (slot : Slot T name id) (hty : typeOf (.builtin id) = pure (.type "method_descriptor")) (hm : MtR X id r) (ho : PE X o to) (ha : PA X (e :: es) t)
    (hbase : attributeBase o name X.env (eval o X.env) = eval o X.env := by rfl)
    (hfew : ((backTo cpos (starEach (e :: es) X.env)).all (fun x => !x.1) && (backToKw cpos (keywordEach [] X.env)).all (fun x => x.1.isSome)
      && decide ((e :: es).length + ([] : List Keyword).length + (if ([] : List Keyword).isEmpty then 0 else 1) < 30)) = true := by rfl)
    (hline : (apos.endLine == cpos.line) = true := by rfl) (hs : starEach (e :: es) X.env = (false, eval e X.env) :: starEach es X.env := by rfl) (hplain : (backTo cpos (starEach es X.env)).any (·.1) = false := by rfl) :
    PE X (.Call (.Attribute o name apos) (e :: es) [] cpos) (tBM K T r to t) := hK ▸ pe_bm pa slot hty hm ho ha hbase hfew hline hs hplain
theorem call_len_seqK (hK : X.K = K) : CallR X (.builtin "len") (fun xs H Q => ∃ p ys, xs = [.ref p] ∧ (SqL K H p ys ∨ SqT K H p ys) ∧ Q (.int ys.length) H) := hK ▸ call_len_seq
end
/-! ### a default that is an empty tuple -/
/-- the first default of the def at adr -/
def d1A (adr : PySem.W.Frag → Addr) (K : PySem.W.Frag) : Addr := match fdAt K (adr K) with
  | some g => (match g.defaults with
    | .ref T => (match K.lookup T with
      | some ⟨_, _, .seq its _, _⟩ => (match its.toList with
        | .ref a :: _ => a
        | _ => 0)
      | _ => 0)
    | _ => 0)
  | none => 0
/-- the empty tuple lies at a -/
def fEmpT (ad : PySem.W.Frag → Addr) : Ft := fun K => match K.lookup (ad K) with
  | some ⟨c, _, .seq its _, _⟩ => (c == .type "tuple") && its.toList.isEmpty
  | _ => false
theorem fEmpT_ok {ad : PySem.W.Frag → Addr} {K : PySem.W.Frag} (h : fEmpT ad K = true) : ∃ (o : Obj) (its : Array Value) (n : Nat), K.lookup (ad K) = some o ∧ o.cls = .type "tuple" ∧ o.data = .seq its n ∧ its.size ≤ sizeLine ∧ Vals [] its.toList := by
  unfold fEmpT at h
  split at h
  · rename_i c d its n sl e
    obtain ⟨h1, h2⟩ := He.ba h
    refine ⟨_, its, n, e, beq_iff_eq.mp h1, rfl, ?_, ?_⟩
    · rw [← Array.length_toList, List.isEmpty_iff.mp h2]
      exact Nat.zero_le _
    · rw [List.isEmpty_iff.mp h2]
      exact .nil
  · cases h
end LL

set_option Elab.async false
set_option linter.all false
set_option maxRecDepth 100000
set_option maxHeartbeats 2000000
/-! LLDeep: a pair of ints in a list or a tuple of such. -/
namespace LL
open PySem PySem.Spec PyProof.Rows L2
abbrev IP := Int × Int
def PrV (H : Hp) (v : V) (p : IP) : Prop := ∃ t, v = .ref t ∧ H t = some (.tup [.int p.1, .int p.2])
theorem PrV.same {H H' : Hp} {v : V} {p : IP} (h : PrV H v p) (s : Same H H') : PrV H' v p := let ⟨t, e, x⟩ := h; ⟨t, e, s _ _ x⟩
structure Prs (H : Hp) (vs : List V) (ps : List IP) : Prop where
  len : vs.length = ps.length
  at_ : ∀ (i : Nat) v p, vs[i]? = some v → ps[i]? = some p → PrV H v p
theorem Prs.same {H H' : Hp} {vs : List V} {ps : List IP} (h : Prs H vs ps) (s : Same H H') : Prs H' vs ps := ⟨h.len, fun i v p e1 e2 => (h.at_ i v p e1 e2).same s⟩
def PsAt (H : Hp) (a : Addr) (ps : List IP) : Prop := ∃ vs, Lt H a vs ∧ Prs H vs ps
theorem PsAt.same {H H' : Hp} {a : Addr} {ps : List IP} (h : PsAt H a ps) (s : Same H H') : PsAt H' a ps := let ⟨vs, l, r⟩ := h; ⟨vs, l.same s, r.same s⟩
def ipD (p : IP) : PyData := .tuple [.int p.1, .int p.2]
theorem ipD_inj {p q : IP} (h : ipD p = ipD q) : p = q := by
  unfold ipD at h
  simp only [PyData.tuple.injEq, List.cons.injEq, PyData.int.injEq, and_true] at h
  exact Prod.ext h.1 h.2
theorem pn_ip (p : IP) : Pn 1 (ipD p) := fun d hd => by
  rcases List.mem_cons.mp hd with rfl | hd
  · trivial
  · cases List.mem_singleton.mp hd
    trivial
theorem pn_ips (ps : List IP) : Pn 2 (.list (ps.map ipD)) := fun d hd => by
  obtain ⟨p, _, rfl⟩ := List.mem_map.mp hd
  exact pn_ip p
theorem pn_ipt (ps : List IP) : Pn 2 (.tuple (ps.map ipD)) := fun d hd => by
  obtain ⟨p, _, rfl⟩ := List.mem_map.mp hd
  exact pn_ip p
theorem ip_any (ps : List IP) (p : IP) : ((ps.map ipD).any fun z => PyData.eqv z (ipD p)) = decide (p ∈ ps) := by
  rw [List.any_map]
  have e : ∀ q : IP, ((fun z => PyData.eqv z (ipD p)) ∘ ipD) q = decide (q = p) := fun q => by
    show PyData.eqv (ipD q) (ipD p) = _
    by_cases h : q = p
    · rw [decide_eq_true h, (Pn.eqv (pn_ip q) (pn_ip p)).mpr (by rw [h])]
    · rw [decide_eq_false h]
      exact Bool.eq_false_iff.mpr fun z => h (ipD_inj ((Pn.eqv (pn_ip q) (pn_ip p)).mp z))
  rw [show ((fun z => PyData.eqv z (ipD p)) ∘ ipD) = fun q => decide (q = p) from funext e]
  by_cases h : p ∈ ps
  · rw [decide_eq_true h]
    exact List.any_eq_true.mpr ⟨p, h, decide_eq_true rfl⟩
  · rw [decide_eq_false h]
    exact List.any_eq_false.mpr fun q hq z => h (of_decide_eq_true z ▸ hq)
section
variable {K : PySem.W.Frag} {H : Hp}
theorem dp_ip {v : V} {p : IP} (h : PrV H v p) : Dp K H v (ipD p) := by
  obtain ⟨t, rfl, ht⟩ := h
  exact .tup (SqT.of ht) (.cons (.int _) (.cons (.int _) .nil))
theorem dp_ips {vs : List V} {ps : List IP} (h : Prs H vs ps) : DpAll K H vs (ps.map ipD) := dpa_at (by rw [List.length_map]; exact h.len) fun i v d e1 e2 => by
  rw [List.getElem?_map] at e2
  obtain ⟨p, hp, rfl⟩ := Option.map_eq_some_iff.mp e2
  exact dp_ip (h.at_ i v p e1 hp)
end
/-- p in ps -/
def rInP (neg : Bool) : R2 := fun x y H Q => ∃ (p : IP) (a : Addr) (ps : List IP), PrV H x p ∧ y = .ref a ∧ PsAt H a ps ∧ Q (.bl (if neg then !decide (p ∈ ps) else decide (p ∈ ps))) H
section
variable {X : Cx}
theorem op_inP (hu : X.A.units + 65 < cLine) : OpR X (compareOp .In) (rInP false) := by
  intro pins s σ H x y v u Q I rx ry h
  obtain ⟨p, a, ps, hx, rfl, ⟨vs, hl, pr⟩, q⟩ := h
  obtain ⟨as, r1⟩ := Dp.reads I _ x v (dp_ip (K := X.K) hx) rx
  have sd := (pn_ip p).shp (n := 1) (by decide)
  have q : Q (.bl ((ps.map ipD).any fun z => PyData.eqv z (ipD p))) H := by rw [ip_any]; exact q
  rcases hl with hl | hl
  · obtain ⟨bs, r2⟩ := Dp.reads I _ _ u (.lst (SqL.of (K := X.K) hl) (dp_ips pr)) ry
    exact SeqAt.in_list_reads r2 r1 (SeqAt.canLay_of_shaped ((pn_ips ps).shp (n := 2) (by decide))) (SeqAt.canLay_of_shaped sd) (room_in_shaped sd hu) ⟨.bl _, H, I, rfl, q⟩
  · obtain ⟨bs, r2⟩ := Dp.reads I _ _ u (.tup (SqT.of (K := X.K) hl) (dp_ips pr)) ry
    exact SeqAt.in_tuple_reads r2 r1 (SeqAt.canLay_of_shaped ((pn_ipt ps).shp (n := 2) (by decide))) (SeqAt.canLay_of_shaped sd) (room_in_shaped sd hu) ⟨.bl _, H, I, rfl, q⟩
theorem op_notInP (hu : X.A.units + 65 < cLine) : OpR X (compareOp .NotIn) (rInP true) := by
  intro pins s σ H x y v u Q I rx ry h
  obtain ⟨p, a, ps, hx, rfl, ⟨vs, hl, pr⟩, q⟩ := h
  obtain ⟨as, r1⟩ := Dp.reads I _ x v (dp_ip (K := X.K) hx) rx
  have sd := (pn_ip p).shp (n := 1) (by decide)
  have q : Q (.bl (!(ps.map ipD).any fun z => PyData.eqv z (ipD p))) H := by rw [ip_any]; exact q
  rcases hl with hl | hl
  · obtain ⟨bs, r2⟩ := Dp.reads I _ _ u (.lst (SqL.of (K := X.K) hl) (dp_ips pr)) ry
    exact SeqAt.notIn_list_reads r2 r1 (SeqAt.canLay_of_shaped ((pn_ips ps).shp (n := 2) (by decide))) (SeqAt.canLay_of_shaped sd) (room_in_shaped sd hu) ⟨.bl _, H, I, rfl, q⟩
  · obtain ⟨bs, r2⟩ := Dp.reads I _ _ u (.tup (SqT.of (K := X.K) hl) (dp_ips pr)) ry
    exact SeqAt.notIn_tuple_reads r2 r1 (SeqAt.canLay_of_shaped ((pn_ipt ps).shp (n := 2) (by decide))) (SeqAt.canLay_of_shaped sd) (room_in_shaped sd hu) ⟨.bl _, H, I, rfl, q⟩
end
theorem un65 {k : Nat} {A : Around} (hr : Rm k A) : A.units + 65 < cLine := by
  have := hr.r.un
  omega
/-! ### a slice of a list or a tuple -/
def rSlQ (K : PySem.W.Frag) : V → Option Int → Option Int → Hp → VK → Prop := fun x lo hi H Q => rSlL K x lo hi H Q ∨ rSlA K x lo hi H Q
theorem sl_seqA {X : Cx} : SlR X (rSlQ X.K) := sl_list.or sl_tupA
theorem cut_lt {K : PySem.W.Frag} {H : Hp} {a : Addr} {vs : List V} {n : Nat} {Q : VK} (h : Lt H a vs) (hn : n ≤ vs.length) (q : ∀ H' b, Same H H' → Lt H' b (vs.take n) → Q (.ref b) H') : rSlQ K (.ref a) none (some (n : Int)) H Q := by
  rcases h with h | h
  · refine .inl ⟨a, vs, rfl, SqL.of h, fun p hp => ?_⟩
    rw [cutV_to]
    exact q _ p (same_upd hp) (.inl upd_same)
  · have e1 : HT.sIx vs.length 0 none = 0 := rfl
    have e2 : HT.sIx vs.length vs.length (some (n : Int)) = n := by
      show (if (n : Int) < 0 then ((n : Int) + (vs.length : Int)).toNat else min (n : Int).toNat vs.length) = n
      rw [if_neg (by omega)]
      omega
    refine .inr ⟨a, vs, rfl, SqT.of h, fun w => ?_, fun w p hp => ?_⟩
    · rw [e2] at w
      refine q H a Same.rfl' (.inr ?_)
      rw [w.2, List.take_length]
      exact h
    · rw [cutV_to]
      exact q _ p (same_upd hp) (.inr upd_same)
end LL

set_option Elab.async false
set_option linter.all false
set_option maxRecDepth 100000
set_option maxHeartbeats 2000000
/-! LLNone: None in a list of None's and of lists; its first place. -/
namespace LL
open PySem PySem.Spec PyProof.Rows L2
def isNn : V → Bool
  | .non => true
  | _ => false
def isNnU : Value → Bool
  | .none => true
  | _ => false
/-- None, or a list -/
def NonL (K : PySem.W.Frag) (H : Hp) (v : V) : Prop := v = .non ∨ ∃ a ys, v = .ref a ∧ SqL K H a ys
section
variable {X : Cx} {pins : List (Addr × Obj)} {σ : L2.St} {H : Hp} {s : Shared}
theorem isNn_of {v : V} {u : Value} (r : RelV v u) (h : NonL X.K H v) : isNnU u = isNn v := by
  rcases h with rfl | ⟨a, ys, rfl, _⟩
  · cases (show u = .none from r)
    rfl
  · cases (show u = .ref a from r)
    rfl
theorem any_non : ∀ {xs : List V} {us : List Value}, Vals xs us → (∀ v ∈ xs, NonL X.K H v) → us.any isNnU = xs.any isNn
  | _, _, .nil, _ => rfl
  | y :: xs, u :: us, .cons r t, h => by
    rw [List.any_cons, List.any_cons, isNn_of r (h y (List.mem_cons_self ..)), any_non t fun v hv => h v (List.mem_cons_of_mem _ hv)]
theorem eqAt_non {A : Around} (I : Inv X pins σ H s) (hu : A.units < cLine) : ∀ {xs : List V} {us : List Value}, Vals xs us → (∀ v ∈ xs, NonL X.K H v) → ∀ u ∈ us, SeqAt.EqAt A s u .none (isNnU u)
  | _, _, .nil, _ => fun u hu => by cases hu
  | y :: xs, u :: us, .cons r t, h => fun u' hm => by
    rcases List.mem_cons.mp hm with rfl | hm
    · rcases h y (List.mem_cons_self ..) with rfl | ⟨a, ys, rfl, hl⟩
      · cases (show u' = .none from r)
        exact SeqAt.EqAt.same _
      · cases (show u' = .ref a from r)
        obtain ⟨its, _, pl, _⟩ := I.list hl
        exact SeqAt.EqAt.list_none pl.isList hu
    · exact eqAt_non I hu t (fun v hv => h v (List.mem_cons_of_mem _ hv)) u' hm
def rInN (K : PySem.W.Frag) : R2 := fun x y H Q => ∃ p xs, x = .non ∧ y = .ref p ∧ SqL K H p xs ∧ (∀ v ∈ xs, NonL K H v) ∧ Q (.bl (xs.any isNn)) H
theorem op_inN (hu : X.A.units + 65 < cLine) : OpR X (compareOp .In) (rInN X.K) := by
  intro pins s σ H x y v u Q I rx ry h
  obtain ⟨p, xs, rfl, rfl, hq, hx, q⟩ := h
  cases rx
  cases ry
  obtain ⟨its, r, pl, hz⟩ := I.list hq
  have hu1 : X.A.in1.units < cLine := by
    have : X.A.in1.units ≤ X.A.units + 1 := by
      first | exact Nat.le_refl _ | (unfold Around.in1; simp) | simp [Around.in1]
    omega
  refine SeqAt.in_listAt isNnU pl.isList (fun w hw => eqAt_non I hu1 r hx w (by simpa using hw)) ⟨.bl _, H, I, rfl, ?_⟩
  rw [show its.toArray.any isNnU = its.any isNnU by simp, any_non r hx]
  exact q
/-- l.index(None): the first place of None -/
def rIndexN (K : PySem.W.Frag) : V → List V → Hp → VK → Prop := fun x xs H Q => ∃ (a : Addr) (ys : List V) (j : Nat), x = V.ref a ∧ xs = [.non] ∧ SqL K H a ys ∧ (∀ v ∈ ys, NonL K H v) ∧ ys[j]? = some .non ∧ (∀ (m : Nat) (z' : V), m < j → ys[m]? = some z' → isNn z' = false) ∧ Q (.int (j : Nat)) H
theorem mt_indexN (hu : X.A.units + 65 < cLine) : MtR X "list.index" (rIndexN X.K) := by
  intro pins s σ H x xs v us Q I rx rxs h
  obtain ⟨a, ys, j, rfl, rfl, hs, fys, hz, hno, q⟩ := h
  cases rx
  cases rxs with
  | cons ry rt =>
    rename_i uy ut
    cases rt
    cases (show uy = .none from ry)
    obtain ⟨its, rv, ⟨⟨cls, dd, data, sl⟩, n, ho, hc, hdn, hd⟩, hlen⟩ := I.list hs
    simp only at hc hd
    subst hc hd
    obtain ⟨u, hu', ru⟩ := rv.get hz
    obtain ⟨hjl, hje⟩ := List.getElem?_eq_some_iff.mp hu'
    have hvl := rv.length
    have hj : j < its.toArray.size := by simpa using hjl
    have hsl := sizeLine_eq
    have hu1 : X.A.in1.units < cLine := by
      have : X.A.in1.units ≤ X.A.units + 1 := by
        first | exact Nat.le_refl _ | (unfold Around.in1; simp) | simp [Around.in1]
      omega
    refine call_meets PySem.F.slot_list_index ⟨_, ho, rfl⟩ PySem.F.entry_list_index (PySem.F.args_list_index_2 _ _)
      (SeqAt.list_indexAt a its.toArray n dd sl .none isNnU j hj (by omega) ?_ ?_) ⟨ho, fun u' hm => eqAt_non I hu1 rv fys u' (by simpa using hm), ?_⟩
    · have e1 : its.toArray[j] = u := by simpa using hje
      rw [e1]
      cases (show u = .none from ru)
      rfl
    · intro m hm hmj
      have hml : m < its.length := by simpa using hm
      have hmy : m < ys.length := by omega
      have hy' : ys[m]? = some ys[m] := List.getElem?_eq_getElem hmy
      obtain ⟨u2, hu2, ru2⟩ := rv.get hy'
      obtain ⟨_, hme⟩ := List.getElem?_eq_some_iff.mp hu2
      have e1 : its.toArray[m] = u2 := by simpa using hme
      rw [e1, isNn_of ru2 (fys _ (List.getElem_mem hmy))]
      exact hno m _ hmj hy'
    · exact ⟨.int (j : Nat), H, I.tok _, ⟨_, rfl⟩, q⟩
end
end LL

set_option Elab.async false
set_option linter.all false
set_option maxRecDepth 100000
set_option maxHeartbeats 2000000
/-! LLOList: == of lists of own objects, by their own __eq__. -/
namespace PySem.SeqAt
open AutoSeq1 (wpAny_loadPart')
open MeetsSeq MeetsSeq2 MeetsSeq3 SeqRoads2
section
variable {prog : Program} {w : World}
/-- the items' == runs, St stays -/
def EqSt (prog : Program) (w : World) (St : Shared → Prop) (A : Around) (y x : Value) (b : Bool) : Prop := ∀ (s : Shared), St s → ∀ (E : Value → Shared → Prop) (Q : Bool → Shared → Prop), (∀ s', St s' → Q b s') → wpAny (model prog w) A (eqBool y x) Q E s
theorem eqO_loop (St : Shared → Prop) (l b : Addr) (items items2 : Array Value) (hsz : items.size = items2.size) (e : Nat → Bool)
    (hst : ∀ s, St s → s.heap.IsList l items ∧ s.heap.IsList b items2) (k : Nat) :
    ∀ i : Nat, items.size - i = k → MeetsIn prog w (Builtin.«list.__eq__.loop» ⟨[.ref l, .ref b, rawInt i, rawInt 2], []⟩)
      (fun A R s => St s ∧ (∀ j (h1 : j < items.size) (h2 : j < items2.size), EqSt prog w St A.in1 items[j] items2[j] (e j)) ∧
        ∀ s', St s' → R (.ok (.ret (.bool (((List.range items.size).drop i).all e)))) s') := by
  induction k with
  | zero =>
    intro i hk A R s h
    obtain ⟨hs, he, h⟩ := h
    obtain ⟨⟨⟨cls, dd, data, sl⟩, hl, hc, n, hd⟩, ⟨cls2, dd2, data2, sl2⟩, hb, hc2, n2, hd2⟩ := hst s hs
    simp only at hc hd hc2 hd2
    subst hc hd hc2 hd2
    have h := h s hs
    clear hs
    obtain ⟨hp, g, d, tk, os⟩ := s
    wp_walk using wpAny_loadPart' hl, wpAny_loadPart' hb
    have hi1 : items[((i : Nat) : Int).toNat]? = none := by simp; omega
    have hi2 : items2[((i : Nat) : Int).toNat]? = none := by simp; omega
    have hd : (List.range items.size).drop i = [] := by simp; omega
    rw [hd] at h
    rw [hi1, hi2]
    wp_walk using wpAny_loadPart' hl, wpAny_loadPart' hb
    show R (.ok (.ret (.bool (items.size == items2.size)))) _
    rw [hsz]
    simpa using h
  | succ k ih =>
    intro i hk A R s h
    obtain ⟨hs, he, h⟩ := h
    obtain ⟨⟨⟨cls, dd, data, sl⟩, hl, hc, n, hd⟩, ⟨cls2, dd2, data2, sl2⟩, hb, hc2, n2, hd2⟩ := hst s hs
    simp only at hc hd hc2 hd2
    subst hc hd hc2 hd2
    have hlt : i < items.size := by omega
    have hlt2 : i < items2.size := by omega
    have hi1 : items[((i : Nat) : Int).toNat]? = some items[i] := by simp [hlt]
    have hi2 : items2[((i : Nat) : Int).toNat]? = some items2[i] := by simp [hlt2]
    have hd : (List.range items.size).drop i = i :: (List.range items.size).drop (i + 1) := by simp [List.drop_eq_getElem_cons, hlt]
    have hc : ((i : Int) + 1) = ((i + 1 : Nat) : Int) := by push_cast; rfl
    have step := he i hlt hlt2 s hs
    clear hs
    obtain ⟨hp, g, d, tk, os⟩ := s
    wp_walk using wpAny_loadPart' hl, wpAny_loadPart' hb
    rw [hd] at h
    simp only [List.all_cons] at h
    rw [hi1, hi2]
    refine wpAny_bind (step _ _ fun s' hs' => ?_)
    clear hl hb
    obtain ⟨⟨⟨cls', dd', data', sl'⟩, hl', hc', n', hd'⟩, ⟨cls2', dd2', data2', sl2'⟩, hb', hc2', n2', hd2'⟩ := hst s' hs'
    simp only at hc' hd' hc2' hd2'
    subst hc' hd' hc2' hd2'
    have h' := h s' hs'
    cases hb2 : e i with
    | true =>
      rw [hb2] at h
      have key := ih (i + 1) (by omega) A R s' ⟨hs', he, fun s2 h2 => by simpa using h s2 h2⟩
      clear hs' h'
      obtain ⟨hp, g, d, tk, os⟩ := s'
      wp_walk
      rw [hc]
      exact ⟨plainId_quiet plain_eq_loop _, codeAny_builtin entry_eq_loop (by
        rw [Around.under_plainId plain_eq_loop _]
        exact key)⟩
    | false =>
      rw [hb2] at h'
      clear hs'
      obtain ⟨hp, g, d, tk, os⟩ := s'
      wp_walk using wpAny_loadPart' hl', wpAny_loadPart' hb'
      rw [hi1, hi2]
      wp_walk
      simpa using h'
theorem eqO_list (St : Shared → Prop) (l b : Addr) (items items2 : Array Value) (e : Nat → Bool)
    (hst : ∀ s, St s → s.heap.IsList l items ∧ s.heap.IsList b items2) :
    MeetsIn prog w (Builtin.«list.__eq__» ⟨[.ref l, .ref b], []⟩)
      (fun A R s => St s ∧ (items.size = items2.size → ∀ j (h1 : j < items.size) (h2 : j < items2.size), EqSt prog w St A.in1 items[j] items2[j] (e j)) ∧
        ∀ s', St s' → R (.ok (.ret (.bool (decide (items.size = items2.size) && (List.range items.size).all e)))) s') := by
  intro A R s h
  obtain ⟨hs, he, h⟩ := h
  have f3 := AutoSeq1.sub_list_list
  obtain ⟨⟨⟨cls, dd, data, sl⟩, hl, hc, n, hd⟩, ⟨cls2, dd2, data2, sl2⟩, hb, hc2, n2, hd2⟩ := hst s hs
  simp only at hc hd hc2 hd2
  subst hc hd hc2 hd2
  by_cases hsz : items.size = items2.size
  · have hne : ¬ (items.size != items2.size) = true := by simp [hsz]
    have key := eqO_loop (prog := prog) (w := w) St l b items items2 hsz e hst _ 0 rfl A R s ⟨hs, he hsz, fun s2 h2 => by simpa [hsz] using h s2 h2⟩
    clear hs
    obtain ⟨hp, g, d, tk, os⟩ := s
    wp_walk using wpAny_loadPart' hl, wpAny_loadPart' hb
    exact ⟨plainId_quiet plain_eq_loop _, codeAny_builtin entry_eq_loop (by
      rw [Around.under_plainId plain_eq_loop _]
      exact key)⟩
  · have hne : (items.size != items2.size) = true := by simp [hsz]
    have h' := h s hs
    rw [decide_eq_false hsz, Bool.false_and] at h'
    clear hs
    obtain ⟨hp, g, d, tk, os⟩ := s
    wp_walk using wpAny_loadPart' hl, wpAny_loadPart' hb
    exact h'
theorem rcO_lists {A : Around} {s : Shared} {St : Shared → Prop} {l b : Addr} {items items2 : Array Value} {e : Nat → Bool}
    (hst : ∀ s, St s → s.heap.IsList l items ∧ s.heap.IsList b items2) (hs : St s) (hu : A.units < cLine)
    (he : items.size = items2.size → ∀ j (h1 : j < items.size) (h2 : j < items2.size), EqSt prog w St A.in1 items[j] items2[j] (e j)) (E Q : Value → Shared → Prop) (h : ∀ s', St s' → Q (.bool (decide (items.size = items2.size) && (List.range items.size).all e)) s') : wpAny (model prog w) A (richCompare .Eq (.ref l) (.ref b)) Q E s := by
  obtain ⟨⟨o1, ho, hc, n, hd⟩, o2, ho2, hc2, n2, hd2⟩ := hst s hs
  have ta : s.TypeIs (.ref l) "list" := ⟨_, ho, hc⟩
  have tb : s.TypeIs (.ref b) "list" := ⟨_, ho2, hc2⟩
  exact wpAny_richCompare_same_room (op := .Eq) ta tb F.slot_list_eq (call_meetsIn F.slot_list_eq ta F.entry_list_eq (F.args_list_eq_2 _ _) (eqO_list (prog := prog) (w := w) St l b items items2 e hst)
    ⟨hs, he, fun s' hs' => show Value.bool _ ≠ Value.notImplemented ∧ Q (.bool _) s' from ⟨(fun x => nomatch x), h s' hs'⟩⟩) hu
end
end PySem.SeqAt
namespace LL
open PySem PySem.Spec PyProof.Rows L2
section
variable {X : Cx} {CX : CXT} {k : Nat} {C : Addr} {sp : Sp} {E : XK}
/-- x == y, lists of instances of the class at C, item by item by its own __eq__ -/
def rEqLO (K : PySem.W.Frag) (C : Addr) (sp : Sp) (E : XK) : R2 := fun x y H Q => ∃ (a b : Addr) (xs ys : List Addr) (c : Nat → Bool), x = .ref a ∧ y = .ref b ∧ H a = some (.lst (xs.map V.ref)) ∧ H b = some (.lst (ys.map V.ref)) ∧ PySem.W.notFirst K C (.ref C) = true ∧
  (xs.length = ys.length → ∀ (i : Nat) p q, xs[i]? = some p → ys[i]? = some q → (∃ dx fs, H p = some (.ins C dx fs)) ∧ (∃ dy gs, H q = some (.ins C dy gs)) ∧ (p = q → c i = true) ∧
    ∀ H', Same H H' → sp [.ref p, .ref q] H' (fun z H2 => z = .bl (c i) ∧ Same H' H2) E) ∧
  ∀ H', Same H H' → Q (.bl (decide (xs.length = ys.length) && (List.range xs.length).all c)) H'
theorem vals_refs : ∀ {xs : List Addr} {us : List Value}, Vals (xs.map V.ref) us → us = xs.map Value.ref
  | [], _, .nil => rfl
  | p :: xs, _, .cons r t => by
    cases r
    rw [vals_refs t]
    rfl
theorem op_eqLO (G : SpF X.prog X.w X.K X.mg X.base CX k C "__eq__" sp) (hr : Rm (k + 1) X.A) (hx : Passes CX X.nox E) : OpR X (compareOp .Eq) (rEqLO X.K C sp E) := by
  obtain ⟨f, fd, ps, hs, hf, hb, F⟩ := G.ex
  intro pins s σ H x y v u Q I rx ry h
  obtain ⟨a, b, xs, ys, c, rfl, rfl, ha, hb', hn, he, q⟩ := h
  cases (show v = Value.ref a from rx)
  cases (show u = Value.ref b from ry)
  have hst : ∀ s', (∃ H', Same H H' ∧ Inv X pins σ H' s') → s'.heap.IsList a (xs.map Value.ref).toArray ∧ s'.heap.IsList b (ys.map Value.ref).toArray := by
    rintro s' ⟨H', sm, I'⟩
    obtain ⟨i1, r1, p1, _⟩ := I'.list (SqL.of (sm _ _ ha))
    obtain ⟨i2, r2, p2, _⟩ := I'.list (SqL.of (sm _ _ hb'))
    rw [← vals_refs r1, ← vals_refs r2]
    exact ⟨p1.isList, p2.isList⟩
  refine SeqAt.rcO_lists (e := c) hst ⟨H, Same.rfl', I⟩ (by have := hr.r.un; omega) (fun hl i h1 h2 => ?_) _ _ ?_
  · rw [List.size_toArray, List.length_map] at h1 h2
    rw [List.size_toArray, List.size_toArray, List.length_map, List.length_map] at hl
    obtain ⟨⟨dx, fs, hp⟩, ⟨dy, gs, hq⟩, same, go⟩ := he hl i xs[i] ys[i] (List.getElem?_eq_getElem h1) (List.getElem?_eq_getElem h2)
    have e1 : (xs.map Value.ref).toArray[i] = Value.ref xs[i] := by simp
    have e2 : (ys.map Value.ref).toArray[i] = Value.ref ys[i] := by simp
    rw [e1, e2]
    rintro s1 ⟨H1, sm, I1⟩ E1 Q1 hq1
    unfold eqBool
    refine wpAny_holding ?_
    refine wpAny_ite_split (fun hab => ?_) (fun hab => ?_)
    · refine wpAny_pure (M := model X.prog X.w) (E := E1) ?_
      have e : xs[i] = ys[i] := by
        have := eq_of_beq hab
        injection this
      have := hq1 s1 ⟨H1, sm, I1⟩
      rw [same e] at this
      exact this
    · obtain ⟨od, J⟩ := inst_of I1 (sm _ _ hp)
      obtain ⟨m, hF⟩ := I1.fr
      obtain ⟨od', J'⟩ := inst_of I1 (sm _ _ hq)
      refine wpAny_bind ?_
      refine PySem.W.cmp_K (op := .Eq) hr.in1.r.units0 hF I1.ok.mod.kin J J'.type hn hs hf ?_
      have go1 := run_g (X := X.nox) (us := [.ref xs[i], .ref ys[i]]) (vs := [.ref xs[i], .ref ys[i]]) (dvs := []) F hr.in1 (I1.wish _).env0.in1 hb .nil hx (I1.wish _) (.cons rfl (.cons rfl .nil)) (by rw [List.append_nil]; exact go H1 sm)
      refine wpAny_mono go1 (fun w s' z => ?_) fun _ _ z => z.elim
      obtain ⟨z', H', I', rz, rfl, sm'⟩ := z
      cases (show w = Value.bool (c i) from rz)
      exact SlX.cmpback (show RelV (.bl (c i)) (.bool (c i)) from rfl) (wpAny_truthy_bool (hq1 s' ⟨H', sm.trans sm', I'.wish _⟩))
  · rintro s1 ⟨H1, sm, I1⟩
    refine ⟨.bl _, H1, I1, ?_, q H1 sm⟩
    show _ = _
    simp
end
end LL

set_option Elab.async false
set_option linter.all false
set_option maxRecDepth 100000
set_option maxHeartbeats 2000000
/-! LLDc: a dict comprehension whose keys are tuples (turned from the one with flat keys); a list's place in place. -/
namespace LL
open PySem PySem.Spec PyProof.Rows L2
/-- d[k] = v by a comprehension, k a tuple -/
theorem d_dictSetT {X : Cx} {pins : List (Addr × Obj)} {σ : L2.St} {H : Hp} {s : Shared} {E : Value → Shared → Prop} {D b : Addr} {kvs : List (List Key × V)} {k : List Key} {v : V} {u r : Value} {Q : Unit → Shared → Prop} (hu : X.A.units + 1 < cLine) (I : Inv X pins σ H s) (hD : H D = some (.dT kvs)) (eb : H b = some (.tup (k.map kV))) (hz : kvs.length < sizeLine)
    (ry : RelV (.ref b) u) (rv : RelV v r) (h : ∀ s', Inv X pins σ (upd H D (.dT (putK kvs k v))) s' → Q () s') : wpAny (model X.prog X.w) X.A (dictSet D u r) Q E s := by
  cases (show u = Value.ref b from ry)
  obtain ⟨z, hd, xs, rel, dd⟩ := dt_of I.hok hD
  have zx : xs.length ≤ sizeLine := by rw [← Paired.length rel]; exact z
  have hl : (putK kvs k v).length ≤ sizeLine := by have := length_putK kvs k v; omega
  refine wpAny_dictSet_heap (hsz := zx) ((show (tupleKind (mixKind X.prog X.w)).room X.A from Nat.lt_of_succ_lt hu)) (key_of I.hok eb) dd fun h' dd' hs => h _ ?_
  obtain ⟨q, es, ep, hq, h2, h3, h4, h6, h5⟩ := dd'
  refine d_write I (by rw [hD]; exact True.intro) hs ⟨q, hq⟩ ⟨hl, hd, _, (rel.put k eb rv).keeps fun c ys ec => ?_, q, es, ep, hq, h2, h3, h4, h5⟩
  rw [upd_ne (ne_of ec hD (fun z => nomatch z))]
  exact ec
section
variable {X : Cx}
/-- {k: v for ..}, keys tuples: D the new dict -/
def tDcT (wi : TI) (g : TG) (tt : TT) (tk tv : TE) (vs : List Nat) : TE := fun σ H Q => wi σ H fun J H1 => ∀ D, H1 D = none → ∃ W : Nat → Nat → Hp → Prop, (∃ m, W 0 m (upd H1 D (.dT []))) ∧ ∀ i m H, W i m H →
  (J.stop i H ∧ Q (.ref D) H) ∨ (J.go i H ∧ ∃ Nx : Hp → Prop, (∀ H', Nx H' → ∃ m', m' < m ∧ W (i + 1) m' H') ∧ ∀ x H', J.yld i H x H' → g x (wipe σ vs) H' fun σ2 H2 => wipe σ2 vs = wipe σ vs ∧ tt σ2 H2 fun b H3 =>
    if b = true then tk σ2 H3 fun y H4 => tv σ2 H4 fun z H5 => ∃ kvs k b, y = .ref b ∧ H5 b = some (.tup (k.map kV)) ∧ H5 D = some (.dT kvs) ∧ kvs.length < sizeLine ∧ Nx (upd H5 D (.dT (putK kvs k z))) else Nx H3)
theorem dcT_core {pins : List (Addr × Obj)} {s : Shared} {σ : L2.St} {H : Hp} {Q : VK} {kx vx tg iter : Expr} {ifs : List Expr} {scope : Scope} {own : List (Str × Nat)} {pos pos' : Pos} {wi : TI} {g : TG} {tt : TT} {tk tv : TE} {use : Option (Value → Sem Unit)} {Qf : Value → Shared → Prop}
    (hu : X.A.units + 1 < cLine) (hc : X.calm = true) (hN : X.N.Nodup) (I : Inv X pins σ H s) (hi : PI X tg iter wi) (ok : BlkOk X.N X.env.scope scope own)
    (hg : ∀ (s : Shared) (H : Hp) (C : Addr) (cl : List (Str × Addr)) (fp : List Addr), PG (X.blk s H scope (compEnvC scope cl C X.env) fp) tg g) (ht : ∀ (s : Shared) (H : Hp) (C : Addr) (cl : List (Str × Addr)) (fp : List Addr), PTs (X.blk s H scope (compEnvC scope cl C X.env) fp) ifs tt)
    (hk : ∀ (s : Shared) (H : Hp) (C : Addr) (cl : List (Str × Addr)) (fp : List Addr), PE (X.blk s H scope (compEnvC scope cl C X.env) fp) kx tk)
    (he : ∀ (s : Shared) (H : Hp) (C : Addr) (cl : List (Str × Addr)) (fp : List Addr), PE (X.blk s H scope (compEnvC scope cl C X.env) fp) vx tv) (hs : ∀ x, foldedSetIterable iter X.env x = pure x)
    (h : tDcT wi g tt tk tv (own.map (·.2)) σ H Q)
    (hRR : ∀ D C s' m H', Inv X pins σ H' s' → Q (.ref D) H' → s'.heap.Ns C m → FpOk X pins H' C → compPost (model X.prog X.w) X.A X.xe use Qf (.ref D) C (.ok .next) s') :
    wpAny (model X.prog X.w) X.A (comprehension (.DictComp kx vx [⟨tg, iter, ifs, 0⟩] scope pos) scope X.env pos' newDict false (eval iter X.env) use) Qf X.xe s := by
  have hfree : ∀ y ∈ scope.names, y.2 = .free → ∃ c, X.env.cells.lookup y.1 = some c := fun y hy e => by
    rcases ok.free y hy e with k | k
    · exact I.ok.has _ (.inl k)
    · exact I.ok.has _ (.inr k)
  refine wpAny_comprehension_free (use := use) rfl hs (closure_ok hfree) ok.kind (fun y hy e => by rw [ok.uniq y hy, e])
    (thn (hi.run pins s σ H _ I h) fun xv s1 hx => thn hx fun itv s2 h2 => ?_)
  obtain ⟨it, fp, tn, J, H2, e, I2, T, st2, f2, q⟩ := h2
  subst e
  refine wpAny_newObj_type (newEnv_comp ?_)
  generalize hD : s2.heap.objs.size = D
  have hDn : H2 D = none := I2.hok.fresh (Nat.le_of_eq hD)
  obtain ⟨W, ⟨m0, w0⟩, turn⟩ := q D hDn
  -- the new list
  generalize hs3 : ({ s2 with heap := s2.heap.push { cls := .type "dict", data := .dict #[] } } : Shared) = s3
  have I3 : Inv X pins σ (upd H2 D (.dT [])) s3 := by
    rw [← hs3]
    refine I2.laid (t' := s2.toks) (fun b o e => Heap.get?_push_of_some _ e) (Nat.le_of_eq hD) ?_
    rw [← hD]
    exact dt_empty s2.heap I2.big
  have h3 : s3.heap = s2.heap.push { cls := .type "dict", data := .dict #[] } := by rw [← hs3]
  have sz : ∀ b ∈ fp, b < s2.heap.objs.size := fun b hb => by
    obtain ⟨o, e, _⟩ := T.obj _ _ st2 b hb
    exact Heap.lt_size e
  have f3 : ∀ b ∈ fp, FpOk X pins (upd H2 D (.dT [])) b ∧ b < s3.heap.objs.size := fun b hb => by
    have hlt := sz b hb
    refine ⟨⟨?_, (f2 b hb).2⟩, by rw [h3, Heap.size_push]; exact Nat.lt_succ_of_lt hlt⟩
    rw [upd_ne (by rw [← hD]; exact Nat.ne_of_lt hlt)]
    exact (f2 b hb).1
  have st3 : tn 0 s3.heap := T.keep _ _ _ st2 fun b _ o e => by rw [h3]; exact Heap.get?_push_of_some _ e
  have I4 := block_start I3 ok hN f3
  have pg := hg s3 (upd H2 D (.dT [])) s3.heap.objs.size (cellsFrom (s3.heap.objs.size + 1) scope.names (cloFrom X.env.cells scope.names [])) fp
  have pt := ht s3 (upd H2 D (.dT [])) s3.heap.objs.size (cellsFrom (s3.heap.objs.size + 1) scope.names (cloFrom X.env.cells scope.names [])) fp
  have pk := hk s3 (upd H2 D (.dT [])) s3.heap.objs.size (cellsFrom (s3.heap.objs.size + 1) scope.names (cloFrom X.env.cells scope.names [])) fp
  have pe := he s3 (upd H2 D (.dT [])) s3.heap.objs.size (cellsFrom (s3.heap.objs.size + 1) scope.names (cloFrom X.env.cells scope.names [])) fp
  show codeAny _ _ (.compStart (.DictComp kx vx [⟨tg, iter, ifs, 0⟩] scope pos) 0 (.ref it) (.ref D) (compEnvC scope (cellsFrom (s3.heap.objs.size + 1) scope.names (cloFrom X.env.cells scope.names [])) s3.heap.objs.size X.env)) (compPost (model X.prog X.w) X.A X.xe use Qf (.ref D) s3.heap.objs.size) { s3 with heap := pushCells (s3.heap.push { cls := .type "dict", data := .dict #[] }) scope.names }
  have nfp : ∀ b ∈ fp, (upd H2 D (.dT [])) b = none := fun b hb => (f3 b hb).1.1
  generalize hce : compEnvC scope (cellsFrom (s3.heap.objs.size + 1) scope.names (cloFrom X.env.cells scope.names [])) s3.heap.objs.size X.env = ce at I4 pg pt pk pe ⊢
  have cL : ce.locals = s3.heap.objs.size := by subst hce; rfl
  generalize hH3 : upd H2 D (.dT []) = H3 at I3 I4 pg pt pk pe w0 nfp f3
  generalize hs4 : ({ s3 with heap := pushCells (s3.heap.push { cls := .type "dict", data := .dict #[] }) scope.names } : Shared) = s4 at I4 ⊢
  have st4 : tn 0 s4.heap := T.keep _ _ _ st3 fun b _ o e => by rw [← hs4]; exact pushCells_keeps _ _ _ _ (Heap.get?_push_of_some _ e)
  have stat : ∀ {σ' : L2.St} {H' : Hp} {s' : Shared}, Inv (X.blk s3 H3 scope ce fp) [] σ' H' s' → (∀ b ∈ fp, H' b = none) → ∀ b ∈ fp, FpOk (X.blk s3 H3 scope ce fp) [] H' b := fun {σ' H' s'} I' hn b hb =>
    ⟨hn b hb, (I'.ok.exf b hb).1, I'.ok.exfs b hb, .inl hb, fun x c e => (I'.ok.exf b hb).2 x c e, fun p hp => absurd (show p ∈ ([] : List (Addr × Obj)) ++ [] from hp) (by simp)⟩
  have loop : codeAny (model X.prog X.w) X.A (.compLoop (.DictComp kx vx [⟨tg, iter, ifs, 0⟩] scope pos) 0 (.ref it) (.ref D) ce) (compPost (model X.prog X.w) X.A X.xe use Qf (.ref D) s3.heap.objs.size) s4 := by
    refine compLoop_anyD (fun n s' => ∃ i H', Inv (X.blk s3 H3 scope ce fp) [] (wipe σ (own.map (·.2))) H' s' ∧ tn i s'.heap ∧ (∀ b ∈ fp, H' b = none) ∧ W i n H') ?_ m0 ⟨0, H3, I4, st4, nfp, w0⟩
    rintro n s5 ⟨i, H5, I5, st5, n5, w5⟩
    rcases turn i n H5 w5 with ⟨stop, qq⟩ | ⟨go, Nx, hNx, step⟩
    · have td := T.done (X.blk s3 H3 scope ce fp) rfl rfl rfl hc i [] s5 _ H5 (fun _ _ => False) I5 (stat I5 n5) st5 stop
      refine thnF td fun r s6 ⟨hr, I6⟩ => ?_
      subst hr
      -- back in the def's context
      have I7 : Inv X pins σ H5 s6 := I3.call' (ch := fp) I6.os I6.base I6.hok I6.bare fun b hb => ⟨(f3 b hb).1.2.2.2.1, (f3 b hb).1.2.1, (f3 b hb).1.2.2.2.2.1, (f3 b hb).1.2.2.2.2.2⟩
      have nC : H5 s3.heap.objs.size = none := by
        have z : H5 ce.locals = none := I6.free
        rw [cL] at z
        exact z
      obtain ⟨m, hn, _⟩ := I6.loc
      have hn : s6.heap.Ns ce.locals m := hn
      rw [cL] at hn
      exact hRR D s3.heap.objs.size s6 m H5 I7 qq hn (I3.fpOk (Nat.le_refl _) nC)
    · have ti := T.item (X.blk s3 H3 scope ce fp) rfl rfl rfl hc i [] s5 _ H5 (fun _ _ => False) I5 (stat I5 n5) st5 go
      refine thnF ti fun r s6 ⟨u, hr, h6⟩ => ?_
      subst hr
      refine thnF h6 fun _ s7 ⟨x, H7, I7, r7, y7, st7, n7⟩ => ?_
      have I7' := I7.pinned (stat I7 n7) (T.obj _ _ st7)
      refine thnF (pg.run _ s7 _ H7 x u _ I7' r7 (step x H7 y7)) fun _ s8 ⟨σ8, H8, I8, hw8, q8⟩ => ?_
      refine thnF (pt.run _ s8 σ8 H8 _ I8 q8) fun b s9 ⟨H9, I9, q9⟩ => ?_
      -- the turn's end
      have fin : ∀ {s' : Shared} {H' : Hp}, Inv (X.blk s3 H3 scope ce fp) ([] ++ pinsAt fp s7.heap) σ8 H' s' → Nx H' → ∃ m, m < n ∧ ∃ i H', Inv (X.blk s3 H3 scope ce fp) [] (wipe σ (own.map (·.2))) H' s' ∧ tn i s'.heap ∧ (∀ b ∈ fp, H' b = none) ∧ W i m H' := fun {s' H'} I' nx => by
        obtain ⟨m', hm, w'⟩ := hNx H' nx
        have pin' : ∀ b ∈ fp, ∀ o, s7.heap.get? b = some o → s'.heap.get? b = some o ∧ H' b = none := fun b hb o e =>
          let z := I'.pin (b, o) (List.mem_append_right _ (List.mem_append_right _ (mem_pinsAt hb e)))
          ⟨z.1, z.2.1⟩
        have hl : (wipe σ (own.map (·.2))).length = σ8.length := by rw [← hw8, wipe_length]
        refine ⟨m', hm, i + 1, H', (I'.unpinned (pins := [])).weak hl (fun j v e => ?_), T.keep _ _ _ st7 fun b hb o e => (pin' b hb o e).1, fun b hb => ?_, w'⟩
        · rw [← hw8] at e
          exact (wipe_some e).1
        · obtain ⟨o, e, _⟩ := T.obj _ _ st7 b hb
          exact (pin' b hb o e).2
      cases b with
      | false =>
        simp only [Bool.false_eq_true, if_false] at q9 ⊢
        exact fin I9 q9
      | true =>
        simp only [if_true] at q9 ⊢
        refine thnF (pk.run _ s9 σ8 H9 _ I9 q9) fun z s10 ⟨yk, H10, I10, r10, q10⟩ => ?_
        refine thnF (pe.run _ s10 σ8 H10 _ I10 q10) fun z2 s11 ⟨yv, H11, I11, r11, kvs, k, b, ek, eb, hD11, hz11, nx⟩ => ?_
        subst ek
        exact d_dictSetT (X := X.blk s3 H3 scope ce fp) hu I11 hD11 eb hz11 r10 r11 fun s12 I12 => fin I12 nx
  exact codeAny_compStart_dict loop (T.self X.A 0 _ _ _ st4 loop)
theorem pe_dcT {kx vx tg iter : Expr} {ifs : List Expr} {scope : Scope} {own : List (Str × Nat)} {pos : Pos} {wi : TI} {g : TG} {tt : TT} {tk tv : TE} (hu : X.A.units + 1 < cLine) (hc : X.calm = true) (hN : X.N.Nodup) (hi : PI X tg iter wi) (ok : BlkOk X.N X.env.scope scope own)
    (hg : ∀ (s : Shared) (H : Hp) (C : Addr) (cl : List (Str × Addr)) (fp : List Addr), PG (X.blk s H scope (compEnvC scope cl C X.env) fp) tg g) (ht : ∀ (s : Shared) (H : Hp) (C : Addr) (cl : List (Str × Addr)) (fp : List Addr), PTs (X.blk s H scope (compEnvC scope cl C X.env) fp) ifs tt)
    (hk : ∀ (s : Shared) (H : Hp) (C : Addr) (cl : List (Str × Addr)) (fp : List Addr), PE (X.blk s H scope (compEnvC scope cl C X.env) fp) kx tk)
    (he : ∀ (s : Shared) (H : Hp) (C : Addr) (cl : List (Str × Addr)) (fp : List Addr), PE (X.blk s H scope (compEnvC scope cl C X.env) fp) vx tv) (hs : ∀ x, foldedSetIterable iter X.env x = pure x := by intro _; rfl) :
    PE X (.DictComp kx vx [⟨tg, iter, ifs, 0⟩] scope pos) (tDcT wi g tt tk tv (own.map (·.2))) := by
  refine ⟨fun pins s σ H Q I h => ?_⟩
  rw [arm_eval_DictComp]
  refine dcT_core hu hc hN I hi ok hg ht hk he hs h fun D C s' m H' I' q hn f => ⟨m, hn, fun h'' sb => ?_⟩
  obtain ⟨f0, f1, f2, f3, f4, f5⟩ := f
  exact ⟨.ref D, H', I'.turned (t' := s'.toks) (fun b o hb e => (sb.2 b hb).trans e) f0 f1 f3 f4 f5, rfl, q⟩
/-- name = {..: .. for ..} on one line, the name a local -/
theorem ps_setDcT {i : Nat} {y : Str} {py : Pos} {kx vx tg iter : Expr} {ifs : List Expr} {scope : Scope} {own : List (Str × Nat)} {pos spos : Pos} {wi : TI} {g : TG} {tt : TT} {tk tv : TE} (hu : X.A.units + 1 < cLine) (hc : X.calm = true) (hN : X.N.Nodup) (hy : X.N[i]? = some y) (hyl : X.env.scope.names.lookup y = some .local)
    (hsw : swapsWith (.DictComp kx vx [⟨tg, iter, ifs, 0⟩] scope pos) (some (.Name y py)) spos.line X.env = pure true) (hi : PI X tg iter wi) (ok : BlkOk X.N X.env.scope scope own)
    (hg : ∀ (s : Shared) (H : Hp) (C : Addr) (cl : List (Str × Addr)) (fp : List Addr), PG (X.blk s H scope (compEnvC scope cl C X.env) fp) tg g) (ht : ∀ (s : Shared) (H : Hp) (C : Addr) (cl : List (Str × Addr)) (fp : List Addr), PTs (X.blk s H scope (compEnvC scope cl C X.env) fp) ifs tt)
    (hk : ∀ (s : Shared) (H : Hp) (C : Addr) (cl : List (Str × Addr)) (fp : List Addr), PE (X.blk s H scope (compEnvC scope cl C X.env) fp) kx tk)
    (he : ∀ (s : Shared) (H : Hp) (C : Addr) (cl : List (Str × Addr)) (fp : List Addr), PE (X.blk s H scope (compEnvC scope cl C X.env) fp) vx tv) (hs : ∀ x, foldedSetIterable iter X.env x = pure x := by intro _; rfl) :
    PS X (.Assign [.Name y py] (.DictComp kx vx [⟨tg, iter, ifs, 0⟩] scope pos) spos) (tAsg (tDcT wi g tt tk tv (own.map (·.2))) (gName i)) := by
  refine ⟨fun pins s σ H D I h => ?_⟩
  rw [exec_Assign_Name_used _ _ _ _ hsw]
  refine wpAny_bind (wpAny_standAt (wpAny_bind ?_))
  show wpAny _ X.A (do let _ ← comprehension (.DictComp kx vx [⟨tg, iter, ifs, 0⟩] scope pos) scope X.env (firstIterPos [⟨tg, iter, ifs, 0⟩] pos) newDict false (eval iter X.env) (some (assign (.Name y py) X.env))) _ _ s
  have h : tDcT wi g tt tk tv (own.map (·.2)) σ H (fun x H1 => gName i x σ H1 D.nx) := h
  refine wpAny_bind (thn (dcT_core (Qf := fun _ s' => SP X pins D .next s') hu hc hN I hi ok hg ht hk he hs h fun L C s' m H' I' q hn f => ?_) fun _ s' hq => wpAny_pure (wpAny_pure hq))
  show wpAny _ _ (assign (.Name y py) X.env (.ref L)) _ _ _
  refine wpAny_assign_Name (store_ok2 (v := V.ref L) I' hN hy (.inl hyl) rfl (fun s2 I2 ⟨a, sb, ha⟩ => ?_) (.inr hyl))
  obtain ⟨f0, f1, f2, f3, f4, f5⟩ := f
  have nC : C ≠ a := by
    rcases ha with z | z
    · rw [z]
      exact f1
    · exact fun e => f4 y a z e.symm
  exact ⟨m, hn.sameBut sb nC, fun h3 sb3 => ⟨_, H', I2.turned (t' := s2.toks) (fun b o hb e => (sb3.2 b hb).trans e) f0 f1 f3 f4 f5, q⟩⟩
theorem swD_true {kx vx : Expr} {gs : List Comprehension} {scope : Scope} {pos py : Pos} {y : Str} {l : Nat} {env : Env} (hk : env.scope.kind = .function) (hy : env.scope.names.lookup y = some .local) (hl : (py.line == pos.line) = true)
    (ha : (scope.names.any fun (n, k) => n == y && (k == .local || k == .cell)) = false) : swapsWith (.DictComp kx vx gs scope pos) (some (.Name y py)) l env = pure true := by
  have ky : env.kindOf y = some .local := hy
  have hb : env.blockKind = .function := by unfold Env.blockKind; rw [hk]; rfl
  unfold swapsWith
  simp only [hb, ky, ha, Expr.pos, hl]
  rfl
/-- such a comprehension by what it has made so far -/
theorem dcT_inv {J : It} {n : Nat} {G : Hp → Prop} {Y : Nat → Hp → V → Hp → Prop} {g : TG} {tt : TT} {tk tv : TE} {vs : List Nat} {σ : L2.St} {H1 : Hp} {D : Addr} {Qd : Hp → Prop} (w : Walk J n G Y) (I : Nat → List (List Key × V) → Hp → Prop) (bl : ∀ i kvs H o, I i kvs H → I i kvs (upd H D o)) (h0 : I 0 [] H1) (hl : ∀ i kvs H, i < n → I i kvs H → kvs.length < sizeLine) (hG : ∀ i kvs H, i ≤ n → I i kvs H → G H)
    (hs : ∀ i x kvs H H', i < n → I i kvs H → H D = some (.dT kvs) → Y i H x H' → ∀ (R : V → V → Hp → Prop) (S : Hp → Prop), (∀ k a v H4, H4 D = some (.dT kvs) → H4 a = some (.tup (k.map kV)) → I (i + 1) (putK kvs k v) H4 → R (.ref a) v H4) → (∀ H4, H4 D = some (.dT kvs) → I (i + 1) kvs H4 → S H4) →
      g x (wipe σ vs) H' fun σ2 H2 => wipe σ2 vs = wipe σ vs ∧ tt σ2 H2 fun b H3 => if b = true then tk σ2 H3 fun y H4 => tv σ2 H4 fun v H5 => R y v H5 else S H3) (hd : ∀ kvs H, H D = some (.dT kvs) → I n kvs H → Qd H) :
    ∃ W : Nat → Nat → Hp → Prop, (∃ m, W 0 m (upd H1 D (.dT []))) ∧ ∀ i m H, W i m H →
      (J.stop i H ∧ Qd H) ∨ (J.go i H ∧ ∃ Nx : Hp → Prop, (∀ H', Nx H' → ∃ m', m' < m ∧ W (i + 1) m' H') ∧ ∀ x H', J.yld i H x H' → g x (wipe σ vs) H' fun σ2 H2 => wipe σ2 vs = wipe σ vs ∧ tt σ2 H2 fun b H3 =>
        if b = true then tk σ2 H3 fun y H4 => tv σ2 H4 fun v H5 => ∃ kvs k a, y = .ref a ∧ H5 a = some (.tup (k.map kV)) ∧ H5 D = some (.dT kvs) ∧ kvs.length < sizeLine ∧ Nx (upd H5 D (.dT (putK kvs k v))) else Nx H3) := by
  refine ⟨fun i m H => m = n - i ∧ i ≤ n ∧ ∃ kvs, H D = some (.dT kvs) ∧ I i kvs H, ⟨n, by simp, Nat.zero_le _, [], upd_same, bl _ _ _ _ h0⟩, ?_⟩
  rintro i m H ⟨rfl, hi, kvs, e, p⟩
  by_cases hlt : i < n
  · refine .inr ⟨w.goes i H hlt (hG i kvs H hi p), fun H' => ∃ kvs, H' D = some (.dT kvs) ∧ I (i + 1) kvs H', fun H' p' => ⟨n - (i + 1), by omega, rfl, hlt, p'⟩, fun x H' y => ?_⟩
    exact hs i x kvs H H' hlt p e (w.yields i H x H' hlt (hG i kvs H hi p) y) _ _ (fun k a v H4 e4 ea p4 => ⟨kvs, k, a, rfl, ea, e4, hl i kvs H hlt p, _, upd_same, bl _ _ _ _ p4⟩) fun H4 e4 p4 => ⟨kvs, e4, p4⟩
  · have ei : i = n := by omega
    subst ei
    exact .inl ⟨w.stops H (hG _ kvs H hi p), hd kvs H e p⟩
/-- xs[i], to be written in place -/
def rGetL (K : PySem.W.Frag) : V → V → Hp → VK → Prop := fun x y H Q => ∃ (p : Addr) (xs : List V) (j : Nat) (v : V), x = .ref p ∧ y = .int (j : Nat) ∧ SqL K H p xs ∧ xs[j]? = some v ∧ Q v H
theorem get_list : PGet X (rGetL X.K) := by
  intro pins s σ H o i ov iv Q I ro ri h
  obtain ⟨p, xs, j, v, rfl, rfl, hq, he, q⟩ := h
  cases ro
  obtain ⟨t, rfl⟩ := ri
  obtain ⟨its, r, pl, hz⟩ := I.list hq
  obtain ⟨u, eu, ru⟩ := r.get he
  have hj := (List.getElem?_eq_some_iff.mp he).1
  have hn := line63
  exact wpAny_getItem_list pl.isList (by omega) (by omega) (by simpa using eu) ⟨v, H, I, ru, q⟩
end
end LL

set_option Elab.async false
set_option linter.all false
set_option maxRecDepth 100000
set_option maxHeartbeats 2000000
/-! LLView: d.values(), a list of it; a list beside the empty one; dict comprehensions whose keys are flat. -/
namespace LL
open PySem PySem.Spec PyProof.Rows L2
theorem paired_at {α β : Type} {R : α → β → Prop} {l : List α} {m : List β} (h : Paired R l m) : ∀ {i : Nat} {x : α} {y : β}, l[i]? = some x → m[i]? = some y → R x y := by
  induction h with
  | nil => intro i x y e; simp at e
  | cons a _ ih =>
    intro i x y e1 e2
    cases i with
    | zero =>
      cases e1
      cases e2
      exact a
    | succ i => exact ih e1 e2
section
variable {X : Cx}
def rValues : V → List V → Hp → VK → Prop := fun x xs H Q => ∃ (a : Addr) (kvs : List (Key × V)), x = .ref a ∧ xs = [] ∧ H a = some (.dK kvs) ∧ ∀ p, H p = none → Q (.ref p) (upd H p (viewO "dict_values" p a))
theorem mt_values : MtR X "dict.values" rValues := by
  intro pins s σ H x xs v us Q I rx rxs h
  obtain ⟨a, kvs, rfl, rfl, ha, q⟩ := h
  cases rx
  cases rxs
  obtain ⟨z, hd, vs, rel, dd⟩ := dk_of I.hok ha
  have hf : H s.heap.objs.size = none := I.hok.fresh (Nat.le_refl _)
  refine call_meetsIn PySem.F.slot_dict_values dd.typeIs PySem.F.entry_dict_values (PySem.F.args_dict_values_1 _) (meets_dict_values (mixKind X.prog X.w) a hd) ⟨⟨vs, dd⟩, ?_⟩
  exact ⟨.ref s.heap.objs.size, upd H s.heap.objs.size (viewO "dict_values" s.heap.objs.size a), I.laid (t' := s.toks) (fun b u e => Heap.get?_push_of_some _ e) (Nat.le_refl _) (viewO_ok (Heap.get?_push_size _ rfl)), rfl, q _ hf⟩
def rListV : List V → Hp → VK → Prop := fun vs H Q => ∃ (r a : Addr) (kvs : List (Key × V)), vs = [.ref r] ∧ H r = some (viewO "dict_values" r a) ∧ H a = some (.dK kvs) ∧ ∀ p, H p = none → Q (.ref p) (upd H p (.lst (kvs.map (·.2))))
theorem call_listV (hc : X.calm = true) : CallR X (.type "list") rListV := by
  intro pins s σ H xs us Q I r h
  obtain ⟨p, a, kvs, rfl, hp, ha, q⟩ := h
  obtain ⟨u, rfl, rx⟩ := vals1 r
  obtain rfl : u = Value.ref p := rx
  have view : s.heap.get? p = some (DSub.viewOb "dict_values" a) := (show ObjOk X.prog X.w H s.heap p (viewO "dict_values" p a) from I.hok p _ hp).1
  obtain ⟨z, lo, vs, rk, hd⟩ := (show ObjOk X.prog X.w H s.heap a (.dK kvs) from I.hok a _ ha)
  obtain ⟨ep, hat⟩ := hd.dictAt
  have hl : kvs.length = vs.length := Paired.length rk
  refine PySem.W.kdl_call (PySem.W.kdl_values (knd := mixKind X.prog X.w) (kvs := vs) (ep := ep)) (I.ok.hd hc) ⟨⟨_, view, rfl, rfl⟩, hat⟩ (by rw [← hl]; exact z) fun h' tk acc' c' hk hS hacc => ?_
  refine ⟨.ref s.heap.objs.size, upd H s.heap.objs.size (.lst (kvs.map (·.2))), I.laid hk (Nat.le_refl _) (show ObjOk X.prog X.w _ _ _ (.lst (kvs.map (·.2))) from ⟨?_, acc'.toList, c', ?_, ?_⟩), rfl, q _ (I.hok.fresh (Nat.le_refl _))⟩
  · rw [List.length_map]
    exact z
  · have el : acc'.toList.length = acc'.size := by simp
    refine vals_of_at (by rw [List.length_map, el, hacc.1, hl]) fun j x w h1 h2 => ?_
    obtain ⟨k, hk2⟩ := hacc.2 j w (by rw [← Array.getElem?_toList]; exact h2)
    rw [List.getElem?_map] at h1
    obtain ⟨kv, hkv, rfl⟩ := Option.map_eq_some_iff.mp h1
    exact (paired_at rk hkv hk2).2
  · rw [Array.toArray_toList]
    exact hS
/-- name = {..: .. for ..} on one line, flat keys, the name a local -/
theorem ps_setDcK {i : Nat} {y : Str} {py : Pos} {kx vx tg iter : Expr} {ifs : List Expr} {scope : Scope} {own : List (Str × Nat)} {pos spos : Pos} {wi : TI} {g : TG} {tt : TT} {tk tv : TE} (hc : X.calm = true) (hN : X.N.Nodup) (hy : X.N[i]? = some y) (hyl : X.env.scope.names.lookup y = some .local)
    (hsw : swapsWith (.DictComp kx vx [⟨tg, iter, ifs, 0⟩] scope pos) (some (.Name y py)) spos.line X.env = pure true) (hi : PI X tg iter wi) (ok : BlkOk X.N X.env.scope scope own)
    (hg : ∀ (s : Shared) (H : Hp) (C : Addr) (cl : List (Str × Addr)) (fp : List Addr), PG (X.blk s H scope (compEnvC scope cl C X.env) fp) tg g) (ht : ∀ (s : Shared) (H : Hp) (C : Addr) (cl : List (Str × Addr)) (fp : List Addr), PTs (X.blk s H scope (compEnvC scope cl C X.env) fp) ifs tt)
    (hk : ∀ (s : Shared) (H : Hp) (C : Addr) (cl : List (Str × Addr)) (fp : List Addr), PE (X.blk s H scope (compEnvC scope cl C X.env) fp) kx tk)
    (he : ∀ (s : Shared) (H : Hp) (C : Addr) (cl : List (Str × Addr)) (fp : List Addr), PE (X.blk s H scope (compEnvC scope cl C X.env) fp) vx tv) (hs : ∀ x, foldedSetIterable iter X.env x = pure x := by intro _; rfl) :
    PS X (.Assign [.Name y py] (.DictComp kx vx [⟨tg, iter, ifs, 0⟩] scope pos) spos) (tAsg (tDc wi g tt tk tv (own.map (·.2))) (gName i)) := by
  refine ⟨fun pins s σ H D I h => ?_⟩
  rw [exec_Assign_Name_used _ _ _ _ hsw]
  refine wpAny_bind (wpAny_standAt (wpAny_bind ?_))
  show wpAny _ X.A (do let _ ← comprehension (.DictComp kx vx [⟨tg, iter, ifs, 0⟩] scope pos) scope X.env (firstIterPos [⟨tg, iter, ifs, 0⟩] pos) newDict false (eval iter X.env) (some (assign (.Name y py) X.env))) _ _ s
  have h : tDc wi g tt tk tv (own.map (·.2)) σ H (fun x H1 => gName i x σ H1 D.nx) := h
  refine wpAny_bind (thn (dc_core (Qf := fun _ s' => SP X pins D .next s') hc hN I hi ok hg ht hk he hs h fun L C s' m H' I' q hn f => ?_) fun _ s' hq => wpAny_pure (wpAny_pure hq))
  show wpAny _ _ (assign (.Name y py) X.env (.ref L)) _ _ _
  refine wpAny_assign_Name (store_ok2 (v := V.ref L) I' hN hy (.inl hyl) rfl (fun s2 I2 ⟨a, sb, ha⟩ => ?_) (.inr hyl))
  obtain ⟨f0, f1, f2, f3, f4, f5⟩ := f
  have nC : C ≠ a := by
    rcases ha with z | z
    · rw [z]
      exact f1
    · exact fun e => f4 y a z e.symm
  exact ⟨m, hn.sameBut sb nC, fun h3 sb3 => ⟨_, H', I2.turned (t' := s2.toks) (fun b o hb e => (sb3.2 b hb).trans e) f0 f1 f3 f4 f5, q⟩⟩
/-- such a comprehension by what it has made so far -/
theorem dcK_inv {J : It} {n : Nat} {G : Hp → Prop} {Y : Nat → Hp → V → Hp → Prop} {g : TG} {tt : TT} {tk tv : TE} {vs : List Nat} {σ : L2.St} {H1 : Hp} {D : Addr} {Qd : Hp → Prop} (w : Walk J n G Y) (I : Nat → List (Key × V) → Hp → Prop) (bl : ∀ i kvs H o, I i kvs H → I i kvs (upd H D o)) (h0 : I 0 [] H1) (hl : ∀ i kvs H, i < n → I i kvs H → kvs.length < sizeLine) (hG : ∀ i kvs H, i ≤ n → I i kvs H → G H)
    (hs : ∀ i x kvs H H', i < n → I i kvs H → H D = some (.dK kvs) → Y i H x H' → ∀ (R : V → V → Hp → Prop) (S : Hp → Prop), (∀ k v H4, H4 D = some (.dK kvs) → I (i + 1) (putK kvs k v) H4 → R (kV k) v H4) → (∀ H4, H4 D = some (.dK kvs) → I (i + 1) kvs H4 → S H4) →
      g x (wipe σ vs) H' fun σ2 H2 => wipe σ2 vs = wipe σ vs ∧ tt σ2 H2 fun b H3 => if b = true then tk σ2 H3 fun y H4 => tv σ2 H4 fun v H5 => R y v H5 else S H3) (hd : ∀ kvs H, H D = some (.dK kvs) → I n kvs H → Qd H) :
    ∃ W : Nat → Nat → Hp → Prop, (∃ m, W 0 m (upd H1 D (.dK []))) ∧ ∀ i m H, W i m H →
      (J.stop i H ∧ Qd H) ∨ (J.go i H ∧ ∃ Nx : Hp → Prop, (∀ H', Nx H' → ∃ m', m' < m ∧ W (i + 1) m' H') ∧ ∀ x H', J.yld i H x H' → g x (wipe σ vs) H' fun σ2 H2 => wipe σ2 vs = wipe σ vs ∧ tt σ2 H2 fun b H3 =>
        if b = true then tk σ2 H3 fun y H4 => tv σ2 H4 fun z H5 => ∃ kvs k, y = kV k ∧ H5 D = some (.dK kvs) ∧ kvs.length < sizeLine ∧ Nx (upd H5 D (.dK (putK kvs k z))) else Nx H3) := by
  refine ⟨fun i m H => m = n - i ∧ i ≤ n ∧ ∃ kvs, H D = some (.dK kvs) ∧ I i kvs H, ⟨n, by simp, Nat.zero_le _, [], upd_same, bl _ _ _ _ h0⟩, ?_⟩
  rintro i m H ⟨rfl, hi, kvs, e, p⟩
  by_cases hlt : i < n
  · refine .inr ⟨w.goes i H hlt (hG i kvs H hi p), fun H' => ∃ kvs, H' D = some (.dK kvs) ∧ I (i + 1) kvs H', fun H' p' => ⟨n - (i + 1), by omega, rfl, hlt, p'⟩, fun x H' y => ?_⟩
    exact hs i x kvs H H' hlt p e (w.yields i H x H' hlt (hG i kvs H hi p) y) _ _ (fun k v H4 e4 p4 => ⟨kvs, k, rfl, e4, hl i kvs H hlt p, _, upd_same, bl _ _ _ _ p4⟩) fun H4 e4 p4 => ⟨kvs, e4, p4⟩
  · have ei : i = n := by omega
    subst ei
    exact .inl ⟨w.stops H (hG _ kvs H hi p), hd kvs H e p⟩
theorem pe_bm0N {K : PySem.W.Frag} {o : Expr} {to : TE} {name : Str} {apos cpos : Pos} {T id : String} {r : V → List V → Hp → VK → Prop} (hK : X.K = K) (pa : PlainAttrs T) (slot : Slot T name id) (hty : typeOf (.builtin id) = pure (.type "method_descriptor")) (hm : MtR X id r) (ho : PE X o to)
    (hbase : attributeBase o name X.env (eval o X.env) = eval o X.env := by rfl) (hline : (apos.endLine == cpos.line) = true := by rfl) : PE X (.Call (.Attribute o name apos) [] [] cpos) (tBM0 K T r to) := hK ▸ pe_bm0 pa slot hty hm ho hbase hline
/-- xs != [], whatever stands in xs -/
def rNeE : R2 := fun x y H Q => ∃ (a b : Addr) (xs : List V), x = .ref a ∧ y = .ref b ∧ H a = some (.lst xs) ∧ H b = some (.lst []) ∧ Q (.bl (!xs.isEmpty)) H
theorem op_neE (hu : X.A.units < cLine) : OpR X (compareOp .NotEq) rNeE := by
  intro pins s σ H x y v u Q I rx ry h
  obtain ⟨a, b, xs, rfl, rfl, ha, hb, q⟩ := h
  obtain rfl : v = Value.ref a := rx
  obtain rfl : u = Value.ref b := ry
  obtain ⟨its, n, r, ho, hz⟩ := I.lst ha
  obtain ⟨jts, m, r2, ho2, hz2⟩ := I.lst hb
  have e2 : jts = [] := by
    have := r2.length
    exact List.eq_nil_of_length_eq_zero this.symm
  subst e2
  have l1 : s.heap.IsList a its.toArray := ⟨_, ho, rfl, n, rfl⟩
  have l2 : s.heap.IsList b ([] : List Value).toArray := ⟨_, ho2, rfl, m, rfl⟩
  have fin : EP X pins σ Q (.bool (!xs.isEmpty)) s := ⟨.bl _, H, I, rfl, q⟩
  have len := r.length
  cases xs with
  | nil =>
    have ei : its = [] := List.eq_nil_of_length_eq_zero len.symm
    subst ei
    exact SeqAt.RcNeAt.lists (e := fun _ => true) l1 l2 rfl hu (fun j h1 _ => absurd h1 (by simp)) X.prog X.w _ _ fin
  | cons x xs =>
    refine SeqAt.RcNeAt.lists_lengths l1 l2 ?_ hu X.prog X.w _ _ fin
    rw [List.size_toArray, List.size_toArray, ← len]
    rfl
end
end LL

set_option Elab.async false
set_option linter.all false
set_option maxRecDepth 100000
set_option maxHeartbeats 2000000
/-! LLDictO: == of dicts, the values compared one by one, while what is tracked stays (values of own classes). -/
namespace PySem.SeqAt
open PySem.W PyProof.Rows PySem.Calls PySem.Spec
section
variable {prog : Program} {w : World} {K : Type} [DecidableEq K] {knd : KeyKind prog w K} {A : Around} {E : Value → Shared → Prop} {s : Shared}
theorem pairsO {nm : String} {a b : Addr} {ka kb : List (K × Value)} {c : Nat → Bool} {St : Shared → Prop} {Q : Bool → Shared → Prop} (na : (a == sysModules) = false) (nb : (b == sysModules) = false)
    (da : s.heap.DictOf knd a ka) (db : s.heap.DictOf knd b kb) (hs : St s) (same : ∀ u, St u → u.heap.get? a = s.heap.get? a ∧ u.heap.get? b = s.heap.get? b)
    (go : ka.length = kb.length → ∀ i (hi : i < ka.length), (valueAt kb ka[i].1 = none ∧ c i = false) ∨ ∃ y, valueAt kb ka[i].1 = some y ∧ EqSt prog w St A ka[i].2 y (c i))
    (q : ∀ u, St u → Q (ka.length == kb.length && (List.range ka.length).all c) u) : wpAny (model prog w) A (Builtin.Dict.samePairs nm a b) Q E s := by
  obtain ⟨xa, ea, pa, ga, _, ta, qa, ra, _⟩ := da
  obtain ⟨xb, eb, pb, gb, _, tb, qb, rb, _⟩ := db
  have la : ka.length = ea.size := ra.length.symm.trans Array.length_toList
  have lb : kb.length = eb.size := rb.length.symm.trans Array.length_toList
  have find : ∀ k, findBy knd.is eb k = valueAt kb k := fun k => by
    rw [← rb.find k]
    clear lb rb qb tb gb same
    obtain ⟨l⟩ := eb
    simp [findBy]
  have q : ∀ u, St u → Q ((ea.size == eb.size) && (List.range ka.length).all c) u := fun u hu => by
    have := q u hu
    rwa [show (ka.length == kb.length) = (ea.size == eb.size) by rw [la, lb]] at this
  unfold Builtin.Dict.samePairs Builtin.Dict.showsAll; rw [if_neg (show ¬ (a == sysModules) = true by rw [na]; decide), if_neg (show ¬ (b == sysModules) = true by rw [nb]; decide)]
  refine wpAny_bind (wpAny_pure (wpAny_bind (wpAny_pure (wpAny_bind (wpAny_dictEntries ga ta ?_))))); dsimp only
  refine wpAny_bind (wpAny_dictEntries gb tb ?_)
  by_cases sz : ea.size = eb.size
  case neg =>
    have q0 := q s hs
    rw [show (ea.size == eb.size) = false by simpa using sz, Bool.false_and] at q0
    rw [if_pos (by simpa using sz)]; exact wpAny_bind (wpAny_rule (wpAny_pure q0))
  case pos =>
    have lab : ka.length = kb.length := by rw [la, lb]; exact sz
    have go := go lab
    have q : ∀ u, St u → Q ((List.range ka.length).all c) u := fun u hu => by
      have := q u hu
      rwa [show (ea.size == eb.size) = true by simpa using sz, Bool.true_and] at this
    rw [if_neg (by rw [sz]; simp)]; refine wpAny_bind (wpAny_dictEpoch ga ta (wpAny_bind ?_))
    rw [Std.Legacy.Range.forIn_eq_forIn_range']; simp only [Std.Legacy.Range.size, Nat.sub_zero, Nat.add_sub_cancel, Nat.div_one]
    refine wpAny_forIn_list _ (fun rest z u => St u ∧ z = (none, ()) ∧ ∃ i, rest = List.range' i (ea.size - i) ∧ i ≤ ea.size ∧ (List.range i).all c = true) _ ?_ ?_ _ _ ⟨hs, rfl, 0, by simp, Nat.zero_le _, rfl⟩
    · rintro x rest z u ⟨hu, rfl, i, hr, hi, pre⟩
      obtain ⟨g1, g2⟩ := same u hu
      have ga' := g1.trans ga
      have gb' := g2.trans gb
      have lt : i < ea.size := Nat.lt_of_not_le fun h => by rw [Nat.sub_eq_zero_of_le h] at hr; simp at hr
      obtain ⟨rfl, hrest⟩ : x = i ∧ rest = List.range' (i + 1) (ea.size - (i + 1)) := by
        rw [show ea.size - i = (ea.size - (i + 1)) + 1 by omega, List.range'_succ] at hr
        exact List.cons.inj hr
      have lk : x < ka.length := by rw [la]; exact lt
      refine wpAny_bind (wpAny_dictEntries ga' ta ?_); rw [Array.getElem?_eq_getElem lt]
      obtain ⟨k, v, kv⟩ : ∃ k v, ka[x] = (k, v) := ⟨_, _, rfl⟩
      have gox := go x lk
      rw [kv] at gox
      obtain ⟨hk, hv⟩ := ra.get? (i := x) (e := ea[x]) (k := k) (v := v) (by rw [Array.getElem?_toList]; exact Array.getElem?_eq_getElem lt) (by rw [List.getElem?_eq_getElem lk, kv])
      obtain ⟨k', hk', hh⟩ := qa ea[x] (Array.getElem_mem lt)
      rw [knd.inj _ _ _ hk' hk] at hh
      have bad : c x = false → (List.range ka.length).all c = false := fun e => by
        rw [Bool.eq_false_iff]
        intro t
        have := List.all_eq_true.mp t x (List.mem_range.mpr lk)
        rw [e] at this
        cases this
      show wpAny _ _ (holding [ea[x].key, ea[x].val] _ >>= _) _ _ _; rw [hh]
      refine wpAny_bind (wpAny_holding (wpAny_bind (wpAny_dictFind_of hk gb' tb qb ?_)))
      cases hj : eb.findIdx? fun e => knd.is k e.key with
      | none =>
        have no : valueAt kb k = none := by rw [← find k, findBy_of_findIdx?, hj]
        rcases gox with ⟨_, e⟩ | ⟨y, hy, _⟩
        · have := q u hu
          rw [bad e] at this
          refine wpAny_pure ?_; show wpAny _ _ (if (!false) = true then _ else _) _ _ _
          rw [if_pos (by decide)]; exact wpAny_pure (wpAny_pure this)
        · rw [no] at hy; cases hy
      | some j =>
        obtain ⟨lj, _, _⟩ := Array.findIdx?_eq_some_iff_getElem.mp hj
        have yes : valueAt kb k = some eb[j].val := by
          rw [← find k, findBy_of_findIdx?, hj]
          simp [Array.getElem?_eq_getElem lj]
        refine wpAny_bind (wpAny_dictEntries gb' tb ?_); rw [Array.getElem?_eq_getElem lj]
        rcases gox with ⟨no, _⟩ | ⟨y, hy, ey⟩
        · rw [yes] at no; cases no
        · have e1 : eb[j].val = y := Option.some.inj (yes.symm.trans hy)
          rw [← e1, ← hv] at ey
          refine wpAny_holding (ey u hu _ _ fun u' hu' => ?_)
          cases hc : c x with
          | false =>
            have := q u' hu'
            rw [bad hc] at this
            show wpAny _ _ (if (!false) = true then _ else _) _ _ _; rw [if_pos (by decide)]; exact wpAny_pure (wpAny_pure this)
          | true =>
            show wpAny _ _ (if (!true) = true then _ else _) _ _ _; rw [if_neg (by decide)]
            refine wpAny_bind (wpAny_dictEpoch ((same u' hu').1.trans ga) ta ?_); rw [if_neg (by simp)]
            refine wpAny_pure ⟨hu', rfl, x + 1, hrest, lt, ?_⟩
            rw [List.range_succ, List.all_append, pre]
            simp [hc]
    · rintro z u ⟨hu, rfl, i, hr, hi, pre⟩
      have e : i = ea.size := by
        rcases Nat.lt_or_ge i ea.size with h | h
        · rw [show ea.size - i = (ea.size - (i + 1)) + 1 by omega, List.range'_succ] at hr
          cases hr
        · exact Nat.le_antisymm hi h
      have := q u hu
      rw [la, ← e, pre] at this
      exact wpAny_pure this
theorem rcO_dicts {a b : Addr} {ka kb : List (K × Value)} {c : Nat → Bool} {St : Shared → Prop} (na : (a == sysModules) = false) (nb : (b == sysModules) = false)
    (da : s.heap.DictOf knd a ka) (db : s.heap.DictOf knd b kb) (hs : St s) (same : ∀ u, St u → u.heap.get? a = s.heap.get? a ∧ u.heap.get? b = s.heap.get? b) (hu : A.units < cLine)
    (go : ka.length = kb.length → ∀ i (hi : i < ka.length), (valueAt kb ka[i].1 = none ∧ c i = false) ∨ ∃ y, valueAt kb ka[i].1 = some y ∧ EqSt prog w St A.in1 ka[i].2 y (c i))
    (E Q : Value → Shared → Prop) (q : ∀ u, St u → Q (.bool (ka.length == kb.length && (List.range ka.length).all c)) u) : wpAny (model prog w) A (richCompare .Eq (.ref a) (.ref b)) Q E s := by
  refine wpAny_richCompare_same_room (op := .Eq) da.typeIs db.typeIs PySem.F.slot_dict_eq (wpAny_call_entry PySem.F.slot_dict_eq da.typeIs PySem.F.entry_dict_eq ?_ (PySem.F.args_dict_eq_2 _ _)) hu
  unfold Builtin.«dict.__eq__»; refine wpAny_bind ?_; unfold Builtin.Dict.dictSlotArgs
  refine wpAny_bind (wpAny_notOrdered_dict da.typeIs ?_); show wpAny _ _ (pure (Value.ref a, Value.ref b)) _ _ s; refine wpAny_pure (wpAny_bind (wpAny_isInstance (T := "dict") db.typeIs PySem.F.sub_dict_dict ?_))
  simp only [Bool.not_true, Bool.false_eq_true, if_false]; refine wpAny_bind (wpAny_pure (wpAny_bind (wpAny_pure ?_)))
  refine wpAny_bind (pairsO na nb da db hs same go fun u hu => ?_)
  exact wpAny_pure ⟨_, rfl, (fun x => nomatch x), by simpa using q u hu⟩
end
end PySem.SeqAt
namespace LL
open PySem PySem.Spec PyProof.Rows L2
/-- all but dicts stay -/
def SmD (H H' : Hp) : Prop := ∀ b o, H b = some o → (∀ kvs, o ≠ .dK kvs) → H' b = some o
section
variable {X : Cx} {CX : CXT} {k : Nat} {C : Addr} {sp : Sp} {E : XK}
theorem lock_smd {H : Hp} {a : Addr} {ks : List (Key × V)} {od : Obj} (e : H a = some (.dK ks)) : SmD H (upd H a (.frz od (.dK ks))) := fun b o h n => by
  by_cases c : b = a
  · rw [c, e] at h
    exact absurd (Option.some.inj h).symm (n _)
  · rw [upd_ne c]
    exact h
/-- x == y, dicts whose values are instances of the class at C, compared by its own __eq__ -/
def rEqDO (K : PySem.W.Frag) (C : Addr) (sp : Sp) (E : XK) : R2 := fun x y H Q => ∃ (a b : Addr) (ks ls : List (Key × V)) (c : Nat → Bool), x = .ref a ∧ y = .ref b ∧ H a = some (.dK ks) ∧ H b = some (.dK ls) ∧ PySem.W.notFirst K C (.ref C) = true ∧
  (ks.length = ls.length → ∀ (i : Nat) p, ks[i]? = some p → (valV ls p.1 = none ∧ c i = false) ∨ ∃ (x y : Addr), p.2 = .ref x ∧ valV ls p.1 = some (.ref y) ∧ (∃ dx fs, H x = some (.ins C dx fs)) ∧ (∃ dy gs, H y = some (.ins C dy gs)) ∧ (x = y → c i = true) ∧
    ∀ H', SmD H H' → sp [.ref x, .ref y] H' (fun z H2 => z = .bl (c i) ∧ Same H' H2) E) ∧
  ∀ H', Same H H' → Q (.bl (decide (ks.length = ls.length) && (List.range ks.length).all c)) H'
theorem op_eqDO (G : SpF X.prog X.w X.K X.mg X.base CX k C "__eq__" sp) (hr : Rm (k + 1) X.A) (hx : Passes CX X.nox E) : OpR X (compareOp .Eq) (rEqDO X.K C sp E) := by
  obtain ⟨f, fd, ps, hs, hf, hb, F⟩ := G.ex
  intro pins s σ H x y v u Q I rx ry h
  obtain ⟨a, b, ks, ls, c, rfl, rfl, ha, hb', hn, he, q⟩ := h
  cases (show v = Value.ref a from rx)
  cases (show u = Value.ref b from ry)
  obtain ⟨_, na, va, ra, da⟩ := dk_of I.hok ha
  obtain ⟨_, nb, vb, rb, db⟩ := dk_of I.hok hb'
  -- both locked
  obtain ⟨oa, I1⟩ := I.lock ha trivial
  have ga : s.heap.get? a = some oa := (show ObjOk X.prog X.w _ s.heap a (.frz oa (.dK ks)) from I1.hok a _ upd_same).1
  have lockB : ∃ (ob : Obj) (H2 : Hp), s.heap.get? b = some ob ∧ Inv X pins σ H2 s ∧ SmD H H2 ∧ H2 a = some (.frz oa (.dK ks)) ∧ H2 b = some (.frz ob (.dK ls)) ∧
      ∀ (H' : Hp) (u : Shared), Same H2 H' → Inv X pins σ H' u → ∃ H3, Inv X pins σ H3 u ∧ Same H H3 := by
    by_cases e : b = a
    · subst e
      rw [ha] at hb'
      cases hb'
      refine ⟨oa, _, ga, I1, lock_smd ha, upd_same, upd_same, fun H' u sm I2 => ⟨_, I2.unlock (sm _ _ upd_same) (I.nofrz ha trivial), fun d o e => ?_⟩⟩
      by_cases cd : d = b
      · subst cd
        rw [ha] at e
        rw [upd_same]
        exact e
      · rw [upd_ne cd]
        exact sm _ _ (by rw [upd_ne cd]; exact e)
    · have hb1 : upd H a (.frz oa (.dK ks)) b = some (.dK ls) := by rw [upd_ne e]; exact hb'
      obtain ⟨ob, I2⟩ := I1.lock hb1 trivial
      have nba : a ≠ b := fun z => e z.symm
      refine ⟨ob, _, (show ObjOk X.prog X.w _ s.heap b (.frz ob (.dK ls)) from I2.hok b _ upd_same).1, I2, fun d o h n => lock_smd hb1 d o (lock_smd ha d o h n) n, by rw [upd_ne nba, upd_same], upd_same, fun H' u sm I3 => ?_⟩
      have I4 := I3.unlock (sm _ _ upd_same) (I1.nofrz hb1 trivial)
      refine ⟨_, I4.unlock (d := a) (by rw [upd_ne nba]; exact sm _ _ (by rw [upd_ne nba, upd_same])) (I.nofrz ha trivial), fun d o h => ?_⟩
      by_cases ca : d = a
      · subst ca
        rw [ha] at h
        rw [upd_same]
        exact h
      · rw [upd_ne ca]
        by_cases cb : d = b
        · subst cb
          rw [hb'] at h
          rw [upd_same]
          exact h
        · rw [upd_ne cb]
          exact sm _ _ (by rw [upd_ne cb, upd_ne ca]; exact h)
  obtain ⟨ob, H2, gb, I2, smd, h2a, h2b, back⟩ := lockB
  let St : Shared → Prop := fun u => ∃ H', Same H2 H' ∧ Inv X pins σ H' u
  have lks : ks.length = va.length := ra.length
  have lls : ls.length = vb.length := rb.length
  refine SeqAt.rcO_dicts (knd := mixKind X.prog X.w) (c := c) (St := St) na nb da db ⟨H2, Same.rfl', I2⟩ (fun u ⟨H', sm, I'⟩ => ?_) (by have := hr.r.un; omega) (fun hl i hi => ?_) _ _ ?_
  · rw [ga, gb]
    exact ⟨(show ObjOk X.prog X.w _ u.heap a (.frz oa (.dK ks)) from I'.hok a _ (sm _ _ h2a)).1, (show ObjOk X.prog X.w _ u.heap b (.frz ob (.dK ls)) from I'.hok b _ (sm _ _ h2b)).1⟩
  · have hik : i < ks.length := by rw [lks]; exact hi
    obtain ⟨ek, ev⟩ : ks[i].1 = va[i].1 ∧ L2.RelV ks[i].2 va[i].2 := paired_at ra (List.getElem?_eq_getElem hik) (List.getElem?_eq_getElem hi)
    rcases he (by rw [lks, lls]; exact hl) i ks[i] (List.getElem?_eq_getElem hik) with ⟨no, cf⟩ | ⟨x, y, e1, e2, ⟨dx, fs, hx'⟩, ⟨dy, gs, hy'⟩, same, go⟩
    · refine .inl ⟨?_, cf⟩
      rw [← ek]
      exact RelO.none_of (by rw [← no]; exact rb.val _)
    · refine .inr ?_
      obtain ⟨y', hy2, ry'⟩ := RelO.some_of (v := .ref y) (o := valueAt vb ks[i].1) (by rw [← e2]; exact rb.val _)
      cases ry'
      rw [e1] at ev
      refine ⟨.ref y, by rw [← ek]; exact hy2, ?_⟩
      rw [show va[i].2 = Value.ref x from ev]
      rintro s1 ⟨H3, sm, I3⟩ E1 Q1 hq1
      unfold eqBool
      refine wpAny_holding ?_
      refine wpAny_ite_split (fun hab => ?_) (fun hab => ?_)
      · refine wpAny_pure (M := model X.prog X.w) (E := E1) ?_
        have e : x = y := by
          have := eq_of_beq hab
          injection this
        have := hq1 s1 ⟨H3, sm, I3⟩
        rw [same e] at this
        exact this
      · have smd3 : SmD H H3 := fun d o e n => sm _ _ (smd d o e n)
        obtain ⟨od, J⟩ := inst_of I3 (smd3 _ _ hx' (fun _ z => by cases z))
        obtain ⟨m, hF⟩ := I3.fr
        obtain ⟨od', J'⟩ := inst_of I3 (smd3 _ _ hy' (fun _ z => by cases z))
        refine wpAny_bind ?_
        refine PySem.W.cmp_K (op := .Eq) hr.in1.r.units0 hF I3.ok.mod.kin J J'.type hn hs hf ?_
        have go1 := run_g (X := X.nox) (us := [.ref x, .ref y]) (vs := [.ref x, .ref y]) (dvs := []) F hr.in1 (I3.wish _).env0.in1 hb .nil hx (I3.wish _) (.cons rfl (.cons rfl .nil)) (by rw [List.append_nil]; exact go H3 smd3)
        refine wpAny_mono go1 (fun w s' z => ?_) fun _ _ z => z.elim
        obtain ⟨z', H', I', rz, rfl, sm'⟩ := z
        cases (show w = Value.bool (c i) from rz)
        exact SlX.cmpback (show RelV (.bl (c i)) (.bool (c i)) from rfl) (wpAny_truthy_bool (hq1 s' ⟨H', sm.trans sm', I'.wish _⟩))
  · rintro s1 ⟨H3, sm, I3⟩
    obtain ⟨H4, I4, sm4⟩ := back _ _ sm I3
    refine ⟨.bl _, H4, I4, ?_, q H4 sm4⟩
    show _ = _
    rw [lks, lls]
    by_cases e : va.length = vb.length <;> simp [e]
end
end LL

set_option Elab.async false
set_option linter.all false
/-! LLRst: what stands outside of some addresses. -/
namespace LL
open PySem PySem.Spec PyProof.Rows L2
def rst (M : List Addr) (H : Hp) : Hp := fun a => if a ∈ M then none else H a
theorem rst_at {M : List Addr} {H : Hp} {a : Addr} (n : a ∉ M) : rst M H a = H a := if_neg n
theorem rst_in {M : List Addr} {H : Hp} {a : Addr} (n : a ∈ M) : rst M H a = none := if_pos n
theorem rst_out {M : List Addr} {H : Hp} {a : Addr} {o : HO} (e : rst M H a = some o) : a ∉ M ∧ H a = some o := by
  by_cases c : a ∈ M
  · rw [rst_in c] at e
    cases e
  · rw [rst_at c] at e
    exact ⟨c, e⟩
theorem rst_le {M : List Addr} {H : Hp} : Same (rst M H) H := fun a o e => (rst_out e).2
theorem rst_same {M : List Addr} {H H' : Hp} (s : Same H H') : Same (rst M H) (rst M H') := fun a o e => by
  obtain ⟨n, e⟩ := rst_out e
  rw [rst_at n]
  exact s _ _ e
theorem rst_upd {M : List Addr} {H : Hp} {a : Addr} {o : HO} (h : a ∈ M) : rst M (upd H a o) = rst M H := funext fun b => by
  unfold rst
  by_cases c : b ∈ M
  · rw [if_pos c, if_pos c]
  · rw [if_neg c, if_neg c, upd_ne fun e => c (by rw [e]; exact h)]
theorem rst_one {H : Hp} {a b : Addr} {o : HO} (h : H b = some o) (n : b ≠ a) : rst [a] H b = some o := by
  rw [rst_at (fun z => n (List.mem_singleton.mp z))]
  exact h
theorem same_rst1 {H H' : Hp} {p : Addr} (np : H p = none) (s : Same H H') : Same H (rst [p] H') := fun b o e => rst_one (s _ _ e) (ne_of_none e np)
end LL

set_option linter.all false
/-! M13: fractions in lowest terms by symbols, sorted. -/
namespace W13
open PySem K11
abbrev lt' (a b : Str) : Prop := a.cps.toList < b.cps.toList
theorem lt_tri (a b : Str) : lt' a b ∨ a = b ∨ lt' b a := by
  have ex : a.cps.toList = b.cps.toList → a = b := fun e => by
    cases a; cases b
    congr 1
    exact Array.toList_inj.mp e
  by_cases h1 : a.cps.toList < b.cps.toList
  · exact .inl h1
  · by_cases h2 : b.cps.toList < a.cps.toList
    · exact .inr (.inr h2)
    · exact .inr (.inl (ex (List.le_antisymm (List.not_lt.mp h2) (List.not_lt.mp h1))))
theorem lt_irr (a : Str) : ¬ lt' a a := List.lt_irrefl _
theorem lt_trans {a b c : Str} (h : lt' a b) (g : lt' b c) : lt' a c := List.lt_trans h g
theorem nlt_trans {a b c : Str} (h : ¬ lt' b a) (g : ¬ lt' c b) : ¬ lt' c a := fun z => by
  rcases lt_tri a b with q | q | q
  · exact g (lt_trans z q)
  · exact g (q ▸ z)
  · exact h q
theorem strict_of {cs : List Str} (s : cs.Pairwise fun a b => ¬ lt' b a) (n : cs.Nodup) : cs.Pairwise lt' := by
  refine (s.and n).imp fun {a b} z => ?_
  rcases lt_tri a b with q | q | q
  · exact q
  · exact absurd q z.2
  · exact absurd q z.1
/-! ### fractions -/
abbrev Fr2 := Int × Int
def lowP (p : Fr2) : Fr2 := (lt p.1 p.2, lb p.1 p.2)
structure Low (p : Fr2) : Prop where
  pos : 0 < p.2
  eq : lowP p = p
theorem low_of {p : Fr2} (h : p.2 ≠ 0) : Low (lowP p) := ⟨lb_pos h, Prod.ext (lt_idem h) (lb_idem h)⟩
theorem low_zero {p : Fr2} (h : Low p) (e : p.1 = 0) : p = (0, 1) := by
  have h2 := congrArg Prod.snd h.eq
  have hp := h.pos
  obtain ⟨t, b⟩ := p
  subst e
  have : lb 0 b = b := h2
  have e2 := lb_mul (x := 0) (y := b) (by dsimp only at hp; omega)
  rw [this] at e2
  have d : dv 0 b = b := by
    unfold dv
    rw [Int.gcd_zero_left, if_neg (by dsimp only at hp; omega)]
    dsimp only at hp
    omega
  rw [d] at e2
  have : b = 1 := by
    have hb : b ≠ 0 := by dsimp only at hp; omega
    exact Int.eq_one_of_mul_eq_self_left hb e2
  rw [this]
theorem low_zero1 : Low (0, 1) := ⟨by decide, by decide⟩
theorem low_int (n : Int) : Low (n, 1) := ⟨Int.one_pos, Prod.ext (lt_one n).1 (lt_one n).2⟩
theorem lowP_zero {p : Fr2} (h : p.2 ≠ 0) : (lowP p).1 = 0 ↔ p.1 = 0 := lt_zero h
def addP (p q : Fr2) : Fr2 := lowP (p.1 * q.2 + q.1 * p.2, p.2 * q.2)
def mulP (p q : Fr2) : Fr2 := lowP (p.1 * q.1, p.2 * q.2)
def negP (p : Fr2) : Fr2 := (-p.1, p.2)
/-! ### by symbols -/
abbrev Wts := List (Str × Int × Int)
def val (ws : Wts) (s : Str) : Fr2 := ((ws.find? fun x => decide (x.1 = s)).map (·.2)).getD (0, 1)
def Nd (ws : Wts) : Prop := (ws.map (·.1)).Nodup
def Lw (ws : Wts) : Prop := ∀ x ∈ ws, Low x.2
theorem val_mem : ∀ {ws : Wts}, Nd ws → ∀ {x : Str × Int × Int}, x ∈ ws → val ws x.1 = x.2
  | [], _, x, h => by cases h
  | y :: ws, nd, x, h => by
    obtain ⟨n1, n2⟩ := List.nodup_cons.mp (show (y.1 :: ws.map (·.1)).Nodup from nd)
    unfold val
    rw [List.find?_cons]
    rcases List.mem_cons.mp h with rfl | h
    · rw [decide_eq_true rfl]
      rfl
    · have ne : ¬ y.1 = x.1 := fun e => n1 (List.mem_map.mpr ⟨x, h, e.symm⟩)
      rw [decide_eq_false ne]
      exact val_mem n2 h
theorem val_none {ws : Wts} {s : Str} (h : s ∉ ws.map (·.1)) : val ws s = (0, 1) := by
  unfold val
  rw [List.find?_eq_none.mpr fun x hx e => h (List.mem_map.mpr ⟨x, hx, of_decide_eq_true e⟩)]
  rfl
theorem val_low {ws : Wts} (h : Lw ws) (s : Str) : Low (val ws s) := by
  unfold val
  cases e : ws.find? fun x => decide (x.1 = s) with
  | none => exact low_zero1
  | some x => exact h x (List.mem_of_find?_eq_some e)
/-- sorted, without zeros -/
structure Cln (ws out : Wts) : Prop where
  srt : out.Pairwise fun x y => lt' x.1 y.1
  mem : ∀ x, x ∈ out ↔ x ∈ ws ∧ x.2.1 ≠ 0
structure Can (ws : Wts) : Prop where
  srt : ws.Pairwise fun x y => lt' x.1 y.1
  nz : ∀ x ∈ ws, x.2.1 ≠ 0
  low : Lw ws
theorem srt_nd {ws : Wts} (h : ws.Pairwise fun x y => lt' x.1 y.1) : Nd ws := List.pairwise_map.mpr (h.imp fun {a b} (z : lt' a.1 b.1) (e : a.1 = b.1) => lt_irr b.1 (e ▸ z))
theorem Can.nd {ws : Wts} (h : Can ws) : Nd ws := srt_nd h.srt
theorem Cln.can {ws out : Wts} (c : Cln ws out) (l : Lw ws) : Can out := ⟨c.srt, fun x hx => ((c.mem x).mp hx).2, fun x hx => l x ((c.mem x).mp hx).1⟩
theorem Cln.val {ws out : Wts} (c : Cln ws out) (nd : Nd ws) (l : Lw ws) (s : Str) : val out s = val ws s := by
  by_cases h : s ∈ ws.map (·.1)
  · obtain ⟨x, hx, rfl⟩ := List.mem_map.mp h
    rw [val_mem nd hx]
    by_cases z : x.2.1 = 0
    · rw [low_zero (l x hx) z]
      refine val_none fun m => ?_
      obtain ⟨y, hy, e⟩ := List.mem_map.mp m
      obtain ⟨h1, h2⟩ := (c.mem y).mp hy
      have : y.2 = x.2 := by rw [← val_mem nd h1, ← val_mem nd hx, e]
      exact h2 (by rw [this]; exact z)
    · exact val_mem (srt_nd c.srt) ((c.mem x).mpr ⟨hx, z⟩)
  · rw [val_none h]
    refine val_none fun m => h ?_
    obtain ⟨y, hy, e⟩ := List.mem_map.mp m
    exact List.mem_map.mpr ⟨y, ((c.mem y).mp hy).1, e⟩
theorem srt_ext : ∀ {l m : Wts}, l.Pairwise (fun x y => lt' x.1 y.1) → m.Pairwise (fun x y => lt' x.1 y.1) → (∀ x, x ∈ l ↔ x ∈ m) → l = m
  | [], [], _, _, _ => rfl
  | [], y :: m, _, _, h => absurd ((h y).mpr (List.mem_cons_self ..)) (by simp)
  | x :: l, [], _, _, h => absurd ((h x).mp (List.mem_cons_self ..)) (by simp)
  | x :: l, y :: m, hl, hm, h => by
    obtain ⟨l1, l2⟩ := List.pairwise_cons.mp hl
    obtain ⟨m1, m2⟩ := List.pairwise_cons.mp hm
    have e : x = y := by
      rcases List.mem_cons.mp ((h x).mp (List.mem_cons_self ..)) with e | hx
      · exact e
      · rcases List.mem_cons.mp ((h y).mpr (List.mem_cons_self ..)) with e | hy
        · exact e.symm
        · exact absurd (lt_trans (l1 y hy) (m1 x hx)) (lt_irr _)
    subst e
    rw [srt_ext l2 m2 fun z => ?_]
    constructor
    · intro hz
      rcases List.mem_cons.mp ((h z).mp (List.mem_cons_of_mem _ hz)) with rfl | q
      · exact absurd (l1 _ hz) (lt_irr _)
      · exact q
    · intro hz
      rcases List.mem_cons.mp ((h z).mpr (List.mem_cons_of_mem _ hz)) with rfl | q
      · exact absurd (m1 _ hz) (lt_irr _)
      · exact q
theorem can_mem {ws : Wts} (h : Can ws) {x : Str × Int × Int} : x ∈ ws ↔ val ws x.1 = x.2 ∧ x.2.1 ≠ 0 := by
  refine ⟨fun m => ⟨val_mem h.nd m, h.nz x m⟩, fun ⟨e, n⟩ => ?_⟩
  by_cases k : x.1 ∈ ws.map (·.1)
  · obtain ⟨y, hy, ey⟩ := List.mem_map.mp k
    have := val_mem h.nd hy
    rw [ey, e] at this
    have exy : x = y := Prod.ext ey.symm this
    rw [exy]
    exact hy
  · rw [val_none k] at e
    exact absurd (by rw [← e]) n
/-- two of them are the same if all symbols weigh the same -/
theorem can_ext {l m : Wts} (hl : Can l) (hm : Can m) (h : ∀ s, val l s = val m s) : l = m := srt_ext hl.srt hm.srt fun x => by
  rw [can_mem hl, can_mem hm, h]
end W13

set_option Elab.async false
set_option linter.all false
set_option maxRecDepth 100000
set_option maxHeartbeats 2000000
/-! LLStarT: a starred target: first, *rest = a list. -/
namespace LL
open PySem PySem.Spec PySem.Calls PyProof.Rows L2
section
variable {prog : Program} {w : World} {A : Around} {E : Value → Shared → Prop} {s : Shared}
/-- the rest of a list's iterator; no object goes -/
theorem collect_li {Z l : Addr} {xs : Array Value} {k : Nat} {Q : List Value → Shared → Prop} (hh : A.handled = none) (ne : l ≠ Z) (it : s.heap.IsListIter Z l k) (isl : s.heap.IsList l xs) (hk : k ≤ xs.size) (hz : xs.size ≤ sizeLine)
    (q : ∀ g tk, s.heap.objs.size ≤ g.objs.size → (∀ b o, b ≠ Z → s.heap.get? b = some o → g.get? b = some o) → Q (xs.toList.drop k) { s with heap := g, toks := tk }) : wpAny (model prog w) A (collect (.ref Z)) Q E s := by
  have W := (PySem.W.kun_shift (Walks.list (prog := prog) (w := w) (A := A.in1) hh Z l ne xs) hk).toS
  have zl : Z < s.heap.objs.size ∧ l < s.heap.objs.size := by
    obtain ⟨_, e1, _⟩ := it
    obtain ⟨_, e2, _⟩ := isl
    exact ⟨Heap.lt_size e1, Heap.lt_size e2⟩
  have nz : s.heap.objs.size ∉ [Z, l] := fun m => by
    rcases List.mem_cons.mp m with e | m
    · exact Nat.lt_irrefl _ (e ▸ zl.1)
    · exact Nat.lt_irrefl _ (List.mem_singleton.mp m ▸ zl.2)
  have st0 := W.frame 0 s (s.heap.push { cls := .type "list", data := .seq ([] : List Value).toArray }) s.toks ⟨it, isl⟩ (Nat.le_refl _) (fun b _ o e => Heap.get?_push_of_some _ e)
  have new0 : (s.heap.push { cls := .type "list", data := .seq ([] : List Value).toArray }).get? s.heap.objs.size = some { cls := .type "list", data := .seq ([] : List Value).toArray } := Heap.get?_push_size _ rfl
  have self0 : Builtin.List.listSameRef (.ref s.heap.objs.size) (.ref Z) = false := by
    have : s.heap.objs.size ≠ Z := (Nat.ne_of_lt zl.1).symm
    simp [Builtin.List.listSameRef, this]
  unfold collect; refine wpAny_bind (wpAny_runValue (codeAny_builtin F.entry_proto_collect ?_)); rw [Around.under_plainId F.plain_proto_collect _]
  show wpAny (model prog w) A.in1 (newList [] >>= fun d => again (.builtin "list.__iadd__" ⟨[d, .ref Z], []⟩)) _ _ s; refine wpAny_bind (wpAny_newObj_type ?_)
  refine wpAny_pure ⟨plainId_quiet F.plain_list_iadd _, codeAny_builtin F.entry_list_iadd ?_⟩; rw [Around.under_plainId F.plain_list_iadd _]
  show wpAny (model prog w) A.in1 (Builtin.List.listExtendWith (.ref s.heap.objs.size) (.ref Z) (.ref s.heap.objs.size)) _ _ _; unfold Builtin.List.listExtendWith
  refine wpAny_bind (wpAny_typeOf (T := "list_iterator") (s := { s with heap := s.heap.push { cls := .type "list", data := .seq ([] : List Value).toArray } }) st0.1.typeIs ?_); rw [if_neg (by rw [self0]; decide)]
  refine wpAny_bind (W.self 0 _ _ _ st0 ?_); refine wpAny_bind (wpAny_holding ?_); unfold Builtin.List.listLengthHint
  refine wpAny_bind (wpAny_specialOf (T := "list_iterator") st0.1.typeIs F.nolen_li ?_); show wpAny (model prog w) A.in1 (specialOf (Value.ref Z) (Str.ofString "__length_hint__") >>= _) _ _ _
  refine wpAny_bind (wpAny_specialOf (T := "list_iterator") st0.1.typeIs F.hint_li ?_)
  generalize hid : ("list_iterator.__length_hint__" : String) = id0; fail_if_success (clear hid id0)
  wp_delta; rw [show splitId id0 = some ("list_iterator", "__length_hint__") from by subst hid; decide +kernel]; subst hid
  refine wpAny_bind (wpAny_isInstance (T := "list_iterator") (b := true) st0.1.typeIs (by rw [isSubtype_type]; kernel_rfl) ?_); refine wpAny_pure ?_; rw [if_neg (by decide)]
  refine wpAny_pure ⟨plainId_quiet F.plain_extend_loop _, codeAny_extend_loopS W (by omega) _ nz _ _ 0 _ _ _ rfl (Nat.zero_le _) st0 new0 (ItemsOf.nil _) fun u acc c mv hS ha => ?_⟩
  show wpAny (model prog w) A (load s.heap.objs.size >>= _) _ _ u; refine wpAny_bind (wpAny_load hS (wpAny_pure ?_))
  have mv' := Moved.drop_new (o := { cls := .type "list", data := .seq ([] : List Value).toArray }) (tk := s.toks) mv (Nat.le_refl _)
  obtain ⟨g, g', d', t', o'⟩ := u
  obtain ⟨m1, m2, m3, m4, _⟩ := mv'
  have m2 : g' = s.gens := m2; have m3 : d' = s.drawn := m3; have m4 : o' = s.os := m4
  subst m2 m3 m4; rw [PySem.W.kun_acc hk ha]
  exact q g t' (Nat.le_of_lt (Heap.lt_size hS)) fun b o hb e => m1 b o (by simpa using hb) e
theorem star_list {l : Addr} {v : Value} {r : List Value} {Q : List Value → Shared → Prop} (isl : s.heap.IsList l (v :: r).toArray) (hh : A.handled = none) (hz : (v :: r).length ≤ 16384)
    (q : ∀ (D : Addr) (g : Heap) (tk : Nat), s.heap.objs.size ≤ D → (∀ b o, s.heap.get? b = some o → g.get? b = some o) → g.get? D = some { cls := .type "list", dict := none, data := .seq r.toArray 0, slots := #[] } → Q [v, .ref D] { s with heap := g, toks := tk }) :
    wpAny (model prog w) A (unpackItems (.ref l) 2 (some 1)) Q E s := by
  have nl : l ≠ s.heap.objs.size := by
    obtain ⟨_, e, _⟩ := isl
    exact Nat.ne_of_lt (Heap.lt_size e)
  unfold unpackItems; refine wpAny_bind ?_; unfold notIterableAtAll; refine wpAny_bind (wpAny_specialOf isl.typeIs slot_list_iter.lookup (wpAny_pure ?_)); simp only [Bool.false_eq_true, if_false]
  refine wpAny_bind (wpAny_holding (wpAny_pyIter_list isl ?_)); refine wpAny_bind (wpAny_holding (PySem.W.kun_draw nl 1 0 _ _ ⟨_, Heap.get?_push_size _ rfl, rfl, rfl⟩ (isl.push _) (by simp) fun g1 it1 k1 => ?_))
  have isl1 : g1.IsList l (v :: r).toArray := (isl.push _).extBut k1.extBut nl
  rw [Nat.zero_add] at it1
  have big : s.heap.objs.size < g1.objs.size := by
    obtain ⟨_, e, _⟩ := id it1
    exact Heap.lt_size e
  rw [show (List.drop 0 (v :: r).toArray.toList).take 1 = [v] from rfl, if_neg (show ¬ ([v].length < 1) by simp)]
  refine wpAny_bind (wpAny_holding (collect_li (s := { s with heap := g1 }) hh nl it1 isl1 (by simp) (by rw [List.size_toArray, sizeLine_eq]; omega) fun g2 tk big2 k2 => ?_))
  rw [show (v :: r).toArray.toList.drop 1 = r from rfl]
  show wpAny _ _ (if r.length < 2 - 1 - 1 then _ else _) _ _ _; rw [if_neg (by omega)]
  show wpAny _ _ (newList (r.take (r.length - (2 - 1 - 1))) >>= fun d => pure ([v] ++ [d] ++ r.drop (r.length - (2 - 1 - 1)))) _ _ _
  rw [show r.take (r.length - (2 - 1 - 1)) = r from List.take_of_length_le (by omega), show r.drop (r.length - (2 - 1 - 1)) = [] from List.drop_eq_nil_of_le (by omega)]
  have keep : ∀ b o, s.heap.get? b = some o → g2.get? b = some o := fun b o e => by
    have nb : b ≠ s.heap.objs.size := Nat.ne_of_lt (Heap.lt_size e)
    exact k2 _ o nb (k1.extBut _ o nb (Heap.get?_push_of_some _ e))
  exact wpAny_bind (wpAny_newList (wpAny_pure (q _ _ tk (Nat.le_trans (Nat.le_of_lt big) big2) (fun b o e => Heap.get?_push_of_some _ (keep b o e)) (Heap.get?_push_size _ rfl))))
end
section
variable {X : Cx}
/-- first, *rest = a list that is not empty -/
def gStar1 (K : PySem.W.Frag) (t : TGs) : TG := fun v σ H Q => ∃ a x xs, v = .ref a ∧ SqL K H a (x :: xs) ∧ xs.length ≤ 16000 ∧ ∀ D, H D = none → t [x, .ref D] σ (upd H D (.lst xs)) Q
theorem pg_star1 {e1 e2 : Expr} {p pos : Pos} {k : Nat} {t : TGs} (hc : X.calm = true) (h : PGs X [e1, e2] t) (hm : (assignEach [e1, .Starred e2 p] X.env).map (·.2) = (assignEach [e1, e2] X.env).map (·.2) := by rfl)
    (hn : (assignEach [e1, .Starred e2 p] X.env).length = 2 := by rfl) (hst : (assignEach [e1, .Starred e2 p] X.env).findIdx? (·.1) = some 1 := by rfl) : PG X (.Tuple [e1, .Starred e2 p] k pos) (gStar1 X.K t) := by
  refine ⟨fun pins s σ H v u Q I r hw => ?_⟩
  obtain ⟨a, x, xs, rfl, hq, hz, hw⟩ := hw
  cases r
  obtain ⟨its, rv, isl, _⟩ := I.list hq
  cases rv with
  | cons rx rr =>
  rename_i ux us
  rw [assign_Tuple]
  refine wpAny_bind (wpAny_standAt ?_)
  unfold unpack
  rw [hn, hst, hm]
  have lr := rr.length
  refine wpAny_bind (wpAny_holding (star_list isl.isList (I.ok.hd hc) (by rw [List.length_cons]; omega) fun D h' tk hD kp e => ?_))
  have I1 : Inv X pins σ (upd H D (.lst xs)) { s with heap := h', toks := tk } := I.laid (t' := tk) kp hD (show ObjOk X.prog X.w _ h' D (.lst xs) from ⟨Nat.le_trans hz (by rw [sizeLine_eq]; decide), us, 0, rr, e⟩)
  exact h.run pins _ σ _ [x, .ref D] [ux, .ref D] Q I1 (.cons rx (.cons rfl .nil)) (hw D (I.hok.fresh hD))
end
end LL

set_option Elab.async false
set_option linter.all false
set_option maxRecDepth 100000
set_option maxHeartbeats 4000000
/-! F13: symbols, terms. -/
namespace K12
open PySem PySem.Spec PyProof.Rows L2 LL K11 W13
abbrev s_is_amount : Stmt := top 13
abbrev n_is_amount : List Str := ["value"]
theorem sc_is_amount : FnScope n_is_amount ["value"] (defScope s_is_amount) := ⟨rfl, rfl, rfl, by decide +kernel, rfl, by decide +kernel, by decide +kernel⟩
abbrev s_is_symbol : Stmt := top 19
abbrev n_is_symbol : List Str := ["value", "sign"]
theorem sc_is_symbol : FnScope n_is_symbol ["value"] (defScope s_is_symbol) := ⟨rfl, rfl, rfl, by decide +kernel, rfl, by decide +kernel, by decide +kernel⟩
abbrev s_require_symbol : Stmt := top 20
abbrev n_require_symbol : List Str := ["value"]
theorem sc_require_symbol : FnScope n_require_symbol ["value"] (defScope s_require_symbol) := ⟨rfl, rfl, rfl, by decide +kernel, rfl, by decide +kernel, by decide +kernel⟩
abbrev s_are_terms : Stmt := top 21
abbrev n_are_terms : List Str := ["value", "symbol", "amount"]
theorem sc_are_terms : FnScope n_are_terms ["value"] (defScope s_are_terms) := ⟨rfl, rfl, rfl, by decide +kernel, rfl, by decide +kernel, by decide +kernel⟩
abbrev sgn13 : Str := "abcdefghijklmnopqrstuvwxyz.0123456789"
abbrev dig13 : Str := "0123456789"
structure Ty (K : PySem.W.Frag) (mg : Str → Option Value) (C CF : Addr) : Prop extends Tx K mg C where
  cf : Cls K CF
  nC : NoAttr K CF "own_constant"
  nW : NoAttr K CF "own_weights"
  g_Form : mg "Form" = some (.ref CF)
  g_DIGITS : ∃ t, mg "DIGITS" = some (.str dig13 t)
  g_SIGNS : ∃ t, mg "SIGNS" = some (.str sgn13 t)
  g_MOST_SIGNS : ∃ t, mg "MOST_SIGNS" = some (.int 24 t)
  caF : PySem.W.findIn K (.ref CF) "__class__" = some (some (.builtin "object.__class__"))
  cmF : PySem.W.mroIn K CF (.type "object") = some true
  neF : PySem.W.findIn K (.ref CF) "__ne__" = some (some (.builtin "object.__ne__"))
  kFF : PySem.W.kitOne K (.ref CF) (.ref CF) = some true
  kAF : PySem.W.kitOne K (.ref C) (.ref CF) = some false
  kFA : PySem.W.kitOne K (.ref CF) (.ref C) = some false
  kIF : PySem.W.kitOne K (.type "int") (.ref CF) = some false
  kSF : PySem.W.kitOne K (.type "str") (.ref CF) = some false
  fFF : PySem.W.notFirst K CF (.ref CF) = true
  fFA : PySem.W.notFirst K CF (.ref C) = true
  fFI : PySem.W.notFirst K CF (.type "int") = true
  fFS : PySem.W.notFirst K CF (.type "str") = true
  fAF : PySem.W.notFirst K C (.ref CF) = true
  fm : PySem.W.findIn K (.ref C) "__format__" = some (some (.builtin "object.__format__"))
  n_sorted : mg "sorted" = none
  n_list : mg "list" = none
  n_dict : mg "dict" = none
theorem kStr {K : PySem.W.Frag} : PySem.W.kitOne K (.type "str") (.type "str") = some true := kit_ty (by decide +kernel)
theorem kDict {K : PySem.W.Frag} : PySem.W.kitOne K (.type "dict") (.type "dict") = some true := kit_ty (by decide +kernel)
section
variable {P : Program} {w : World} {K : PySem.W.Frag} {mg : Str → Option Value} {base : Heap} {C CF : Addr} {f : Addr} {fd : FuncData}
/-! ### is_amount -/
def spIsAmt (C : Addr) : Sp := fun vs H Q _ => ∃ v t b, vs = [v] ∧ AmtV C H v t b ∧ Q (.bl true) H
theorem ok_is_amount (T : Ty K mg C CF) (G_is_integer : Fnc P w K mg base CX0 1 "is_integer" [] (spIsInt K)) (F : FD K "is_amount" "is_amount" s_is_amount [] f fd) : FnG P w K mg base CX0 2 f fd ["value"] (spIsAmt C) := by
  refine ok0 F sc_is_amount (fun vs H Q E h => ?_) (fun cdv A outer s H vs Q E hr h => ?_)
  · obtain ⟨v, t, b, rfl, _⟩ := h
    rfl
  · obtain ⟨v, t, b, rfl, hv, q⟩ := h
    refine ⟨_, (pss_one (ps_ret (pe_or (pe_callB call_isi (by rfl) T.n_isinstance (by decide +kernel) (pa_cons (pv 0) (pa_cons (pe_glob (v := .ref C) (by rfl) T.g_Amount rfl) pa_nil))) (pe_one (pe_fn G_is_integer (hr.mono (by decide)) pass0 (pa_cons (pv 0) pa_nil)))))), ?_⟩
    rcases hv with ⟨p, rfl, hp⟩ | ⟨rfl, rfl⟩
    · exact ⟨_, rfl, _, _, .ref C, _, _, rfl, .own C, tyA T.toTx hp, T.kC, _, rfl, iteT q⟩
    · exact ⟨_, rfl, _, _, .type "int", _, _, rfl, .own C, .base (.int t), T.kI, _, rfl, iteF ⟨_, rfl, _, .type "int", _, _, rfl, .base (.int t), kInt, kIntB, q⟩⟩
/-! ### is_symbol -/
def symB (z : Str) : Bool := decide (1 ≤ z.length) && (decide (z.length ≤ 24) && ((z.cps.toList.all fun c => decide (c ∈ sgn13.cps.toList)) && !(z.cps.toList.all fun c => decide (c ∈ dig13.cps.toList))))
def spSym : Sp := fun vs H Q _ => ∃ z : Str, vs = [.str z] ∧ z.length ≤ 1000 ∧ ∀ H', Same H H' → Q (.bl (symB z)) H'
theorem ok_is_symbol (T : Ty K mg C CF) (F : FD K "is_symbol" "is_symbol" s_is_symbol [] f fd) : FnG P w K mg base CX0 1 f fd ["value"] spSym := by
  refine ok0 F sc_is_symbol (fun vs H Q E h => ?_) (fun cdv A outer s H vs Q E hr h => ?_)
  · obtain ⟨z, rfl, _⟩ := h
    rfl
  · obtain ⟨z, rfl, lz, q⟩ := h
    refine ⟨_, (pss_cons (ps_if (PW.pt (pw_or (pt_not (pt_val (pe_callB call_isi (by rfl) T.n_isinstance (by decide +kernel) (pa_cons (pv 0) (pa_cons (pe_bltn (v := .ty "str") (by rfl) T.n_str (by decide +kernel) rfl) pa_nil))))) (pw_or1 (pt_not (pt_chain op_le op_le pe_int (pe_callB call_len_str (by rfl) T.n_len (by decide +kernel) (pa_cons (pv 0) pa_nil)) (pe_gI T.g_MOST_SIGNS)))))) (pss_one (ps_ret pe_bl)) pss_nil)
      (pss_one (ps_ret (pe_and (pe_callB (cr_all rfl) (by rfl) T.n_all (by decide +kernel) (pa_cons (pe_lc (own := [("sign", 1)]) rfl sc_is_symbol.nd (pi_str (pv 0)) (blkOk_by (own := [("sign", 1)]) (N := n_is_symbol) (sc := defScope s_is_symbol) (by decide +kernel)) (fun _ _ _ _ _ => (pg_name (i := 1) sc_is_symbol.nd rfl (by first | exact Or.inl rfl | exact Or.inr rfl))) (fun _ _ _ _ _ => pts_nil) (fun _ _ _ _ _ => (pe_cmpR op_in_sign (pv 1) (pe_gS T.g_SIGNS) (by rfl)))) pa_nil)) (pe_one (pe_not (pe_callB (cr_all rfl) (by rfl) T.n_all (by decide +kernel) (pa_cons (pe_lc (own := [("sign", 1)]) rfl sc_is_symbol.nd (pi_str (pv 0)) (blkOk_by (own := [("sign", 1)]) (N := n_is_symbol) (sc := defScope s_is_symbol) (by decide +kernel)) (fun _ _ _ _ _ => (pg_name (i := 1) sc_is_symbol.nd rfl (by first | exact Or.inl rfl | exact Or.inr rfl))) (fun _ _ _ _ _ => pts_nil) (fun _ _ _ _ _ => (pe_cmpR op_in_sign (pv 1) (pe_gS T.g_DIGITS) (by rfl)))) pa_nil)))))))), ?_⟩
    have ls : z.length ≤ sizeLine := small (by omega)
    refine ⟨_, rfl, _, _, .type "str", _, _, rfl, .ty "str", .base (.str _), kStr, _, rfl, iteF ⟨_, rfl, z, rfl, ls, _, _, rfl, rfl, _, rfl, ?_⟩⟩
    have ez : z.cps.toList.length = z.length := rfl
    have ez' : z.cps.size = z.length := rfl
    by_cases c1 : 1 ≤ z.length
    · refine iteY (decide_eq_true (by omega)) ⟨_, _, rfl, rfl, _, rfl, ?_⟩
      by_cases c2 : z.length ≤ 24
      · refine iteN (by rw [decide_eq_true (by omega)]; rfl) ?_
        have eb : symB z = ((z.cps.toList.all fun c => decide (c ∈ sgn13.cps.toList)) && !(z.cps.toList.all fun c => decide (c ∈ dig13.cps.toList))) := by
          unfold symB
          rw [decide_eq_true c1, decide_eq_true c2, Bool.true_and, Bool.true_and]
        refine ⟨_, rfl, z, rfl, fun D hD => ?_⟩
        refine lc_acc (walk_str (z := z)) hD (fun i => ((z.cps.toList.take i).map fun c => decide (c ∈ sgn13.cps.toList)).map V.bl) rfl (fun i hi => ?_) (fun _ _ => trivial) ?_ ?_
        · rw [List.length_map, List.length_map, List.length_take]
          omega
        · rintro i x H2 H3 hi s2 ⟨rfl, c, hc, rfl⟩ N S hN hS
          rw [← Array.getElem?_toList] at hc
          refine ⟨rfl, _, rfl, c, sgn13, rfl, rfl, hN _ _ Same.rfl' ?_⟩
          rw [take_map _ hc, List.map_append]
          rfl
        · intro H2 s2 h2
          rw [ez', ← ez, List.take_length] at h2
          refine ⟨D, _, rfl, SqL.of h2, ?_⟩
          rw [List.all_map]
          refine ⟨_, rfl, iteB (fun e => ?_) (fun e => ?_)⟩
          · refine ⟨_, rfl, z, rfl, fun D3 hD3 => ?_⟩
            refine lc_acc (walk_str (z := z)) hD3 (fun i => ((z.cps.toList.take i).map fun c => decide (c ∈ dig13.cps.toList)).map V.bl) rfl (fun i hi => ?_) (fun _ _ => trivial) ?_ ?_
            · rw [List.length_map, List.length_map, List.length_take]
              omega
            · rintro i x G2 G3 hi s3 ⟨rfl, c, hc, rfl⟩ N S hN hS
              rw [← Array.getElem?_toList] at hc
              refine ⟨rfl, _, rfl, c, dig13, rfl, rfl, hN _ _ Same.rfl' ?_⟩
              rw [take_map _ hc, List.map_append]
              rfl
            · intro H3 s3 h3
              rw [ez', ← ez, List.take_length] at h3
              refine ⟨D3, _, rfl, SqL.of h3, ?_⟩
              rw [List.all_map]
              have e' : (z.cps.toList.all fun c => decide (c ∈ sgn13.cps.toList)) = true := e
              rw [eb, e', Bool.true_and] at q
              exact ⟨_, rfl, q _ (s2.trans s3)⟩
          · have e' : (z.cps.toList.all fun c => decide (c ∈ sgn13.cps.toList)) = false := e
            rw [eb, e', Bool.false_and] at q
            exact q _ s2
      · refine iteY (by rw [decide_eq_false (by omega)]; rfl) ?_
        have e : symB z = false := by
          unfold symB
          rw [decide_eq_false c2, Bool.false_and, Bool.and_false]
        rw [e] at q
        exact q _ Same.rfl'
    · have e : symB z = false := by
        unfold symB
        rw [decide_eq_false c1, Bool.false_and]
      rw [e] at q
      exact iteN (decide_eq_false (by omega)) ⟨_, rfl, iteT (q _ Same.rfl')⟩
/-! ### require_symbol -/
def spReq : Sp := fun vs H Q _ => ∃ z : Str, vs = [.str z] ∧ z.length ≤ 1000 ∧ symB z = true ∧ ∀ H', Same H H' → Q .non H'
theorem ok_require (T : Ty K mg C CF) (G_is_symbol : Fnc P w K mg base CX0 1 "is_symbol" [] spSym) (F : FD K "require_symbol" "require_symbol" s_require_symbol [] f fd) : FnG P w K mg base CX0 2 f fd ["value"] spReq := by
  refine ok0 F sc_require_symbol (fun vs H Q E h => ?_) (fun cdv A outer s H vs Q E hr h => ?_)
  · obtain ⟨z, rfl, _⟩ := h
    rfl
  · obtain ⟨z, rfl, lz, sz, q⟩ := h
    refine ⟨_, (pss_one (ps_if (pt_not (pt_val (pe_fn G_is_symbol (hr.mono (by decide)) pass0 (pa_cons (pv 0) pa_nil)))) (pss_one ps_never) pss_nil)), ?_⟩
    refine ⟨_, rfl, z, rfl, lz, fun H' s' => ⟨_, rfl, iteN (by rw [sz]; rfl) (q H' s')⟩⟩
/-! ### terms: amounts by symbols, in a dict -/
/-- the entries of a dict of amounts -/
structure WtsV (C : Addr) (H : Hp) (kvs : List (Key × V)) (ws : Wts) : Prop where
  keys : kvs.map (·.1) = ws.map fun x => Sum.inr x.1
  at_ : ∀ (i : Nat) p x, kvs[i]? = some p → ws[i]? = some x → AmtV C H p.2 x.2.1 x.2.2
theorem WtsV.len {H : Hp} {kvs : List (Key × V)} {ws : Wts} (h : WtsV C H kvs ws) : kvs.length = ws.length := by
  have := congrArg List.length h.keys
  rwa [List.length_map, List.length_map] at this
theorem AmtV.smd {H H' : Hp} {v : V} {t b : Int} (h : AmtV C H v t b) (s : SmD H H') : AmtV C H' v t b := h.imp (fun ⟨p, e, dx, x⟩ => ⟨p, e, dx, s _ _ x (fun _ z => by cases z)⟩) id
theorem AmtV.same {H H' : Hp} {v : V} {t b : Int} (h : AmtV C H v t b) (s : Same H H') : AmtV C H' v t b := h.smd fun b o e _ => s b o e
theorem WtsV.smd {H H' : Hp} {kvs : List (Key × V)} {ws : Wts} (h : WtsV C H kvs ws) (s : SmD H H') : WtsV C H' kvs ws := ⟨h.keys, fun i p x a b => (h.at_ i p x a b).smd s⟩
theorem WtsV.same {H H' : Hp} {kvs : List (Key × V)} {ws : Wts} (h : WtsV C H kvs ws) (s : Same H H') : WtsV C H' kvs ws := h.smd fun b o e _ => s b o e
theorem WtsV.get {H : Hp} {kvs : List (Key × V)} {ws : Wts} (h : WtsV C H kvs ws) {i : Nat} {p : Key × V} (e : kvs[i]? = some p) : ∃ z t b, ws[i]? = some (z, t, b) ∧ p.1 = Sum.inr z ∧ AmtV C H p.2 t b := by
  have hi : i < ws.length := by rw [← h.len]; exact (List.getElem?_eq_some_iff.mp e).1
  obtain ⟨x, ex⟩ : ∃ x, ws[i]? = some x := ⟨_, List.getElem?_eq_getElem hi⟩
  obtain ⟨z, t, b⟩ := x
  refine ⟨z, t, b, ex, ?_, h.at_ i p _ e ex⟩
  have := congrArg (fun l => l[i]?) h.keys
  simp only [List.getElem?_map, e, ex, Option.map_some] at this
  exact Option.some.inj this
theorem smd_lock {H H' : Hp} {a : Addr} {u : HO} {od : Obj} (e : H a = some u) (s : Same (upd H a (.frz od u)) H') : Same H (upd H' a u) := fun d o h => by
  by_cases c : d = a
  · rw [c, e] at h
    rw [c, upd_same]
    exact h
  · rw [upd_ne c]
    exact s _ _ (by rw [upd_ne c]; exact h)
theorem items_at {kvs : List (Key × V)} {i : Nat} {H H' : Hp} {x : V} (h : YPair (fun i => kvs[i]?.map fun kv => kV kv.1) (fun i => kvs[i]?.map Prod.snd) i H x H') : ∃ t p, x = .ref t ∧ H t = none ∧ H' = upd H t (.tup [kV p.1, p.2]) ∧ kvs[i]? = some p := by
  obtain ⟨t, y, z, rfl, nt, rfl, hy, hz⟩ := h
  obtain ⟨p, hp, rfl⟩ := Option.map_eq_some_iff.mp hy
  dsimp only at hz
  rw [hp] at hz
  cases hz
  exact ⟨t, p, rfl, nt, rfl, hp⟩
def spTerms (C : Addr) : Sp := fun vs H Q _ => ∃ d kvs ws, vs = [.ref d] ∧ H d = some (.dK kvs) ∧ WtsV C H kvs ws ∧ (∀ x ∈ ws, symB x.1 = true ∧ x.1.length ≤ 1000) ∧ ws.length ≤ 100 ∧ ∀ H', Same H H' → Q (.bl true) H'
theorem ok_are_terms (T : Ty K mg C CF) (G_is_symbol : Fnc P w K mg base CX0 1 "is_symbol" [] spSym) (G_is_amount : Fnc P w K mg base CX0 2 "is_amount" [] (spIsAmt C)) (F : FD K "are_terms" "are_terms" s_are_terms [] f fd) : FnG P w K mg base CX0 3 f fd ["value"] (spTerms C) := by
  refine ok0 F sc_are_terms (fun vs H Q E h => ?_) (fun cdv A outer s H vs Q E hr h => ?_)
  · obtain ⟨d, kvs, ws, rfl, _⟩ := h
    rfl
  · obtain ⟨d, kvs, ws, rfl, hd, wt, sy, l1, q⟩ := h
    refine ⟨_, (pss_cons (ps_if (pt_not (pt_val (pe_callB call_isi (by rfl) T.n_isinstance (by decide +kernel) (pa_cons (pv 0) (pa_cons (pe_bltn (v := .ty "dict") (by rfl) T.n_dict (by decide +kernel) rfl) pa_nil))))) (pss_one (ps_ret pe_bl)) pss_nil)
      (pss_one (ps_ret (pe_callB (cr_all rfl) (by rfl) T.n_all (by decide +kernel) (pa_cons (pe_lock (pe_lc (g := (gTup K 2 (gCons (gName 1) (gCons (gName 2) gNil)))) (own := [("symbol", 1), ("amount", 2)]) rfl sc_are_terms.nd (pi_items (pv 0)) (blkOk_by (own := [("symbol", 1), ("amount", 2)]) (N := n_are_terms) (sc := defScope s_are_terms) (by decide +kernel)) (fun _ _ _ _ _ => (pg_tup rfl (pgs_cons (pg_name (i := 1) sc_are_terms.nd rfl (by first | exact Or.inl rfl | exact Or.inr rfl)) (pgs_cons (pg_name (i := 2) sc_are_terms.nd rfl (by first | exact Or.inl rfl | exact Or.inr rfl)) pgs_nil)))) (fun _ _ _ _ _ => pts_nil) (fun _ _ _ _ _ => (pe_and (pe_fn G_is_symbol (hr.mono (by decide)) pass0 (pa_cons (pv 1) pa_nil)) (pe_one (pe_fn G_is_amount (hr.mono (by decide)) pass0 (pa_cons (pv 2) pa_nil))))))) pa_nil))))), ?_⟩
    refine ⟨_, rfl, _, _, .type "dict", _, _, rfl, .ty "dict", .base (.dK hd), kDict, _, rfl, iteN rfl ?_⟩
    refine nx_of ?_
    dsimp only
    refine ret_of ?_
    refine ⟨d, _, hd, trivial, fun od => ?_⟩
    refine ⟨_, rfl, d, od, kvs, rfl, upd_same, fun D nD => ?_⟩
    have sl : SmD H (upd H d (.frz od (.dK kvs))) := lock_smd hd
    refine lc_acc (walk_items (d := d) (o := od) (kvs := kvs)) nD (fun i => (List.range i).map fun _ => V.bl true) rfl (fun i hi => ?_) (fun H' s' => s' _ _ upd_same) ?_ ?_
    · have := wt.len
      rw [List.length_map, List.length_range]
      omega
    · rintro i x G G2 hi s2 yi N S hN hS
      obtain ⟨t, p, rfl, nt, rfl, hp⟩ := items_at yi
      obtain ⟨G3, e3, s3, ht⟩ := mkO nt (.tup [kV p.1, p.2])
      rw [e3]
      obtain ⟨z, t', b, hw, ek, am⟩ := wt.get hp
      obtain ⟨sz, lz⟩ := sy _ (List.mem_of_getElem? hw)
      have s23 : Same (upd H d (.frz od (.dK kvs))) G3 := s2.trans s3
      have am3 : AmtV C G3 p.2 t' b := am.smd fun b o e n => s23 _ _ (sl b o e n)
      refine ⟨t, _, rfl, SqT.of ht, rfl, _, _, rfl, _, _, rfl, rfl, rfl, ?_⟩
      refine ⟨_, rfl, z, by rw [ek]; rfl, lz, fun G4 s4 => ?_⟩
      rw [sz]
      refine ⟨_, rfl, iteT ⟨_, rfl, _, t', b, rfl, am3.same s4, hN _ _ (s3.trans s4) ?_⟩⟩
      rw [List.range_succ, List.map_append]
      rfl
    · intro G s2 h2
      refine ⟨s2 _ _ upd_same, ?_⟩
      have nDd : D ≠ d := fun e => by rw [e, upd_same] at nD; cases nD
      have sH := smd_lock hd s2
      dsimp only [tNil]
      refine ⟨D, (List.range kvs.length).map fun _ => true, rfl, SqL.of (by rw [upd_ne nDd, h2, List.map_map]; rfl), ?_⟩
      rw [show (((List.range kvs.length).map fun _ => true).all id) = true by simp]
      exact q _ sH
end
end K12

set_option Elab.async false
set_option linter.all false
set_option maxRecDepth 100000
set_option maxHeartbeats 4000000
/-! F13b: a form made. -/
namespace K12
open PySem PySem.Spec PyProof.Rows L2 LL K11 W13
abbrev s_Forminit : Stmt := inClass (top 22) 0
abbrev n_Forminit : List Str := ["self", "constant", "weights", "given", "amounts", "symbol", "amount"]
theorem sc_Forminit : FnScope n_Forminit ["self", "constant", "weights"] (defScope s_Forminit) := ⟨rfl, rfl, rfl, by decide +kernel, rfl, by decide +kernel, by decide +kernel⟩
def ffl (ca da : Addr) : List (Str × V) := [("own_constant", .ref ca), ("own_weights", .ref da)]
theorem ne_cw : ¬ (("own_constant" : Str) = "own_weights") := by decide +kernel
theorem fput_new (ca da : Addr) : putF "own_weights" (.ref da) (putF "own_constant" (.ref ca) []) = ffl ca da := by
  show (if ("own_constant" : Str) = "own_weights" then [(("own_constant" : Str), V.ref da)] else (("own_constant" : Str), V.ref ca) :: putF "own_weights" (V.ref da) []) = _
  rw [if_neg ne_cw]
  rfl
theorem look_c (ca da : Addr) : (ffl ca da).lookup ("own_constant" : Str) = some (V.ref ca) := by
  rw [← fput_new, lookup_putF, if_neg ne_cw, lookup_putF, if_pos rfl]
theorem look_w (ca da : Addr) : (ffl ca da).lookup ("own_weights" : Str) = some (V.ref da) := by
  rw [← fput_new, lookup_putF, if_pos rfl]
theorem look_fno (ca da : Addr) {m : Str} (h1 : ¬ m = "own_constant") (h2 : ¬ m = "own_weights") : (ffl ca da).lookup m = none := by
  rw [← fput_new, lookup_putF, if_neg h2, lookup_putF, if_neg h1]
  rfl
/-- a dict of Amounts -/
structure WtsR (C : Addr) (H : Hp) (kvs : List (Key × V)) (ws : Wts) : Prop where
  keys : kvs.map (·.1) = ws.map fun x => Sum.inr x.1
  at_ : ∀ (i : Nat) p x, kvs[i]? = some p → ws[i]? = some x → ∃ a, p.2 = .ref a ∧ AmtAt C H a x.2.1 x.2.2
section
variable {P : Program} {w : World} {K : PySem.W.Frag} {mg : Str → Option Value} {base : Heap} {C CF : Addr} {f : Addr} {fd : FuncData}
theorem AmtAt.smd {H H' : Hp} {a : Addr} {t b : Int} (h : AmtAt C H a t b) (s : SmD H H') : AmtAt C H' a t b := let ⟨dx, e⟩ := h; ⟨dx, s _ _ e (fun _ z => by cases z)⟩
theorem WtsR.v {H : Hp} {kvs : List (Key × V)} {ws : Wts} (h : WtsR C H kvs ws) : WtsV C H kvs ws := ⟨h.keys, fun i p x a b => let ⟨q, e, z⟩ := h.at_ i p x a b; .inl ⟨q, e, z⟩⟩
theorem WtsR.smd {H H' : Hp} {kvs : List (Key × V)} {ws : Wts} (h : WtsR C H kvs ws) (s : SmD H H') : WtsR C H' kvs ws := ⟨h.keys, fun i p x a b => let ⟨q, e, z⟩ := h.at_ i p x a b; ⟨q, e, z.smd s⟩⟩
theorem WtsR.same {H H' : Hp} {kvs : List (Key × V)} {ws : Wts} (h : WtsR C H kvs ws) (s : Same H H') : WtsR C H' kvs ws := h.smd fun b o e _ => s b o e
theorem WtsR.len {H : Hp} {kvs : List (Key × V)} {ws : Wts} (h : WtsR C H kvs ws) : kvs.length = ws.length := h.v.len
theorem WtsR.nil {H : Hp} : WtsR C H [] [] := ⟨rfl, fun i p x a => by cases a⟩
theorem WtsR.get {H : Hp} {kvs : List (Key × V)} {ws : Wts} (h : WtsR C H kvs ws) {i : Nat} {p : Key × V} (e : kvs[i]? = some p) : ∃ z t b a, ws[i]? = some (z, t, b) ∧ p = (Sum.inr z, .ref a) ∧ AmtAt C H a t b := by
  obtain ⟨z, t, b, hw, ek, _⟩ := h.v.get e
  obtain ⟨a, e2, am⟩ := h.at_ i p _ e hw
  exact ⟨z, t, b, a, hw, Prod.ext ek e2, am⟩
theorem WtsR.ins {H H' : Hp} {kvs : List (Key × V)} {ws : Wts} (h : WtsR C H kvs ws) (s : ∀ b dx fs, H b = some (.ins C dx fs) → H' b = some (.ins C dx fs)) : WtsR C H' kvs ws := ⟨h.keys, fun i p x a b => let ⟨q, e, dx, z⟩ := h.at_ i p x a b; ⟨q, e, dx, s _ _ _ z⟩⟩
theorem WtsR.snoc {H : Hp} {kvs : List (Key × V)} {ws : Wts} {z : Str} {t b : Int} {a : Addr} (h : WtsR C H kvs ws) (am : AmtAt C H a t b) : WtsR C H (kvs ++ [(Sum.inr z, .ref a)]) (ws ++ [(z, t, b)]) := by
  refine ⟨by rw [List.map_append, List.map_append, h.keys]; rfl, fun i p x e1 e2 => ?_⟩
  have l := h.len
  by_cases c : i < kvs.length
  · rw [List.getElem?_append_left c] at e1
    rw [List.getElem?_append_left (by omega)] at e2
    exact h.at_ i p x e1 e2
  · have ei : i = kvs.length := by
      have := (List.getElem?_eq_some_iff.mp e1).1
      rw [List.length_append, List.length_singleton] at this
      omega
    subst ei
    rw [List.getElem?_append_right (Nat.le_refl _), Nat.sub_self] at e1
    rw [List.getElem?_append_right (by omega), l, Nat.sub_self] at e2
    cases e1
    cases e2
    exact ⟨a, rfl, am⟩
theorem val_key {H : Hp} {kvs : List (Key × V)} {ws : Wts} (h : WtsV C H kvs ws) (nd : Nd ws) {i : Nat} {x : Str × Int × Int} (e : ws[i]? = some x) : ∃ p, kvs[i]? = some p ∧ valV kvs (Sum.inr x.1) = some p.2 := by
  have hi : i < kvs.length := by rw [h.len]; exact (List.getElem?_eq_some_iff.mp e).1
  refine ⟨_, List.getElem?_eq_getElem hi, ?_⟩
  have ek : kvs[i].1 = Sum.inr x.1 := by
    have := congrArg (fun l => l[i]?) h.keys
    simp only [List.getElem?_map, List.getElem?_eq_getElem hi, e, Option.map_some] at this
    exact Option.some.inj this
  have ndk : (kvs.map (·.1)).Nodup := by
    rw [h.keys]
    have : (ws.map fun x => (Sum.inr x.1 : Key)) = (ws.map (·.1)).map Sum.inr := by rw [List.map_map]; rfl
    rw [this]
    exact List.pairwise_map.mpr (nd.imp fun {a b} z e => z (Sum.inr.inj e))
  rw [← ek]
  clear ek e
  induction kvs generalizing i ws with
  | nil => exact absurd hi (Nat.not_lt_zero _)
  | cons q r ih =>
    cases i with
    | zero => exact valV_pos rfl
    | succ i =>
      obtain ⟨n1, n2⟩ := List.nodup_cons.mp (show (q.1 :: r.map (·.1)).Nodup from ndk)
      have hi' : i < r.length := by simpa using hi
      have e2 : (q :: r)[i + 1] = r[i] := rfl
      rw [e2, valV_neg fun e => n1 (by rw [e]; exact List.mem_map.mpr ⟨_, List.getElem_mem hi', rfl⟩)]
      cases ws with
      | nil => have := h.len; cases this
      | cons y ys =>
        exact ih (ws := ys) ⟨(List.cons.inj h.keys).2, fun j p x a b => h.at_ (j + 1) p x a b⟩ (List.nodup_cons.mp nd).2 hi' n2
theorem srtS : ∀ {ys : List Str}, sortedS ys = true → ys.Pairwise fun a b => ¬ lt' b a
  | [], _ => .nil
  | p :: r, h => by
    have key : ∀ (r : List Str) (p : Str), risingS p r = true → (p :: r).Pairwise fun a b => ¬ lt' b a := by
      intro r
      induction r with
      | nil => exact fun p _ => List.pairwise_singleton _ _
      | cons x r ih =>
        intro p h
        have h' : (!ltCps x.cps.toList p.cps.toList && risingS x r) = true := h
        obtain ⟨h1, h2⟩ := Bool.and_eq_true_iff.mp h'
        have n1 : ¬ lt' x p := fun z => by
          rw [ltCps_eq, decide_eq_true z] at h1
          cases h1
        have t := ih x h2
        refine List.pairwise_cons.mpr ⟨fun y hy => ?_, t⟩
        rcases List.mem_cons.mp hy with e | e
        · rw [e]
          exact n1
        · exact nlt_trans n1 ((List.pairwise_cons.mp t).1 y e)
    exact key r p h
theorem putK_end {kvs : List (Key × V)} {ws : Wts} {s : Str} {v : V} (h : kvs.map (·.1) = ws.map fun x => Sum.inr x.1) (n : s ∉ ws.map (·.1)) : putK kvs (Sum.inr s) v = kvs ++ [(Sum.inr s, v)] := by
  have : (kvs.any fun kv => decide (kv.1 = Sum.inr s)) = false := by
    rw [Bool.eq_false_iff]
    intro e
    obtain ⟨kv, hkv, e⟩ := List.any_eq_true.mp e
    have e := of_decide_eq_true e
    have m : kv.1 ∈ kvs.map (·.1) := List.mem_map.mpr ⟨kv, hkv, rfl⟩
    rw [h, e] at m
    obtain ⟨x, hx, ex⟩ := List.mem_map.mp m
    exact n (List.mem_map.mpr ⟨x, hx, Sum.inr.inj ex⟩)
  unfold putK
  rw [if_neg (by rw [this]; exact Bool.false_ne_true)]
/-- in the sorted keys' order -/
def byK (ws : Wts) (ys : List Str) : Wts := ys.map fun s => (s, val ws s)
theorem byK_snoc (ws : Wts) {ys : List Str} {i : Nat} {s : Str} (e : ys[i]? = some s) : byK ws (ys.take (i + 1)) = byK ws (ys.take i) ++ [(s, val ws s)] := by
  unfold byK
  rw [List.take_add_one, e, Option.toList_some, List.map_append]
  rfl
theorem byK_keys (ws : Wts) (ys : List Str) : (byK ws ys).map (·.1) = ys := by
  unfold byK
  rw [List.map_map]
  exact List.map_id _
theorem byK_cln {ws : Wts} {ys : List Str} (nd : Nd ws) (pm : ys.Perm (ws.map (·.1))) (st : ys.Pairwise lt') : Cln ws ((byK ws ys).filter fun x => decide (x.2.1 ≠ 0)) := by
  refine ⟨?_, fun x => ?_⟩
  · refine List.Pairwise.filter _ ?_
    unfold byK
    exact List.pairwise_map.mpr st
  · rw [List.mem_filter, decide_eq_true_iff]
    refine and_congr_left fun _ => ?_
    unfold byK
    rw [List.mem_map]
    constructor
    · rintro ⟨s, hs, rfl⟩
      obtain ⟨y, hy, e⟩ := List.mem_map.mp (pm.mem_iff.mp hs)
      have := val_mem nd hy
      rw [← e, this]
      exact hy
    · intro hx
      exact ⟨x.1, pm.mem_iff.mpr (List.mem_map.mpr ⟨x, hx, rfl⟩), by rw [val_mem nd hx]⟩
theorem sgn_ne (t : Int) : decide (V.int (sgn t) = V.int 0) = decide (t = 0) := by
  rw [decV]
  refine decide_eq_decide.mpr ?_
  unfold sgn
  rcases Int.lt_trichotomy t 0 with h | h | h
  · rw [if_neg (by simp; omega), if_pos (by simp; omega)]
    omega
  · subst h
    decide
  · rw [if_pos (by simp; omega), if_neg (by simp; omega)]
    omega
theorem amt_ne {H : Hp} {a p dx : Addr} {t b : Int} (h : AmtAt C H a t b) (hp : H p = some (.ins CF dx [])) : a ≠ p := fun e => by
  obtain ⟨dy, h⟩ := h
  rw [e, hp] at h
  cases h
theorem AmtV.butp {H H' : Hp} {p dx : Addr} {v : V} {t b : Int} (h : AmtV C H v t b) (hp : H p = some (.ins CF dx [])) (k : But p H H') : AmtV C H' v t b := h.imp (fun ⟨a, e, am⟩ => let ⟨dy, x⟩ := am; ⟨a, e, dy, k _ _ x (amt_ne am hp)⟩) id
theorem WtsV.butp {H H' : Hp} {p dx : Addr} {kvs : List (Key × V)} {ws : Wts} (h : WtsV C H kvs ws) (hp : H p = some (.ins CF dx [])) (k : But p H H') : WtsV C H' kvs ws := ⟨h.keys, fun i x y a b => (h.at_ i x y a b).butp hp k⟩
/-- a Form stands at p -/
def FmAt (C CF : Addr) (H : Hp) (p : Addr) (c : Fr2) (ws : Wts) : Prop := ∃ dx ca da kvs, H p = some (.ins CF dx (ffl ca da)) ∧ AmtAt C H ca c.1 c.2 ∧ H da = some (.dK kvs) ∧ WtsR C H kvs ws
theorem FmAt.same {H H' : Hp} {p : Addr} {c : Fr2} {ws : Wts} (h : FmAt C CF H p c ws) (s : Same H H') : FmAt C CF H' p c ws := let ⟨dx, ca, da, kvs, a, b, c, d⟩ := h; ⟨dx, ca, da, kvs, s _ _ a, b.same s, s _ _ c, d.same s⟩
/-- .. while some dicts are locked -/
def spFI (C CF : Addr) : Sp := fun vs H Q _ => ∃ (p dx : Addr) (v u : V) (c : Fr2) (ws : Wts), vs = [.ref p, v, u] ∧ H p = some (.ins CF dx []) ∧ AmtV C H v c.1 c.2 ∧ c.1.natAbs < 2 ^ 4000 ∧
  ((u = .non ∧ ws = []) ∨ ∃ d kvs, u = .ref d ∧ H d = some (.dK kvs) ∧ WtsV C H kvs ws) ∧ Nd ws ∧ ws.length ≤ 60 ∧ (∀ x ∈ ws, symB x.1 = true ∧ x.1.length ≤ 1000 ∧ x.2.1.natAbs < 2 ^ 4000) ∧
  ∀ H' ca da kvs' out, Cln ws out → H' p = some (.ins CF dx (ffl ca da)) → AmtAt C H' ca c.1 c.2 → H' da = some (.dK kvs') → WtsR C H' kvs' out → But p H H' → H da = none → Q .non H'
theorem ok_finit (T : Ty K mg C CF) (G_as_amount : Fnc P w K mg base CX0 4 "as_amount" [] (spAs C)) (G_are_terms : Fnc P w K mg base CX0 3 "are_terms" [] (spTerms C)) (P_sign : Prp P w K mg base CX0 1 C "sign" (spGet C fun t _ => sgn t)) (F : FD K "__init__" "Form.__init__" s_Forminit [.int 0, .non] f fd) : FnG P w K mg base CX0 5 f fd ["self", "constant", "weights"] (spFI C CF) := by
  refine ok0 F sc_Forminit (fun vs H Q E h => ?_) (fun cdv A outer s H vs Q E hr h => ?_)
  · obtain ⟨p, dx, v, u, c, ws, rfl, _⟩ := h
    rfl
  · obtain ⟨p, dx, v, u, c, ws, rfl, hp, hv, cb, hu, nd, l60, sy, q⟩ := h
    refine ⟨_, (pss_cons (ps_fld (pv 0) (pe_fn G_as_amount (hr.mono (by decide)) pass0 (pa_cons (pv 1) pa_nil)) rfl)
      (pss_cons (ps_set (i := 3) sc_Forminit.nd rfl (by first | exact Or.inl rfl | exact Or.inr rfl) (pe_ifExp (pt_cmpR op_isN (pv 2) pe_non (nomark _)) pe_dnewK (pv 2)))
      (pss_cons (ps_if (pt_not (pt_val (pe_fn G_are_terms (hr.mono (by decide)) pass0 (pa_cons (pv 3) pa_nil)))) (pss_one ps_never) pss_nil)
      (pss_cons (ps_setDcK (i := 4) (g := (gName 5)) (own := [("symbol", 5)]) rfl sc_Forminit.nd rfl rfl (swD_true rfl rfl rfl (by decide +kernel)) (pi_list (pe_callB (call_sortedD rfl) (by rfl) T.n_sorted (by decide +kernel) (pa_cons (pv 3) pa_nil))) (blkOk_by (own := [("symbol", 5)]) (N := n_Forminit) (sc := defScope s_Forminit) (by decide +kernel)) (fun _ _ _ _ _ => (pg_name (i := 5) sc_Forminit.nd rfl (by first | exact Or.inl rfl | exact Or.inr rfl))) (fun _ _ _ _ _ => pts_nil) (fun _ _ _ _ _ => (pv 5)) (fun _ _ _ _ _ => (pe_fn G_as_amount (hr.mono (by decide)) pass0 (pa_cons (pe_dget (un1 hr.r.units) (pv 3) (pv 5) (fun _ _ => rfl)) pa_nil))))
      (pss_one (ps_fld (pv 0) (pe_lock (pe_dc (g := (gTup K 2 (gCons (gName 5) (gCons (gName 6) gNil)))) (own := [("symbol", 5), ("amount", 6)]) rfl sc_Forminit.nd (pi_items (pv 4)) (blkOk_by (own := [("symbol", 5), ("amount", 6)]) (N := n_Forminit) (sc := defScope s_Forminit) (by decide +kernel)) (fun _ _ _ _ _ => (pg_tup rfl (pgs_cons (pg_name (i := 5) sc_Forminit.nd rfl (by first | exact Or.inl rfl | exact Or.inr rfl)) (pgs_cons (pg_name (i := 6) sc_Forminit.nd rfl (by first | exact Or.inl rfl | exact Or.inr rfl)) pgs_nil)))) (fun _ _ _ _ _ => (pts_one (pt_cmpR op_ne (pe_pr P_sign (hr.mono (by decide)) pass0 (pv 6)) pe_int (nomark _)))) (fun _ _ _ _ _ => (pv 5)) (fun _ _ _ _ _ => (pv 6)))) rfl)))))), ?_⟩
    refine ⟨_, rfl, v, c.1, c.2, rfl, hv, cb, fun H1 ca s1 hca => ⟨_, rfl, p, CF, dx, [], rfl, s1 _ _ hp, T.cf, T.nC, (by show 0 < 1000; decide), ?_⟩⟩
    have hp1 := s1 _ _ hp
    obtain ⟨G2, hG2⟩ : ∃ G2, G2 = upd H1 p (.ins CF dx (putF "own_constant" (.ref ca) [])) := ⟨_, rfl⟩
    rw [← hG2]
    have b2 : But p H1 G2 := by rw [hG2]; exact but_upd
    have hp2 : G2 p = some (.ins CF dx (putF "own_constant" (.ref ca) [])) := by rw [hG2, upd_same]
    have hca2 : AmtAt C G2 ca c.1 c.2 := let ⟨dy, x⟩ := hca; ⟨dy, b2 _ _ x (amt_ne hca hp1)⟩
    clear hG2
    refine nx_of ?_
    dsimp only
    refine seq_cut (fun σ' G => ∃ d kvs, σ' = [some (.ref p), some v, some u, some (.ref d), none, none, none] ∧ Same G2 G ∧ G d = some (.dK kvs) ∧ WtsV C G kvs ws) (fun N hN => ?_) ?_
    · rcases hu with ⟨rfl, rfl⟩ | ⟨d, kvs, rfl, hd, wt⟩
      · refine ⟨_, rfl, rfl, _, rfl, iteY rfl fun D nD => ?_⟩
        exact hN _ _ ⟨D, [], rfl, same_upd nD, upd_same, rfl, fun i p x a => by cases a⟩
      · refine ⟨_, rfl, rfl, _, rfl, iteN rfl ⟨_, rfl, ?_⟩⟩
        have hd1 := s1 _ _ hd
        have ndp : d ≠ p := fun e => by rw [e, hp] at hd; cases hd
        exact hN _ _ ⟨d, kvs, rfl, Same.rfl', b2 _ _ hd1 ndp, (wt.same s1).butp hp1 b2⟩
    rintro σ3 G3 ⟨d, kvs, rfl, s3, hd3, wt3⟩
    refine ⟨_, rfl, d, kvs, ws, rfl, hd3, wt3, fun x hx => ⟨(sy x hx).1, (sy x hx).2.1⟩, by omega, fun G4 s4 => ⟨_, rfl, iteF ?_⟩⟩
    refine nx_of ?_
    dsimp only
    have hd4 := s4 _ _ hd3
    have wt4 := wt3.same s4
    -- sorted
    have ek : kvs.map (·.1) = (ws.map (·.1)).map Sum.inr := by rw [wt3.keys, List.map_map]; rfl
    refine ⟨_, rfl, d, kvs, ws.map (·.1), rfl, .inl hd4, ek, by rw [List.length_map]; omega, fun ys l pm srt nl => ⟨l, rfl, ⟨_, SqL.of upd_same⟩, fun D nD => ?_⟩⟩
    obtain ⟨G5, e5, s5, hl5⟩ := mkO nl (.lst (ys.map V.str))
    rw [e5] at nD ⊢
    clear e5
    have st : ys.Pairwise lt' := strict_of (srtS srt) (pm.nodup_iff.mpr nd)
    have ndy : ys.Nodup := pm.nodup_iff.mpr nd
    have lys : ys.length ≤ 60 := by rw [pm.length_eq, List.length_map]; exact l60
    have wt5 := wt4.same s5
    have hd5 := s5 _ _ hd4
    refine dcK_inv (walk_list (K := K) (a := l) (xs := ys.map V.str)) (fun j kv G => Same G5 G ∧ WtsR C (rst [D] G) kv (byK ws (ys.take j))) (fun j kv G o z => ⟨own_same z.1 nD, by rw [rst_upd (List.mem_singleton.mpr rfl)]; exact z.2⟩) ⟨Same.rfl', WtsR.nil⟩ (fun j kv G hj z => ?_) (fun j kv G _ z => SqL.of (z.1 _ _ hl5)) ?_ ?_
    · have := z.2.len
      unfold byK at this
      rw [List.length_map, List.length_take] at this
      exact Nat.lt_of_lt_of_le (show _ < 100000 by omega) (small (Nat.le_refl _))
    · rintro j x kv G G' hj ⟨s6, wr⟩ hD ⟨rfl, hx⟩ R S' hR hS
      rw [List.getElem?_map] at hx
      obtain ⟨s, hs, rfl⟩ := Option.map_eq_some_iff.mp hx
      have sm : s ∈ ws.map (·.1) := pm.mem_iff.mp (List.mem_of_getElem? hs)
      obtain ⟨y, hy, rfl⟩ := List.mem_map.mp sm
      obtain ⟨i, hi⟩ := List.getElem?_of_mem hy
      obtain ⟨p', hp', vp⟩ := val_key wt5 nd hi
      have g := DGet.k (k := Sum.inr y.1) (s6 _ _ hd5)
      rw [vp] at g
      refine ⟨rfl, _, rfl, _, rfl, _, rfl, d, _, rfl, g, ?_⟩
      dsimp only [tNil]
      have am := (wt5.at_ i p' y hp' hi).same s6
      refine ⟨p'.2, y.2.1, y.2.2, rfl, am, (sy y hy).2.2, fun G7 a s7 ha => hR (Sum.inr y.1) (.ref a) G7 (s7 _ _ hD) ⟨s6.trans s7, ?_⟩⟩
      have nin : y.1 ∉ (byK ws (ys.take j)).map (·.1) := by
        rw [byK_keys]
        intro m
        obtain ⟨i', hi', e⟩ := List.getElem_of_mem m
        rw [List.length_take] at hi'
        rw [List.getElem_take] at e
        obtain ⟨hj', ej⟩ := List.getElem?_eq_some_iff.mp hs
        exact List.pairwise_iff_getElem.mp ndy i' j (by omega) hj' (by omega) (e.trans ej.symm)
      rw [putK_end wr.keys nin, byK_snoc ws hs, val_mem nd hy]
      refine WtsR.snoc (wr.same (rst_same s7)) ?_
      obtain ⟨dy, ha'⟩ := ha
      exact ⟨dy, rst_one ha' fun e => by rw [e, s7 _ _ hD] at ha'; cases ha'⟩
    · intro kv G6 hD6 ⟨s6, wr⟩
      rw [List.length_map, List.take_length] at wr
      refine nm_of ?_
      dsimp only
      have lkv : kv.length = ys.length := by rw [wr.len]; unfold byK; rw [List.length_map]
      have wr6 := wr.same rst_le
      refine ⟨D, _, hD6, trivial, fun od => ⟨_, rfl, D, od, kv, rfl, upd_same, fun D2 nD2 => ?_⟩⟩
      have sl : SmD G6 (upd G6 D (.frz od (.dK kv))) := lock_smd hD6
      refine dcK_inv (walk_items (d := D) (o := od) (kvs := kv)) (fun j kv2 G => Same (upd G6 D (.frz od (.dK kv))) G ∧ WtsR C (rst [D2] G) kv2 (((byK ws ys).take j).filter fun x => decide (x.2.1 ≠ 0))) (fun j kv G o z => ⟨own_same z.1 nD2, by rw [rst_upd (List.mem_singleton.mpr rfl)]; exact z.2⟩) ⟨Same.rfl', WtsR.nil⟩ (fun j kv2 G hj z => ?_) (fun j kv G _ z => z.1 _ _ upd_same) ?_ ?_
      · have := z.2.len
        have := List.length_filter_le (fun x : Str × Int × Int => decide (x.2.1 ≠ 0)) ((byK ws ys).take j)
        rw [List.length_take] at this
        exact Nat.lt_of_lt_of_le (show _ < 100000 by omega) (small (Nat.le_refl _))
      · rintro j x kv2 G G' hj ⟨s7, wr2⟩ hD2 yi R S' hR hS
        obtain ⟨t, p', rfl, nt, rfl, hp'⟩ := items_at yi
        obtain ⟨G8, e8, s8, ht⟩ := mkO nt (.tup [kV p'.1, p'.2])
        rw [e8]
        clear e8
        obtain ⟨z, t', b, a, hw, rfl, am⟩ := wr6.get hp'
        have s78 := s7.trans s8
        have am8 : AmtAt C G8 a t' b := let ⟨dy, e⟩ := am; ⟨dy, s78 _ _ (sl _ _ e (fun _ z => by cases z))⟩
        obtain ⟨dy, ha8⟩ := id am8
        have hD28 := s8 _ _ hD2
        refine ⟨t, _, rfl, SqT.of ht, rfl, _, _, rfl, _, _, rfl, rfl, rfl, ?_⟩
        refine ⟨_, rfl, a, dy, _, rfl, ha8, a, t', b, rfl, am8, rfl, _, rfl, ?_⟩
        dsimp only
        rw [sgn_ne]
        have tk := hw
        have ef : ((byK ws ys).take (j + 1)).filter (fun x => decide (x.2.1 ≠ 0)) = ((byK ws ys).take j).filter (fun x => decide (x.2.1 ≠ 0)) ++ (if t' = 0 then [] else [(z, t', b)]) := by
          rw [List.take_add_one, hw, Option.toList_some, List.filter_append]
          by_cases c : t' = 0
          · rw [if_pos c, List.filter_cons_of_neg (by simp [c])]
            rfl
          · rw [if_neg c, List.filter_cons_of_pos (by simp [c])]
            rfl
        by_cases c : t' = 0
        · rw [decide_eq_true c]
          refine iteF (hS _ hD28 ⟨s78, ?_⟩)
          rw [ef, if_pos c, List.append_nil]
          exact wr2.same (rst_same s8)
        · rw [decide_eq_false c]
          refine iteT ⟨_, rfl, _, rfl, hR (Sum.inr z) (.ref a) _ hD28 ⟨s78, ?_⟩⟩
          have nin : z ∉ (((byK ws ys).take j).filter fun x => decide (x.2.1 ≠ 0)).map (·.1) := by
            intro m
            obtain ⟨x, hx, ex⟩ := List.mem_map.mp m
            obtain ⟨i', hi', e⟩ := List.getElem_of_mem (List.mem_filter.mp hx).1
            rw [List.length_take] at hi'
            rw [List.getElem_take] at e
            have kk := byK_keys ws ys
            have e1 : ((byK ws ys).map (·.1))[i']? = some z := by
              rw [List.getElem?_map, List.getElem?_eq_getElem (by omega), e, Option.map_some, ex]
            have e2 : ((byK ws ys).map (·.1))[j]? = some z := by
              rw [List.getElem?_map, hw]
              rfl
            rw [kk] at e1 e2
            obtain ⟨q1, q2⟩ := List.getElem?_eq_some_iff.mp e1
            obtain ⟨q3, q4⟩ := List.getElem?_eq_some_iff.mp e2
            exact List.pairwise_iff_getElem.mp ndy i' j q1 q3 (by omega) (q2.trans q4.symm)
          rw [ef, if_neg c, putK_end wr2.keys nin]
          refine WtsR.snoc (wr2.same (rst_same s8)) ⟨dy, rst_one ha8 fun e => by rw [e, hD28] at ha8; cases ha8⟩
      · intro kv2 G7 hD27 ⟨s7, wr2⟩
        have lk : (byK ws ys).length = kv.length := wr6.len.symm
        rw [← lk, List.take_length] at wr2
        have nDD : D2 ≠ D := fun e => by rw [e, upd_same] at nD2; cases nD2
        have s67 := smd_lock hD6 s7
        obtain ⟨G8, hG8⟩ : ∃ G8, G8 = upd G7 D (.dK kv) := ⟨_, rfl⟩
        refine ⟨s7 _ _ upd_same, ?_⟩
        rw [← hG8] at s67 ⊢
        have hD28 : G8 D2 = some (.dK kv2) := by rw [hG8, upd_ne nDD]; exact hD27
        have wr8 : WtsR C G8 kv2 ((byK ws ys).filter fun x => decide (x.2.1 ≠ 0)) := (wr2.same rst_le).ins fun b dx fs e => by
          by_cases c : b = D
          · rw [c, s7 _ _ upd_same] at e
            cases e
          · rw [hG8, upd_ne c]
            exact e
        clear hG8
        have s28 : Same G2 G8 := (((s3.trans s4).trans s5).trans s6).trans s67
        refine ⟨_, rfl, p, CF, dx, _, rfl, s28 _ _ hp2, T.cf, T.nW, (by show 1 < 1000; decide), ?_⟩
        have hca8 := hca2.same s28
        have hp8 := s28 _ _ hp2
        have nap : ca ≠ p := amt_ne hca hp1
        have b8 := byK_cln nd pm st
        have g6 : H D2 = none := by
          cases e : H D2 with
          | none => rfl
          | some o =>
            exfalso
            have h6 : ∃ o', G6 D2 = some o' := by
              by_cases cp : D2 = p
              · rw [cp]
                exact ⟨_, ((((s3.trans s4).trans s5).trans s6) _ _ hp2)⟩
              · exact ⟨o, ((((s3.trans s4).trans s5).trans s6) _ _ (b2 _ _ (s1 _ _ e) cp))⟩
            obtain ⟨o', h6⟩ := h6
            rw [upd_ne nDD, h6] at nD2
            cases nD2
        refine q _ ca D2 kv2 _ b8 ?_ ?_ ?_ ?_ ?_ g6
        · rw [upd_same, fput_new]
        · obtain ⟨dy, e⟩ := hca8
          exact ⟨dy, by rw [upd_ne nap]; exact e⟩
        · rw [upd_ne (fun e => by rw [e, hp8] at hD28; cases hD28)]
          exact hD28
        · refine wr8.ins fun b dy fs e => ?_
          by_cases c : b = p
          · exfalso
            rw [c, hp8] at e
            obtain ⟨e1, _, _⟩ := HO.ins.inj (Option.some.inj e)
            have k1 := T.kAF
            have k2 := T.kFF
            rw [e1] at k1 k2
            rw [k1] at k2
            cases k2
          · rw [upd_ne c]
            exact e
        · intro b o e n
          rw [upd_ne n]
          exact s28 _ _ (b2 _ _ (s1 _ _ e) n)
end
end K12

set_option linter.all false
/-! M13b: weights put one by one; sums, products, negatives. -/
namespace W13
open PySem K11
def putW (W : Wts) (s : Str) (p : Fr2) : Wts := if s ∈ W.map (·.1) then W.map (fun x => if x.1 = s then (s, p) else x) else W ++ [(s, p)]
theorem putW_keys (W : Wts) (s : Str) (p : Fr2) : (putW W s p).map (·.1) = if s ∈ W.map (·.1) then W.map (·.1) else W.map (·.1) ++ [s] := by
  unfold putW
  split
  · rw [List.map_map]
    refine List.map_congr_left fun x _ => ?_
    show (if x.1 = s then (s, p) else x).1 = x.1
    split
    · next h => exact h.symm
    · rfl
  · rw [List.map_append]
    rfl
theorem putW_nd {W : Wts} {s : Str} {p : Fr2} (h : Nd W) : Nd (putW W s p) := by
  unfold Nd
  rw [putW_keys]
  split
  · exact h
  · next n =>
    refine List.nodup_append.mpr ⟨h, by simp, fun a ha b hb e => n ?_⟩
    rw [List.mem_singleton.mp hb] at e
    rw [← e]
    exact ha
theorem val_cons (x : Str × Int × Int) (W : Wts) (t : Str) : val (x :: W) t = if x.1 = t then x.2 else val W t := by
  unfold val
  rw [List.find?_cons]
  by_cases h : x.1 = t
  · rw [decide_eq_true h, if_pos h]
    rfl
  · rw [decide_eq_false h, if_neg h]
theorem val_putW (W : Wts) (s : Str) (p : Fr2) (t : Str) : val (putW W s p) t = if t = s then p else val W t := by
  have key : ∀ W : Wts, (s ∈ W.map (·.1) → val (W.map fun x => if x.1 = s then (s, p) else x) t = if t = s then p else val W t) ∧ (s ∉ W.map (·.1) → val (W ++ [(s, p)]) t = if t = s then p else val W t) := by
    intro W
    induction W with
    | nil =>
      refine ⟨fun h => by simp at h, fun _ => ?_⟩
      rw [List.nil_append, val_cons]
      by_cases h : s = t
      · rw [if_pos h, if_pos h.symm]
      · rw [if_neg h, if_neg fun e => h e.symm]
    | cons x W ih =>
      refine ⟨fun h => ?_, fun h => ?_⟩
      · rw [List.map_cons, val_cons, val_cons]
        by_cases hx : x.1 = s
        · rw [if_pos hx]
          by_cases ht : t = s
          · rw [if_pos ht.symm, if_pos ht]
          · rw [if_neg fun e => ht e.symm, if_neg ht, if_neg fun e => ht (e.symm.trans hx)]
            by_cases m : s ∈ W.map (·.1)
            · rw [ih.1 m, if_neg ht]
            · have : (W.map fun x => if x.1 = s then (s, p) else x) = W := by
                refine (List.map_congr_left fun y hy => ?_).trans (List.map_id _)
                rw [if_neg fun e => m (List.mem_map.mpr ⟨y, hy, e⟩)]
                rfl
              rw [this]
        · rw [if_neg hx]
          by_cases hxt : x.1 = t
          · rw [if_pos hxt, if_pos hxt, if_neg fun e => hx (hxt.trans e)]
          · rw [if_neg hxt, if_neg hxt]
            refine ih.1 ?_
            rcases List.mem_cons.mp (show s ∈ x.1 :: W.map (·.1) from h) with e | e
            · exact absurd e.symm hx
            · exact e
      · have h1 : ¬ x.1 = s := fun e => h (by rw [List.map_cons, e]; exact List.mem_cons_self ..)
        have h2 : s ∉ W.map (·.1) := fun m => h (by rw [List.map_cons]; exact List.mem_cons_of_mem _ m)
        rw [List.cons_append, val_cons, val_cons]
        by_cases hxt : x.1 = t
        · rw [if_pos hxt, if_pos hxt, if_neg fun e => h1 (hxt.trans e)]
        · rw [if_neg hxt, if_neg hxt]
          exact ih.2 h2
  unfold putW
  split
  · next h => exact (key W).1 h
  · next h => exact (key W).2 h
theorem putW_mem {W : Wts} {s : Str} {p : Fr2} {x : Str × Int × Int} (h : x ∈ putW W s p) : x = (s, p) ∨ x ∈ W := by
  unfold putW at h
  split at h
  · obtain ⟨y, hy, e⟩ := List.mem_map.mp h
    split at e
    · exact .inl e.symm
    · exact .inr (e ▸ hy)
  · rcases List.mem_append.mp h with h | h
    · exact .inr h
    · exact .inl (List.mem_singleton.mp h)
/-- each entry put beside what stands there -/
def genW (g : Fr2 → Fr2 → Fr2) (W l : Wts) : Wts := l.foldl (fun W x => putW W x.1 (g (val W x.1) x.2)) W
theorem genW_snoc (g : Fr2 → Fr2 → Fr2) (W l : Wts) (x : Str × Int × Int) : genW g W (l ++ [x]) = putW (genW g W l) x.1 (g (val (genW g W l) x.1) x.2) := by
  unfold genW
  rw [List.foldl_append]
  rfl
theorem genW_nd {g : Fr2 → Fr2 → Fr2} : ∀ {l W : Wts}, Nd W → Nd (genW g W l)
  | [], _, h => h
  | x :: l, W, h => genW_nd (l := l) (putW_nd h)
theorem genW_val (g : Fr2 → Fr2 → Fr2) : ∀ {l W : Wts}, Nd l → ∀ s, val (genW g W l) s = if s ∈ l.map (·.1) then g (val W s) (val l s) else val W s
  | [], W, _, s => rfl
  | x :: l, W, nd, s => by
    obtain ⟨n1, n2⟩ := List.nodup_cons.mp (show (x.1 :: l.map (·.1)).Nodup from nd)
    show val (genW g (putW W x.1 (g (val W x.1) x.2)) l) s = _
    rw [genW_val g n2 s, val_putW, val_cons, List.map_cons]
    by_cases h : s = x.1
    · subst h
      rw [if_neg n1, if_pos rfl, if_pos (List.mem_cons_self ..), if_pos rfl]
    · have h' : ¬ x.1 = s := fun e => h e.symm
      simp only [h, h', if_false]
      by_cases m : s ∈ l.map (·.1)
      · rw [if_pos m, if_pos (List.mem_cons_of_mem _ m)]
      · rw [if_neg m, if_neg fun z => (List.mem_cons.mp z).elim h m]
theorem genW_key {g : Fr2 → Fr2 → Fr2} : ∀ {l W : Wts} {s : Str}, s ∈ (genW g W l).map (·.1) → s ∈ W.map (·.1) ∨ s ∈ l.map (·.1)
  | [], _, _, h => .inl h
  | x :: l, W, s, h => by
    rcases genW_key (l := l) h with h | h
    · rw [putW_keys] at h
      split at h
      · exact .inl h
      · rcases List.mem_append.mp h with h | h
        · exact .inl h
        · exact .inr (by rw [List.map_cons, List.mem_singleton.mp h]; exact List.mem_cons_self ..)
    · exact .inr (by rw [List.map_cons]; exact List.mem_cons_of_mem _ h)
/-- what holds of both and is kept by g holds of all -/
theorem genW_all {g : Fr2 → Fr2 → Fr2} {A B : Fr2 → Prop} (z : A (0, 1)) (hg : ∀ p q, A p → B q → A (g p q)) : ∀ {l W : Wts}, Nd W → (∀ x ∈ W, A x.2) → (∀ x ∈ l, B x.2) → ∀ x ∈ genW g W l, A x.2
  | [], W, _, h, _, x, hx => h x hx
  | y :: l, W, nd, h, k, x, hx => by
    refine genW_all z hg (l := l) (putW_nd nd) (fun u hu => ?_) (fun u hu => k u (List.mem_cons_of_mem _ hu)) x hx
    rcases putW_mem hu with rfl | hu
    · refine hg _ _ ?_ (k y (List.mem_cons_self ..))
      unfold val
      cases e : W.find? fun x => decide (x.1 = y.1) with
      | none => exact z
      | some v => exact h v (List.mem_of_find?_eq_some e)
    · exact h u hu
theorem genW_len {g : Fr2 → Fr2 → Fr2} : ∀ {l W : Wts}, (genW g W l).length ≤ W.length + l.length
  | [], W => by show W.length ≤ _; exact Nat.le_refl _
  | x :: l, W => by
    have := genW_len (g := g) (l := l) (W := putW W x.1 (g (val W x.1) x.2))
    have h : (putW W x.1 (g (val W x.1) x.2)).length ≤ W.length + 1 := by
      unfold putW
      split
      · rw [List.length_map]; omega
      · rw [List.length_append]; exact Nat.le_refl _
    show (genW g (putW W x.1 (g (val W x.1) x.2)) l).length ≤ _
    rw [List.length_cons]
    omega
/-! ### the reckoning -/
theorem add_comm' (p q : Fr2) : addP p q = addP q p := by
  unfold addP
  rw [Int.add_comm, Int.mul_comm p.2 q.2]
theorem add_zero {p : Fr2} (h : Low p) : addP (0, 1) p = p := by
  unfold addP
  dsimp only
  rw [Int.zero_mul, Int.zero_add, Int.mul_one, Int.one_mul]
  exact h.eq
theorem add_low {p q : Fr2} (hp : Low p) (hq : Low q) : Low (addP p q) := low_of (p := (p.1 * q.2 + q.1 * p.2, p.2 * q.2)) (Int.mul_ne_zero (by have := hp.pos; omega) (by have := hq.pos; omega))
theorem mul_low {p q : Fr2} (hp : Low p) (hq : Low q) : Low (mulP p q) := low_of (p := (p.1 * q.1, p.2 * q.2)) (Int.mul_ne_zero (by have := hp.pos; omega) (by have := hq.pos; omega))
theorem zero_mul' {q : Fr2} (hq : Low q) : mulP (0, 1) q = (0, 1) := by
  have := mul_low low_zero1 hq
  refine low_zero this ?_
  unfold mulP
  rw [lowP_zero (by dsimp only; rw [Int.one_mul]; have := hq.pos; omega)]
  exact Int.zero_mul _
theorem neg_low {p : Fr2} (h : Low p) : Low (negP p) := by
  refine ⟨h.pos, ?_⟩
  have hb : p.2 ≠ 0 := by have := h.pos; omega
  obtain ⟨e1, e2⟩ := turned_low (a := p.1) hb
  have q1 := congrArg Prod.fst h.eq
  have q2 := congrArg Prod.snd h.eq
  have q1 : lt p.1 p.2 = p.1 := q1
  have q2 : lb p.1 p.2 = p.2 := q2
  unfold lowP negP
  dsimp only
  have dn : dv (-p.1) p.2 = dv p.1 p.2 := by
    unfold dv
    rw [Int.neg_gcd] 
  have t1 : lt (-p.1) p.2 = -p.1 := by
    have m := lt_mul (x := -p.1) hb
    have m0 := lt_mul (x := p.1) hb
    have d1 : dv p.1 p.2 ≠ 0 := dv_ne hb
    rw [q1] at m0
    rw [dn] at m
    have : lt (-p.1) p.2 * dv p.1 p.2 = (-p.1) * dv p.1 p.2 := by rw [m, Int.neg_mul, m0]
    exact Int.eq_of_mul_eq_mul_right d1 this
  have t2 : lb (-p.1) p.2 = p.2 := by
    have m := lb_mul (x := -p.1) hb
    have m0 := lb_mul (x := p.1) hb
    have d1 : dv p.1 p.2 ≠ 0 := dv_ne hb
    rw [q2] at m0
    rw [dn] at m
    exact Int.eq_of_mul_eq_mul_right d1 (m.trans m0.symm)
  rw [t1, t2]
/-- sums of all weights -/
theorem genW_add {W l : Wts} (nl : Nd l) (hW : Lw W) (s : Str) : val (genW (fun a x => addP x a) W l) s = addP (val l s) (val W s) := by
  rw [genW_val _ nl]
  by_cases m : s ∈ l.map (·.1)
  · rw [if_pos m]
  · rw [if_neg m, val_none m, add_zero (val_low hW s)]
theorem val_map {g : Fr2 → Fr2} (z : g (0, 1) = (0, 1)) : ∀ (W : Wts) (s : Str), val (W.map fun x => (x.1, g x.2)) s = g (val W s)
  | [], s => by rw [List.map_nil]; exact z.symm
  | x :: W, s => by
    rw [List.map_cons, val_cons, val_cons, val_map z W s]
    dsimp only
    split <;> rfl
theorem map_keys (g : Fr2 → Fr2) (W : Wts) : ((W.map fun x => (x.1, g x.2)) : Wts).map (·.1) = W.map (·.1) := by
  rw [List.map_map]
  rfl
end W13

set_option Elab.async false
set_option linter.all false
set_option maxRecDepth 100000
set_option maxHeartbeats 4000000
/-! F13c: forms made; what they tell. -/
namespace K12
open PySem PySem.Spec PyProof.Rows L2 LL K11 W13
abbrev s_Form_symbols : Stmt := inClass (top 22) 6
abbrev n_Form_symbols : List Str := ["self"]
theorem sc_Form_symbols : FnScope n_Form_symbols ["self"] (defScope s_Form_symbols) := ⟨rfl, rfl, rfl, by decide +kernel, rfl, by decide +kernel, by decide +kernel⟩
abbrev s_Form_weight : Stmt := inClass (top 22) 7
abbrev n_Form_weight : List Str := ["self", "symbol"]
theorem sc_Form_weight : FnScope n_Form_weight ["self", "symbol"] (defScope s_Form_weight) := ⟨rfl, rfl, rfl, by decide +kernel, rfl, by decide +kernel, by decide +kernel⟩
abbrev s_as_form : Stmt := top 23
abbrev n_as_form : List Str := ["value"]
theorem sc_as_form : FnScope n_as_form ["value"] (defScope s_as_form) := ⟨rfl, rfl, rfl, by decide +kernel, rfl, by decide +kernel, by decide +kernel⟩
abbrev s_Form_symbol : Stmt := inClass (top 22) 2
abbrev n_Form_symbol : List Str := ["symbol"]
theorem sc_Form_symbol : FnScope n_Form_symbol ["symbol"] (defScope s_Form_symbol) := ⟨rfl, rfl, rfl, by decide +kernel, rfl, by decide +kernel, by decide +kernel⟩
section
variable {P : Program} {w : World} {K : PySem.W.Frag} {mg : Str → Option Value} {base : Heap} {C CF : Addr} {f : Addr} {fd : FuncData}
/-- Amount(x, y), Amount(x) -/
def spMkA2 (C : Addr) : Sp := fun vs H Q _ => ∃ x y : Int, vs = [.int x, .int y] ∧ y ≠ 0 ∧ x.natAbs < 2 ^ 4000 ∧ y.natAbs < 2 ^ 4000 ∧ ∀ H' p, Same H H' → H p = none → AmtAt C H' p (lt x y) (lb x y) → Q (.ref p) H'
def spMkA1 (C : Addr) : Sp := fun vs H Q _ => ∃ x : Int, vs = [.int x] ∧ x.natAbs < 2 ^ 4000 ∧ ∀ H' p, Same H H' → H p = none → AmtAt C H' p x 1 → Q (.ref p) H'
theorem mkA2 (G : Mkr P w K mg base CX0 2 "Amount" C [] (spInit C)) : Mkf P w K mg base CX0 2 "Amount" (spMkA2 C) := by
  refine ⟨C, [], _, G, fun vs H Q E h a dx ha hd ne => ?_⟩
  obtain ⟨x, y, rfl, hy, bx, by_, q⟩ := h
  exact mk_amt hy bx by_ q a dx ha hd ne
theorem mkA1 (G : Mkr P w K mg base CX0 2 "Amount" C [.int 1] (spInit C)) : Mkf P w K mg base CX0 2 "Amount" (spMkA1 C) := by
  refine ⟨C, [.int 1], _, G, fun vs H Q E h a dx ha hd ne => ?_⟩
  obtain ⟨x, rfl, bx, q⟩ := h
  refine mk_amt (C := C) (x := x) (y := 1) (by decide) bx (by decide +kernel) (fun H' p s n am => q H' p s n ?_) a dx ha hd ne
  rw [(lt_one x).1, (lt_one x).2] at am
  exact am
/-- Form(v, u), Form(v), Form() -/
def spMkF2 (C CF : Addr) : Sp := fun vs H Q _ => ∃ (v u : V) (c : Fr2) (ws : Wts), vs = [v, u] ∧ AmtV C H v c.1 c.2 ∧ c.1.natAbs < 2 ^ 4000 ∧ ((u = .non ∧ ws = []) ∨ ∃ d kvs, u = .ref d ∧ H d = some (.dK kvs) ∧ WtsV C H kvs ws) ∧ Nd ws ∧ ws.length ≤ 60 ∧ (∀ x ∈ ws, symB x.1 = true ∧ x.1.length ≤ 1000 ∧ x.2.1.natAbs < 2 ^ 4000) ∧
  ∀ H' p out, Same H H' → H p = none → Cln ws out → FmAt C CF H' p c out → Q (.ref p) H'
def spMkF1 (C CF : Addr) : Sp := fun vs H Q _ => ∃ (v : V) (c : Fr2), vs = [v] ∧ AmtV C H v c.1 c.2 ∧ c.1.natAbs < 2 ^ 4000 ∧ ∀ H' p, Same H H' → H p = none → FmAt C CF H' p c [] → Q (.ref p) H'
def spMkF0 (C CF : Addr) : Sp := fun vs H Q _ => vs = [] ∧ ∀ H' p, Same H H' → H p = none → FmAt C CF H' p (0, 1) [] → Q (.ref p) H'
theorem cln_nil {out : Wts} (c : Cln [] out) : out = [] := List.eq_nil_iff_forall_not_mem.mpr fun x hx => by cases ((c.mem x).mp hx).1
theorem new_ins {H : Hp} {a dx : Addr} (ha : H a = none) (hd : H dx = none) : Same H (upd (upd H dx (.own a)) a (.ins CF dx [])) := fun c o e => by
  rw [upd_ne (ne_of_none e ha), upd_ne (ne_of_none e hd)]
  exact e
theorem same_newF {H H' : Hp} {a dx : Addr} (ha : H a = none) (hd : H dx = none) (b : But a (upd (upd H dx (.own a)) a (.ins CF dx [])) H') : Same H H' := fun c o e => b _ _ (new_ins ha hd _ _ e) (ne_of_none e ha)
theorem mkF2 (G : Mkr P w K mg base CX0 5 "Form" CF [] (spFI C CF)) : Mkf P w K mg base CX0 5 "Form" (spMkF2 C CF) := by
  refine ⟨CF, [], _, G, fun vs H Q E h a dx ha hd ne => ?_⟩
  obtain ⟨v, u, c, ws, rfl, hv, cb, hu, nd, l60, sy, q⟩ := h
  have s0 := new_ins (CF := CF) ha hd
  exact ⟨a, dx, v, u, c, ws, rfl, upd_same, hv.same s0, cb, hu.imp id fun ⟨d, kvs, e, x, y⟩ => ⟨d, kvs, e, s0 _ _ x, y.same s0⟩, nd, l60, sy, fun H' ca da kvs' out cl h1 h2 h3 h4 b _ => ⟨rfl, q H' a out (same_newF ha hd b) ha cl ⟨dx, ca, da, kvs', h1, h2, h3, h4⟩⟩⟩
theorem mkF1 (G : Mkr P w K mg base CX0 5 "Form" CF [.non] (spFI C CF)) : Mkf P w K mg base CX0 5 "Form" (spMkF1 C CF) := by
  refine ⟨CF, [.non], _, G, fun vs H Q E h a dx ha hd ne => ?_⟩
  obtain ⟨v, c, rfl, hv, cb, q⟩ := h
  have s0 := new_ins (CF := CF) ha hd
  refine ⟨a, dx, v, .non, c, [], rfl, upd_same, hv.same s0, cb, .inl ⟨rfl, rfl⟩, List.nodup_nil, Nat.zero_le _, (fun x hx => by cases hx), fun H' ca da kvs' out cl h1 h2 h3 h4 b _ => ⟨rfl, q H' a (same_newF ha hd b) ha ?_⟩⟩
  rw [cln_nil cl] at h4
  exact ⟨dx, ca, da, kvs', h1, h2, h3, h4⟩
theorem mkF0 (G : Mkr P w K mg base CX0 5 "Form" CF [.int 0, .non] (spFI C CF)) : Mkf P w K mg base CX0 5 "Form" (spMkF0 C CF) := by
  refine ⟨CF, [.int 0, .non], _, G, fun vs H Q E h a dx ha hd ne => ?_⟩
  obtain ⟨rfl, q⟩ := h
  have s0 := new_ins (CF := CF) ha hd
  refine ⟨a, dx, .int 0, .non, (0, 1), [], rfl, upd_same, .inr ⟨rfl, rfl⟩, by decide +kernel, .inl ⟨rfl, rfl⟩, List.nodup_nil, Nat.zero_le _, (fun x hx => by cases hx), fun H' ca da kvs' out cl h1 h2 h3 h4 b _ => ⟨rfl, q H' a (same_newF ha hd b) ha ?_⟩⟩
  rw [cln_nil cl] at h4
  exact ⟨dx, ca, da, kvs', h1, h2, h3, h4⟩
theorem val_no {H : Hp} {kvs : List (Key × V)} {ws : Wts} {s : Str} (h : WtsV C H kvs ws) (n : s ∉ ws.map (·.1)) : valV kvs (Sum.inr s) = none := by
  have k : Sum.inr s ∉ kvs.map (·.1) := by
    rw [h.keys]
    intro m
    obtain ⟨x, hx, e⟩ := List.mem_map.mp m
    exact n (List.mem_map.mpr ⟨x, hx, Sum.inr.inj e⟩)
  clear h n
  induction kvs with
  | nil => rfl
  | cons q r ih =>
    rw [valV_neg fun e => k (by rw [List.map_cons, e]; exact List.mem_cons_self ..)]
    exact ih fun m => k (by rw [List.map_cons]; exact List.mem_cons_of_mem _ m)
/-! ### what a form tells -/
def spSyms (C CF : Addr) : Sp := fun vs H Q _ => ∃ p c ws, vs = [.ref p] ∧ FmAt C CF H p c ws ∧ ∀ H' l, Same H H' → H l = none → H' l = some (.lst (ws.map fun x => V.str x.1)) → Q (.ref l) H'
theorem ok_symbols (T : Ty K mg C CF) (F : FD K "symbols" "Form.symbols" s_Form_symbols [] f fd) : FnG P w K mg base CX0 1 f fd ["self"] (spSyms C CF) := by
  refine ok0 F sc_Form_symbols (fun vs H Q E h => ?_) (fun cdv A outer s H vs Q E hr h => ?_)
  · obtain ⟨p, c, ws, rfl, _⟩ := h
    rfl
  · obtain ⟨p, c, ws, rfl, ⟨dx, ca, da, kvs, hp, hc, hd, wr⟩, q⟩ := h
    refine ⟨_, (pss_one (ps_ret (pe_callTy (call_listD rfl) (by rfl) T.n_list (by decide +kernel) (pa_cons (pe_fld (pv 0) rfl) pa_nil)))), ?_⟩
    refine ⟨_, rfl, p, CF, dx, _, _, rfl, hp, T.cf, T.nW, look_w _ _, da, kvs, rfl, .inl hd, fun l nl => q _ l (same_upd nl) nl (upd_same.trans ?_)⟩
    have : (kvs.map fun kv => kV kv.1) = ws.map fun x => V.str x.1 := by
      have e : (kvs.map fun kv => kV kv.1) = (kvs.map (·.1)).map kV := by rw [List.map_map]; rfl
      rw [e, wr.keys, List.map_map]
      rfl
    rw [this]
def spCon (C CF : Addr) : Sp := fun vs H Q _ => ∃ p c ws, vs = [.ref p] ∧ FmAt C CF H p c ws ∧ ∀ a, AmtAt C H a c.1 c.2 → Q (.ref a) H
def spIsC (C CF : Addr) : Sp := fun vs H Q _ => ∃ p c ws, vs = [.ref p] ∧ FmAt C CF H p c ws ∧ ∀ H', Same H H' → Q (.bl ws.isEmpty) H'
/-- beside the empty dict -/
theorem eq_empty {X : Cx} {C : Addr} {sp : Sp} {E : XK} {H : Hp} {a b : Addr} {kvs : List (Key × V)} {Q : VK} (fC : PySem.W.notFirst X.K C (.ref C) = true) (ha : H a = some (.dK kvs)) (hb : H b = some (.dK [])) (q : ∀ H', Same H H' → Q (.bl kvs.isEmpty) H') : rEqDO X.K C sp E (.ref a) (.ref b) H Q := by
  refine ⟨a, b, kvs, [], fun _ => true, rfl, rfl, ha, hb, fC, fun l i p e => ?_, fun H' s => ?_⟩
  · rw [List.eq_nil_of_length_eq_zero l] at e
    cases e
  · have := q H' s
    cases kvs with
    | nil => exact this
    | cons x r => exact this
def spLin (C CF : Addr) : Sp := fun vs H Q _ => ∃ p c ws, vs = [.ref p] ∧ FmAt C CF H p c ws ∧ Can ws ∧ ws.length ≤ 60 ∧ (∀ x ∈ ws, symB x.1 = true ∧ x.1.length ≤ 1000 ∧ x.2.1.natAbs < 2 ^ 4000) ∧ ∀ H' r, Same H H' → FmAt C CF H' r (0, 1) ws → Q (.ref r) H'
theorem can_cln {ws out : Wts} (h : Can ws) (c : Cln ws out) : out = ws := srt_ext c.srt h.srt fun x => ⟨fun m => ((c.mem x).mp m).1, fun m => (c.mem x).mpr ⟨m, h.nz x m⟩⟩
def spWgt (C CF : Addr) : Sp := fun vs H Q _ => ∃ p c ws z, vs = [.ref p, .str z] ∧ FmAt C CF H p c ws ∧ Nd ws ∧ symB z = true ∧ z.length ≤ 1000 ∧ ∀ H' a, Same H H' → AmtAt C H' a (val ws z).1 (val ws z).2 → Q (.ref a) H'
theorem ok_weight (T : Ty K mg C CF) (G_require_symbol : Fnc P w K mg base CX0 2 "require_symbol" [] spReq) (K_Amount1 : Mkf P w K mg base CX0 2 "Amount" (spMkA1 C)) (F : FD K "weight" "Form.weight" s_Form_weight [] f fd) : FnG P w K mg base CX0 4 f fd ["self", "symbol"] (spWgt C CF) := by
  refine ok0 F sc_Form_weight (fun vs H Q E h => ?_) (fun cdv A outer s H vs Q E hr h => ?_)
  · obtain ⟨p, c, ws, z, rfl, _⟩ := h
    rfl
  · obtain ⟨p, c, ws, z, rfl, ⟨dx, ca, da, kvs, hp, hc, hd, wr⟩, nd, sz, lz, q⟩ := h
    refine ⟨_, (pss_cons (ps_expr (pe_fn G_require_symbol (hr.mono (by decide)) pass0 (pa_cons (pv 1) pa_nil)))
      (pss_one (ps_ret (pe_dget2 (un1 hr.r.units) (pe_fld (pv 0) rfl) (pv 1) (pe_mf K_Amount1 (hr.mono (by decide)) pass0 (pa_cons pe_int pa_nil)) ⟨rfl, rfl, rfl, rfl⟩)))), ?_⟩
    refine ⟨_, rfl, z, rfl, lz, sz, fun H1 s1 => ?_⟩
    refine nx_of ?_
    dsimp only
    refine ⟨_, rfl, p, CF, dx, _, _, rfl, s1 _ _ hp, T.cf, T.nW, look_w _ _, ?_⟩
    have hd1 := s1 _ _ hd
    refine ⟨da, rfl, .inl ⟨_, .inl hd1⟩, _, rfl, 0, rfl, by decide, fun H2 a s2 n am => ⟨_, DGet.k (k := Sum.inr z) (s2 _ _ hd1), ?_⟩⟩
    have wr2 := wr.same (s1.trans s2)
    by_cases m : z ∈ ws.map (·.1)
    · obtain ⟨x, hx, rfl⟩ := List.mem_map.mp m
      obtain ⟨i, hi⟩ := List.getElem?_of_mem hx
      obtain ⟨p', hp', vp⟩ := val_key wr2.v nd hi
      obtain ⟨a', e, am'⟩ := wr2.at_ i p' x hp' hi
      rw [vp, e]
      refine q H2 a' (s1.trans s2) ?_
      rw [val_mem nd hx]
      exact am'
    · rw [val_no wr2.v m]
      refine q H2 a (s1.trans s2) ?_
      rw [val_none m]
      exact am
def spAsF (C CF : Addr) : Sp := fun vs H Q _ => ∃ v c ws, vs = [v] ∧ ((∃ p, v = .ref p ∧ FmAt C CF H p c ws) ∨ (AmtV C H v c.1 c.2 ∧ ws = [] ∧ c.1.natAbs < 2 ^ 4000)) ∧ ∀ H' p, Same H H' → FmAt C CF H' p c ws → Q (.ref p) H'
theorem tyF (T : Ty K mg C CF) {H : Hp} {p : Addr} {c : Fr2} {ws : Wts} (h : FmAt C CF H p c ws) : TyX K H (.ref p) (.ref CF) := let ⟨_, _, _, _, e, _⟩ := h; .base (.ins e T.cf T.caF T.cn T.ct T.cmF)
theorem ok_as_form (T : Ty K mg C CF) (G_is_amount : Fnc P w K mg base CX0 2 "is_amount" [] (spIsAmt C)) (K_Form1 : Mkf P w K mg base CX0 5 "Form" (spMkF1 C CF)) (F : FD K "as_form" "as_form" s_as_form [] f fd) : FnG P w K mg base CX0 7 f fd ["value"] (spAsF C CF) := by
  refine ok0 F sc_as_form (fun vs H Q E h => ?_) (fun cdv A outer s H vs Q E hr h => ?_)
  · obtain ⟨v, c, ws, rfl, _⟩ := h
    rfl
  · obtain ⟨v, c, ws, rfl, hv, q⟩ := h
    refine ⟨_, (pss_cons (ps_if (pt_val (pe_callB call_isi (by rfl) T.n_isinstance (by decide +kernel) (pa_cons (pv 0) (pa_cons (pe_glob (v := .ref CF) (by rfl) T.g_Form rfl) pa_nil)))) (pss_one (ps_ret (pv 0))) pss_nil)
      (pss_cons (ps_if (pt_not (pt_val (pe_fn G_is_amount (hr.mono (by decide)) pass0 (pa_cons (pv 0) pa_nil)))) (pss_one ps_never) pss_nil)
      (pss_one (ps_ret (pe_mf K_Form1 (hr.mono (by decide)) pass0 (pa_cons (pv 0) pa_nil)))))), ?_⟩
    rcases hv with ⟨p, rfl, fm⟩ | ⟨am, rfl, cb⟩
    · exact ⟨_, rfl, _, _, .ref CF, _, _, rfl, .own CF, tyF T fm, T.kFF, _, rfl, iteT ⟨_, rfl, q H p Same.rfl' fm⟩⟩
    · have tyv : ∃ t, TyX K H v t ∧ PySem.W.kitOne K t (.ref CF) = some false := by
        rcases am with ⟨p, rfl, hp⟩ | ⟨rfl, _⟩
        · exact ⟨_, tyA T.toTx hp, T.kAF⟩
        · exact ⟨_, .base (.int _), T.kIF⟩
      obtain ⟨t, ty, kt⟩ := tyv
      refine ⟨_, rfl, _, _, t, _, _, rfl, .own CF, ty, kt, _, rfl, iteF ?_⟩
      refine nx_of ?_
      dsimp only
      refine ⟨_, rfl, v, c.1, c.2, rfl, am, _, rfl, iteF ?_⟩
      refine nx_of ?_
      dsimp only
      exact ⟨_, rfl, v, c, rfl, am, cb, fun H' p s' _ fm => q H' p s' fm⟩
end
structure FOk (c : Fr2) (ws : Wts) : Prop where
  can : Can ws
  low : Low c
  sm : Sm c.1 ∧ Sm c.2
  sms : ∀ x ∈ ws, Sm x.2.1 ∧ Sm x.2.2
  sy : ∀ x ∈ ws, symB x.1 = true ∧ x.1.length ≤ 1000
  len : ws.length ≤ 20
theorem FOk.const {c : Fr2} (l : Low c) (s : Sm c.1 ∧ Sm c.2) : FOk c [] := ⟨⟨.nil, (fun x h => by cases h), (fun x h => by cases h)⟩, l, s, (fun x h => by cases h), (fun x h => by cases h), Nat.zero_le _⟩
theorem sm0 : Sm (0, 1).1 ∧ Sm ((0, 1) : Fr2).2 := ⟨Nat.two_pow_pos 900, Nat.one_lt_two_pow (by decide)⟩
theorem FOk.val {c : Fr2} {ws : Wts} (h : FOk c ws) (s : Str) : Sm (val ws s).1 ∧ Sm (val ws s).2 := by
  unfold W13.val
  cases e : ws.find? fun x => decide (x.1 = s) with
  | none => exact sm0
  | some x => exact h.sms x (List.mem_of_find?_eq_some e)
theorem addP_big {p q : Fr2} (hp : Sm p.1 ∧ Sm p.2) (hq : Sm q.1 ∧ Sm q.2) (h1 : p.2 ≠ 0) (h2 : q.2 ≠ 0) : (addP p q).1.natAbs < 2 ^ 4000 :=
  Nat.lt_of_le_of_lt (lt_le (Int.mul_ne_zero h1 h2)) (big2 (hp.1.mul hq.2) (hq.1.mul hp.2))
theorem mulP_big {p q : Fr2} (hp : Sm p.1 ∧ Sm p.2) (hq : Sm q.1 ∧ Sm q.2) (h1 : p.2 ≠ 0) (h2 : q.2 ≠ 0) : (mulP p q).1.natAbs < 2 ^ 4000 :=
  Nat.lt_of_le_of_lt (lt_le (Int.mul_ne_zero h1 h2)) (big1 (hp.1.mul hq.1))
theorem _root_.W13.Low.ne {p : Fr2} (h : Low p) : p.2 ≠ 0 := by have := h.pos; omega
theorem neg_lowP {p : Fr2} (h : Low p) : lowP (-p.1, p.2) = negP p := (neg_low h).eq
end K12

set_option Elab.async false
set_option linter.all false
set_option maxRecDepth 100000
set_option maxHeartbeats 2000000
/-! LLStarK: def f(a, .., **d) called with keywords; classmethods called with keywords; staticmethods called through the class. -/
namespace LL
open PySem PySem.Spec PyProof.Rows L2
/-- a dict's object -/
abbrev dObj (es : Array DictEntry) (n : Nat) : Obj := { cls := .type "dict", data := .dict es n }
theorem upd_push (h : Heap) (o : Obj) (f : Obj → Obj) : (h.push o).update h.objs.size f = h.push (f o) := by
  obtain ⟨objs, l⟩ := h
  show Heap.mk ((objs.push o).modify objs.size f) l = Heap.mk (objs.push (f o)) l
  congr 1
  refine Array.ext (by simp) fun i h1 h2 => ?_
  rw [Array.getElem_modify, Array.getElem_push, Array.getElem_push]
  by_cases c : i < objs.size
  · rw [dif_pos c, dif_pos c, if_neg (by omega)]
  · rw [dif_neg c, dif_neg c, if_pos (by rw [Array.size_push] at h2; omega)]
section
variable {P : Program} {w : World} {A : Around} {E : Value → Shared → Prop} {s : Shared}
theorem ns_new {h0 : Heap} {es : Array DictEntry} {n : Nat} {name : Str} {v : Value} {Q : Unit → Shared → Prop} (hs : s.heap = h0.push (dObj es n)) (hk : StrKeys es) (hi : es.findIdx? (fun e => e.key.isStr name) = none)
    (h : Q () { s with heap := h0.push (dObj (es.push ⟨hashStr w name, .str name s.toks, v⟩) (n + 1)), toks := s.toks + 1 }) : wpAny (model P w) A (nsSet h0.objs.size name v) Q E s := by
  intro Γ p _
  have ho : s.heap.get? h0.objs.size = some (dObj es n) := by rw [hs]; exact Heap.get?_push_size _ rfl
  simp only [nsSet, strHash, Sem.wp_bind', Sem.wp_cmd_ask, Sem.wp_pure', Sem.wp_cmd_mkText]
  rw [Sem.wp_loadPart_of (model P w) Γ (fun e _ s' => E e s') p { s with toks := s.toks + 1 } (o := dObj es n) _ ho]
  have hany : es.any (·.refKey) = false := by
    rw [Array.any_eq_false']; intro e he; obtain ⟨n, t, h⟩ := hk e he; simp [DictEntry.refKey, h]
  simp only [aRefKeyMayBeTheName_eq, aRefKeyMayBeTheNameByArray, hany, Bool.and_false, Bool.false_eq_true, if_false, Sem.wp_cmd_updatePart]
  refine ⟨by rw [ho]; rfl, ?_⟩
  rw [hs, upd_push]
  have e : Obj.putName name (hashStr w name) (.str name s.toks) v (dObj es n) = dObj (es.push ⟨hashStr w name, .str name s.toks, v⟩) (n + 1) := by
    rw [Obj.putName_eq]
    simp only [Obj.putNameByArray, hi]
  have h' := h
  rw [← e] at h'
  exact h'
/-- the names set, one behind another -/
def setLoop (d : Addr) (kws : List (Str × Value)) : Sem Unit := do
  for (k, v) in kws do nsSet d k v
def setThen (zs : List (Str × Value)) (pv : Str) (kws : List (Str × Value)) : Sem (List (Str × Value)) := do
  let d ← alloc { cls := .type "dict", data := .dict #[] }
  for (k, v) in kws do nsSet d k v
  return zs ++ [(pv, .ref d)]
theorem find_none {es : Array DictEntry} {kvs : List (Key × Value)} {name : Str} (hp : Pairs (mixKind P w) es.toList kvs) (hn : Sum.inr name ∉ kvs.map (·.1)) : es.findIdx? (fun e => e.key.isStr name) = none := by
  rw [Array.findIdx?_eq_none_iff]
  intro e he
  replace he := Array.mem_toList_iff.mpr he
  generalize es.toList = l at hp he
  clear es
  induction hp with
  | nil => cases he
  | @cons e' kv es kvs h1 h2 hr ih =>
    rcases List.mem_cons.mp he with c | c
    · subst c
      cases q : e.key.isStr name with
      | false => rfl
      | true =>
        exfalso
        refine hn ?_
        have : keyIs (Sum.inr name) e.key = true := by
          cases hk : e.key <;> rw [hk] at q <;> first | (cases q; done) | skip
          rename_i x t
          have e1 : x = name := by simpa [Value.isStr] using q
          subst e1
          exact keyIs_str _ _
        have e2 := (mixKind P w).inj e.key kv.1 (Sum.inr name) h1 (show (mixKind P w).is (Sum.inr name) e.key = true from this)
        rw [List.map_cons, e2]
        exact List.mem_cons_self ..
    · exact ih (fun m => hn (by rw [List.map_cons]; exact List.mem_cons_of_mem _ m)) c
theorem strKeys_of {es : Array DictEntry} {ks : List Str} {ws : List Value} (hp : Pairs (mixKind P w) es.toList ((ks.map Sum.inr).zip ws)) : StrKeys es := by
  intro e he
  replace he := Array.mem_toList_iff.mpr he
  generalize hz : (ks.map Sum.inr).zip ws = kvs at hp
  have hz2 : ∀ kv ∈ kvs, ∃ x : Str, kv.1 = Sum.inr x := fun kv hkv => by
    rw [← hz] at hkv
    obtain ⟨x, _, ex⟩ := List.mem_map.mp (List.of_mem_zip hkv).1
    exact ⟨x, ex.symm⟩
  clear hz
  generalize es.toList = l at hp he
  clear es
  induction hp with
  | nil => cases he
  | @cons e' kv es kvs h1 h2 hr ih =>
    rcases List.mem_cons.mp he with c | c
    · subst c
      obtain ⟨x, ex⟩ := hz2 kv (List.mem_cons_self ..)
      rw [ex] at h1
      rcases keyIs_shape (show keyIs (Sum.inr x) e.key = true from h1) with ⟨i, t, z, _⟩ | ⟨y, t, z, e2⟩
      · cases z
      · exact ⟨y, t, e2⟩
    · exact ih (fun kv hkv => hz2 kv (List.mem_cons_of_mem _ hkv)) c
theorem set_all {h0 : Heap} {Q : Unit → Shared → Prop} : ∀ (kws : List (Str × Value)) (done : List (Str × Value)) (es : Array DictEntry) (n : Nat) (s : Shared), s.heap = h0.push (dObj es n) → KeysOf (mixKind P w) es → Pairs (mixKind P w) es.toList (done.map fun x => ((Sum.inr x.1 : Key), x.2)) →
    ((done ++ kws).map (·.1)).Nodup → (∀ es' n' t', KeysOf (mixKind P w) es' → Pairs (mixKind P w) es'.toList ((done ++ kws).map fun x => ((Sum.inr x.1 : Key), x.2)) → Q () { s with heap := h0.push (dObj es' n'), toks := t' }) →
    wpAny (model P w) A (forIn kws PUnit.unit fun (x : Str × Value) (_ : PUnit) => (do nsSet h0.objs.size x.1 x.2; pure (ForInStep.yield PUnit.unit) : Sem (ForInStep PUnit))) Q E s
  | [], done, es, n, s, hs, hk, hp, nd, q => by
    rw [List.append_nil] at q
    have := q es n s.toks hk hp
    rw [← hs] at this
    exact wpAny_pure this
  | x :: kws, done, es, n, s, hs, hk, hp, nd, q => by
    have hnin : (Sum.inr x.1 : Key) ∉ (done.map fun x => ((Sum.inr x.1 : Key), x.2)).map (·.1) := by
      intro m
      rw [List.map_map] at m
      obtain ⟨y, hy, ey⟩ := List.mem_map.mp m
      have ey : y.1 = x.1 := Sum.inr.inj ey
      rw [List.map_append, List.map_cons] at nd
      exact (List.nodup_append.mp nd).2.2 y.1 (List.mem_map.mpr ⟨y, hy, rfl⟩) x.1 (List.mem_cons_self ..) ey
    have e2 : (done.map fun x => ((Sum.inr x.1 : Key), x.2)) = ((done.map (·.1)).map Sum.inr).zip (done.map (·.2)) := by
      rw [List.map_map, List.zip_map']
      rfl
    rw [List.forIn_cons]
    refine wpAny_bind (wpAny_bind (ns_new hs (strKeys_of (by rw [← e2]; exact hp)) (find_none hp hnin) ?_))
    refine wpAny_pure ?_
    show wpAny _ _ (forIn kws PUnit.unit _) _ _ _
    refine set_all kws (done ++ [x]) _ (n + 1) _ rfl ?_ ?_ ?_ ?_
    · exact KeysOf.push hk (k := Sum.inr x.1) (mixKind_str P w _ _) _
    · rw [Array.toList_push, List.map_append]
      exact Pairs.append hp (mixKind_str P w _ _) _ _
    · rw [List.append_assoc]
      exact nd
    · intro es' n' t' k' p'
      rw [List.append_assoc] at p'
      exact q es' n' t' k' p'
theorem dk_made {H : Hp} {h : Heap} {es : Array DictEntry} {n : Nat} {ks : List Str} {zs : List V} {ws : List Value} (hb : sysModules < h.objs.size) (hk : KeysOf (mixKind P w) es) (hp : Pairs (mixKind P w) es.toList ((ks.zip ws).map fun x => ((Sum.inr x.1 : Key), x.2)))
    (nd : ks.Nodup) (l : zs.length = ks.length) (r : Vals zs ws) (hz : ks.length ≤ sizeLine) : ObjOk P w (upd H h.objs.size (.dK ((ks.map Sum.inr).zip zs))) (h.push (dObj es n)) h.objs.size (.dK ((ks.map Sum.inr).zip zs)) := by
  refine ⟨?_, beq_eq_false_iff_ne.mpr (Ne.symm (Nat.ne_of_lt hb)), (ks.zip ws).map fun x => ((Sum.inr x.1 : Key), x.2), ?_, _, es, n, Heap.get?_push_size _ rfl, ⟨rfl, rfl, rfl⟩, rfl, hk, hp, ?_⟩
  · rw [List.length_zip, List.length_map]
    omega
  · clear hk hp nd hz
    induction ks generalizing zs ws with
    | nil => exact .nil
    | cons k ks ih =>
      cases r with
      | nil => cases l
      | cons a r => exact .cons ⟨rfl, a⟩ (ih (Nat.succ.inj l) r)
  · have l2 : ws.length = ks.length := by rw [← r.length]; exact l
    rw [List.map_map]
    have : ((fun x : Key × Value => x.1) ∘ fun x : Str × Value => ((Sum.inr x.1 : Key), x.2)) = fun x : Str × Value => (Sum.inr x.1 : Key) := rfl
    rw [this]
    have e : ((ks.zip ws).map fun x : Str × Value => (Sum.inr x.1 : Key)) = ((ks.zip ws).map (·.1)).map Sum.inr := by rw [List.map_map]; rfl
    rw [e, List.map_fst_zip (by omega)]
    exact List.pairwise_map.mpr (nd.imp fun z e => z (Sum.inr.inj e))
end
/-- what a def with n positional values and the keywords ks promises, told of both -/
abbrev SpW := List V → List V → Hp → VK → XK → Prop
/-- a def called with n values and the keywords ks keeps its promise -/
structure FnW (P : Program) (w : World) (K : PySem.W.Frag) (mg : Str → Option Value) (base : Heap) (CX : CXT) (k : Nat) (f : Addr) (n : Nat) (ks : List Str) (sp : SpW) : Prop where
  run : ∀ (A : Around) (outer : List Env) (s : Shared) (H : Hp) (us ws : List Value) (vs zs : List V) (Q : VK) (E : XK), Rm k A → Env0 P w K mg base A outer s H → Vals vs us → Vals zs ws → vs.length = n → zs.length = ks.length → sp vs zs H Q E →
    codeAny (model P w) A (.call (.ref f) ⟨us, ks.zip ws⟩) (CR CX outer P w H s Q E) s
/-- the keywords as a new dict -/
def spKw (ks : List Str) (sp : Sp) : SpW := fun vs zs H Q E => ∀ d, H d = none → sp (vs ++ [.ref d]) (upd H d (.dK ((ks.map Sum.inr).zip zs))) Q E
section
variable {P : Program} {w : World} {K : PySem.W.Frag} {mg : Str → Option Value} {base : Heap} {CX : CXT} {k n : Nat} {f : Addr} {fd : FuncData} {sp : Sp} {ks : List Str}
theorem okStarK {x qual pv : Str} {params : Arguments} {body : List Stmt} {scope : Scope} {dvs : List V} {N ps : List Str} (F : FunD K x qual params body scope dvs [] f fd) (S : FnScope N (ps ++ [pv]) scope) (hn : ps.length = n) (nd : ks.Nodup) (hz : ks.length ≤ sizeLine) (hd : dvs ≠ [])
    (hb : ∀ (dV kV doc pm : Value) (an : Option Addr) (cdv ct : Value) (us ws : List Value), us.length = n → ws.length = ks.length → ∃ kk : Option (Array Value) → Sem (List (Str × Value)), bindArgs (PySem.W.fnOf x qual params body scope dV kV doc pm an cdv ct) ⟨us, ks.zip ws⟩ = seqItems? dV >>= kk ∧
      ∀ its : List Value, its.length = dvs.length → kk (some its.toArray) = setThen (ps.zip us) pv (ks.zip ws))
    (hbody : ∀ (cdv : Value) (A : Around) (outer : List Env) (s : Shared) (H : Hp) (vs : List V) (Q : VK) (E : XK), Rm k (A.deeper (envOfC qual scope s.heap.objs.size f cdv)) → sp vs H Q E →
      ∃ t, PSs (cxOf CX0 P w K mg base N qual scope f cdv A outer s H E).nox body t ∧ t { nx := fun _ H' => Q .non H', rt := Q } (L2.start N vs) H) : FnW P w K mg base CX0 (k + 1) f n ks (spKw ks sp) := by
  obtain ⟨oc, od, dV, kV, doc, pm, an, cdv, ct, osl, rfl, lk, hcd, dfl, _⟩ := F.ex
  obtain ⟨T, o, its, m, eT, lT, dT, rT⟩ : ∃ (T : Addr) (o : Obj) (its : List Value) (m : Nat), dV = .ref T ∧ K.lookup T = some o ∧ o.data = .seq its.toArray m ∧ Vals dvs its := dfl.elim (fun h => absurd h.1 hd) fun h => h.2
  refine ⟨fun A outer s H us ws vs zs Q E hr e0 r rz l1 l2 hsp => ?_⟩
  have hn0 : H s.heap.objs.size = Option.none := e0.hok.fresh (Nat.le_refl _)
  have m1 : us.length = n := by rw [← r.length]; exact l1
  have m2 : ws.length = ks.length := by rw [← rz.length]; exact l2
  refine StX.run_bnd lk hcd S hr.r e0 (G := fun xs H2 => ∃ d, H d = Option.none ∧ xs = vs ++ [V.ref d] ∧ H2 = upd H d (.dK ((ks.map Sum.inr).zip zs))) (fun A' Ex Q' h => ?_) fun s2 H2 xs ⟨d, hd, ex, eH⟩ hr' => ?_
  · obtain ⟨kk, b1, b2⟩ := hb dV kV doc pm an cdv ct us ws m1 m2
    rw [b1, eT]
    have KX : K.In s.heap := e0.mod.kin.keeps fun b o e => (e0.bs b o e).1
    refine wpAny_bind (wpAny_seqItems (KX _ _ lT) dT ?_)
    rw [b2 its (by rw [← rT.length])]
    unfold setThen
    refine wpAny_bind (wpAny_alloc ?_)
    refine wpAny_bind ?_
    refine set_all (h0 := s.heap) (ks.zip ws) [] #[] 0 _ rfl (fun e he => by simp at he) .nil ?_ fun es' n' t' k' p' => ?_
    · rw [List.nil_append, List.map_fst_zip (by omega)]
      exact nd
    · refine wpAny_pure ?_
      rw [List.nil_append] at p'
      have new := dk_made (P := P) (w := w) (H := H) (n := n') (StX.env0_big e0) k' p' nd l2 rz hz
      have un := StX.un_laid (fs := frs outer) (s := s) (o := dObj es' n') (u := .dK ((ks.map Sum.inr).zip zs)) hn0
      have e1 := StX.env0_laid e0 new
      have z := h { s with heap := s.heap.push (dObj es' n'), toks := t' } _ (vs ++ [V.ref s.heap.objs.size]) (us ++ [Value.ref s.heap.objs.size]) ?_ un rfl (fun e s' z => z) (r.append (.cons rfl .nil))
        (by rw [List.length_append, List.length_append, l1, hn]; rfl) ⟨_, hn0, rfl, rfl⟩
      · rw [List.zip_append (by rw [hn, m1])] at z
        exact z
      · exact ⟨e1.frames, e1.mod, e1.bs, e1.bsz, e1.funs, e1.frf, e1.hok, e1.bare⟩
  · subst ex eH
    obtain ⟨t, ht, q⟩ := hbody cdv A outer s2 _ _ Q E (hr.deeper _) (hsp d hd)
    exact ⟨t, ht.nox, q⟩
end
/-! ### classmethods called with keywords -/
structure CmtW (P : Program) (w : World) (K : PySem.W.Frag) (mg : Str → Option Value) (base : Heap) (CX : CXT) (k : Nat) (C : Addr) (m : Str) (n : Nat) (ks : List Str) (sp : SpW) : Prop where
  rd : ClX.CRead K C (.type "type")
  ex : ∃ (p g : Addr), ClX.CMet K C (.type "type") m p g ∧ FnW P w K mg base CX k g (n + 1) ks sp
/-- the class at C has the staticmethod m -/
structure Smt (P : Program) (w : World) (K : PySem.W.Frag) (mg : Str → Option Value) (base : Heap) (CX : CXT) (k : Nat) (C : Addr) (m : Str) (sp : Sp) : Prop where
  rd : ClX.CRead K C (.type "type")
  ex : ∃ (p g : Addr) (rest : List Value) (fd : FuncData) (ps : List Str), PySem.W.findCls K (.ref C) (.type "type") m = some (.get (.builtin "staticmethod.__get__") (.ref p) .none (.ref C)) ∧ PySem.W.recIn K p "staticmethod" = some (.ref g :: rest) ∧ PySem.W.keepIn K (.ref g) = true ∧ Binds K fd ps [] ∧ FnG P w K mg base CX k g fd ps sp
/-- C.m(e, .., x = e2, ..) -/
def tCmk (C : Addr) (n m : Nat) (sp : SpW) (E : XK) (ta : TE) (t tk : TA) : TE := fun σ H Q => ta σ H fun x H1 => x = .ref C ∧ t σ H1 fun vs H2 => tk σ H2 fun zs H3 => vs.length = n ∧ zs.length = m ∧ sp (.ref C :: vs) zs H3 Q E
def tCmk0 (C : Addr) (n : Nat) (sp : SpW) (E : XK) (ta : TE) (t : TA) : TE := fun σ H Q => ta σ H fun x H1 => x = .ref C ∧ t σ H1 fun vs H2 => vs.length = n ∧ sp (.ref C :: vs) [] H2 Q E
def tSMeth (C : Addr) (sp : Sp) (E : XK) (ta : TE) (t : TA) : TE := fun σ H Q => ta σ H fun x H1 => x = .ref C ∧ t σ H1 fun vs H2 => sp vs H2 Q E
section
variable {X : Cx} {CX : CXT} {k n : Nat} {C f : Addr} {ks : List Str} {sw : SpW} {sp : Sp} {E : XK}
theorem run_gW {pins : List (Addr × Obj)} {σ : L2.St} {H : Hp} {s : Shared} {Q : VK} {us ws : List Value} {vs zs : List V} {A : Around} (F : FnW X.prog X.w X.K X.mg X.base CX k f n ks sw) (hr : Rm k A) (e0 : Env0 X.prog X.w X.K X.mg X.base A X.stack s H) (hx : Passes CX X E)
    (I : Inv X pins σ H s) (r : Vals vs us) (rz : Vals zs ws) (l1 : vs.length = n) (l2 : zs.length = ks.length) (h : sw vs zs H Q E) : codeAny (model X.prog X.w) A (.call (.ref f) ⟨us, ks.zip ws⟩) (fun r s' => match r with | .ok (.ret v) => EP X pins σ Q v s' | .ok _ => False | .error e => X.xe e s') s := by
  have go := F.run A X.stack s H us ws vs zs Q E hr e0 r rz l1 l2 h
  refine codeAny_mono go fun r s' hq => ?_
  match r, hq with
  | .error er, hq => exact hx pins σ H s er s' I hq
  | .ok (.ret u), hq => exact I.after hq
  | .ok .next, hq => exact False.elim hq
  | .ok .brk, hq => exact False.elim hq
  | .ok .cont, hq => exact False.elim hq
theorem pe_cmk {o e : Expr} {es : List Expr} {kws : List Keyword} {m : Str} {pos apos : Pos} {ta : TE} {t tk : TA} {pl : Sem Bool} (he : PE X o ta) (G : CmtW X.prog X.w X.K X.mg X.base CX k C m n ks sw) (hr : Rm k X.A) (hx : Passes CX X E) (ha : PA X (e :: es) t) (hkw : PK X kws tk)
    (hall : (backToKw pos (keywordEach kws X.env)).all (·.1.isSome) = true := by rfl) (hks : (backToKw pos (keywordEach kws X.env)).filterMap (·.1) = ks := by rfl)
    (hst : starEach (e :: es) X.env = (false, eval e X.env) :: starEach es X.env := by rfl) (hpl : ((backTo pos (starEach (e :: es) X.env)).any (·.1) || (backToKw pos (keywordEach kws X.env)).any (·.1.isNone)) = false := by rfl)
    (ht : eval (.Call (.Attribute o m apos) (e :: es) kws pos) X.env = (do
      let ov ← eval o X.env
      standAt apos.atName
      let (f, first) ← holding [ov] (getMethod ov m pl)
      callWith pos f first (backTo pos (starEach (e :: es) X.env)) (backToKw pos (keywordEach kws X.env))) := by rfl) :
    PE X (.Call (.Attribute o m apos) (e :: es) kws pos) (tCmk C n ks.length sw E ta t tk) := by
  obtain ⟨p, g, c, F⟩ := G.ex
  refine ⟨fun pins s σ H Q I h => ?_⟩
  refine PySem.W.methodCall_KW (pl := pl) (thn (he.run pins s σ H _ I h) fun u s1 ⟨x, H1, I1, rx, ex, q⟩ => ?_) ht
  subst ex
  obtain rfl : u = Value.ref C := rx
  refine ClX.getmethcm_ok I1 G.rd c fun s2 I2 => ?_
  have hq := ClX.pin_at I2
  refine PySem.W.callWith_of hpl (PySem.W.keeps_M (K := X.K) (q := s1.heap.objs.size) (f := g) (self := .ref C) c.fi) (PyProof.Rows.evalArgs_kw2 hall (thn (ha.run pos _ s2 σ H1 _ I2 q) fun us s3 ⟨vs, H2, I3, rv, q2⟩ => ?_) hst)
  refine thn (hkw.run pos _ s3 σ H2 _ I3 q2) fun ws s4 ⟨zs, H3, I4, rz, l1, l2, q3⟩ => ⟨⟨ClX.pin_at I4, I4.kIn⟩, ?_⟩
  rw [hks]
  refine thn (wpAny_call (PySem.W.method_call (ClX.pin_at I4) (run_gW (us := .ref C :: us) (vs := .ref C :: vs) F hr I4.env0 hx I4 (.cons rfl rv) rz (congrArg Nat.succ l1) l2 q3))) fun _ _ y => ClX.unpinE y
theorem pe_cmk0 {o e : Expr} {es : List Expr} {m : Str} {pos apos : Pos} {ta : TE} {t : TA} {pl : Sem Bool} (he : PE X o ta) (G : CmtW X.prog X.w X.K X.mg X.base CX k C m n [] sw) (hr : Rm k X.A) (hx : Passes CX X E) (ha : PA X (e :: es) t)
    (hst : starEach (e :: es) X.env = (false, eval e X.env) :: starEach es X.env := by rfl) (hpl : (backTo pos (starEach es X.env)).any (·.1) = false := by rfl)
    (ht : eval (.Call (.Attribute o m apos) (e :: es) [] pos) X.env = (do
      let ov ← eval o X.env
      standAt apos.atName
      let (f, first) ← holding [ov] (getMethod ov m pl)
      callWith pos f first (backTo pos (starEach (e :: es) X.env)) (backToKw pos (keywordEach [] X.env))) := by rfl) :
    PE X (.Call (.Attribute o m apos) (e :: es) [] pos) (tCmk0 C n sw E ta t) := by
  obtain ⟨p, g, c, F⟩ := G.ex
  refine ⟨fun pins s σ H Q I h => ?_⟩
  refine PySem.W.methodCall_KW (pl := pl) (thn (he.run pins s σ H _ I h) fun u s1 ⟨x, H1, I1, rx, ex, q⟩ => ?_) ht
  subst ex
  obtain rfl : u = Value.ref C := rx
  refine ClX.getmethcm_ok I1 G.rd c fun s2 I2 => ?_
  refine ClX.callwith_cm I2 (ClX.base_none I1 (Nat.le_refl _)) c.fi (thn (ha.run pos _ s2 σ H1 _ I2 q) fun us s3 ⟨vs, H2, I3, rv, l1, q2⟩ => ⟨⟨ClX.pin_at I3, I3.kIn⟩, ?_⟩) hst hpl
  refine thn (wpAny_call (PySem.W.method_call (ClX.pin_at I3) (run_gW (us := .ref C :: us) (ws := []) (vs := .ref C :: vs) (zs := []) F hr I3.env0 hx I3 (.cons rfl rv) .nil (congrArg Nat.succ l1) rfl q2))) fun _ _ y => ClX.unpinE y
theorem pe_sm {o e : Expr} {es : List Expr} {m : Str} {pos apos : Pos} {ta : TE} {t : TA} {pl : Sem Bool} (he : PE X o ta) (G : Smt X.prog X.w X.K X.mg X.base CX k C m sp) (hr : Rm k X.A) (hx : Passes CX X E) (ha : PA X (e :: es) t)
    (hst : starEach (e :: es) X.env = (false, eval e X.env) :: starEach es X.env := by rfl) (hpl : (backTo pos (starEach es X.env)).any (·.1) = false := by rfl)
    (ht : eval (.Call (.Attribute o m apos) (e :: es) [] pos) X.env = (do
      let ov ← eval o X.env
      standAt apos.atName
      let (f, first) ← holding [ov] (getMethod ov m pl)
      callWith pos f first (backTo pos (starEach (e :: es) X.env)) (backToKw pos (keywordEach [] X.env))) := by rfl) :
    PE X (.Call (.Attribute o m apos) (e :: es) [] pos) (tSMeth C sp E ta t) := by
  obtain ⟨p, g, rest, fd, ps, c1, c2, kp, hb, F⟩ := G.ex
  refine ⟨fun pins s σ H Q I h => ?_⟩
  refine PySem.W.methodCall_KW (pl := pl) (thn (he.run pins s σ H _ I h) fun u s1 ⟨x, H1, I1, rx, ex, q⟩ => ?_) ht
  subst ex
  obtain rfl : u = Value.ref C := rx
  refine PySem.W.method_cls I1.kIn G.rd.ga (PySem.W.cls_bind I1.kIn G.rd.rd c1 (wpAny_call (PySem.W.sm_get (s := { s1 with toks := s1.toks + 1 }) I1.kIn c2 (PySem.W.handed_on rfl ?_))))
  refine PySem.W.callWith_K (h₀ := X.base) I1.ok.mod.kin kp (thn (ha.run pos pins _ σ H1 _ (I1.tok _) q) fun us s3 ⟨vs, H2, I3, rv, q2⟩ => ⟨I3.kIn, ?_⟩) hst hpl
  exact wpAny_call (run_gC F hr I3.env0 hb hx I3 rv q2)
end
end LL

set_option Elab.async false
set_option linter.all false
set_option maxRecDepth 100000
set_option maxHeartbeats 4000000
/-! F13g: Form.of, Form.symbol. -/
namespace K12
open PySem PySem.Spec PyProof.Rows L2 LL K11 W13
abbrev s_Form_of : Stmt := inClass (top 22) 1
abbrev n_Form_of : List Str := ["cls", "constant", "weights", "first", "symbol"]
theorem sc_Form_of : FnScope n_Form_of ["cls", "constant", "weights"] (defScope s_Form_of) := ⟨rfl, rfl, rfl, by decide +kernel, rfl, by decide +kernel, by decide +kernel⟩
section
variable {P : Program} {w : World} {K : PySem.W.Frag} {mg : Str → Option Value} {base : Heap} {C CF : Addr} {f : Addr} {fd : FuncData}
theorem mkCF2 (G : Mkr P w K mg base CX0 5 "Form" CF [] (spFI C CF)) : MkC P w K mg base CX0 5 CF (spMkF2 C CF) := by
  refine ⟨"Form", [], _, G, fun vs H Q E h a dx ha hd ne => ?_⟩
  obtain ⟨v, u, c, ws, rfl, hv, cb, hu, nd, l60, sy, q⟩ := h
  have s0 := new_ins (CF := CF) ha hd
  exact ⟨a, dx, v, u, c, ws, rfl, upd_same, hv.same s0, cb, hu.imp id fun ⟨d, kvs, e, x, y⟩ => ⟨d, kvs, e, s0 _ _ x, y.same s0⟩, nd, l60, sy, fun H' ca da kvs' out cl h1 h2 h3 h4 b _ => ⟨rfl, q H' a out (same_newF ha hd b) ha cl ⟨dx, ca, da, kvs', h1, h2, h3, h4⟩⟩⟩
/-- Form.of's body: its keywords stand in a dict -/
def spOfB (C CF : Addr) : Sp := fun vs H Q _ => ∃ (v : V) (c : Fr2) (d : Addr) (kvs : List (Key × V)) (ws : Wts), vs = [.ref CF, v, .ref d] ∧ AmtV C H v c.1 c.2 ∧ c.1.natAbs < 2 ^ 4000 ∧ H d = some (.dK kvs) ∧ WtsV C H kvs ws ∧ Nd ws ∧ ws.length ≤ 60 ∧
  (∀ x ∈ ws, symB x.1 = true ∧ x.1.length ≤ 1000 ∧ x.2.1.natAbs < 2 ^ 4000) ∧ ∀ H' p out, Same H H' → H p = none → Cln ws out → FmAt C CF H' p c out → Q (.ref p) H'
theorem ok_of (T : Ty K mg C CF) (G_as_amount : Fnc P w K mg base CX0 4 "as_amount" [] (spAs C)) (G_require_symbol : Fnc P w K mg base CX0 2 "require_symbol" [] spReq) (G_is_amount : Fnc P w K mg base CX0 2 "is_amount" [] (spIsAmt C)) (C_Form2 : MkC P w K mg base CX0 5 CF (spMkF2 C CF))
    {ks : List Str} (nd : ks.Nodup) (hz : ks.length ≤ sizeLine)
    (hb : ∀ (dV kV doc pm : Value) (an : Option Addr) (cdv ct : Value) (us ws : List Value), us.length = 2 → ws.length = ks.length → ∃ kk : Option (Array Value) → Sem (List (Str × Value)), bindArgs (PySem.W.fnOf "of" "Form.of" (defArgs s_Form_of) (defBody s_Form_of) (defScope s_Form_of) dV kV doc pm an cdv ct) ⟨us, ks.zip ws⟩ = seqItems? dV >>= kk ∧
      ∀ its : List Value, its.length = 1 → kk (some its.toArray) = setThen ((["cls", "constant"] : List Str).zip us) "weights" (ks.zip ws))
    (F : FD K "of" "Form.of" s_Form_of [.int 0] f fd) : FnW P w K mg base CX0 7 f 2 ks (spKw ks (spOfB C CF)) := by
  refine okStarK (ps := ["cls", "constant"]) (pv := "weights") F sc_Form_of rfl nd hz (fun z => by cases z) hb (fun cdv A outer s H vs Q E hr h => ?_)
  obtain ⟨v, c, d, kvs, ws, rfl, hv, cb, hd, wt, ndw, l60, sy, q⟩ := h
  refine ⟨_, (pss_cons (ps_set (i := 3) sc_Form_of.nd rfl (by first | exact Or.inl rfl | exact Or.inr rfl) (pe_fn G_as_amount (hr.mono (by decide)) pass0 (pa_cons (pv 1) pa_nil)))
      (pss_cons (ps_for PassesOwn.never rfl (pi_list (pe_callB (call_sortedD rfl) (by rfl) T.n_sorted (by decide +kernel) (pa_cons (pv 2) pa_nil))) (pg_name (i := 4) sc_Form_of.nd rfl (by first | exact Or.inl rfl | exact Or.inr rfl)) (pss_cons (ps_expr (pe_fn G_require_symbol (hr.mono (by decide)) pass0 (pa_cons (pv 4) pa_nil)))
      (pss_one (ps_if (pt_not (pt_val (pe_fn G_is_amount (hr.mono (by decide)) pass0 (pa_cons (pe_dget (un1 hr.r.units) (pv 2) (pv 4) (fun _ _ => rfl)) pa_nil)))) (pss_one ps_never) pss_nil))))
      (pss_one (ps_ret (pe_mkL (i := 0) C_Form2 (hr.mono (by decide)) pass0 rfl (by first | exact Or.inl rfl | exact Or.inr rfl) (pa_cons (pv 3) (pa_cons (pv 2) pa_nil))))))), ?_⟩
  refine ⟨_, rfl, v, c.1, c.2, rfl, hv, cb, fun H1 ca s1 hca => ?_⟩
  refine nm_of ?_
  dsimp only
  have hd1 := s1 _ _ hd
  have wt1 := wt.same s1
  have ek : kvs.map (·.1) = (ws.map (·.1)).map Sum.inr := by rw [wt.keys, List.map_map]; rfl
  refine ⟨_, rfl, d, kvs, ws.map (·.1), rfl, .inl hd1, ek, by rw [List.length_map]; omega, fun ys l pm srt nl => ⟨l, rfl, ⟨_, SqL.of upd_same⟩, ?_⟩⟩
  obtain ⟨G5, e5, s5, hl5⟩ := mkO nl (.lst (ys.map V.str))
  rw [e5]
  clear e5
  refine for_it (walk_list (K := K) (a := l) (xs := ys.map V.str)) (fun j σ G => Same G5 G ∧ ∃ u4, σ = [some (.ref CF), some v, some (.ref d), some (.ref ca), u4]) ⟨Same.rfl', none, rfl⟩ (fun j σ G _ z => SqL.of (z.1 _ _ hl5)) ?_ ?_
  · rintro j x σ G G' hj ⟨sG, u4, rfl⟩ ⟨rfl, hx⟩
    rw [List.getElem?_map] at hx
    obtain ⟨z, hs, rfl⟩ := Option.map_eq_some_iff.mp hx
    have sm : z ∈ ws.map (·.1) := pm.mem_iff.mp (List.mem_of_getElem? hs)
    obtain ⟨y, hy, rfl⟩ := List.mem_map.mp sm
    obtain ⟨i, hi⟩ := List.getElem?_of_mem hy
    have s7 := s5.trans sG
    obtain ⟨p', hp', vp⟩ := val_key wt1 ndw hi
    have am := (wt1.at_ i p' y hp' hi).same s7
    refine ⟨_, rfl, y.1, rfl, (sy y hy).2.1, (sy y hy).1, fun G7 s8 => ?_⟩
    refine nm_of ?_
    dsimp only
    have g := DGet.k (k := Sum.inr y.1) ((s7.trans s8) _ _ hd1)
    rw [vp] at g
    refine ⟨_, rfl, _, rfl, d, _, rfl, g, p'.2, y.2.1, y.2.2, rfl, am.same s8, _, rfl, iteF ?_⟩
    exact ⟨sG.trans s8, _, rfl⟩
  · rintro σ G ⟨sG, u4, rfl⟩
    have s7 := s5.trans sG
    have s8 := s1.trans s7
    refine ⟨rfl, _, rfl, _, rfl, .ref ca, .ref d, c, ws, rfl, .inl ⟨ca, rfl, hca.same s7⟩, cb, .inr ⟨d, kvs, rfl, s7 _ _ hd1, wt1.same s7⟩, ndw, l60, sy, fun H' p out s9 np cl fm => q H' p out (s8.trans s9) (s8.free np) cl fm⟩
end
/-! ### Form.symbol -/
def spSymbol (C CF : Addr) : Sp := fun vs H Q _ => ∃ z : Str, vs = [.str z] ∧ z.length ≤ 1000 ∧ symB z = true ∧ ∀ H' r, Same H H' → H r = none → FmAt C CF H' r (0, 1) [(z, 1, 1)] → Q (.ref r) H'
section
variable {P : Program} {w : World} {K : PySem.W.Frag} {mg : Str → Option Value} {base : Heap} {C CF : Addr} {f : Addr} {fd : FuncData}
theorem ok_symbol (T : Ty K mg C CF) (G_require_symbol : Fnc P w K mg base CX0 2 "require_symbol" [] spReq) (K_Form2 : Mkf P w K mg base CX0 5 "Form" (spMkF2 C CF)) (F : FD K "symbol" "Form.symbol" s_Form_symbol [] f fd) : FnG P w K mg base CX0 7 f fd ["symbol"] (spSymbol C CF) := by
  refine ok0 F sc_Form_symbol (fun vs H Q E h => ?_) (fun cdv A outer s H vs Q E hr h => ?_)
  · obtain ⟨z, rfl, _⟩ := h
    rfl
  · obtain ⟨z, rfl, lz, sz, q⟩ := h
    refine ⟨_, (pss_cons (ps_expr (pe_fn G_require_symbol (hr.mono (by decide)) pass0 (pa_cons (pv 0) pa_nil)))
      (pss_one (ps_ret (pe_mf K_Form2 (hr.mono (by decide)) pass0 (pa_cons pe_int (pa_cons (pe_disp (pps_cons (pv 0) pe_int pps_nil) rfl rfl (fun z => by cases z) (by decide)) pa_nil)))))), ?_⟩
    refine ⟨_, rfl, z, rfl, lz, sz, fun H1 s1 => ?_⟩
    refine nx_of ?_
    dsimp only
    refine fun D nD => ⟨_, rfl, upd_same, [(Sum.inr z, .int 1)], rfl, (show 1 ≤ 15 by decide), ?_⟩
    dsimp only [tNil]
    have sD : Same H1 (upd (upd H1 D (.dK [])) D (.dK (mergeK [] [((Sum.inr z : Key), V.int 1)]))) := fun b o e => by
      rw [upd_ne (ne_of_none e nD), upd_ne (ne_of_none e nD)]
      exact e
    refine ⟨.int 0, .ref D, (0, 1), [(z, 1, 1)], rfl, .inr ⟨rfl, rfl⟩, by decide +kernel, .inr ⟨D, _, rfl, upd_same, rfl, fun i p x e1 e2 => ?_⟩, (List.pairwise_singleton _ _), (show 1 ≤ 60 by decide), fun x hx => ?_, fun H' p out s9 np cl fm => ?_⟩
    · rcases i with _ | i
      · cases e1
        cases e2
        exact .inr ⟨rfl, rfl⟩
      · cases e2
    · cases List.mem_singleton.mp hx
      exact ⟨sz, lz, (show (1 : Int).natAbs < 2 ^ 4000 by decide +kernel)⟩
    · have e : out = [(z, 1, 1)] := srt_ext cl.srt (List.pairwise_singleton _ _) fun x => ⟨fun m => ((cl.mem x).mp m).1, fun m => (cl.mem x).mpr ⟨m, by cases List.mem_singleton.mp m; exact (show ¬ (1 : Int) = 0 by decide)⟩⟩
      rw [e] at fm
      exact q _ _ (s1.trans (sD.trans s9)) (s1.free (sD.free np)) fm
end
end K12

set_option Elab.async false
set_option linter.all false
set_option maxRecDepth 100000
set_option maxHeartbeats 2000000
/-! LLFmtO: {x} within an f-string, x an own object with an own __str__. -/
namespace LL
open PySem PySem.Spec PyProof.Rows L2
section
variable {X : Cx} {CX : CXT} {k : Nat} {C : Addr} {sp : Sp} {E : XK}
def tFmtO (C : Addr) (sp : Sp) (E : XK) (te : TE) : TE := fun σ H Q => te σ H fun x H1 => ∃ a dx fs, x = .ref a ∧ H1 a = some (.ins C dx fs) ∧ sp [.ref a] H1 (fun z H' => ∃ y, z = .str y ∧ Q z H') E
theorem pe_fmtO {e : Expr} {te : TE} {pos : Pos} (O : SpF X.prog X.w X.K X.mg X.base CX k C "__str__" sp) (hfm : PySem.W.findIn X.K (.ref C) "__format__" = some (some (.builtin "object.__format__"))) (hm : PySem.W.mroIn X.K C (.type "object") = some true)
    (hr : Rm (k + 1) X.A) (hx : Passes CX X E) (he : PE X e te) : PE X (.FormattedValue e (-1) none pos) (tFmtO C sp E te) := by
  obtain ⟨f, fd, ps, hs, hf, hb, F⟩ := O.ex
  refine ⟨fun pins s σ H Q I h => ?_⟩
  refine wpAny_FormattedValue_plain (thn (he.run pins s σ H _ I h) fun v s1 hv => ?_)
  obtain ⟨x, H1, I1, r1, a, dx, fs, rfl, ha, q⟩ := hv
  cases (show v = Value.ref a from r1)
  obtain ⟨od, J⟩ := inst_of I1 ha
  have hr2 : Rm k X.A.in1 := hr.in1
  refine PySem.W.kfo_fieldS hr2.r.units0 I1.kIn J hfm hm hs hf (thn (run_g (us := [.ref a]) (vs := [.ref a]) (dvs := []) F hr2 (I1.tok (s1.toks + 1)).env0.in1 hb .nil hx (I1.tok (s1.toks + 1)) (.cons rfl .nil) q) fun w s' z => ?_)
  obtain ⟨z', H', I', rz, y, rfl, qz⟩ := z
  obtain ⟨t, rfl⟩ := (show ∃ t, w = Value.str y t from rz)
  exact ⟨.str y, H', I', ⟨t, rfl⟩, qz⟩
end
end LL

set_option Elab.async false
set_option linter.all false
set_option maxRecDepth 100000
set_option maxHeartbeats 4000000
/-! F13h: a form's text. -/
namespace K12
open PySem PySem.Spec PyProof.Rows L2 LL K11 W13
abbrev s_term_text : Stmt := top 24
abbrev n_term_text : List Str := ["symbol", "weight", "size"]
theorem sc_term_text : FnScope n_term_text ["symbol", "weight"] (defScope s_term_text) := ⟨rfl, rfl, rfl, by decide +kernel, rfl, by decide +kernel, by decide +kernel⟩
abbrev s_form_text : Stmt := top 25
abbrev n_form_text : List Str := ["constant", "weights", "parts", "symbol", "weight", "first_sign", "first", "rest", "words", "sign", "part"]
theorem sc_form_text : FnScope n_form_text ["constant", "weights"] (defScope s_form_text) := ⟨rfl, rfl, rfl, by decide +kernel, rfl, by decide +kernel, by decide +kernel⟩
abbrev s_Formstr : Stmt := inClass (top 22) 16
abbrev n_Formstr : List Str := ["self"]
theorem sc_Formstr : FnScope n_Formstr ["self"] (defScope s_Formstr) := ⟨rfl, rfl, rfl, by decide +kernel, rfl, by decide +kernel, by decide +kernel⟩
abbrev s_Formrepr : Stmt := inClass (top 22) 17
abbrev n_Formrepr : List Str := ["self"]
theorem sc_Formrepr : FnScope n_Formrepr ["self"] (defScope s_Formrepr) := ⟨rfl, rfl, rfl, by decide +kernel, rfl, by decide +kernel, by decide +kernel⟩
/-- a term without its sign -/
def termS (z : Str) (t b : Int) : Str := if (t.natAbs : Int) = 1 ∧ b = 1 then z else shown (t.natAbs : Int) b ++ " " ++ z
def ptsW (ws : Wts) : List (Int × Str) := ws.map fun x => (sgn x.2.1, termS x.1 x.2.1 x.2.2)
def ptsF (c : Fr2) (ws : Wts) : List (Int × Str) := if c.1 = 0 then ptsW ws else (sgn c.1, shown (c.1.natAbs : Int) c.2) :: ptsW ws
def firstS (p : Int × Str) : Str := if p.1 < 0 then "-" ++ p.2 else p.2
def restS (p : Int × Str) : Str := if p.1 < 0 then "- " ++ p.2 else "+ " ++ p.2
def joinP : List (Int × Str) → Str
  | [] => ""
  | p :: r => Txt.join " " (firstS p :: r.map restS)
def formS (c : Fr2) (ws : Wts) : Str := if ws = [] then shown c.1 c.2 else joinP (ptsF c ws)
theorem sgn_neg {t : Int} : (sgn t < 0) ↔ t < 0 := by
  unfold sgn
  by_cases h : t < 0
  · simp [h]
    omega
  · by_cases h2 : 0 < t <;> simp [h, h2] <;> omega
theorem sgn_zero {t : Int} : sgn t = 0 ↔ t = 0 := by
  unfold sgn
  by_cases h : t < 0
  · simp [h]
    omega
  · by_cases h2 : 0 < t <;> simp [h, h2] <;> omega
theorem shown_len {t b : Int} (ht : Md t) (hb : Md b) : (shown t b).length ≤ 4000 := by
  have l1 := ht.len
  have l2 := hb.len
  unfold shown
  split
  · omega
  · rw [strLen_append, strLen_append]
    show _ + 1 + _ ≤ _
    omega
theorem Md.abs {t : Int} (h : Md t) : Md (t.natAbs : Int) := by unfold Md at *; rw [Int.natAbs_natCast]; exact h
theorem termS_len {z : Str} {t b : Int} (hz : z.length ≤ 1000) (ht : Md t) (hb : Md b) : (termS z t b).length ≤ 5001 := by
  have := shown_len ht.abs hb
  unfold termS
  split
  · omega
  · rw [strLen_append, strLen_append]
    show _ + 1 + _ ≤ _
    omega
section
variable {P : Program} {w : World} {K : PySem.W.Frag} {mg : Str → Option Value} {base : Heap} {C CF : Addr} {f : Addr} {fd : FuncData}
/-- -x if x.sign < 0 else x -/
theorem abs_of {tw : TE} {σ : L2.St} {H : Hp} {R : VK} {a : Addr} {t b : Int} (hw : ∀ R : VK, R (.ref a) H → tw σ H R) (am : AmtAt C H a t b) (st : Sm t) (sb : Sm b) (lw : Low (t, b)) (q : ∀ H1 a1, Same H H1 → AmtAt C H1 a1 (t.natAbs : Int) b → R (.ref a1) H1) :
    tIf (tTest (tOp (rI0 fun i j => V.bl (decide (i < j))) (tPr C (spGet C fun t _ => sgn t) E0 tw) (tC (V.int 0)))) (tUn (rNeg C (spNeg C) E0) tw) tw σ H R := by
  obtain ⟨dx, ha⟩ := id am
  refine hw _ ⟨a, dx, _, rfl, ha, a, t, b, rfl, am, _, _, rfl, rfl, _, rfl, ?_⟩
  by_cases c : t < 0
  · refine iteY (decide_eq_true (sgn_neg.mpr c)) ?_
    have lp := lw.pos
    have el := neg_lowP lw
    have e0 : (t.natAbs : Int) = -t := by omega
    refine hw _ ⟨a, dx, _, rfl, ha, a, t, b, rfl, am, st, sb, lp, fun H1 a1 s1 _ am1 => q H1 a1 s1 ?_⟩
    have e1 : lt (-t) b = -t := congrArg Prod.fst el
    have e2 : lb (-t) b = b := congrArg Prod.snd el
    rw [e1, e2] at am1
    rw [e0]
    exact am1
  · refine iteN (decide_eq_false fun z => c (sgn_neg.mp z)) (hw _ (q H a Same.rfl' ?_))
    have e0 : (t.natAbs : Int) = t := by omega
    rw [e0]
    exact am
def spTerm (C : Addr) : Sp := fun vs H Q _ => ∃ (z : Str) (a : Addr) (t b : Int), vs = [.str z, .ref a] ∧ AmtAt C H a t b ∧ z.length ≤ 1000 ∧ Sm t ∧ Sm b ∧ Low (t, b) ∧ ∀ H', Same H H' → Q (.str (termS z t b)) H'
theorem ok_term (T : Ty K mg C CF) (P_sign : Prp P w K mg base CX0 1 C "sign" (spGet C fun t _ => sgn t)) (S_neg : SpF P w K mg base CX0 4 C "__neg__" (spNeg C)) (S_eq : SpF P w K mg base CX0 1 C "__eq__" (spEq K C)) (S_str : SpF P w K mg base CX0 1 C "__str__" (spShow C shown))
    (K_Amount1 : Mkf P w K mg base CX0 2 "Amount" (spMkA1 C)) (F : FD K "term_text" "term_text" s_term_text [] f fd) : FnG P w K mg base CX0 5 f fd ["symbol", "weight"] (spTerm C) := by
  refine ok0 F sc_term_text (fun vs H Q E h => ?_) (fun cdv A outer s H vs Q E hr h => ?_)
  · obtain ⟨z, a, t, b, rfl, _⟩ := h
    rfl
  · obtain ⟨z, a, t, b, rfl, am, lz, st, sb, lw, q⟩ := h
    refine ⟨_, (pss_cons (ps_set (i := 2) sc_term_text.nd rfl (by first | exact Or.inl rfl | exact Or.inr rfl) (pe_ifExp (pt_cmpR op_lt (pe_pr P_sign (hr.mono (by decide)) pass0 (pv 1)) pe_int (nomark _)) (pe_un (un_negF S_neg (hr.mono (by decide)) pass0) (pv 1)) (pv 1)))
      (pss_one (ps_ret (pe_ifExp (pt_cmpR (op_eqF S_eq (hr.mono (by decide)) pass0) (pv 2) (pe_mf K_Amount1 (hr.mono (by decide)) pass0 (pa_cons pe_int pa_nil)) (nomark _)) (pv 0) (pe_joined (.cons (pe_fmtO S_str T.fm T.cm (hr.mono (by decide)) pass0 (pv 2)) (.cons pe_str (.cons (pe_fmt (pv 0)) .nil)))))))), ?_⟩
    refine abs_of (fun R r => ⟨_, rfl, r⟩) am st sb lw fun H1 a1 s1 am1 => ?_
    refine nm_of ?_
    dsimp only
    refine ret_of ?_
    obtain ⟨dx1, ha1⟩ := id am1
    refine ⟨_, rfl, 1, rfl, by decide +kernel, fun H2 p s2 np am2 => ?_⟩
    have am12 := am1.same s2
    have ha12 := s2 _ _ ha1
    have m1 := st.md.abs
    have m2 := sb.md
    have l1 := shown_len m1 m2
    refine ⟨a1, dx1, _, .ref C, rfl, ha12, tyA T.toTx am2, T.fC, a1, .ref p, (t.natAbs : Int), b, .ref C, true, rfl, am12, tyA T.toTx am2, T.kC, (fun z => by cases z), fun _ => ⟨p, 1, 1, rfl, am2, _, rfl, ?_⟩⟩
    have q2 := q H2 (s1.trans s2)
    unfold termS at q2
    rw [← Bool.decide_and]
    by_cases c : (t.natAbs : Int) = 1 ∧ b = 1
    · rw [if_pos c] at q2
      exact iteY (decide_eq_true c) ⟨_, rfl, q2⟩
    · rw [if_neg c] at q2
      refine iteN (decide_eq_false c) ?_
      refine ⟨_, rfl, a1, dx1, _, rfl, ha12, a1, _, _, rfl, am12, m1, m2, _, rfl, _, rfl, ?_, _, rfl, ?_, _, rfl, .inl ⟨_, rfl, small (by omega), _, rfl, ?_, ?_⟩⟩
      · rw [Str.empty_append]
        exact small (by omega)
      · rw [Str.empty_append, strLen_append]
        exact small (by show _ + 1 ≤ _; omega)
      · rw [Str.empty_append, strLen_append, strLen_append]
        exact small (by show _ + 1 + _ ≤ _; omega)
      · rw [Str.empty_append]
        exact q2
/-- a form's text -/
def spForm (C : Addr) : Sp := fun vs H Q _ => ∃ (a d : Addr) (c : Fr2) (kvs : List (Key × V)) (ws : Wts), vs = [.ref a, .ref d] ∧ AmtAt C H a c.1 c.2 ∧ H d = some (.dK kvs) ∧ WtsR C H kvs ws ∧ FOk c ws ∧ ∀ H', Same H H' → Q (.str (formS c ws)) H'
/-- tuples that lie in the heap -/
structure PsT (H : Hp) (vs : List V) (ps : List (List V)) : Prop where
  len : vs.length = ps.length
  at_ : ∀ (i : Nat) v p, vs[i]? = some v → ps[i]? = some p → ∃ t, v = .ref t ∧ H t = some (.tup p)
theorem PsT.nil {H : Hp} : PsT H [] [] := ⟨rfl, fun i v p e => by simp at e⟩
theorem PsT.same {H H' : Hp} {vs : List V} {ps : List (List V)} (h : PsT H vs ps) (s : Same H H') : PsT H' vs ps := ⟨h.len, fun i v p e1 e2 => let ⟨t, e, x⟩ := h.at_ i v p e1 e2; ⟨t, e, s _ _ x⟩⟩
theorem PsT.get {H : Hp} {vs : List V} {ps : List (List V)} (h : PsT H vs ps) {i : Nat} {v : V} (e : vs[i]? = some v) : ∃ t p, v = .ref t ∧ ps[i]? = some p ∧ H t = some (.tup p) := by
  have hi : i < ps.length := by rw [← h.len]; exact (List.getElem?_eq_some_iff.mp e).1
  obtain ⟨t, ev, x⟩ := h.at_ i v _ e (List.getElem?_eq_getElem hi)
  exact ⟨t, _, ev, List.getElem?_eq_getElem hi, x⟩
theorem PsT.snoc {H : Hp} {vs : List V} {ps : List (List V)} {t : Addr} {p : List V} (h : PsT H vs ps) (x : H t = some (.tup p)) : PsT H (vs ++ [.ref t]) (ps ++ [p]) := by
  refine ⟨by rw [List.length_append, List.length_append, h.len]; rfl, fun i u q e1 e2 => ?_⟩
  have l := h.len
  by_cases c : i < vs.length
  · rw [List.getElem?_append_left c] at e1
    rw [List.getElem?_append_left (by omega)] at e2
    exact h.at_ i u q e1 e2
  · have ei : i = vs.length := by
      have := (List.getElem?_eq_some_iff.mp e1).1
      rw [List.length_append, List.length_singleton] at this
      omega
    subst ei
    rw [List.getElem?_append_right (Nat.le_refl _), Nat.sub_self] at e1
    rw [List.getElem?_append_right (by omega), l, Nat.sub_self] at e2
    cases e1
    cases e2
    exact ⟨t, rfl, x⟩
theorem PsT.cons {H : Hp} {vs : List V} {ps : List (List V)} {t : Addr} {p : List V} (h : PsT H vs ps) (x : H t = some (.tup p)) : PsT H (.ref t :: vs) (p :: ps) := by
  refine ⟨congrArg Nat.succ h.len, fun i u q e1 e2 => ?_⟩
  cases i with
  | zero =>
    cases e1
    cases e2
    exact ⟨t, rfl, x⟩
  | succ i => exact h.at_ i u q e1 e2
def isV (p : Int × Str) : List V := [.int p.1, .str p.2]
theorem rowS_len {c : Fr2} {ws : Wts} (ok : FOk c ws) : ∀ p ∈ ptsF c ws, p.2.length ≤ 5001 := by
  have h2 : ∀ p ∈ ptsW ws, p.2.length ≤ 5001 := fun p hp => by
    obtain ⟨x, hx, rfl⟩ := List.mem_map.mp hp
    exact termS_len (ok.sy x hx).2 (ok.sms x hx).1.md (ok.sms x hx).2.md
  intro p hp
  unfold ptsF at hp
  split at hp
  · exact h2 p hp
  · rcases List.mem_cons.mp hp with e | e
    · rw [e]
      have := shown_len ok.sm.1.md.abs ok.sm.2.md
      show (shown _ _).length ≤ _
      omega
    · exact h2 p e
theorem sumsR : ∀ l : List (Int × Str), (∀ p ∈ l, p.2.length ≤ 5001) → ((l.map restS).map (·.length)).sum ≤ l.length * 5003 := by
  intro l
  induction l with
  | nil => exact fun _ => Nat.zero_le _
  | cons p l ih =>
    intro h
    have h1 := ih fun q hq => h q (List.mem_cons_of_mem _ hq)
    have h2 := h p (List.mem_cons_self ..)
    have h3 : (restS p).length ≤ 5003 := by
      unfold restS
      split
      · rw [strLen_append]
        show 2 + _ ≤ _
        omega
      · rw [strLen_append]
        show 2 + _ ≤ _
        omega
    rw [List.map_cons, List.map_cons, List.sum_cons, List.length_cons, Nat.add_mul]
    omega
theorem ok_form (T : Ty K mg C CF) (P_sign : Prp P w K mg base CX0 1 C "sign" (spGet C fun t _ => sgn t)) (S_neg : SpF P w K mg base CX0 4 C "__neg__" (spNeg C)) (S_eq : SpF P w K mg base CX0 1 C "__eq__" (spEq K C)) (S_str : SpF P w K mg base CX0 1 C "__str__" (spShow C shown))
    (G_term_text : Fnc P w K mg base CX0 5 "term_text" [] (spTerm C)) (F : FD K "form_text" "form_text" s_form_text [] f fd) : FnG P w K mg base CX0 6 f fd ["constant", "weights"] (spForm C) := by
  refine ok0 F sc_form_text (fun vs H Q E h => ?_) (fun cdv A outer s H vs Q E hr h => ?_)
  · obtain ⟨a, d, c, kvs, ws, rfl, _⟩ := h
    rfl
  · obtain ⟨a, d, c, kvs, ws, rfl, am, hd, wr, ok, q⟩ := h
    refine ⟨_, (pss_cons (ps_if (pt_cmpR (op_eqDO S_eq (hr.mono (by decide)) pass0) (pv 1) pe_dnewK (nomark _)) (pss_one (ps_ret (pe_callTy (call_strOF S_str (hr.mono (by decide)) pass0) (by rfl) T.n_str (by decide +kernel) (pa_cons (pv 0) pa_nil)))) pss_nil)
      (pss_cons (ps_lock (ps_setLc (i := 2) (g := (gTup K 2 (gCons (gName 3) (gCons (gName 4) gNil)))) (own := [("symbol", 3), ("weight", 4)]) rfl sc_form_text.nd rfl rfl (sw_true rfl rfl rfl (by decide +kernel)) (pi_items (pv 1)) (blkOk_by (own := [("symbol", 3), ("weight", 4)]) (N := n_form_text) (sc := defScope s_form_text) (by decide +kernel)) (fun _ _ _ _ _ => (pg_tup rfl (pgs_cons (pg_name (i := 3) sc_form_text.nd rfl (by first | exact Or.inl rfl | exact Or.inr rfl)) (pgs_cons (pg_name (i := 4) sc_form_text.nd rfl (by first | exact Or.inl rfl | exact Or.inr rfl)) pgs_nil)))) (fun _ _ _ _ _ => pts_nil) (fun _ _ _ _ _ => (pe_tup (pa_cons (pe_pr P_sign (hr.mono (by decide)) pass0 (pv 4)) (pa_cons (pe_fn G_term_text (hr.mono (by decide)) pass0 (pa_cons (pv 3) (pa_cons (pv 4) pa_nil))) pa_nil))))))
      (pss_cons (ps_if (pt_cmpR op_ne (pe_pr P_sign (hr.mono (by decide)) pass0 (pv 0)) pe_int (nomark _)) (pss_one (ps_set (i := 2) sc_form_text.nd rfl (by first | exact Or.inl rfl | exact Or.inr rfl) (pe_lst (pa_cons (pe_tup (pa_cons (pe_pr P_sign (hr.mono (by decide)) pass0 (pv 0)) (pa_cons (pe_callTy (call_strOF S_str (hr.mono (by decide)) pass0) (by rfl) T.n_str (by decide +kernel) (pa_cons (pe_ifExp (pt_cmpR op_lt (pe_pr P_sign (hr.mono (by decide)) pass0 (pv 0)) pe_int (nomark _)) (pe_un (un_negF S_neg (hr.mono (by decide)) pass0) (pv 0)) (pv 0)) pa_nil)) pa_nil))) (StX.pa_star (pv 2) pa_nil))))) pss_nil)
      (pss_cons (ps_asg (pv 2) (pg_star1 rfl (pgs_cons (pg_tup rfl (pgs_cons (pg_name (i := 5) sc_form_text.nd rfl (by first | exact Or.inl rfl | exact Or.inr rfl)) (pgs_cons (pg_name (i := 6) sc_form_text.nd rfl (by first | exact Or.inl rfl | exact Or.inr rfl)) pgs_nil))) (pgs_cons (pg_name (i := 7) sc_form_text.nd rfl (by first | exact Or.inl rfl | exact Or.inr rfl)) pgs_nil))))
      (pss_cons (ps_setLc (i := 8) (g := (gTup K 2 (gCons (gName 9) (gCons (gName 10) gNil)))) (own := [("sign", 9), ("part", 10)]) rfl sc_form_text.nd rfl rfl (sw_true rfl rfl rfl (by decide +kernel)) (pi_list (pv 7)) (blkOk_by (own := [("sign", 9), ("part", 10)]) (N := n_form_text) (sc := defScope s_form_text) (by decide +kernel)) (fun _ _ _ _ _ => (pg_tup rfl (pgs_cons (pg_name (i := 9) sc_form_text.nd rfl (by first | exact Or.inl rfl | exact Or.inr rfl)) (pgs_cons (pg_name (i := 10) sc_form_text.nd rfl (by first | exact Or.inl rfl | exact Or.inr rfl)) pgs_nil)))) (fun _ _ _ _ _ => pts_nil) (fun _ _ _ _ _ => (pe_ifExp (pt_cmpR op_lt (pv 9) pe_int (nomark _)) (pe_joined (.cons pe_str (.cons (pe_fmt (pv 10)) .nil))) (pe_joined (.cons pe_str (.cons (pe_fmt (pv 10)) .nil))))))
      (pss_one (ps_ret (pe_join pe_str (pe_lst (pa_cons (pe_ifExp (pt_cmpR op_lt (pv 5) pe_int (nomark _)) (pe_joined (.cons pe_str (.cons (pe_fmt (pv 6)) .nil))) (pv 6)) (StX.pa_star (pv 8) pa_nil))))))))))), ?_⟩
    obtain ⟨dx, ha⟩ := id am
    have m1 := ok.sm.1.md
    have m2 := ok.sm.2.md
    have lw := wr.len
    refine ⟨_, rfl, fun D nD => ?_⟩
    refine eq_empty T.fC (same_upd nD _ _ hd) upd_same fun H1 s1 => ⟨_, rfl, ?_⟩
    replace s1 := (same_upd nD).trans s1
    have ha1 := s1 _ _ ha
    have am1 := am.same s1
    have wr1 := wr.same s1
    have hd1 := s1 _ _ hd
    have ekv : kvs.isEmpty = decide (ws = []) := by
      cases kvs with
      | nil =>
        cases ws with
        | nil => rfl
        | cons x r => cases lw
      | cons y s =>
        cases ws with
        | nil => cases lw
        | cons x r => exact (decide_eq_false fun z => by cases z).symm
    by_cases c0 : ws = []
    · have q1 := q H1 s1
      unfold formS at q1
      rw [if_pos c0] at q1
      refine iteY (by rw [ekv, decide_eq_true c0]) ?_
      exact ⟨_, rfl, a, dx, _, rfl, ha1, a, _, _, rfl, am1, m1, m2, _, rfl, q1⟩
    refine iteN (by rw [ekv, decide_eq_false c0]) ?_
    refine nx_of ?_
    dsimp only
    refine ⟨d, _, hd1, trivial, fun od => ⟨_, rfl, d, od, kvs, rfl, upd_same, fun D2 nD2 => ?_⟩⟩
    have sl : SmD H1 (upd H1 d (.frz od (.dK kvs))) := lock_smd hd1
    refine lc_inv (walk_items (d := d) (o := od) (kvs := kvs)) (fun j acc G => Same (upd H1 d (.frz od (.dK kvs))) G ∧ PsT (rst [D2] G) acc (((ptsW ws).take j).map isV)) (fun j acc G o z => ⟨own_same z.1 nD2, by rw [rst_upd (List.mem_singleton.mpr rfl)]; exact z.2⟩) ⟨Same.rfl', PsT.nil⟩ (fun j acc G hj z => ?_) (fun j acc G _ z => z.1 _ _ upd_same) ?_ ?_
    · have := z.2.len
      have l2 := ok.len
      rw [List.length_map, List.length_take] at this
      unfold ptsW at this
      rw [List.length_map] at this
      exact Nat.lt_of_lt_of_le (show _ < 100000 by omega) (small (Nat.le_refl _))
    · rintro j x acc G G' hj ⟨s7, wr2⟩ hD2 yi R S' hR hS
      obtain ⟨t, p', rfl, nt, rfl, hp'⟩ := items_at yi
      obtain ⟨G8, e8, s8, ht⟩ := mkO nt (.tup [kV p'.1, p'.2])
      rw [e8]
      clear e8
      obtain ⟨z, t', b, a', hw, rfl, am'⟩ := wr1.get hp'
      have zm := List.mem_of_getElem? hw
      have s78 := s7.trans s8
      have am8 : AmtAt C G8 a' t' b := let ⟨dy, e⟩ := am'; ⟨dy, s78 _ _ (sl _ _ e (fun _ z => by cases z))⟩
      obtain ⟨dy, ha8⟩ := id am8
      have hD28 := s8 _ _ hD2
      refine ⟨t, _, rfl, SqT.of ht, rfl, _, _, rfl, _, _, rfl, rfl, rfl, ?_⟩
      dsimp only [tYes]
      rw [if_pos rfl]
      refine ⟨_, rfl, a', dy, _, rfl, ha8, a', t', b, rfl, am8, ?_⟩
      refine ⟨_, rfl, _, rfl, z, a', t', b, rfl, am8, (ok.sy _ zm).2, (ok.sms _ zm).1, (ok.sms _ zm).2, ok.can.low _ zm, fun G9 s9 => ⟨small (show 2 ≤ 100000 by decide), fun p np => ?_⟩⟩
      have s79 := s78.trans s9
      refine hR _ _ ((same_upd np) _ _ (s9 _ _ hD28)) ⟨s79.trans (same_upd np), ?_⟩
      have et : (ptsW ws)[j]? = some (sgn t', termS z t' b) := by
        unfold ptsW
        rw [List.getElem?_map, hw]
        rfl
      rw [take_map isV et]
      refine PsT.snoc (wr2.same (rst_same ((s8.trans s9).trans (same_upd np)))) (rst_one upd_same fun e => ?_)
      rw [e, s9 _ _ hD28] at np
      cases np
    rintro acc G7 hD27 ⟨s7, ps7⟩
    have lk : (ptsW ws).length = kvs.length := by unfold ptsW; rw [List.length_map, lw]
    rw [← lk, List.take_length] at ps7
    refine nm_of ?_
    dsimp only
    refine ⟨s7 _ _ upd_same, ?_⟩
    have s67 := smd_lock hd1 s7
    have nDd : D2 ≠ d := fun e => by rw [e, upd_same] at nD2; cases nD2
    obtain ⟨G8, hG8⟩ : ∃ G8, G8 = upd G7 d (.dK kvs) := ⟨_, rfl⟩
    rw [← hG8] at s67 ⊢
    have hD28 : G8 D2 = some (.lst acc) := by rw [hG8, upd_ne nDd]; exact hD27
    have ps8 : PsT G8 acc ((ptsW ws).map isV) := ⟨ps7.len, fun i v p e1 e2 => by
      obtain ⟨t, ev, x⟩ := ps7.at_ i v p e1 e2
      have x7 := rst_le _ _ x
      refine ⟨t, ev, ?_⟩
      rw [hG8, upd_ne fun e => by rw [e, s7 _ _ upd_same] at x7; cases x7]
      exact x7⟩
    clear hG8
    have s8 := s1.trans s67
    refine seq_cut (fun σ' G => Same H G ∧ ∃ D vs, σ' = [some (.ref a), some (.ref d), some (.ref D), none, none, none, none, none, none, none, none] ∧ G D = some (.lst vs) ∧ PsT G vs ((ptsF c ws).map isV)) (fun N hN => ?_) ?_
    · have l8 : acc.length ≤ 20 := by
        have := ps8.len
        have l2 := ok.len
        rw [List.length_map] at this
        unfold ptsW at this
        rw [List.length_map] at this
        omega
      have ha8 := s67 _ _ ha1
      have am8 := am1.same s67
      refine ⟨_, rfl, a, dx, _, rfl, ha8, a, c.1, c.2, rfl, am8, rfl, _, rfl, ?_⟩
      rw [sgn_ne]
      by_cases c1 : c.1 = 0
      · refine iteN (by rw [decide_eq_true c1]; rfl) ?_
        refine nx_of (hN _ _ ⟨s8, D2, acc, rfl, hD28, ?_⟩)
        unfold ptsF
        rw [if_pos c1]
        exact ps8
      · refine iteY (by rw [decide_eq_false c1]; rfl) ?_
        refine ⟨_, rfl, a, dx, _, rfl, ha8, a, c.1, c.2, rfl, am8, ?_⟩
        refine abs_of (fun R r => ⟨_, rfl, r⟩) am8 ok.sm.1 ok.sm.2 ok.low fun G9 a9 s9 am9 => ?_
        obtain ⟨dx9, ha9⟩ := id am9
        refine ⟨a9, dx9, _, rfl, ha9, a9, _, _, rfl, am9, m1.abs, m2, _, rfl, small (show 2 ≤ 100000 by decide), fun p np => ?_⟩
        refine ⟨_, rfl, D2, acc, rfl, .inr (SqL.of ((same_upd np) _ _ (s9 _ _ hD28))), small (by rw [List.length_cons, List.append_nil]; omega), fun p2 np2 => ?_⟩
        refine nm_of (hN _ _ ⟨(s8.trans s9).trans ((same_upd np).trans (same_upd np2)), p2, _, rfl, upd_same, ?_⟩)
        unfold ptsF
        rw [if_neg c1]
        rw [List.append_nil]
        exact PsT.cons ((ps8.same s9).same ((same_upd np).trans (same_upd np2))) ((same_upd np2) _ _ upd_same)
    rintro σ2 G2 ⟨s2, D, vs, rfl, hD, ps⟩
    have lp : (ptsF c ws).length ≤ 21 := by
      have l2 := ok.len
      unfold ptsF ptsW
      split
      · rw [List.length_map]
        omega
      · rw [List.length_cons, List.length_map]
        omega
    obtain ⟨p0, r, ep⟩ : ∃ p0 r, ptsF c ws = p0 :: r := by
      cases e : ptsF c ws with
      | cons p0 r => exact ⟨p0, r, rfl⟩
      | nil =>
        exfalso
        unfold ptsF ptsW at e
        split at e
        · exact c0 (List.map_eq_nil_iff.mp e)
        · cases e
    have hs := rowS_len ok
    rw [ep] at ps lp hs
    obtain ⟨v0, vr, rfl⟩ : ∃ v0 vr, vs = v0 :: vr := by
      cases vs with
      | nil => have := ps.len; cases this
      | cons v0 vr => exact ⟨v0, vr, rfl⟩
    have lv := ps.len
    rw [List.map_cons, List.length_cons, List.length_cons, List.length_map] at lv
    rw [List.length_cons] at lp
    obtain ⟨t0, rfl, ht0⟩ := ps.at_ 0 v0 (isV p0) rfl rfl
    have psr : PsT G2 vr (r.map isV) := ⟨by rw [List.length_map]; omega, fun i v p e1 e2 => ps.at_ (i + 1) v p e1 e2⟩
    refine ⟨_, rfl, D, .ref t0, vr, rfl, SqL.of hD, by omega, fun D3 nD3 => ?_⟩
    refine ⟨_, _, rfl, t0, _, rfl, SqT.of ((same_upd nD3) _ _ ht0), rfl, _, _, rfl, _, _, rfl, rfl, ?_⟩
    refine ⟨_, _, rfl, ?_⟩
    refine nm_of ?_
    dsimp only
    refine ⟨rfl, ?_⟩
    obtain ⟨G3, e3, sG3, hD3⟩ := mkO nD3 (.lst vr)
    rw [e3]
    clear e3
    have s3 := s2.trans sG3
    have psr3 := psr.same sG3
    refine ⟨_, rfl, D3, rfl, ⟨_, SqL.of hD3⟩, fun D4 nD4 => ?_⟩
    refine lc_acc (walk_list (K := K) (a := D3) (xs := vr)) nD4 (fun i => ((r.take i).map restS).map V.str) rfl (fun i hi => ?_) (fun G s => SqL.of (s _ _ hD3)) ?_ ?_
    · rw [List.length_map, List.length_map, List.length_take]
      omega
    · rintro i x G G' hi s4 ⟨rfl, hx⟩ N S hN hS
      obtain ⟨t, p, rfl, hp, ht⟩ := psr3.get hx
      rw [List.getElem?_map] at hp
      obtain ⟨p1, hp1, rfl⟩ := Option.map_eq_some_iff.mp hp
      have eo : ((r.take (i + 1)).map restS).map V.str = ((r.take i).map restS).map V.str ++ [.str (restS p1)] := by
        rw [take_map restS hp1, List.map_append]
        rfl
      have hl := hs p1 (List.mem_cons_of_mem _ (List.mem_of_getElem? hp1))
      refine ⟨t, _, rfl, SqT.of (s4 _ _ ht), rfl, _, _, rfl, _, _, rfl, rfl, rfl, ?_⟩
      dsimp only [tYes]
      rw [if_pos rfl]
      refine ⟨_, rfl, _, _, rfl, rfl, _, rfl, ?_⟩
      have go := hN (.str (restS p1)) _ Same.rfl' eo
      unfold restS at go
      by_cases c : p1.1 < 0
      · rw [if_pos c] at go
        refine iteY (decide_eq_true c) ⟨_, rfl, ?_, _, rfl, .inl ⟨_, rfl, small (by omega), _, rfl, ?_, ?_⟩⟩
        · rw [Str.empty_append]
          exact small (by decide)
        · rw [Str.empty_append, strLen_append]
          exact small (by show 2 + _ ≤ _; omega)
        · rw [Str.empty_append]
          exact go
      · rw [if_neg c] at go
        refine iteN (decide_eq_false c) ⟨_, rfl, ?_, _, rfl, .inl ⟨_, rfl, small (by omega), _, rfl, ?_, ?_⟩⟩
        · rw [Str.empty_append]
          exact small (by decide)
        · rw [Str.empty_append, strLen_append]
          exact small (by show 2 + _ ≤ _; omega)
        · rw [Str.empty_append]
          exact go
    intro G4 s4 hD4
    rw [show vr.length = r.length by omega, List.take_length] at hD4
    refine nm_of ?_
    dsimp only
    refine ret_of ?_
    have q1 := q G4 (s3.trans s4)
    unfold formS at q1
    rw [if_neg c0, ep] at q1
    have hl0 := hs p0 (List.mem_cons_self ..)
    have lf : (firstS p0).length ≤ 5002 := by
      unfold firstS
      split
      · rw [strLen_append]
        show 1 + _ ≤ _
        omega
      · omega
    refine ⟨⟨_, rfl⟩, ?_⟩
    dsimp only [tLst, tCons]
    refine ex_cut (fun x G => x = .str (firstS p0) ∧ G = G4) (fun R hR => ?_) ?_
    · refine ⟨_, rfl, _, _, rfl, rfl, _, rfl, ?_⟩
      have go := hR _ _ ⟨rfl, rfl⟩
      unfold firstS at go
      by_cases c : p0.1 < 0
      · rw [if_pos c] at go
        refine iteY (decide_eq_true c) ⟨_, rfl, ?_, _, rfl, .inl ⟨_, rfl, small (by omega), _, rfl, ?_, ?_⟩⟩
        · rw [Str.empty_append]
          exact small (by decide)
        · rw [Str.empty_append, strLen_append]
          exact small (by show 1 + _ ≤ _; omega)
        · rw [Str.empty_append]
          exact go
      · rw [if_neg c] at go
        exact iteN (decide_eq_false c) ⟨_, rfl, go⟩
    rintro x G ⟨rfl, rfl⟩
    have hsum := sumsR r fun p hp => hs p (List.mem_cons_of_mem _ hp)
    refine ⟨_, rfl, D4, _, rfl, .inr (SqL.of hD4), small (by rw [List.length_cons, List.append_nil, List.length_map, List.length_map]; omega), fun p np => ⟨" ", p, firstS p0 :: r.map restS, rfl, rfl, .inl (SqL.of ?_), ?_, ?_⟩⟩
    · rw [upd_same, List.append_nil]
      rfl
    · rw [List.map_cons, List.sum_cons, List.length_cons, List.length_map]
      have : (" " : Str).length = 1 := rfl
      rw [this]
      omega
    · exact q _ (((s3.trans s4)).trans (same_upd np)) |> fun z => by
        unfold formS at z
        rw [if_neg c0, ep] at z
        exact z
theorem join_len (sep : Str) : ∀ l : List Str, (Txt.join sep l).length ≤ (l.map (·.length)).sum + l.length * sep.length := by
  intro l
  rw [TL.join_eq]
  induction l with
  | nil => exact Nat.zero_le _
  | cons x r ih =>
    cases r with
    | nil =>
      show x.length ≤ _
      rw [List.map_cons, List.sum_cons]
      omega
    | cons z r =>
      show (x ++ sep ++ Str.join sep (z :: r)).length ≤ _
      rw [strLen_append, strLen_append, List.map_cons, List.sum_cons, List.length_cons, Nat.add_mul]
      omega
theorem formS_len {c : Fr2} {ws : Wts} (ok : FOk c ws) : (formS c ws).length ≤ 200000 := by
  have hs := rowS_len ok
  unfold formS
  split
  · have := shown_len ok.sm.1.md ok.sm.2.md
    omega
  · have lp : (ptsF c ws).length ≤ 21 := by
      have l2 := ok.len
      unfold ptsF ptsW
      split
      · rw [List.length_map]
        omega
      · rw [List.length_cons, List.length_map]
        omega
    cases e : ptsF c ws with
    | nil => exact Nat.zero_le _
    | cons p r =>
      rw [e] at hs lp
      rw [List.length_cons] at lp
      have hp := hs p (List.mem_cons_self ..)
      have hsum := sumsR r fun p hp => hs p (List.mem_cons_of_mem _ hp)
      have lf : (firstS p).length ≤ 5002 := by
        unfold firstS
        split
        · rw [strLen_append]
          show 1 + _ ≤ _
          omega
        · omega
      show (Txt.join " " (firstS p :: r.map restS)).length ≤ _
      have hj := join_len " " (firstS p :: r.map restS)
      rw [List.map_cons, List.sum_cons, List.length_cons, List.length_map] at hj
      have : (" " : Str).length = 1 := rfl
      rw [this] at hj
      omega
def spFShow (C CF : Addr) (g : Fr2 → Wts → Str) : Sp := fun vs H Q _ => ∃ p c ws, vs = [.ref p] ∧ FmAt C CF H p c ws ∧ FOk c ws ∧ ∀ H', Same H H' → Q (.str (g c ws)) H'
def formR (c : Fr2) (ws : Wts) : Str := "Form(" ++ formS c ws ++ ")"
theorem ok_fstr (T : Ty K mg C CF) (G_form_text : Fnc P w K mg base CX0 6 "form_text" [] (spForm C)) (F : FD K "__str__" "Form.__str__" s_Formstr [] f fd) : FnG P w K mg base CX0 7 f fd ["self"] (spFShow C CF formS) := by
  refine ok0 F sc_Formstr (fun vs H Q E h => ?_) (fun cdv A outer s H vs Q E hr h => ?_)
  · obtain ⟨p, c, ws, rfl, _⟩ := h
    rfl
  · obtain ⟨p, c, ws, rfl, ⟨dx, ca, da, kvs, hp, hc, hd, wr⟩, ok, q⟩ := h
    refine ⟨_, (pss_one (ps_ret (pe_joined1 (pe_fmt (pe_fn G_form_text (hr.mono (by decide)) pass0 (pa_cons (pe_fld (pv 0) rfl) (pa_cons (pe_fld (pv 0) rfl) pa_nil))))))), ?_⟩
    refine ⟨_, rfl, p, CF, dx, _, _, rfl, hp, T.cf, T.nC, look_c _ _, _, rfl, p, CF, dx, _, _, rfl, hp, T.cf, T.nW, look_w _ _, ca, da, c, kvs, ws, rfl, hc, hd, wr, ok, fun H1 s1 => .inl ⟨_, rfl, ?_, q H1 s1⟩⟩
    exact Nat.le_trans (formS_len ok) (by rw [sizeLine_eq]; decide)
theorem ok_frepr (T : Ty K mg C CF) (G_form_text : Fnc P w K mg base CX0 6 "form_text" [] (spForm C)) (F : FD K "__repr__" "Form.__repr__" s_Formrepr [] f fd) : FnG P w K mg base CX0 7 f fd ["self"] (spFShow C CF formR) := by
  refine ok0 F sc_Formrepr (fun vs H Q E h => ?_) (fun cdv A outer s H vs Q E hr h => ?_)
  · obtain ⟨p, c, ws, rfl, _⟩ := h
    rfl
  · obtain ⟨p, c, ws, rfl, ⟨dx, ca, da, kvs, hp, hc, hd, wr⟩, ok, q⟩ := h
    refine ⟨_, (pss_one (ps_ret (pe_joined (.cons pe_str (.cons (pe_fmt (pe_fn G_form_text (hr.mono (by decide)) pass0 (pa_cons (pe_fld (pv 0) rfl) (pa_cons (pe_fld (pv 0) rfl) pa_nil)))) (.cons pe_str .nil)))))), ?_⟩
    have lf := formS_len ok
    have e1 : Str.empty ++ ("Form(" : Str) = "Form(" := Str.empty_append _
    refine ⟨_, rfl, by rw [e1]; exact small (by decide), _, rfl, p, CF, dx, _, _, rfl, hp, T.cf, T.nC, look_c _ _, _, rfl, p, CF, dx, _, _, rfl, hp, T.cf, T.nW, look_w _ _, ca, da, c, kvs, ws, rfl, hc, hd, wr, ok, fun H1 s1 => .inl ⟨_, rfl, Nat.le_trans lf (by rw [sizeLine_eq]; decide), _, rfl, ?_, ?_⟩⟩
    · rw [e1, strLen_append]
      rw [sizeLine_eq]
      show 5 + _ ≤ _
      omega
    · refine ⟨_, rfl, ?_, ?_⟩
      · rw [e1, strLen_append, strLen_append]
        rw [sizeLine_eq]
        show 5 + _ + 1 ≤ _
        omega
      · rw [e1]
        exact q H1 s1
end
end K12

set_option Elab.async false
set_option linter.all false
set_option maxRecDepth 100000
set_option maxHeartbeats 4000000
/-! F13i: Form(c, ws), whose dict is its own. -/
namespace K12
open PySem PySem.Spec PyProof.Rows L2 LL K11 W13
section
variable {P : Program} {w : World} {K : PySem.W.Frag} {mg : Str → Option Value} {base : Heap} {C CF : Addr} {f : Addr} {fd : FuncData}
/-- a Form stands at p, its weights at da -/
def FmW (C CF : Addr) (H : Hp) (p da : Addr) (c : Fr2) (ws : Wts) : Prop := ∃ dx ca kvs, H p = some (.ins CF dx (ffl ca da)) ∧ AmtAt C H ca c.1 c.2 ∧ H da = some (.dK kvs) ∧ WtsR C H kvs ws
theorem FmW.fm {H : Hp} {p da : Addr} {c : Fr2} {ws : Wts} (h : FmW C CF H p da c ws) : FmAt C CF H p c ws := let ⟨dx, ca, kvs, a, b, c, d⟩ := h; ⟨dx, ca, da, kvs, a, b, c, d⟩
/-- .. all but one dict stay -/
theorem FmW.but {H H' : Hp} {p da d : Addr} {c : Fr2} {ws : Wts} {kv : List (Key × V)} (h : FmW C CF H p da c ws) (hd : H d = some (.dK kv)) (nd : da ≠ d) (b : But d H H') : FmW C CF H' p da c ws := by
  obtain ⟨dx, ca, kvs, h1, ⟨dy, h2⟩, h3, h4⟩ := h
  refine ⟨dx, ca, kvs, b _ _ h1 (fun e => by rw [e, hd] at h1; cases h1), ⟨dy, b _ _ h2 (fun e => by rw [e, hd] at h2; cases h2)⟩, b _ _ h3 nd, h4.ins fun a dz fs e => b _ _ e fun z => by rw [z, hd] at e; cases e⟩
def spMkF2N (C CF : Addr) : Sp := fun vs H Q _ => ∃ (v u : V) (c : Fr2) (ws : Wts), vs = [v, u] ∧ AmtV C H v c.1 c.2 ∧ c.1.natAbs < 2 ^ 4000 ∧ ((u = .non ∧ ws = []) ∨ ∃ d kvs, u = .ref d ∧ H d = some (.dK kvs) ∧ WtsV C H kvs ws) ∧ Nd ws ∧ ws.length ≤ 60 ∧ (∀ x ∈ ws, symB x.1 = true ∧ x.1.length ≤ 1000 ∧ x.2.1.natAbs < 2 ^ 4000) ∧
  ∀ H' p da out, Same H H' → H p = none → H da = none → Cln ws out → FmW C CF H' p da c out → Q (.ref p) H'
theorem mkF2N (G : Mkr P w K mg base CX0 5 "Form" CF [] (spFI C CF)) : Mkf P w K mg base CX0 5 "Form" (spMkF2N C CF) := by
  refine ⟨CF, [], _, G, fun vs H Q E h a dx ha hd ne => ?_⟩
  obtain ⟨v, u, c, ws, rfl, hv, cb, hu, nd, l60, sy, q⟩ := h
  have s0 := new_ins (CF := CF) ha hd
  refine ⟨a, dx, v, u, c, ws, rfl, upd_same, hv.same s0, cb, hu.imp id fun ⟨d, kvs, e, x, y⟩ => ⟨d, kvs, e, s0 _ _ x, y.same s0⟩, nd, l60, sy, fun H' ca da kvs' out cl h1 h2 h3 h4 b n => ⟨rfl, q H' a da out (same_newF ha hd b) ha ?_ cl ⟨dx, ca, kvs', h1, h2, h3, h4⟩⟩⟩
  cases e : H da with
  | none => rfl
  | some o =>
    rw [s0 _ _ e] at n
    cases n
end
end K12

set_option Elab.async false
set_option linter.all false
set_option maxRecDepth 100000
set_option maxHeartbeats 2000000
/-! LLTryN: try .. with several clauses 'except x as n'; the suites know that the error's context is None. -/
namespace LN
open PySem PySem.Spec PyProof.Rows L2 LL
inductive RowN (X : Cx) (n : Str) : List ExceptHandler → List Clause → Prop
  | nil : RowN X n [] []
  | cons {x : Str} {c : Value} {ts : Addr → Value → Option Addr → TS} {t₀ : Stmt} {more : List Stmt} {q1 q2 : Pos} {hs : List ExceptHandler} {l : List Clause} (nm : Names X x c)
      (su : ∀ (e : Addr) (oe : Obj) (cls : Value) (d : Option Addr) (pn : List (Addr × Obj)), L2N.Zn cls d oe → (∃ fs, oe.data = .fields fs) → PSs (X.suite e ((e, oe) :: pn)) (t₀ :: more) (ts e cls d)) (r : RowN X n hs l) :
      RowN X n (.ExceptHandler (some (.Name x q1)) (some n) (t₀ :: more) q2 :: hs) ((c, ts) :: l)
section
variable {X : Cx} {n : Str} {i : Nat} {body : List Stmt} {h₀ : ExceptHandler} {hs : List ExceptHandler} {l : List Clause} {pos : Pos} {tb : WX → TS} {Wo : WX}
theorem ps_tryRowN (st : X.stack = X.env :: X.outer) (fr : X.env.frame = some X.env.locals) (nd : X.N.Nodup) (ni : X.N[i]? = some n) (nl : X.env.kindOf n = some .local) (tk : L2N.Takes X Wo)
    (bd : ∀ (W : WX) (pn : List (Addr × Obj)) (xe : Value → Shared → Prop), L2N.Takes (X.tr pn xe) W → PassesOwn (model X.prog X.w) X.A X.env xe → PSs (X.tr pn xe) body (tb W)) (hh : RowN X n (h₀ :: hs) l) :
    PS X (.Try body (h₀ :: hs) [] [] pos) (fun D τ G => tb (wRow X.K Wo D i l) D τ G) := by
  constructor
  intro pins s τ G D I h
  have ok := I.ok
  have frs' : X.A.frames = some (X.env :: X.outer) := ok.frames.trans (by rw [st])
  refine wpAny_Try_except ?_
  let after : Value → Shared → Prop := fun e u => wpAny (model X.prog X.w) X.A (noteFrame e X.env)
    (fun _ u2 => wpAny (model X.prog X.w) X.A (setFlight e none)
      (fun _ u3 => wpAny (model X.prog X.w) X.A (handleBy e X.env (h₀ :: hs)) (SP X pins D) X.xe u3) X.xe u2) X.xe u
  have catch_ : L2N.Takes (X.tr (X.pn ++ pins) after) (wRow X.K Wo D i l) := by
    intro u s' xx
    obtain ⟨e, B, sI, pn', τ', G', cls, d, eu, J', nb, up, sky, ne, os, ag, w⟩ := xx
    subst eu
    have J : Inv X pins τ' G' sI := J'.ofTry ok
    have sky2 : Sky B (X.env :: X.outer) e (L2N.Zn cls d) X.env.locals s'.heap := st ▸ sky
    show wpAny (model X.prog X.w) X.A (noteFrame (.ref e) X.env) _ _ _
    refine L2N.Sky.land L2N.Zn.steady frs' fr sky2 fun h3 fl up3 => ?_
    have J3 : Inv X pins τ' G' { s' with heap := h3 } := J.landed nb fl.1 (up.trans up3) os ag
    obtain ⟨oe, fs, at3, z3, d3⟩ := fl.there
    have out : e ∉ frs (X.env :: X.outer) := fun hm => by
      obtain ⟨_, o', q, hnf⟩ := fl.2.2.1.mem hm
      rw [at3] at q
      cases q
      exact hnf _ d3
    have nL : e ≠ X.env.locals := fun z => out (List.mem_filterMap.mpr ⟨X.env, List.mem_cons_self, by rw [fr, z]⟩)
    have nF : e ∉ X.fs := fun hm => by
      obtain ⟨v, hv, q⟩ := List.mem_filterMap.mp hm
      exact out (List.mem_filterMap.mpr ⟨v, List.mem_cons_of_mem _ hv, q⟩)
    have S3 := J3.suite at3 d3 ne nL nF
    have row : ∀ {hs' : List ExceptHandler} {l' : List Clause}, RowN X n hs' l' → wRow X.K Wo D i l' cls d τ' G' → wpAny (model X.prog X.w) X.A (handleBy (.ref e) X.env hs') (SP X pins D) X.xe { s' with heap := h3 } := by
      intro hs' l' hk
      induction hk with
      | nil =>
        intro w
        refine wpAny_handleBy_nil ?_
        obtain ⟨k1, k2, k3, o1, v1, T1, oT, t1, g1, g2, g3, g4, g5⟩ := id fl
        unfold PySem.passOn
        refine wpAny_bind (wpAny_field g1 g3 g4 ?_)
        rw [if_neg (by simp)]
        have go : wpAny (model X.prog X.w) X.A (setFlight (.ref e) X.env.frame) (fun _ u4 => wpAny (model X.prog X.w) X.A (throw (.ref e) : Sem Flow) (SP X pins D) X.xe u4) X.xe { s' with heap := h3 } := by
          rw [fr]
          refine HandSPX.setFlight_upZ fl fun h4 up4 upb => wpAny_throw (tk _ _ ?_)
          exact ⟨e, B, sI, pins, τ', G', cls, d, rfl, J, nb, (up.trans up3).trans upb, .inr (.inr (by rw [st]; exact up4)), ne, os, ag, w⟩
        first
          | exact wpAny_bind (wpAny_pure (wpAny_bind go))
          | exact wpAny_bind go
      | @cons x c ts t₀ more q1 q2 hs2 l2 nm su r ih =>
        intro w
        obtain ⟨b, e1, yes, no⟩ := w
        refine wpAny_handleBy_cons (codeAny_handlers_test ?_) (fun q => by cases q)
        have isC : PySem.W.Looks (model X.prog X.w) h3 (typeOf (.ref e)) cls := fun A Q E s k q => wpAny_typeOf_ref (k _ _ at3) (z3.1 ▸ q)
        have ask := PySem.W.exm_one (M := model X.prog X.w) J3.kIn isC e1
        have name_ : ∀ {Q : Value → Shared → Prop} {E : Value → Shared → Prop}, Q c { s' with heap := h3 } → wpAny (model X.prog X.w) (X.A.mark (some (.ref e))) (eval (.Name x q1) X.env) Q E { s' with heap := h3 } := by
          intro Q E q
          rcases nm with ⟨y1, y2, y3 | ⟨y3, y4, y5⟩⟩
          · exact ld_glob (X := X.suite e ((e, oe) :: (X.pn ++ pins))) S3 y1 y3 q y2
          · exact ld_blt (X := X.suite e ((e, oe) :: (X.pn ++ pins))) S3 y1 y3 y4 q y5 y2
        refine name_ (ask.here ?_)
        cases b with
        | false =>
          show wpAny _ X.A (handleBy (.ref e) X.env hs2) _ _ _
          exact ih (no rfl)
        | true =>
          refine codeAny_handlers_suite_as ?_
          refine HandSPX.lands_againZ fl fun h4 fl4 up4 => ?_
          have J4 : Inv X pins τ' G' { s' with heap := h4 } := J.landed nb fl4.1 ((up.trans up3).trans up4) os ag
          obtain ⟨oe4, fs4, at4, z4, d4⟩ := fl4.there
          have S4 := J4.suite at4 d4 ne nL nF
          refine store_ok (X := X.suite e ((e, oe4) :: (X.pn ++ pins))) (v := .ref e) S4 nd ni (.inl nl) rfl (fun s5 S5 => ?_) (.inr nl)
          refine wpAny_mono ((su e oe4 cls d (X.pn ++ pins) z4 ⟨_, d4⟩).run [] s5 _ G' _ S5 (yes rfl e ne)) (fun f s6 z => ?_) (fun _ _ z => z.elim)
          have fin : ∀ {τ6 : L2.St} {G6 : Hp} {Q : Shared → Prop}, Inv (X.suite e ((e, oe4) :: (X.pn ++ pins))) [] τ6 G6 s6 → (∀ s7, Inv X pins (τ6.set i none) G6 s7 → Q s7) →
              wpAny (model X.prog X.w) X.A (do bindName X.env n .none; unbindBehindTheSuite X.env n q2) (fun _ s7 => Q s7) X.xe s6 := fun S6 hq => gone_ok (S6.unsuite ok) nd ni nl hq
          match f, z with
          | .next, ⟨_, _, S6, q6⟩ => exact fin S6 fun s7 J7 => ⟨_, _, J7, q6⟩
          | .brk, ⟨_, _, S6, q6⟩ => exact fin S6 fun s7 J7 => ⟨_, _, J7, q6⟩
          | .cont, ⟨_, _, S6, q6⟩ => exact fin S6 fun s7 J7 => ⟨_, _, J7, q6⟩
          | .ret u, ⟨_, _, _, S6, r6, q6⟩ => exact fin S6 fun s7 J7 => ⟨_, _, _, J7, r6, q6⟩
    exact row hh w
  refine wpAny_mono ((bd (wRow X.K Wo D i l) (X.pn ++ pins) after catch_ PassesOwn.looking).run [] s τ G D (I.toTry _) h) (fun f s1 z => ?_) (fun _ _ z => z)
  match f, z with
  | .next, ⟨_, _, J', q⟩ => exact wpAny_execs_nil ⟨_, _, J'.ofTry ok, q⟩
  | .brk, ⟨_, _, J', q⟩ => exact ⟨_, _, J'.ofTry ok, q⟩
  | .cont, ⟨_, _, J', q⟩ => exact ⟨_, _, J'.ofTry ok, q⟩
  | .ret u, ⟨_, _, _, J', r, q⟩ => exact ⟨_, _, _, J'.ofTry ok, r, q⟩
end
end LN

set_option Elab.async false
set_option linter.all false
set_option maxRecDepth 100000
set_option maxHeartbeats 2000000
/-! LLHot1: walking lists, tuples and dicts' items, taking tuples apart, within an except suite. -/
namespace LL
open PySem PySem.Spec PySem.Calls PyProof.Rows L2 L2H HotX
section
variable {prog : Program} {w : World} {A : Around} {E : Value → Shared → Prop} {s : Shared} {x1 : Addr}
theorem hot_up {h h' : Heap} (hot : HotAt A x1 h) (k : ∀ b o, h.get? b = some o → h'.get? b = some o) : HotAt A x1 h' := let ⟨e, o, vs, g, d, c⟩ := hot; ⟨e, o, vs, k _ _ g, d, c⟩
theorem hot_lt {h : Heap} (hot : HotAt A x1 h) : x1 < h.objs.size := let ⟨_, _, _, g, _, _⟩ := hot; Heap.lt_size g
/-- a StopIteration is made and raised -/
theorem stop_hot {α : Type} {Q : α → Shared → Prop} (hot : HotAt A x1 s.heap) (hE : ∀ a h', (∀ b o, s.heap.get? b = some o → h'.get? b = some o) → ({ s with heap := h' } : Shared).TypeIs (.ref a) "StopIteration" → E (.ref a) { s with heap := h' }) :
    wpAny (model prog w) A (newExc (.type "StopIteration") [] >>= fun e => (raiseNew e : Sem α)) Q E s := by
  refine wpAny_bind ?_
  simp only [newExc, newTuple]
  refine wpAny_bind (wpAny_newObj_type (wpAny_bind (m := firstArgMember _ _) (wpAny_of_eq (a := Value.none) (by first | rfl | (simp only [firstArgMember]; rfl)) (wpAny_newObj_type ?_ (by size_fits)))) (by size_fits))
  refine raiseNew_hot (hot_up hot fun b o e => Heap.get?_push_of_some _ (Heap.get?_push_of_some _ e)) (Nat.ne_of_lt ?_) (Heap.get?_push_size _ rfl) rfl (by first | (simp; done) | (simp; omega) | (simp only [Array.size_append]; simp; omega)) ?_
  · rw [Heap.size_push]
    exact Nat.lt_succ_of_lt (hot_lt hot)
  refine hE _ _ (fun b o e => ?_) ⟨_, Heap.get?_update_self _ (Heap.get?_push_size _ rfl) rfl, rfl⟩
  rw [Heap.get?_update_other _ _ (Nat.ne_of_gt (Heap.lt_size (Heap.get?_push_of_some _ e)))]
  exact Heap.get?_push_of_some _ (Heap.get?_push_of_some _ e)
/-- the iterator's own record may change -/
theorem hot_set {it : Addr} {f : Obj → Obj} {h : Heap} (hot : HotAt A x1 h) (ne : x1 ≠ it) : HotAt A x1 (h.update it f) := let ⟨e, o, vs, g, d, c⟩ := hot; ⟨e, o, vs, (Heap.get?_update_other _ _ ne.symm).trans g, d, c⟩
theorem tup_end_hot {it t : Addr} {i : Nat} {items : Array Value} {Q : Option Value → Shared → Prop} (hot : HotAt A x1 s.heap) (ne : x1 ≠ it) (hit : s.heap.IsTupleIter it t i) (ht : s.heap.IsTuple t items) (hx : items[i]? = none)
    (hQ : ∀ h', Heap.ExtBut it s.heap h' → Q none { s with heap := h' }) : wpAny (model prog w) A (pyNext (.ref it)) Q E s := by
  obtain ⟨o, ho, hc, hd⟩ := id hit
  obtain ⟨ol, hol, _, nl, hdl⟩ := ht
  unfold pyNext
  refine wpAny_bind (wpAny_attempt (wpAny_callSpecial?_slot (name := Str.ofString "__next__") hit.typeIs F.slot_tuple_iterator_next (wpAny_call_entry F.slot_tuple_iterator_next hit.typeIs F.entry_tuple_iterator_next ?_ (F.args_tuple_iterator_next_1 _))))
  refine wpAny_bind (m := field (.ref it) 0) (wpAny_field ho hd (x := .ref t) rfl ?_)
  rw [if_neg (show ¬ ((Value.ref t == Value.none) = true) from Bool.false_ne_true)]
  refine wpAny_bind (m := field (.ref it) 1) (wpAny_field ho hd (x := .int i 0) rfl (wpAny_bind (m := seqItems? (.ref t)) (wpAny_seqItems hol hdl ?_)))
  simp only [Int.toNat_natCast, hx]
  refine wpAny_bind (wpAny_rule (wpAny_bind (wpAny_setField ho hd (by simp) ?_)))
  refine stop_hot (A := A.in1) (hot_set (show HotAt A.in1 x1 s.heap from hot) ne) fun a h' k ty => ?_
  exact wpAny_bind (wpAny_isInstance (T := "StopIteration") (b := true) ty isSubtype_stop (wpAny_pure (hQ _ fun b o hb e => k b o ((Heap.get?_update_other _ _ hb.symm).trans e))))
theorem lst_end_hot {it l : Addr} {i : Nat} {items : Array Value} {Q : Option Value → Shared → Prop} (hot : HotAt A x1 s.heap) (ne : x1 ≠ it) (hit : s.heap.IsListIter it l i) (hl : s.heap.IsList l items) (hx : items[i]? = none)
    (hQ : ∀ h', Heap.ExtBut it s.heap h' → Q none { s with heap := h' }) : wpAny (model prog w) A (pyNext (.ref it)) Q E s := by
  obtain ⟨o, ho, hc, hd⟩ := id hit
  obtain ⟨ol, hol, _, nl, hdl⟩ := hl
  unfold pyNext
  refine wpAny_bind (wpAny_attempt (wpAny_callSpecial?_slot (name := Str.ofString "__next__") hit.typeIs slot_listiter_next (wpAny_call_entry slot_listiter_next hit.typeIs entry_listiter_next ?_ (args_listiter_next _))))
  refine wpAny_bind (m := field (.ref it) 0) (wpAny_field ho hd (x := .ref l) rfl ?_)
  rw [if_neg (show ¬ ((Value.ref l == Value.none) = true) from Bool.false_ne_true)]
  refine wpAny_bind (m := field (.ref it) 1) (wpAny_field ho hd (x := .int i 0) rfl (wpAny_bind (m := seqItems? (.ref l)) (wpAny_seqItems hol hdl ?_)))
  simp only [Int.toNat_natCast, hx]
  refine wpAny_bind (wpAny_rule (wpAny_bind (wpAny_setField ho hd (by simp) ?_)))
  refine stop_hot (A := A.in1) (hot_set (show HotAt A.in1 x1 s.heap from hot) ne) fun a h' k ty => ?_
  exact wpAny_bind (wpAny_isInstance (T := "StopIteration") (b := true) ty isSubtype_stop (wpAny_pure (hQ _ fun b o hb e => k b o ((Heap.get?_update_other _ _ hb.symm).trans e))))
theorem itm_end_hot {K : Type} [DecidableEq K] {knd : KeyKind prog w K} {it d : Addr} {i ep : Nat} {kvs : List (K × Value)} {ok ov : Value} {Q : Option Value → Shared → Prop} (hot : HotAt A x1 s.heap) (ne : x1 ≠ it) (hit : IsItemIter s.heap it d i kvs.length ep ok ov)
    (hm : s.heap.DictAt knd d kvs ep) (hx : kvs[i]? = none) (hQ : ∀ h', Heap.ExtBut it s.heap h' → Q none { s with heap := h' }) : wpAny (model prog w) A (pyNext (.ref it)) Q E s := by
  obtain ⟨od, es, hod, hcd, hdd, hk, hpr, hn⟩ := id hm
  have hT : s.TypeIs (.ref it) "dict_itemiterator" := ⟨_, hit, rfl⟩
  have own : Builtin.Dict_items.ownsTuple "dict_itemiterator" = true := by decide
  have sz : es.size = kvs.length := by rw [← hpr.length]; simp
  have ge : es.size ≤ i := by rw [sz]; simpa using hx
  unfold pyNext
  refine wpAny_bind (wpAny_attempt (wpAny_callSpecial?_slot (name := Str.ofString "__next__") hT F.slot_dict_itemiterator_next (wpAny_call_entry F.slot_dict_itemiterator_next hT F.entry_dict_itemiterator_next ?_ (F.args_dict_itemiterator_next_1 _))))
  refine wpAny_bind (wpAny_pure (wpAny_bind (wpAny_bind ?_)))
  first | refine wpAny_bind (wpAny_typeNameOfWhole_itemiter hT (wpAny_pure ?_)) | refine wpAny_bind (wpAny_typeNameOf_itemiter hT (wpAny_pure ?_))
  refine wpAny_bind (wpAny_fieldsOf hit rfl ?_)
  simp only [own, if_true]
  show wpAny _ _ (if (Value.ref d == Value.none) = true then _ else _) _ _ s
  rw [if_neg (show ¬ ((Value.ref d == Value.none) = true) from Bool.false_ne_true)]
  refine wpAny_bind (wpAny_pure (wpAny_bind (wpAny_dictEntries hod hdd ?_)))
  rw [if_neg (by rw [sz]; simp)]
  refine wpAny_bind (wpAny_pure (wpAny_bind (wpAny_dictEpoch hod hdd ?_)))
  rw [if_neg (by simp)]
  refine wpAny_pure ?_
  simp only [show ¬ ((i : Int) < 0) from by omega, if_false, Int.toNat_natCast, Array.getElem?_eq_none ge]
  refine wpAny_bind ?_
  first | refine wpAny_bind (wpAny_typeNameOfWhole_itemiter hT (wpAny_pure ?_)) | refine wpAny_bind (wpAny_typeNameOf_itemiter hT (wpAny_pure ?_))
  refine wpAny_bind (m := setField (.ref it) 2 .none) (wpAny_setField hit rfl (by simp) ?_)
  refine stop_hot (A := A.in1) (hot_set (show HotAt A.in1 x1 s.heap from hot) ne) fun a h' k ty => ?_
  exact wpAny_bind (wpAny_isInstance (T := "StopIteration") (b := true) ty isSubtype_stop (wpAny_pure (hQ _ fun b o hb e => k b o ((Heap.get?_update_other _ _ hb.symm).trans e))))
end
/-! ### the turns -/
/-- the handled exception, none of the iterator's objects -/
theorem hot_ne {X : Cx} {pins : List (Addr × Obj)} {σ : List (Option V)} {H : Hp} {s : Shared} {it : Addr} (c : HotC X) (I : Inv X pins σ H s) (f : ∀ p ∈ X.pn ++ pins, p.1 ≠ it) : ∃ x1, HotAt X.A x1 s.heap ∧ x1 ≠ it := by
  obtain ⟨p, ⟨hh, v1, e1, c1⟩, hp⟩ := c
  exact ⟨p.1, ⟨hh, p.2, v1, (I.pin p (List.mem_append_left _ hp)).1, e1, c1⟩, f p (List.mem_append_left _ hp)⟩
section
variable {P : Program} {w : World} {K : PySem.W.Frag} {tg : Expr}
theorem turn_listH (a it : Addr) : TurnH P w K tg (Itl K a) [it] it (fun i h => h.IsListIter it a i) where
  mem := List.mem_singleton.mpr rfl
  obj := fun i h st b hb => by
    rw [List.mem_singleton.mp hb]
    obtain ⟨o, e, c, d⟩ := st
    exact ⟨o, e, fun v z => by rw [d] at z; cases z⟩
  keep := fun i h h' st k => st.at fun o e => k it (List.mem_singleton.mpr rfl) o e
  item := by
    rintro X rfl rfl rfl hc i pins s σ H E I hf st ⟨xs, x, hq, hx⟩
    obtain ⟨its, rv, p, hz⟩ := I.list hq
    obtain ⟨u, hu, ru⟩ := rv.get hx
    obtain ⟨f0, f1, f2, f3, f4, f5⟩ := hf it (List.mem_singleton.mpr rfl)
    refine wpAny_pyNext_list_item st p.isList (x := u) (by simpa using hu) fun h' st' sb => ?_
    have J : Inv X pins σ H { s with heap := h' } := I.turned (t' := s.toks) (fun b o hb e => (sb.2 b hb).trans e) f0 f1 f3 f4 f5
    obtain ⟨o, e, c, d⟩ := id st'
    exact ⟨u, rfl, go_of (s := { s with heap := h' }) e c d (by decide) ⟨x, H, J, ru, ⟨rfl, fun ys hy => by rw [I.list_inj hy hq]; exact hx⟩, st', fun b hb => (hf b hb).1⟩⟩
  done := by
    rintro X rfl rfl rfl hc i pins s σ H E I hf st ⟨xs, hq, hx⟩
    obtain ⟨its, rv, p, hz⟩ := I.list hq
    obtain ⟨f0, f1, f2, f3, f4, f5⟩ := hf it (List.mem_singleton.mpr rfl)
    obtain ⟨x1, hot, ne⟩ := hot_ne hc I f5
    have hl := rv.length
    exact lst_end_hot hot ne st p.isList (by simp; omega) fun h' eb => ⟨rfl, I.turned (t' := s.toks) (fun b o hb e => eb b o hb e) f0 f1 f3 f4 f5⟩
  self := fun _ _ _ _ _ st h => wpAny_pyIter_listiter st h
theorem turn_tupleH (a it : Addr) : TurnH P w K tg (Itt K a) [it] it (fun i h => h.IsTupleIter it a i) where
  mem := List.mem_singleton.mpr rfl
  obj := fun i h st b hb => by
    rw [List.mem_singleton.mp hb]
    obtain ⟨o, e, c, d⟩ := st
    exact ⟨o, e, fun v z => by rw [d] at z; cases z⟩
  keep := fun i h h' st k => st.at fun o e => k it (List.mem_singleton.mpr rfl) o e
  item := by
    rintro X rfl rfl rfl hc i pins s σ H E I hf st ⟨xs, x, hq, hx⟩
    obtain ⟨its, rv, p, hz⟩ := I.tuple hq
    obtain ⟨u, hu, ru⟩ := rv.get hx
    obtain ⟨f0, f1, f2, f3, f4, f5⟩ := hf it (List.mem_singleton.mpr rfl)
    refine wpAny_pyNext_tuple_item st (show s.heap.IsTuple a its.toArray from p) (x := u) (by simpa using hu) fun h' st' sb => ?_
    have J : Inv X pins σ H { s with heap := h' } := I.turned (t' := s.toks) (fun b o hb e => (sb.2 b hb).trans e) f0 f1 f3 f4 f5
    obtain ⟨o, e, c, d⟩ := id st'
    exact ⟨u, rfl, go_of (s := { s with heap := h' }) e c d (by decide) ⟨x, H, J, ru, ⟨rfl, fun ys hy => by rw [I.tuple_inj hy hq]; exact hx⟩, st', fun b hb => (hf b hb).1⟩⟩
  done := by
    rintro X rfl rfl rfl hc i pins s σ H E I hf st ⟨xs, hq, hx⟩
    obtain ⟨its, rv, p, hz⟩ := I.tuple hq
    obtain ⟨f0, f1, f2, f3, f4, f5⟩ := hf it (List.mem_singleton.mpr rfl)
    obtain ⟨x1, hot, ne⟩ := hot_ne hc I f5
    have hl := rv.length
    exact tup_end_hot hot ne st (show s.heap.IsTuple a its.toArray from p) (by simp; omega) fun h' eb => ⟨rfl, I.turned (t' := s.toks) (fun b o hb e => eb b o hb e) f0 f1 f3 f4 f5⟩
  self := fun _ _ _ _ _ st h => wpAny_pyIter_tupleiter st h
theorem turn_itemsH {d : Addr} {o : Obj} {es : Array DictEntry} {ep : Nat} {kvs : List (Key × V)} {elts : List Expr} {kk : Nat} {tpos : Pos} (it : Addr) (hod : o.data = .dict es ep) :
    TurnH P w K (.Tuple elts kk tpos) (Iti d o kvs) [it] it (fun i h => ∃ ok ov, IsItemIter h it d i kvs.length ep ok ov) where
  mem := List.mem_singleton.mpr rfl
  obj := fun i h st b hb => by
    rw [List.mem_singleton.mp hb]
    obtain ⟨ok, ov, e⟩ := st
    exact ⟨_, e, fun v z => nomatch z⟩
  keep := fun i h h' st k => let ⟨ok, ov, e⟩ := st; ⟨ok, ov, k it (List.mem_singleton.mpr rfl) _ e⟩
  item := by
    rintro X rfl rfl rfl hc i pins s σ H E I hf st ⟨hd, hi⟩
    obtain ⟨hs, hgd, hx, es', ep', vs, hdt, hsz, kv, hm⟩ := I.frzK hd
    obtain ⟨rfl, rfl⟩ := dict_ep hod hdt
    obtain ⟨⟨k, v⟩, hkv⟩ : ∃ p, kvs[i]? = some p := ⟨kvs[i], List.getElem?_eq_getElem hi⟩
    obtain ⟨u, hu, ru⟩ := kv_get kv hkv
    have hl : kvs.length = vs.length := Paired.length kv
    obtain ⟨ok, ov, he⟩ := st
    rw [hl] at he
    have lt : it < s.heap.objs.size := Heap.lt_size he
    refine wpAny_pyNext_items_item he hm hu fun key h' hkey ho hT hz hk => ⟨_, rfl, wpAny_letOwnedTupleGo_items (s := { s with heap := h' }) ho fun h'' he' sb => ?_⟩
    have hT2 : h''.get? s.heap.objs.size = some { cls := .type "tuple", data := .seq #[key, u] } := (sb.2 _ (Nat.ne_of_gt lt)).trans hT
    have new : ObjOk X.prog X.w (upd H s.heap.objs.size (.tup [kV k, v])) h'' s.heap.objs.size (.tup [kV k, v]) :=
      ⟨by show 2 ≤ sizeLine; decide, [key, u], .cons (relV_key (show keyIs k key = true from hkey)) (.cons ru .nil), ⟨_, hT2, rfl, _, rfl⟩⟩
    have J : Inv X pins σ (upd H s.heap.objs.size (.tup [kV k, v])) { s with heap := h'' } :=
      I.turnedNew (t' := s.toks) (ch := [it]) (fun b ob hb e => (sb.2 b (by simpa using hb)).trans (hk b ob (by simpa using hb) e)) hf (Nat.le_refl _) new
    refine ⟨.ref s.heap.objs.size, _, J, rfl, ⟨_, k, v, hkv, rfl, I.hok.fresh (Nat.le_refl _), rfl⟩, ⟨key, u, by rw [hl]; exact he'⟩, fun b hb => ?_⟩
    rw [List.mem_singleton.mp hb, upd_ne (Nat.ne_of_lt lt)]
    exact (hf it (List.mem_singleton.mpr rfl)).1
  done := by
    rintro X rfl rfl rfl hc i pins s σ H E I hf st ⟨hd, hi⟩
    obtain ⟨f0, f1, f2, f3, f4, f5⟩ := hf it (List.mem_singleton.mpr rfl)
    obtain ⟨x1, hot, ne⟩ := hot_ne hc I f5
    obtain ⟨hs, hgd, hx, es', ep', vs, hdt, hsz, kv, hm⟩ := I.frzK hd
    obtain ⟨rfl, rfl⟩ := dict_ep hod hdt
    have hl : kvs.length = vs.length := Paired.length kv
    obtain ⟨ok, ov, he⟩ := st
    rw [hl] at he
    exact itm_end_hot hot ne he hm (List.getElem?_eq_none (by omega)) fun h' eb => ⟨rfl, I.turned (t' := s.toks) (fun b ob hb e => eb b ob hb e) f0 f1 f3 f4 f5⟩
  self := fun A i s Q E st h => let ⟨_, _, e⟩ := st; PySem.W.kcp_self e h
end
section
variable {X : Cx} {tg : Expr}
theorem pi_listH {l : Expr} {tl : TE} (hl : PE X l tl) : PIH X tg l (iList X.K tl) := by
  refine ⟨fun pins s σ H R I h => thn (hl.run pins s σ H _ I h) fun v s1 ⟨x, H1, I1, r1, a, e, ⟨xs, hq⟩, q⟩ => ?_⟩
  subst e
  cases r1
  obtain ⟨its, rv, p, hz⟩ := I1.list hq
  refine wpAny_pyIter_list p.isList ⟨s1.heap.objs.size, [s1.heap.objs.size], _, _, H1, rfl, I1.kept (t' := s1.toks) fun b o e => Heap.get?_push_of_some _ e, turn_listH a _, ⟨_, Heap.get?_push_size _ rfl, rfl, rfl⟩, fun b hb => ?_, q⟩
  rw [List.mem_singleton.mp hb]
  exact I1.fpOk (Nat.le_refl _) (I1.hok.fresh (Nat.le_refl _))
theorem pi_tupH {l : Expr} {tl : TE} (hl : PE X l tl) : PIH X tg l (iTup X.K tl) := by
  refine ⟨fun pins s σ H R I h => thn (hl.run pins s σ H _ I h) fun v s1 ⟨x, H1, I1, r1, a, e, ⟨xs, hq⟩, q⟩ => ?_⟩
  subst e
  cases r1
  obtain ⟨its, rv, p, hz⟩ := I1.tuple hq
  refine wpAny_pyIter_tuple (show s1.heap.IsTuple a its.toArray from p) ⟨s1.heap.objs.size, [s1.heap.objs.size], _, _, H1, rfl, I1.kept (t' := s1.toks) fun b o e => Heap.get?_push_of_some _ e, turn_tupleH a _, ⟨_, Heap.get?_push_size _ rfl, rfl, rfl⟩, fun b hb => ?_, q⟩
  rw [List.mem_singleton.mp hb]
  exact I1.fpOk (Nat.le_refl _) (I1.hok.fresh (Nat.le_refl _))
/-- an iterator with one record, just made -/
theorem pi_oneH {pins : List (Addr × Obj)} {σ : List (Option V)} {H : Hp} {s : Shared} {R : It → Hp → Prop} {J : It} {tn : Nat → Heap → Prop} {tk : Nat} {o : Obj} (I : Inv X pins σ H s) (T : TurnH X.prog X.w X.K tg J [s.heap.objs.size] s.heap.objs.size tn) (st : tn 0 (s.heap.push o)) (q : R J H) :
    PIEH X pins σ tg R (.ref s.heap.objs.size) { s with heap := s.heap.push o, toks := tk } :=
  ⟨s.heap.objs.size, [s.heap.objs.size], tn, J, H, rfl, I.kept (t' := tk) fun b o e => Heap.get?_push_of_some _ e, T, st, fun b hb => by rw [List.mem_singleton.mp hb]; exact I.fpOk (Nat.le_refl _) (I.hok.fresh (Nat.le_refl _)), q⟩
theorem pi_itemsH {e : Expr} {td : TE} {apos cpos : Pos} {elts : List Expr} {kk : Nat} {tpos : Pos} (he : PE X e td) (hbase : attributeBase e "items" X.env (eval e X.env) = eval e X.env := by rfl) (hline : (apos.endLine == cpos.line) = true := by rfl) :
    PIH X (.Tuple elts kk tpos) (.Call (.Attribute e "items" apos) [] [] cpos) (iItems td) := by
  refine ⟨fun pins s σ H R I h => ?_⟩
  refine wpAny_Call_method (T := "dict") (id := "dict.items") hbase rfl hline F.plainAttrs_dict F.slot_dict_items F.type_dict_items (thn (he.run pins s σ H _ I h) fun u s1 ⟨x, H1, I1, rx, d, o, kvs, ex, hd, q⟩ => ?_)
  subst ex
  obtain rfl : u = Value.ref d := rx
  obtain ⟨hs, hgd, hx, es, ep, vs, hdt, hsz, kv, hm⟩ := I1.frzK hd
  have hl : kvs.length = vs.length := Paired.length kv
  refine ⟨hm.dictOf.typeIs, hm.dictOf.mapOf.noDict, ?_⟩
  have I2 : Inv X pins σ H1 { s1 with heap := s1.heap.push { cls := .type "dict_items", data := .fields #[.ref d] } } := I1.kept (t' := s1.toks) fun b ob q => Heap.get?_push_of_some _ q
  have fin : wpAny (model X.prog X.w) X.A (pyIter (.ref s1.heap.objs.size)) (PIEH X pins σ (.Tuple elts kk tpos) R) X.xe { s1 with heap := s1.heap.push { cls := .type "dict_items", data := .fields #[.ref d] } } := by
    refine wpAny_pyIter_items (d := d) (knd := mixKind X.prog X.w) ⟨_, Heap.get?_push_size _ rfl, rfl, rfl⟩ (hm.push _) (pi_oneH (tk := s1.toks) I2 (turn_itemsH _ hdt) ⟨.none, .none, ?_⟩ q)
    rw [hl]
    exact Heap.get?_push_size _ rfl
  show wpAny _ _ (callWith cpos (.builtin "dict.items") [.ref d] [] []) _ X.xe s1
  exact method_meetsIn F.slot_dict_items F.entry_dict_items rfl (PySem.evalArgs_none ⟨rfl, hm.dictOf.typeIs, F.args_dict_items_1 _, _, meets_dict_items (mixKind X.prog X.w) d hs, ⟨vs, hm.dictOf⟩, fin⟩)
end
end LL

set_option Elab.async false
set_option linter.all false
set_option maxRecDepth 100000
set_option maxHeartbeats 2000000
/-! LLHot2: tuples taken apart, a starred target, within an except suite. -/
namespace LL
open PySem PySem.Spec PySem.Calls PyProof.Rows L2 L2H HotX
section
variable {prog : Program} {w : World} {A : Around} {E : Value → Shared → Prop} {s : Shared} {x1 : Addr}
/-- a list walked while x1 is handled -/
theorem walks_listH {prog : Program} {w : World} {A : Around} {o1 : Obj} {vs1 : Array Value} {I ax : Addr} (hh : A.handled = some (.ref x1)) (d1 : o1.data = .fields vs1) (c1 : vs1[2]? = some .none) (nx : x1 ≠ I) (hne : ax ≠ I) (items : Array Value) :
    Walks prog w A I [I, ax, x1] [I] items.size (fun i v => items[i]? = some v) (fun i h => h.IsListIter I ax i ∧ h.IsList ax items ∧ h.get? x1 = some o1) where
  sub := fun b hb => by rw [List.mem_singleton.mp hb]; exact List.mem_cons_self ..
  frame := fun _ _ _ st hk => ⟨st.1.at fun o e => hk I (by simp) o e, st.2.1.at fun o e => hk ax (by simp) o e, hk x1 (by simp) _ st.2.2⟩
  item := fun i s Q E hi st hQ => by
    refine wpAny_pyNext_list_item st.1 st.2.1 (x := items[i]) (by simp [hi]) fun h' it' sb => ?_
    exact hQ _ h' s.toks (by simp [hi]) ⟨it', st.2.1.extBut sb.extBut hne, sb.extBut _ _ nx st.2.2⟩ fun b o hb e => sb.extBut b o (fun h => hb (by simp [h])) e
  done := fun s Q E st hQ => lst_end_hot ⟨hh, o1, vs1, st.2.2, d1, c1⟩ nx st.1 st.2.1 (by simp) fun h' he' => hQ h' s.toks fun b o hb e => he' b o (fun h => hb (by simp [h])) e
  self := fun _ _ _ _ st hQ => wpAny_pyIter_listiter st.1 hQ
/-- the rest of a list's iterator; no object goes -/
theorem collect_liH {Z l : Addr} {xs : Array Value} {k : Nat} {Q : List Value → Shared → Prop} (hot : HotAt A x1 s.heap) (nx : x1 ≠ Z) (ne : l ≠ Z) (it : s.heap.IsListIter Z l k) (isl : s.heap.IsList l xs) (hk : k ≤ xs.size) (hz : xs.size ≤ sizeLine)
    (q : ∀ g tk, s.heap.objs.size ≤ g.objs.size → (∀ b o, b ≠ Z → s.heap.get? b = some o → g.get? b = some o) → Q (xs.toList.drop k) { s with heap := g, toks := tk }) : wpAny (model prog w) A (collect (.ref Z)) Q E s := by
  obtain ⟨hh, o1, vs1, g1, d1, c1⟩ := hot
  have W := (PySem.W.kun_shift (walks_listH (prog := prog) (w := w) (A := A.in1) hh d1 c1 nx ne xs) hk).toS
  have xl : x1 < s.heap.objs.size := Heap.lt_size g1
  have zl : Z < s.heap.objs.size ∧ l < s.heap.objs.size := by
    obtain ⟨_, e1, _⟩ := it
    obtain ⟨_, e2, _⟩ := isl
    exact ⟨Heap.lt_size e1, Heap.lt_size e2⟩
  have nz : s.heap.objs.size ∉ [Z, l, x1] := fun m => by
    rcases List.mem_cons.mp m with e | m
    · exact Nat.lt_irrefl _ (e ▸ zl.1)
    · rcases List.mem_cons.mp m with e | m
      · exact Nat.lt_irrefl _ (e ▸ zl.2)
      · exact Nat.lt_irrefl _ (List.mem_singleton.mp m ▸ xl)
  have st0 := W.frame 0 s (s.heap.push { cls := .type "list", data := .seq ([] : List Value).toArray }) s.toks ⟨it, isl, g1⟩ (Nat.le_refl _) (fun b _ o e => Heap.get?_push_of_some _ e)
  have new0 : (s.heap.push { cls := .type "list", data := .seq ([] : List Value).toArray }).get? s.heap.objs.size = some { cls := .type "list", data := .seq ([] : List Value).toArray } := Heap.get?_push_size _ rfl
  have self0 : Builtin.List.listSameRef (.ref s.heap.objs.size) (.ref Z) = false := by
    have : s.heap.objs.size ≠ Z := (Nat.ne_of_lt zl.1).symm
    simp [Builtin.List.listSameRef, this]
  unfold collect; refine wpAny_bind (wpAny_runValue (codeAny_builtin F.entry_proto_collect ?_)); rw [Around.under_plainId F.plain_proto_collect _]
  show wpAny (model prog w) A.in1 (newList [] >>= fun d => again (.builtin "list.__iadd__" ⟨[d, .ref Z], []⟩)) _ _ s; refine wpAny_bind (wpAny_newObj_type ?_)
  refine wpAny_pure ⟨plainId_quiet F.plain_list_iadd _, codeAny_builtin F.entry_list_iadd ?_⟩; rw [Around.under_plainId F.plain_list_iadd _]
  show wpAny (model prog w) A.in1 (Builtin.List.listExtendWith (.ref s.heap.objs.size) (.ref Z) (.ref s.heap.objs.size)) _ _ _; unfold Builtin.List.listExtendWith
  refine wpAny_bind (wpAny_typeOf (T := "list_iterator") (s := { s with heap := s.heap.push { cls := .type "list", data := .seq ([] : List Value).toArray } }) st0.1.typeIs ?_); rw [if_neg (by rw [self0]; decide)]
  refine wpAny_bind (W.self 0 _ _ _ st0 ?_); refine wpAny_bind (wpAny_holding ?_); unfold Builtin.List.listLengthHint
  refine wpAny_bind (wpAny_specialOf (T := "list_iterator") st0.1.typeIs F.nolen_li ?_); show wpAny (model prog w) A.in1 (specialOf (Value.ref Z) (Str.ofString "__length_hint__") >>= _) _ _ _
  refine wpAny_bind (wpAny_specialOf (T := "list_iterator") st0.1.typeIs F.hint_li ?_)
  generalize hid : ("list_iterator.__length_hint__" : String) = id0; fail_if_success (clear hid id0)
  wp_delta; rw [show splitId id0 = some ("list_iterator", "__length_hint__") from by subst hid; decide +kernel]; subst hid
  refine wpAny_bind (wpAny_isInstance (T := "list_iterator") (b := true) st0.1.typeIs (by rw [isSubtype_type]; kernel_rfl) ?_); refine wpAny_pure ?_; rw [if_neg (by decide)]
  refine wpAny_pure ⟨plainId_quiet F.plain_extend_loop _, codeAny_extend_loopS W (by omega) _ nz _ _ 0 _ _ _ rfl (Nat.zero_le _) st0 new0 (ItemsOf.nil _) fun u acc c mv hS ha => ?_⟩
  show wpAny (model prog w) A (load s.heap.objs.size >>= _) _ _ u; refine wpAny_bind (wpAny_load hS (wpAny_pure ?_))
  have mv' := Moved.drop_new (o := { cls := .type "list", data := .seq ([] : List Value).toArray }) (tk := s.toks) mv (Nat.le_refl _)
  obtain ⟨g, g', d', t', o'⟩ := u
  obtain ⟨m1, m2, m3, m4, _⟩ := mv'
  have m2 : g' = s.gens := m2; have m3 : d' = s.drawn := m3; have m4 : o' = s.os := m4
  subst m2 m3 m4; rw [PySem.W.kun_acc hk ha]
  exact q g t' (Nat.le_of_lt (Heap.lt_size hS)) fun b o hb e => m1 b o (by simpa using hb) e
theorem star_listH {l : Addr} {v : Value} {r : List Value} {Q : List Value → Shared → Prop} (isl : s.heap.IsList l (v :: r).toArray) (hot : HotAt A x1 s.heap) (hz : (v :: r).length ≤ 16384)
    (q : ∀ (D : Addr) (g : Heap) (tk : Nat), s.heap.objs.size ≤ D → (∀ b o, s.heap.get? b = some o → g.get? b = some o) → g.get? D = some { cls := .type "list", dict := none, data := .seq r.toArray 0, slots := #[] } → Q [v, .ref D] { s with heap := g, toks := tk }) :
    wpAny (model prog w) A (unpackItems (.ref l) 2 (some 1)) Q E s := by
  have nl : l ≠ s.heap.objs.size := by
    obtain ⟨_, e, _⟩ := isl
    exact Nat.ne_of_lt (Heap.lt_size e)
  unfold unpackItems; refine wpAny_bind ?_; unfold notIterableAtAll; refine wpAny_bind (wpAny_specialOf isl.typeIs slot_list_iter.lookup (wpAny_pure ?_)); simp only [Bool.false_eq_true, if_false]
  refine wpAny_bind (wpAny_holding (wpAny_pyIter_list isl ?_)); refine wpAny_bind (wpAny_holding (PySem.W.kun_draw nl 1 0 _ _ ⟨_, Heap.get?_push_size _ rfl, rfl, rfl⟩ (isl.push _) (by simp) fun g1 it1 k1 => ?_))
  have isl1 : g1.IsList l (v :: r).toArray := (isl.push _).extBut k1.extBut nl
  rw [Nat.zero_add] at it1
  have big : s.heap.objs.size < g1.objs.size := by
    obtain ⟨_, e, _⟩ := id it1
    exact Heap.lt_size e
  rw [show (List.drop 0 (v :: r).toArray.toList).take 1 = [v] from rfl, if_neg (show ¬ ([v].length < 1) by simp)]
  refine wpAny_bind (wpAny_holding (collect_liH (s := { s with heap := g1 }) (hot_up hot fun b o e => k1.extBut _ o (Nat.ne_of_lt (Heap.lt_size e)) (Heap.get?_push_of_some _ e)) (Nat.ne_of_lt (hot_lt hot)) nl it1 isl1 (by simp) (by rw [List.size_toArray, sizeLine_eq]; omega) fun g2 tk big2 k2 => ?_))
  rw [show (v :: r).toArray.toList.drop 1 = r from rfl]
  show wpAny _ _ (if r.length < 2 - 1 - 1 then _ else _) _ _ _; rw [if_neg (by omega)]
  show wpAny _ _ (newList (r.take (r.length - (2 - 1 - 1))) >>= fun d => pure ([v] ++ [d] ++ r.drop (r.length - (2 - 1 - 1)))) _ _ _
  rw [show r.take (r.length - (2 - 1 - 1)) = r from List.take_of_length_le (by omega), show r.drop (r.length - (2 - 1 - 1)) = [] from List.drop_eq_nil_of_le (by omega)]
  have keep : ∀ b o, s.heap.get? b = some o → g2.get? b = some o := fun b o e => by
    have nb : b ≠ s.heap.objs.size := Nat.ne_of_lt (Heap.lt_size e)
    exact k2 _ o nb (k1.extBut _ o nb (Heap.get?_push_of_some _ e))
  exact wpAny_bind (wpAny_newList (wpAny_pure (q _ _ tk (Nat.le_trans (Nat.le_of_lt big) big2) (fun b o e => Heap.get?_push_of_some _ (keep b o e)) (Heap.get?_push_size _ rfl))))
/-- a tuple's items -/
theorem unpack_tupH {t : Addr} {items : Array Value} {Q : List Value → Shared → Prop} (hot : HotAt A x1 s.heap) (ht : IsTup s.heap t items) (hQ : ∀ h', Heap.ExtBut s.heap.objs.size s.heap h' → Q items.toList { s with heap := h' }) :
    wpAny (model prog w) A (unpackItems (.ref t) items.size none) Q E s := by
  have lt : t ≠ s.heap.objs.size := by obtain ⟨o, ho, _⟩ := ht; exact Nat.ne_of_lt (Heap.lt_size ho)
  unfold unpackItems notIterableAtAll
  refine wpAny_bind (wpAny_bind (wpAny_specialOf ht.typeIs slot_tuple_iter.lookup (wpAny_pure ?_)))
  simp only [Bool.false_eq_true, if_false]
  refine wpAny_bind (wpAny_holding (iter_tuple ht (wpAny_bind (wpAny_holding (draw_tuple lt items.size 0 _ _ ⟨_, Heap.get?_push_size _ rfl, rfl, rfl⟩ (ht.push _) (by omega) fun h₁ it₁ sb => ?_)))))
  rw [show List.take items.size (List.drop 0 items.toList) = items.toList by rw [List.drop_zero]; exact List.take_of_length_le (by simp), if_neg (by simp)]
  have keep : ∀ b o, s.heap.get? b = some o → h₁.get? b = some o := fun b o e => sb.extBut b o (Nat.ne_of_lt (Heap.lt_size e)) (Heap.get?_push_of_some _ e)
  refine wpAny_bind (wpAny_holding (tup_end_hot (s := { s with heap := h₁ }) (hot_up hot keep) (Nat.ne_of_lt (hot_lt hot)) (show h₁.IsTupleIter s.heap.objs.size t (0 + items.size) from it₁) (show h₁.IsTuple t items from (ht.push _).extBut sb.extBut lt) (by simp) fun h₂ eb => ?_))
  simp only [Option.isSome_none, Bool.false_eq_true, if_false]
  exact wpAny_pure (hQ h₂ fun b o hb e => eb b o hb (keep b o e))
theorem assign_tupH {env : Env} {elts : List Expr} {k1} {pos : Pos} {t : Addr} {items : Array Value} {Q : Unit → Shared → Prop} (hot : HotAt A x1 s.heap) (ht : IsTup s.heap t items) (hn : (assignEach elts env).length = items.size) (hst : (assignEach elts env).findIdx? (·.1) = none)
    (h : ∀ h', Heap.ExtBut s.heap.objs.size s.heap h' → wpAny (model prog w) A (assignInOrder ((assignEach elts env).map (·.2)) items.toList) Q E { s with heap := h' }) : wpAny (model prog w) A (assign (.Tuple elts k1 pos) env (.ref t)) Q E s := by
  rw [assign_Tuple]
  refine wpAny_bind (wpAny_standAt ?_)
  unfold unpack
  rw [hn, hst]
  exact wpAny_bind (wpAny_holding (unpack_tupH hot ht h))
end
section
variable {X : Cx}
theorem pg_tupH {pos : Pos} {es : List Expr} {k : Nat} {t : TGs} {n : Nat} (hc : HotC X) (h : PGs X es t) (hn : (assignEach es X.env).length = n := by rfl) (hst : (assignEach es X.env).findIdx? (·.1) = none := by rfl) : PG X (.Tuple es k pos) (gTup X.K n t) := by
  refine ⟨fun pins s σ H v u Q I r ⟨a, xs, e, hq, hl, hw⟩ => ?_⟩
  subst e
  cases r
  obtain ⟨its, rv, ht, hz⟩ := I.tuple hq
  obtain ⟨x1, hot⟩ := hc.at I
  refine assign_tupH hot ht (by simp [hn, ← hl, rv.length]) hst fun h' hx => ?_
  exact h.run pins _ σ H xs _ Q (I.kept (t' := s.toks) fun b o e => hx b o (Nat.ne_of_lt (Heap.lt_size e)) e) (by simpa using rv) hw
theorem ps_parH {pos : Pos} {i j : Nat} {x y : Str} {a b : Expr} {ta : TA} {px py pt : Pos} {kt k2 pt2} (hc : HotC X) (hN : X.N.Nodup) (hi : X.N[i]? = some x) (hj : X.N[j]? = some y) (hij : i ≠ j)
    (hx : X.env.scope.names.lookup x = some .local) (hy : X.env.scope.names.lookup y = some .local) (ha : PA X [a, b] ta)
    (hw : swappedStores [.Tuple [.Name x px, .Name y py] kt pt] (.Tuple [a, b] k2 pt2) X.env = pure (some [x, y])) (hs : swapsWithSole [.Tuple [.Name x px, .Name y py] kt pt] (.Tuple [a, b] k2 pt2) pos.line X.env = pure false := by rfl) :
    PS X (.Assign [.Tuple [.Name x px, .Name y py] kt pt] (.Tuple [a, b] k2 pt2) pos) (tPar i j ta) := by
  refine ⟨fun pins s σ H D I h => ?_⟩
  rw [exec_Assign_arm]
  refine wpAny_bind (wpAny_standAt ?_)
  rw [hs]
  refine wpAny_bind (wpAny_pure ?_)
  rw [if_neg (by decide)]
  refine wpAny_bind (Tuple_ (thn (ha.run _ pins s σ H _ I h) fun us s1 ⟨vs, H1, I1, r1, v, w, e1, q1⟩ => ?_))
  subst e1
  obtain ⟨u1, u2, rfl, rv, rw'⟩ : ∃ u1 u2, us = [u1, u2] ∧ RelV v u1 ∧ RelV w u2 := by
    cases r1 with
    | cons p q =>
      cases q with
      | cons p' q' => cases q'; exact ⟨_, _, rfl, p, p'⟩
  refine wpAny_newObj_type ?_ (by show 2 ≤ sizeLine; decide)
  have I2 : Inv X pins σ H1 { s1 with heap := s1.heap.push { cls := .type "tuple", data := .seq [u1, u2].toArray } } := I1.kept (t' := s1.toks) fun b o e => Heap.get?_push_of_some _ e
  rw [hw]
  refine wpAny_bind (wpAny_pure ?_)
  show wpAny (model X.prog X.w) X.A (do rule "assign.swapped-stores"; let items ← unpackItems (.ref s1.heap.objs.size) 2 none; assignInOrder [fun v => bindName X.env y v, fun v => bindName X.env x v] items.reverse; pure Flow.next) _ _ _
  obtain ⟨x1, hot⟩ := hc.at I2
  refine wpAny_bind (wpAny_rule (wpAny_bind (unpack_tupH (items := #[u1, u2]) hot (IsTup.new s1.heap _) fun h' hx' => ?_)))
  have I3 := I2.kept (h' := h') (t' := s1.toks) fun b o e => hx' b o (Nat.ne_of_lt (Heap.lt_size e)) e
  show wpAny _ _ (assignInOrder [fun v => bindName X.env y v, fun v => bindName X.env x v] [u2, u1] >>= fun _ => pure Flow.next) _ _ _
  refine wpAny_bind (assignInOrder_cons (wpAny_bindName (store_ok I3 hN hj (.inl hy) rw' (fun s2 I4 => ?_) (.inr hy))))
  refine assignInOrder_cons (wpAny_bindName (store_ok I4 hN hi (.inl hx) rv (fun s3 I5 => assignInOrder_nil (wpAny_pure ?_)) (.inr hx)))
  rw [List.set_comm _ _ (Ne.symm hij)] at I5
  exact ⟨_, H1, I5, q1⟩
theorem pg_star1H {e1 e2 : Expr} {p pos : Pos} {k : Nat} {t : TGs} (hc : HotC X) (h : PGs X [e1, e2] t) (hm : (assignEach [e1, .Starred e2 p] X.env).map (·.2) = (assignEach [e1, e2] X.env).map (·.2) := by rfl)
    (hn : (assignEach [e1, .Starred e2 p] X.env).length = 2 := by rfl) (hst : (assignEach [e1, .Starred e2 p] X.env).findIdx? (·.1) = some 1 := by rfl) : PG X (.Tuple [e1, .Starred e2 p] k pos) (gStar1 X.K t) := by
  refine ⟨fun pins s σ H v u Q I r hw => ?_⟩
  obtain ⟨a, x, xs, rfl, hq, hz, hw⟩ := hw
  cases r
  obtain ⟨its, rv, isl, _⟩ := I.list hq
  cases rv with
  | cons rx rr =>
  rename_i ux us
  rw [assign_Tuple]
  refine wpAny_bind (wpAny_standAt ?_)
  unfold unpack
  rw [hn, hst, hm]
  have lr := rr.length
  obtain ⟨x1, hot⟩ := hc.at I
  refine wpAny_bind (wpAny_holding (star_listH isl.isList hot (by rw [List.length_cons]; omega) fun D h' tk hD kp e => ?_))
  have I1 : Inv X pins σ (upd H D (.lst xs)) { s with heap := h', toks := tk } := I.laid (t' := tk) kp hD (show ObjOk X.prog X.w _ h' D (.lst xs) from ⟨Nat.le_trans hz (by rw [sizeLine_eq]; decide), us, 0, rr, e⟩)
  exact h.run pins _ σ _ [x, .ref D] [ux, .ref D] Q I1 (.cons rx (.cons rfl .nil)) (hw D (I.hok.fresh hD))
end
end LL

set_option Elab.async false
set_option linter.all false
set_option maxRecDepth 100000
set_option maxHeartbeats 2000000
/-! LLHot3: comprehensions within an except suite. -/
namespace LL
open PySem PySem.Spec PySem.Calls PyProof.Rows L2 L2H HotX
/-- a block's context that bears the pins of the def's -/
abbrev blkP (X : Cx) (s : Shared) (H : Hp) (scope : Scope) (cenv : Env) (fp : List Addr) : Cx := { X.blk s H scope cenv fp with pn := X.pn }
section
variable {X : Cx} {pins : List (Addr × Obj)} {σ : List (Option V)} {H : Hp} {s : Shared}
theorem block_startH {scope : Scope} {own : List (Str × Nat)} {fp : List Addr} (I : Inv X pins σ H s) (ok : BlkOk X.N X.env.scope scope own) (hN : X.N.Nodup) (hfp : ∀ b ∈ fp, FpOk X pins H b ∧ b < s.heap.objs.size) :
    Inv (blkP X s H scope (compEnvC scope (cellsFrom (s.heap.objs.size + 1) scope.names (cloFrom X.env.cells scope.names [])) s.heap.objs.size X.env) fp) [] (wipe σ (own.map (·.2))) H { s with heap := pushCells (s.heap.push { cls := .type "dict", data := .dict #[] }) scope.names } := by
  have J := block_start I ok hN hfp
  refine ⟨⟨J.ok.mod, J.ok.kind, J.ok.glob, J.ok.blt, J.ok.above, J.ok.inj, J.ok.has, J.ok.cab, J.ok.hd, J.ok.frames, J.ok.stk, J.ok.exf, J.ok.bs, J.ok.bsz, J.ok.noex, J.ok.exfs, J.ok.funs, J.ok.frf⟩, J.os, J.bare, J.base, J.loc, J.cell, J.free, J.freeC, fun p hp => ?_, J.hok, J.len⟩
  have hp : p ∈ X.pn := (List.mem_append.mp hp).elim id fun z => by cases z
  obtain ⟨g, f, nl, nf, nc⟩ := I.pin p (List.mem_append_left _ hp)
  refine ⟨pushCells_keeps _ _ _ _ (Heap.get?_push_of_some _ g), f, Nat.ne_of_lt (Heap.lt_size g), fun m => ?_, nc⟩
  rcases List.mem_cons.mp (I.stkSub p.1 m) with e | m
  · exact nl e
  · exact nf m
/-- what a comprehension's block tells of its iterator's records -/
theorem blk_fp {scope : Scope} {cenv : Env} {fp : List Addr} {s3 : Shared} {H3 H' : Hp} {σ' : List (Option V)} {s' : Shared} (I : Inv (blkP X s3 H3 scope cenv fp) [] σ' H' s') (f2 : ∀ b ∈ fp, ∀ p ∈ X.pn, p.1 ≠ b) (hn : ∀ b ∈ fp, H' b = none) : ∀ b ∈ fp, FpOk (blkP X s3 H3 scope cenv fp) [] H' b := fun b hb =>
  ⟨hn b hb, (I.ok.exf b hb).1, I.ok.exfs b hb, .inl hb, fun x c e => (I.ok.exf b hb).2 x c e, fun p hp => f2 b hb p ((List.mem_append.mp hp).elim id fun z => by cases z)⟩
/-- the block's turn is over -/
theorem blk_fin {scope : Scope} {cenv : Env} {fp : List Addr} {s3 s7 s' : Shared} {H3 H' : Hp} {σ8 : List (Option V)} {vs : List Nat} {it : Addr} {tg : Expr} {J : It} {tn : Nat → Heap → Prop} {i : Nat} (T : TurnH X.prog X.w X.K tg J fp it tn) (st7 : tn (i + 1) s7.heap) (hw : wipe σ8 vs = wipe σ vs)
    (I : Inv (blkP X s3 H3 scope cenv fp) ([] ++ pinsAt fp s7.heap) σ8 H' s') : Inv (blkP X s3 H3 scope cenv fp) [] (wipe σ vs) H' s' ∧ tn (i + 1) s'.heap ∧ ∀ b ∈ fp, H' b = none := by
  have pin' : ∀ b ∈ fp, ∀ o, s7.heap.get? b = some o → s'.heap.get? b = some o ∧ H' b = none := fun b hb o e => by
    obtain ⟨z1, z2, _⟩ := I.pin (b, o) (List.mem_append_right _ (List.mem_append_right _ (mem_pinsAt hb e)))
    exact ⟨z1, z2⟩
  refine ⟨(I.unpinned (pins := [])).weak (by rw [wipe_length, ← wipe_length σ8 vs, hw, wipe_length]) (fun j v e => ?_), T.keep _ _ _ st7 fun b hb o e => (pin' b hb o e).1, fun b hb => ?_⟩
  · rw [← hw] at e
    exact (wipe_some e).1
  · obtain ⟨o, e, _⟩ := T.obj _ _ st7 b hb
    exact (pin' b hb o e).2
/-- a comprehension, its iterator walked while an exception is handled -/
theorem lc_coreH {Q : VK} {elt tg iter : Expr} {ifs : List Expr} {scope : Scope} {own : List (Str × Nat)} {pos pos' : Pos} {wi : TI} {g : TG} {tt : TT} {te : TE} {use : Option (Value → Sem Unit)} {Qf : Value → Shared → Prop}
    (hc : HotC X) (hN : X.N.Nodup) (I : Inv X pins σ H s) (hi : PIH X tg iter wi) (ok : BlkOk X.N X.env.scope scope own)
    (hg : ∀ (s : Shared) (H : Hp) (C : Addr) (cl : List (Str × Addr)) (fp : List Addr), PG (blkP X s H scope (compEnvC scope cl C X.env) fp) tg g) (ht : ∀ (s : Shared) (H : Hp) (C : Addr) (cl : List (Str × Addr)) (fp : List Addr), PTs (blkP X s H scope (compEnvC scope cl C X.env) fp) ifs tt)
    (he : ∀ (s : Shared) (H : Hp) (C : Addr) (cl : List (Str × Addr)) (fp : List Addr), PE (blkP X s H scope (compEnvC scope cl C X.env) fp) elt te) (hs : ∀ x, foldedSetIterable iter X.env x = pure x) (h : tLc wi g tt te (own.map (·.2)) σ H Q)
    (hRR : ∀ D C s' m H', Inv X pins σ H' s' → Q (.ref D) H' → s'.heap.Ns C m → FpOk X pins H' C → compPost (model X.prog X.w) X.A X.xe use Qf (.ref D) C (.ok .next) s') :
    wpAny (model X.prog X.w) X.A (comprehension (.ListComp elt [⟨tg, iter, ifs, 0⟩] scope pos) scope X.env pos' (newList []) false (eval iter X.env) use) Qf X.xe s := by
  have hfree : ∀ y ∈ scope.names, y.2 = .free → ∃ c, X.env.cells.lookup y.1 = some c := fun y hy e => (ok.free y hy e).elim (fun k => I.ok.has _ (.inl k)) fun k => I.ok.has _ (.inr k)
  refine wpAny_comprehension_free (use := use) rfl hs (closure_ok hfree) ok.kind (fun y hy e => by rw [ok.uniq y hy, e]) (thn (hi.run pins s σ H _ I h) fun xv s1 hx => thn hx fun itv s2 ⟨it, fp, tn, J, H2, e, I2, T, st2, f2, q⟩ => ?_)
  subst e
  refine wpAny_newObj_type (newEnv_comp ?_) (by show 0 ≤ sizeLine; decide)
  obtain ⟨D, hD⟩ : ∃ D, s2.heap.objs.size = D := ⟨_, rfl⟩
  obtain ⟨W, ⟨m0, w0⟩, turn⟩ := q D (I2.hok.fresh (Nat.le_of_eq hD))
  rw [hD]
  obtain ⟨s3, hs3⟩ : ∃ s3 : Shared, ({ s2 with heap := s2.heap.push { cls := .type "list", data := .seq ([] : List Value).toArray } } : Shared) = s3 := ⟨_, rfl⟩
  have h3 : s3.heap = s2.heap.push { cls := .type "list", data := .seq ([] : List Value).toArray } := by rw [← hs3]
  have I3 : Inv X pins σ (upd H2 D (.lst [])) s3 := by
    rw [← hs3]
    refine I2.laid (t' := s2.toks) (fun b o e => Heap.get?_push_of_some _ e) (Nat.le_of_eq hD) ⟨Nat.zero_le _, [], 0, .nil, ?_⟩
    rw [← hD]
    exact Heap.get?_push_size _ rfl
  rw [hs3]
  have f3 : ∀ b ∈ fp, FpOk X pins (upd H2 D (.lst [])) b ∧ b < s3.heap.objs.size := fun b hb => by
    obtain ⟨o, e, _⟩ := T.obj _ _ st2 b hb
    have lt := Heap.lt_size e
    refine ⟨⟨?_, (f2 b hb).2⟩, by rw [h3, Heap.size_push]; exact Nat.lt_succ_of_lt lt⟩
    rw [upd_ne (by rw [← hD]; exact Nat.ne_of_lt lt)]
    exact (f2 b hb).1
  have fpn : ∀ b ∈ fp, ∀ p ∈ X.pn, p.1 ≠ b := fun b hb p hp => (f2 b hb).2.2.2.2.2 p (List.mem_append_left _ hp)
  have I4 := block_startH I3 ok hN f3
  have nfp : ∀ b ∈ fp, (upd H2 D (.lst [])) b = none := fun b hb => (f3 b hb).1.1
  have pg := hg s3 (upd H2 D (.lst [])) s3.heap.objs.size (cellsFrom (s3.heap.objs.size + 1) scope.names (cloFrom X.env.cells scope.names [])) fp
  have pt := ht s3 (upd H2 D (.lst [])) s3.heap.objs.size (cellsFrom (s3.heap.objs.size + 1) scope.names (cloFrom X.env.cells scope.names [])) fp
  have pe := he s3 (upd H2 D (.lst [])) s3.heap.objs.size (cellsFrom (s3.heap.objs.size + 1) scope.names (cloFrom X.env.cells scope.names [])) fp
  show codeAny _ _ (.compStart (.ListComp elt [⟨tg, iter, ifs, 0⟩] scope pos) 0 (.ref it) (.ref D) (compEnvC scope (cellsFrom (s3.heap.objs.size + 1) scope.names (cloFrom X.env.cells scope.names [])) s3.heap.objs.size X.env)) (compPost (model X.prog X.w) X.A X.xe use Qf (.ref D) s3.heap.objs.size) { s3 with heap := pushCells (s3.heap.push { cls := .type "dict", data := .dict #[] }) scope.names }
  obtain ⟨ce, hce⟩ : ∃ ce, compEnvC scope (cellsFrom (s3.heap.objs.size + 1) scope.names (cloFrom X.env.cells scope.names [])) s3.heap.objs.size X.env = ce := ⟨_, rfl⟩
  have cL : ce.locals = s3.heap.objs.size := by rw [← hce]; rfl
  rw [hce] at I4 pg pt pe ⊢
  generalize upd H2 D (.lst []) = H3 at I3 I4 pg pt pe w0 nfp f3
  obtain ⟨s4, hs4⟩ : ∃ s4 : Shared, ({ s3 with heap := pushCells (s3.heap.push { cls := .type "dict", data := .dict #[] }) scope.names } : Shared) = s4 := ⟨_, rfl⟩
  have st4 : tn 0 s4.heap := T.keep _ _ _ st2 fun b _ o e => by rw [← hs4]; exact pushCells_keeps _ _ _ _ (Heap.get?_push_of_some _ (by rw [h3]; exact Heap.get?_push_of_some _ e))
  rw [hs4] at I4 ⊢
  have loop : codeAny (model X.prog X.w) X.A (.compLoop (.ListComp elt [⟨tg, iter, ifs, 0⟩] scope pos) 0 (.ref it) (.ref D) ce) (compPost (model X.prog X.w) X.A X.xe use Qf (.ref D) s3.heap.objs.size) s4 := by
    refine compLoop_any (fun n s' => ∃ i H', Inv (blkP X s3 H3 scope ce fp) [] (wipe σ (own.map (·.2))) H' s' ∧ tn i s'.heap ∧ (∀ b ∈ fp, H' b = none) ∧ W i n H') ?_ m0 ⟨0, H3, I4, st4, nfp, w0⟩
    rintro n s5 ⟨i, H5, I5, st5, n5, w5⟩
    rcases turn i n H5 w5 with ⟨stop, qq⟩ | ⟨go, Nx, hNx, step⟩
    · refine thnF (T.done (blkP X s3 H3 scope ce fp) rfl rfl rfl hc i [] s5 _ H5 (fun _ _ => False) I5 (blk_fp I5 fpn n5) st5 stop) fun r s6 ⟨hr, I6⟩ => ?_
      subst hr
      have I7 : Inv X pins σ H5 s6 := I3.call' (ch := fp) I6.os I6.base I6.hok I6.bare fun b hb => ⟨(f3 b hb).1.2.2.2.1, (f3 b hb).1.2.1, (f3 b hb).1.2.2.2.2.1, (f3 b hb).1.2.2.2.2.2⟩
      have nC : H5 ce.locals = none := I6.free
      obtain ⟨m, hn, _⟩ := I6.loc
      have hn : s6.heap.Ns ce.locals m := hn
      rw [cL] at hn nC
      exact hRR D s3.heap.objs.size s6 m H5 I7 qq hn (I3.fpOk (Nat.le_refl _) nC)
    · refine thnF (T.item (blkP X s3 H3 scope ce fp) rfl rfl rfl hc i [] s5 _ H5 (fun _ _ => False) I5 (blk_fp I5 fpn n5) st5 go) fun r s6 ⟨u, hr, h6⟩ => ?_
      subst hr
      refine thnF h6 fun _ s7 ⟨x, H7, I7, r7, y7, st7, n7⟩ => ?_
      refine thnF (pg.run _ s7 _ H7 x u _ (I7.pinned (blk_fp I7 fpn n7) (T.obj _ _ st7)) r7 (step x H7 y7)) fun _ s8 ⟨σ8, H8, I8, hw8, q8⟩ => ?_
      refine thnF (pt.run _ s8 σ8 H8 _ I8 q8) fun b s9 ⟨H9, I9, q9⟩ => ?_
      have fin : ∀ {s' : Shared} {H' : Hp}, Inv (blkP X s3 H3 scope ce fp) ([] ++ pinsAt fp s7.heap) σ8 H' s' → Nx H' → ∃ m, m < n ∧ ∃ i H', Inv (blkP X s3 H3 scope ce fp) [] (wipe σ (own.map (·.2))) H' s' ∧ tn i s'.heap ∧ (∀ b ∈ fp, H' b = none) ∧ W i m H' := fun {s' H'} I' nx => by
        obtain ⟨m', hm, w'⟩ := hNx H' nx
        obtain ⟨z1, z2, z3⟩ := blk_fin T st7 hw8 I'
        exact ⟨m', hm, i + 1, H', z1, z2, z3, w'⟩
      cases b with
      | false =>
        rw [if_neg (by decide)] at q9
        exact fin I9 q9
      | true =>
        rw [if_pos rfl] at q9
        exact thnF (pe.run _ s9 σ8 H9 _ I9 q9) fun z s10 ⟨yv, H10, I10, r10, acc, hD10, hz10, nx⟩ => app_ok (X := blkP X s3 H3 scope ce fp) I10 hD10 hz10 r10 fun s11 I11 => fin I11 nx
  exact codeAny_compStart_list loop (T.self X.A 0 _ _ _ st4 loop)
theorem pe_lcH {elt tg iter : Expr} {ifs : List Expr} {scope : Scope} {own : List (Str × Nat)} {pos : Pos} {wi : TI} {g : TG} {tt : TT} {te : TE} (hc : HotC X) (hN : X.N.Nodup) (hi : PIH X tg iter wi) (ok : BlkOk X.N X.env.scope scope own)
    (hg : ∀ (s : Shared) (H : Hp) (C : Addr) (cl : List (Str × Addr)) (fp : List Addr), PG (blkP X s H scope (compEnvC scope cl C X.env) fp) tg g) (ht : ∀ (s : Shared) (H : Hp) (C : Addr) (cl : List (Str × Addr)) (fp : List Addr), PTs (blkP X s H scope (compEnvC scope cl C X.env) fp) ifs tt)
    (he : ∀ (s : Shared) (H : Hp) (C : Addr) (cl : List (Str × Addr)) (fp : List Addr), PE (blkP X s H scope (compEnvC scope cl C X.env) fp) elt te) (hs : ∀ x, foldedSetIterable iter X.env x = pure x := by intro _; rfl) :
    PE X (.ListComp elt [⟨tg, iter, ifs, 0⟩] scope pos) (tLc wi g tt te (own.map (·.2))) := by
  refine ⟨fun pins s σ H Q I h => ?_⟩
  rw [eval_ListComp]
  refine lc_coreH hc hN I hi ok hg ht he hs h fun D C s' m H' I' q hn ⟨f0, f1, f2, f3, f4, f5⟩ => ⟨m, hn, fun h'' sb => ?_⟩
  exact ⟨.ref D, H', I'.turned (t' := s'.toks) (fun b o hb e => (sb.2 b hb).trans e) f0 f1 f3 f4 f5, rfl, q⟩
/-- name = [..] -/
theorem ps_setLcH {i : Nat} {y : Str} {py : Pos} {elt tg iter : Expr} {ifs : List Expr} {scope : Scope} {own : List (Str × Nat)} {pos spos : Pos} {wi : TI} {g : TG} {tt : TT} {te : TE} (hc : HotC X) (hN : X.N.Nodup) (hy : X.N[i]? = some y) (hyl : X.env.scope.names.lookup y = some .local)
    (hsw : swapsWith (.ListComp elt [⟨tg, iter, ifs, 0⟩] scope pos) (some (.Name y py)) spos.line X.env = pure true) (hi : PIH X tg iter wi) (ok : BlkOk X.N X.env.scope scope own)
    (hg : ∀ (s : Shared) (H : Hp) (C : Addr) (cl : List (Str × Addr)) (fp : List Addr), PG (blkP X s H scope (compEnvC scope cl C X.env) fp) tg g) (ht : ∀ (s : Shared) (H : Hp) (C : Addr) (cl : List (Str × Addr)) (fp : List Addr), PTs (blkP X s H scope (compEnvC scope cl C X.env) fp) ifs tt)
    (he : ∀ (s : Shared) (H : Hp) (C : Addr) (cl : List (Str × Addr)) (fp : List Addr), PE (blkP X s H scope (compEnvC scope cl C X.env) fp) elt te) (hs : ∀ x, foldedSetIterable iter X.env x = pure x := by intro _; rfl) :
    PS X (.Assign [.Name y py] (.ListComp elt [⟨tg, iter, ifs, 0⟩] scope pos) spos) (tAsg (tLc wi g tt te (own.map (·.2))) (gName i)) := by
  refine ⟨fun pins s σ H D I h => ?_⟩
  rw [exec_Assign_Name_used _ _ _ _ hsw]
  refine wpAny_bind (wpAny_standAt (wpAny_bind ?_))
  show wpAny _ X.A (do let _ ← comprehension (.ListComp elt [⟨tg, iter, ifs, 0⟩] scope pos) scope X.env (firstIterPos [⟨tg, iter, ifs, 0⟩] pos) (newList []) false (eval iter X.env) (some (assign (.Name y py) X.env))) _ _ s
  refine wpAny_bind (thn (lc_coreH (Qf := fun _ s' => SP X pins D .next s') hc hN I hi ok hg ht he hs (show tLc wi g tt te (own.map (·.2)) σ H (fun x H1 => gName i x σ H1 D.nx) from h) fun L C s' m H' I' q hn ⟨f0, f1, f2, f3, f4, f5⟩ => ?_) fun _ s' hq => wpAny_pure (wpAny_pure hq))
  refine wpAny_assign_Name (store_ok2 (v := V.ref L) I' hN hy (.inl hyl) rfl (fun s2 I2 ⟨a, sb, ha⟩ => ?_) (.inr hyl))
  have haC : C ≠ a := ha.elim (fun z => by rw [z]; exact f1) fun z e => f4 y a z e.symm
  exact ⟨m, hn.sameBut sb haC, fun h3 sb3 => ⟨_, H', I2.turned (t' := s2.toks) (fun b o hb e => (sb3.2 b hb).trans e) f0 f1 f3 f4 f5, q⟩⟩
end
end LL

set_option Elab.async false
set_option linter.all false
set_option maxRecDepth 100000
set_option maxHeartbeats 2000000
/-! LLHot4: promises and calls within an except suite (printed by mkhot.py from the layer's own). -/
namespace LH
open PySem PySem.Spec PyProof.Rows L2 HotX
open L2H (RoomH Hot1 PinOk HotC cxH)
open LL (rEqDO rBin rNeg rEqO rShow tPr tFmtO OpAt OpInt inst_of)
/-- room for k calls -/
structure Rm (k : Nat) (A : Around) : Prop where
  dp : A.depth + 3 * k + 5 < recursionLimit
  un : A.units + 16 * k + 200 < cLine
theorem Rm.mono {j k : Nat} {A : Around} (r : Rm k A) (h : j ≤ k) : Rm j A := ⟨by have := r.dp; omega, by have := r.un; omega⟩
theorem Rm.deeper {k : Nat} {A : Around} (r : Rm (k + 1) A) (env : Env) : Rm k (A.deeper env) := ⟨by have := r.dp; show A.depth + 1 + 3 * k + 5 < _; omega, by have := r.un; show A.units + 3 + 16 * k + 200 < _; omega⟩
theorem Rm.in1 {k : Nat} {A : Around} (r : Rm (k + 1) A) : Rm k A.in1 := ⟨by have := r.dp; show A.depth + 3 * k + 5 < _; omega, by have := r.un; show A.units + 1 + 16 * k + 200 < _; omega⟩
theorem Rm.make {k : Nat} {A : Around} (r : Rm (k + 1) A) (C : Addr) (us : List Value) (kw : List (Str × Value)) : Rm k (A.under (.builtin "type.__call__" ⟨.ref C :: us, kw⟩)) := ⟨by have := r.dp; rw [make_depth]; omega, by have := r.un; rw [make_units]; omega⟩
theorem Rm.units {k : Nat} {A : Around} (r : Rm k A) : A.units + 64 < cLine := by have := r.un; omega
theorem Rm.units0 {k : Nat} {A : Around} (r : Rm k A) : A.units < cLine := by have := r.un; omega
theorem Rm.room {k : Nat} {A : Around} (r : Rm k A) : RoomH k A := ⟨r.dp, r.un⟩
theorem rm_of {k : Nat} {A : Around} (r : RoomH k A) : Rm k A := ⟨r.dp, r.un⟩
/-- what a callee wants: the handled exception, too -/
structure Env0 (P : Program) (w : World) (K : PySem.W.Frag) (mg : Str → Option Value) (base : Heap) (A : Around) (outer : List Env) (s : Shared) (H : Hp) : Prop where
  e : L2.Env0 P w K mg base A outer s H
  h : ∃ p : Addr × Obj, Hot1 A p ∧ PinOk outer H s p
theorem Env0.in1 {P : Program} {w : World} {K : PySem.W.Frag} {mg : Str → Option Value} {base : Heap} {A : Around} {outer : List Env} {s : Shared} {H : Hp} (e : Env0 P w K mg base A outer s H) : Env0 P w K mg base A.in1 outer s H := ⟨e.e.in1, let ⟨p, a, b⟩ := e.h; ⟨p, a, b⟩⟩
theorem Env0.make {P : Program} {w : World} {K : PySem.W.Frag} {mg : Str → Option Value} {base : Heap} {A : Around} {outer : List Env} {s : Shared} {H : Hp} (e : Env0 P w K mg base A outer s H) (C : Addr) (us : List Value) (kw : List (Str × Value)) :
    Env0 P w K mg base (A.under (.builtin "type.__call__" ⟨.ref C :: us, kw⟩)) outer s H := ⟨e.e.make C us kw, let ⟨p, a, b⟩ := e.h; ⟨p, ⟨by first | exact a.1 | (simpa [Around.under] using a.1), a.2⟩, b⟩⟩
theorem env0H {X : Cx} {pins : List (Addr × Obj)} {σ : List (Option V)} {H : Hp} {s : Shared} (hc : HotC X) (I : Inv X pins σ H s) : Env0 X.prog X.w X.K X.mg X.base X.A X.stack s H := by
  obtain ⟨p, hot, hp⟩ := hc
  have P1 := I.pin p (List.mem_append_left _ hp)
  exact ⟨I.env0, p, hot, P1.1, P1.2.1, fun hm => (List.mem_cons.mp (I.stkSub p.1 hm)).elim P1.2.2.1 P1.2.2.2.1, P1.2.2.2.2⟩
/-- a def keeps its promise there -/
structure FnG (P : Program) (w : World) (K : PySem.W.Frag) (mg : Str → Option Value) (base : Heap) (CX : CXT) (k : Nat) (f : Addr) (fd : FuncData) (ps : List Str) (sp : Sp) : Prop where
  len : ∀ vs H Q E, sp vs H Q E → vs.length = ps.length
  run : ∀ (A : Around) (outer : List Env) (s : Shared) (H : Hp) (args : Args) (us : List Value) (vs : List V) (Q : VK) (E : XK), Rm k A → Env0 P w K mg base A outer s H → BindsTo s fd args (ps.zip us) → Vals vs us → sp vs H Q E →
    codeAny (model P w) A (.call (.ref f) args) (CR CX outer P w H s Q E) s
section
variable {P : Program} {w : World} {K : PySem.W.Frag} {mg : Str → Option Value} {base : Heap} {CX : CXT} {k : Nat} {f : Addr} {fd : FuncData} {ps : List Str} {sp sp' : Sp}
theorem FnG.mono {j : Nat} (F : FnG P w K mg base CX j f fd ps sp) (h : j ≤ k) : FnG P w K mg base CX k f fd ps sp := ⟨F.len, fun A outer s H args us vs Q E hr => F.run A outer s H args us vs Q E (hr.mono h)⟩
/-- a def by its body, nothing leaves it -/
theorem ok0 {x qual : Str} {params : Arguments} {body : List Stmt} {scope : Scope} {dvs : List V} {kws : List (Str × V)} {N : List Str} (F : FunD K x qual params body scope dvs kws f fd) (S : FnScope N ps scope) (len : ∀ vs H Q E, sp vs H Q E → vs.length = ps.length)
    (hbody : ∀ (cdv : Value) (A : Around) (outer : List Env) (s : Shared) (H : Hp) (vs : List V) (Q : VK) (E : XK) (p : Addr × Obj), Rm k (A.deeper (envOfC qual scope s.heap.objs.size f cdv)) → HotC (cxH CX0 P w K mg base N qual scope f cdv A outer s H E p).nox → sp vs H Q E →
      ∃ t, PSs (cxH CX0 P w K mg base N qual scope f cdv A outer s H E p).nox body t ∧ t { nx := fun _ H' => Q .non H', rt := Q } (L2.start N vs) H) : FnG P w K mg base CX0 (k + 1) f fd ps sp := by
  obtain ⟨oc, od, dV, kV, doc, pm, an, cdv, ct, osl, rfl, lk, hcd, _, _⟩ := F.ex
  refine ⟨len, fun A outer s H args us vs Q E hr e0 hb r hsp => ?_⟩
  obtain ⟨p, hot, pin⟩ := e0.h
  have G := L2H.fn_ofH (CX := CX0) (P := P) (w := w) (mg := mg) (base := base) (k := k) lk hcd S len fun A outer s H vs Q E p hot hr h => by
    obtain ⟨t, ht, q⟩ := hbody cdv A outer s H vs Q E p (rm_of hr) ⟨p, hot, List.mem_singleton.mpr rfl⟩ h
    exact ⟨t, ht.nox, q⟩
  exact G.run A outer s H args us vs Q E p hr.room hot pin e0.e hb r hsp
end
section
variable {X : Cx} {CX : CXT} {k : Nat} {f C : Addr} {fd : FuncData} {ps : List Str} {sp : Sp} {dvs : List V} {ds : List Value} {E : XK} {x m : Str} {p pos apos : Pos} {e o : Expr} {es : List Expr} {ta : TE} {t : TA}
/-- the callee runs, at any place that stands for this body's -/
theorem run_g {pins : List (Addr × Obj)} {σ : L2.St} {H : Hp} {s : Shared} {Q : VK} {us : List Value} {vs : List V} {A : Around} (F : FnG X.prog X.w X.K X.mg X.base CX k f fd ps sp) (hr : Rm k A) (e0 : Env0 X.prog X.w X.K X.mg X.base A X.stack s H) (hb : Binds X.K fd ps ds) (hd : Vals dvs ds) (hx : Passes CX X E)
    (I : Inv X pins σ H s) (r : Vals vs us) (h : sp (vs ++ dvs) H Q E) (hH : HotC X := by assumption) : wpAny (model X.prog X.w) A (call (.ref f) us) (EP X pins σ Q) X.xe s := by
  have r2 : Vals (vs ++ dvs) (us ++ ds) := r.append hd
  have hl : (us ++ ds).length = ps.length := by
    have := F.len _ _ _ _ h
    rw [← this]
    exact r2.length.symm
  have go := F.run A X.stack s H ⟨us, []⟩ (us ++ ds) (vs ++ dvs) Q E hr e0 (hb s us I.kIn hl) r2 h
  refine wpAny_call (codeAny_mono go fun r s' hq => ?_)
  match r, hq with
  | .error er, hq => exact hx pins σ H s er s' I hq
  | .ok (.ret u), hq => exact I.after hq
  | .ok .next, hq => exact False.elim hq
  | .ok .brk, hq => exact False.elim hq
  | .ok .cont, hq => exact False.elim hq
/-- f(e, ..) -/
theorem pe_callG (F : FnG X.prog X.w X.K X.mg X.base CX k f fd ps sp) (hr : Rm k X.A) (hg : Gl X x) (hm : X.mg x = some (.ref f)) (hk : PySem.W.keepIn X.K (.ref f) = true) (hb : Binds X.K fd ps ds) (hd : Vals dvs ds) (hx : Passes CX X E)
    (ha : PA X (e :: es) t) (hdb : (x == ("__debug__" : Str)) = false := by decide) (he : starEach (e :: es) X.env = (false, eval e X.env) :: starEach es X.env := by rfl) (hpl : (backTo pos (starEach es X.env)).any (·.1) = false := by rfl) (hH : HotC X := by assumption) :
    PE X (.Call (.Name x p) (e :: es) [] pos) (tCall sp dvs E t) :=
  ⟨fun pins s σ H Q I h => wpAny_Call_Name_kw (ld_glob I hg hm (PySem.W.callWith_K (h₀ := X.base) I.ok.mod.kin hk (thn (ha.run pos pins s σ H _ I h) fun us s1 ⟨vs, H1, I1, r, q⟩ => ⟨I1.kIn, run_g F hr (env0H hH I1) hb hd hx I1 r q⟩) he hpl) hdb)⟩
theorem pe_call0G (F : FnG X.prog X.w X.K X.mg X.base CX k f fd ps sp) (hr : Rm k X.A) (hg : Gl X x) (hm : X.mg x = some (.ref f)) (hk : PySem.W.keepIn X.K (.ref f) = true) (hb : Binds X.K fd ps ds) (hd : Vals dvs ds) (hx : Passes CX X E)
    (hdb : (x == ("__debug__" : Str)) = false := by decide) (hH : HotC X := by assumption) : PE X (.Call (.Name x p) [] [] pos) (tCall sp dvs E tNil) :=
  ⟨fun pins s σ H Q I h => wpAny_Call_Name_kw (ld_glob I hg hm (PySem.W.callWith_K0 I.kIn hk (run_g (us := []) F hr (env0H hH I) hb hd hx I .nil h)) hdb)⟩
/-- o.m(e, ..) -/
theorem pe_methG {pl : Sem Bool} (he : PE X o ta) (c : Cls X.K C) (hm : Meth X.K C m f) (F : FnG X.prog X.w X.K X.mg X.base CX k f fd ps sp) (hr : Rm k X.A) (hb : Binds X.K fd ps ds) (hd : Vals dvs ds) (hx : Passes CX X E) (ha : PA X (e :: es) t)
    (hst : starEach (e :: es) X.env = (false, eval e X.env) :: starEach es X.env := by rfl) (hpl : (backTo pos (starEach es X.env)).any (·.1) = false := by rfl)
    (ht : eval (.Call (.Attribute o m apos) (e :: es) [] pos) X.env = (do
      let ov ← eval o X.env
      standAt apos.atName
      let (f, first) ← holding [ov] (getMethod ov m pl)
      callWith pos f first (backTo pos (starEach (e :: es) X.env)) (backToKw pos (keywordEach [] X.env))) := by rfl) (hH : HotC X := by assumption) :
    PE X (.Call (.Attribute o m apos) (e :: es) [] pos) (tMeth C m sp dvs E ta t) := by
  refine ⟨fun pins s σ H Q I h => PySem.W.methodCall_KW (pl := pl) (thn (he.run pins s σ H _ I h) fun u s1 hh => ?_) ht⟩
  obtain ⟨x, H1, I1, rx, a, dx, fs, rfl, ea, l, q⟩ := hh
  obtain rfl : u = Value.ref a := rx
  exact getmeth_ok I1 ea c hm l (PySem.W.callWith_K (first := [.ref a]) (h₀ := X.base) I.ok.mod.kin hm.kp (thn (ha.run pos pins s1 σ H1 _ I1 q) fun us s2 ⟨vs, H2, I2, r, q2⟩ =>
    ⟨I2.kIn, run_g (us := .ref a :: us) (vs := .ref a :: vs) F hr (env0H hH I2) hb hd hx I2 (.cons rfl r) q2⟩) hst hpl)
theorem pe_meth0G {pl : Sem Bool} (he : PE X o ta) (c : Cls X.K C) (hm : Meth X.K C m f) (F : FnG X.prog X.w X.K X.mg X.base CX k f fd ps sp) (hr : Rm k X.A) (hb : Binds X.K fd ps ds) (hd : Vals dvs ds) (hx : Passes CX X E)
    (ht : eval (.Call (.Attribute o m apos) [] [] pos) X.env = (do
      let ov ← eval o X.env
      standAt apos.atName
      let (f, first) ← holding [ov] (getMethod ov m pl)
      callWith pos f first (backTo pos (starEach [] X.env)) (backToKw pos (keywordEach [] X.env))) := by rfl) (hH : HotC X := by assumption) :
    PE X (.Call (.Attribute o m apos) [] [] pos) (tMeth C m sp dvs E ta tNil) := by
  refine ⟨fun pins s σ H Q I h => PySem.W.methodCall_KW (pl := pl) (thn (he.run pins s σ H _ I h) fun u s1 hh => ?_) ht⟩
  obtain ⟨x, H1, I1, rx, a, dx, fs, rfl, ea, l, q⟩ := hh
  obtain rfl : u = Value.ref a := rx
  exact getmeth_ok I1 ea c hm l (PySem.W.callWith_K0 (first := [.ref a]) I1.kIn hm.kp (run_g (us := [.ref a]) (vs := [.ref a]) F hr (env0H hH I1) hb hd hx I1 (.cons rfl .nil) q))
/-- C(e, ..): a new instance, then its __init__ -/
theorem run_makeG {pins : List (Addr × Obj)} {σ : L2.St} {H : Hp} {s : Shared} {Q : VK} {us : List Value} {vs : List V} (M : Mk X.K C f) (F : FnG X.prog X.w X.K X.mg X.base CX k f fd ps sp) (hr : Rm (k + 1) X.A) (hb : Binds X.K fd ps ds) (hd : Vals dvs ds)
    (hx : Passes CX X E) (I : Inv X pins σ H s) (r : Vals vs us)
    (h : ∀ x dx, H x = none → H dx = none → dx ≠ x → sp (.ref x :: (vs ++ dvs)) (upd (upd H dx (.own x)) x (.ins C dx [])) (fun v H2 => v = .non ∧ Q (.ref x) H2) E) (hH : HotC X := by assumption) :
    wpAny (model X.prog X.w) X.A (call (.ref C) us) (EP X pins σ Q) X.xe s := by
  have n1 : H (s.heap.objs.size + 1) = none := I.hok.fresh (Nat.le_succ _)
  have n0 : H s.heap.objs.size = none := I.hok.fresh (Nat.le_refl _)
  have hq := h (s.heap.objs.size + 1) s.heap.objs.size n1 n0 (Nat.ne_of_lt (Nat.lt_succ_self _))
  have I2 := Inv.made (C := C) I
  have r2 : Vals (V.ref (s.heap.objs.size + 1) :: (vs ++ dvs)) (Value.ref (s.heap.objs.size + 1) :: (us ++ ds)) := .cons rfl (r.append hd)
  have hl : (Value.ref (s.heap.objs.size + 1) :: us ++ ds).length = ps.length := r2.length.symm.trans (F.len _ _ _ _ hq)
  have go := F.run (X.A.under (.builtin "type.__call__" ⟨.ref C :: us, []⟩)) X.stack _ _ ⟨Value.ref (s.heap.objs.size + 1) :: us, []⟩ (Value.ref (s.heap.objs.size + 1) :: (us ++ ds)) _ _ E (hr.make C us [])
    ((env0H hH I2).make C us []) (hb _ (Value.ref (s.heap.objs.size + 1) :: us) I2.kIn hl) r2 hq
  refine wpAny_call (make_map (f := f) I.kIn M.makes M.init (beq_iff_eq.mp M.fn) (codeAny_mono go fun r s' hq' => ?_))
  match r, hq' with
  | .error er, hq' => exact hx pins σ _ _ er s' I2 hq'
  | .ok (.ret u), hq' =>
    obtain ⟨v, H', I3, rv, rfl, q3⟩ := I2.after hq'
    exact ⟨rv, ⟨V.ref (s.heap.objs.size + 1), H', I3, rfl, q3⟩⟩
  | .ok .next, hq' => exact False.elim hq'
  | .ok .brk, hq' => exact False.elim hq'
  | .ok .cont, hq' => exact False.elim hq'
theorem pe_makeG (M : Mk X.K C f) (F : FnG X.prog X.w X.K X.mg X.base CX k f fd ps sp) (hr : Rm (k + 1) X.A) (hg : Gl X x) (hm : X.mg x = some (.ref C)) (hb : Binds X.K fd ps ds) (hd : Vals dvs ds) (hx : Passes CX X E)
    (ha : PA X (e :: es) t) (hdb : (x == ("__debug__" : Str)) = false := by decide) (he : starEach (e :: es) X.env = (false, eval e X.env) :: starEach es X.env := by rfl) (hpl : (backTo pos (starEach es X.env)).any (·.1) = false := by rfl) (hH : HotC X := by assumption) :
    PE X (.Call (.Name x p) (e :: es) [] pos) (tMake C sp dvs E t) :=
  ⟨fun pins s σ H Q I h => wpAny_Call_Name_kw (ld_glob I hg hm (PySem.W.callWith_K (h₀ := X.base) I.ok.mod.kin M.kp (thn (ha.run pos pins s σ H _ I h) fun us s1 ⟨vs, H1, I1, r, q⟩ => ⟨I1.kIn, run_makeG M F hr hb hd hx I1 r q⟩) he hpl) hdb)⟩
theorem pe_make0G (M : Mk X.K C f) (F : FnG X.prog X.w X.K X.mg X.base CX k f fd ps sp) (hr : Rm (k + 1) X.A) (hg : Gl X x) (hm : X.mg x = some (.ref C)) (hb : Binds X.K fd ps ds) (hd : Vals dvs ds) (hx : Passes CX X E)
    (hdb : (x == ("__debug__" : Str)) = false := by decide) (hH : HotC X := by assumption) : PE X (.Call (.Name x p) [] [] pos) (tMake C sp dvs E tNil) :=
  ⟨fun pins s σ H Q I h => wpAny_Call_Name_kw (ld_glob I hg hm (PySem.W.callWith_K0 I.kIn M.kp (run_makeG (us := []) M F hr hb hd hx I .nil h)) hdb)⟩
end
section
variable {X : Cx} {CX : CXT} {k : Nat} {f C : Addr} {fd : FuncData} {ps : List Str} {sp : Sp} {E : XK}
theorem un_own (hs : PySem.W.findIn X.K (.ref C) "__neg__" = some (some (.ref f))) (hf : PySem.W.isFn X.K (.ref f) = true) (F : FnG X.prog X.w X.K X.mg X.base CX k f fd ps sp) (hr : Rm k X.A) (hb : Binds X.K fd ps []) (hx : Passes CX X E) (hH : HotC X := by assumption) : UnR X (unaryOp .USub) (rNeg C sp E) := by
  intro pins s σ H x v Q I rx h
  obtain ⟨a, dx, fs, rfl, ha, q⟩ := h
  cases (show v = Value.ref a from rx)
  obtain ⟨od, J⟩ := inst_of I ha
  obtain ⟨m, hF⟩ := I.fr
  exact PySem.W.ksp_neg hF I.ok.mod.kin J hs hf (run_g (us := [.ref a]) (vs := [.ref a]) (dvs := []) F hr (env0H hH I) hb .nil hx I (.cons rfl .nil) q)
theorem op_eqO (hs : PySem.W.findIn X.K (.ref C) "__eq__" = some (some (.ref f))) (hf : PySem.W.isFn X.K (.ref f) = true) (F : FnG X.prog X.w X.K X.mg X.base CX k f fd ps sp) (hr : Rm k X.A) (hb : Binds X.K fd ps []) (hx : Passes CX X E) (hH : HotC X := by assumption) : OpR X (compareOp .Eq) (rEqO X.K C sp E) := by
  intro pins s σ H x y v u Q I rx ry h
  obtain ⟨a, dx, fs, t, rfl, ha, ty, hn, q⟩ := h
  cases (show v = Value.ref a from rx)
  obtain ⟨od, J⟩ := inst_of I ha
  obtain ⟨m, hF⟩ := I.fr
  obtain ⟨P, Z, hp, _⟩ := kit_of I ry ty
  refine PySem.W.cmp_K (op := .Eq) hr.units0 hF I.ok.mod.kin J (Z.ty _ _ I.kIn hp) hn hs hf ?_
  refine thn (run_g (us := [.ref a, u]) (vs := [.ref a, y]) (dvs := []) F hr (env0H hH I) hb .nil hx I (.cons rfl (.cons ry .nil)) q) fun w s' z => ?_
  obtain ⟨z', H', I', rz, qz⟩ := z
  exact SlX.cmpback rz ⟨z', H', I', rz, qz⟩
theorem call_reprO (hs : PySem.W.findIn X.K (.ref C) "__repr__" = some (some (.ref f))) (hf : PySem.W.isFn X.K (.ref f) = true) (F : FnG X.prog X.w X.K X.mg X.base CX k f fd ps sp) (hr : Rm (k + 1) X.A) (hb : Binds X.K fd ps []) (hx : Passes CX X E) (hH : HotC X := by assumption) : CallR X (.builtin "repr") (rShow C sp E) := by
  intro pins s σ H xs us Q I r h
  obtain ⟨a, dx, fs, rfl, ha, q⟩ := h
  obtain ⟨u, rfl, ru⟩ := r.one
  cases (show u = Value.ref a from ru)
  obtain ⟨od, J⟩ := inst_of I ha
  obtain ⟨m, hF⟩ := I.fr
  refine PySem.W.repr_K hr.in1.units0 hF I.ok.mod.kin J hs hf (thn (run_g (us := [.ref a]) (vs := [.ref a]) (dvs := []) F hr.in1 (env0H hH I).in1 hb .nil hx I (.cons rfl .nil) q) fun w s' z => ?_)
  obtain ⟨z', H', I', rz, y, rfl, qz⟩ := z
  obtain ⟨t, rfl⟩ := (show ∃ t, w = Value.str y t from rz)
  exact ⟨.str y, H', I', ⟨t, rfl⟩, qz⟩
theorem call_strO (hs : PySem.W.findIn X.K (.ref C) "__str__" = some (some (.ref f))) (hf : PySem.W.isFn X.K (.ref f) = true) (F : FnG X.prog X.w X.K X.mg X.base CX k f fd ps sp) (hr : Rm (k + 2) X.A) (hb : Binds X.K fd ps []) (hx : Passes CX X E) (hH : HotC X := by assumption) : CallR X (.type "str") (rShow C sp E) := by
  intro pins s σ H xs us Q I r h
  obtain ⟨a, dx, fs, rfl, ha, q⟩ := h
  obtain ⟨u, rfl, ru⟩ := r.one
  cases (show u = Value.ref a from ru)
  obtain ⟨od, J⟩ := inst_of I ha
  have hr2 : Rm k X.A.in1.in1 := (show Rm (k + 1) X.A.in1 from hr.in1).in1
  refine PySem.W.kso_call hr2.units0 I.kIn J hs hf (thn (run_g (us := [.ref a]) (vs := [.ref a]) (dvs := []) F hr2 (env0H hH I).in1.in1 hb .nil hx I (.cons rfl .nil) q) fun w s' z => ?_)
  obtain ⟨z', H', I', rz, y, rfl, qz⟩ := z
  obtain ⟨t, rfl⟩ := (show ∃ t, w = Value.str y t from rz)
  exact ⟨.str y, H', I', ⟨t, rfl⟩, qz⟩
end
section
variable (P : Program) (w : World) (K : PySem.W.Frag) (mg : Str → Option Value) (base : Heap) (CX : CXT) (k : Nat)
/-- the module's name x is a def that keeps sp; dvs fill up -/
structure Fnc (x : Str) (dvs : List V) (sp : Sp) : Prop where
  ex : ∃ (f : Addr) (fd : FuncData) (ps : List Str) (ds : List Value), mg x = some (.ref f) ∧ PySem.W.keepIn K (.ref f) = true ∧ Binds K fd ps ds ∧ Vals dvs ds ∧ FnG P w K mg base CX k f fd ps sp
/-- the class at C has the method m -/
structure Mth (C : Addr) (m : Str) (dvs : List V) (sp : Sp) : Prop where
  cl : Cls K C
  ex : ∃ (f : Addr) (fd : FuncData) (ps : List Str) (ds : List Value), Meth K C m f ∧ Binds K fd ps ds ∧ Vals dvs ds ∧ FnG P w K mg base CX k f fd ps sp
/-- the module's name x is the class at C, made by an __init__ that keeps sp -/
structure Mkr (x : Str) (C : Addr) (dvs : List V) (sp : Sp) : Prop where
  ex : ∃ (f : Addr) (fd : FuncData) (ps : List Str) (ds : List Value), Mk K C f ∧ mg x = some (.ref C) ∧ Binds K fd ps ds ∧ Vals dvs ds ∧ FnG P w K mg base CX k f fd ps sp
/-- the class at C has the property m -/
structure Prp (C : Addr) (m : Str) (sp : Sp) : Prop where
  cl : Cls K C
  ex : ∃ (p g : Addr) (fd : FuncData) (ps : List Str), PropOf K C m p g ∧ Binds K fd ps [] ∧ FnG P w K mg base CX k g fd ps sp
end
section
variable {X : Cx} {CX : CXT} {k : Nat} {C : Addr} {sp : Sp} {dvs : List V} {E : XK} {x m : Str} {p pos apos : Pos} {e o : Expr} {es : List Expr} {ta : TE} {t : TA}
theorem pe_fn (G : Fnc X.prog X.w X.K X.mg X.base CX k x dvs sp) (hr : Rm k X.A) (hx : Passes CX X E) (ha : PA X (e :: es) t) (hg : Gl X x := by rfl) (hdb : (x == ("__debug__" : Str)) = false := by decide)
    (he : starEach (e :: es) X.env = (false, eval e X.env) :: starEach es X.env := by rfl) (hpl : (backTo pos (starEach es X.env)).any (·.1) = false := by rfl) (hH : HotC X := by assumption) : PE X (.Call (.Name x p) (e :: es) [] pos) (tCall sp dvs E t) := by
  obtain ⟨f, fd, ps, ds, hm, hk, hb, hd, F⟩ := G.ex
  exact pe_callG F hr hg hm hk hb hd hx ha hdb he hpl
theorem pe_fn0 (G : Fnc X.prog X.w X.K X.mg X.base CX k x dvs sp) (hr : Rm k X.A) (hx : Passes CX X E) (hg : Gl X x := by rfl) (hdb : (x == ("__debug__" : Str)) = false := by decide) (hH : HotC X := by assumption) : PE X (.Call (.Name x p) [] [] pos) (tCall sp dvs E tNil) := by
  obtain ⟨f, fd, ps, ds, hm, hk, hb, hd, F⟩ := G.ex
  exact pe_call0G F hr hg hm hk hb hd hx hdb
theorem pe_mt {pl : Sem Bool} (G : Mth X.prog X.w X.K X.mg X.base CX k C m dvs sp) (hr : Rm k X.A) (hx : Passes CX X E) (he : PE X o ta) (ha : PA X (e :: es) t)
    (hst : starEach (e :: es) X.env = (false, eval e X.env) :: starEach es X.env := by rfl) (hpl : (backTo pos (starEach es X.env)).any (·.1) = false := by rfl)
    (ht : eval (.Call (.Attribute o m apos) (e :: es) [] pos) X.env = (do
      let ov ← eval o X.env
      standAt apos.atName
      let (f, first) ← holding [ov] (getMethod ov m pl)
      callWith pos f first (backTo pos (starEach (e :: es) X.env)) (backToKw pos (keywordEach [] X.env))) := by rfl) (hH : HotC X := by assumption) : PE X (.Call (.Attribute o m apos) (e :: es) [] pos) (tMeth C m sp dvs E ta t) := by
  obtain ⟨f, fd, ps, ds, hm, hb, hd, F⟩ := G.ex
  exact pe_methG he G.cl hm F hr hb hd hx ha hst hpl ht
theorem pe_mt0 {pl : Sem Bool} (G : Mth X.prog X.w X.K X.mg X.base CX k C m dvs sp) (hr : Rm k X.A) (hx : Passes CX X E) (he : PE X o ta)
    (ht : eval (.Call (.Attribute o m apos) [] [] pos) X.env = (do
      let ov ← eval o X.env
      standAt apos.atName
      let (f, first) ← holding [ov] (getMethod ov m pl)
      callWith pos f first (backTo pos (starEach [] X.env)) (backToKw pos (keywordEach [] X.env))) := by rfl) (hH : HotC X := by assumption) : PE X (.Call (.Attribute o m apos) [] [] pos) (tMeth C m sp dvs E ta tNil) := by
  obtain ⟨f, fd, ps, ds, hm, hb, hd, F⟩ := G.ex
  exact pe_meth0G he G.cl hm F hr hb hd hx ht
theorem pe_mk (G : Mkr X.prog X.w X.K X.mg X.base CX k x C dvs sp) (hr : Rm (k + 1) X.A) (hx : Passes CX X E) (ha : PA X (e :: es) t) (hg : Gl X x := by rfl) (hdb : (x == ("__debug__" : Str)) = false := by decide)
    (he : starEach (e :: es) X.env = (false, eval e X.env) :: starEach es X.env := by rfl) (hpl : (backTo pos (starEach es X.env)).any (·.1) = false := by rfl) (hH : HotC X := by assumption) : PE X (.Call (.Name x p) (e :: es) [] pos) (tMake C sp dvs E t) := by
  obtain ⟨f, fd, ps, ds, M, hm, hb, hd, F⟩ := G.ex
  exact pe_makeG M F hr hg hm hb hd hx ha hdb he hpl
theorem pe_mk0 (G : Mkr X.prog X.w X.K X.mg X.base CX k x C dvs sp) (hr : Rm (k + 1) X.A) (hx : Passes CX X E) (hg : Gl X x := by rfl) (hdb : (x == ("__debug__" : Str)) = false := by decide) (hH : HotC X := by assumption) : PE X (.Call (.Name x p) [] [] pos) (tMake C sp dvs E tNil) := by
  obtain ⟨f, fd, ps, ds, M, hm, hb, hd, F⟩ := G.ex
  exact pe_make0G M F hr hg hm hb hd hx hdb
theorem pe_pr (G : Prp X.prog X.w X.K X.mg X.base CX k C m sp) (hr : Rm (k + 1) X.A) (hx : Passes CX X.nox E) (he : PE X e ta) (hab : attributeBase e m X.env (eval e X.env) = eval e X.env := by rfl) (hH : HotC X := by assumption) : PE X (.Attribute e m pos) (tPr C sp E ta) := by
  obtain ⟨p, g, fd, ps, hp, hb, F⟩ := G.ex
  refine ⟨fun pins s σ H Q I h => attr_of hab (thn (he.run pins s σ H _ I h) fun u s1 hh => ?_)⟩
  obtain ⟨x, H1, I1, rx, a, dx, fs, rfl, ea, q⟩ := hh
  obtain rfl : u = Value.ref a := rx
  obtain ⟨od, J⟩ := inst_of I1 ea
  have c := G.cl
  have hc : (PySem.W.clsIn X.K C).isSome = true := by
    obtain ⟨cd, hc, _⟩ := PySem.W.any_some c.hd
    rw [hc]
    rfl
  obtain ⟨rest, hrec⟩ := hp.rec_
  have I2 : Inv X pins σ H1 { s1 with toks := s1.toks + 1 } := I1.tok _
  have hl : ([Value.ref a] : List Value).length = ps.length := F.len _ _ _ _ q
  refine PySem.W.get_bind I1.kIn J (PySem.W.plainGet_of (c.get m)).1 (PySem.W.findObj_data hc hp.at_ hp.get hp.tak) (PySem.W.plainGet_of (c.get m)).2 (wpAny_call (PySem.W.prop_get (s := { s1 with toks := s1.toks + 1 }) I1.kIn hrec ?_))
  have go := F.run X.A.in1 X.stack { s1 with toks := s1.toks + 1 } H1 ⟨[.ref a], []⟩ [.ref a] [.ref a] Q E hr.in1 (env0H hH I2).in1 (hb _ [.ref a] I2.kIn hl) (.cons rfl .nil) q
  refine codeAny_mono go fun r s' hq => ?_
  match r, hq with
  | .error er, hq => exact False.elim (hx pins σ H1 _ er s' (I2.wish _) hq)
  | .ok (.ret u), hq =>
    obtain ⟨v, H', I3, rv, q3⟩ := I2.after hq
    exact wpAny_of_eq (PySem.W.handedOut_of (handed_of rv)) ⟨v, H', I3, rv, q3⟩
  | .ok .next, hq => exact False.elim hq
  | .ok .brk, hq => exact False.elim hq
  | .ok .cont, hq => exact False.elim hq
/-! ### some operators -/
end
section
variable (P : Program) (w : World) (K : PySem.W.Frag) (mg : Str → Option Value) (base : Heap) (CX : CXT) (k : Nat)
structure SpF (C : Addr) (m : Str) (sp : Sp) : Prop where
  ex : ∃ (f : Addr) (fd : FuncData) (ps : List Str), PySem.W.findIn K (.ref C) m = some (some (.ref f)) ∧ PySem.W.isFn K (.ref f) = true ∧ Binds K fd ps [] ∧ FnG P w K mg base CX k f fd ps sp
end
section
variable {X : Cx} {CX : CXT} {k : Nat} {C : Addr} {sp : Sp} {E : XK}
theorem un_negF (O : SpF X.prog X.w X.K X.mg X.base CX k C "__neg__" sp) (hr : Rm k X.A) (hx : Passes CX X E) (hH : HotC X := by assumption) : UnR X (unaryOp .USub) (rNeg C sp E) := by
  obtain ⟨f, fd, ps, o1, o2, hb, F⟩ := O.ex
  exact un_own o1 o2 F hr hb hx
theorem op_eqF (O : SpF X.prog X.w X.K X.mg X.base CX k C "__eq__" sp) (hr : Rm k X.A) (hx : Passes CX X E) (hH : HotC X := by assumption) : OpR X (compareOp .Eq) (rEqO X.K C sp E) := by
  obtain ⟨f, fd, ps, o1, o2, hb, F⟩ := O.ex
  exact op_eqO o1 o2 F hr hb hx
theorem call_reprOF (O : SpF X.prog X.w X.K X.mg X.base CX k C "__repr__" sp) (hr : Rm (k + 1) X.A) (hx : Passes CX X E) (hH : HotC X := by assumption) : CallR X (.builtin "repr") (rShow C sp E) := by
  obtain ⟨f, fd, ps, o1, o2, hb, F⟩ := O.ex
  exact call_reprO o1 o2 F hr hb hx
theorem call_strOF (O : SpF X.prog X.w X.K X.mg X.base CX k C "__str__" sp) (hr : Rm (k + 2) X.A) (hx : Passes CX X E) (hH : HotC X := by assumption) : CallR X (.type "str") (rShow C sp E) := by
  obtain ⟨f, fd, ps, o1, o2, hb, F⟩ := O.ex
  exact call_strO o1 o2 F hr hb hx
end
section
variable {X : Cx} {CX : CXT} {k : Nat} {C : Addr} {sp : Sp} {E : XK}
theorem pe_fmtO {e : Expr} {te : TE} {pos : Pos} (O : SpF X.prog X.w X.K X.mg X.base CX k C "__str__" sp) (hfm : PySem.W.findIn X.K (.ref C) "__format__" = some (some (.builtin "object.__format__"))) (hm : PySem.W.mroIn X.K C (.type "object") = some true)
    (hr : Rm (k + 1) X.A) (hx : Passes CX X E) (he : PE X e te) (hH : HotC X := by assumption) : PE X (.FormattedValue e (-1) none pos) (tFmtO C sp E te) := by
  obtain ⟨f, fd, ps, hs, hf, hb, F⟩ := O.ex
  refine ⟨fun pins s σ H Q I h => ?_⟩
  refine wpAny_FormattedValue_plain (thn (he.run pins s σ H _ I h) fun v s1 hv => ?_)
  obtain ⟨x, H1, I1, r1, a, dx, fs, rfl, ha, q⟩ := hv
  cases (show v = Value.ref a from r1)
  obtain ⟨od, J⟩ := inst_of I1 ha
  have hr2 : Rm k X.A.in1 := hr.in1
  refine PySem.W.kfo_fieldS hr2.units0 I1.kIn J hfm hm hs hf (thn (run_g (us := [.ref a]) (vs := [.ref a]) (dvs := []) F hr2 (env0H hH (I1.tok (s1.toks + 1))).in1 hb .nil hx (I1.tok (s1.toks + 1)) (.cons rfl .nil) q) fun w s' z => ?_)
  obtain ⟨z', H', I', rz, y, rfl, qz⟩ := z
  obtain ⟨t, rfl⟩ := (show ∃ t, w = Value.str y t from rz)
  exact ⟨.str y, H', I', ⟨t, rfl⟩, qz⟩
end
section
variable (P : Program) (w : World) (K : PySem.W.Frag) (mg : Str → Option Value) (base : Heap) (CX : CXT) (k : Nat)
/-- C(..) keeps sp: its __init__ does, at each new instance -/
structure Mkf (x : Str) (sp : Sp) : Prop where
  ex : ∃ (C : Addr) (dvs : List V) (si : Sp), Mkr P w K mg base CX k x C dvs si ∧ ∀ vs H Q E, sp vs H Q E → ∀ a dx, H a = none → H dx = none → dx ≠ a → si (.ref a :: (vs ++ dvs)) (upd (upd H dx (.own a)) a (.ins C dx [])) (fun v H2 => v = .non ∧ Q (.ref a) H2) E
end
section
variable {X : Cx} {CX : CXT} {k : Nat} {sp : Sp} {E : XK} {x : Str} {p pos : Pos} {e : Expr} {es : List Expr} {t : TA}
theorem pe_mf (G : Mkf X.prog X.w X.K X.mg X.base CX k x sp) (hr : Rm (k + 1) X.A) (hx : Passes CX X E) (ha : PA X (e :: es) t) (hg : Gl X x := by rfl) (hdb : (x == ("__debug__" : Str)) = false := by decide)
    (he : starEach (e :: es) X.env = (false, eval e X.env) :: starEach es X.env := by rfl) (hpl : (backTo pos (starEach es X.env)).any (·.1) = false := by rfl) (hH : HotC X := by assumption) : PE X (.Call (.Name x p) (e :: es) [] pos) (tCall sp [] E t) := by
  obtain ⟨C, dvs, si, ⟨f, fd, ps, ds, M, hm, hb, hd, F⟩, conv⟩ := G.ex
  refine ⟨fun pins s σ H Q I h => wpAny_Call_Name_kw (ld_glob I hg hm (PySem.W.callWith_K (h₀ := X.base) I.ok.mod.kin M.kp (thn (ha.run pos pins s σ H _ I h) fun us s1 z => ?_) he hpl) hdb)⟩
  obtain ⟨vs, H1, I1, r, q⟩ := z
  exact ⟨I1.kIn, run_makeG M F hr hb hd hx I1 r (conv vs H1 Q E (by simpa using q))⟩
theorem pe_mf0 (G : Mkf X.prog X.w X.K X.mg X.base CX k x sp) (hr : Rm (k + 1) X.A) (hx : Passes CX X E) (hg : Gl X x := by rfl) (hdb : (x == ("__debug__" : Str)) = false := by decide) (hH : HotC X := by assumption) : PE X (.Call (.Name x p) [] [] pos) (tCall sp [] E tNil) := by
  obtain ⟨C, dvs, si, ⟨f, fd, ps, ds, M, hm, hb, hd, F⟩, conv⟩ := G.ex
  exact ⟨fun pins s σ H Q I h => wpAny_Call_Name_kw (ld_glob I hg hm (PySem.W.callWith_K0 I.kIn M.kp (run_makeG (us := []) M F hr hb hd hx I .nil (conv [] H Q E h))) hdb)⟩
end
section
open LL
variable {X : Cx} {CX : CXT} {k : Nat} {C : Addr} {sp : Sp} {E : XK}
theorem op_eqDO (G : SpF X.prog X.w X.K X.mg X.base CX k C "__eq__" sp) (hr : Rm (k + 1) X.A) (hx : Passes CX X.nox E) (hH : HotC X := by assumption) : OpR X (compareOp .Eq) (rEqDO X.K C sp E) := by
  obtain ⟨f, fd, ps, hs, hf, hb, F⟩ := G.ex
  intro pins s σ H x y v u Q I rx ry h
  obtain ⟨a, b, ks, ls, c, rfl, rfl, ha, hb', hn, he, q⟩ := h
  cases (show v = Value.ref a from rx)
  cases (show u = Value.ref b from ry)
  obtain ⟨_, na, va, ra, da⟩ := dk_of I.hok ha
  obtain ⟨_, nb, vb, rb, db⟩ := dk_of I.hok hb'
  -- both locked
  obtain ⟨oa, I1⟩ := I.lock ha trivial
  have ga : s.heap.get? a = some oa := (show ObjOk X.prog X.w _ s.heap a (.frz oa (.dK ks)) from I1.hok a _ upd_same).1
  have lockB : ∃ (ob : Obj) (H2 : Hp), s.heap.get? b = some ob ∧ Inv X pins σ H2 s ∧ SmD H H2 ∧ H2 a = some (.frz oa (.dK ks)) ∧ H2 b = some (.frz ob (.dK ls)) ∧
      ∀ (H' : Hp) (u : Shared), Same H2 H' → Inv X pins σ H' u → ∃ H3, Inv X pins σ H3 u ∧ Same H H3 := by
    by_cases e : b = a
    · subst e
      rw [ha] at hb'
      cases hb'
      refine ⟨oa, _, ga, I1, lock_smd ha, upd_same, upd_same, fun H' u sm I2 => ⟨_, I2.unlock (sm _ _ upd_same) (I.nofrz ha trivial), fun d o e => ?_⟩⟩
      by_cases cd : d = b
      · subst cd
        rw [ha] at e
        rw [upd_same]
        exact e
      · rw [upd_ne cd]
        exact sm _ _ (by rw [upd_ne cd]; exact e)
    · have hb1 : upd H a (.frz oa (.dK ks)) b = some (.dK ls) := by rw [upd_ne e]; exact hb'
      obtain ⟨ob, I2⟩ := I1.lock hb1 trivial
      have nba : a ≠ b := fun z => e z.symm
      refine ⟨ob, _, (show ObjOk X.prog X.w _ s.heap b (.frz ob (.dK ls)) from I2.hok b _ upd_same).1, I2, fun d o h n => lock_smd hb1 d o (lock_smd ha d o h n) n, by rw [upd_ne nba, upd_same], upd_same, fun H' u sm I3 => ?_⟩
      have I4 := I3.unlock (sm _ _ upd_same) (I1.nofrz hb1 trivial)
      refine ⟨_, I4.unlock (d := a) (by rw [upd_ne nba]; exact sm _ _ (by rw [upd_ne nba, upd_same])) (I.nofrz ha trivial), fun d o h => ?_⟩
      by_cases ca : d = a
      · subst ca
        rw [ha] at h
        rw [upd_same]
        exact h
      · rw [upd_ne ca]
        by_cases cb : d = b
        · subst cb
          rw [hb'] at h
          rw [upd_same]
          exact h
        · rw [upd_ne cb]
          exact sm _ _ (by rw [upd_ne cb, upd_ne ca]; exact h)
  obtain ⟨ob, H2, gb, I2, smd, h2a, h2b, back⟩ := lockB
  let St : Shared → Prop := fun u => ∃ H', Same H2 H' ∧ Inv X pins σ H' u
  have lks : ks.length = va.length := ra.length
  have lls : ls.length = vb.length := rb.length
  refine SeqAt.rcO_dicts (knd := mixKind X.prog X.w) (c := c) (St := St) na nb da db ⟨H2, Same.rfl', I2⟩ (fun u ⟨H', sm, I'⟩ => ?_) (by have := hr.un; omega) (fun hl i hi => ?_) _ _ ?_
  · rw [ga, gb]
    exact ⟨(show ObjOk X.prog X.w _ u.heap a (.frz oa (.dK ks)) from I'.hok a _ (sm _ _ h2a)).1, (show ObjOk X.prog X.w _ u.heap b (.frz ob (.dK ls)) from I'.hok b _ (sm _ _ h2b)).1⟩
  · have hik : i < ks.length := by rw [lks]; exact hi
    obtain ⟨ek, ev⟩ : ks[i].1 = va[i].1 ∧ L2.RelV ks[i].2 va[i].2 := paired_at ra (List.getElem?_eq_getElem hik) (List.getElem?_eq_getElem hi)
    rcases he (by rw [lks, lls]; exact hl) i ks[i] (List.getElem?_eq_getElem hik) with ⟨no, cf⟩ | ⟨x, y, e1, e2, ⟨dx, fs, hx'⟩, ⟨dy, gs, hy'⟩, same, go⟩
    · refine .inl ⟨?_, cf⟩
      rw [← ek]
      exact RelO.none_of (by rw [← no]; exact rb.val _)
    · refine .inr ?_
      obtain ⟨y', hy2, ry'⟩ := RelO.some_of (v := .ref y) (o := valueAt vb ks[i].1) (by rw [← e2]; exact rb.val _)
      cases ry'
      rw [e1] at ev
      refine ⟨.ref y, by rw [← ek]; exact hy2, ?_⟩
      rw [show va[i].2 = Value.ref x from ev]
      rintro s1 ⟨H3, sm, I3⟩ E1 Q1 hq1
      unfold eqBool
      refine wpAny_holding ?_
      refine wpAny_ite_split (fun hab => ?_) (fun hab => ?_)
      · refine wpAny_pure (M := model X.prog X.w) (E := E1) ?_
        have e : x = y := by
          have := eq_of_beq hab
          injection this
        have := hq1 s1 ⟨H3, sm, I3⟩
        rw [same e] at this
        exact this
      · have smd3 : SmD H H3 := fun d o e n => sm _ _ (smd d o e n)
        obtain ⟨od, J⟩ := inst_of I3 (smd3 _ _ hx' (fun _ z => by cases z))
        obtain ⟨m, hF⟩ := I3.fr
        obtain ⟨od', J'⟩ := inst_of I3 (smd3 _ _ hy' (fun _ z => by cases z))
        refine wpAny_bind ?_
        refine PySem.W.cmp_K (op := .Eq) hr.in1.units0 hF I3.ok.mod.kin J J'.type hn hs hf ?_
        have go1 := run_g (X := X.nox) (us := [.ref x, .ref y]) (vs := [.ref x, .ref y]) (dvs := []) F hr.in1 (env0H hH (I3.wish _)).in1 hb .nil hx (I3.wish _) (.cons rfl (.cons rfl .nil)) (by rw [List.append_nil]; exact go H3 smd3)
        refine wpAny_mono go1 (fun w s' z => ?_) fun _ _ z => z.elim
        obtain ⟨z', H', I', rz, rfl, sm'⟩ := z
        cases (show w = Value.bool (c i) from rz)
        exact SlX.cmpback (show RelV (.bl (c i)) (.bool (c i)) from rfl) (wpAny_truthy_bool (hq1 s' ⟨H', sm.trans sm', I'.wish _⟩))
  · rintro s1 ⟨H3, sm, I3⟩
    obtain ⟨H4, I4, sm4⟩ := back _ _ sm I3
    refine ⟨.bl _, H4, I4, ?_, q H4 sm4⟩
    show _ = _
    rw [lks, lls]
    by_cases e : va.length = vb.length <;> simp [e]
end
end LH

set_option Elab.async false
set_option linter.all false
set_option maxRecDepth 100000
set_option maxHeartbeats 2000000
/-! LLExcN: own errors raised, known to have no context; what a suite may ask then. -/
namespace LN
open PySem PySem.Spec PyProof.Rows L2 LL
/-- the suite is hot -/
theorem hot_suite {X : Cx} {e : Addr} {oe : Obj} {cls : Value} {d : Option Addr} {pn : List (Addr × Obj)} (hz : L2N.Zn cls d oe) (hf : ∃ fs, oe.data = .fields fs) : L2H.HotC (X.suite e ((e, oe) :: pn)) :=
  let ⟨fs, hd⟩ := hf
  ⟨(e, oe), ⟨rfl, fs, hd, hz.2.2 fs hd⟩, List.mem_cons_self⟩
section
variable {X : Cx} {k : Nat} {C : Addr} {x f : Str} {W : WX} {e : Expr} {es : List Expr} {te : TE} {ta : TA} {p pos rpos : Pos}
/-- C(e, ..) where nothing is handled -/
theorem pmk_oexN {CX : CXT} {fI : Addr} {fd : FuncData} {ps : List Str} {sp : Sp} {ds : List Value} {dvs : List V} (T : OexC X.K C) (iC : PySem.W.findIn X.K (.ref C) "__init__" = some (some (.ref fI))) (tI : PySem.W.typeIn X.K (.ref fI) = some (.type "function")) (F : FnOk X.prog X.w X.K X.mg X.base CX k fI fd ps sp)
    (hr : Room (k + 1) X.A) (hb : Binds X.K fd ps ds) (hd : Vals dvs ds) (hx : Passes CX X (fun _ _ _ => False)) (hg : Gl X x) (hm : X.mg x = some (.ref C)) (ha : PA X (e :: es) ta) (hdb : (x == ("__debug__" : Str)) = false := by decide)
    (he : starEach (e :: es) X.env = (false, eval e X.env) :: starEach es X.env := by rfl) (hpl : (backTo pos (starEach es X.env)).any (·.1) = false := by rfl) : L2N.PMk X (.Call (.Name x p) (e :: es) [] pos) (tMkO C sp dvs ta) := by
  intro pins s σ H Q I h
  obtain ⟨nm, q, N, bs, bm, sn, sub, ab, col, dd, k0, k1, k2, k3, k5, hC, hbm⟩ := T.cls
  refine wpAny_Call_Name_kw (ld_glob I hg hm (PySem.W.callWith_K (h₀ := X.base) I.ok.mod.kin T.kC (thn (ha.run pos pins s σ H _ I h) fun us s1 ⟨vs, H1, I1, r1, hz, q1⟩ => ⟨I1.kIn, ?_⟩) he hpl) hdb)
  obtain ⟨hp, g, dr, tk, os⟩ := s1
  have up : hp.objs.size ≤ hp.objs.size + 1 := Nat.le_succ _
  have hq := q1 (hp.objs.size + 1) (I1.hok.fresh up)
  have keep : ∀ b o, hp.get? b = some o → ((hp.push (PySem.W.kdv_tup us)).push (PySem.HandSPX.excO C hp.objs.size)).get? b = some o := fun b o e => Heap.get?_push_of_some _ (Heap.get?_push_of_some _ e)
  have at_ : ((hp.push (PySem.W.kdv_tup us)).push (PySem.HandSPX.excO C hp.objs.size)).get? (hp.objs.size + 1) = some (PySem.HandSPX.excO C hp.objs.size) := by heap_get
  have I2 : Inv X pins σ (upd H1 (hp.objs.size + 1) (exo (hp.objs.size + 1) C none)) ⟨(hp.push (PySem.W.kdv_tup us)).push (PySem.HandSPX.excO C hp.objs.size), g, dr, tk, os⟩ :=
    I1.laid (t' := tk) (a := hp.objs.size + 1) (o := exo (hp.objs.size + 1) C none) (h' := (hp.push (PySem.W.kdv_tup us)).push (PySem.HandSPX.excO C hp.objs.size)) keep up (exo_ok at_)
  have r2 : Vals (V.ref (hp.objs.size + 1) :: (vs ++ dvs)) (Value.ref (hp.objs.size + 1) :: (us ++ ds)) := .cons rfl (r1.append hd)
  have hl : (Value.ref (hp.objs.size + 1) :: us ++ ds).length = ps.length := r2.length.symm.trans (F.len _ _ _ _ hq)
  have hus : us.length ≤ sizeLine := Nat.le_trans (Nat.le_of_eq (Paired.length r1).symm) (Nat.le_trans hz (by rw [sizeLine_eq]; decide))
  have go := F.run _ X.stack _ _ ⟨Value.ref (hp.objs.size + 1) :: us, []⟩ (Value.ref (hp.objs.size + 1) :: (us ++ ds)) _ _ (fun _ _ _ => False) (hr.make C us []) (I2.env0.make C us []) (hb _ (Value.ref (hp.objs.size + 1) :: us) I2.kIn hl) r2 hq
  refine wpAny_call (PySem.HandSPX.call_own PySem.F.excBase_ValueError (fun Y => PySem.HandSPX.refsVE_contains Y bm hbm) (I1.kIn _ _ hC) (PySem.W.looks_findIn I1.kIn iC) (fun self => PySem.W.bind_fn I1.kIn self tI) hus (codeAny_mono go fun r s' hq' => ?_))
  match r, hq' with
  | .error er, hq' => exact hx pins σ _ _ er s' I2 hq'
  | .ok (.ret u), hq' =>
    obtain ⟨v, H2, os2, bare2, un2, hok2, rv, ev, d, fs, ea, ed, hd1, q2⟩ := hq'
    subst ev
    obtain ⟨h2, g2, d2, t2, os'⟩ := s'
    obtain ⟨t0, G, J, kG, ge, hoe, na⟩ := mk_end0 (d2 := d2) (t2 := t2) I1 up keep un2 hok2 os2 bare2 ea ed hd1
    exact ⟨rv, hp.objs.size + 1, _, _, ⟨G, g2, d2, t2, os'⟩, _, .ref C, some d, rfl, J, kG, ge, hoe, ⟨rfl, rfl, fun vs hv => by cases hv; rfl⟩, rfl, rfl, na, rfl, bare2, raises_own T.exC T.tyC, q2⟩
  | .ok .next, hq' => exact False.elim hq'
  | .ok .brk, hq' => exact False.elim hq'
  | .ok .cont, hq' => exact False.elim hq'
/-- raise C(v) -/
theorem ps_raiseX (G : Xcl X.prog X.w X.K X.mg X.base k x C f) (hr : Room (k + 1) X.A) (tk : L2N.Takes X W) (he : PE X e te) (hc : X.calm = true := by rfl) (hg : Gl X x := by rfl) (hdb : (x == ("__debug__" : Str)) = false := by decide)
    (se : starEach [e] X.env = (false, eval e X.env) :: starEach [] X.env := by rfl) (sn : (backTo pos (starEach [] X.env)).any (·.1) = false := by rfl) :
    PS X (.Raise (some (.Call (.Name x p) [e] [] pos)) none rpos) (fun _ σ H => tMkO C (spXI C f) [] (tCons te tNil) σ H fun cls d H' => W cls d σ H') := by
  obtain ⟨fI, fd, ps, h1, h2, h3, h4⟩ := G.ex
  exact L2N.ps_raise hc tk (pmk_oexN G.T h1 h2 h4 hr h3 .nil pass0 hg G.mx (pa_cons he pa_nil (hs := se)) hdb se sn)
/-- raise C('text'), C without an __init__ of its own -/
theorem ps_raiseO {m : Str} {j : Nat} {p2 : Pos} (G : XclO X.K X.mg x C) (tk : L2N.Takes X W) (hc : X.calm = true := by rfl) (hg : Gl X x := by rfl) (hdb : (x == ("__debug__" : Str)) = false := by decide) :
    PS X (.Raise (some (.Call (.Name x p) [.Constant (.str m) j p2] [] pos)) none rpos) (fun _ σ H => W (.ref C) none σ H) := by
  obtain ⟨B, n, i, bm, F, q⟩ := G.ex
  exact L2N.ps_raise hc tk (L2N.pmk_own F q G.mx G.kC (raises_own G.sb G.ty) hg hdb)
end
end LN

set_option Elab.async false
set_option linter.all false
set_option maxRecDepth 100000
set_option maxHeartbeats 2000000
/-! LLLamN: x(lambda: body), the errors known to have no context. -/
namespace LN
open PySem PySem.Spec PyProof.Rows L2 LamX LL
/-- a lambda's context: what leaves it is known to have no context -/
abbrev lamCxN (X : Cx) (A : Around) (outer : List Env) (s : Shared) (H : Hp) (E : XK) (scope : Scope) (f c' : Addr) : Cx := { lamCx X A outer s H E scope f c' with xe := fun e s' => wpAny (model X.prog X.w) (A.deeper (lamEnv X scope s.heap.objs.size f c')) (leaving (lamEnv X scope s.heap.objs.size f c') e) (fun _ s'' => L2N.CX X.prog X.w outer H s E e s'') (fun e' s'' => L2N.CX X.prog X.w outer H s E e' s'') s' }
section
variable {X : Cx} {pins : List (Addr × Obj)} {σ : L2.St} {H : Hp} {s : Shared}
/-- the call of the lambda, in the def that got it -/
theorem pe_run {CXg : CXT} {Eg : XK} {Ng : List Str} {qg : Str} {sg : Scope} {g f c' : Addr} {cdg pm ctv : Value} {params : Arguments} {body : Expr} {scope : Scope} {k i : Nat} {y : Str} {pn : List (Addr × Obj)} {xe : Value → Shared → Prop} {W : WX} {E : XK} {tb : TE} {p1 p2 : Pos}
    (I : Inv X pins σ H s) (L : LamS X.env.scope scope) (of : s.heap.get? f = some (PySem.W.kla_obj "<lambda>" (X.env.qual ++ "<lambda>") params body scope (cloFrom X.env.cells scope.names []) pm c' ctv)) (fn : H f = none) (fo : f ∉ frs X.stack)
    (ba : bindArgs (PySem.W.kla_fn "<lambda>" (X.env.qual ++ "<lambda>") params body scope (cloFrom X.env.cells scope.names []) pm (.ref c') ctv) ⟨[], []⟩ = pure [])
    (tk : L2N.Takes ((cxOf CXg X.prog X.w X.K X.mg X.base Ng qg sg g cdg X.A X.stack s H Eg).tr pn xe) W) (hr : Rm (k + 1) (X.A.deeper (envOfC qg sg s.heap.objs.size g cdg)))
    (hb : ∀ (A : Around) (outer : List Env) (s : Shared) (H : Hp), Rm k (A.deeper (lamEnv X scope s.heap.objs.size f c')) → PE (lamCxN X A outer s H E scope f c') body tb)
    (hN : Ng[i]? = some y) (hv : Vis sg y) (hd : (y == ("__debug__" : Str)) = false := by decide) (hcd : (y == ("__classdict__" : Str)) = false := by decide) :
    PE ((cxOf CXg X.prog X.w X.K X.mg X.base Ng qg sg g cdg X.A X.stack s H Eg).tr pn xe) (.Call (.Name y p1) [] [] p2)
      (fun τ G Q => τ[i]? = some (some (.ref f)) ∧ G c' = some (CodeO c' (X.env.qual ++ "<lambda>")) ∧ (∀ cls d G', E cls d G' → W cls d τ G') ∧ tb σ G Q) := by
  constructor
  intro pz sz τ G Q J h
  obtain ⟨h1, h2, hW, h3⟩ := h
  have look := (pe_var (pos := p1) (i := i) hN hv hd hcd).run pz sz τ G (fun v G1 => v = .ref f ∧ G1 = G) J ⟨.ref f, h1, rfl, rfl⟩
  refine wpAny_Call_Name_kw (thn look fun u s1 z => ?_)
  obtain ⟨v, G1, J1, rv, rfl, rfl⟩ := z
  cases (show u = Value.ref f from rv)
  have of1 := J1.base.keep f _ of fn fo (fun z => nomatch (show f ∈ ([] : List Addr) from z))
  refine PySem.W.callWith_F0 ⟨_, _, _, _, of1⟩ ?_
  obtain ⟨⟨oc, vs, t, co1, co2, co3⟩, _, _⟩ := J1.hok c' _ h2
  have run : codeAny (model X.prog X.w) (X.A.deeper (envOfC qg sg s.heap.objs.size g cdg)) (.call (.ref f) ⟨[], []⟩) (CR (L2N.CX X.prog X.w) (envOfC qg sg s.heap.objs.size g cdg :: X.stack) X.prog X.w G1 s1 Q E) s1 := by
    refine PySem.W.kla_callFunE hr.r.depth of1 rfl L.co L.gen rfl ⟨c', oc, vs, t, rfl, co1, co2, co3⟩ ?_
    rw [ba]
    refine wpAny_pure (wpAny_newFunctionEnv (fun n hn => (L.own n hn).2) (fun n hn => absurd hn (by simp)) (fun h₁ ns1 sb => ⟨J1.nolimit.fresh _ sb, ?_⟩) L.kind)
    show codeAny _ _ (.expr body (lamEnv X scope s1.heap.objs.size f c')) _ _
    have kp : ∀ b o, s1.heap.get? b = some o → h₁.get? b = some o := fun b o e => sb.extBut b o (Nat.ne_of_lt (Heap.lt_size e)) (Heap.get?_push_of_some _ e)
    have S0 : Inv (lamCx X (X.A.deeper (envOfC qg sg s.heap.objs.size g cdg)) (envOfC qg sg s.heap.objs.size g cdg :: X.stack) s1 G1 E scope f c') [] σ G1 { s1 with heap := h₁, toks := s1.toks + ([] : List (Str × Value)).length } :=
      lam_start2 I L J1.env0 hr.r.hd J1.base ns1 kp
    have S : Inv (lamCxN X (X.A.deeper (envOfC qg sg s.heap.objs.size g cdg)) (envOfC qg sg s.heap.objs.size g cdg :: X.stack) s1 G1 E scope f c') [] σ G1 { s1 with heap := h₁, toks := s1.toks + ([] : List (Str × Value)).length } := S0.wish _
    refine PySem.W.kla_codeExpr (wpAny_mono ((hb _ _ s1 G1 (hr.deeper _)).run [] _ _ G1 Q S h3) (fun v s2 z => ?_) fun _ _ z => z)
    obtain ⟨w', G2, S2, rv2, q⟩ := z
    exact ⟨w', G2, S2.os, S2.bare, S2.base, S2.hok, rv2, q⟩
  refine wpAny_call (codeAny_mono run fun r s2 z => ?_)
  match r, z with
  | .error e, z => exact tk _ _ (L2N.XE.of_call J1 hW z)
  | .ok (.ret u), z => exact J1.after z
  | .ok .next, z => exact z.elim
  | .ok .brk, z => exact z.elim
  | .ok .cont, z => exact z.elim
end
/-- the def x that calls what it got by its one name y: TT is what it makes of the lambda's reading -/
def Gives (X : Cx) (k : Nat) (Ng : List Str) (x : Str) (sg : Scope) (g : Addr) (cdg : Value) (bg : List Stmt) (y : Str) (q : Str) (TT : (XK → Hp → VK → Prop) → Hp → VK → Prop) : Prop :=
  ∀ (f c' : Addr) (s : Shared) (H : Hp) (Q : VK) (tl : XK → Hp → VK → Prop), Rm k (X.A.deeper (envOfC x sg s.heap.objs.size g cdg)) →
    (∀ (W : WX) (pn : List (Addr × Obj)) (xe : Value → Shared → Prop) (E : XK) (p1 p2 : Pos), L2N.Takes ((cxOf CX0 X.prog X.w X.K X.mg X.base Ng x sg g cdg X.A X.stack s H E0).tr pn xe) W →
      PE ((cxOf CX0 X.prog X.w X.K X.mg X.base Ng x sg g cdg X.A X.stack s H E0).tr pn xe) (.Call (.Name y p1) [] [] p2) (fun τ G Q => τ[0]? = some (some (.ref f)) ∧ G c' = some (CodeO c' q) ∧ (∀ cls d G', E cls d G' → W cls d τ G') ∧ tl E G Q)) →
    H c' = some (CodeO c' q) → TT tl H Q →
    ∃ t, PSs (cxOf CX0 X.prog X.w X.K X.mg X.base Ng x sg g cdg X.A X.stack s H E0).nox bg t ∧ t { nx := fun _ H' => Q .non H', rt := Q } (L2.start Ng [.ref f]) H
/-- the def x, as one fact: it calls what it gets, and makes TT of it -/
structure Taker (P : Program) (w : World) (K : PySem.W.Frag) (mg : Str → Option Value) (base : Heap) (k : Nat) (x y : Str) (TT : (XK → Hp → VK → Prop) → Hp → VK → Prop) : Prop where
  ex : ∃ (g : Addr) (fd : FuncData) (pg : Arguments) (bg : List Stmt) (sg : Scope) (Ng : List Str), mg x = some (.ref g) ∧ FunD K x x pg bg sg [] [] g fd ∧ FnScope Ng [y] sg ∧ Ng[0]? = some y ∧ Vis sg y ∧ Binds K fd [y] [] ∧
    ∀ (X : Cx) (cdg : Value) (q : Str), X.prog = P → X.w = w → X.K = K → X.mg = mg → X.base = base → Gives X k Ng x sg g cdg bg y q TT
section
variable {X : Cx}
/-- x(lambda: body) -/
theorem pe_lamG {T : List (Addr × Str)} {TT : (XK → Hp → VK → Prop) → Hp → VK → Prop} {x y : Str} {c P : Addr} {k : Nat} {params : Arguments} {body : Expr} {scope : Scope} {t : XK → TE} {p lpos pos : Pos} (G : Taker X.prog X.w X.K X.mg X.base (k + 1) x y TT)
    (TB : TabB X.base X.mg c P) (hcode : X.env.code = .ref c) (hmT : (P, X.env.qual ++ "<lambda>") ∈ T) (hu : ∀ p ∈ T, p.1 = P → p.2 = X.env.qual ++ "<lambda>") (hr : Rm (k + 2) X.A) (L : LamS X.env.scope scope)
    (hbody : ∀ (A : Around) (outer : List Env) (s : Shared) (H : Hp) (E : XK) (f c' : Addr), Rm k (A.deeper (lamEnv X scope s.heap.objs.size f c')) → PE (lamCxN X A outer s H E scope f c') body (t E)) (hg : Gl X x := by rfl)
    (hdef : defaultsOf params X.env = ([], []) := by rfl) (hbind : ∀ (q : Str) (cl : List (Str × Addr)) (pm cv ctv : Value), bindArgs (PySem.W.kla_fn "<lambda>" q params body scope cl pm cv ctv) ⟨[], []⟩ = pure [] := by intros; rfl)
    (hdb : (x == ("__debug__" : Str)) = false := by decide) (hd : (y == ("__debug__" : Str)) = false := by decide) (hcd : (y == ("__classdict__" : Str)) = false := by decide) :
    PE X (.Call (.Name x p) [.Lambda params body scope lpos] [] pos) (tLam T TT t) := by
  obtain ⟨g, fd, pg, bg, sg, Ng, hm, FF, Sg, hNg, hva, hb, hG⟩ := G.ex
  obtain ⟨oc, od, dV, kV, doc, pm, an, cdv, ct, osl, rfl, lk, hcg, _, _⟩ := FF.ex
  constructor
  intro pins s σ H Q I h
  obtain ⟨hT, h⟩ := h
  refine wpAny_Call_Name_kw (ld_glob I hg hm (PySem.W.callWith_K (h₀ := X.base) I.ok.mod.kin FF.kp ?_ (by rfl) (by rfl)) hdb)
  show wpAny _ _ (spliced ((false, eval (.Lambda params body scope lpos) X.env) :: backTo pos (starEach [] X.env))) _ _ s
  refine Calls.spliced_cons (lam_make2 I TB hcode hmT hu hT hdef (L.has I.ok) fun f c' pm' ctv H1 s1 I1 eN T1 of fn fo co => Calls.spliced_nil ⟨I1.kIn, ?_⟩)
  have run : codeAny (model X.prog X.w) X.A (.call (.ref g) ⟨[.ref f], []⟩) (CR CX0 X.stack X.prog X.w H1 s1 Q E0) s1 := by
    refine run_ofS (N := Ng) (ps := [y]) (us := [.ref f]) (vs := [.ref f]) lk hcg Sg hr.r I1.env0 (hb s1 [.ref f] I1.kIn rfl) (.cons rfl .nil) rfl fun _ => ?_
    have hr1 : Rm (k + 1) (X.A.deeper (envOfC x sg s1.heap.objs.size g cdv)) := hr.deeper _
    obtain ⟨t', ht, hq⟩ := hG X cdv (X.env.qual ++ "<lambda>") rfl rfl rfl rfl rfl f c' s1 H1 Q (fun E H' Q' => t E σ H' Q') hr1
      (fun W pn xe E p1 p2 tk => pe_run (i := 0) I1 L of fn fo (hbind _ _ _ _ _) tk hr1 (fun A outer s H hr2 => hbody A outer s H E f c' hr2) hNg hva hd hcd) co (h H1 eN T1)
    exact ⟨t', ht.nox, hq⟩
  refine wpAny_call (codeAny_mono run fun r s2 z => ?_)
  match r, z with
  | .error e, z => exact (show False from z).elim
  | .ok (.ret u), z => exact I1.after z
  | .ok .next, z => exact z.elim
  | .ok .brk, z => exact z.elim
  | .ok .cont, z => exact z.elim
end
end LN

set_option Elab.async false
set_option linter.all false
set_option maxRecDepth 100000
set_option maxHeartbeats 4000000
/-! X12: what is refused. -/
namespace K12
open PySem PySem.Spec PyProof.Rows L2 LL K11 W13
theorem lift0 {P : Program} {w : World} {K : PySem.W.Frag} {mg : Str → Option Value} {base : Heap} {CX : CXT} {k : Nat} {f : Addr} {fd : FuncData} {ps : List Str} {sp : Sp} (F : FnG P w K mg base CX0 k f fd ps sp) : FnG P w K mg base CX k f fd ps sp :=
  ⟨F.len, fun A outer s H args us vs Q E hr e0 hb r h => codeAny_mono (F.run A outer s H args us vs Q E hr e0 hb r h) fun r s' hq => by
    cases r with
    | error e => exact False.elim hq
    | ok fl => cases fl <;> exact hq⟩
theorem fn_or {P : Program} {w : World} {K : PySem.W.Frag} {mg : Str → Option Value} {base : Heap} {CX : CXT} {k : Nat} {f : Addr} {fd : FuncData} {ps : List Str} {sp sp' : Sp} (F : FnG P w K mg base CX k f fd ps sp) (G : FnG P w K mg base CX k f fd ps sp') : FnG P w K mg base CX k f fd ps (fun vs H Q E => sp vs H Q E ∨ sp' vs H Q E) :=
  ⟨fun vs H Q E h => h.elim (F.len _ _ _ _) (G.len _ _ _ _), fun A outer s H args us vs Q E hr e0 hb r h => h.elim (F.run A outer s H args us vs Q E hr e0 hb r) (G.run A outer s H args us vs Q E hr e0 hb r)⟩
abbrev s_Amount_below : Stmt := inClass (top 12) 9
abbrev n_Amount_below : List Str := ["self", "other", "second"]
theorem sc_Amount_below : FnScope n_Amount_below ["self", "other"] (defScope s_Amount_below) := ⟨rfl, rfl, rfl, by decide +kernel, rfl, by decide +kernel, by decide +kernel⟩
section
variable {P : Program} {w : World} {K : PySem.W.Frag} {mg : Str → Option Value} {base : Heap} {C CF CA CZ : Addr} {f : Addr} {fd : FuncData}
/-- no integer -/
def NoI (K : PySem.W.Frag) (H : Hp) (v : V) : Prop := ∃ t b c, (∀ H', Same H H' → TyX K H' v t) ∧ PySem.W.kitOne K t (.type "int") = some b ∧ PySem.W.kitOne K t (.type "bool") = some c ∧ (b && !c) = false
theorem NoI.same {H H' : Hp} {v : V} (h : NoI K H v) (s : Same H H') : NoI K H' v := let ⟨t, b, c, a, x⟩ := h; ⟨t, b, c, fun H2 s2 => a H2 (s.trans s2), x⟩
/-- neither an integer nor an Amount -/
def NoA (K : PySem.W.Frag) (C : Addr) (H : Hp) (v : V) : Prop := ∃ t b c, (∀ H', Same H H' → TyX K H' v t) ∧ PySem.W.kitOne K t (.type "int") = some b ∧ PySem.W.kitOne K t (.type "bool") = some c ∧ (b && !c) = false ∧ PySem.W.kitOne K t (.ref C) = some false
theorem NoA.same {H H' : Hp} {v : V} (h : NoA K C H v) (s : Same H H') : NoA K C H' v := let ⟨t, b, c, a, x⟩ := h; ⟨t, b, c, fun H2 s2 => a H2 (s.trans s2), x⟩
theorem NoA.noI {H : Hp} {v : V} (h : NoA K C H v) : NoI K H v := let ⟨t, b, c, a, x1, x2, x3, _⟩ := h; ⟨t, b, c, a, x1, x2, x3⟩
/-- what Amount(x, y) refuses, and with which value -/
def WrA (K : PySem.W.Frag) (H : Hp) (x y u : V) : Prop := (NoI K H x ∧ u = x) ∨ ∃ i : Int, x = .int i ∧ ((NoI K H y ∧ u = y) ∨ (y = .int 0 ∧ u = y))
theorem WrA.same {H H' : Hp} {x y u : V} (h : WrA K H x y u) (s : Same H H') : WrA K H' x y u := h.imp (fun ⟨a, e⟩ => ⟨a.same s, e⟩) fun ⟨i, e, h⟩ => ⟨i, e, h.imp (fun ⟨a, e⟩ => ⟨a.same s, e⟩) id⟩
def spInitX (K : PySem.W.Frag) (C CA : Addr) : Sp := fun vs H Q E => ∃ (p dx : Addr) (x y u : V), vs = [.ref p, x, y] ∧ H p = some (.ins C dx []) ∧ WrA K H x y u ∧ ErF CA "value" H u E
theorem ok_initX (T : Tx K mg C) (X_InvalidAmount : Xcl P w K mg base 1 "InvalidAmount" CA "value") (G_is_integer : Fnc P w K mg base CX0 1 "is_integer" [] (spIsInt K)) (G_common_divisor : Fnc P w K mg base CX0 1 "common_divisor" [] spGcd)
    (F : FD K "__init__" "Amount.__init__" s_Amountinit [.int 1] f fd) : FnG P w K mg base (L2N.CX P w) 3 f fd ["self", "top", "bottom"] (spInitX K C CA) := by
  refine okX F sc_Amountinit (fun vs H Q E h => ?_) (fun cdv A outer s H vs Q E hr h => ?_)
  · obtain ⟨p, dx, x, y, u, rfl, _⟩ := h
    rfl
  · obtain ⟨p, dx, x, y, u, rfl, hp, wr, er⟩ := h
    refine ⟨_, (pss_cons (ps_for (passes_of rfl) rfl (pi_tup (pe_tup (pa_cons (pv 1) (pa_cons (pv 2) pa_nil)))) (pg_name (i := 3) sc_Amountinit.nd rfl (by first | exact Or.inl rfl | exact Or.inr rfl)) (pss_one (ps_if (pt_not (pt_val (pe_fn G_is_integer (hr.mono (by decide)) pass0 (pa_cons (pv 3) pa_nil)))) (pss_one (LN.ps_raiseX X_InvalidAmount (hr.r.mono (by decide)) (L2N.takes_of rfl rfl rfl rfl) (pv 3))) pss_nil)))
      (pss_cons (ps_if (pt_cmpR op_eq (pv 2) pe_int (nomark _)) (pss_one (LN.ps_raiseX X_InvalidAmount (hr.r.mono (by decide)) (L2N.takes_of rfl rfl rfl rfl) (pv 2))) pss_nil)
      (pss_cons (ps_set (i := 4) sc_Amountinit.nd rfl (by first | exact Or.inl rfl | exact Or.inr rfl) (pe_fn G_common_divisor (hr.mono (by decide)) pass0 (pa_cons (pv 1) (pa_cons (pv 2) pa_nil))))
      (pss_cons (ps_if (pt_cmpR op_lt (pv 2) pe_int (nomark _)) (pss_one (ps_set (i := 4) sc_Amountinit.nd rfl (by first | exact Or.inl rfl | exact Or.inr rfl) (pe_un un_neg (pv 4)))) pss_nil)
      (pss_cons (ps_fld (pv 0) (pe_op op_fdivZ (pv 1) (pv 4)) rfl)
      (pss_one (ps_fld (pv 0) (pe_op op_fdivZ (pv 2) (pv 4)) rfl))))))), ?_⟩
    refine ⟨_, rfl, _, rfl, (by show 2 ≤ sizeLine; decide), fun t ht => ⟨t, rfl, ⟨_, SqT.of upd_same⟩, ?_⟩⟩
    have er1 := er.same (same_upd (o := .tup [x, y]) ht)
    have wr1 := wr.same (same_upd (o := .tup [x, y]) ht)
    refine for_tup (K := K) (a := t) (xs := [x, y]) (fun i σ H' => H' = upd H t (.tup [x, y]) ∧ (∃ v, σ = [some (.ref p), some x, some y, v, none]) ∧ (0 < i → ∃ n : Int, x = .int n ∧ ((NoI K (upd H t (.tup [x, y])) y ∧ u = y) ∨ (y = .int 0 ∧ u = y))) ∧ (1 < i → y = .int 0 ∧ u = y)) ⟨rfl, ⟨none, rfl⟩, fun c => absurd c (by omega), fun c => absurd c (by omega)⟩ ?_ ?_ ?_
    · rintro i σ H' _ ⟨rfl, _⟩
      exact SqT.of upd_same
    · rintro i z σ H' hi ⟨rfl, ⟨v, rfl⟩, g1, g2⟩
      match i, hi with
      | 0, hi =>
        cases (Option.some.inj hi)
        rcases wr1 with ⟨⟨ty, b, c, hy, k1, k2, bc⟩, rfl⟩ | ⟨n, rfl, rs⟩
        · refine ⟨_, rfl, _, ty, b, c, rfl, hy _ Same.rfl', k1, k2, _, rfl, ?_⟩
          rw [bc]
          exact iteT ⟨_, rfl, raise_of er1.now⟩
        · exact ⟨_, rfl, _, .type "int", true, false, rfl, .base (.int _), kInt, kIntB, _, rfl, iteF ⟨rfl, ⟨_, rfl⟩, fun _ => ⟨n, rfl, rs⟩, fun c => absurd c (by omega)⟩⟩
      | 1, hi =>
        cases (Option.some.inj hi)
        obtain ⟨n, rfl, ⟨⟨ty, b, c, hy, k1, k2, bc⟩, rfl⟩ | ⟨rfl, rfl⟩⟩ := g1 (by omega)
        · refine ⟨_, rfl, _, ty, b, c, rfl, hy _ Same.rfl', k1, k2, _, rfl, ?_⟩
          rw [bc]
          exact iteT ⟨_, rfl, raise_of er1.now⟩
        · exact ⟨_, rfl, _, .type "int", true, false, rfl, .base (.int _), kInt, kIntB, _, rfl, iteF ⟨rfl, ⟨_, rfl⟩, fun _ => ⟨n, rfl, .inr ⟨rfl, rfl⟩⟩, fun _ => ⟨rfl, rfl⟩⟩⟩
    · rintro σ H' ⟨rfl, ⟨v, rfl⟩, g1, g2⟩
      obtain ⟨n, rfl, _⟩ := g1 (by show 0 < 2; omega)
      obtain ⟨rfl, rfl⟩ := g2 (by show 1 < 2; omega)
      exact ⟨_, rfl, rfl, _, rfl, iteT ⟨_, rfl, raise_of er1.now⟩⟩
/-- Amount(x, y), Amount(x), refused -/
def spMkX2 (K : PySem.W.Frag) (CA : Addr) : Sp := fun vs H _ E => ∃ x y u : V, vs = [x, y] ∧ WrA K H x y u ∧ ErF CA "value" H u E
def spMkX1 (K : PySem.W.Frag) (CA : Addr) : Sp := fun vs H _ E => ∃ x : V, vs = [x] ∧ NoI K H x ∧ ErF CA "value" H x E
theorem new_insA {H : Hp} {a dx : Addr} (ha : H a = none) (hd : H dx = none) : Same H (upd (upd H dx (.own a)) a (.ins C dx [])) := fun c o e => by
  rw [upd_ne (ne_of_none e ha), upd_ne (ne_of_none e hd)]
  exact e
theorem mkX2 (G : Mkr P w K mg base (L2N.CX P w) 3 "Amount" C [] (spInitX K C CA)) : Mkf P w K mg base (L2N.CX P w) 3 "Amount" (spMkX2 K CA) := by
  refine ⟨C, [], _, G, fun vs H Q E h a dx ha hd ne => ?_⟩
  obtain ⟨x, y, u, rfl, wr, er⟩ := h
  have s0 := new_insA (C := C) ha hd
  exact ⟨a, dx, x, y, u, rfl, upd_same, wr.same s0, er.same s0⟩
theorem mkX1 (G : Mkr P w K mg base (L2N.CX P w) 3 "Amount" C [.int 1] (spInitX K C CA)) : Mkf P w K mg base (L2N.CX P w) 3 "Amount" (spMkX1 K CA) := by
  refine ⟨C, [.int 1], _, G, fun vs H Q E h a dx ha hd ne => ?_⟩
  obtain ⟨x, rfl, wr, er⟩ := h
  have s0 := new_insA (C := C) ha hd
  exact ⟨a, dx, x, .int 1, x, rfl, upd_same, .inl ⟨wr.same s0, rfl⟩, er.same s0⟩
/-! ### as_amount -/
def spAsX (K : PySem.W.Frag) (C CA : Addr) : Sp := fun vs H _ E => ∃ v : V, vs = [v] ∧ NoA K C H v ∧ ErF CA "value" H v E
theorem ok_as_amountX (T : Tx K mg C) (K_Amount1 : Mkf P w K mg base (L2N.CX P w) 3 "Amount" (spMkX1 K CA)) (F : FD K "as_amount" "as_amount" s_as_amount [] f fd) : FnG P w K mg base (L2N.CX P w) 5 f fd ["value"] (spAsX K C CA) := by
  refine okX F sc_as_amount (fun vs H Q E h => ?_) (fun cdv A outer s H vs Q E hr h => ?_)
  · obtain ⟨v, rfl, _⟩ := h
    rfl
  · obtain ⟨v, rfl, na, er⟩ := h
    refine ⟨_, (pss_cons (ps_if (pt_val (pe_callB call_isi (by rfl) T.n_isinstance (by decide +kernel) (pa_cons (pv 0) (pa_cons (pe_glob (v := .ref C) (by rfl) T.g_Amount rfl) pa_nil)))) (pss_one (ps_ret (pv 0))) pss_nil)
      (pss_one (ps_ret (pe_mf K_Amount1 (hr.mono (by decide)) (L2N.passes_call (L2N.takes_of rfl rfl rfl rfl) (fun _ _ _ _ h => h)) (pa_cons (pv 0) pa_nil))))), ?_⟩
    have ni := na.noI
    obtain ⟨t, b, c, hy, k1, k2, bc, k3⟩ := na
    exact ⟨_, rfl, _, _, t, _, _, rfl, .own C, hy _ Same.rfl', k3, _, rfl, iteF ⟨_, rfl, v, rfl, ni, er⟩⟩
/-! ### the operators -/
def spOpX (K : PySem.W.Frag) (C CA : Addr) : Sp := fun vs H _ E => ∃ p v, vs = [.ref p, v] ∧ NoA K C H v ∧ ErF CA "value" H v E
theorem ok_addX (T : Tx K mg C) (K_Amount2 : Mkf P w K mg base CX0 2 "Amount" (spMkA2 C)) (G_as_amount : Fnc P w K mg base (L2N.CX P w) 5 "as_amount" [] (spAsX K C CA)) (F : FD K "__add__" "Amount.__add__" s_Amountadd [] f fd) :
    FnG P w K mg base (L2N.CX P w) 6 f fd ["self", "other"] (spOpX K C CA) := by
  refine okX F sc_Amountadd (fun vs H Q E h => ?_) (fun cdv A outer s H vs Q E hr h => ?_)
  · obtain ⟨p, v, rfl, _⟩ := h
    rfl
  · obtain ⟨p, v, rfl, na, er⟩ := h
    refine ⟨_, (pss_cons (ps_set (i := 2) sc_Amountadd.nd rfl (by first | exact Or.inl rfl | exact Or.inr rfl) (pe_fn G_as_amount (hr.mono (by decide)) (L2N.passes_call (L2N.takes_of rfl rfl rfl rfl) (fun _ _ _ _ h => h)) (pa_cons (pv 1) pa_nil)))
      (pss_cons (ps_set (i := 3) sc_Amountadd.nd rfl (by first | exact Or.inl rfl | exact Or.inr rfl) (pe_op op_add (pe_op op_mulX (pe_fld (pv 0) rfl) (pe_fld (pv 2) rfl)) (pe_op op_mulX (pe_fld (pv 2) rfl) (pe_fld (pv 0) rfl))))
      (pss_one (ps_ret (pe_mf K_Amount2 (hr.mono (by decide)) pass0 (pa_cons (pv 3) (pa_cons (pe_op op_mulX (pe_fld (pv 0) rfl) (pe_fld (pv 2) rfl)) pa_nil))))))), ?_⟩
    exact ⟨_, rfl, v, rfl, na, er⟩
theorem ok_subX (T : Tx K mg C) (K_Amount2 : Mkf P w K mg base CX0 2 "Amount" (spMkA2 C)) (G_as_amount : Fnc P w K mg base (L2N.CX P w) 5 "as_amount" [] (spAsX K C CA)) (F : FD K "__sub__" "Amount.__sub__" s_Amountsub [] f fd) :
    FnG P w K mg base (L2N.CX P w) 6 f fd ["self", "other"] (spOpX K C CA) := by
  refine okX F sc_Amountsub (fun vs H Q E h => ?_) (fun cdv A outer s H vs Q E hr h => ?_)
  · obtain ⟨p, v, rfl, _⟩ := h
    rfl
  · obtain ⟨p, v, rfl, na, er⟩ := h
    refine ⟨_, (pss_cons (ps_set (i := 2) sc_Amountsub.nd rfl (by first | exact Or.inl rfl | exact Or.inr rfl) (pe_fn G_as_amount (hr.mono (by decide)) (L2N.passes_call (L2N.takes_of rfl rfl rfl rfl) (fun _ _ _ _ h => h)) (pa_cons (pv 1) pa_nil)))
      (pss_cons (ps_set (i := 3) sc_Amountsub.nd rfl (by first | exact Or.inl rfl | exact Or.inr rfl) (pe_op op_sub (pe_op op_mulX (pe_fld (pv 0) rfl) (pe_fld (pv 2) rfl)) (pe_op op_mulX (pe_fld (pv 2) rfl) (pe_fld (pv 0) rfl))))
      (pss_one (ps_ret (pe_mf K_Amount2 (hr.mono (by decide)) pass0 (pa_cons (pv 3) (pa_cons (pe_op op_mulX (pe_fld (pv 0) rfl) (pe_fld (pv 2) rfl)) pa_nil))))))), ?_⟩
    exact ⟨_, rfl, v, rfl, na, er⟩
theorem ok_mulX (T : Tx K mg C) (K_Amount2 : Mkf P w K mg base CX0 2 "Amount" (spMkA2 C)) (G_as_amount : Fnc P w K mg base (L2N.CX P w) 5 "as_amount" [] (spAsX K C CA)) (F : FD K "__mul__" "Amount.__mul__" s_Amountmul [] f fd) :
    FnG P w K mg base (L2N.CX P w) 6 f fd ["self", "other"] (spOpX K C CA) := by
  refine okX F sc_Amountmul (fun vs H Q E h => ?_) (fun cdv A outer s H vs Q E hr h => ?_)
  · obtain ⟨p, v, rfl, _⟩ := h
    rfl
  · obtain ⟨p, v, rfl, na, er⟩ := h
    refine ⟨_, (pss_cons (ps_set (i := 2) sc_Amountmul.nd rfl (by first | exact Or.inl rfl | exact Or.inr rfl) (pe_fn G_as_amount (hr.mono (by decide)) (L2N.passes_call (L2N.takes_of rfl rfl rfl rfl) (fun _ _ _ _ h => h)) (pa_cons (pv 1) pa_nil)))
      (pss_one (ps_ret (pe_mf K_Amount2 (hr.mono (by decide)) pass0 (pa_cons (pe_op op_mulX (pe_fld (pv 0) rfl) (pe_fld (pv 2) rfl)) (pa_cons (pe_op op_mulX (pe_fld (pv 0) rfl) (pe_fld (pv 2) rfl)) pa_nil)))))), ?_⟩
    exact ⟨_, rfl, v, rfl, na, er⟩
theorem ok_belowX (T : Tx K mg C) (K_Amount2 : Mkf P w K mg base CX0 2 "Amount" (spMkA2 C)) (G_as_amount : Fnc P w K mg base (L2N.CX P w) 5 "as_amount" [] (spAsX K C CA)) (F : FD K "below" "Amount.below" s_Amount_below [] f fd) :
    FnG P w K mg base (L2N.CX P w) 6 f fd ["self", "other"] (spOpX K C CA) := by
  refine okX F sc_Amount_below (fun vs H Q E h => ?_) (fun cdv A outer s H vs Q E hr h => ?_)
  · obtain ⟨p, v, rfl, _⟩ := h
    rfl
  · obtain ⟨p, v, rfl, na, er⟩ := h
    refine ⟨_, (pss_cons (ps_set (i := 2) sc_Amount_below.nd rfl (by first | exact Or.inl rfl | exact Or.inr rfl) (pe_fn G_as_amount (hr.mono (by decide)) (L2N.passes_call (L2N.takes_of rfl rfl rfl rfl) (fun _ _ _ _ h => h)) (pa_cons (pv 1) pa_nil)))
      (pss_one (ps_ret (pe_cmpR op_lt (pe_op op_mulX (pe_fld (pv 0) rfl) (pe_fld (pv 2) rfl)) (pe_op op_mulX (pe_fld (pv 2) rfl) (pe_fld (pv 0) rfl)) (nomark _))))), ?_⟩
    exact ⟨_, rfl, v, rfl, na, er⟩
/-- the divisor is wrong or 0 -/
def spOverX (K : PySem.W.Frag) (C CA CZ : Addr) : Sp := fun vs H _ E => ∃ p v, vs = [.ref p, v] ∧ ((NoA K C H v ∧ ErF CA "value" H v E) ∨ (∃ b, AmtV C H v 0 b) ∧ ∀ H', Same H H' → E (.ref CZ) none H')
def spAsO (K : PySem.W.Frag) (C CA : Addr) : Sp := fun vs H Q E => spAs C vs H Q E ∨ spAsX K C CA vs H Q E
theorem ok_overX (T : Tx K mg C) (X_ZeroDivisor : XclO K mg "ZeroDivisor" CZ) (K_Amount2 : Mkf P w K mg base CX0 2 "Amount" (spMkA2 C)) (G_as_amount : Fnc P w K mg base (L2N.CX P w) 5 "as_amount" [] (spAsO K C CA)) (F : FD K "over" "Amount.over" s_Amount_over [] f fd) :
    FnG P w K mg base (L2N.CX P w) 6 f fd ["self", "divisor"] (spOverX K C CA CZ) := by
  refine okX F sc_Amount_over (fun vs H Q E h => ?_) (fun cdv A outer s H vs Q E hr h => ?_)
  · obtain ⟨p, v, rfl, _⟩ := h
    rfl
  · obtain ⟨p, v, rfl, h⟩ := h
    refine ⟨_, (pss_cons (ps_set (i := 2) sc_Amount_over.nd rfl (by first | exact Or.inl rfl | exact Or.inr rfl) (pe_fn G_as_amount (hr.mono (by decide)) (L2N.passes_call (L2N.takes_of rfl rfl rfl rfl) (fun _ _ _ _ h => h)) (pa_cons (pv 1) pa_nil)))
      (pss_cons (ps_if (pt_cmpR op_eq (pe_fld (pv 2) rfl) pe_int (nomark _)) (pss_one (LN.ps_raiseO X_ZeroDivisor (L2N.takes_of rfl rfl rfl rfl))) pss_nil)
      (pss_one (ps_ret (pe_mf K_Amount2 (hr.mono (by decide)) pass0 (pa_cons (pe_op op_mulX (pe_fld (pv 0) rfl) (pe_fld (pv 2) rfl)) (pa_cons (pe_op op_mulX (pe_fld (pv 0) rfl) (pe_fld (pv 2) rfl)) pa_nil))))))), ?_⟩
    rcases h with ⟨na, er⟩ | ⟨⟨b, av⟩, er⟩
    · exact ⟨_, rfl, .inr ⟨v, rfl, na, er⟩⟩
    · refine ⟨_, rfl, .inl ⟨v, 0, b, rfl, av, by decide +kernel, fun H1 r s1 hr1 => ?_⟩⟩
      obtain ⟨dx, hr1⟩ := hr1
      exact ⟨_, rfl, r, C, dx, _, _, rfl, hr1, T.cl, T.nT, look_t _ _, rfl, _, rfl, iteT (er _ s1)⟩
/-! ### operators with what is odd at the right -/
def tys : List String := ["NoneType", "bool", "str", "list", "tuple", "dict"]
/-- of a built-in type, or a form -/
def Kd (K : PySem.W.Frag) (C CF : Addr) (H : Hp) (v : V) : Prop := (∃ T ∈ tys, ∀ H', Same H H' → TyX K H' v (.type T)) ∨ ∃ p c ws, v = .ref p ∧ FmAt C CF H p c ws
theorem Kd.same {H H' : Hp} {v : V} (h : Kd K C CF H v) (s : Same H H') : Kd K C CF H' v := h.imp (fun ⟨T, m, a⟩ => ⟨T, m, fun H2 s2 => a H2 (s.trans s2)⟩) fun ⟨p, c, ws, e, x⟩ => ⟨p, c, ws, e, x.same s⟩
structure OpX (P : Program) (w : World) (K : PySem.W.Frag) (mg : Str → Option Value) (base : Heap) (C CF CA : Addr) (op : Operator) : Prop where
  o : OpF P w K mg base (L2N.CX P w) 6 C op (spOpX K C CA)
  t : ∀ T ∈ tys, OpTy K C op T
  oth : OpOth K C CF op
def rOdd (K : PySem.W.Frag) (C CF CA : Addr) (E : XK) : R2 := fun x y H _ => ∃ a t b, x = .ref a ∧ AmtAt C H a t b ∧ NoA K C H y ∧ Kd K C CF H y ∧ ErF CA "value" H y E
theorem op_odd {X : Cx} {E : XK} {op : Operator} (c : X.prog = P ∧ X.w = w ∧ X.K = K ∧ X.mg = mg ∧ X.base = base) (O : OpX P w K mg base C CF CA op) (hr : Rm 6 X.A) (hx : Passes (L2N.CX X.prog X.w) X E) : OpR X (binaryOp op) (rOdd K C CF CA E) := by
  obtain ⟨rfl, rfl, rfl, rfl, rfl⟩ := c
  intro pins s σ H x y v u Q I rx ry h
  obtain ⟨a, t, b, rfl, ⟨dx, ha⟩, na, kd, er⟩ := h
  rcases kd with ⟨T, m, ty⟩ | ⟨p, c, ws, rfl, fm⟩
  · exact op_binA O.o hr hx pins s σ H _ y v u Q I rx ry ⟨a, dx, _, T, rfl, ha, ty _ Same.rfl', O.t T m, a, y, rfl, na, er⟩
  · obtain ⟨dy, ca, da, kvs, e1, _⟩ := id fm
    exact op_binT ⟨O.o, O.oth⟩ hr hx pins s σ H _ _ v u Q I rx ry ⟨a, dx, _, rfl, ha, .inr (.inl ⟨p, dy, _, rfl, e1⟩), a, _, rfl, na, er⟩
end
end K12

set_option Elab.async false
set_option linter.all false
set_option maxRecDepth 100000
set_option maxHeartbeats 4000000
/-! H12: the same within an except suite (printed by mk12h.py). -/
namespace K12
open PySem PySem.Spec PyProof.Rows L2 LL K11
section
variable {P : Program} {w : World} {K : PySem.W.Frag} {mg : Str → Option Value} {base : Heap} {C : Addr} {f : Addr} {fd : FuncData}
theorem hk_is_integer (T : Tx K mg C) (F : FD K "is_integer" "is_integer" s_is_integer [] f fd) : LH.FnG P w K mg base CX0 1 f fd ["value"] (spIsInt K) := by
  refine LH.ok0 F sc_is_integer (fun vs H Q E h => ?_) (fun cdv A outer s H vs Q E pX hr hC h => ?_)
  · obtain ⟨v, t, b1, b2, rfl, _⟩ := h
    rfl
  · obtain ⟨v, t, b1, b2, rfl, ty, e1, e2, q⟩ := h
    refine ⟨_, (pss_one (ps_ret (pe_and (pe_callB call_isi (by rfl) T.n_isinstance (by decide +kernel) (pa_cons (pv 0) (pa_cons (pe_bltn (v := .ty "int") (by rfl) T.n_int (by decide +kernel) rfl) pa_nil))) (pe_one (pe_not (pe_callB call_isi (by rfl) T.n_isinstance (by decide +kernel) (pa_cons (pv 0) (pa_cons (pe_bltn (v := .ty "bool") (by rfl) T.n_bool (by decide +kernel) rfl) pa_nil)))))))), ?_⟩
    refine ⟨_, rfl, _, _, t, _, _, rfl, .ty "int", ty, e1, _, rfl, ?_⟩
    cases b1 with
    | false => exact iteF q
    | true => exact iteT ⟨_, rfl, _, _, t, _, _, rfl, .ty "bool", ty, e2, _, rfl, q⟩
theorem hk_common_divisor (T : Tx K mg C) (F : FD K "common_divisor" "common_divisor" s_common_divisor [] f fd) : LH.FnG P w K mg base CX0 1 f fd ["one", "other"] spGcd := by
  refine LH.ok0 F sc_common_divisor (fun vs H Q E h => ?_) (fun cdv A outer s H vs Q E pX hr hC h => ?_)
  · obtain ⟨x, y, rfl, _⟩ := h
    rfl
  · obtain ⟨x, y, rfl, q⟩ := h
    refine ⟨_, (pss_cons (ps_parH (i := 0) (j := 1) hC sc_common_divisor.nd rfl rfl (by decide) rfl rfl (pa_cons (pe_callB call_abs (by rfl) T.n_abs (by decide +kernel) (pa_cons (pv 0) pa_nil)) (pa_cons (pe_callB call_abs (by rfl) T.n_abs (by decide +kernel) (pa_cons (pv 1) pa_nil)) pa_nil)) (by rfl))
      (pss_cons (ps_while PassesOwn.never (pt_cmpR op_ne (pv 1) pe_int (nomark _)) (pss_one (ps_parH (i := 0) (j := 1) hC sc_common_divisor.nd rfl rfl (by decide) rfl rfl (pa_cons (pv 1) (pa_cons (pe_op op_mod (pv 0) (pv 1)) pa_nil)) (by rfl))))
      (pss_one (ps_ret (pv 0))))), ?_⟩
    refine ⟨_, rfl, _, rfl, _, rfl, _, rfl, _, _, rfl, ?_⟩
    refine while_by (fun σ H' => H' = H ∧ ∃ a b : Int, σ = [some (.int a), some (.int b)] ∧ 0 ≤ a ∧ 0 ≤ b ∧ Int.gcd a b = Int.gcd x y) (fun σ _ => match σ with | [_, some (.int b)] => b.toNat | _ => 0) ?_ ?_ ?_
    · exact ⟨rfl, _, _, rfl, by split <;> omega, by split <;> omega, gcd_abs x y⟩
    · rintro σ H' ⟨rfl, a, b, rfl, ha, hb, hg⟩
      refine ⟨_, rfl, rfl, _, rfl, ?_⟩
      by_cases c : b = 0
      · subst c
        refine iteF ?_
        refine ⟨_, rfl, ?_⟩
        rw [← gcd_end ha, hg]
        exact q
      · refine iteY (by rw [dec_ne c]; rfl) ?_
        refine ⟨_, rfl, _, rfl, _, rfl, _, _, rfl, rfl, by omega, _, _, rfl, ⟨rfl, _, _, rfl, hb, Int.emod_nonneg _ c, ?_⟩, ?_⟩
        · rw [gcd_turn ha hb]
          exact hg
        · have := Int.emod_lt_of_pos a (show 0 < b by omega)
          have := Int.emod_nonneg a c
          show (a % b).toNat < b.toNat
          omega
    · rintro σ H' Q Q' hq ⟨v, e, e2, k, e3, h⟩
      exact ⟨v, e, e2, k, e3, hq _ _ h⟩
theorem hk_init (T : Tx K mg C) (G_is_integer : LH.Fnc P w K mg base CX0 1 "is_integer" [] (spIsInt K)) (G_common_divisor : LH.Fnc P w K mg base CX0 1 "common_divisor" [] spGcd)
    (F : FD K "__init__" "Amount.__init__" s_Amountinit [.int 1] f fd) : LH.FnG P w K mg base CX0 2 f fd ["self", "top", "bottom"] (spInit C) := by
  refine LH.ok0 F sc_Amountinit (fun vs H Q E h => ?_) (fun cdv A outer s H vs Q E pX hr hC h => ?_)
  · obtain ⟨p, dx, x, y, rfl, _⟩ := h
    rfl
  · obtain ⟨p, dx, x, y, rfl, hp, hy, bx, by_, q⟩ := h
    refine ⟨_, (pss_cons (L2H.ps_forH PassesOwn.never hC (pi_tupH (pe_tup (pa_cons (pv 1) (pa_cons (pv 2) pa_nil)))) (pg_name (i := 3) sc_Amountinit.nd rfl (by first | exact Or.inl rfl | exact Or.inr rfl)) (pss_one (ps_if (pt_not (pt_val (LH.pe_fn G_is_integer (hr.mono (by decide)) pass0 (pa_cons (pv 3) pa_nil)))) (pss_one ps_never) pss_nil)))
      (pss_cons (ps_if (pt_cmpR op_eq (pv 2) pe_int (nomark _)) (pss_one ps_never) pss_nil)
      (pss_cons (ps_set (i := 4) sc_Amountinit.nd rfl (by first | exact Or.inl rfl | exact Or.inr rfl) (LH.pe_fn G_common_divisor (hr.mono (by decide)) pass0 (pa_cons (pv 1) (pa_cons (pv 2) pa_nil))))
      (pss_cons (ps_if (pt_cmpR op_lt (pv 2) pe_int (nomark _)) (pss_one (ps_set (i := 4) sc_Amountinit.nd rfl (by first | exact Or.inl rfl | exact Or.inr rfl) (pe_un un_neg (pv 4)))) pss_nil)
      (pss_cons (ps_fld (pv 0) (pe_op op_fdivZ (pv 1) (pv 4)) rfl)
      (pss_one (ps_fld (pv 0) (pe_op op_fdivZ (pv 2) (pv 4)) rfl))))))), ?_⟩
    refine ⟨_, rfl, _, rfl, (by show 2 ≤ sizeLine; decide), fun t ht => ⟨t, rfl, ⟨_, SqT.of upd_same⟩, for_tup (K := K) (a := t) (xs := [.int x, .int y]) (fun i σ H' => H' = upd H t (.tup [.int x, .int y]) ∧ ∃ v, σ = [some (.ref p), some (.int x), some (.int y), v, none]) ⟨rfl, none, rfl⟩ ?_ ?_ ?_⟩⟩
    · rintro i σ H' _ ⟨rfl, _⟩
      exact SqT.of upd_same
    · rintro i z σ H' hi ⟨rfl, v, rfl⟩
      obtain ⟨n, rfl⟩ : ∃ n : Int, z = .int n := by
        match i, hi with
        | 0, hi => exact ⟨x, (Option.some.inj hi).symm⟩
        | 1, hi => exact ⟨y, (Option.some.inj hi).symm⟩
      exact ⟨_, rfl, _, .type "int", true, false, rfl, .base (.int _), kInt, kIntB, _, rfl, iteF ⟨rfl, _, rfl⟩⟩
    · rintro σ H' ⟨rfl, v, rfl⟩
      have npt : p ≠ t := ne_of_none hp ht
      -- bottom == 0, the divisor
      refine ⟨_, rfl, rfl, _, rfl, iteN (dec_ne hy) ?_⟩
      refine ⟨_, rfl, _, rfl, x, y, rfl, ?_⟩
      refine ⟨_, rfl, _, _, rfl, rfl, _, rfl, ?_⟩
      -- behind the sign
      have fin : ∀ (d : Int), d = dv x y → (tSeq (sFld K (tVar 0) (tOp (rI CDivZ fun i j => .int (i.fdiv j)) (tVar 1) (tVar 4)) "own_top") (sFld K (tVar 0) (tOp (rI CDivZ fun i j => .int (i.fdiv j)) (tVar 2) (tVar 4)) "own_bottom")) { nx := fun _ H' => Q .non H', rt := Q } [some (.ref p), some (.int x), some (.int y), v, some (.int d)] (upd H t (.tup [.int x, .int y])) := by
        intro d hd
        have cd : CDivZ x d := by
          rw [hd]
          exact wide_divZ (dv_ne hy) (dv_big hy by_) (by decide) (by decide)
        refine ⟨_, rfl, _, rfl, _, _, rfl, rfl, cd, _, rfl, p, C, dx, [], rfl, (by rw [upd_ne npt]; exact hp), T.cl, T.nT, (by show 0 < 1000; decide), ?_⟩
        refine ⟨_, rfl, _, rfl, _, _, rfl, rfl, cd, _, rfl, p, C, dx, _, rfl, upd_same, T.cl, T.nB, (by show 1 < 1000; decide), ?_⟩
        refine q _ (upd_same.trans ?_) fun b o e n => ?_
        · rw [put_tb, hd]
          rfl
        · rw [upd_ne n, upd_ne n, upd_ne (ne_of_none e ht)]
          exact e
      refine iteB (fun c => ?_) (fun c => ?_)
      · have c' : y < 0 := of_decide_eq_true c
        exact ⟨_, rfl, _, rfl, fin _ (by unfold dv; rw [if_pos c'])⟩
      · have c' : ¬ y < 0 := of_decide_eq_false c
        exact fin _ (by unfold dv; rw [if_neg c'])
theorem hk_neg (T : Tx K mg C) (K_Amount2 : LH.Mkr P w K mg base CX0 2 "Amount" C [] (spInit C)) (F : FD K "__neg__" "Amount.__neg__" s_Amountneg [] f fd) : LH.FnG P w K mg base CX0 4 f fd ["self"] (spNeg C) := by
  refine LH.ok0 F sc_Amountneg (fun vs H Q E h => ?_) (fun cdv A outer s H vs Q E pX hr hC h => ?_)
  · obtain ⟨p, t, b, rfl, _⟩ := h
    rfl
  · obtain ⟨p, t, b, rfl, ⟨dx, hp⟩, st, sb, pb, q⟩ := h
    refine ⟨_, (pss_one (ps_ret (LH.pe_mk K_Amount2 (hr.mono (by decide)) pass0 (pa_cons (pe_un un_neg (pe_fld (pv 0) rfl)) (pa_cons (pe_fld (pv 0) rfl) pa_nil))))), ?_⟩
    refine ⟨_, rfl, p, C, dx, _, _, rfl, hp, T.cl, T.nT, look_t _ _, _, rfl, _, rfl, p, C, dx, _, _, rfl, hp, T.cl, T.nB, look_b _ _, ?_⟩
    exact mk_amt (C := C) (by omega) (by rw [Int.natAbs_neg]; exact st.lift) sb.lift fun H' z s2 n ha => q H' z s2 n ha
theorem hk_eq (T : Tx K mg C) (F : FD K "__eq__" "Amount.__eq__" s_Amounteq [] f fd) : LH.FnG P w K mg base CX0 1 f fd ["self", "other"] (spEq K C) := by
  refine LH.ok0 F sc_Amounteq (fun vs H Q E h => ?_) (fun cdv A outer s H vs Q E pX hr hC h => ?_)
  · obtain ⟨p, v, t, b, ty, c, rfl, _⟩ := h
    rfl
  · obtain ⟨p, v, t, b, ty, c, rfl, ⟨dx, hp⟩, hty, hk, q0, q1⟩ := h
    refine ⟨_, (pss_one (ps_ret (pe_and (pe_callB call_isi (by rfl) T.n_isinstance (by decide +kernel) (pa_cons (pv 1) (pa_cons (pe_glob (v := .ref C) (by rfl) T.g_Amount rfl) pa_nil))) (pe_and (pe_cmpR op_eq (pe_fld (pv 0) rfl) (pe_fld (pv 1) rfl) (nomark _)) (pe_one (pe_cmpR op_eq (pe_fld (pv 0) rfl) (pe_fld (pv 1) rfl) (nomark _))))))), ?_⟩
    refine ⟨_, rfl, _, _, ty, _, _, rfl, .own C, hty, hk, _, rfl, iteB (fun e => ?_) (fun e => q0 e)⟩
    obtain ⟨r, t2, b2, rfl, ⟨dy, hr1⟩, q⟩ := q1 e
    refine ⟨_, rfl, p, C, dx, _, _, rfl, hp, T.cl, T.nT, look_t _ _, _, rfl, r, C, dy, _, _, rfl, hr1, T.cl, T.nT, look_t _ _, rfl, _, rfl, iteB (fun e => ?_) (fun e => ?_)⟩
    · refine ⟨_, rfl, p, C, dx, _, _, rfl, hp, T.cl, T.nB, look_b _ _, _, rfl, r, C, dy, _, _, rfl, hr1, T.cl, T.nB, look_b _ _, rfl, ?_⟩
      rw [decV] at e ⊢
      rw [e] at q
      exact q
    · rw [decV] at e
      rw [e] at q
      exact q
theorem hk_str (T : Tx K mg C) (F : FD K "__str__" "Amount.__str__" s_Amountstr [] f fd) : LH.FnG P w K mg base CX0 1 f fd ["self"] (spShow C shown) := by
  refine LH.ok0 F sc_Amountstr (fun vs H Q E h => ?_) (fun cdv A outer s H vs Q E pX hr hC h => ?_)
  · obtain ⟨p, t, b, rfl, _⟩ := h
    rfl
  · obtain ⟨p, t, b, rfl, ⟨dx, hp⟩, mt, mb, q⟩ := h
    refine ⟨_, (pss_cons (ps_if (pt_cmpR op_eq (pe_fld (pv 0) rfl) pe_int (nomark _)) (pss_one (ps_ret (pe_callTy call_str_int (by rfl) T.n_str (by decide +kernel) (pa_cons (pe_fld (pv 0) rfl) pa_nil)))) pss_nil)
      (pss_one (ps_ret (pe_joined (.cons (pe_fmt (pe_fld (pv 0) rfl)) (.cons pe_str (.cons (pe_fmt (pe_fld (pv 0) rfl)) .nil))))))), ?_⟩
    refine ⟨_, rfl, p, C, dx, _, _, rfl, hp, T.cl, T.nB, look_b _ _, rfl, _, rfl, iteB (fun e => ?_) (fun e => ?_)⟩
    · have e' : b = 1 := V.int.inj (of_decide_eq_true e)
      unfold shown at q
      rw [if_pos e'] at q
      exact ⟨_, rfl, p, C, dx, _, _, rfl, hp, T.cl, T.nT, look_t _ _, _, rfl, mt.log, q⟩
    · have e' : ¬ b = 1 := fun z => of_decide_eq_false e (by rw [z])
      unfold shown at q
      rw [if_neg e'] at q
      have l1 := mt.len
      have l2 := mb.len
      refine ⟨_, rfl, p, C, dx, _, _, rfl, hp, T.cl, T.nT, look_t _ _, .inr ⟨_, rfl, mt.log, _, rfl, ?_, ?_⟩⟩
      · rw [Str.empty_append]
        exact small (by show (txt t).length ≤ _; omega)
      · refine ⟨_, rfl, ?_, _, rfl, p, C, dx, _, _, rfl, hp, T.cl, T.nB, look_b _ _, .inr ⟨_, rfl, mb.log, _, rfl, ?_, ?_⟩⟩
        · rw [Str.empty_append, strLen_append]
          exact small (by show (txt t).length + 1 ≤ _; omega)
        · rw [Str.empty_append, strLen_append, strLen_append]
          exact small (by show (txt t).length + 1 + (txt b).length ≤ _; omega)
        · rw [Str.empty_append]
          exact q
theorem hk_repr (T : Tx K mg C) (F : FD K "__repr__" "Amount.__repr__" s_Amountrepr [] f fd) : LH.FnG P w K mg base CX0 1 f fd ["self"] (spShow C repS) := by
  refine LH.ok0 F sc_Amountrepr (fun vs H Q E h => ?_) (fun cdv A outer s H vs Q E pX hr hC h => ?_)
  · obtain ⟨p, t, b, rfl, _⟩ := h
    rfl
  · obtain ⟨p, t, b, rfl, ⟨dx, hp⟩, mt, mb, q⟩ := h
    refine ⟨_, (pss_one (ps_ret (pe_joined (.cons pe_str (.cons (pe_fmt (pe_fld (pv 0) rfl)) (.cons pe_str (.cons (pe_fmt (pe_fld (pv 0) rfl)) (.cons pe_str .nil)))))))), ?_⟩
    have l1 := mt.len
    have l2 := mb.len
    have e1 : Str.empty ++ ("Amount(" : Str) = "Amount(" := Str.empty_append _
    refine ⟨_, rfl, by rw [e1]; exact small (by decide), _, rfl, p, C, dx, _, _, rfl, hp, T.cl, T.nT, look_t _ _, .inr ⟨_, rfl, mt.log, _, rfl, ?_, ?_⟩⟩
    · rw [e1, strLen_append]
      exact small (by show 7 + (txt t).length ≤ _; omega)
    · refine ⟨_, rfl, ?_, _, rfl, p, C, dx, _, _, rfl, hp, T.cl, T.nB, look_b _ _, .inr ⟨_, rfl, mb.log, _, rfl, ?_, ?_⟩⟩
      · rw [e1, strLen_append, strLen_append]
        exact small (by show 7 + (txt t).length + 2 ≤ _; omega)
      · rw [e1, strLen_append, strLen_append, strLen_append]
        exact small (by show 7 + (txt t).length + 2 + (txt b).length ≤ _; omega)
      · refine ⟨_, rfl, ?_, ?_⟩
        · rw [e1, strLen_append, strLen_append, strLen_append, strLen_append]
          exact small (by show 7 + (txt t).length + 2 + (txt b).length + 1 ≤ _; omega)
        · rw [e1]
          exact q
theorem hk_sign (T : Tx K mg C) (F : FD K "sign" "Amount.sign" s_Amount_sign [] f fd) : LH.FnG P w K mg base CX0 1 f fd ["self"] (spGet C fun t _ => sgn t) := by
  refine LH.ok0 F sc_Amount_sign (fun vs H Q E h => ?_) (fun cdv A outer s H vs Q E pX hr hC h => ?_)
  · obtain ⟨p, t, b, rfl, _⟩ := h
    rfl
  · obtain ⟨p, t, b, rfl, ⟨dx, hp⟩, q⟩ := h
    exact ⟨_, (pss_one (ps_ret (pe_op op_sub (pe_callTy call_int1 (by rfl) T.n_int (by decide +kernel) (pa_cons (pe_cmpR op_gt (pe_fld (pv 0) rfl) pe_int (nomark _)) pa_nil)) (pe_callTy call_int1 (by rfl) T.n_int (by decide +kernel) (pa_cons (pe_cmpR op_lt (pe_fld (pv 0) rfl) pe_int (nomark _)) pa_nil))))), _, rfl, p, C, dx, _, _, rfl, hp, T.cl, T.nT, look_t _ _, _, _, rfl, rfl, .inr ⟨_, rfl, _, rfl, p, C, dx, _, _, rfl, hp, T.cl, T.nT, look_t _ _, _, _, rfl, rfl, .inr ⟨_, rfl, _, _, rfl, rfl, q⟩⟩⟩
end
end K12

set_option Elab.async false
set_option linter.all false
set_option maxRecDepth 100000
set_option maxHeartbeats 4000000
/-! H12b: the same within an except suite (printed by mk12h.py). -/
namespace K12
open PySem PySem.Spec PyProof.Rows L2 LL K11 W13
section
variable {P : Program} {w : World} {K : PySem.W.Frag} {mg : Str → Option Value} {base : Heap} {C CF : Addr} {f : Addr} {fd : FuncData}
theorem hk_term (T : Ty K mg C CF) (P_sign : LH.Prp P w K mg base CX0 1 C "sign" (spGet C fun t _ => sgn t)) (S_neg : LH.SpF P w K mg base CX0 4 C "__neg__" (spNeg C)) (S_eq : LH.SpF P w K mg base CX0 1 C "__eq__" (spEq K C)) (S_str : LH.SpF P w K mg base CX0 1 C "__str__" (spShow C shown))
    (K_Amount1 : LH.Mkf P w K mg base CX0 2 "Amount" (spMkA1 C)) (F : FD K "term_text" "term_text" s_term_text [] f fd) : LH.FnG P w K mg base CX0 5 f fd ["symbol", "weight"] (spTerm C) := by
  refine LH.ok0 F sc_term_text (fun vs H Q E h => ?_) (fun cdv A outer s H vs Q E pX hr hC h => ?_)
  · obtain ⟨z, a, t, b, rfl, _⟩ := h
    rfl
  · obtain ⟨z, a, t, b, rfl, am, lz, st, sb, lw, q⟩ := h
    refine ⟨_, (pss_cons (ps_set (i := 2) sc_term_text.nd rfl (by first | exact Or.inl rfl | exact Or.inr rfl) (pe_ifExp (pt_cmpR op_lt (LH.pe_pr P_sign (hr.mono (by decide)) pass0 (pv 1)) pe_int (nomark _)) (pe_un (LH.un_negF S_neg (hr.mono (by decide)) pass0) (pv 1)) (pv 1)))
      (pss_one (ps_ret (pe_ifExp (pt_cmpR (LH.op_eqF S_eq (hr.mono (by decide)) pass0) (pv 2) (LH.pe_mf K_Amount1 (hr.mono (by decide)) pass0 (pa_cons pe_int pa_nil)) (nomark _)) (pv 0) (pe_joined (.cons (LH.pe_fmtO S_str T.fm T.cm (hr.mono (by decide)) pass0 (pv 2)) (.cons pe_str (.cons (pe_fmt (pv 0)) .nil)))))))), ?_⟩
    refine abs_of (fun R r => ⟨_, rfl, r⟩) am st sb lw fun H1 a1 s1 am1 => ?_
    refine nm_of ?_
    dsimp only
    refine ret_of ?_
    obtain ⟨dx1, ha1⟩ := id am1
    refine ⟨_, rfl, 1, rfl, by decide +kernel, fun H2 p s2 np am2 => ?_⟩
    have am12 := am1.same s2
    have ha12 := s2 _ _ ha1
    have m1 := st.md.abs
    have m2 := sb.md
    have l1 := shown_len m1 m2
    refine ⟨a1, dx1, _, .ref C, rfl, ha12, tyA T.toTx am2, T.fC, a1, .ref p, (t.natAbs : Int), b, .ref C, true, rfl, am12, tyA T.toTx am2, T.kC, (fun z => by cases z), fun _ => ⟨p, 1, 1, rfl, am2, _, rfl, ?_⟩⟩
    have q2 := q H2 (s1.trans s2)
    unfold termS at q2
    rw [← Bool.decide_and]
    by_cases c : (t.natAbs : Int) = 1 ∧ b = 1
    · rw [if_pos c] at q2
      exact iteY (decide_eq_true c) ⟨_, rfl, q2⟩
    · rw [if_neg c] at q2
      refine iteN (decide_eq_false c) ?_
      refine ⟨_, rfl, a1, dx1, _, rfl, ha12, a1, _, _, rfl, am12, m1, m2, _, rfl, _, rfl, ?_, _, rfl, ?_, _, rfl, .inl ⟨_, rfl, small (by omega), _, rfl, ?_, ?_⟩⟩
      · rw [Str.empty_append]
        exact small (by omega)
      · rw [Str.empty_append, strLen_append]
        exact small (by show _ + 1 ≤ _; omega)
      · rw [Str.empty_append, strLen_append, strLen_append]
        exact small (by show _ + 1 + _ ≤ _; omega)
      · rw [Str.empty_append]
        exact q2
theorem hk_form (T : Ty K mg C CF) (P_sign : LH.Prp P w K mg base CX0 1 C "sign" (spGet C fun t _ => sgn t)) (S_neg : LH.SpF P w K mg base CX0 4 C "__neg__" (spNeg C)) (S_eq : LH.SpF P w K mg base CX0 1 C "__eq__" (spEq K C)) (S_str : LH.SpF P w K mg base CX0 1 C "__str__" (spShow C shown))
    (G_term_text : LH.Fnc P w K mg base CX0 5 "term_text" [] (spTerm C)) (F : FD K "form_text" "form_text" s_form_text [] f fd) : LH.FnG P w K mg base CX0 6 f fd ["constant", "weights"] (spForm C) := by
  refine LH.ok0 F sc_form_text (fun vs H Q E h => ?_) (fun cdv A outer s H vs Q E pX hr hC h => ?_)
  · obtain ⟨a, d, c, kvs, ws, rfl, _⟩ := h
    rfl
  · obtain ⟨a, d, c, kvs, ws, rfl, am, hd, wr, ok, q⟩ := h
    refine ⟨_, (pss_cons (ps_if (pt_cmpR (LH.op_eqDO S_eq (hr.mono (by decide)) pass0) (pv 1) pe_dnewK (nomark _)) (pss_one (ps_ret (pe_callTy (LH.call_strOF S_str (hr.mono (by decide)) pass0) (by rfl) T.n_str (by decide +kernel) (pa_cons (pv 0) pa_nil)))) pss_nil)
      (pss_cons (ps_lock (ps_setLcH (i := 2) (g := (gTup K 2 (gCons (gName 3) (gCons (gName 4) gNil)))) (own := [("symbol", 3), ("weight", 4)]) hC sc_form_text.nd rfl rfl (sw_true rfl rfl rfl (by decide +kernel)) (pi_itemsH (pv 1)) (blkOk_by (own := [("symbol", 3), ("weight", 4)]) (N := n_form_text) (sc := defScope s_form_text) (by decide +kernel)) (fun _ _ _ _ _ => (pg_tupH hC (pgs_cons (pg_name (i := 3) sc_form_text.nd rfl (by first | exact Or.inl rfl | exact Or.inr rfl)) (pgs_cons (pg_name (i := 4) sc_form_text.nd rfl (by first | exact Or.inl rfl | exact Or.inr rfl)) pgs_nil)))) (fun _ _ _ _ _ => pts_nil) (fun _ _ _ _ _ => (pe_tup (pa_cons (LH.pe_pr P_sign (hr.mono (by decide)) pass0 (pv 4)) (pa_cons (LH.pe_fn G_term_text (hr.mono (by decide)) pass0 (pa_cons (pv 3) (pa_cons (pv 4) pa_nil))) pa_nil))))))
      (pss_cons (ps_if (pt_cmpR op_ne (LH.pe_pr P_sign (hr.mono (by decide)) pass0 (pv 0)) pe_int (nomark _)) (pss_one (ps_set (i := 2) sc_form_text.nd rfl (by first | exact Or.inl rfl | exact Or.inr rfl) (pe_lst (pa_cons (pe_tup (pa_cons (LH.pe_pr P_sign (hr.mono (by decide)) pass0 (pv 0)) (pa_cons (pe_callTy (LH.call_strOF S_str (hr.mono (by decide)) pass0) (by rfl) T.n_str (by decide +kernel) (pa_cons (pe_ifExp (pt_cmpR op_lt (LH.pe_pr P_sign (hr.mono (by decide)) pass0 (pv 0)) pe_int (nomark _)) (pe_un (LH.un_negF S_neg (hr.mono (by decide)) pass0) (pv 0)) (pv 0)) pa_nil)) pa_nil))) (StX.pa_star (pv 2) pa_nil))))) pss_nil)
      (pss_cons (ps_asg (pv 2) (pg_star1H hC (pgs_cons (pg_tupH hC (pgs_cons (pg_name (i := 5) sc_form_text.nd rfl (by first | exact Or.inl rfl | exact Or.inr rfl)) (pgs_cons (pg_name (i := 6) sc_form_text.nd rfl (by first | exact Or.inl rfl | exact Or.inr rfl)) pgs_nil))) (pgs_cons (pg_name (i := 7) sc_form_text.nd rfl (by first | exact Or.inl rfl | exact Or.inr rfl)) pgs_nil))))
      (pss_cons (ps_setLcH (i := 8) (g := (gTup K 2 (gCons (gName 9) (gCons (gName 10) gNil)))) (own := [("sign", 9), ("part", 10)]) hC sc_form_text.nd rfl rfl (sw_true rfl rfl rfl (by decide +kernel)) (pi_listH (pv 7)) (blkOk_by (own := [("sign", 9), ("part", 10)]) (N := n_form_text) (sc := defScope s_form_text) (by decide +kernel)) (fun _ _ _ _ _ => (pg_tupH hC (pgs_cons (pg_name (i := 9) sc_form_text.nd rfl (by first | exact Or.inl rfl | exact Or.inr rfl)) (pgs_cons (pg_name (i := 10) sc_form_text.nd rfl (by first | exact Or.inl rfl | exact Or.inr rfl)) pgs_nil)))) (fun _ _ _ _ _ => pts_nil) (fun _ _ _ _ _ => (pe_ifExp (pt_cmpR op_lt (pv 9) pe_int (nomark _)) (pe_joined (.cons pe_str (.cons (pe_fmt (pv 10)) .nil))) (pe_joined (.cons pe_str (.cons (pe_fmt (pv 10)) .nil))))))
      (pss_one (ps_ret (pe_join pe_str (pe_lst (pa_cons (pe_ifExp (pt_cmpR op_lt (pv 5) pe_int (nomark _)) (pe_joined (.cons pe_str (.cons (pe_fmt (pv 6)) .nil))) (pv 6)) (StX.pa_star (pv 8) pa_nil))))))))))), ?_⟩
    obtain ⟨dx, ha⟩ := id am
    have m1 := ok.sm.1.md
    have m2 := ok.sm.2.md
    have lw := wr.len
    refine ⟨_, rfl, fun D nD => ?_⟩
    refine eq_empty T.fC (same_upd nD _ _ hd) upd_same fun H1 s1 => ⟨_, rfl, ?_⟩
    replace s1 := (same_upd nD).trans s1
    have ha1 := s1 _ _ ha
    have am1 := am.same s1
    have wr1 := wr.same s1
    have hd1 := s1 _ _ hd
    have ekv : kvs.isEmpty = decide (ws = []) := by
      cases kvs with
      | nil =>
        cases ws with
        | nil => rfl
        | cons x r => cases lw
      | cons y s =>
        cases ws with
        | nil => cases lw
        | cons x r => exact (decide_eq_false fun z => by cases z).symm
    by_cases c0 : ws = []
    · have q1 := q H1 s1
      unfold formS at q1
      rw [if_pos c0] at q1
      refine iteY (by rw [ekv, decide_eq_true c0]) ?_
      exact ⟨_, rfl, a, dx, _, rfl, ha1, a, _, _, rfl, am1, m1, m2, _, rfl, q1⟩
    refine iteN (by rw [ekv, decide_eq_false c0]) ?_
    refine nx_of ?_
    dsimp only
    refine ⟨d, _, hd1, trivial, fun od => ⟨_, rfl, d, od, kvs, rfl, upd_same, fun D2 nD2 => ?_⟩⟩
    have sl : SmD H1 (upd H1 d (.frz od (.dK kvs))) := lock_smd hd1
    refine lc_inv (walk_items (d := d) (o := od) (kvs := kvs)) (fun j acc G => Same (upd H1 d (.frz od (.dK kvs))) G ∧ PsT (rst [D2] G) acc (((ptsW ws).take j).map isV)) (fun j acc G o z => ⟨own_same z.1 nD2, by rw [rst_upd (List.mem_singleton.mpr rfl)]; exact z.2⟩) ⟨Same.rfl', PsT.nil⟩ (fun j acc G hj z => ?_) (fun j acc G _ z => z.1 _ _ upd_same) ?_ ?_
    · have := z.2.len
      have l2 := ok.len
      rw [List.length_map, List.length_take] at this
      unfold ptsW at this
      rw [List.length_map] at this
      exact Nat.lt_of_lt_of_le (show _ < 100000 by omega) (small (Nat.le_refl _))
    · rintro j x acc G G' hj ⟨s7, wr2⟩ hD2 yi R S' hR hS
      obtain ⟨t, p', rfl, nt, rfl, hp'⟩ := items_at yi
      obtain ⟨G8, e8, s8, ht⟩ := mkO nt (.tup [kV p'.1, p'.2])
      rw [e8]
      clear e8
      obtain ⟨z, t', b, a', hw, rfl, am'⟩ := wr1.get hp'
      have zm := List.mem_of_getElem? hw
      have s78 := s7.trans s8
      have am8 : AmtAt C G8 a' t' b := let ⟨dy, e⟩ := am'; ⟨dy, s78 _ _ (sl _ _ e (fun _ z => by cases z))⟩
      obtain ⟨dy, ha8⟩ := id am8
      have hD28 := s8 _ _ hD2
      refine ⟨t, _, rfl, SqT.of ht, rfl, _, _, rfl, _, _, rfl, rfl, rfl, ?_⟩
      dsimp only [tYes]
      rw [if_pos rfl]
      refine ⟨_, rfl, a', dy, _, rfl, ha8, a', t', b, rfl, am8, ?_⟩
      refine ⟨_, rfl, _, rfl, z, a', t', b, rfl, am8, (ok.sy _ zm).2, (ok.sms _ zm).1, (ok.sms _ zm).2, ok.can.low _ zm, fun G9 s9 => ⟨small (show 2 ≤ 100000 by decide), fun p np => ?_⟩⟩
      have s79 := s78.trans s9
      refine hR _ _ ((same_upd np) _ _ (s9 _ _ hD28)) ⟨s79.trans (same_upd np), ?_⟩
      have et : (ptsW ws)[j]? = some (sgn t', termS z t' b) := by
        unfold ptsW
        rw [List.getElem?_map, hw]
        rfl
      rw [take_map isV et]
      refine PsT.snoc (wr2.same (rst_same ((s8.trans s9).trans (same_upd np)))) (rst_one upd_same fun e => ?_)
      rw [e, s9 _ _ hD28] at np
      cases np
    rintro acc G7 hD27 ⟨s7, ps7⟩
    have lk : (ptsW ws).length = kvs.length := by unfold ptsW; rw [List.length_map, lw]
    rw [← lk, List.take_length] at ps7
    refine nm_of ?_
    dsimp only
    refine ⟨s7 _ _ upd_same, ?_⟩
    have s67 := smd_lock hd1 s7
    have nDd : D2 ≠ d := fun e => by rw [e, upd_same] at nD2; cases nD2
    obtain ⟨G8, hG8⟩ : ∃ G8, G8 = upd G7 d (.dK kvs) := ⟨_, rfl⟩
    rw [← hG8] at s67 ⊢
    have hD28 : G8 D2 = some (.lst acc) := by rw [hG8, upd_ne nDd]; exact hD27
    have ps8 : PsT G8 acc ((ptsW ws).map isV) := ⟨ps7.len, fun i v p e1 e2 => by
      obtain ⟨t, ev, x⟩ := ps7.at_ i v p e1 e2
      have x7 := rst_le _ _ x
      refine ⟨t, ev, ?_⟩
      rw [hG8, upd_ne fun e => by rw [e, s7 _ _ upd_same] at x7; cases x7]
      exact x7⟩
    clear hG8
    have s8 := s1.trans s67
    refine seq_cut (fun σ' G => Same H G ∧ ∃ D vs, σ' = [some (.ref a), some (.ref d), some (.ref D), none, none, none, none, none, none, none, none] ∧ G D = some (.lst vs) ∧ PsT G vs ((ptsF c ws).map isV)) (fun N hN => ?_) ?_
    · have l8 : acc.length ≤ 20 := by
        have := ps8.len
        have l2 := ok.len
        rw [List.length_map] at this
        unfold ptsW at this
        rw [List.length_map] at this
        omega
      have ha8 := s67 _ _ ha1
      have am8 := am1.same s67
      refine ⟨_, rfl, a, dx, _, rfl, ha8, a, c.1, c.2, rfl, am8, rfl, _, rfl, ?_⟩
      rw [sgn_ne]
      by_cases c1 : c.1 = 0
      · refine iteN (by rw [decide_eq_true c1]; rfl) ?_
        refine nx_of (hN _ _ ⟨s8, D2, acc, rfl, hD28, ?_⟩)
        unfold ptsF
        rw [if_pos c1]
        exact ps8
      · refine iteY (by rw [decide_eq_false c1]; rfl) ?_
        refine ⟨_, rfl, a, dx, _, rfl, ha8, a, c.1, c.2, rfl, am8, ?_⟩
        refine abs_of (fun R r => ⟨_, rfl, r⟩) am8 ok.sm.1 ok.sm.2 ok.low fun G9 a9 s9 am9 => ?_
        obtain ⟨dx9, ha9⟩ := id am9
        refine ⟨a9, dx9, _, rfl, ha9, a9, _, _, rfl, am9, m1.abs, m2, _, rfl, small (show 2 ≤ 100000 by decide), fun p np => ?_⟩
        refine ⟨_, rfl, D2, acc, rfl, .inr (SqL.of ((same_upd np) _ _ (s9 _ _ hD28))), small (by rw [List.length_cons, List.append_nil]; omega), fun p2 np2 => ?_⟩
        refine nm_of (hN _ _ ⟨(s8.trans s9).trans ((same_upd np).trans (same_upd np2)), p2, _, rfl, upd_same, ?_⟩)
        unfold ptsF
        rw [if_neg c1]
        rw [List.append_nil]
        exact PsT.cons ((ps8.same s9).same ((same_upd np).trans (same_upd np2))) ((same_upd np2) _ _ upd_same)
    rintro σ2 G2 ⟨s2, D, vs, rfl, hD, ps⟩
    have lp : (ptsF c ws).length ≤ 21 := by
      have l2 := ok.len
      unfold ptsF ptsW
      split
      · rw [List.length_map]
        omega
      · rw [List.length_cons, List.length_map]
        omega
    obtain ⟨p0, r, ep⟩ : ∃ p0 r, ptsF c ws = p0 :: r := by
      cases e : ptsF c ws with
      | cons p0 r => exact ⟨p0, r, rfl⟩
      | nil =>
        exfalso
        unfold ptsF ptsW at e
        split at e
        · exact c0 (List.map_eq_nil_iff.mp e)
        · cases e
    have hs := rowS_len ok
    rw [ep] at ps lp hs
    obtain ⟨v0, vr, rfl⟩ : ∃ v0 vr, vs = v0 :: vr := by
      cases vs with
      | nil => have := ps.len; cases this
      | cons v0 vr => exact ⟨v0, vr, rfl⟩
    have lv := ps.len
    rw [List.map_cons, List.length_cons, List.length_cons, List.length_map] at lv
    rw [List.length_cons] at lp
    obtain ⟨t0, rfl, ht0⟩ := ps.at_ 0 v0 (isV p0) rfl rfl
    have psr : PsT G2 vr (r.map isV) := ⟨by rw [List.length_map]; omega, fun i v p e1 e2 => ps.at_ (i + 1) v p e1 e2⟩
    refine ⟨_, rfl, D, .ref t0, vr, rfl, SqL.of hD, by omega, fun D3 nD3 => ?_⟩
    refine ⟨_, _, rfl, t0, _, rfl, SqT.of ((same_upd nD3) _ _ ht0), rfl, _, _, rfl, _, _, rfl, rfl, ?_⟩
    refine ⟨_, _, rfl, ?_⟩
    refine nm_of ?_
    dsimp only
    refine ⟨rfl, ?_⟩
    obtain ⟨G3, e3, sG3, hD3⟩ := mkO nD3 (.lst vr)
    rw [e3]
    clear e3
    have s3 := s2.trans sG3
    have psr3 := psr.same sG3
    refine ⟨_, rfl, D3, rfl, ⟨_, SqL.of hD3⟩, fun D4 nD4 => ?_⟩
    refine lc_acc (walk_list (K := K) (a := D3) (xs := vr)) nD4 (fun i => ((r.take i).map restS).map V.str) rfl (fun i hi => ?_) (fun G s => SqL.of (s _ _ hD3)) ?_ ?_
    · rw [List.length_map, List.length_map, List.length_take]
      omega
    · rintro i x G G' hi s4 ⟨rfl, hx⟩ N S hN hS
      obtain ⟨t, p, rfl, hp, ht⟩ := psr3.get hx
      rw [List.getElem?_map] at hp
      obtain ⟨p1, hp1, rfl⟩ := Option.map_eq_some_iff.mp hp
      have eo : ((r.take (i + 1)).map restS).map V.str = ((r.take i).map restS).map V.str ++ [.str (restS p1)] := by
        rw [take_map restS hp1, List.map_append]
        rfl
      have hl := hs p1 (List.mem_cons_of_mem _ (List.mem_of_getElem? hp1))
      refine ⟨t, _, rfl, SqT.of (s4 _ _ ht), rfl, _, _, rfl, _, _, rfl, rfl, rfl, ?_⟩
      dsimp only [tYes]
      rw [if_pos rfl]
      refine ⟨_, rfl, _, _, rfl, rfl, _, rfl, ?_⟩
      have go := hN (.str (restS p1)) _ Same.rfl' eo
      unfold restS at go
      by_cases c : p1.1 < 0
      · rw [if_pos c] at go
        refine iteY (decide_eq_true c) ⟨_, rfl, ?_, _, rfl, .inl ⟨_, rfl, small (by omega), _, rfl, ?_, ?_⟩⟩
        · rw [Str.empty_append]
          exact small (by decide)
        · rw [Str.empty_append, strLen_append]
          exact small (by show 2 + _ ≤ _; omega)
        · rw [Str.empty_append]
          exact go
      · rw [if_neg c] at go
        refine iteN (decide_eq_false c) ⟨_, rfl, ?_, _, rfl, .inl ⟨_, rfl, small (by omega), _, rfl, ?_, ?_⟩⟩
        · rw [Str.empty_append]
          exact small (by decide)
        · rw [Str.empty_append, strLen_append]
          exact small (by show 2 + _ ≤ _; omega)
        · rw [Str.empty_append]
          exact go
    intro G4 s4 hD4
    rw [show vr.length = r.length by omega, List.take_length] at hD4
    refine nm_of ?_
    dsimp only
    refine ret_of ?_
    have q1 := q G4 (s3.trans s4)
    unfold formS at q1
    rw [if_neg c0, ep] at q1
    have hl0 := hs p0 (List.mem_cons_self ..)
    have lf : (firstS p0).length ≤ 5002 := by
      unfold firstS
      split
      · rw [strLen_append]
        show 1 + _ ≤ _
        omega
      · omega
    refine ⟨⟨_, rfl⟩, ?_⟩
    dsimp only [tLst, tCons]
    refine ex_cut (fun x G => x = .str (firstS p0) ∧ G = G4) (fun R hR => ?_) ?_
    · refine ⟨_, rfl, _, _, rfl, rfl, _, rfl, ?_⟩
      have go := hR _ _ ⟨rfl, rfl⟩
      unfold firstS at go
      by_cases c : p0.1 < 0
      · rw [if_pos c] at go
        refine iteY (decide_eq_true c) ⟨_, rfl, ?_, _, rfl, .inl ⟨_, rfl, small (by omega), _, rfl, ?_, ?_⟩⟩
        · rw [Str.empty_append]
          exact small (by decide)
        · rw [Str.empty_append, strLen_append]
          exact small (by show 1 + _ ≤ _; omega)
        · rw [Str.empty_append]
          exact go
      · rw [if_neg c] at go
        exact iteN (decide_eq_false c) ⟨_, rfl, go⟩
    rintro x G ⟨rfl, rfl⟩
    have hsum := sumsR r fun p hp => hs p (List.mem_cons_of_mem _ hp)
    refine ⟨_, rfl, D4, _, rfl, .inr (SqL.of hD4), small (by rw [List.length_cons, List.append_nil, List.length_map, List.length_map]; omega), fun p np => ⟨" ", p, firstS p0 :: r.map restS, rfl, rfl, .inl (SqL.of ?_), ?_, ?_⟩⟩
    · rw [upd_same, List.append_nil]
      rfl
    · rw [List.map_cons, List.sum_cons, List.length_cons, List.length_map]
      have : (" " : Str).length = 1 := rfl
      rw [this]
      omega
    · exact q _ (((s3.trans s4)).trans (same_upd np)) |> fun z => by
        unfold formS at z
        rw [if_neg c0, ep] at z
        exact z
theorem hk_frepr (T : Ty K mg C CF) (G_form_text : LH.Fnc P w K mg base CX0 6 "form_text" [] (spForm C)) (F : FD K "__repr__" "Form.__repr__" s_Formrepr [] f fd) : LH.FnG P w K mg base CX0 7 f fd ["self"] (spFShow C CF formR) := by
  refine LH.ok0 F sc_Formrepr (fun vs H Q E h => ?_) (fun cdv A outer s H vs Q E pX hr hC h => ?_)
  · obtain ⟨p, c, ws, rfl, _⟩ := h
    rfl
  · obtain ⟨p, c, ws, rfl, ⟨dx, ca, da, kvs, hp, hc, hd, wr⟩, ok, q⟩ := h
    refine ⟨_, (pss_one (ps_ret (pe_joined (.cons pe_str (.cons (pe_fmt (LH.pe_fn G_form_text (hr.mono (by decide)) pass0 (pa_cons (pe_fld (pv 0) rfl) (pa_cons (pe_fld (pv 0) rfl) pa_nil)))) (.cons pe_str .nil)))))), ?_⟩
    have lf := formS_len ok
    have e1 : Str.empty ++ ("Form(" : Str) = "Form(" := Str.empty_append _
    refine ⟨_, rfl, by rw [e1]; exact small (by decide), _, rfl, p, CF, dx, _, _, rfl, hp, T.cf, T.nC, look_c _ _, _, rfl, p, CF, dx, _, _, rfl, hp, T.cf, T.nW, look_w _ _, ca, da, c, kvs, ws, rfl, hc, hd, wr, ok, fun H1 s1 => .inl ⟨_, rfl, Nat.le_trans lf (by rw [sizeLine_eq]; decide), _, rfl, ?_, ?_⟩⟩
    · rw [e1, strLen_append]
      rw [sizeLine_eq]
      show 5 + _ ≤ _
      omega
    · refine ⟨_, rfl, ?_, ?_⟩
      · rw [e1, strLen_append, strLen_append]
        rw [sizeLine_eq]
        show 5 + _ + 1 ≤ _
        omega
      · rw [e1]
        exact q H1 s1
end
end K12

set_option Elab.async false
set_option linter.all false
set_option maxRecDepth 100000
set_option maxHeartbeats 4000000
/-! X12b: Amount(x, y), made or refused; within an except suite. -/
namespace K12
open PySem PySem.Spec PyProof.Rows L2 LL K11 W13
section
variable {P : Program} {w : World} {K : PySem.W.Frag} {mg : Str → Option Value} {base : Heap} {C CF CA CZ : Addr}
theorem mkO2 (G : Mkr P w K mg base (L2N.CX P w) 3 "Amount" C [] (fun vs H Q E => spInit C vs H Q E ∨ spInitX K C CA vs H Q E)) : Mkf P w K mg base (L2N.CX P w) 3 "Amount" (fun vs H Q E => spMkA2 C vs H Q E ∨ spMkX2 K CA vs H Q E) := by
  refine ⟨C, [], _, G, fun vs H Q E h a dx ha hd ne => ?_⟩
  rcases h with ⟨x, y, rfl, hy, bx, by_, q⟩ | ⟨x, y, u, rfl, wr, er⟩
  · exact .inl (mk_amt hy bx by_ q a dx ha hd ne)
  · have s0 := new_insA (C := C) ha hd
    exact .inr ⟨a, dx, x, y, u, rfl, upd_same, wr.same s0, er.same s0⟩
theorem hmkA1 (G : LH.Mkr P w K mg base CX0 2 "Amount" C [.int 1] (spInit C)) : LH.Mkf P w K mg base CX0 2 "Amount" (spMkA1 C) := by
  refine ⟨C, [.int 1], _, G, fun vs H Q E h a dx ha hd ne => ?_⟩
  obtain ⟨x, rfl, bx, q⟩ := h
  refine mk_amt (C := C) (x := x) (y := 1) (by decide) bx (by decide +kernel) (fun H' p s n am => q H' p s n ?_) a dx ha hd ne
  rw [(lt_one x).1, (lt_one x).2] at am
  exact am
end
end K12

set_option Elab.async false
set_option linter.all false
set_option maxRecDepth 100000
set_option maxHeartbeats 2000000
/-! LLKwF: a def called with keywords alone; def f(a, b=0, **d) called with defaults left away; a classmethod called with keywords alone. -/
namespace LL
open PySem PySem.Spec PyProof.Rows L2
/-- f(.., k = v, ..): n values and the keywords ks; sp of all in the order in which they are written -/
structure Fnk (P : Program) (w : World) (K : PySem.W.Frag) (mg : Str → Option Value) (base : Heap) (CX : CXT) (k : Nat) (x : Str) (n : Nat) (ks : List Str) (sp : Sp) : Prop where
  ex : ∃ (f : Addr) (fd : FuncData) (ps : List Str) (g : List Value → List Value → List Value) (gV : List V → List V → List V) (si : Sp), mg x = some (.ref f) ∧ PySem.W.keepIn K (.ref f) = true ∧ KBn K fd ps n ks g gV ∧ FnG P w K mg base CX k f fd ps si ∧
    ∀ vs zs H Q E, vs.length = n → zs.length = ks.length → sp (vs ++ zs) H Q E → si (gV vs zs) H Q E
/-- all in the other order -/
def spRv (sp : Sp) : Sp := fun vs H Q E => sp vs.reverse H Q E
section
variable {X : Cx} {CX : CXT} {k n : Nat} {f : Addr} {fd : FuncData} {ps ks : List Str} {sp : Sp} {E : XK} {x : Str} {p pos : Pos} {kws : List Keyword} {tk : TA} {g : List Value → List Value → List Value} {gV : List V → List V → List V}
theorem run_gN {pins : List (Addr × Obj)} {σ : List (Option V)} {H : Hp} {s : Shared} {Q : VK} {us ws : List Value} {vs zs : List V} (F : FnG X.prog X.w X.K X.mg X.base CX k f fd ps sp) (hr : Rm k X.A) (hb : KBn X.K fd ps n ks g gV) (hx : Passes CX X E)
    (I : Inv X pins σ H s) (r : Vals vs us) (rz : Vals zs ws) (l1 : vs.length = n) (l2 : zs.length = ks.length) (h : sp (gV vs zs) H Q E) : wpAny (model X.prog X.w) X.A (call (.ref f) us (ks.zip ws)) (EP X pins σ Q) X.xe s := by
  have r2 := hb.rel r rz
  refine wpAny_call (codeAny_mono (F.run X.A X.stack s H ⟨us, ks.zip ws⟩ (g us ws) (gV vs zs) Q E hr I.env0 (hb.to s us ws I.kIn (r.length.symm.trans l1) (rz.length.symm.trans l2)) r2 h) fun r s' hq => ?_)
  match r, hq with
  | .error er, hq => exact hx pins σ H s er s' I hq
  | .ok (.ret u), hq => exact I.after hq
  | .ok .next, hq => exact False.elim hq
  | .ok .brk, hq => exact False.elim hq
  | .ok .cont, hq => exact False.elim hq
theorem pe_fnk0 (G : Fnk X.prog X.w X.K X.mg X.base CX k x 0 ks sp) (hr : Rm k X.A) (hx : Passes CX X E) (hkw : PK X kws tk) (hg : Gl X x := by rfl)
    (hall : (backToKw pos (keywordEach kws X.env)).all (·.1.isSome) = true := by rfl) (hks : (backToKw pos (keywordEach kws X.env)).filterMap (·.1) = ks := by rfl) (hdb : (x == ("__debug__" : Str)) = false := by decide)
    (hpl : ((backTo pos (starEach [] X.env)).any (·.1) || (backToKw pos (keywordEach kws X.env)).any (·.1.isNone)) = false := by rfl) :
    PE X (.Call (.Name x p) [] kws pos) (tKw 0 ks.length sp E tNil tk) := by
  obtain ⟨f, fd, ps, g, gV, si, hm, hk, hb, F, conv⟩ := G.ex
  refine ⟨fun pins s σ H Q I h => ?_⟩
  refine wpAny_Call_Name_kw (ld_glob I hg hm ?_ hdb)
  refine PySem.W.callWith_KW0 (h₀ := X.base) I.ok.mod.kin hk hall ?_ hpl
  refine thn (hkw.run pos pins s σ H _ I h) fun ws s2 z => ?_
  obtain ⟨zs, H2, I2, rz, l1, l2, q2⟩ := z
  refine ⟨I2.kIn, ?_⟩
  rw [hks]
  exact run_gN (us := []) (vs := []) F hr hb hx I2 .nil rz rfl l2 (conv [] zs H2 Q E rfl l2 q2)
end
/-- the defaults, then the keywords as a new dict -/
def spKwD (ks : List Str) (dvs : List V) (sp : Sp) : SpW := fun vs zs H Q E => ∀ d, H d = none → sp (vs ++ dvs ++ [.ref d]) (upd H d (.dK ((ks.map Sum.inr).zip zs))) Q E
section
variable {P : Program} {w : World} {K : PySem.W.Frag} {mg : Str → Option Value} {base : Heap} {CX : CXT} {k n : Nat} {f : Addr} {fd : FuncData} {sp : Sp} {ks : List Str}
theorem okStarKd {x qual pv : Str} {params : Arguments} {body : List Stmt} {scope : Scope} {dvs : List V} {N ps : List Str} (F : FunD K x qual params body scope dvs [] f fd) (S : FnScope N (ps ++ [pv]) scope) (hn : ps.length = n + dvs.length) (nd : ks.Nodup) (hz : ks.length ≤ sizeLine) (hd : dvs ≠ [])
    (hb : ∀ (dV kV doc pm : Value) (an : Option Addr) (cdv ct : Value) (us ws : List Value), us.length = n → ws.length = ks.length → ∃ kk : Option (Array Value) → Sem (List (Str × Value)), bindArgs (PySem.W.fnOf x qual params body scope dV kV doc pm an cdv ct) ⟨us, ks.zip ws⟩ = seqItems? dV >>= kk ∧
      ∀ its : List Value, its.length = dvs.length → kk (some its.toArray) = setThen (ps.zip (us ++ its)) pv (ks.zip ws))
    (hbody : ∀ (cdv : Value) (A : Around) (outer : List Env) (s : Shared) (H : Hp) (vs : List V) (Q : VK) (E : XK), Rm k (A.deeper (envOfC qual scope s.heap.objs.size f cdv)) → sp vs H Q E →
      ∃ t, PSs (cxOf CX0 P w K mg base N qual scope f cdv A outer s H E).nox body t ∧ t { nx := fun _ H' => Q .non H', rt := Q } (L2.start N vs) H) : FnW P w K mg base CX0 (k + 1) f n ks (spKwD ks dvs sp) := by
  obtain ⟨oc, od, dV, kV, doc, pm, an, cdv, ct, osl, rfl, lk, hcd, dfl, _⟩ := F.ex
  obtain ⟨T, o, its, m, eT, lT, dT, rT⟩ : ∃ (T : Addr) (o : Obj) (its : List Value) (m : Nat), dV = .ref T ∧ K.lookup T = some o ∧ o.data = .seq its.toArray m ∧ Vals dvs its := dfl.elim (fun h => absurd h.1 hd) fun h => h.2
  refine ⟨fun A outer s H us ws vs zs Q E hr e0 r rz l1 l2 hsp => ?_⟩
  have hn0 : H s.heap.objs.size = Option.none := e0.hok.fresh (Nat.le_refl _)
  have m1 : us.length = n := by rw [← r.length]; exact l1
  have m2 : ws.length = ks.length := by rw [← rz.length]; exact l2
  refine StX.run_bnd lk hcd S hr.r e0 (G := fun xs H2 => ∃ d, H d = Option.none ∧ xs = vs ++ dvs ++ [V.ref d] ∧ H2 = upd H d (.dK ((ks.map Sum.inr).zip zs))) (fun A' Ex Q' h => ?_) fun s2 H2 xs ⟨d, hd, ex, eH⟩ hr' => ?_
  · obtain ⟨kk, b1, b2⟩ := hb dV kV doc pm an cdv ct us ws m1 m2
    rw [b1, eT]
    have KX : K.In s.heap := e0.mod.kin.keeps fun b o e => (e0.bs b o e).1
    refine wpAny_bind (wpAny_seqItems (KX _ _ lT) dT ?_)
    rw [b2 its (by rw [← rT.length])]
    unfold setThen
    refine wpAny_bind (wpAny_alloc ?_)
    refine wpAny_bind ?_
    refine set_all (h0 := s.heap) (ks.zip ws) [] #[] 0 _ rfl (fun e he => by simp at he) .nil ?_ fun es' n' t' k' p' => ?_
    · rw [List.nil_append, List.map_fst_zip (by omega)]
      exact nd
    · refine wpAny_pure ?_
      rw [List.nil_append] at p'
      have new := dk_made (P := P) (w := w) (H := H) (n := n') (StX.env0_big e0) k' p' nd l2 rz hz
      have un := StX.un_laid (fs := frs outer) (s := s) (o := dObj es' n') (u := .dK ((ks.map Sum.inr).zip zs)) hn0
      have e1 := StX.env0_laid e0 new
      have z := h { s with heap := s.heap.push (dObj es' n'), toks := t' } _ (vs ++ dvs ++ [V.ref s.heap.objs.size]) (us ++ its ++ [Value.ref s.heap.objs.size]) ?_ un rfl (fun e s' z => z) ((r.append rT).append (.cons rfl .nil))
        (by simp only [List.length_append, l1, hn]; rfl) ⟨_, hn0, rfl, rfl⟩
      · rw [List.zip_append (by rw [List.length_append, hn, m1, ← rT.length])] at z
        exact z
      · exact ⟨e1.frames, e1.mod, e1.bs, e1.bsz, e1.funs, e1.frf, e1.hok, e1.bare⟩
  · subst ex eH
    obtain ⟨t, ht, q⟩ := hbody cdv A outer s2 _ _ Q E (hr.deeper _) (hsp d hd)
    exact ⟨t, ht.nox, q⟩
end
/-- C.m(x = e, ..) -/
def tCmkN (C : Addr) (m : Nat) (sp : SpW) (E : XK) (ta : TE) (tk : TA) : TE := fun σ H Q => ta σ H fun x H1 => x = .ref C ∧ tk σ H1 fun zs H3 => zs.length = m ∧ sp [.ref C] zs H3 Q E
section
variable {X : Cx} {CX : CXT} {k : Nat} {C f : Addr} {ks : List Str} {sw : SpW} {sp : Sp} {E : XK}
theorem pe_cmkN {o : Expr} {kws : List Keyword} {m : Str} {pos apos : Pos} {ta : TE} {tk : TA} {pl : Sem Bool} (he : PE X o ta) (G : CmtW X.prog X.w X.K X.mg X.base CX k C m 0 ks sw) (hr : Rm k X.A) (hx : Passes CX X E) (hkw : PK X kws tk)
    (hall : (backToKw pos (keywordEach kws X.env)).all (·.1.isSome) = true := by rfl) (hks : (backToKw pos (keywordEach kws X.env)).filterMap (·.1) = ks := by rfl)
    (hpl : ((backTo pos (starEach [] X.env)).any (·.1) || (backToKw pos (keywordEach kws X.env)).any (·.1.isNone)) = false := by rfl)
    (ht : eval (.Call (.Attribute o m apos) [] kws pos) X.env = (do
      let ov ← eval o X.env
      standAt apos.atName
      let (f, first) ← holding [ov] (getMethod ov m pl)
      callWith pos f first (backTo pos (starEach [] X.env)) (backToKw pos (keywordEach kws X.env))) := by rfl) :
    PE X (.Call (.Attribute o m apos) [] kws pos) (tCmkN C ks.length sw E ta tk) := by
  obtain ⟨p, g, c, F⟩ := G.ex
  refine ⟨fun pins s σ H Q I h => ?_⟩
  refine PySem.W.methodCall_KW (pl := pl) (thn (he.run pins s σ H _ I h) fun u s1 ⟨x, H1, I1, rx, ex, q⟩ => ?_) ht
  subst ex
  obtain rfl : u = Value.ref C := rx
  refine ClX.getmethcm_ok I1 G.rd c fun s2 I2 => ?_
  have hq := ClX.pin_at I2
  refine PySem.W.callWith_of hpl (PySem.W.keeps_M (K := X.K) (q := s1.heap.objs.size) (f := g) (self := .ref C) c.fi) (PyProof.Rows.evalArgs_kw2_nil hall ?_)
  refine thn (hkw.run pos _ s2 σ H1 _ I2 q) fun ws s4 ⟨zs, H3, I4, rz, l2, q3⟩ => ⟨⟨ClX.pin_at I4, I4.kIn⟩, ?_⟩
  rw [hks]
  refine thn (wpAny_call (PySem.W.method_call (ClX.pin_at I4) (run_gW (us := [.ref C]) (vs := [.ref C]) F hr I4.env0 hx I4 (.cons rfl .nil) rz rfl l2 q3))) fun _ _ y => ClX.unpinE y
end
end LL

set_option Elab.async false
set_option linter.all false
set_option maxRecDepth 100000
set_option maxHeartbeats 4000000
/-! F12j: Form.of with the constant left away. -/
namespace K12
open PySem PySem.Spec PyProof.Rows L2 LL K11 W13
section
variable {P : Program} {w : World} {K : PySem.W.Frag} {mg : Str → Option Value} {base : Heap} {C CF : Addr} {f : Addr} {fd : FuncData}
theorem ok_of1 (T : Ty K mg C CF) (G_as_amount : Fnc P w K mg base CX0 4 "as_amount" [] (spAs C)) (G_require_symbol : Fnc P w K mg base CX0 2 "require_symbol" [] spReq) (G_is_amount : Fnc P w K mg base CX0 2 "is_amount" [] (spIsAmt C)) (C_Form2 : MkC P w K mg base CX0 5 CF (spMkF2 C CF))
    {ks : List Str} (nd : ks.Nodup) (hz : ks.length ≤ sizeLine)
    (hb : ∀ (dV kV doc pm : Value) (an : Option Addr) (cdv ct : Value) (us ws : List Value), us.length = 1 → ws.length = ks.length → ∃ kk : Option (Array Value) → Sem (List (Str × Value)), bindArgs (PySem.W.fnOf "of" "Form.of" (defArgs s_Form_of) (defBody s_Form_of) (defScope s_Form_of) dV kV doc pm an cdv ct) ⟨us, ks.zip ws⟩ = seqItems? dV >>= kk ∧
      ∀ its : List Value, its.length = 1 → kk (some its.toArray) = setThen ((["cls", "constant"] : List Str).zip (us ++ its)) "weights" (ks.zip ws))
    (F : FD K "of" "Form.of" s_Form_of [.int 0] f fd) : FnW P w K mg base CX0 7 f 1 ks (spKwD ks [.int 0] (spOfB C CF)) := by
  refine okStarKd (ps := ["cls", "constant"]) (pv := "weights") F sc_Form_of rfl nd hz (fun z => by cases z) hb (fun cdv A outer s H vs Q E hr h => ?_)
  obtain ⟨v, c, d, kvs, ws, rfl, hv, cb, hd, wt, ndw, l60, sy, q⟩ := h
  refine ⟨_, (pss_cons (ps_set (i := 3) sc_Form_of.nd rfl (by first | exact Or.inl rfl | exact Or.inr rfl) (pe_fn G_as_amount (hr.mono (by decide)) pass0 (pa_cons (pv 1) pa_nil)))
      (pss_cons (ps_for PassesOwn.never rfl (pi_list (pe_callB (call_sortedD rfl) (by rfl) T.n_sorted (by decide +kernel) (pa_cons (pv 2) pa_nil))) (pg_name (i := 4) sc_Form_of.nd rfl (by first | exact Or.inl rfl | exact Or.inr rfl)) (pss_cons (ps_expr (pe_fn G_require_symbol (hr.mono (by decide)) pass0 (pa_cons (pv 4) pa_nil)))
      (pss_one (ps_if (pt_not (pt_val (pe_fn G_is_amount (hr.mono (by decide)) pass0 (pa_cons (pe_dget (un1 hr.r.units) (pv 2) (pv 4) (fun _ _ => rfl)) pa_nil)))) (pss_one ps_never) pss_nil))))
      (pss_one (ps_ret (pe_mkL (i := 0) C_Form2 (hr.mono (by decide)) pass0 rfl (by first | exact Or.inl rfl | exact Or.inr rfl) (pa_cons (pv 3) (pa_cons (pv 2) pa_nil))))))), ?_⟩
  refine ⟨_, rfl, v, c.1, c.2, rfl, hv, cb, fun H1 ca s1 hca => ?_⟩
  refine nm_of ?_
  dsimp only
  have hd1 := s1 _ _ hd
  have wt1 := wt.same s1
  have ek : kvs.map (·.1) = (ws.map (·.1)).map Sum.inr := by rw [wt.keys, List.map_map]; rfl
  refine ⟨_, rfl, d, kvs, ws.map (·.1), rfl, .inl hd1, ek, by rw [List.length_map]; omega, fun ys l pm srt nl => ⟨l, rfl, ⟨_, SqL.of upd_same⟩, ?_⟩⟩
  obtain ⟨G5, e5, s5, hl5⟩ := mkO nl (.lst (ys.map V.str))
  rw [e5]
  clear e5
  refine for_it (walk_list (K := K) (a := l) (xs := ys.map V.str)) (fun j σ G => Same G5 G ∧ ∃ u4, σ = [some (.ref CF), some v, some (.ref d), some (.ref ca), u4]) ⟨Same.rfl', none, rfl⟩ (fun j σ G _ z => SqL.of (z.1 _ _ hl5)) ?_ ?_
  · rintro j x σ G G' hj ⟨sG, u4, rfl⟩ ⟨rfl, hx⟩
    rw [List.getElem?_map] at hx
    obtain ⟨z, hs, rfl⟩ := Option.map_eq_some_iff.mp hx
    have sm : z ∈ ws.map (·.1) := pm.mem_iff.mp (List.mem_of_getElem? hs)
    obtain ⟨y, hy, rfl⟩ := List.mem_map.mp sm
    obtain ⟨i, hi⟩ := List.getElem?_of_mem hy
    have s7 := s5.trans sG
    obtain ⟨p', hp', vp⟩ := val_key wt1 ndw hi
    have am := (wt1.at_ i p' y hp' hi).same s7
    refine ⟨_, rfl, y.1, rfl, (sy y hy).2.1, (sy y hy).1, fun G7 s8 => ?_⟩
    refine nm_of ?_
    dsimp only
    have g := DGet.k (k := Sum.inr y.1) ((s7.trans s8) _ _ hd1)
    rw [vp] at g
    refine ⟨_, rfl, _, rfl, d, _, rfl, g, p'.2, y.2.1, y.2.2, rfl, am.same s8, _, rfl, iteF ?_⟩
    exact ⟨sG.trans s8, _, rfl⟩
  · rintro σ G ⟨sG, u4, rfl⟩
    have s7 := s5.trans sG
    have s8 := s1.trans s7
    refine ⟨rfl, _, rfl, _, rfl, .ref ca, .ref d, c, ws, rfl, .inl ⟨ca, rfl, hca.same s7⟩, cb, .inr ⟨d, kvs, rfl, s7 _ _ hd1, wt1.same s7⟩, ndw, l60, sy, fun H' p out s9 np cl fm => q H' p out (s8.trans s9) (s8.free np) cl fm⟩
end
end K12

set_option Elab.async false
set_option linter.all false
set_option maxRecDepth 100000
set_option maxHeartbeats 2000000
/-! LLRep: repr of lists with empty dicts in them. -/
namespace LL
open PySem PySem.Spec PyProof.Rows L2
mutual
/-- data that reads so, empty dicts among it -/
inductive Rz (h : Heap) : Value → PyData → Prop
  | dat {v : Value} {d : PyData} {as : List Addr} : Reads h v d as → d.hasDict = false → Rz h v d
  | emp {a : Addr} {as : List Addr} : Reads h (.ref a) (.dict []) as → sysModules ∉ as → Rz h (.ref a) (.dict [])
  | lst {a : Addr} {o : Obj} {vs : Array Value} {n : Nat} {ds : List PyData} : h.get? a = some o → o.cls = .type "list" → o.data = .seq vs n → RzAll h vs.toList ds → Rz h (.ref a) (.list ds)
inductive RzAll (h : Heap) : List Value → List PyData → Prop
  | nil : RzAll h [] []
  | cons {v : Value} {vs : List Value} {d : PyData} {ds : List PyData} : Rz h v d → RzAll h vs ds → RzAll h (v :: vs) (d :: ds)
end
mutual
theorem Rz.reads {h : Heap} : ∀ {v : Value} {d : PyData}, Rz h v d → ∃ as, Reads h v d as
  | _, _, .dat r _ => ⟨_, r⟩
  | _, _, .emp r _ => ⟨_, r⟩
  | _, _, .lst h1 h2 h3 h4 => let ⟨_, r⟩ := RzAll.reads h4; ⟨_, .list h1 h2 h3 r⟩
theorem RzAll.reads {h : Heap} : ∀ {vs : List Value} {ds : List PyData}, RzAll h vs ds → ∃ as, ReadsAll h vs ds as
  | _, _, .nil => ⟨_, .nil⟩
  | _, _, .cons a b => let ⟨_, r⟩ := Rz.reads a; let ⟨_, q⟩ := RzAll.reads b; ⟨_, .cons r q⟩
end
section
variable {prog : Program} {w : World} {h₀ : Heap}
mutual
theorem Rz.reprK : ∀ {v : Value} {d : PyData}, Rz h₀ v d → d.showable = true → d.shown.length ≤ sizeLine → ∃ bs, ReadAtMost h₀ d.depth bs ∧ ReprK prog w bs h₀ d.depth v d.shown
  | _, _, .dat r hd, hs, hz => ReprK.of_reads r hs (fun z => by rw [hd] at z; cases z) hz
  | _, _, .emp r ns, hs, hz => ReprK.of_reads r hs (fun _ => ns) hz
  | _, _, .lst (a := a) (vs := vs) (ds := ds) h1 h2 h3 h4, hs, hz => by
    have hz' : (listText (PyData.shownAll ds)).length ≤ sizeLine := by simpa only [PyData.shown] using hz
    obtain ⟨bs, hb, hk⟩ := RzAll.reprK h4 (by simpa [PyData.showable] using hs) (fun t ht => Nat.le_trans (listText_mem_le ht) hz')
    obtain ⟨as, h5⟩ := h4.reads
    have r : Reads h₀ (.ref a) (.list ds) _ := .list h1 h2 h3 h5
    have hna : a ∉ bs := not_mem_of_deeper r (by simp only [PyData.depth]; omega) hb
    refine ⟨a :: bs, ReadAtMost.cons r (by simp only [PyData.depth]; omega) hb, ?_⟩
    simp only [PyData.depth, PyData.shown]
    obtain ⟨l⟩ := vs
    cases l with
    | nil =>
      have h4' : RzAll h₀ [] ds := h4
      cases h4'
      simp only [PyData.shownAll, listText_nil]
      exact ReprK.listEmpty h1 h2 h3
    | cons x l => exact ReprK.list h1 h2 h3 hna (by simpa using hk.length_eq) (fun i y e => hk.item i y (by simpa using e))
theorem RzAll.reprK : ∀ {vs : List Value} {ds : List PyData}, RzAll h₀ vs ds → PyData.showableAll ds = true → (∀ t ∈ PyData.shownAll ds, t.length ≤ sizeLine) → ∃ bs, ReadAtMost h₀ (PyData.depthAll ds) bs ∧ ReprAllK prog w bs h₀ (PyData.depthAll ds) vs (PyData.shownAll ds)
  | _, _, .nil, _, _ => ⟨[], (fun _ h => nomatch h), by simp only [PyData.shownAll]; exact .nil⟩
  | _, _, .cons (d := d) (ds := ds) r rs, hs, hz => by
    have hs' : d.showable = true ∧ PyData.showableAll ds = true := by simpa [PyData.showableAll] using hs
    obtain ⟨b1, hb1, k1⟩ := Rz.reprK r hs'.1 (hz _ (by simp only [PyData.shownAll]; exact List.mem_cons_self ..))
    obtain ⟨b2, hb2, k2⟩ := RzAll.reprK rs hs'.2 (fun t ht => hz t (by simp only [PyData.shownAll]; exact List.mem_cons_of_mem _ ht))
    refine ⟨b1 ++ b2, ?_, ?_⟩
    · intro b hm
      simp only [PyData.depthAll]
      rcases List.mem_append.mp hm with hm | hm
      · obtain ⟨d', as', r', hd'⟩ := hb1 b hm
        exact ⟨d', as', r', Nat.le_trans hd' (Nat.le_max_left _ _)⟩
      · obtain ⟨d', as', r', hd'⟩ := hb2 b hm
        exact ⟨d', as', r', Nat.le_trans hd' (Nat.le_max_right _ _)⟩
    · simp only [PyData.depthAll, PyData.shownAll]
      exact .cons ((k1.more fun b hb => List.mem_append_left _ hb).level_le (Nat.le_max_left _ _)) (k2.more_le (fun b hb => List.mem_append_right _ hb) (Nat.le_max_right _ _))
end
theorem shows_list {a : Addr} {o : Obj} {vs : Array Value} {n : Nat} {ds : List PyData} (h1 : h₀.get? a = some o) (h2 : o.cls = .type "list") (h3 : o.data = .seq vs n) (h4 : RzAll h₀ vs.toList ds) (hs : PyData.showableAll ds = true) (hsz : (PyData.list ds).shown.length ≤ sizeLine) :
    ∃ T idr, ShowsBy prog w h₀ a (.list ds) T idr := by
  have hz' : (listText (PyData.shownAll ds)).length ≤ sizeLine := by simpa only [PyData.shown] using hsz
  obtain ⟨bs, hb, hk⟩ := RzAll.reprK (prog := prog) (w := w) h4 hs (fun t ht => Nat.le_trans (listText_mem_le ht) hz')
  obtain ⟨as, h5⟩ := h4.reads
  have hna : a ∉ bs := not_mem_of_deeper (.list h1 h2 h3 h5) (by simp only [PyData.depth]; omega) hb
  refine ⟨"list", "list.__repr__", PySem.F.slot_list_repr.toG, PySem.F.slot_list_str, PySem.F.slot_list_format, fun s hk0 => ⟨o, hk0 _ _ h1, h2⟩, fun A E s Q hg hu hk0 hQ => ?_⟩
  simp only [PyData.depth] at hu
  simp only [PyData.shown] at hQ
  obtain ⟨l⟩ := vs
  cases l with
  | nil =>
    have h4' : RzAll h₀ [] ds := h4
    cases h4'
    simp only [PyData.shownAll, listText_nil] at hQ
    exact call_list_repr_empty ⟨o, hk0 _ _ h1, h2⟩ (hk0 _ _ h1) h3 (hQ s.heap _ _ fun _ _ e => e)
  | cons x l =>
    exact call_list_reprK h1 h2 h3 hna (by simpa using hk.length_eq) (fun i y e => hk.item i y (by simpa using e)) hg (fun b _ => Clear.nil b) hu hk0 hQ hz'
end
/-- data, empty dicts among it -/
inductive De (K : PySem.W.Frag) (H : Hp) : V → PyData → Prop
  | dp {v : V} {d : PyData} : Dp K H v d → Shw d → De K H v d
  | emp {a : Addr} : H a = some (.dK []) → De K H (.ref a) (.dict [])
  | lst {a : Addr} {vs : List V} {ds : List PyData} : SqL K H a vs → vs.length = ds.length → (∀ (i : Nat) v d, vs[i]? = some v → ds[i]? = some d → De K H v d) → De K H (.ref a) (.list ds)
section
variable {X : Cx} {pins : List (Addr × Obj)} {σ : L2.St} {H : Hp} {s : Shared}
theorem rz_all {h : Heap} : ∀ {us : List Value} {ds : List PyData}, us.length = ds.length → (∀ (i : Nat) u d, us[i]? = some u → ds[i]? = some d → Rz h u d) → RzAll h us ds
  | [], [], _, _ => .nil
  | u :: us, d :: ds, hl, k => .cons (k 0 u d rfl rfl) (rz_all (by simpa using hl) fun i u d h1 h2 => k (i + 1) u d h1 h2)
  | [], _ :: _, hl, _ => by cases hl
  | _ :: _, [], hl, _ => by cases hl
theorem De.rz (I : Inv X pins σ H s) {v : V} {d : PyData} (h : De X.K H v d) : ∀ u, RelV v u → Rz s.heap u d := by
  induction h with
  | dp h hs =>
    intro u r
    obtain ⟨as, rd⟩ := Dp.reads I _ _ _ h r
    exact .dat rd (Shw.all _ hs).2.2
  | emp e =>
    intro u r
    cases (show u = Value.ref _ from r)
    obtain ⟨rd, ns⟩ := empty_reads I e
    exact .emp rd fun z => ns (List.mem_singleton.mp z).symm
  | @lst a vs ds hs hl k ih =>
    intro u r
    cases (show u = Value.ref _ from r)
    obtain ⟨its, rv, ⟨o, n, ho, hc, _, hd⟩, _⟩ := I.list hs
    refine .lst ho hc hd (rz_all (by rw [List.toList_toArray, ← rv.length, hl]) fun i u d h1 h2 => ?_)
    rw [List.toList_toArray] at h1
    have hi := (List.getElem?_eq_some_iff.mp h1).1
    obtain ⟨v, hv⟩ : ∃ v, vs[i]? = some v := ⟨_, List.getElem?_eq_getElem (by rw [rv.length]; exact hi)⟩
    obtain ⟨u', e', r'⟩ := rv.get hv
    rw [h1] at e'
    cases e'
    exact ih i v d hv h2 u r'
/-- repr of such a list -/
def rRepE (K : PySem.W.Frag) : List V → Hp → VK → Prop := fun xs H Q => ∃ (a : Addr) (vs : List V) (ds : List PyData), xs = [.ref a] ∧ SqL K H a vs ∧ vs.length = ds.length ∧ (∀ (i : Nat) v d, vs[i]? = some v → ds[i]? = some d → De K H v d) ∧ PyData.showableAll ds = true ∧ (PyData.list ds).depth ≤ 40 ∧ (PyData.list ds).shown.length ≤ sizeLine ∧ Q (.str (PyData.list ds).shown) H
theorem call_reprE {K : PySem.W.Frag} (hk : X.K = K) (g : X.A.guards = some []) (hu : X.A.units + 64 < cLine) : CallR X (.builtin "repr") (rRepE K) := by
  subst hk
  intro pins s σ H xs us Q I r h
  obtain ⟨a, vs, ds, rfl, hs, hl, k, hsh, hdp, hz, q⟩ := h
  obtain ⟨u, rfl, ru⟩ := r.one
  cases (show u = Value.ref a from ru)
  have rz : Rz s.heap (.ref a) (.list ds) := De.rz I (.lst hs hl k) _ rfl
  cases rz with
  | dat rd hd =>
    refine repr_of_reads' rd (by simpa [PyData.showable] using hsh) (fun z => by rw [hd] at z; cases z) g (by omega) (fun _ _ e => e) (fun h' t tk hk => ⟨.str _, H, I.kept hk, ⟨_, rfl⟩, q⟩) hz
  | lst h1 h2 h3 h4 =>
    obtain ⟨T, idr, S⟩ := shows_list (prog := X.prog) (w := X.w) h1 h2 h3 h4 hsh hz
    exact call_repr_slot (by omega) (S.typeIs s fun _ _ e => e) S.slotRepr (S.call X.A.in1 _ s _ g (by show X.A.units + 1 + (PyData.list ds).depth < cLine; omega) (fun _ _ e => e) fun h' u tk hk => ⟨_, _, rfl, ⟨.str _, H, I.kept hk, ⟨_, rfl⟩, q⟩⟩)
end
end LL

set_option Elab.async false
set_option linter.all false
set_option maxRecDepth 100000
set_option maxHeartbeats 2000000
/-! LLReprN: repr of lists and tuples, nested, that hold own objects (by their __repr__) and ints. -/
namespace PySem.W
open PySem PySem.Calls PyProof.Rows
section
variable {prog : Program} {w : World} {A : Around} {E : Value → Shared → Prop} {s : Shared} {K : Frag} {x C f : Addr} {ox : Obj} {od : Option Obj}
theorem ifBoundBy_N {M : Model} {last : Value → List Value → Sem Value} {name : Str} {Q : Option Value → Shared → Prop} (X : K.In s.heap) (I : InstAt s.heap x ox C od) (hs : findIn K (.ref C) name = some (some (.ref f))) (hf : isFn K (.ref f) = true)
    (h : wpAny M A (last (.ref f) [.ref x]) (fun v => Q (some v)) E s) : wpAny M A (callSpecialIfBoundBy? last (.ref x) name) Q E s := by
  simp only [callSpecialIfBoundBy?, bindSpecialIfBound?]
  refine wpAny_holding (wpAny_bind (wpAny_bind (wpAny_bind (I.type.here ((looks_findIn X hs).here ?_)))))
  refine wpAny_bind (wpAny_askSetting (wpAny_ite ?_))
  have fin : wpAny M A (last (.ref f) [.ref x] >>= fun v => pure (some v)) Q E s := wpAny_bind (wpAny_mono h (fun v s' h' => wpAny_pure h') fun _ _ h' => h')
  split
  · exact wpAny_bind ((bind_fn X _ (beq_iff_eq.mp hf)).here (wpAny_pure (by exact fin)))
  · exact wpAny_tryCatch (wpAny_bind ((bind_fn X _ (beq_iff_eq.mp hf)).here (wpAny_pure (by exact fin))))
theorem under_N {base : Nat} {Q : Str → Shared → Prop} (hz : base ≤ sizeLine) (hu : A.units < cLine) (X : K.In s.heap) (I : InstAt s.heap x ox C od) (hs : findIn K (.ref C) "__repr__" = some (some (.ref f))) (hf : isFn K (.ref f) = true)
    (h : wpAny (model prog w) A (call (.ref f) [.ref x]) (fun r s' => ∃ t u, r = .str t u ∧ Q t s') E s) : wpAny (model prog w) A (pyReprUnder base (.ref x)) Q E s := by
  unfold pyReprUnder
  rw [if_neg (Nat.not_lt_of_le hz)]
  refine wpAny_bind (m := pyReprObjUnder base (.ref x)) ?_
  unfold pyReprObjUnder pyReprObjBy
  refine wpAny_bind (wpAny_cRoomFor hu ?_)
  refine wpAny_bind (wpAny_bind (I.type.here ((looks_findIn X hs).here ?_)))
  show wpAny _ _ (if (some (Value.ref f)).isNone = true then _ else _) _ _ _
  rw [if_neg (by simp)]
  refine wpAny_bind (ifBoundBy_N X I hs hf ?_)
  refine wpAny_mono h (fun r s' hr => ?_) fun _ _ y => y
  obtain ⟨t, u, rfl, q⟩ := hr
  refine wpAny_bind (wpAny_isInstance (typeIs_str _ _ _) isSubtype_str_str ?_)
  first
    | exact wpAny_pure (wpAny_pure q)
    | (rw [if_pos rfl]; exact wpAny_pure (wpAny_pure q))
    | (simp only [if_true]; exact wpAny_pure (wpAny_pure q))
end
end PySem.W
namespace LL
open PySem PySem.Spec PyProof.Rows L2
open Builtin
open Builtin.List
/-- where a repr within a repr runs -/
structure RA (X : Cx) (k : Nat) (g : List Code) (A : Around) : Prop where
  rm : k ≤ 12 ∧ Rm k A
  env : ∀ s H, Env0 X.prog X.w X.K X.mg X.base X.A X.stack s H → Env0 X.prog X.w X.K X.mg X.base A X.stack s H
  gd : A.guards = some g
theorem rm_under {k : Nat} {A : Around} {c : Code} (h : Rm (k + 1) A) (hk : k ≤ 12) (hw : c.weight ≤ 1) (hu : (A.under c).units = A.units + 1) (hd : (A.under c).handled = A.handled) : Rm k (A.under c) := by
  refine ⟨⟨by rw [hd]; exact h.r.hd, ?_, ?_⟩, fun z => absurd z (Nat.not_lt_of_le hk)⟩
  · have := h.r.dp
    show A.depth + c.weight + 3 * k + 5 < recursionLimit
    omega
  · have := h.r.un
    rw [hu]
    omega
theorem RA.under {X : Cx} {k : Nat} {g : List Code} {A : Around} {id : String} {args : Args} (h : RA X (k + 1) g A) (hg : (Code.builtin id args).isGuard = true) (hw : (Code.builtin id args).weight ≤ 1) (hu : (A.under (.builtin id args)).units = A.units + 1) (hd : (A.under (.builtin id args)).handled = A.handled) :
    RA X k (.builtin id args :: g) (A.under (.builtin id args)) :=
  ⟨⟨by have := h.rm.1; omega, rm_under h.rm.2 (by have := h.rm.1; omega) hw hu hd⟩, fun s H e => let e := h.env s H e; ⟨by first | exact e.frames | (simpa [Around.under, Code.envs, Code.isFrame, pushEnvs] using e.frames), e.mod, e.bs, e.bsz, e.funs, e.frf, e.hok, e.bare⟩, guards_under_guard hg h.gd⟩
/-- v's repr is t wherever it is asked -/
def ReV (X : Cx) (σ : List (Option V)) (k : Nat) (bs : List Addr) (H : Hp) (v : V) (t : Str) : Prop :=
  ∀ (A : Around) (g : List Code) (pins : List (Addr × Obj)) (H1 : Hp) (s : Shared) (u : Value), RA X k g A → (∀ b ∈ bs, Clear g b) → Inv X pins σ H1 s → Same H H1 → L2.RelV v u →
    ∀ (b : Nat), b + t.length ≤ sizeLine → ∀ (E : Value → Shared → Prop) (Q : Str → Shared → Prop), (∀ H2 s', Same H1 H2 → Inv X pins σ H2 s' → Q t s') → wpAny (model X.prog X.w) A (pyReprUnder b u) Q E s
theorem ReV.same {X : Cx} {σ : List (Option V)} {k : Nat} {bs : List Addr} {H H' : Hp} {v : V} {t : Str} (h : ReV X σ k bs H v t) (s : Same H H') : ReV X σ k bs H' v t :=
  fun A g pins H1 s1 u ra cl I sm ru b hb E Q q => h A g pins H1 s1 u ra cl I (s.trans sm) ru b hb E Q q
theorem ReV.sub {X : Cx} {σ : List (Option V)} {k : Nat} {bs cs : List Addr} {H : Hp} {v : V} {t : Str} (h : ReV X σ k bs H v t) (s : ∀ b ∈ bs, b ∈ cs) : ReV X σ k cs H v t :=
  fun A g pins H1 s1 u ra cl I sm ru b hb E Q q => h A g pins H1 s1 u ra (fun b m => cl b (s b m)) I sm ru b hb E Q q
theorem rA_mono {X : Cx} {k m : Nat} {g : List Code} {A : Around} (h : RA X m g A) (l : k ≤ m) : RA X k g A := ⟨⟨Nat.le_trans l h.rm.1, h.rm.2.mono l⟩, h.env, h.gd⟩
theorem ReV.up {X : Cx} {σ : List (Option V)} {k m : Nat} {bs : List Addr} {H : Hp} {v : V} {t : Str} (h : ReV X σ k bs H v t) (l : k ≤ m) : ReV X σ m bs H v t :=
  fun A g pins H1 s1 u ra cl I sm ru b hb E Q q => h A g pins H1 s1 u (rA_mono ra l) cl I sm ru b hb E Q q
theorem reV_int {X : Cx} {σ : List (Option V)} {H : Hp} {i : Int} (h : i.natAbs.log2 < 1920) : ReV X σ 0 [] H (.int i) (toString i) := by
  intro A g pins H1 s u ra cl I sm ru b hb E Q q
  obtain ⟨tk, rfl⟩ := (show ∃ tk, u = Value.int i tk from ru)
  exact ReprIs.int _ h b hb _ _ _ _ fun tk => q _ _ Same.rfl' (I.tok _)
theorem reV_own {X : Cx} {σ : List (Option V)} {k : Nat} {H : Hp} {C : Addr} {sp : Sp} {x : Addr} {t : Str} {dx : Addr} {fs : List (Str × V)} (G : SpF X.prog X.w X.K X.mg X.base L2.CX0 k C "__repr__" sp) (hx : H x = some (.ins C dx fs)) (hsp : ∀ H', Same H H' → sp [.ref x] H' (fun z H2 => z = .str t ∧ Same H' H2) E0) : ReV X σ k [] H (.ref x) t := by
  obtain ⟨f, fd, ps, hs, hf, hb, F⟩ := G.ex
  intro A g pins H1 s u ra cl I sm ru b hb2 E Q q
  cases (show u = Value.ref x from ru)
  obtain ⟨od, J⟩ := inst_of I (sm _ _ hx)
  refine PySem.W.under_N (by omega) (ra.rm.2.r.units0) I.kIn J hs hf ?_
  have go := run_g (X := X.nox) (us := [.ref x]) (vs := [.ref x]) (dvs := []) F ra.rm.2 (ra.env _ _ (I.wish _).env0) hb .nil pass0 (I.wish _) (.cons rfl .nil) (by rw [List.append_nil]; exact hsp H1 sm)
  refine wpAny_mono go (fun w' s' z => ?_) fun _ _ z => z.elim
  obtain ⟨z', H', I', rz, rfl, sm'⟩ := z
  obtain ⟨tk, rfl⟩ := (show ∃ tk, w' = Value.str t tk from rz)
  exact ⟨t, tk, rfl, q _ _ sm' (I'.wish _)⟩
theorem pinP {X : Cx} {pins : List (Addr × Obj)} {σ : List (Option V)} {H : Hp} {s : Shared} {P : Addr} {o : Obj} (I : Inv X pins σ H s) (f : FpOk X pins H P) (e : s.heap.get? P = some o) (nc : ∀ v, o.data ≠ .cell v) : Inv X (pins ++ [(P, o)]) σ H s := I.pins_of fun p hp => by
  rcases List.mem_append.mp hp with hp | hp
  · exact I.pin p (List.mem_append_right _ hp)
  · rw [List.mem_singleton.mp hp]; exact ⟨e, f.1, f.2.1, f.2.2.1, nc⟩
theorem w_lloop (args : Args) : (Code.builtin "list.__repr__.loop" args).weight ≤ 1 := by
  first | decide | (simp [Code.weight]; done) | simp [Code.weight, Code.isCreation, Code.isGuard, Code.isCaller, Code.frames, Code.isFrame, guardIds]
theorem w_tup (args : Args) : (Code.builtin "tuple.__repr__" args).weight ≤ 1 := by
  first | decide | (simp [Code.weight]; done) | simp [Code.weight, Code.isCreation, Code.isGuard, Code.isCaller, Code.frames, Code.isFrame, guardIds]
theorem w_tupU (args : Args) : (Code.builtin "tuple.__repr__.under" args).weight ≤ 1 := by
  first | decide | (simp [Code.weight]; done) | simp [Code.weight, Code.isCreation, Code.isGuard, Code.isCaller, Code.frames, Code.isFrame, guardIds]
section
variable {X : Cx} {σ : List (Option V)} {k : Nat} {bs : List Addr} {H : Hp}
theorem vals_at : ∀ {xs : List V} {us : List Value}, Vals xs us → ∀ (i : Nat) x, xs[i]? = some x → ∃ u, us[i]? = some u ∧ L2.RelV x u
  | _, _, .nil, i, x, h => by simp at h
  | _, _, .cons r q, 0, x, h => by simp at h; subst h; exact ⟨_, rfl, r⟩
  | _, _, .cons r q, i + 1, x, h => by
    obtain ⟨u, h1, h2⟩ := vals_at q i x (by simpa using h)
    exact ⟨u, by simpa using h1, h2⟩
theorem loopN {R : Result → Shared → Prop} {A : Around} {g : List Code} {a P : Addr} (hne : a ≠ P) {xs : List V} {ts : List Str} {base : Nat} {pins : List (Addr × Obj)} (ra : RA X (k + 1) g A) (hcl : ∀ b ∈ bs, Clear g b) (hna : a ∉ bs) (ha : H a = some (.lst xs)) (hlen : ts.length = xs.length)
    (hT : ∀ (i : Nat) (x : V), xs[i]? = some x → ∃ t, ts[i]? = some t ∧ ReV X σ k bs H x t) (hsz : base + (listText ts).length ≤ sizeLine) :
    ∀ (n i : Nat) (s : Shared) (H1 : Hp) (acc : Array Value) (c : Nat) (done : List (Str × Tok)), xs.length - i = n → i ≤ xs.length → FpOk X pins H1 P → Inv X (pins ++ [(P, { cls := .type "list", dict := none, data := .seq acc c, slots := #[] })]) σ H1 s → Same H H1 →
      acc.toList = strValues done → done.map (·.1) = ts.take i → (∀ H2 s' u, Same H1 H2 → Inv X pins σ H2 s' → R (.ok (.ret (.str (listText ts) u))) s') →
      codeAny (model X.prog X.w) A (.builtin "list.__repr__.loop" ⟨[.ref a, rawInt i, .ref P, rawInt ((base + piled (ts.take i) : Nat) : Int)], []⟩) R s := by
  have hX : (listText ts).length = (textFrom 0 "[" ts).length + 1 := by
    show (textFrom 0 "[" ts ++ "]").length = _
    rw [strLen_append]; rfl
  have hL := textFrom_len ts 0 "["
  have hsz1 : xs.length ≤ sizeLine := by
    have h1 := hL.1
    rw [if_neg (Nat.lt_irrefl 0)] at h1
    omega
  have hsz2 : ∀ t ∈ ts, t.length ≤ sizeLine := fun t ht => by
    have h2 := hL.2.1 t ht
    omega
  have hsz3 : (listText ts).length ≤ sizeLine := by omega
  have hp3 := piled_le_listText ts
  intro n
  induction n with
  | zero =>
    intro i s H1 acc c done hk hi fp I sm hacc hdone hR
    have hin : i = xs.length := by omega
    obtain ⟨_, its, m, vi, li, ga⟩ := I.lstM (sm _ _ ha)
    have hP := (I.pin _ (List.mem_append_right _ (List.mem_append_right _ (List.mem_singleton.mpr rfl)))).1
    refine codeAny_builtin F.entry_list_repr_loop ?_
    show wpAny _ _ («list.__repr__.loop» ⟨[.ref a, .int i 0, .ref P, .int ((base + piled (ts.take i) : Nat) : Int) 0], []⟩) _ _ s
    rw [repr_loop_tree]
    refine wpAny_bind (wpAny_listItems ga rfl ?_)
    have hnone : its.toArray[(i : Int).toNat]? = none := by simp [hin, li]
    simp only [hnone]
    unfold reprEnd
    refine wpAny_bind (wpAny_listItems hP rfl ?_)
    rw [hacc, repr_fold]
    refine wpAny_bind (wpAny_pure ?_)
    have hall : done.map (·.1) = ts := by rw [hdone, hin, ← hlen, List.take_length]
    rw [hall]
    refine wpAny_bind (wpAny_mkStr (wpAny_pure ?_) hsz3)
    exact hR H1 _ _ Same.rfl' (I.unpinned.tok _)
  | succ n ih =>
    intro i s H1 acc c done hk hi fp I sm hacc hdone hR
    have hlt : i < xs.length := by omega
    obtain ⟨_, its, m, vi, li, ga⟩ := I.lstM (sm _ _ ha)
    obtain ⟨t, ht, hrep⟩ := hT i xs[i] (List.getElem?_eq_getElem hlt)
    obtain ⟨u, hu, ru⟩ := vals_at vi i xs[i] (List.getElem?_eq_getElem hlt)
    have hp1 := piled_take_succ ht
    have hp2 := piled_take_le ts (i + 1)
    refine codeAny_builtin F.entry_list_repr_loop ?_
    show wpAny _ _ («list.__repr__.loop» ⟨[.ref a, .int i 0, .ref P, .int ((base + piled (ts.take i) : Nat) : Int) 0], []⟩) _ _ s
    rw [repr_loop_tree]
    refine wpAny_bind (wpAny_listItems ga rfl ?_)
    have hsome : its.toArray[(i : Int).toNat]? = some u := by simp [hu]
    simp only [hsome]
    rw [Int.toNat_natCast]
    refine wpAny_bind (wpAny_holding (hrep _ _ _ _ _ _ (ra.under (isGuard_list_loop _) (w_lloop _) (units_under_list_loop _ _) rfl) (fun b hb => (hcl b hb).cons (a := a) fun e => hna (e ▸ hb)) I sm ru (base + piled (ts.take i) + 1) (by omega) _ _ fun H2 s2 sm2 I2 => ?_))
    refine wpAny_bind (wpAny_mkStr ?_ (hsz2 t (List.mem_of_getElem? ht)))
    refine wpAny_bind ?_
    show wpAny _ _ (updateSeq P _) _ _ _
    have hasz : acc.size ≤ sizeLine := by
      have e1 : acc.toList.length = acc.size := by simp
      have e2 : (strValues done).length = done.length := by simp [strValues]
      have e3 : done.length = (ts.take i).length := by rw [← hdone, List.length_map]
      have e4 : (ts.take i).length ≤ i := by rw [List.length_take]; omega
      rw [hacc] at e1; omega
    have pP := I2.pin _ (List.mem_append_right _ (List.mem_append_right _ (List.mem_singleton.mpr rfl)))
    refine wpAny_updateSeq pP.1 rfl (wpAny_pure ⟨F.quiet_list_repr_loop _, ?_⟩) hasz
    have e1 : ((i : Int) + 1) = ((i + 1 : Nat) : Int) := by omega
    have e2 : base + piled (ts.take i) + (t.length + 2) = base + piled (ts.take (i + 1)) := by omega
    rw [e1, e2]
    have fp2 : FpOk X pins H2 P := ⟨pP.2.1, fp.2⟩
    refine ih (i + 1) _ H2 (acc.push (.str t s2.toks)) _ (done ++ [(t, s2.toks)]) (by omega) hlt fp2 (pinP ((I2.unpinned.tok (s2.toks + 1)).turnedL (ch := [P]) (fun b o n e => (Heap.get?_update_other _ _ (fun h : P = b => n (List.mem_singleton.mpr h.symm))).trans e) fun b m => by rw [List.mem_singleton.mp m]; exact fp2) fp2 (Heap.get?_update_self _ pP.1 rfl) fun v z => by cases z) (sm.trans sm2) (by simp [hacc, strValues]) (by simp [List.take_add_one, ht, hdone]) fun H3 s' u' sm3 I3 => ?_
    exact hR H3 s' u' (sm2.trans sm3) I3
theorem list_reprAtN {A : Around} {g : List Code} {a : Addr} {x : V} {xs : List V} {ts : List Str} {base : Nat} {pins : List (Addr × Obj)} {H1 : Hp} {s : Shared} {R : Result → Shared → Prop} (ra : RA X (k + 1) g A) (hcl : ∀ b ∈ a :: bs, Clear g b) (hna : a ∉ bs) (ha : H a = some (.lst (x :: xs))) (hlen : ts.length = (x :: xs).length)
    (hT : ∀ (i : Nat) (y : V), (x :: xs)[i]? = some y → ∃ t, ts[i]? = some t ∧ ReV X σ k bs H y t) (I : Inv X pins σ H1 s) (sm : Same H H1) (hR : ∀ H2 s' u, Same H1 H2 → Inv X pins σ H2 s' → R (.ok (.ret (.str (listText ts) u))) s') (hsz : base + (listText ts).length ≤ sizeLine) :
    wpAny (model X.prog X.w) A.in1 (Builtin.listReprAt base ⟨[.ref a], []⟩) (fun fin s' => match fin with | .done f => R (.ok f) s' | .again c' => c'.quiet = true ∧ codeAny (model X.prog X.w) A c' R s') (fun e s' => R (.error e) s') s := by
  have hca : Clear g a := hcl a (.head _)
  obtain ⟨_, its, m, vi, li, ga⟩ := I.lstM (sm _ _ ha)
  cases its with
  | nil => cases li
  | cons y its =>
  have hPn : H1 s.heap.objs.size = none := I.fresh
  refine wpAny_list_repr_head (A := A.in1) (x := y) (l := its) ra.gd (fun v rest kw hm => listSameRef_of_ne (hca _ _ _ _ hm)) ga rfl ?_
  refine wpAny_bind (m := newList []) (wpAny_newObj_type ?_)
  refine wpAny_pure ⟨F.quiet_list_repr_loop _, ?_⟩
  have fp : FpOk X pins H1 s.heap.objs.size := I.fpOk (Nat.le_refl _) hPn
  refine loopN (P := s.heap.objs.size) (pins := pins) (base := base) (Nat.ne_of_lt (Heap.lt_size ga)) ra (fun b hb => hcl b (.tail _ hb)) hna ha hlen hT hsz _ 0 _ H1 #[] _ [] rfl (Nat.zero_le _) fp
    (pinP (I.kept fun b o e => Heap.get?_push_of_some _ e) fp (Heap.get?_push_size _ rfl) fun v z => by cases z) sm rfl (by simp) hR
theorem reV_list {a : Addr} {xs : List V} {ts : List Str} (ha : H a = some (.lst xs)) (hna : a ∉ bs) (hlen : ts.length = xs.length) (hT : ∀ (i : Nat) (y : V), xs[i]? = some y → ∃ t, ts[i]? = some t ∧ ReV X σ k bs H y t) : ReV X σ (k + 1) (a :: bs) H (.ref a) (listText ts) := by
  intro A g pins H1 s u ra cl I sm ru b hb E Q q
  cases (show u = Value.ref a from ru)
  obtain ⟨_, its, m, vi, li, ga⟩ := I.lstM (sm _ _ ha)
  have hu := ra.rm.2.r.un
  cases xs with
  | nil =>
    have e0 : its = [] := List.length_eq_zero_iff.mp li.symm
    have et : ts = [] := List.length_eq_zero_iff.mp hlen
    subst e0 et
    rw [listText_nil] at q hb
    exact wpAny_pyReprUnder_ref (by omega) (wpAny_pyReprObjUnder_list_empty ⟨_, ga, rfl⟩ (by omega) ga rfl ⟨_, _, rfl, q _ _ Same.rfl' (I.tok _)⟩)
  | cons x xs =>
    refine wpAny_pyReprUnder_ref (by omega) (wpAny_pyReprObjUnder_twin (twin := "list.__repr__.under") ⟨_, ga, rfl⟩ F.slot_list_repr.toG rfl (by omega) ?_)
    exact call_twin_plain F.plain_list_repr_under F.entry_list_repr_under F.check_list_repr_under ⟨_, ga, rfl⟩ F.slot_list_repr.toG (F.args_list_repr_1 _)
      (list_reprAtN (R := callEnd _ E) ra cl hna ha hlen hT I sm (fun H2 s' u sm2 I2 => ⟨⟨_, _, rfl⟩, _, _, rfl, q _ _ sm2 I2⟩) hb)
theorem tupFoldN {A : Around} {g : List Code} {pins : List (Addr × Obj)} {E : Value → Shared → Prop} (ra : RA X k g A) (hcl : ∀ b ∈ bs, Clear g b) : ∀ (l : List Value) (xs : List V) (ts : List Str) (acc : Array Str) (n : Nat) (s : Shared) (H1 : Hp) (Q : (Array Str × Nat) → Shared → Prop), Vals xs l → ts.length = xs.length →
    (∀ (i : Nat) (y : V), xs[i]? = some y → ∃ t, ts[i]? = some t ∧ ReV X σ k bs H y t) → n + piled ts ≤ sizeLine → Inv X pins σ H1 s → Same H H1 → (∀ H2 s', Same H1 H2 → Inv X pins σ H2 s' → Q ⟨acc ++ ts.toArray, n + piled ts⟩ s') →
    wpAny (model X.prog X.w) A (forIn l (⟨acc, n⟩ : (Array Str × Nat)) tupBody) Q E s := by
  intro l
  induction l with
  | nil =>
    intro xs ts acc n s H1 Q vi hlen hT _ I sm h
    cases vi
    have et : ts = [] := List.length_eq_zero_iff.mp hlen
    subst et
    have h0 := h H1 s Same.rfl' I
    simp only [List.forIn_nil]
    exact wpAny_pure (by simpa [piled] using h0)
  | cons u l ih =>
    intro xs ts acc n s H1 Q vi hlen hT hn I sm h
    cases vi with
    | cons ru rl =>
      rename_i x xs
      cases ts with
      | nil => cases hlen
      | cons t ts' =>
        rw [piled_cons] at hn
        rw [List.forIn_cons]
        obtain ⟨t2, et, hx⟩ := hT 0 x rfl
        cases et
        refine wpAny_bind (wpAny_bind (hx _ _ _ _ _ _ ra hcl I sm ru (n + 1) (by omega) _ _ fun H2 s2 sm2 I2 => wpAny_pure ?_))
        refine ih xs ts' (acc.push t) (n + (t.length + 2)) s2 H2 Q rl (by simpa using hlen) (fun i y e => hT (i + 1) y (by simpa using e)) (by omega) I2 (sm.trans sm2) fun H3 s3 sm3 I3 => ?_
        have h1 := h H3 s3 (sm2.trans sm3) I3
        have e : n + piled (t :: ts') = n + (t.length + 2) + piled ts' := by rw [piled_cons]; omega
        rw [e] at h1
        simpa using h1
theorem tup_reprAtN {A : Around} {g : List Code} {a : Addr} {xs : List V} {ts : List Str} {base : Nat} {pins : List (Addr × Obj)} {H1 : Hp} {s : Shared} {R : Result → Shared → Prop} {id : String} {rest : List Value} (ra : RA X (k + 1) g A)
    (hcg : (Code.builtin id ⟨.ref a :: rest, []⟩).isGuard = true) (hw : (Code.builtin id ⟨.ref a :: rest, []⟩).weight ≤ 1) (hcu : (A.under (.builtin id ⟨.ref a :: rest, []⟩)).units = A.units + 1) (hd : (A.under (.builtin id ⟨.ref a :: rest, []⟩)).handled = A.handled)
    (hcl : ∀ b ∈ a :: bs, Clear g b) (hna : a ∉ bs) (ha : H a = some (.tup xs)) (hlen : ts.length = xs.length)
    (hT : ∀ (i : Nat) (y : V), xs[i]? = some y → ∃ t, ts[i]? = some t ∧ ReV X σ k bs H y t) (I : Inv X pins σ H1 s) (sm : Same H H1) (hR : ∀ H2 s' u, Same H1 H2 → Inv X pins σ H2 s' → R (.ok (.ret (.str (tupleText ts) u))) s') (hsz : base + (tupleText ts).length ≤ sizeLine) :
    wpOwn (model X.prog X.w) A (.builtin id ⟨.ref a :: rest, []⟩) (Builtin.tupleReprAt base ⟨[.ref a], []⟩) (fun fin s' => match fin with | .done f => R (.ok f) s' | .again c' => c'.quiet = true ∧ codeAny (model X.prog X.w) A c' R s') (fun e s' => R (.error e) s') s := by
  have hca : Clear g a := hcl a (.head _)
  obtain ⟨its, vi, ⟨o, ga, hc, m, hd2⟩, _⟩ := I.tuple (SqT.of (sm _ _ ha))
  have hp := piled_le_tupleText ts
  have hsz0 : (tupleText ts).length ≤ sizeLine := by omega
  have hl2 : ts.length = its.toArray.size := by rw [hlen, List.size_toArray]; exact vi.length
  rw [tuple_repr_tree, tupleReprUnderWay_eq]
  refine wpOwn_bind (wpOwn_stackTailAny ra.gd (tupGuardF_off _) (tupGuardF_pos _) ?_)
  have hn : (g.any fun c => tupGuardF (.ref a) (c, default)) = false := by
    rw [List.any_eq_false]
    intro c hcm
    rw [tupGuardF_of_clear hca c hcm]
    exact Bool.false_ne_true
  rw [hn]
  refine wpOwn_of_wpAny ?_
  show wpAny _ _ (tupleReprRest base (.ref a)) _ _ s
  unfold tupleReprRest Builtin.Tuple.tupleItemsOf
  refine wpAny_bind (wpAny_bind (wpAny_seqItems ga hd2 (wpAny_pure ?_)))
  rw [← Array.forIn_toList]
  refine wpAny_bind (tupFoldN (pins := pins) (ra.under hcg hw hcu hd) (fun b hb => (hcl b (.tail _ hb)).cons (a := a) fun e => hna (e ▸ hb)) _ xs ts _ _ _ H1 _ vi hlen hT (by omega) I sm fun H2 s2 sm2 I2 => ?_)
  refine wpAny_bind (wpAny_mkStr (wpAny_pure ?_) (by simpa [tupleText, hl2] using hsz0))
  have h1 := hR H2 _ s2.toks sm2 (I2.tok (s2.toks + 1))
  simpa [tupleText, hl2] using h1
theorem reV_tuple {a : Addr} {xs : List V} {ts : List Str} (ha : H a = some (.tup xs)) (hna : a ∉ bs) (hlen : ts.length = xs.length) (hT : ∀ (i : Nat) (y : V), xs[i]? = some y → ∃ t, ts[i]? = some t ∧ ReV X σ k bs H y t) : ReV X σ (k + 1) (a :: bs) H (.ref a) (tupleText ts) := by
  intro A g pins H1 s u ra cl I sm ru b hb E Q q
  cases (show u = Value.ref a from ru)
  obtain ⟨its, vi, ⟨o, ga, hc, m, hd2⟩, _⟩ := I.tuple (SqT.of (sm _ _ ha))
  have hu := ra.rm.2.r.un
  refine wpAny_pyReprUnder_ref (by omega) (wpAny_pyReprObjUnder_twin (twin := "tuple.__repr__.under") ⟨o, ga, hc⟩ F.slot_tuple_repr rfl (by omega) ?_)
  exact call_twin_own (F.quiet_tuple_repr_under _) F.entry_tuple_repr_under F.check_tuple_repr_under ⟨o, ga, hc⟩ F.slot_tuple_repr (F.args_tuple_repr_1 _)
    (tup_reprAtN (R := callEnd _ E) ra (isGuard_tuple_repr_under _) (w_tupU _) (units_under_tuple_repr_under _ _) rfl cl hna ha hlen hT I sm (fun H2 s' u sm2 I2 => ⟨⟨_, _, rfl⟩, _, _, rfl, q _ _ sm2 I2⟩) hb)
end
/-! ### repr(list of lists and tuples) -/
/-- what a thing of depth n shows; bs: its lists and tuples -/
def Tre (C : Addr) (sp : Sp) : Nat → List Addr → Hp → V → Str → Prop
  | 0, _, H, v, t => (∃ i : Int, v = .int i ∧ i.natAbs.log2 < 1920 ∧ t = toString i) ∨ ∃ x dx fs, v = .ref x ∧ H x = some (.ins C dx fs) ∧ ∀ H', Same H H' → sp [.ref x] H' (fun z H2 => z = .str t ∧ Same H' H2) E0
  | n + 1, bs, H, v, t => ∃ a cs xs ts, v = .ref a ∧ a ∈ bs ∧ a ∉ cs ∧ (∀ c ∈ cs, c ∈ bs) ∧ ts.length = xs.length ∧ ((H a = some (.lst xs) ∧ t = listText ts) ∨ (H a = some (.tup xs) ∧ t = tupleText ts)) ∧ ∀ (i : Nat) (y : V), xs[i]? = some y → ∃ t', ts[i]? = some t' ∧ Tre C sp n cs H y t'
theorem Tre.re {X : Cx} {σ : List (Option V)} {k : Nat} {C : Addr} {sp : Sp} (G : SpF X.prog X.w X.K X.mg X.base L2.CX0 k C "__repr__" sp) : ∀ {n : Nat} {bs : List Addr} {H : Hp} {v : V} {t : Str}, Tre C sp n bs H v t → ReV X σ (k + n) bs H v t
  | 0, bs, H, v, t, h => by
    rcases h with ⟨i, rfl, hi, rfl⟩ | ⟨x, dx, fs, rfl, hx, hsp⟩
    · exact ((reV_int hi).up (Nat.zero_le _)).sub fun b m => by cases m
    · exact (reV_own G hx hsp).sub fun b m => by cases m
  | n + 1, bs, H, v, t, h => by
    obtain ⟨a, cs, xs, ts, rfl, ma, na, sub, hl, h1, h2⟩ := h
    have hT : ∀ (i : Nat) (y : V), xs[i]? = some y → ∃ t', ts[i]? = some t' ∧ ReV X σ (k + n) cs H y t' := fun i y e => by
      obtain ⟨t', e1, e2⟩ := h2 i y e
      exact ⟨t', e1, Tre.re G e2⟩
    have sb : ∀ b ∈ a :: cs, b ∈ bs := fun b m => by
      rcases List.mem_cons.mp m with e | m
      · rw [e]; exact ma
      · exact sub b m
    rcases h1 with ⟨ha, rfl⟩ | ⟨ha, rfl⟩
    · exact (reV_list ha na hl hT).sub sb
    · exact (reV_tuple ha na hl hT).sub sb
def rReprN (C : Addr) (sp : Sp) : List V → Hp → VK → Prop := fun vs H Q => ∃ (a : Addr) (cs : List Addr) (xs : List V) (ts : List Str) (n : Nat), vs = [.ref a] ∧ H a = some (.lst xs) ∧ a ∉ cs ∧ ts.length = xs.length ∧ xs ≠ [] ∧ n ≤ 1 ∧ (∀ (i : Nat) (y : V), xs[i]? = some y → ∃ t', ts[i]? = some t' ∧ Tre C sp n cs H y t') ∧ (listText ts).length ≤ sizeLine ∧ ∀ H', Same H H' → Q (.str (listText ts)) H'
theorem call_reprN {X : Cx} {k : Nat} {C : Addr} {sp : Sp} (G : SpF X.prog X.w X.K X.mg X.base L2.CX0 k C "__repr__" sp) (hr : Rm 15 X.A) (hk : k ≤ 10 := by decide) : CallR X (.builtin "repr") (rReprN C sp) := by
  intro pins s σ H xs us Q I r h
  obtain ⟨a, cs, ys, ts, n, rfl, ha, na, hl, hne, hn, hT, hz, q⟩ := h
  obtain ⟨u, rfl, ru⟩ := r.one
  cases (show u = Value.ref a from ru)
  obtain ⟨_, its, m, vi, li, ga⟩ := I.lstM ha
  have hu := hr.r.un
  cases ys with
  | nil => exact absurd rfl hne
  | cons y ys =>
  refine call_repr_slot (by omega) ⟨_, ga, rfl⟩ F.slot_list_repr.toG ?_
  have ra : RA X (k + n + 1) [] X.A.in1 := ⟨⟨by omega, (hr.mono (by omega)).in1⟩, fun s H e => ⟨e.frames, e.mod, e.bs, e.bsz, e.funs, e.frf, e.hok, e.bare⟩, hr.g (by decide)⟩
  refine wpAny_call (codeAny_call_builtin F.slot_list_repr.plain F.entry_list_repr (F.slot_list_repr.check _ _ _ _ _ _ _ _ ⟨_, ga, rfl⟩ (F.args_list_repr_1 _) ?_))
  exact list_reprAtN (base := 0) (bs := cs) (R := callEnd _ _) ra (fun b _ => Clear.nil b) na ha hl (fun i y e => let ⟨t', e1, e2⟩ := hT i y e; ⟨t', e1, e2.re G⟩) I Same.rfl' (fun H2 s' u sm2 I2 => ⟨_, _, rfl, .str _, _, I2, ⟨_, rfl⟩, q _ sm2⟩) (by omega)
end LL

set_option Elab.async false
set_option linter.all false
set_option maxRecDepth 100000
set_option maxHeartbeats 2000000
/-! LLReprT: repr of a list or a tuple that holds own objects, and lists and tuples of such, beside each other. -/
namespace LL
open PySem PySem.Spec PyProof.Rows L2
open Builtin
open Builtin.List
theorem w_tupT (args : Args) : (Code.builtin "tuple.__repr__" args).weight ≤ 1 := by
  first | decide | (simp [Code.weight]; done) | simp [Code.weight, Code.isCreation, Code.isGuard, Code.isCaller, Code.frames, Code.isFrame, guardIds]
/-- the text of a list or of a tuple -/
def LtT (H : Hp) (a : Addr) (xs : List V) (ts : List Str) (t : Str) : Prop := (H a = some (.lst xs) ∧ xs ≠ [] ∧ t = listText ts) ∨ (H a = some (.tup xs) ∧ t = tupleText ts)
def rReprM (C : Addr) (sp : Sp) : List V → Hp → VK → Prop := fun vs H Q => ∃ (a : Addr) (cs : List Addr) (xs : List V) (ts : List Str) (t : Str), vs = [.ref a] ∧ LtT H a xs ts t ∧ a ∉ cs ∧ ts.length = xs.length ∧ (∀ (i : Nat) (y : V), xs[i]? = some y → ∃ n t', n ≤ 1 ∧ ts[i]? = some t' ∧ Tre C sp n cs H y t') ∧ t.length ≤ sizeLine ∧ ∀ H', Same H H' → Q (.str t) H'
theorem call_reprM {X : Cx} {k : Nat} {C : Addr} {sp : Sp} (G : SpF X.prog X.w X.K X.mg X.base L2.CX0 k C "__repr__" sp) (hr : Rm 15 X.A) (hk : k ≤ 10 := by decide) : CallR X (.builtin "repr") (rReprM C sp) := by
  intro pins s σ H xs us Q I r h
  obtain ⟨a, cs, ys, ts, t, rfl, ha, na, hl, hT, hz, q⟩ := h
  obtain ⟨u, rfl, ru⟩ := r.one
  cases (show u = Value.ref a from ru)
  have hu := hr.r.un
  have ra : RA X (k + 1 + 1) [] X.A.in1 := ⟨⟨by omega, (hr.mono (by omega)).in1⟩, fun s H e => ⟨e.frames, e.mod, e.bs, e.bsz, e.funs, e.frf, e.hok, e.bare⟩, hr.g (by decide)⟩
  have hT' : ∀ (i : Nat) (y : V), ys[i]? = some y → ∃ t, ts[i]? = some t ∧ ReV X σ (k + 1) cs H y t := fun i y e => by
    obtain ⟨n, t', hn, e1, e2⟩ := hT i y e
    exact ⟨t', e1, (e2.re G).up (by omega)⟩
  rcases ha with ⟨ha, hne, rfl⟩ | ⟨ha, rfl⟩
  · obtain ⟨_, its, m, vi, li, ga⟩ := I.lstM ha
    cases ys with
    | nil => exact absurd rfl hne
    | cons y ys =>
    refine call_repr_slot (by omega) ⟨_, ga, rfl⟩ F.slot_list_repr.toG ?_
    refine wpAny_call (codeAny_call_builtin F.slot_list_repr.plain F.entry_list_repr (F.slot_list_repr.check _ _ _ _ _ _ _ _ ⟨_, ga, rfl⟩ (F.args_list_repr_1 _) ?_))
    exact list_reprAtN (base := 0) (bs := cs) (R := callEnd _ _) ra (fun b _ => Clear.nil b) na ha hl hT' I Same.rfl' (fun H2 s' u sm2 I2 => ⟨_, _, rfl, .str _, _, I2, ⟨_, rfl⟩, q _ sm2⟩) (by omega)
  · obtain ⟨its, vi, ⟨o, ga, hc, m, hd2⟩, _⟩ := I.tuple (SqT.of ha)
    refine call_repr_slot (by omega) ⟨o, ga, hc⟩ F.slot_tuple_repr ?_
    refine wpAny_call (codeAny_call_builtin_own (Code.quiet_builtin _ (by decide +kernel)) F.entry_tuple_repr (F.slot_tuple_repr.check _ _ _ _ _ _ _ _ ⟨o, ga, hc⟩ (F.args_tuple_repr_1 _) ?_))
    exact tup_reprAtN (base := 0) (bs := cs) (R := callEnd _ _) (rest := []) ra (isGuard_tuple_repr _) (w_tupT _) (units_under_tuple_repr _ _) rfl (fun b _ => Clear.nil b) na ha hl hT' I Same.rfl' (fun H2 s' u sm2 I2 => ⟨_, _, rfl, .str _, _, I2, ⟨_, rfl⟩, q _ sm2⟩) (by omega)
end LL

set_option Elab.async false
set_option linter.all false
set_option maxRecDepth 100000
set_option maxHeartbeats 2000000
/-! LLRepD: repr of a dict whose values are data without dicts. -/
namespace LL
open PySem PySem.Spec PyProof.Rows L2
def keyD : Key → PyData
  | .inl i => .int i
  | .inr x => .str x
def kvD : List (Key × V) → List PyData → List (PyData × PyData)
  | (k, _) :: r, d :: ds => (keyD k, d) :: kvD r ds
  | _, _ => []
theorem kvD_fst : ∀ {kvs : List (Key × V)} {ds : List PyData}, kvs.length = ds.length → (kvD kvs ds).map (·.1) = kvs.map fun p => keyD p.1
  | [], [], _ => rfl
  | (k, v) :: r, d :: ds, h => by
    simp only [kvD, List.map_cons]
    rw [kvD_fst (kvs := r) (ds := ds) (by simpa using h)]
  | [], _ :: _, h => by cases h
  | _ :: _, [], h => by cases h
theorem kvD_snd : ∀ {kvs : List (Key × V)} {ds : List PyData}, kvs.length = ds.length → (kvD kvs ds).map (·.2) = ds
  | [], [], _ => rfl
  | (k, v) :: r, d :: ds, h => by
    simp only [kvD, List.map_cons]
    rw [kvD_snd (kvs := r) (ds := ds) (by simpa using h)]
  | [], _ :: _, h => by cases h
  | _ :: _, [], h => by cases h
theorem DpAll.len {K : PySem.W.Frag} {H : Hp} : ∀ {vs : List V} {ds : List PyData}, DpAll K H vs ds → vs.length = ds.length
  | _, _, .nil => rfl
  | _, _, .cons _ r => by simpa using DpAll.len r
section
variable {X : Cx} {pins : List (Addr × Obj)} {σ : L2.St} {H : Hp} {s : Shared}
theorem keys_read {P : Program} {w : World} {h : Heap} : ∀ {es : List DictEntry} {kvs : List (Key × V)} {vs : List (Key × Value)}, KV kvs vs → Pairs (mixKind P w) es vs → ReadsAll h (es.map (·.key)) (kvs.map fun p => keyD p.1) []
  | _, _, _, .nil, .nil => .nil
  | e :: es, (k, v) :: kvs, _, .cons q r, .cons hk hv p => by
    have := keys_read (h := h) r p
    have q1 := q.1
    have hd : Reads h e.key (keyD k) [] := by
      rcases keyIs_shape hk with ⟨i, t, e1, e2⟩ | ⟨x, t, e1, e2⟩
      · rw [e2, show k = _ from q1, e1]
        exact .int i t
      · rw [e2, show k = _ from q1, e1]
        exact .str x t
    exact .cons (as := []) (bs := []) hd this
theorem vals_read (I : Inv X pins σ H s) {P : Program} {w : World} : ∀ {es : List DictEntry} {kvs : List (Key × V)} {vs : List (Key × Value)} {ds : List PyData}, KV kvs vs → Pairs (mixKind P w) es vs → DpAll X.K H (kvs.map (·.2)) ds → ∃ bs, ReadsAll s.heap (es.map (·.val)) ds bs
  | _, _, _, _, .nil, .nil, .nil => ⟨_, .nil⟩
  | e :: es, (k, v) :: kvs, _, d :: ds, .cons q r, .cons hk hv p, .cons h t => by
    obtain ⟨bs, hb⟩ := vals_read I r p t
    obtain ⟨as, ha⟩ := Dp.reads I d v e.val h (by rw [hv]; exact q.2)
    exact ⟨_, .cons ha hb⟩
/-- repr of such a dict -/
def rRepDk (K : PySem.W.Frag) : List V → Hp → VK → Prop := fun xs H Q => ∃ (a : Addr) (kvs : List (Key × V)) (ds : List PyData), xs = [.ref a] ∧ H a = some (.dK kvs) ∧ DpAll K H (kvs.map (·.2)) ds ∧ PyData.showableKv (kvD kvs ds) = true ∧ PyData.hasDictAll ds = false ∧ (PyData.dict (kvD kvs ds)).depth ≤ 40 ∧ (PyData.dict (kvD kvs ds)).shown.length ≤ sizeLine ∧ Q (.str (PyData.dict (kvD kvs ds)).shown) H
theorem noDict_keys : ∀ kvs : List (Key × V), PyData.hasDictAll (kvs.map fun p => keyD p.1) = false
  | [] => by simp only [List.map_nil, PyData.hasDictAll]
  | (k, v) :: r => by
    have e : (keyD k).hasDict = false := by cases k <;> simp only [keyD, PyData.hasDict]
    rw [List.map_cons]
    simp only [PyData.hasDictAll, e, noDict_keys r, Bool.or_self]
theorem call_reprDk {K : PySem.W.Frag} (hk : X.K = K) (g : X.A.guards = some []) (hu : X.A.units + 64 < cLine) : CallR X (.builtin "repr") (rRepDk K) := by
  subst hk
  intro pins s σ H xs us Q I r h
  obtain ⟨a, kvs, ds, rfl, e, hd, hs, hn, hp, hz, q⟩ := h
  obtain ⟨u, rfl, ru⟩ := r.one
  cases (show u = Value.ref a from ru)
  obtain ⟨_, hsys, vs, kv, o, es, ep, h1, h2, h3, _, h5, _⟩ := (show ObjOk X.prog X.w H s.heap a (.dK kvs) from I.hok a _ e)
  have hl : kvs.length = ds.length := by rw [← DpAll.len hd, List.length_map]
  obtain ⟨bs, rv⟩ := vals_read I kv h5 hd
  have rk := keys_read (h := s.heap) kv h5
  rw [← kvD_fst hl] at rk
  have rv' : ReadsAll s.heap (es.toList.map (·.val)) ((kvD kvs ds).map (·.2)) bs := by rw [kvD_snd hl]; exact rv
  have hz' : (dictText (PyData.shownKv (kvD kvs ds))).length ≤ sizeLine := by simpa only [PyData.shown] using hz
  obtain ⟨hs1, hs2⟩ := PyData.showableKv_split (kvD kvs ds) hs
  obtain ⟨b1, hb1, k1⟩ := ReprAllK.of_readsAll (prog := X.prog) (w := X.w) rk hs1 (fun z _ => by rw [kvD_fst hl, noDict_keys] at z; cases z) (fun t ht => let ⟨p, hp, hl⟩ := PyData.shownKv_key_le _ t ht; Nat.le_trans hl (Nat.le_trans (dictText_mem_le hp) hz'))
  obtain ⟨b2, hb2, k2⟩ := ReprAllK.of_readsAll (prog := X.prog) (w := X.w) rv' hs2 (fun z _ => by rw [kvD_snd hl, hn] at z; cases z) (fun t ht => let ⟨p, hp, hl⟩ := PyData.shownKv_val_le _ t ht; Nat.le_trans hl (Nat.le_trans (dictText_mem_le hp) hz'))
  have hb : ReadAtMost s.heap (PyData.depthKv (kvD kvs ds)) (b1 ++ b2) := (hb1.mono (PyData.depthAll_keys_le _)).append (hb2.mono (PyData.depthAll_vals_le _))
  have hna : a ∉ b1 ++ b2 := not_mem_of_deeper (.dict h1 h2.1 h3 rk rv') (by simp only [PyData.depth]; omega) hb
  simp only [PyData.depth] at hp
  simp only [PyData.shown, PyData.shownKv_eq] at q
  refine call_repr_slot (by omega) ⟨o, h1, h2.1⟩ PySem.F.slot_dict_repr (call_dict_reprK h1 h2.1 h3 hsys hna (ReprEntriesK.of_two es.toList _ _
      (k1.more_le (fun b hb => List.mem_append_left _ hb) (PyData.depthAll_keys_le _)) (k2.more_le (fun b hb => List.mem_append_right _ hb) (PyData.depthAll_vals_le _))) g (fun b _ => Clear.nil b) (by show X.A.units + 1 + (PyData.depthKv (kvD kvs ds) + 1) < cLine; omega) (fun _ _ z => z) (fun h' u tk hk => ⟨_, _, rfl, .str _, H, I.kept hk, ⟨_, rfl⟩, q⟩) (by rw [← PyData.shownKv_eq]; exact hz'))
end
end LL

set_option Elab.async false
set_option linter.all false
set_option maxRecDepth 100000
set_option maxHeartbeats 2000000
/-! LLReprO: repr of a dict whose values are own objects (by their __repr__) or ints. -/
namespace PySem.W
open PySem PySem.Calls PyProof.Rows
section
variable {prog : Program} {w : World} {A : Around} {E : Value → Shared → Prop} {s : Shared} {K : Frag} {x C f : Addr} {ox : Obj} {od : Option Obj}
theorem ifBoundBy_K {M : Model} {last : Value → List Value → Sem Value} {name : Str} {Q : Option Value → Shared → Prop} (X : K.In s.heap) (I : InstAt s.heap x ox C od) (hs : findIn K (.ref C) name = some (some (.ref f))) (hf : isFn K (.ref f) = true)
    (h : wpAny M A (last (.ref f) [.ref x]) (fun v => Q (some v)) E s) : wpAny M A (callSpecialIfBoundBy? last (.ref x) name) Q E s := by
  simp only [callSpecialIfBoundBy?, bindSpecialIfBound?]
  refine wpAny_holding (wpAny_bind (wpAny_bind (wpAny_bind (I.type.here ((looks_findIn X hs).here ?_)))))
  refine wpAny_bind (wpAny_askSetting (wpAny_ite ?_))
  have fin : wpAny M A (last (.ref f) [.ref x] >>= fun v => pure (some v)) Q E s := wpAny_bind (wpAny_mono h (fun v s' h' => wpAny_pure h') fun _ _ h' => h')
  split
  · exact wpAny_bind ((bind_fn X _ (beq_iff_eq.mp hf)).here (wpAny_pure (by exact fin)))
  · exact wpAny_tryCatch (wpAny_bind ((bind_fn X _ (beq_iff_eq.mp hf)).here (wpAny_pure (by exact fin))))
theorem under_K {base : Nat} {Q : Str → Shared → Prop} (hz : base ≤ sizeLine) (hu : A.units < cLine) (X : K.In s.heap) (I : InstAt s.heap x ox C od) (hs : findIn K (.ref C) "__repr__" = some (some (.ref f))) (hf : isFn K (.ref f) = true)
    (h : wpAny (model prog w) A (call (.ref f) [.ref x]) (fun r s' => ∃ t u, r = .str t u ∧ Q t s') E s) : wpAny (model prog w) A (pyReprUnder base (.ref x)) Q E s := by
  unfold pyReprUnder
  rw [if_neg (Nat.not_lt_of_le hz)]
  refine wpAny_bind (m := pyReprObjUnder base (.ref x)) ?_
  unfold pyReprObjUnder pyReprObjBy
  refine wpAny_bind (wpAny_cRoomFor hu ?_)
  refine wpAny_bind (wpAny_bind (I.type.here ((looks_findIn X hs).here ?_)))
  show wpAny _ _ (if (some (Value.ref f)).isNone = true then _ else _) _ _ _
  rw [if_neg (by simp)]
  refine wpAny_bind (ifBoundBy_K X I hs hf ?_)
  refine wpAny_mono h (fun r s' hr => ?_) fun _ _ y => y
  obtain ⟨t, u, rfl, q⟩ := hr
  refine wpAny_bind (wpAny_isInstance (typeIs_str _ _ _) isSubtype_str_str ?_)
  first
    | exact wpAny_pure (wpAny_pure q)
    | (rw [if_pos rfl]; exact wpAny_pure (wpAny_pure q))
    | (simp only [if_true]; exact wpAny_pure (wpAny_pure q))
end
end PySem.W
namespace PySem.SeqAt
open PySem.W PyProof.Rows PySem.Calls PySem.Spec
/-- x's repr is t, whatever stands in St -/
def ReSt (prog : Program) (w : World) (St : Shared → Prop) (A : Around) (x : Value) (t : Str) : Prop :=
  ∀ (b : Nat), b + t.length ≤ sizeLine → ∀ (s : Shared), St s → ∀ (E : Value → Shared → Prop) (Q : Str → Shared → Prop), (∀ s', St s' → Q t s') → wpAny (model prog w) A (pyReprUnder b x) Q E s
section
variable {prog : Program} {w : World}
theorem reprO {a : Addr} {o : Obj} {es : Array DictEntry} {n : Nat} {ps : List Str} {St : Shared → Prop} {A : Around} {g : List Code} {s : Shared} {E : Value → Shared → Prop} {Q : Value → Shared → Prop}
    (ha : s.heap.get? a = some o) (hc : o.cls = .type "dict") (hd : o.data = .dict es n) (hsys : (a == sysModules) = false) (hs : St s) (same : ∀ u, St u → u.heap.get? a = some o) (tok : ∀ u k, St u → St { u with toks := k })
    (hlen : ps.length = es.size) (hE : ∀ (i : Nat) (e : DictEntry), es[i]? = some e → ∃ k v : Str, ps[i]? = some (k ++ ": " ++ v) ∧ ReSt prog w St (A.under (.builtin "dict.__repr__" ⟨[.ref a], []⟩)) e.key k ∧ ReSt prog w St (A.under (.builtin "dict.__repr__" ⟨[.ref a], []⟩)) e.val v)
    (hg : A.guards = some g) (hca : Clear g a) (hQ : ∀ u k, St u → Q (.str (dictText ps) k) u) (hsz : (dictText ps).length ≤ sizeLine) :
    wpAny (model prog w) A (call (.builtin "dict.__repr__") [.ref a]) Q E s := by
  have hp3 := piled_le_dictText ps
  have hTy : s.TypeIs (.ref a) "dict" := ⟨o, ha, hc⟩
  refine wpAny_call (codeAny_call_builtin_own (Code.quiet_builtin _ (by decide +kernel)) F.entry_dict_repr (F.slot_dict_repr.check _ _ _ _ _ _ _ _ hTy (F.args_dict_repr_1 _) ?_))
  unfold Builtin.«dict.__repr__» Builtin.dictReprAt
  refine wpOwn_bind (wpOwn_of_wpAny ?_)
  unfold Builtin.Dict.dictSlotNone
  refine wpAny_bind (wpAny_notOrdered_dict hTy ?_)
  show wpAny _ _ (pure (Value.ref a)) _ _ s
  refine wpAny_pure ?_
  rw [dictReprRunning_eq]
  refine wpOwn_bind (wpOwn_stackTailAny hg (dictGuardF_off _) (dictGuardF_pos _) ?_)
  have hn : (g.any fun c => dictGuardF (.ref a) (c, default)) = false := by
    rw [List.any_eq_false]
    intro c hcm
    rw [dictGuardF_of_clear hca c hcm]
    exact Bool.false_ne_true
  rw [hn]
  refine wpOwn_of_wpAny ?_
  show wpAny _ _ (Builtin.Dict.addrOf (.ref a) >>= _) _ _ s
  refine wpAny_bind (wpAny_pure ?_)
  show wpAny _ _ (Builtin.Dict.showsAll a >>= _) _ _ s
  unfold Builtin.Dict.showsAll
  rw [if_neg (by rw [hsys]; exact Bool.false_ne_true)]
  refine wpAny_bind (wpAny_pure ?_)
  refine wpAny_bind (wpAny_dictEpoch ha hd ?_)
  refine wpAny_bind (wpAny_dictEntries ha hd ?_)
  refine wpAny_bind ?_
  rw [Std.Legacy.Range.forIn_eq_forIn_range']
  simp only [Std.Legacy.Range.size, Nat.sub_zero, Nat.add_sub_cancel, Nat.div_one]
  refine wpAny_forIn_list _
    (fun rest' r s' => ∃ i, rest' = List.range' i (es.size - i) ∧ i ≤ es.size ∧ r = (⟨(ps.take i).toArray, 0 + piled (ps.take i)⟩ : (Array Str × Nat)) ∧ St s')
    _ ?_ ?_ _ _ ⟨0, by simp, Nat.zero_le _, by simp [piled], hs⟩
  · rintro x rest' _ s' ⟨i, hr, hi, rfl, hs'⟩
    have hlt : i < es.size := by
      rcases Nat.lt_or_ge i es.size with h | h
      · exact h
      · rw [Nat.sub_eq_zero_of_le h] at hr; simp at hr
    obtain ⟨rfl, hrest⟩ : x = i ∧ rest' = List.range' (i + 1) (es.size - (i + 1)) := by
      have e : es.size - i = (es.size - (i + 1)) + 1 := by omega
      rw [e, List.range'_succ] at hr
      injection hr with h1 h2
      exact ⟨h1, h2⟩
    obtain ⟨k, v, hp, rk, rv⟩ := hE x es[x] (by simp [hlt])
    have hpl : (k ++ ": " ++ v).length = k.length + 2 + v.length := by
      rw [strLen_append, strLen_append]; rfl
    have hp1 := piled_take_succ hp
    have hp2 := piled_take_le ps (x + 1)
    rw [hpl] at hp1
    refine wpAny_bind (wpAny_dictEntries (same _ hs') hd ?_)
    rw [Array.getElem?_eq_getElem hlt]
    refine wpAny_bind (wpAny_holding (wpAny_bind (rk (0 + piled (ps.take x) + 1) (by omega) _ hs' _ _ fun s1 hs1 =>
      wpAny_bind (rv (0 + piled (ps.take x) + (k.length + 3)) (by omega) _ hs1 _ _ fun s2 hs2 => wpAny_pure ?_))))
    refine wpAny_bind (wpAny_dictEpoch (same _ hs2) hd ?_)
    rw [if_neg (by simp)]
    have e1 : (ps.take x).toArray.push (k ++ ": " ++ v) = (ps.take (x + 1)).toArray := by
      rw [List.take_add_one, hp]
      simp
    have e2 : 0 + piled (ps.take x) + (k.length + v.length + 4) = 0 + piled (ps.take (x + 1)) := by omega
    refine wpAny_pure ⟨x + 1, hrest, hlt, ?_, hs2⟩
    rw [e1, e2]
  · rintro _ s' ⟨i, hr, hi, rfl, hs'⟩
    have hin : i = es.size := by
      rcases Nat.lt_or_ge i es.size with h | h
      · have e : es.size - i = (es.size - (i + 1)) + 1 := by omega
        rw [e, List.range'_succ] at hr; exact nomatch hr
      · exact Nat.le_antisymm hi h
    rw [hin, ← hlen, List.take_length]
    refine wpAny_bind (wpAny_mkStr (wpAny_pure ?_) (by simpa [dictText] using hsz))
    have h1 := hQ { s' with toks := s'.toks + 1 } s'.toks (tok _ _ hs')
    simpa [dictText] using h1
end
end PySem.SeqAt
namespace LL
open PySem PySem.Spec PyProof.Rows L2
theorem Rm.rep {k : Nat} {A : Around} (h : Rm (k + 2) A) (hk : k ≤ 12) (a : Addr) : Rm k (A.in1.under (.builtin "dict.__repr__" ⟨[.ref a], []⟩)) := by
  have w1 : (Code.builtin "dict.__repr__" ⟨[.ref a], []⟩).weight ≤ 1 := by
    first | decide | (simp [Code.weight]; done) | simp [Code.weight, Code.isCreation, Code.isGuard, Code.isCaller, Code.frames, Code.isFrame, guardIds]
  refine ⟨⟨h.r.hd, ?_, ?_⟩, fun z => absurd z (Nat.not_lt_of_le hk)⟩
  · have := h.r.dp
    show A.depth + (Code.builtin "dict.__repr__" ⟨[.ref a], []⟩).weight + 3 * k + 5 < recursionLimit
    omega
  · have := h.r.un
    rw [units_under_dict_repr]
    show A.units + 1 + 1 + 16 * k + 200 < cLine
    omega
theorem env0_rep {P : Program} {w : World} {K : PySem.W.Frag} {mg : Str → Option Value} {base : Heap} {A : Around} {outer : List Env} {s : Shared} {H : Hp} (e : Env0 P w K mg base A outer s H) (a : Addr) :
    Env0 P w K mg base (A.in1.under (.builtin "dict.__repr__" ⟨[.ref a], []⟩)) outer s H := ⟨by first | exact e.frames | (simpa [Around.under, Code.envs, Code.isFrame, pushEnvs] using e.frames), e.mod, e.bs, e.bsz, e.funs, e.frf, e.hok, e.bare⟩
theorem ent_at {P : Program} {w : World} : ∀ {es : List DictEntry} {kvs : List (Key × V)} {vs : List (Key × Value)}, KV kvs vs → Pairs (mixKind P w) es vs → ∀ (i : Nat) (e : DictEntry), es[i]? = some e → ∃ kv, kvs[i]? = some kv ∧ L2.RelV kv.2 e.val ∧ ((∃ n t, kv.1 = Sum.inl n ∧ e.key = .int n t) ∨ ∃ x t, kv.1 = Sum.inr x ∧ e.key = .str x t)
  | _, _, _, .nil, .nil, i, e, h => by simp at h
  | e0 :: es, (k, v) :: kvs, _, .cons q r, .cons hk hv p, 0, e, h => by
    simp at h
    subst h
    refine ⟨_, rfl, by rw [hv]; exact q.2, ?_⟩
    rcases keyIs_shape hk with ⟨i, t, e1, e2⟩ | ⟨x, t, e1, e2⟩
    · exact .inl ⟨i, t, (show k = _ from q.1).trans e1, e2⟩
    · exact .inr ⟨x, t, (show k = _ from q.1).trans e1, e2⟩
  | e0 :: es, (k, v) :: kvs, _, .cons q r, .cons hk hv p, i + 1, e, h => by
    obtain ⟨kv, h1, h2⟩ := ent_at r p i e (by simpa using h)
    exact ⟨kv, by simpa using h1, h2⟩
theorem same_unlock {H H' : Hp} {a : Addr} {u : HO} {od : Obj} (e : H a = some u) (s : Same (upd H a (.frz od u)) H') : Same H (upd H' a u) := fun d o h => by
  by_cases c : d = a
  · rw [c, e] at h
    rw [c, upd_same]
    exact h
  · rw [upd_ne c]
    exact s _ _ (by rw [upd_ne c]; exact h)
/-- a value's text within the text of the dict at a -/
def ShowV (a : Addr) (C1 C2 : Addr) (sp1 sp2 : Sp) (H : Hp) (v : V) (t : Str) : Prop := (∃ i : Int, v = .int i ∧ i.natAbs.log2 < 1920 ∧ t = toString i) ∨
  (∃ x dx fs, v = .ref x ∧ H x = some (.ins C1 dx fs) ∧ ∀ H', But a H H' → sp1 [.ref x] H' (fun z H2 => z = .str t ∧ Same H' H2) E0) ∨
  ∃ x dx fs, v = .ref x ∧ H x = some (.ins C2 dx fs) ∧ ∀ H', But a H H' → sp2 [.ref x] H' (fun z H2 => z = .str t ∧ Same H' H2) E0
def entS (k t : Str) : Str := reprText k ++ ": " ++ t
def rRepO (C1 C2 : Addr) (sp1 sp2 : Sp) : List V → Hp → VK → Prop := fun xs H Q => ∃ (a : Addr) (kvs : List (Key × V)) (ks ts : List Str), xs = [.ref a] ∧ H a = some (.dK kvs) ∧ kvs.map (·.1) = ks.map Sum.inr ∧ ts.length = ks.length ∧
  (∀ (i : Nat) kv t, kvs[i]? = some kv → ts[i]? = some t → ShowV a C1 C2 sp1 sp2 H kv.2 t) ∧ (dictText (List.zipWith entS ks ts)).length ≤ sizeLine ∧ ∀ H', Same H H' → Q (.str (dictText (List.zipWith entS ks ts))) H'
section
variable {X : Cx} {k : Nat} {C1 C2 : Addr} {sp1 sp2 : Sp}
theorem call_reprDO (G1 : SpF X.prog X.w X.K X.mg X.base L2.CX0 k C1 "__repr__" sp1) (G2 : SpF X.prog X.w X.K X.mg X.base L2.CX0 k C2 "__repr__" sp2) (hr : Rm 15 X.A) (hk : k ≤ 12 := by decide) : CallR X (.builtin "repr") (rRepO C1 C2 sp1 sp2) := by
  obtain ⟨f1, fd1, ps1, hs1, hf1, hb1, F1⟩ := G1.ex
  obtain ⟨f2, fd2, ps2, hs2, hf2, hb2, F2⟩ := G2.ex
  intro pins s σ H xs us Q I r h
  obtain ⟨a, kvs, ks, ts, rfl, ha, hks, hlt, hv, hz, q⟩ := h
  obtain ⟨u, rfl, ru⟩ := r.one
  cases (show u = Value.ref a from ru)
  obtain ⟨_, hsys, vs, kv, o, es, ep, h1, h2, h3, _, h5, _⟩ := (show ObjOk X.prog X.w H s.heap a (.dK kvs) from I.hok a _ ha)
  obtain ⟨oa, I1⟩ := I.lock ha trivial
  have ga : s.heap.get? a = some oa := (show ObjOk X.prog X.w _ s.heap a (.frz oa (.dK kvs)) from I1.hok a _ upd_same).1
  have eo : oa = o := Option.some.inj (ga.symm.trans h1)
  have smd : SmD H (upd H a (.frz oa (.dK kvs))) := lock_smd ha
  have rA := (hr.mono (show k + 2 ≤ 15 by omega)).rep hk a
  have hu := hr.r.un
  have lkv : kvs.length = es.size := by
    have e1 : kvs.length = vs.length := kv.length
    have e2 : es.toList.length = vs.length := h5.length
    rw [e1, ← e2, Array.length_toList]
  have lks : kvs.length = ks.length := by
    have := congrArg List.length hks
    rwa [List.length_map, List.length_map] at this
  let St : Shared → Prop := fun u => ∃ H', Same (upd H a (.frz oa (.dK kvs))) H' ∧ Inv X pins σ H' u
  have own : ∀ {C f : Addr} {fd : FuncData} {ps : List Str} {sp : Sp} {x : Addr} {t : Str}, PySem.W.findIn X.K (.ref C) "__repr__" = some (some (.ref f)) → PySem.W.isFn X.K (.ref f) = true → Binds X.K fd ps [] → FnG X.prog X.w X.K X.mg X.base L2.CX0 k f fd ps sp →
      (∃ dx fs, H x = some (.ins C dx fs)) → (∀ H', But a H H' → sp [.ref x] H' (fun z H2 => z = .str t ∧ Same H' H2) E0) → SeqAt.ReSt X.prog X.w St (X.A.in1.under (.builtin "dict.__repr__" ⟨[.ref a], []⟩)) (.ref x) t := by
    intro C f fd ps sp x t hs hf hb F hx hsp b hb2 s1 ⟨H1, sm, J1⟩ E1 Q1 hq
    obtain ⟨dx, fs, hx⟩ := hx
    obtain ⟨od, J⟩ := inst_of J1 (sm _ _ (smd _ _ hx fun _ z => by cases z))
    refine PySem.W.under_K (by omega) (rA.r.units0) J1.kIn J hs hf ?_
    have smd3 : But a H H1 := fun d o e n => sm _ _ (by rw [upd_ne n]; exact e)
    have go := run_g (X := X.nox) (us := [.ref x]) (vs := [.ref x]) (dvs := []) F rA (env0_rep (J1.wish _).env0 a) hb .nil pass0 (J1.wish _) (.cons rfl .nil) (by rw [List.append_nil]; exact hsp H1 smd3)
    refine wpAny_mono go (fun w' s' z => ?_) fun _ _ z => z.elim
    obtain ⟨z', H', I', rz, rfl, sm'⟩ := z
    obtain ⟨tk, rfl⟩ := (show ∃ tk, w' = Value.str t tk from rz)
    exact ⟨t, tk, rfl, hq _ ⟨H', sm.trans sm', I'.wish _⟩⟩
  refine call_repr_slot (by omega) ⟨o, h1, h2.1⟩ PySem.F.slot_dict_repr ?_
  refine SeqAt.reprO (St := St) (ps := List.zipWith entS ks ts) (g := []) h1 h2.1 h3 hsys ⟨_, Same.rfl', I1⟩ (fun u ⟨H', sm, I'⟩ => ?_) (fun u tk ⟨H', sm, I'⟩ => ⟨H', sm, I'.tok _⟩) ?_ (fun i e he => ?_) (by show X.A.guards = _; exact hr.g (by decide)) (Clear.nil a) (fun u tk ⟨H', sm, I'⟩ => ?_) hz
  · rw [← eo]
    exact (show ObjOk X.prog X.w _ u.heap a (.frz oa (.dK kvs)) from I'.hok a _ (sm _ _ upd_same)).1
  · rw [List.length_zipWith]
    omega
  · obtain ⟨kv1, hkv, rv, hkey⟩ := ent_at kv h5 i e (by rw [Array.getElem?_toList]; exact he)
    have hi : i < kvs.length := (List.getElem?_eq_some_iff.mp hkv).1
    have hi2 : i < ts.length := by omega
    have hi3 : i < ks.length := by omega
    have ek : kv1.1 = Sum.inr ks[i] := by
      have := congrArg (fun l => l[i]?) hks
      simp only [List.getElem?_map, hkv, List.getElem?_eq_getElem hi3, Option.map_some] at this
      exact Option.some.inj this
    obtain ⟨tk, ekk⟩ : ∃ tk, e.key = .str ks[i] tk := by
      rcases hkey with ⟨n, t, e1, e2⟩ | ⟨x, t, e1, e2⟩
      · rw [ek] at e1
        cases e1
      · rw [ek] at e1
        cases e1
        exact ⟨t, e2⟩
    have sv := hv i kv1 ts[i] hkv (List.getElem?_eq_getElem hi2)
    have hmem : entS ks[i] ts[i] ∈ List.zipWith entS ks ts := List.mem_iff_getElem.mpr ⟨i, by rw [List.length_zipWith]; omega, by rw [List.getElem_zipWith]⟩
    have le := dictText_mem_le hmem
    have el : (entS ks[i] ts[i]).length = (reprText ks[i]).length + 2 + ts[i].length := by
      unfold entS
      rw [strLen_append, strLen_append]
      rfl
    refine ⟨reprText ks[i], ts[i], by rw [List.getElem?_zipWith, List.getElem?_eq_getElem hi3, List.getElem?_eq_getElem hi2]; rfl, ?_, ?_⟩
    · rw [ekk]
      intro b hb s1 hs1 E1 Q1 hq
      exact ReprIs.str _ _ (by omega) b hb _ _ _ _ fun tk => hq _ (let ⟨H', sm, I'⟩ := hs1; ⟨H', sm, I'.tok _⟩)
    · rcases sv with ⟨n, e1, hn, et⟩ | ⟨x, dx, fs, e1, hx, hsp⟩ | ⟨x, dx, fs, e1, hx, hsp⟩
      · rw [e1] at rv
        obtain ⟨tk2, e2⟩ := (show ∃ tk, e.val = Value.int n tk from rv)
        rw [e2, et]
        intro b hb s1 hs1 E1 Q1 hq
        exact ReprIs.int _ hn b hb _ _ _ _ fun tk => hq _ (let ⟨H', sm, I'⟩ := hs1; ⟨H', sm, I'.tok _⟩)
      · rw [e1] at rv
        rw [show e.val = Value.ref x from rv]
        exact own hs1 hf1 hb1 F1 ⟨dx, fs, hx⟩ hsp
      · rw [e1] at rv
        rw [show e.val = Value.ref x from rv]
        exact own hs2 hf2 hb2 F2 ⟨dx, fs, hx⟩ hsp
  · have I4 := I'.unlock (d := a) (sm _ _ upd_same) (I.nofrz ha trivial)
    refine ⟨_, _, rfl, .str _, _, I4, ⟨_, rfl⟩, q _ (same_unlock ha sm)⟩
end
end LL

set_option Elab.async false
set_option linter.all false
set_option maxRecDepth 100000
set_option maxHeartbeats 2000000
/-! LLReprX: repr of a list or a tuple, also an empty one, whose entries are None, own objects, ints, lists and tuples of such, and dicts of own objects. -/
namespace LL
open PySem PySem.Spec PyProof.Rows L2
open Builtin
open Builtin.List
theorem w_dictU (args : Args) : (Code.builtin "dict.__repr__.under" args).weight ≤ 1 := by
  first | decide | (simp [Code.weight]; done) | simp [Code.weight, Code.isCreation, Code.isGuard, Code.isCaller, Code.frames, Code.isFrame, guardIds]
theorem same_upd2 {H H1 : Hp} {d : Addr} {o : HO} (s : Same H H1) : Same (upd H d o) (upd H1 d o) := fun b x e => by
  by_cases c : b = d
  · subst c
    rw [upd_same] at e
    rw [upd_same]
    exact e
  · rw [upd_ne c] at e
    rw [upd_ne c]
    exact s _ _ e
section
variable {X : Cx} {σ : List (Option V)} {k : Nat} {bs : List Addr} {H : Hp}
theorem reV_none : ReV X σ 0 [] H .non "None" := by
  intro A g pins H1 s u ra cl I sm ru b hb E Q q
  cases (show u = Value.none from ru)
  exact ReprIs.none b hb _ _ _ _ fun tk => q _ _ Same.rfl' (I.tok _)
theorem dict_atN {A : Around} {g : List Code} {d : Addr} {kvs : List (Key × V)} {ks ts : List Str} {base : Nat} {pins : List (Addr × Obj)} {H1 : Hp} {s : Shared} {R : Result → Shared → Prop} {id : String} {rest : List Value} (ra : RA X (k + 1) g A)
    (hcg : (Code.builtin id ⟨.ref d :: rest, []⟩).isGuard = true) (hw : (Code.builtin id ⟨.ref d :: rest, []⟩).weight ≤ 1) (hcu : (A.under (.builtin id ⟨.ref d :: rest, []⟩)).units = A.units + 1) (hh : (A.under (.builtin id ⟨.ref d :: rest, []⟩)).handled = A.handled)
    (hcl : Clear g d) (hd : H d = some (.dK kvs)) (hks : kvs.map (·.1) = ks.map Sum.inr) (hlt : ts.length = ks.length)
    (hT : ∀ (o : Obj) (i : Nat) kv t, kvs[i]? = some kv → ts[i]? = some t → ReV X σ k [] (upd H d (.frz o (.dK kvs))) kv.2 t) (I : Inv X pins σ H1 s) (sm : Same H H1)
    (hR : ∀ H2 s' u, Same H1 H2 → Inv X pins σ H2 s' → R (.ok (.ret (.str (dictText (List.zipWith entS ks ts)) u))) s') (hsz : base + (dictText (List.zipWith entS ks ts)).length ≤ sizeLine) :
    wpOwn (model X.prog X.w) A (.builtin id ⟨.ref d :: rest, []⟩) (Builtin.dictReprAt base ⟨[.ref d], []⟩) (fun fin s' => match fin with | .done f => R (.ok f) s' | .again c' => c'.quiet = true ∧ codeAny (model X.prog X.w) A c' R s') (fun e s' => R (.error e) s') s := by
  have ha := sm _ _ hd
  obtain ⟨_, hsys, vs, kv, o, es, ep, h1, h2, h3, _, h5, _⟩ := (show ObjOk X.prog X.w H1 s.heap d (.dK kvs) from I.hok d _ ha)
  obtain ⟨oa, I1⟩ := I.lock ha trivial
  have ga : s.heap.get? d = some oa := (show ObjOk X.prog X.w _ s.heap d (.frz oa (.dK kvs)) from I1.hok d _ upd_same).1
  have eo : oa = o := Option.some.inj (ga.symm.trans h1)
  have lkv : kvs.length = es.size := by
    have e1 : kvs.length = vs.length := kv.length
    have e2 : es.toList.length = vs.length := h5.length
    rw [e1, ← e2, Array.length_toList]
  have lks : kvs.length = ks.length := by
    have := congrArg List.length hks
    rwa [List.length_map, List.length_map] at this
  generalize hps : List.zipWith entS ks ts = ps at hR hsz
  have lps : ps.length = es.size := by rw [← hps, List.length_zipWith]; omega
  have hp3 := piled_le_dictText ps
  have hTy : s.TypeIs (.ref d) "dict" := ⟨o, h1, h2.1⟩
  let St : Shared → Prop := fun u => ∃ H', Same (upd H1 d (.frz oa (.dK kvs))) H' ∧ Inv X pins σ H' u
  have same : ∀ u, St u → u.heap.get? d = some o := fun u ⟨H', sm', I'⟩ => by
    rw [← eo]
    exact (show ObjOk X.prog X.w _ u.heap d (.frz oa (.dK kvs)) from I'.hok d _ (sm' _ _ upd_same)).1
  have rU := ra.under hcg hw hcu hh
  unfold Builtin.dictReprAt
  refine wpOwn_bind (wpOwn_of_wpAny ?_)
  unfold Builtin.Dict.dictSlotNone
  refine wpAny_bind (wpAny_notOrdered_dict hTy ?_)
  show wpAny _ _ (pure (Value.ref d)) _ _ s
  refine wpAny_pure ?_
  rw [dictReprRunning_eq]
  refine wpOwn_bind (wpOwn_stackTailAny ra.gd (dictGuardF_off _) (dictGuardF_pos _) ?_)
  have hn : (g.any fun c => dictGuardF (.ref d) (c, default)) = false := List.any_eq_false.mpr fun c hcm => by
    rw [dictGuardF_of_clear hcl c hcm]
    exact Bool.false_ne_true
  rw [hn]
  refine wpOwn_of_wpAny ?_
  show wpAny _ _ (Builtin.Dict.addrOf (.ref d) >>= _) _ _ s
  refine wpAny_bind (wpAny_pure ?_)
  show wpAny _ _ (Builtin.Dict.showsAll d >>= _) _ _ s
  unfold Builtin.Dict.showsAll
  rw [if_neg (by rw [hsys]; exact Bool.false_ne_true)]
  refine wpAny_bind (wpAny_pure ?_)
  refine wpAny_bind (wpAny_dictEpoch h1 h3 ?_)
  refine wpAny_bind (wpAny_dictEntries h1 h3 ?_)
  refine wpAny_bind ?_
  rw [Std.Legacy.Range.forIn_eq_forIn_range']
  simp only [Std.Legacy.Range.size, Nat.sub_zero, Nat.add_sub_cancel, Nat.div_one]
  refine wpAny_forIn_list _
    (fun left r s' => ∃ i, left = List.range' i (es.size - i) ∧ i ≤ es.size ∧ r = (⟨(ps.take i).toArray, base + piled (ps.take i)⟩ : (Array Str × Nat)) ∧ St s')
    _ ?_ ?_ _ _ ⟨0, by simp, Nat.zero_le _, by simp [piled], _, Same.rfl', I1⟩
  · rintro x left _ s' ⟨i, hr, hi, rfl, hs'⟩
    have hlt2 : i < es.size := by
      rcases Nat.lt_or_ge i es.size with h | h
      · exact h
      · rw [Nat.sub_eq_zero_of_le h] at hr; simp at hr
    obtain ⟨rfl, hrest⟩ : x = i ∧ left = List.range' (i + 1) (es.size - (i + 1)) := by
      have e : es.size - i = (es.size - (i + 1)) + 1 := by omega
      rw [e, List.range'_succ] at hr
      injection hr with a1 a2
      exact ⟨a1, a2⟩
    obtain ⟨kv1, hkv, rv, hkey⟩ := ent_at kv h5 x es[x] (by simp [hlt2])
    have i1 : x < kvs.length := by omega
    have i2 : x < ts.length := by omega
    have i3 : x < ks.length := by omega
    have ek : kv1.1 = Sum.inr ks[x] := by
      have := congrArg (fun l => l[x]?) hks
      simp only [List.getElem?_map, hkv, List.getElem?_eq_getElem i3, Option.map_some] at this
      exact Option.some.inj this
    obtain ⟨tk, ekk⟩ : ∃ tk, es[x].key = .str ks[x] tk := by
      rcases hkey with ⟨n, t, e1, e2⟩ | ⟨y, t, e1, e2⟩
      · rw [ek] at e1; cases e1
      · rw [ek] at e1; cases e1; exact ⟨t, e2⟩
    have tv := hT oa x kv1 ts[x] hkv (List.getElem?_eq_getElem i2)
    have hp : ps[x]? = some (reprText ks[x] ++ ": " ++ ts[x]) := by
      rw [← hps, List.getElem?_zipWith, List.getElem?_eq_getElem i3, List.getElem?_eq_getElem i2]
      rfl
    have hpl : (reprText ks[x] ++ ": " ++ ts[x]).length = (reprText ks[x]).length + 2 + ts[x].length := by
      rw [strLen_append, strLen_append]; rfl
    have hp1 := piled_take_succ hp
    have hp2 := piled_take_le ps (x + 1)
    rw [hpl] at hp1
    refine wpAny_bind (wpAny_dictEntries (same _ hs') h3 ?_)
    rw [Array.getElem?_eq_getElem hlt2]
    obtain ⟨H', sm', I'⟩ := hs'
    have smT : Same (upd H d (.frz oa (.dK kvs))) H' := (same_upd2 sm).trans sm'
    have rk : ∀ (b : Nat), b + (reprText ks[x]).length ≤ sizeLine → ∀ (s1 : Shared) (E1 : Value → Shared → Prop) (Q1 : Str → Shared → Prop), (∀ tk1, Q1 (reprText ks[x]) { s1 with toks := tk1 }) → wpAny (model X.prog X.w) (A.under (.builtin id ⟨.ref d :: rest, []⟩)) (pyReprUnder b es[x].key) Q1 E1 s1 := by
      rw [ekk]
      intro b hb s1 E1 Q1 hq
      exact ReprIs.str _ _ (by omega) b hb _ _ _ _ fun tk => hq tk
    refine wpAny_bind (wpAny_holding (wpAny_bind (rk (base + piled (ps.take x) + 1) (by omega) _ _ _ fun tk1 =>
      wpAny_bind (tv _ _ pins _ _ _ rU (fun b m => by cases m) (I'.tok _) smT rv (base + piled (ps.take x) + ((reprText ks[x]).length + 3)) (by omega) _ _ fun H2 s2 sm2 I2 => wpAny_pure ?_))))
    have hs2 : St s2 := ⟨H2, sm'.trans sm2, I2⟩
    refine wpAny_bind (wpAny_dictEpoch (same _ hs2) h3 ?_)
    rw [if_neg (by simp)]
    have e1 : (ps.take x).toArray.push (reprText ks[x] ++ ": " ++ ts[x]) = (ps.take (x + 1)).toArray := by
      rw [List.take_add_one, hp]
      simp
    have e2 : base + piled (ps.take x) + ((reprText ks[x]).length + ts[x].length + 4) = base + piled (ps.take (x + 1)) := by omega
    refine wpAny_pure ⟨x + 1, hrest, hlt2, ?_, hs2⟩
    rw [e1, e2]
  · rintro _ s' ⟨i, hr, hi, rfl, H', sm', I'⟩
    have hin : i = es.size := by
      rcases Nat.lt_or_ge i es.size with h | h
      · have e : es.size - i = (es.size - (i + 1)) + 1 := by omega
        rw [e, List.range'_succ] at hr; exact nomatch hr
      · exact Nat.le_antisymm hi h
    rw [hin, ← lps, List.take_length]
    have I4 := (I'.tok (s'.toks + 1)).unlock (d := d) (sm' _ _ upd_same) (I.nofrz ha trivial)
    refine wpAny_bind (wpAny_mkStr (wpAny_pure ?_) (by have : (dictText ps).length ≤ sizeLine := by omega
                                                       simpa [dictText] using this))
    have h1 := hR _ _ s'.toks (same_unlock ha sm') I4
    simpa [dictText] using h1
theorem reV_dict {d : Addr} {kvs : List (Key × V)} {ks ts : List Str} (hd : H d = some (.dK kvs)) (hks : kvs.map (·.1) = ks.map Sum.inr) (hlt : ts.length = ks.length)
    (hT : ∀ (o : Obj) (i : Nat) kv t, kvs[i]? = some kv → ts[i]? = some t → ReV X σ k [] (upd H d (.frz o (.dK kvs))) kv.2 t) : ReV X σ (k + 1) [d] H (.ref d) (dictText (List.zipWith entS ks ts)) := by
  intro A g pins H1 s u ra cl I sm ru b hb E Q q
  cases (show u = Value.ref d from ru)
  obtain ⟨_, hsys, vs, kv, o, es, ep, h1, h2, h3, _⟩ := (show ObjOk X.prog X.w H1 s.heap d (.dK kvs) from I.hok d _ (sm _ _ hd))
  have hu := ra.rm.2.r.un
  refine wpAny_pyReprUnder_ref (by omega) (wpAny_pyReprObjUnder_twin (twin := "dict.__repr__.under") ⟨o, h1, h2.1⟩ F.slot_dict_repr rfl (by omega) ?_)
  exact call_twin_own (F.quiet_dict_repr_under _) F.entry_dict_repr_under F.check_dict_repr_under ⟨o, h1, h2.1⟩ F.slot_dict_repr (F.args_dict_repr_1 _)
    (dict_atN (R := callEnd _ E) ra (isGuard_dict_repr_under _) (w_dictU _) (units_under_dict_repr_under _ _) rfl (cl d (List.mem_singleton.mpr rfl)) hd hks hlt hT I sm (fun H2 s' u sm2 I2 => ⟨⟨_, _, rfl⟩, _, _, rfl, q _ _ sm2 I2⟩) hb)
end
/-- what an entry shows -/
def EnX (C : Addr) (sp : Sp) (cs : List Addr) (H : Hp) (v : V) (t : Str) : Prop := (v = .non ∧ t = "None") ∨ (∃ n, n ≤ 1 ∧ Tre C sp n cs H v t) ∨
  ∃ (d : Addr) (kvs : List (Key × V)) (ks ts : List Str), v = .ref d ∧ d ∈ cs ∧ H d = some (.dK kvs) ∧ kvs.map (·.1) = ks.map Sum.inr ∧ ts.length = ks.length ∧ t = dictText (List.zipWith entS ks ts) ∧ ∀ (i : Nat) kv t, kvs[i]? = some kv → ts[i]? = some t → ∀ H', (∀ x dx fs, H x = some (.ins C dx fs) → H' x = some (.ins C dx fs)) → Tre C sp 0 [] H' kv.2 t
theorem EnX.re {X : Cx} {σ : List (Option V)} {k : Nat} {C : Addr} {sp : Sp} (G : SpF X.prog X.w X.K X.mg X.base L2.CX0 k C "__repr__" sp) {cs : List Addr} {H : Hp} {v : V} {t : Str} (h : EnX C sp cs H v t) : ReV X σ (k + 1) cs H v t := by
  rcases h with ⟨rfl, rfl⟩ | ⟨n, hn, h⟩ | ⟨d, kvs, ks, ts, rfl, md, hd, hks, hlt, rfl, hT⟩
  · exact (reV_none.up (Nat.zero_le _)).sub fun b m => by cases m
  · exact (h.re G).up (by omega)
  · refine (reV_dict (k := k) hd hks hlt fun o i kv t e1 e2 => ?_).sub fun b m => by rw [List.mem_singleton.mp m]; exact md
    refine Tre.re G (n := 0) (hT i kv t e1 e2 _ fun x dx fs e => ?_)
    rw [upd_ne fun c => by rw [c, hd] at e; cases e]
    exact e
/-- the text of a list or of a tuple -/
def LtX (H : Hp) (a : Addr) (xs : List V) (ts : List Str) (t : Str) : Prop := (H a = some (.lst xs) ∧ t = listText ts) ∨ (H a = some (.tup xs) ∧ t = tupleText ts)
def rReprX (C : Addr) (sp : Sp) : List V → Hp → VK → Prop := fun vs H Q => ∃ (a : Addr) (cs : List Addr) (xs : List V) (ts : List Str) (t : Str), vs = [.ref a] ∧ LtX H a xs ts t ∧ a ∉ cs ∧ ts.length = xs.length ∧ (∀ (i : Nat) (y : V), xs[i]? = some y → ∃ t', ts[i]? = some t' ∧ EnX C sp cs H y t') ∧ t.length ≤ sizeLine ∧ ∀ H', Same H H' → Q (.str t) H'
theorem call_reprX {X : Cx} {k : Nat} {C : Addr} {sp : Sp} (G : SpF X.prog X.w X.K X.mg X.base L2.CX0 k C "__repr__" sp) (hr : Rm 15 X.A) (hk : k ≤ 10 := by decide) : CallR X (.builtin "repr") (rReprX C sp) := by
  intro pins s σ H xs us Q I r h
  obtain ⟨a, cs, ys, ts, t, rfl, ha, na, hl, hT, hz, q⟩ := h
  obtain ⟨u, rfl, ru⟩ := r.one
  cases (show u = Value.ref a from ru)
  have hu := hr.r.un
  have ra : RA X (k + 1 + 1) [] X.A.in1 := ⟨⟨by omega, (hr.mono (by omega)).in1⟩, fun s H e => ⟨e.frames, e.mod, e.bs, e.bsz, e.funs, e.frf, e.hok, e.bare⟩, hr.g (by decide)⟩
  have hT' : ∀ (i : Nat) (y : V), ys[i]? = some y → ∃ t, ts[i]? = some t ∧ ReV X σ (k + 1) cs H y t := fun i y e => by
    obtain ⟨t', e1, e2⟩ := hT i y e
    exact ⟨t', e1, e2.re G⟩
  rcases ha with ⟨ha, rfl⟩ | ⟨ha, rfl⟩
  · obtain ⟨_, its, m, vi, li, ga⟩ := I.lstM ha
    refine call_repr_slot (by omega) ⟨_, ga, rfl⟩ F.slot_list_repr.toG ?_
    cases ys with
    | nil =>
      have e0 : its = [] := List.length_eq_zero_iff.mp li.symm
      have et : ts = [] := List.length_eq_zero_iff.mp hl
      subst e0 et
      exact call_list_repr_empty ⟨_, ga, rfl⟩ ga rfl ⟨_, _, rfl, .str _, _, I.tok _, ⟨_, rfl⟩, by rw [listText_nil] at q; exact q _ Same.rfl'⟩
    | cons y ys =>
    refine wpAny_call (codeAny_call_builtin F.slot_list_repr.plain F.entry_list_repr (F.slot_list_repr.check _ _ _ _ _ _ _ _ ⟨_, ga, rfl⟩ (F.args_list_repr_1 _) ?_))
    exact list_reprAtN (base := 0) (bs := cs) (R := callEnd _ _) ra (fun b _ => Clear.nil b) na ha hl hT' I Same.rfl' (fun H2 s' u sm2 I2 => ⟨_, _, rfl, .str _, _, I2, ⟨_, rfl⟩, q _ sm2⟩) (by omega)
  · obtain ⟨its, vi, ⟨o, ga, hc, m, hd2⟩, _⟩ := I.tuple (SqT.of ha)
    refine call_repr_slot (by omega) ⟨o, ga, hc⟩ F.slot_tuple_repr ?_
    refine wpAny_call (codeAny_call_builtin_own (Code.quiet_builtin _ (by decide +kernel)) F.entry_tuple_repr (F.slot_tuple_repr.check _ _ _ _ _ _ _ _ ⟨o, ga, hc⟩ (F.args_tuple_repr_1 _) ?_))
    exact tup_reprAtN (base := 0) (bs := cs) (R := callEnd _ _) (rest := []) ra (isGuard_tuple_repr _) (w_tupT _) (units_under_tuple_repr _ _) rfl (fun b _ => Clear.nil b) na ha hl hT' I Same.rfl' (fun H2 s' u sm2 I2 => ⟨_, _, rfl, .str _, _, I2, ⟨_, rfl⟩, q _ sm2⟩) (by omega)
end LL

set_option Elab.async false
set_option linter.all false
set_option maxRecDepth 100000
set_option maxHeartbeats 2000000
/-! LLReprG: repr of lists and tuples whose entries are told one by one: None, bools, ints, texts, own objects, lists, tuples, dicts of such. -/
namespace LL
open PySem PySem.Spec PyProof.Rows L2
open Builtin
open Builtin.List
section
variable {X : Cx} {σ : List (Option V)} {k : Nat} {bs : List Addr} {H : Hp}
theorem reV_bl (b : Bool) : ReV X σ 0 [] H (.bl b) (if b then ("True" : Str) else ("False" : Str)) := by
  intro A g pins H1 s u ra cl I sm ru b' hb E Q q
  cases (show u = Value.bool b from ru)
  exact ReprIs.bool b b' hb _ _ _ _ fun tk => q _ _ Same.rfl' (I.tok _)
theorem reV_str (x : Str) : ReV X σ 0 [] H (.str x) (reprText x) := by
  intro A g pins H1 s u ra cl I sm ru b hb E Q q
  obtain ⟨tk, rfl⟩ := (show ∃ tk, u = Value.str x tk from ru)
  have hu := ra.rm.2.r.un
  exact ReprIs.str _ _ (by omega) b hb _ _ _ _ fun tk => q _ _ Same.rfl' (I.tok _)
end
section
variable {P : Program} {w : World} {K : PySem.W.Frag} {mg : Str → Option Value} {base : Heap} {H : Hp}
/-- the context that is meant -/
structure CxIs (P : Program) (w : World) (K : PySem.W.Frag) (mg : Str → Option Value) (base : Heap) (X : Cx) : Prop where
  p : X.prog = P
  w : X.w = w
  k : X.K = K
  m : X.mg = mg
  b : X.base = base
/-- what v shows, at H -/
def TxV (P : Program) (w : World) (K : PySem.W.Frag) (mg : Str → Option Value) (base : Heap) (n : Nat) (H : Hp) (v : V) (t : Str) : Prop := ∃ bs : List Addr, (∀ b ∈ bs, H b ≠ none) ∧ ∀ (X : Cx) (σ : List (Option V)), CxIs P w K mg base X → ReV X σ n bs H v t
theorem TxV.same {H' : Hp} {n : Nat} {v : V} {t : Str} (h : TxV P w K mg base n H v t) (s : Same H H') : TxV P w K mg base n H' v t := by
  obtain ⟨bs, hb, r⟩ := h
  refine ⟨bs, fun b m e => ?_, fun X σ c => (r X σ c).same s⟩
  cases e9 : H b with
  | none => exact hb b m e9
  | some o => rw [s _ _ e9] at e; cases e
theorem TxV.up {n m : Nat} {v : V} {t : Str} (h : TxV P w K mg base n H v t) (l : n ≤ m) : TxV P w K mg base m H v t := let ⟨bs, hb, r⟩ := h; ⟨bs, hb, fun X σ c => (r X σ c).up l⟩
theorem tx_non : TxV P w K mg base 0 H .non "None" := ⟨[], (fun b m => by cases m), fun X σ c => reV_none⟩
theorem tx_bl (b : Bool) : TxV P w K mg base 0 H (.bl b) (if b then ("True" : Str) else ("False" : Str)) := ⟨[], (fun b m => by cases m), fun X σ c => reV_bl b⟩
theorem tx_str (x : Str) : TxV P w K mg base 0 H (.str x) (reprText x) := ⟨[], (fun b m => by cases m), fun X σ c => reV_str x⟩
theorem tx_int {i : Int} (h : i.natAbs.log2 < 1920) : TxV P w K mg base 0 H (.int i) (toString i) := ⟨[], (fun b m => by cases m), fun X σ c => reV_int h⟩
theorem tx_own {k : Nat} {C : Addr} {sp : Sp} {x dx : Addr} {fs : List (Str × V)} {t : Str} (G : SpF P w K mg base L2.CX0 k C "__repr__" sp) (hx : H x = some (.ins C dx fs)) (hsp : ∀ H', Same H H' → sp [.ref x] H' (fun z H2 => z = .str t ∧ Same H' H2) E0) : TxV P w K mg base k H (.ref x) t :=
  ⟨[], (fun b m => by cases m), fun X σ c => by
    obtain ⟨rfl, rfl, rfl, rfl, rfl⟩ := c
    exact reV_own G hx hsp⟩
/-- all the entries -/
theorem tx_all {n : Nat} : ∀ {xs : List V} {ts : List Str}, ts.length = xs.length → (∀ (i : Nat) (y : V) (t : Str), xs[i]? = some y → ts[i]? = some t → TxV P w K mg base n H y t) →
    ∃ cs : List Addr, (∀ b ∈ cs, H b ≠ none) ∧ ∀ (X : Cx) (σ : List (Option V)), CxIs P w K mg base X → ∀ (i : Nat) (y : V), xs[i]? = some y → ∃ t', ts[i]? = some t' ∧ ReV X σ n cs H y t'
  | [], ts, _, _ => ⟨[], (fun b m => by cases m), fun X σ c i y e => by simp at e⟩
  | x :: xs, [], l, _ => by cases l
  | x :: xs, t :: ts, l, h => by
    obtain ⟨cs, hc, r⟩ := tx_all (xs := xs) (ts := ts) (Nat.succ.inj l) fun i y t e1 e2 => h (i + 1) y t (by simpa using e1) (by simpa using e2)
    obtain ⟨bs, hb, r0⟩ := h 0 x t rfl rfl
    refine ⟨bs ++ cs, fun b m => (List.mem_append.mp m).elim (hb b) (hc b), fun X σ c i y e => ?_⟩
    cases i with
    | zero => cases e; exact ⟨t, rfl, (r0 X σ c).sub fun b m => List.mem_append_left _ m⟩
    | succ i =>
      obtain ⟨t', e1, e2⟩ := r X σ c i y (by simpa using e)
      exact ⟨t', by simpa using e1, e2.sub fun b m => List.mem_append_right _ m⟩
theorem TxV.lst {n : Nat} {H' : Hp} {a : Addr} {xs : List V} {ts : List Str} (s : Same H H') (na : H a = none) (ha : H' a = some (.lst xs)) (l : ts.length = xs.length) (h : ∀ (i : Nat) (y : V) (t : Str), xs[i]? = some y → ts[i]? = some t → TxV P w K mg base n H y t) : TxV P w K mg base (n + 1) H' (.ref a) (listText ts) := by
  obtain ⟨cs, hc, r⟩ := tx_all l h
  refine ⟨a :: cs, fun b m e => ?_, fun X σ c => reV_list ha (fun m => hc a m na) l fun i y e => let ⟨t', e1, e2⟩ := r X σ c i y e; ⟨t', e1, e2.same s⟩⟩
  rcases List.mem_cons.mp m with rfl | m
  · rw [ha] at e; cases e
  · cases e9 : H b with
    | none => exact hc b m e9
    | some o => rw [s _ _ e9] at e; cases e
theorem TxV.tup {n : Nat} {H' : Hp} {a : Addr} {xs : List V} {ts : List Str} (s : Same H H') (na : H a = none) (ha : H' a = some (.tup xs)) (l : ts.length = xs.length) (h : ∀ (i : Nat) (y : V) (t : Str), xs[i]? = some y → ts[i]? = some t → TxV P w K mg base n H y t) : TxV P w K mg base (n + 1) H' (.ref a) (tupleText ts) := by
  obtain ⟨cs, hc, r⟩ := tx_all l h
  refine ⟨a :: cs, fun b m e => ?_, fun X σ c => reV_tuple ha (fun m => hc a m na) l fun i y e => let ⟨t', e1, e2⟩ := r X σ c i y e; ⟨t', e1, e2.same s⟩⟩
  rcases List.mem_cons.mp m with rfl | m
  · rw [ha] at e; cases e
  · cases e9 : H b with
    | none => exact hc b m e9
    | some o => rw [s _ _ e9] at e; cases e
/-- a dict of ints -/
theorem tx_dictI {a : Addr} {kvs : List (Key × V)} {ks : List Str} {ns : List Int} (ha : H a = some (.dK kvs)) (e1 : kvs.map (·.1) = ks.map Sum.inr) (e2 : kvs.map (·.2) = ns.map V.int) (h : ∀ n ∈ ns, n.natAbs.log2 < 1920) : TxV P w K mg base 1 H (.ref a) (dictText (List.zipWith entS ks (ns.map fun n => toString n))) := by
  have l1 := congrArg List.length e1
  have l2 := congrArg List.length e2
  simp only [List.length_map] at l1 l2
  refine ⟨[a], fun b m e => ?_, fun X σ c => reV_dict ha e1 (by rw [List.length_map]; omega) fun o i kv t h1 h2 => ?_⟩
  · rw [List.mem_singleton.mp m, ha] at e
    cases e
  · rw [List.getElem?_map] at h2
    obtain ⟨n, hn, rfl⟩ := Option.map_eq_some_iff.mp h2
    have e9 := congrArg (fun l => l[i]?) e2
    simp only [List.getElem?_map, h1, hn, Option.map_some] at e9
    rw [Option.some.inj e9]
    exact reV_int (h n (List.mem_of_getElem? hn))
def rReprG (P : Program) (w : World) (K : PySem.W.Frag) (mg : Str → Option Value) (base : Heap) : List V → Hp → VK → Prop := fun vs H Q => ∃ (a : Addr) (H0 : Hp) (xs : List V) (ts : List Str) (t : Str) (n : Nat), vs = [.ref a] ∧ n ≤ 11 ∧ Same H0 H ∧ H0 a = none ∧ LtX H a xs ts t ∧ ts.length = xs.length ∧
  (∀ (i : Nat) (y : V) (t : Str), xs[i]? = some y → ts[i]? = some t → TxV P w K mg base n H0 y t) ∧ t.length ≤ sizeLine ∧ ∀ H', Same H H' → Q (.str t) H'
theorem call_reprG {X : Cx} (c : CxIs P w K mg base X) (hr : Rm 15 X.A) : CallR X (.builtin "repr") (rReprG P w K mg base) := by
  intro pins s σ H xs us Q I r h
  obtain ⟨a, H0, ys, ts, t, n, rfl, hn, s0, na0, ha, hl, hT0, hz, q⟩ := h
  obtain ⟨u, rfl, ru⟩ := r.one
  cases (show u = Value.ref a from ru)
  obtain ⟨cs, hc, rr⟩ := tx_all hl hT0
  have na : a ∉ cs := fun m => hc a m na0
  have hu := hr.r.un
  have ra : RA X (n + 1) [] X.A.in1 := ⟨⟨by omega, (hr.mono (by omega)).in1⟩, fun s H e => ⟨e.frames, e.mod, e.bs, e.bsz, e.funs, e.frf, e.hok, e.bare⟩, hr.g (by decide)⟩
  have hT' : ∀ (i : Nat) (y : V), ys[i]? = some y → ∃ t, ts[i]? = some t ∧ ReV X σ n cs H y t := fun i y e => by
    obtain ⟨t', e1, e2⟩ := rr X σ c i y e
    exact ⟨t', e1, e2.same s0⟩
  rcases ha with ⟨ha, rfl⟩ | ⟨ha, rfl⟩
  · obtain ⟨_, its, m, vi, li, ga⟩ := I.lstM ha
    refine call_repr_slot (by omega) ⟨_, ga, rfl⟩ F.slot_list_repr.toG ?_
    cases ys with
    | nil =>
      have e0 : its = [] := List.length_eq_zero_iff.mp li.symm
      have et : ts = [] := List.length_eq_zero_iff.mp hl
      subst e0 et
      exact call_list_repr_empty ⟨_, ga, rfl⟩ ga rfl ⟨_, _, rfl, .str _, _, I.tok _, ⟨_, rfl⟩, by rw [listText_nil] at q; exact q _ Same.rfl'⟩
    | cons y ys =>
    refine wpAny_call (codeAny_call_builtin F.slot_list_repr.plain F.entry_list_repr (F.slot_list_repr.check _ _ _ _ _ _ _ _ ⟨_, ga, rfl⟩ (F.args_list_repr_1 _) ?_))
    exact list_reprAtN (base := 0) (bs := cs) (R := callEnd _ _) ra (fun b _ => Clear.nil b) na ha hl hT' I Same.rfl' (fun H2 s' u sm2 I2 => ⟨_, _, rfl, .str _, _, I2, ⟨_, rfl⟩, q _ sm2⟩) (by omega)
  · obtain ⟨its, vi, ⟨o, ga, hc2, m, hd2⟩, _⟩ := I.tuple (SqT.of ha)
    refine call_repr_slot (by omega) ⟨o, ga, hc2⟩ F.slot_tuple_repr ?_
    refine wpAny_call (codeAny_call_builtin_own (Code.quiet_builtin _ (by decide +kernel)) F.entry_tuple_repr (F.slot_tuple_repr.check _ _ _ _ _ _ _ _ ⟨o, ga, hc2⟩ (F.args_tuple_repr_1 _) ?_))
    exact tup_reprAtN (base := 0) (bs := cs) (R := callEnd _ _) (rest := []) ra (isGuard_tuple_repr _) (w_tupT _) (units_under_tuple_repr _ _) rfl (fun b _ => Clear.nil b) na ha hl hT' I Same.rfl' (fun H2 s' u sm2 I2 => ⟨_, _, rfl, .str _, _, I2, ⟨_, rfl⟩, q _ sm2⟩) (by omega)
end
end LL

set_option Elab.async false
set_option linter.all false
set_option maxRecDepth 100000
set_option maxHeartbeats 2000000
/-! LLReprV2: repr of data, of {} and of {"a": 1} (also where an exception is handled). -/
namespace LL
open PySem PySem.Spec PyProof.Rows L2
inductive Dq1 (K : PySem.W.Frag) (H : Hp) : V → PyData → Prop
  | q {v : V} {d : PyData} : Dq K H v d → Dq1 K H v d
  | one {a : Addr} : H a = some (.dK [(Sum.inr "a", .int 1)]) → Dq1 K H (.ref a) (.dict [(.str "a", .int 1)])
theorem one_reads {X : Cx} {pins : List (Addr × Obj)} {σ : L2.St} {H : Hp} {s : Shared} {a : Addr} (I : Inv X pins σ H s) (e : H a = some (.dK [(Sum.inr "a", .int 1)])) : Reads s.heap (.ref a) (.dict [(.str "a", .int 1)]) (a :: ([] ++ []) ++ ([] ++ [])) ∧ a ≠ sysModules := by
  obtain ⟨_, ns, vs, kv, o, es, ep, h1, h2, h3, _, h5, _⟩ := (show ObjOk X.prog X.w H s.heap a (.dK [(Sum.inr "a", .int 1)]) from I.hok a _ e)
  have l1 := kv.length
  have l2 : es.toList.length = vs.length := h5.length
  have l3 : es.size = 1 := by
    have : es.toList.length = 1 := by rw [l2, ← l1]; rfl
    rwa [Array.length_toList] at this
  obtain ⟨kv1, hkv, rv, hkey⟩ := ent_at kv h5 0 es[0] (by simp [l3])
  cases hkv
  have ek : ∃ t, es[0].key = .str "a" t := by
    rcases hkey with ⟨n, t, e1, e2⟩ | ⟨y, t, e1, e2⟩
    · cases e1
    · cases e1; exact ⟨t, e2⟩
  obtain ⟨tk, ek⟩ := ek
  obtain ⟨tv, ev⟩ := (show ∃ t, es[0].val = .int 1 t from rv)
  have et : es.toList = [es[0]] := by
    apply List.ext_getElem
    · rw [Array.length_toList]; exact l3
    · intro i h1 h2
      have : i = 0 := by rw [Array.length_toList, l3] at h1; omega
      subst this
      rfl
  refine ⟨.dict h1 h2.1 h3 ?_ ?_, fun z => ?_⟩
  · rw [et]
    show ReadsAll _ [es[0].key] [_] _
    rw [ek]
    exact .cons (.str _ _) .nil
  · rw [et]
    show ReadsAll _ [es[0].val] [_] _
    rw [ev]
    exact .cons (.int _ _) .nil
  · rw [z] at ns
    simp at ns
def rRepV1 (K : PySem.W.Frag) : List V → Hp → VK → Prop := fun xs H Q => ∃ v d, xs = [v] ∧ Dq1 K H v d ∧ Q (.str d.shown) H
theorem call_reprV1 {X : Cx} {K : PySem.W.Frag} (hk : X.K = K) (g : X.A.guards = some []) (hu : X.A.units + 64 < cLine) : CallR X (.builtin "repr") (rRepV1 K) := by
  intro pins s σ H xs us Q I r h
  obtain ⟨v, d, rfl, hd, q⟩ := h
  cases hd with
  | q h => exact call_reprV hk g hu pins s σ H _ us Q I r ⟨v, d, rfl, h, q⟩
  | one e =>
    obtain ⟨u, rfl, ru⟩ := r.one
    cases (show u = Value.ref _ from ru)
    obtain ⟨rd, ns⟩ := one_reads I e
    refine repr_of_reads' rd (by decide +kernel) (fun _ z => ns (List.mem_singleton.mp z).symm) g ?_ (fun _ _ e => e) (fun h' u tk hk => ⟨.str _, H, I.kept hk, ⟨_, rfl⟩, q⟩) (by decide +kernel)
    have : (PyData.dict [(.str "a", .int 1)]).depth ≤ 3 := by decide +kernel
    omega
end LL

set_option Elab.async false
set_option linter.all false
set_option maxRecDepth 100000
set_option maxHeartbeats 4000000
/-! L12: the law's pots. -/
namespace K12
open PySem PySem.Spec PyProof.Rows L2 LL K11 W13
abbrev s_l_pot : Stmt := top 27
abbrev n_l_pot : List Str := ["_law_script", "_law_k", "_law_cell"]
theorem sc_l_pot : FnScope n_l_pot ["_law_script", "_law_k"] (defScope s_l_pot) := ⟨rfl, rfl, rfl, by decide +kernel, rfl, by decide +kernel, by decide +kernel⟩
abbrev s_l_digit : Stmt := top 28
abbrev n_l_digit : List Str := ["_law_pot_here", "_law_many", "_law_digit_here"]
theorem sc_l_digit : FnScope n_l_digit ["_law_pot_here", "_law_many"] (defScope s_l_digit) := ⟨rfl, rfl, rfl, by decide +kernel, rfl, by decide +kernel, by decide +kernel⟩
abbrev s_l_pick : Stmt := top 29
abbrev n_l_pick : List Str := ["_law_pot_here", "_law_some"]
theorem sc_l_pick : FnScope n_l_pick ["_law_pot_here", "_law_some"] (defScope s_l_pick) := ⟨rfl, rfl, rfl, by decide +kernel, rfl, by decide +kernel, by decide +kernel⟩
section
variable {P : Program} {w : World} {K : PySem.W.Frag} {mg : Str → Option Value} {base : Heap} {C CF : Addr} {f : Addr} {fd : FuncData}
/-- a pot: two numbers that draws are made of -/
def Pot (x y : Int) : Prop := 0 ≤ x ∧ 0 ≤ y ∧ y < 2147483648
def PotAt (H : Hp) (p : Addr) : Prop := ∃ x y, H p = some (.lst [.int x, .int y]) ∧ Pot x y
/-! ### _law_pot -/
def spPot (K : PySem.W.Frag) : Sp := fun vs H Q _ => ∃ (a : Addr) (ns : List Int) (k : Nat), vs = [.ref a, .int k] ∧ SqL K H a (ns.map V.int) ∧ ns.length ≤ 63 ∧ k < 100 ∧ ∀ H' p, Same H H' → H p = none → PotAt H' p → Q (.ref p) H'
theorem at_map {ns : List Int} {k : Nat} (h : k < ns.length) : atI (ns.map V.int) (k : Int) = some (.int ns[k]) := atI_nat (by rw [List.getElem?_map, List.getElem?_eq_getElem h]; rfl)
theorem ok_l_pot (T : Ty K mg C CF) (F : FD K "_law_pot" "_law_pot" s_l_pot [] f fd) : FnG P w K mg base CX0 1 f fd ["_law_script", "_law_k"] (spPot K) := by
  refine ok0 F sc_l_pot (fun vs H Q E h => ?_) (fun cdv A outer s H vs Q E hr h => ?_)
  · obtain ⟨a, ns, k, rfl, _⟩ := h
    rfl
  · obtain ⟨a, ns, k, rfl, hS, hl, hk, q⟩ := h
    refine ⟨_, (pss_cons (ps_set (i := 2) sc_l_pot.nd rfl (by first | exact Or.inl rfl | exact Or.inr rfl) (pe_ifExp (pt_cmpR op_lt (pv 1) (pe_callB call_len_seq (by rfl) T.n_len (by decide +kernel) (pa_cons (pv 0) pa_nil)) (nomark _)) (pe_callB call_abs (by rfl) T.n_abs (by decide +kernel) (pa_cons (pe_ix ix_list (pv 0) (pv 1) (fun _ _ => rfl)) pa_nil)) pe_int))
      (pss_one (ps_ret (pe_lst (pa_cons (pe_callB (call_max2 rfl) (by rfl) T.n_max (by decide +kernel) (pa_cons pe_int (pa_cons (pe_op op_sub (pv 2) (pe_op op_pow pe_int pe_int)) pa_nil))) (pa_cons (pe_op op_mod (pe_callTy call_int1 (by rfl) T.n_int (by decide +kernel) (pa_cons (pe_op op_add (pe_op op_add (pe_op op_mulX (pe_op op_mod (pe_callTy call_int1 (by rfl) T.n_int (by decide +kernel) (pa_cons (pv 2) pa_nil)) pe_int) pe_int) (pe_op op_mulX pe_int (pv 1))) pe_int) pa_nil)) pe_int) pa_nil)))))), ?_⟩
    refine ⟨_, rfl, _, rfl, a, _, rfl, .inl hS, _, _, rfl, rfl, _, rfl, ?_⟩
    -- behind the cell
    have fin : ∀ c : Int, 0 ≤ c → (tRet (tLst (tCons (tCB (fun xs H Q => ∃ i j, xs = [V.int i, V.int j] ∧ Q (.int (if j > i then j else i)) H) (tCons (tC (.int 0)) (tCons (tOp (rI0 fun i j => .int (i - j)) (tVar 2) (tOp (rI CPow fun i j => .int (i ^ j.toNat)) (tC (.int 10)) (tC (.int 18)))) tNil)))
        (tCons (tOp (rI (fun _ j => 0 < j) fun i j => .int (i % j)) (tCB (fun xs H Q => (∃ i, xs = [V.int i] ∧ Q (.int i) H) ∨ ∃ k, xs = [V.bl k] ∧ Q (.int (if k = true then 1 else 0)) H) (tCons (tOp (rI0 fun i j => .int (i + j)) (tOp (rI0 fun i j => .int (i + j)) (tOp (rI CMulX fun i j => .int (i * j)) (tOp (rI (fun _ j => 0 < j) fun i j => .int (i % j)) (tCB (fun xs H Q => (∃ i, xs = [V.int i] ∧ Q (.int i) H) ∨ ∃ k, xs = [V.bl k] ∧ Q (.int (if k = true then 1 else 0)) H) (tCons (tVar 2) tNil)) (tC (.int 2147483587))) (tC (.int 48271))) (tOp (rI CMulX fun i j => .int (i * j)) (tC (.int 60013)) (tVar 1))) (tC (.int 53))) tNil)) (tC (.int 2147483647))) tNil))))
        { nx := fun _ H' => Q .non H', rt := Q } [some (.ref a), some (.int k), some (.int c)] H := by
      intro c hc
      refine ⟨_, rfl, _, _, rfl, rfl, ⟨by decide, by decide, by decide⟩, _, _, rfl, rfl, _, _, rfl, ?_⟩
      refine ⟨_, rfl, .inl ⟨_, rfl, _, _, rfl, rfl, (show (0 : Int) < 2147483587 by decide), _, _, rfl, rfl, ?_, _, rfl, _, _, rfl, rfl, ?_, _, _, rfl, rfl, _, _, rfl, rfl, .inl ⟨_, rfl, _, _, rfl, rfl, (show (0 : Int) < 2147483647 by decide), ?_⟩⟩⟩
      · exact mulx_ok (a := 32) (b := 16) (by omega) (by decide) (by decide)
      · exact mulx_ok (a := 16) (b := 7) (by decide) (by omega) (by decide)
      · refine ⟨(by show 2 ≤ sizeLine; decide), fun p hp => q _ p (same_upd hp) hp ⟨_, _, upd_same, ?_, by omega, by omega⟩⟩
        split <;> omega
    refine iteB (fun e => ?_) (fun e => ?_)
    · have hkl : k < ns.length := by
        have := of_decide_eq_true e
        rw [List.length_map] at this
        omega
      refine ⟨_, rfl, _, rfl, a, _, _, _, rfl, rfl, hS, at_map hkl, _, rfl, ?_⟩
      exact fin _ (by split <;> omega)
    · exact fin 0 (by decide)
/-! ### _law_digit -/
def spDigit : Sp := fun vs H Q _ => ∃ (p : Addr) (m : Int), vs = [.ref p, .int m] ∧ PotAt H p ∧ 0 < m ∧ m < 1000000 ∧ ∀ H' d, But p H H' → PotAt H' p → 0 ≤ d → d < m → Q (.int d) H'
theorem ok_l_digit (T : Ty K mg C CF) (F : FD K "_law_digit" "_law_digit" s_l_digit [] f fd) : FnG P w K mg base CX0 1 f fd ["_law_pot_here", "_law_many"] spDigit := by
  refine ok0 F sc_l_digit (fun vs H Q E h => ?_) (fun cdv A outer s H vs Q E hr h => ?_)
  · obtain ⟨p, m, rfl, _⟩ := h
    rfl
  · obtain ⟨p, m, rfl, ⟨x, y, hp, hx, hy, hy2⟩, m0, m1, q⟩ := h
    refine ⟨_, (pss_cons (ps_if (pt_cmpR op_gt (pe_ix ix_list (pv 0) pe_int (fun _ _ => rfl)) pe_int (nomark _)) (pss_cons (ps_asg (pe_callB call_divmodW (by rfl) T.n_divmod (by decide +kernel) (pa_cons (pe_ix ix_list (pv 0) pe_int (fun _ _ => rfl)) (pa_cons (pv 1) pa_nil))) (pg_tup rfl (pgs_cons (pg_sub (pv 0) pe_int set_list) (pgs_cons (pg_name (i := 2) sc_l_digit.nd rfl (by first | exact Or.inl rfl | exact Or.inr rfl)) pgs_nil))))
      (pss_one (ps_ret (pv 2)))) pss_nil)
      (pss_cons (ps_asg (pe_op op_mod (pe_callTy call_int1 (by rfl) T.n_int (by decide +kernel) (pa_cons (pe_op op_add (pe_op op_mulX (pe_ix ix_list (pv 0) pe_int (fun _ _ => rfl)) pe_int) pe_int) pa_nil)) pe_int) (pg_sub (pv 0) pe_int set_list))
      (pss_one (ps_ret (pe_op op_mod (pe_callTy call_int1 (by rfl) T.n_int (by decide +kernel) (pa_cons (pe_op op_fdivZ (pe_op op_mod (pe_callTy call_int1 (by rfl) T.n_int (by decide +kernel) (pa_cons (pe_op op_mulX (pe_ix ix_list (pv 0) pe_int (fun _ _ => rfl)) (pe_ix ix_list (pv 0) pe_int (fun _ _ => rfl))) pa_nil)) pe_int) pe_int) pa_nil)) (pv 1)))))), ?_⟩
    refine ⟨_, rfl, p, _, _, _, rfl, rfl, SqL.of hp, atI_nat (j := 0) rfl, _, _, rfl, rfl, _, rfl, iteB (fun e => ?_) (fun e => ?_)⟩
    · have x0 : 0 < x := of_decide_eq_true e
      refine ⟨_, rfl, p, _, _, _, rfl, rfl, SqL.of hp, atI_nat (j := 0) rfl, _, rfl, _, _, rfl, ⟨m0, PyProof.noPylong_small (by omega)⟩, fun t ht => ?_⟩
      have npt : p ≠ t := ne_of_none hp ht
      refine ⟨t, _, rfl, SqT.of upd_same, rfl, _, _, rfl, _, rfl, p, _, _, 0, rfl, rfl, (by rw [upd_ne npt]; exact hp), rfl, ?_⟩
      refine ⟨_, _, rfl, rfl, _, rfl, ?_⟩
      refine q _ _ (fun b o e n => ?_) ⟨_, _, upd_same, Int.ediv_nonneg hx (by omega), hy, hy2⟩ (Int.emod_nonneg _ (by omega)) (Int.emod_lt_of_pos _ m0)
      rw [upd_ne n, upd_ne (ne_of_none e ht)]
      exact e
    · have z0 : 0 ≤ (y * 39373 + 12227) % 2147483629 := Int.emod_nonneg _ (by decide)
      have z1 : (y * 39373 + 12227) % 2147483629 < 2147483629 := Int.emod_lt_of_pos _ (by decide)
      refine ⟨_, rfl, p, _, _, _, rfl, rfl, SqL.of hp, atI_nat (j := 1) rfl, _, _, rfl, rfl, mulx_ok (a := 32) (b := 16) (by omega) (by decide) (by decide), _, _, rfl, rfl, .inl ⟨_, rfl, _, _, rfl, rfl, (show (0 : Int) < 2147483629 by decide), ?_⟩⟩
      refine ⟨_, rfl, p, _, _, 1, rfl, rfl, hp, rfl, ?_⟩
      refine ⟨_, rfl, p, _, _, _, rfl, rfl, SqL.of upd_same, atI_nat (j := 1) rfl, _, rfl, p, _, _, _, rfl, rfl, SqL.of upd_same, atI_nat (j := 1) rfl, _, _, rfl, rfl, mulx_ok (a := 32) (b := 32) (by omega) (by omega) (by decide), .inl ⟨_, rfl, _, _, rfl, rfl, (show (0 : Int) < 2147483563 by decide), _, _, rfl, rfl, ⟨by decide, by decide⟩, .inl ⟨_, rfl, _, rfl, _, _, rfl, rfl, m0, ?_⟩⟩⟩
      exact q _ _ but_upd ⟨_, _, upd_same, hx, z0, by omega⟩ (Int.emod_nonneg _ (by omega)) (Int.emod_lt_of_pos _ m0)
/-! ### _law_pick -/
def spPick : Sp := fun vs H Q _ => ∃ (p l : Addr) (xs : List V), vs = [.ref p, .ref l] ∧ PotAt H p ∧ H l = some (.lst xs) ∧ xs ≠ [] ∧ xs.length ≤ 1000 ∧ l ≠ p ∧ ∀ H' v, But p H H' → PotAt H' p → v ∈ xs → Q v H'
theorem ok_l_pick (T : Ty K mg C CF) (G_l_digit : Fnc P w K mg base CX0 1 "_law_digit" [] spDigit) (F : FD K "_law_pick" "_law_pick" s_l_pick [] f fd) : FnG P w K mg base CX0 2 f fd ["_law_pot_here", "_law_some"] spPick := by
  refine ok0 F sc_l_pick (fun vs H Q E h => ?_) (fun cdv A outer s H vs Q E hr h => ?_)
  · obtain ⟨p, l, xs, rfl, _⟩ := h
    rfl
  · obtain ⟨p, l, xs, rfl, hp, hl, hn, hz, hlp, q⟩ := h
    have h0 : 0 < xs.length := List.length_pos_iff.mpr hn
    refine ⟨_, (pss_one (ps_ret (pe_ix ix_list (pv 1) (pe_fn G_l_digit (hr.mono (by decide)) pass0 (pa_cons (pv 0) (pa_cons (pe_callB call_len_seq (by rfl) T.n_len (by decide +kernel) (pa_cons (pv 1) pa_nil)) pa_nil))) (fun _ _ => rfl)))), ?_⟩
    refine ⟨_, rfl, _, rfl, _, rfl, l, _, rfl, .inl (SqL.of hl), p, xs.length, rfl, hp, by omega, by omega, fun H' d b hp' d0 d1 => ?_⟩
    obtain ⟨n, rfl⟩ := Int.eq_ofNat_of_zero_le d0
    have hn' : n < xs.length := by omega
    exact ⟨l, xs, _, xs[n], rfl, rfl, SqL.of (b l _ hl hlp), atI_nat (List.getElem?_eq_getElem hn'), q H' _ b hp' (List.getElem_mem hn')⟩
end
end K12

set_option Elab.async false
set_option linter.all false
set_option maxRecDepth 100000
set_option maxHeartbeats 4000000
/-! L12b: odd values. -/
namespace K12
open PySem PySem.Spec PyProof.Rows L2 LL K11 W13
abbrev s_l_odd : Stmt := top 30
abbrev n_l_odd : List Str := ["_law_pot_here", "_law_some"]
theorem sc_l_odd : FnScope n_l_odd ["_law_pot_here"] (defScope s_l_odd) := ⟨rfl, rfl, rfl, by decide +kernel, rfl, by decide +kernel, by decide +kernel⟩
/-- the heap without p and without the tables -/
def rsp (p : Addr) (H : Hp) : Hp := fun a => if a = p then none else match H a with | some (.tbl _) => none | o => o
theorem rsp_one {H : Hp} {a b : Addr} {o : HO} (h : H b = some o) (n : b ≠ a) (nt : ∀ ps, o ≠ .tbl ps := by intro _ h; cases h) : rsp a H b = some o := by
  unfold rsp
  rw [if_neg n, h]
  cases o <;> first | rfl | exact absurd rfl (nt _)
theorem rsp_out {H : Hp} {p a : Addr} {o : HO} (e : rsp p H a = some o) : a ≠ p ∧ H a = some o ∧ ∀ ps, o ≠ .tbl ps := by
  unfold rsp at e
  by_cases c : a = p
  · rw [if_pos c] at e; cases e
  · rw [if_neg c] at e
    refine ⟨c, ?_⟩
    cases h : H a with
    | none => rw [h] at e; cases e
    | some o' =>
      rw [h] at e
      cases o' <;> first | (cases e; exact ⟨rfl, by intro _ h; cases h⟩) | cases e
theorem rsp_le {p : Addr} {H : Hp} : Same (rsp p H) H := fun a o e => (rsp_out e).2.1
theorem rsp_same {p : Addr} {H H' : Hp} (s : Same H H') : Same (rsp p H) (rsp p H') := fun a o e => let ⟨n, h, t⟩ := rsp_out e; rsp_one (s _ _ h) n t
theorem but_rsp {p : Addr} {H H' : Hp} (b : But p H H') : Same (rsp p H) (rsp p H') := fun a o e => let ⟨n, h, t⟩ := rsp_out e; rsp_one (b _ _ h n) n t
theorem ext_rsp {p : Addr} {H H' : Hp} (b : LamX.ExtN H H') : Same (rsp p H) (rsp p H') := fun a o e => let ⟨n, h, t⟩ := rsp_out e; rsp_one (b _ _ h t) n t
theorem rsp_new {p a : Addr} {H : Hp} (h : H a = none) : rsp p H a = none := by
  unfold rsp
  by_cases c : a = p
  · rw [if_pos c]
  · rw [if_neg c, h]
theorem same_upd2x {H : Hp} {a : Addr} {o o' : HO} (n : H a = none) : Same H (upd (upd H a o) a o') := fun b x e => by
  have c : b ≠ a := fun c => by rw [c, n] at e; cases e
  rw [upd_ne c, upd_ne c]
  exact e
theorem PotAt.same {H H' : Hp} {p : Addr} (h : PotAt H p) (s : Same H H') : PotAt H' p := let ⟨x, y, a, b⟩ := h; ⟨x, y, s _ _ a, b⟩
/-- what the kinds of values are -/
structure Tq (K : PySem.W.Frag) (C CF : Addr) : Prop where
  cN : PySem.W.kitOne K (.type "NoneType") (.ref C) = some false
  cB : PySem.W.kitOne K (.type "bool") (.ref C) = some false
  cS : PySem.W.kitOne K (.type "str") (.ref C) = some false
  cL : PySem.W.kitOne K (.type "list") (.ref C) = some false
  cT : PySem.W.kitOne K (.type "tuple") (.ref C) = some false
  cD : PySem.W.kitOne K (.type "dict") (.ref C) = some false
  iF : PySem.W.kitOne K (.ref CF) (.type "int") = some false
  bF : PySem.W.kitOne K (.ref CF) (.type "bool") = some false
  iA : PySem.W.kitOne K (.ref C) (.type "int") = some false
  bA : PySem.W.kitOne K (.ref C) (.type "bool") = some false
  fS : PySem.W.notFirst K C (.type "str") = true
  fL : PySem.W.notFirst K C (.type "list") = true
section
variable {P : Program} {w : World} {K : PySem.W.Frag} {mg : Str → Option Value} {base : Heap} {C CF : Addr} {f : Addr} {fd : FuncData}
/-- what a value's repr is -/
inductive Tl (K : PySem.W.Frag) (C CF : Addr) (H : Hp) : V → Str → Prop
  | dat {v : V} {d : PyData} : Dq1 K H v d → Tl K C CF H v d.shown
  | am {p : Addr} {t b : Int} : AmtAt C H p t b → Md t → Md b → Tl K C CF H (.ref p) (repS t b)
  | fm {p : Addr} {c : Fr2} {ws : Wts} : FmAt C CF H p c ws → FOk c ws → Tl K C CF H (.ref p) (formR c ws)
theorem dq1_same {H H' : Hp} {v : V} {d : PyData} (h : Dq1 K H v d) (s : Same H H') : Dq1 K H' v d := by
  cases h with
  | one e => exact .one (s _ _ e)
  | q h =>
    cases h with
    | emp e => exact .q (.emp (s _ _ e))
    | dat a b c e => exact .q (.dat (Dp.same s a) b c e)
theorem Tl.same {H H' : Hp} {v : V} {t : Str} (h : Tl K C CF H v t) (s : Same H H') : Tl K C CF H' v t := by
  cases h with
  | dat a => exact .dat (dq1_same a s)
  | am a b c => exact .am (a.same s) b c
  | fm a b => exact .fm (a.same s) b
def rTell (K : PySem.W.Frag) (C CF : Addr) : List V → Hp → VK → Prop := fun xs H Q => ∃ v t, xs = [v] ∧ Tl K C CF H v t ∧ ∀ H', Same H H' → Q (.str t) H'
theorem call_tell {X : Cx} {k : Nat} (c : X.prog = P ∧ X.w = w ∧ X.K = K ∧ X.mg = mg ∧ X.base = base) (gd : X.A.guards = some []) (hr : Rm (k + 9) X.A) (S_arepr : SpF P w K mg base CX0 1 C "__repr__" (spShow C repS)) (S_frepr : SpF P w K mg base CX0 7 CF "__repr__" (spFShow C CF formR)) : CallR X (.builtin "repr") (rTell K C CF) := by
  obtain ⟨rfl, rfl, rfl, rfl, rfl⟩ := c
  intro pins s σ H xs us Q I r h
  obtain ⟨v, t, rfl, h, q⟩ := h
  cases h with
  | dat a => exact call_reprV1 (K := X.K) rfl gd hr.r.units pins s σ H _ us Q I r ⟨v, _, rfl, a, q _ Same.rfl'⟩
  | @am p t b a mt mb =>
    obtain ⟨dx, e⟩ := id a
    exact call_reprOF S_arepr (hr.mono (by omega)) pass0 pins s σ H _ us Q I r ⟨p, dx, _, rfl, e, p, t, b, rfl, a, mt, mb, _, rfl, q _ Same.rfl'⟩
  | @fm p c ws a ok =>
    obtain ⟨dx, ca, da, kvs, e, _⟩ := id a
    exact call_reprOF S_frepr (hr.mono (by omega)) pass0 pins s σ H _ us Q I r ⟨p, dx, _, rfl, e, p, c, ws, rfl, a, ok, fun H' s => ⟨_, rfl, q H' s⟩⟩
theorem call_tellH {X : Cx} {k : Nat} (c : X.prog = P ∧ X.w = w ∧ X.K = K ∧ X.mg = mg ∧ X.base = base) (gd : X.A.guards = some []) (hr : LH.Rm (k + 9) X.A) (S_arepr : LH.SpF P w K mg base CX0 1 C "__repr__" (spShow C repS)) (S_frepr : LH.SpF P w K mg base CX0 7 CF "__repr__" (spFShow C CF formR)) (hC : L2H.HotC X) : CallR X (.builtin "repr") (rTell K C CF) := by
  obtain ⟨rfl, rfl, rfl, rfl, rfl⟩ := c
  intro pins s σ H xs us Q I r h
  obtain ⟨v, t, rfl, h, q⟩ := h
  cases h with
  | dat a => exact call_reprV1 (K := X.K) rfl gd hr.units pins s σ H _ us Q I r ⟨v, _, rfl, a, q _ Same.rfl'⟩
  | @am p t b a mt mb =>
    obtain ⟨dx, e⟩ := id a
    exact LH.call_reprOF S_arepr (hr.mono (by omega)) pass0 hC pins s σ H _ us Q I r ⟨p, dx, _, rfl, e, p, t, b, rfl, a, mt, mb, _, rfl, q _ Same.rfl'⟩
  | @fm p c ws a ok =>
    obtain ⟨dx, ca, da, kvs, e, _⟩ := id a
    exact LH.call_reprOF S_frepr (hr.mono (by omega)) pass0 hC pins s σ H _ us Q I r ⟨p, dx, _, rfl, e, p, c, ws, rfl, a, ok, fun H' s => ⟨_, rfl, q H' s⟩⟩
structure OddV (K : PySem.W.Frag) (C CF : Addr) (Z : Hp) (v : V) : Prop where
  na : NoA K C Z v
  kd : Kd K C CF Z v
  tl : ∃ t, Tl K C CF Z v t ∧ PyData.strOk t = true
theorem OddV.same {Z Z' : Hp} {v : V} (h : OddV K C CF Z v) (s : Same Z Z') : OddV K C CF Z' v := ⟨h.na.same s, h.kd.same s, let ⟨t, a, b⟩ := h.tl; ⟨t, a.same s, b⟩⟩
theorem mN : "NoneType" ∈ tys := by decide
theorem mB : "bool" ∈ tys := by decide
theorem mS : "str" ∈ tys := by decide
theorem mL : "list" ∈ tys := by decide
theorem mT : "tuple" ∈ tys := by decide
theorem mD : "dict" ∈ tys := by decide
theorem odd_of {Z : Hp} {v : V} {d : PyData} {T : String} (m : T ∈ tys) (ty : ∀ H', Same Z H' → TyX K H' v (.type T)) (c : PySem.W.kitOne K (.type T) (.ref C) = some false) (dq : Dq1 K Z v d) (ok : PyData.strOk d.shown = true) : OddV K C CF Z v := by
  refine ⟨?_, .inl ⟨T, m, ty⟩, _, .dat dq, ok⟩
  simp only [tys, List.mem_cons, List.not_mem_nil, or_false] at m
  rcases m with rfl | rfl | rfl | rfl | rfl | rfl
  · exact ⟨_, false, false, ty, kit_ty (by decide +kernel), kit_ty (by decide +kernel), rfl, c⟩
  · exact ⟨_, true, true, ty, kit_ty (by decide +kernel), kit_ty (by decide +kernel), rfl, c⟩
  · exact ⟨_, false, false, ty, kit_ty (by decide +kernel), kit_ty (by decide +kernel), rfl, c⟩
  · exact ⟨_, false, false, ty, kit_ty (by decide +kernel), kit_ty (by decide +kernel), rfl, c⟩
  · exact ⟨_, false, false, ty, kit_ty (by decide +kernel), kit_ty (by decide +kernel), rfl, c⟩
  · exact ⟨_, false, false, ty, kit_ty (by decide +kernel), kit_ty (by decide +kernel), rfl, c⟩
theorem odd_fm (T : Ty K mg C CF) (TQ : Tq K C CF) {Z : Hp} {p : Addr} {c : Fr2} {ws : Wts} (h : FmAt C CF Z p c ws) (ok : FOk c ws) (so : PyData.strOk (formR c ws) = true) : OddV K C CF Z (.ref p) :=
  ⟨⟨_, false, false, fun H' s => tyF T (h.same s), TQ.iF, TQ.bF, rfl, T.kFA⟩, .inr ⟨p, c, ws, rfl, h⟩, _, .fm h ok, so⟩
theorem asc_of {x : Str} (h : x.cps.toList.all (fun c => decide (c < 128)) = true) : Asc x := fun c hc => Nat.lt_trans (of_decide_eq_true (List.all_eq_true.mp h c hc)) (by decide)
theorem odd_str (TQ : Tq K C CF) {Z : Hp} {x : Str} (h : Asc x) (lo : PyData.strOk x = true) (l : x.length ≤ 3) : OddV K C CF Z (.str x) := odd_of mS (fun _ _ => .base (.str x)) TQ.cS (.q (.dat (.str x) h (by simp only [PyData.depth]; decide) (by simp only [cost]; rw [sizeLine_eq]; omega))) (okt_repr lo)
theorem fm_rsp {H : Hp} {p q : Addr} {c : Fr2} {ws : Wts} (h : FmAt C CF H q c ws) (hp : PotAt H p) : FmAt C CF (rsp p H) q c ws := by
  obtain ⟨x0, y0, hpe, _⟩ := id hp
  have up : ∀ {a : Addr} {o : HO}, H a = some o → (∀ i j : Int, o ≠ .lst [.int i, .int j]) → (t9 : ∀ ps, o ≠ .tbl ps := by intro _ h; cases h) → rsp p H a = some o := fun {a o} e n t9 => rsp_one e (fun c => by rw [c, hpe] at e; cases e; exact n _ _ rfl) t9
  obtain ⟨dx, ca, da, kvs, e1, ⟨dy, e2⟩, e3, wr⟩ := h
  refine ⟨dx, ca, da, kvs, up e1 (fun i j c => by cases c), ⟨dy, up e2 (fun i j c => by cases c)⟩, up e3 (fun i j c => by cases c), wr.keys, fun i p x a b => ?_⟩
  obtain ⟨r, er, dr, hr⟩ := wr.at_ i p x a b
  exact ⟨r, er, dr, up hr fun i j c => by cases c⟩
def fA1 : Fr2 × Wts := ((0, 1), [(("a" : Str), (1 : Int), (1 : Int))])
theorem of_a {H : Hp} {Qs : VK} (q : ∀ H' p, Same H H' → H p = none → FmAt C CF H' p fA1.1 fA1.2 → Qs (.ref p) H') : spKwD ["a"] [.int 0] (spOfB C CF) [.ref CF] [.int 1] H Qs E0 := by
  intro d nd
  have sd := same_upd (o := .dK [((Sum.inr "a" : Key), V.int 1)]) nd
  refine ⟨.int 0, (0, 1), d, [(Sum.inr "a", .int 1)], [(("a" : Str), (1 : Int), (1 : Int))], rfl, .inr ⟨rfl, rfl⟩, by decide +kernel, upd_same, ⟨rfl, fun i p x e1 e2 => ?_⟩, (List.pairwise_singleton _ _), (show 1 ≤ 60 by decide), fun x hx => ?_, fun H' p out s np cl fm => ?_⟩
  · rcases i with _ | i
    · cases e1
      cases e2
      exact .inr ⟨rfl, rfl⟩
    · cases e2
  · cases List.mem_singleton.mp hx
    exact ⟨by decide +kernel, by decide +kernel, (show (1 : Int).natAbs < 2 ^ 4000 by decide +kernel)⟩
  · have e : out = [(("a" : Str), (1 : Int), (1 : Int))] := srt_ext cl.srt (List.pairwise_singleton _ _) fun x => ⟨fun m => ((cl.mem x).mp m).1, fun m => (cl.mem x).mpr ⟨m, by cases List.mem_singleton.mp m; exact (show ¬ (1 : Int) = 0 by decide)⟩⟩
    rw [e] at fm
    exact q _ _ (sd.trans s) (sd.free np) fm
theorem low2 : Low (2, 1) := ⟨by decide, by decide⟩
theorem sm2 : Sm (2, 1).1 ∧ Sm ((2, 1) : Fr2).2 := ⟨(by show 2 < 2 ^ 900; exact Nat.lt_of_lt_of_le (show 2 < 2 ^ 2 by decide) (Nat.pow_le_pow_right (by decide) (by decide))), Nat.one_lt_two_pow (by decide)⟩
theorem fokA : FOk fA1.1 fA1.2 := by
  refine ⟨?_, ?_, sm0, fun x m => ?_, fun x m => ?_, by decide⟩
  · exact ⟨List.pairwise_singleton _ _, (fun x m => by rw [List.mem_singleton.mp m]; decide), fun x m => by rw [List.mem_singleton.mp m]; exact ⟨by decide, by decide⟩⟩
  · exact ⟨by decide, by decide⟩
  · rw [List.mem_singleton.mp m]
    exact ⟨Nat.one_lt_two_pow (by decide), Nat.one_lt_two_pow (by decide)⟩
  · rw [List.mem_singleton.mp m]
    decide +kernel
def spOdd (K : PySem.W.Frag) (C CF : Addr) : Sp := fun vs H Q _ => ∃ p, vs = [.ref p] ∧ PotAt H p ∧ ∀ H' v, But p H H' → PotAt H' p → OddV K C CF (rsp p H') v → Q v H'
theorem ok_l_odd (T : Ty K mg C CF) (TQ : Tq K C CF) (Z_ofA : CmtW P w K mg base CX0 7 CF "of" 0 ["a"] (spKwD ["a"] [.int 0] (spOfB C CF))) (K_Form1 : Mkf P w K mg base CX0 5 "Form" (spMkF1 C CF)) (G_l_pick : Fnc P w K mg base CX0 2 "_law_pick" [] spPick) (F : FD K "_law_odd" "_law_odd" s_l_odd [] f fd) : FnG P w K mg base CX0 9 f fd ["_law_pot_here"] (spOdd K C CF) := by
  refine ok0 F sc_l_odd (fun vs H Q E h => ?_) (fun cdv A outer s H vs Q E hr h => ?_)
  · obtain ⟨p, rfl, _⟩ := h
    rfl
  · obtain ⟨p, rfl, hp, q⟩ := h
    refine ⟨_, (pss_cons (ps_set (i := 1) sc_l_odd.nd rfl (by first | exact Or.inl rfl | exact Or.inr rfl) (pe_lst (pa_cons pe_non (pa_cons pe_bl (pa_cons pe_bl (pa_cons pe_str (pa_cons pe_str (pa_cons pe_str (pa_cons (pe_lst pa_nil) (pa_cons (pe_lst (pa_cons pe_int pa_nil)) (pa_cons (pe_tup (pa_cons pe_int (pa_cons pe_int pa_nil))) (pa_cons pe_dnewK (pa_cons (pe_disp (pps_cons pe_str pe_int pps_nil) rfl rfl (fun z => by cases z) (by decide)) (pa_cons (pe_lst (pa_cons pe_str pa_nil)) (pa_cons (pe_cmkN (pe_glob (v := .ref CF) (by rfl) T.g_Form rfl) Z_ofA (hr.mono (by decide)) pass0 (pk_cons pe_int pk_nil)) (pa_cons (pe_mf K_Form1 (hr.mono (by decide)) pass0 (pa_cons pe_int pa_nil)) (pa_cons pe_str pa_nil)))))))))))))))))
      (pss_one (ps_ret (pe_fn G_l_pick (hr.mono (by decide)) pass0 (pa_cons (pv 0) (pa_cons (pv 1) pa_nil)))))), ?_⟩
    refine ⟨small (show 0 ≤ 100000 by decide), fun a1 n1 => ⟨small (show 1 ≤ 100000 by decide), fun a2 n2 => ⟨small (show 2 ≤ 100000 by decide), fun a3 n3 => fun a4 n4 => fun a5 n5 => ?_⟩⟩⟩
    have s1 := same_upd (o := .lst []) n1
    have h1 : upd H a1 (.lst []) a1 = some (.lst []) := upd_same
    generalize upd H a1 (.lst []) = G1 at *
    have s2 := same_upd (o := .lst [V.int 1]) n2
    have h2 : upd G1 a2 (.lst [V.int 1]) a2 = some (.lst [V.int 1]) := upd_same
    generalize upd G1 a2 (.lst [V.int 1]) = G2 at *
    have s3 := same_upd (o := .tup [V.int 1, V.int 2]) n3
    have h3 : upd G2 a3 (.tup [V.int 1, V.int 2]) a3 = some (.tup [V.int 1, V.int 2]) := upd_same
    generalize upd G2 a3 (.tup [V.int 1, V.int 2]) = G3 at *
    have s4 := same_upd (o := .dK []) n4
    have h4 : upd G3 a4 (.dK []) a4 = some (.dK []) := upd_same
    generalize upd G3 a4 (.dK []) = G4 at *
    refine ⟨upd_same, [(Sum.inr "a", .int 1)], rfl, by decide, ?_⟩
    have s5 : Same G4 (upd (upd G4 a5 (.dK [])) a5 (.dK (mergeK [] [(Sum.inr "a", .int 1)]))) := same_upd2x n5
    have h5 : upd (upd G4 a5 (.dK [])) a5 (.dK (mergeK [] [(Sum.inr "a", .int 1)])) a5 = some (.dK [(Sum.inr "a", .int 1)]) := upd_same
    generalize upd (upd G4 a5 (.dK [])) a5 (.dK (mergeK [] [(Sum.inr "a", .int 1)])) = G5 at s5 h5
    refine ⟨small (show 1 ≤ 100000 by decide), fun a6 n6 => ?_⟩
    have s6 := same_upd (o := .lst [V.str "1"]) n6
    have h6 : upd G5 a6 (.lst [V.str "1"]) a6 = some (.lst [V.str "1"]) := upd_same
    generalize upd G5 a6 (.lst [V.str "1"]) = G6 at *
    refine ⟨rfl, rfl, of_a fun G7 p7 s7 np7 fm7 => ⟨.int 2, (2, 1), rfl, .inr ⟨rfl, rfl⟩, by decide +kernel, fun G8 p8 s8 np8 fm8 => ⟨small (show 15 ≤ 100000 by decide), fun l nl => ?_⟩⟩⟩
    have s9 := same_upd (o := .lst [V.non, V.bl true, V.bl false, V.str "1", V.str "", V.str "3/4", V.ref a1, V.ref a2, V.ref a3, V.ref a4, V.ref a5, V.ref a6, V.ref p7, V.ref p8, V.str "a"]) nl
    have hl : upd G8 l (.lst [V.non, V.bl true, V.bl false, V.str "1", V.str "", V.str "3/4", V.ref a1, V.ref a2, V.ref a3, V.ref a4, V.ref a5, V.ref a6, V.ref p7, V.ref p8, V.str "a"]) l = some (.lst [V.non, V.bl true, V.bl false, V.str "1", V.str "", V.str "3/4", V.ref a1, V.ref a2, V.ref a3, V.ref a4, V.ref a5, V.ref a6, V.ref p7, V.ref p8, V.str "a"]) := upd_same
    generalize upd G8 l (.lst [V.non, V.bl true, V.bl false, V.str "1", V.str "", V.str "3/4", V.ref a1, V.ref a2, V.ref a3, V.ref a4, V.ref a5, V.ref a6, V.ref p7, V.ref p8, V.str "a"]) = G9 at *
    have s89 := s8.trans s9
    have s79 := s7.trans s89
    have s69 := s6.trans s79
    have s59 := s5.trans s69
    have s49 := s4.trans s59
    have s39 := s3.trans s49
    have s29 := s2.trans s39
    have sH := s1.trans s29
    have h1 := s29 _ _ h1
    have h2 := s39 _ _ h2
    have h3 := s49 _ _ h3
    have h4 := s59 _ _ h4
    have h5 := s69 _ _ h5
    have h6 := s79 _ _ h6
    have fm7 := fm7.same s89
    have fm8 := fm8.same s9
    have hp9 := hp.same sH
    obtain ⟨x0, y0, hpe, _⟩ := id hp9
    have ne : ∀ {a : Addr} {o : HO}, G9 a = some o → (∀ i j : Int, o ≠ .lst [.int i, .int j]) → a ≠ p := fun {a o} e n c => by
      rw [c, hpe] at e
      cases e
      exact n _ _ rfl
    refine ⟨_, rfl, _, rfl, p, l, _, rfl, hp9, hl, (fun c => by cases c), (by show 15 ≤ 1000; decide), ne hl (fun i j c => by cases c), fun H' v b hp' mv => ?_⟩
    have b' : But p H H' := fun c o e n => b _ _ (sH _ _ e) n
    have up : ∀ {a : Addr} {o : HO}, G9 a = some o → (∀ i j : Int, o ≠ .lst [.int i, .int j]) → (t9 : ∀ ps, o ≠ .tbl ps := by intro _ h; cases h) → rsp p H' a = some o := fun {a o} e n t => rsp_one (b _ _ e (ne e n)) (ne e n) t
    have sR : Same (rsp p G9) (rsp p H') := but_rsp b
    simp only [List.mem_cons, List.not_mem_nil, or_false] at mv
    rcases mv with rfl | rfl | rfl | rfl | rfl | rfl | rfl | rfl | rfl | rfl | rfl | rfl | rfl | rfl | rfl
    · exact q _ _ b' hp' (odd_of mN (fun _ _ => .base .non) TQ.cN (.q (.dat .non trivial (by decide +kernel) (by decide +kernel))) (by decide +kernel))
    · exact q _ _ b' hp' (odd_of mB (fun _ _ => .base (.bl true)) TQ.cB (.q (.dat (.bl true) trivial (by decide +kernel) (by decide +kernel))) (by decide +kernel))
    · exact q _ _ b' hp' (odd_of mB (fun _ _ => .base (.bl false)) TQ.cB (.q (.dat (.bl false) trivial (by decide +kernel) (by decide +kernel))) (by decide +kernel))
    · exact q _ _ b' hp' (odd_str TQ (asc_of (by decide +kernel)) (by decide +kernel) (by decide +kernel))
    · exact q _ _ b' hp' (odd_str TQ (asc_of (by decide +kernel)) (by decide +kernel) (by decide +kernel))
    · exact q _ _ b' hp' (odd_str TQ (asc_of (by decide +kernel)) (by decide +kernel) (by decide +kernel))
    · have u := up h1 fun i j c => by cases c
      exact q _ _ b' hp' (odd_of mL (fun H' s => .base (.lst (s _ _ u))) TQ.cL (.q (.dat (.lst (SqL.of u) .nil) trivial (by decide +kernel) (by decide +kernel))) (by decide +kernel))
    · have u := up h2 fun i j c => by cases c
      exact q _ _ b' hp' (odd_of mL (fun H' s => .base (.lst (s _ _ u))) TQ.cL (.q (.dat (.lst (SqL.of u) (.cons (.int _) .nil)) ⟨(by show Nat.log2 _ < 1920; decide +kernel), trivial⟩ (by decide +kernel) (by decide +kernel))) (by decide +kernel))
    · have u := up h3 fun i j c => by cases c
      exact q _ _ b' hp' (odd_of mT (fun H' s => .base (.tup (s _ _ u))) TQ.cT (.q (.dat (.tup (SqT.of u) (.cons (.int _) (.cons (.int _) .nil))) ⟨(by show Nat.log2 _ < 1920; decide +kernel), (by show Nat.log2 _ < 1920; decide +kernel), trivial⟩ (by decide +kernel) (by decide +kernel))) (by decide +kernel))
    · have u := up h4 fun i j c => by cases c
      exact q _ _ b' hp' (odd_of mD (fun H' s => .base (.dK (s _ _ u))) TQ.cD (.q (.emp u)) (by decide +kernel))
    · have u := up h5 fun i j c => by cases c
      exact q _ _ b' hp' (odd_of mD (fun H' s => .base (.dK (s _ _ u))) TQ.cD (.one u) (by decide +kernel))
    · have u := up h6 fun i j c => by cases c
      exact q _ _ b' hp' (odd_of mL (fun H' s => .base (.lst (s _ _ u))) TQ.cL (.q (.dat (.lst (SqL.of u) (.cons (.str _) .nil)) ⟨asc_of (by decide +kernel), trivial⟩ (by decide +kernel) (by decide +kernel))) (by decide +kernel))
    · exact q _ _ b' hp' (odd_fm T TQ ((fm_rsp fm7 hp9).same sR) fokA (by decide +kernel))
    · exact q _ _ b' hp' (odd_fm T TQ ((fm_rsp fm8 hp9).same sR) (FOk.const low2 sm2) (by decide +kernel))
    · exact q _ _ b' hp' (odd_str TQ (asc_of (by decide +kernel)) (by decide +kernel) (by decide +kernel))
end
end K12

set_option Elab.async false
set_option linter.all false
set_option maxRecDepth 100000
set_option maxHeartbeats 4000000
/-! L12c: what is refused is told. -/
namespace K12
open PySem PySem.Spec PyProof.Rows L2 LL K11 W13
abbrev s_l_refused : Stmt := top 31
abbrev n_l_refused : List Str := ["_law_call", "_law_told", "e"]
theorem sc_l_refused : FnScope n_l_refused ["_law_call"] (defScope s_l_refused) := ⟨rfl, rfl, rfl, by decide +kernel, rfl, by decide +kernel, by decide +kernel⟩
theorem call_or {X : Cx} {v : Value} {r1 r2 : List V → Hp → VK → Prop} (h1 : CallR X v r1) (h2 : CallR X v r2) : CallR X v (fun xs H Q => r1 xs H Q ∨ r2 xs H Q) := fun pins s σ H xs us Q I r h => h.elim (h1 pins s σ H xs us Q I r) (h2 pins s σ H xs us Q I r)
theorem takes0N {X : Cx} : L2N.Takes X (fun _ _ _ _ => False) := fun u s' ⟨_, _, _, _, _, _, _, _, _, _, _, _, _, _, _, _, w⟩ => w.elim
/-- the errors' classes -/
structure Tw (K : PySem.W.Frag) (mg : Str → Option Value) (CB CA CZ CW : Addr) : Prop where
  g_LeastlogError : mg "LeastlogError" = some (.ref CB)
  g_InvalidAmount : mg "InvalidAmount" = some (.ref CA)
  g_ZeroDivisor : mg "ZeroDivisor" = some (.ref CZ)
  g_InvalidForm : mg "InvalidForm" = some (.ref CW)
  n_ArithmeticError : mg "ArithmeticError" = none
  xA : PySem.W.exmOne K (.ref CA) (.ref CA) = some true
  xZA : PySem.W.exmOne K (.ref CZ) (.ref CA) = some false
  xZ : PySem.W.exmOne K (.ref CZ) (.ref CZ) = some true
  kAB : PySem.W.kitOne K (.ref CA) (.ref CB) = some true
  kAW : PySem.W.kitOne K (.ref CA) (.ref CW) = some false
  kZE : PySem.W.kitOne K (.ref CZ) (.type "ArithmeticError") = some true
  kZB : PySem.W.kitOne K (.ref CZ) (.ref CB) = some false
def amS (t : Str) : List V := [.str "amount", .str t, .bl true]
def zeS : List V := [.str "zero", .bl true]
section
variable {P : Program} {w : World} {K : PySem.W.Frag} {mg : Str → Option Value} {base : Heap} {C CF CB CA CZ CW : Addr} {f : Addr} {fd : FuncData}
/-- what a refusal tells: by the error's class and value -/
def Ech (K : PySem.W.Frag) (C CF CA CZ : Addr) (Q : VK) : XK := fun cls d G => (∃ v dd t, cls = .ref CA ∧ d = some dd ∧ G dd = some (.xd [("value", v)]) ∧ Tl K C CF G v t ∧ ∀ G' l, Same G G' → G l = none → G' l = some (.lst (amS t)) → Q (.ref l) G') ∨
  (cls = .ref CZ ∧ d = none ∧ ∀ G' l, Same G G' → G l = none → G' l = some (.lst zeS) → Q (.ref l) G')
def TTr (K : PySem.W.Frag) (C CF CA CZ : Addr) : (XK → Hp → VK → Prop) → Hp → VK → Prop := fun tl H Q => ∀ t0, H t0 = none → ∀ R : VK, (∀ v G, G t0 = some (.lst [.str "none"]) → Q (.ref t0) G → R v G) → tl (Ech K C CF CA CZ Q) (upd H t0 (.lst [.str "none"])) R
theorem tk_refused {k : Nat} (T : Ty K mg C CF) (S : Tw K mg CB CA CZ CW) (XA : Xcl P w K mg base 1 "InvalidAmount" CA "value") (EZ : ExcC K CZ) (S_harepr : LH.SpF P w K mg base CX0 1 C "__repr__" (spShow C repS)) (S_hfrepr : LH.SpF P w K mg base CX0 7 CF "__repr__" (spFShow C CF formR))
    (F : FD K "_law_refused" "_law_refused" s_l_refused [] f fd) (hm : mg "_law_refused" = some (.ref f)) (B : Binds K fd ["_law_call"] []) (hk : 12 < k := by decide) :
    LN.Taker P w K mg base k "_law_refused" "_law_call" (TTr K C CF CA CZ) := by
  refine ⟨f, fd, _, _, _, n_l_refused, hm, F, sc_l_refused, rfl, .inl rfl, B, ?_⟩
  rintro X cdg q rfl rfl rfl rfl rfl g c' s H Q tl hr act hc h
  have gd : (X.A.deeper (envOfC "_law_refused" (defScope s_l_refused) s.heap.objs.size f cdg)).guards = some [] := hr.g (by omega)
  have hrH : LH.Rm (0 + 9) (X.A.deeper (envOfC "_law_refused" (defScope s_l_refused) s.heap.objs.size f cdg)) := ⟨by have := hr.r.dp; omega, by have := hr.r.un; omega⟩
  refine ⟨_, pss_cons (ps_set (i := 1) sc_l_refused.nd rfl (.inl rfl) (pe_lst (pa_cons pe_str pa_nil)))
    (pss_cons (LN.ps_tryRowN (i := 2) (n := "e") (Wo := fun _ _ _ _ => False) (tb := fun W D σ H => ∃ Ec : XK, (tDrop (fun τ G Q => τ[0]? = some (some (.ref g)) ∧ G c' = some (LamX.CodeO c' q) ∧ (∀ cls d G', Ec cls d G' → W cls d τ G') ∧ tl Ec G Q)) D σ H)
        rfl rfl sc_l_refused.nd rfl rfl takes0N (fun W pn xe tk _ => ⟨fun pins s' σ H' D I z => ?_⟩)
      (.cons (c := .ref CA) ⟨by rfl, by decide, .inl S.g_InvalidAmount⟩ (fun e oe cls d pn hz hf => (by exact (pss_one (ps_set (i := 1) sc_l_refused.nd rfl (by first | exact Or.inl rfl | exact Or.inr rfl) (pe_lst (pa_cons pe_str (pa_cons (pe_callB (call_tellH (k := 0) ⟨rfl, rfl, rfl, rfl, rfl⟩ gd ⟨hrH.dp, hrH.un⟩ S_harepr S_hfrepr (LN.hot_suite hz hf)) (by rfl) T.n_repr (by decide +kernel) (pa_cons (pe_xf XA.xf XA.nf hz.zc hf (pv 2)) pa_nil)) (pa_cons (pe_and (pe_callB (call_or (call_isD XA.ec hz.zc hf) (call_isE EZ hz.zc hf)) (by rfl) T.n_isinstance (by decide +kernel) (pa_cons (pv 2) (pa_cons (pe_glob (v := .ref CB) (by rfl) S.g_LeastlogError rfl) pa_nil))) (pe_one (pe_not (pe_callB (call_or (call_isD XA.ec hz.zc hf) (call_isE EZ hz.zc hf)) (by rfl) T.n_isinstance (by decide +kernel) (pa_cons (pv 2) (pa_cons (pe_glob (v := .ref CW) (by rfl) S.g_InvalidForm rfl) pa_nil)))))) pa_nil))))))))
      (.cons (c := .ref CZ) ⟨by rfl, by decide, .inl S.g_ZeroDivisor⟩ (fun e oe cls d pn hz hf => (by exact (pss_one (ps_set (i := 1) sc_l_refused.nd rfl (by first | exact Or.inl rfl | exact Or.inr rfl) (pe_lst (pa_cons pe_str (pa_cons (pe_and (pe_callB (call_or (call_isD XA.ec hz.zc hf) (call_isE EZ hz.zc hf)) (by rfl) T.n_isinstance (by decide +kernel) (pa_cons (pv 2) (pa_cons (pe_bltn (v := .ty "ArithmeticError") (by rfl) S.n_ArithmeticError (by decide +kernel) rfl) pa_nil))) (pe_one (pe_not (pe_callB (call_or (call_isD XA.ec hz.zc hf) (call_isE EZ hz.zc hf)) (by rfl) T.n_isinstance (by decide +kernel) (pa_cons (pv 2) (pa_cons (pe_glob (v := .ref CB) (by rfl) S.g_LeastlogError rfl) pa_nil)))))) pa_nil))))))) .nil)))
    (pss_one (ps_ret (pv 1)))), ?_⟩
  · obtain ⟨Ec, z⟩ := z
    exact (pss_one (ps_expr (act W pn xe Ec _ _ tk))).run pins s' σ H' D I z
  · refine ⟨small (show 1 ≤ 100000 by decide), fun t0 n0 => ⟨Ech X.K C CF CA CZ Q, rfl, same_upd n0 _ _ hc, fun cls d G' z => ?_, ?_⟩⟩
    · rcases z with ⟨v, dd, t, rfl, rfl, hd, tl, q⟩ | ⟨rfl, rfl, q⟩
      · refine ⟨true, S.xA, fun _ e he => ?_, fun z => nomatch z⟩
        refine ⟨_, rfl, rfl, rfl, dd, _, v, rfl, hd, look_f _ v, v, t, rfl, tl, fun H1 s1 => ?_⟩
        refine ⟨_, rfl, .inl ⟨_, _, _, dd, _, rfl, (fun u r => r), rfl, rfl, s1 _ _ hd, S.kAB, _, rfl, iteT ⟨_, rfl, .inl ⟨_, _, _, dd, _, rfl, (fun u r => r), rfl, rfl, s1 _ _ hd, S.kAW, _, rfl, small (show 3 ≤ 100000 by decide), fun l nl => ?_⟩⟩⟩⟩
        exact ⟨_, rfl, q _ l (s1.trans (same_upd nl)) (s1.free nl) upd_same⟩
      · refine ⟨false, S.xZA, (fun z => nomatch z), fun _ => ⟨true, S.xZ, fun _ e he => ?_, fun z => nomatch z⟩⟩
        refine ⟨_, rfl, .inr ⟨_, _, _, rfl, (fun u r => r), rfl, rfl, S.kZE, _, rfl, iteT ⟨_, rfl, .inr ⟨_, _, _, rfl, (fun u r => r), rfl, rfl, S.kZB, _, rfl, small (show 2 ≤ 100000 by decide), fun l nl => ?_⟩⟩⟩⟩
        exact ⟨_, rfl, q _ l (same_upd nl) nl upd_same⟩
    · refine h t0 n0 _ fun v G ht q => ?_
      exact ⟨_, rfl, q⟩
end
end K12

set_option Elab.async false
set_option linter.all false
set_option maxRecDepth 100000
set_option maxHeartbeats 4000000
/-! L12d: parts. -/
namespace K12
open PySem PySem.Spec PyProof.Rows L2 LL K11 W13
abbrev s_l_part : Stmt := top 32
abbrev n_l_part : List Str := ["_law_pot_here", "_law_right_here"]
theorem sc_l_part : FnScope n_l_part ["_law_pot_here", "_law_right_here"] (defScope s_l_part) := ⟨rfl, rfl, rfl, by decide +kernel, rfl, by decide +kernel, by decide +kernel⟩
section
variable {P : Program} {w : World} {K : PySem.W.Frag} {mg : Str → Option Value} {base : Heap} {C CF CB CA CZ CW : Addr} {f : Addr} {fd : FuncData}
/-- what is no integer, and how it is told -/
structure Bad (K : PySem.W.Frag) (C CF : Addr) (Z : Hp) (v : V) : Prop where
  no : NoI K Z v
  tl : ∃ t, Tl K C CF Z v t ∧ PyData.strOk t = true
theorem Bad.same {Z Z' : Hp} {v : V} (h : Bad K C CF Z v) (s : Same Z Z') : Bad K C CF Z' v := ⟨h.no.same s, let ⟨t, a, b⟩ := h.tl; ⟨t, a.same s, b⟩⟩
theorem OddV.bad {Z : Hp} {v : V} (h : OddV K C CF Z v) : Bad K C CF Z v := ⟨h.na.noI, h.tl⟩
theorem am_bad (T : Ty K mg C CF) (TQ : Tq K C CF) {Z : Hp} {p : Addr} {t b : Int} (h : AmtAt C Z p t b) (mt : Md t) (mb : Md b) (so : PyData.strOk (repS t b) = true) : Bad K C CF Z (.ref p) :=
  ⟨⟨_, false, false, fun H' s => tyA T.toTx (h.same s), TQ.iA, TQ.bA, rfl⟩, _, .am h mt mb, so⟩
theorem PotAt.ne {H : Hp} {p t : Addr} (h : PotAt H p) (n : H t = none) : t ≠ p := fun c => by
  obtain ⟨x, y, e, _⟩ := h
  rw [c, e] at n
  cases n
theorem md1 : Md 1 := by unfold Md; decide +kernel
theorem md2 : Md 2 := by unfold Md; decide +kernel
theorem md3 : Md (-3) := by unfold Md; decide +kernel
theorem md4 : Md 4 := by unfold Md; decide +kernel
def spPart (K : PySem.W.Frag) (C CF : Addr) : Sp := fun vs H Q _ => ∃ p v0, vs = [.ref p, v0] ∧ PotAt H p ∧ ∀ H' t v b, But p H H' → PotAt H' p → H' t = some (.tup [v, .bl b]) → t ≠ p → H t = none → (b = false → v = v0) → (b = true → Bad K C CF (rsp p H') v) → Q (.ref t) H'
theorem ok_l_part (T : Ty K mg C CF) (TQ : Tq K C CF) (G_l_digit : Fnc P w K mg base CX0 1 "_law_digit" [] spDigit) (G_l_pick : Fnc P w K mg base CX0 2 "_law_pick" [] spPick) (G_l_odd : Fnc P w K mg base CX0 9 "_law_odd" [] (spOdd K C CF)) (K_Amount1 : Mkf P w K mg base CX0 2 "Amount" (spMkA1 C)) (K_Amount2 : Mkf P w K mg base CX0 2 "Amount" (spMkA2 C))
    (F : FD K "_law_part" "_law_part" s_l_part [] f fd) : FnG P w K mg base CX0 10 f fd ["_law_pot_here", "_law_right_here"] (spPart K C CF) := by
  refine ok0 F sc_l_part (fun vs H Q E h => ?_) (fun cdv A outer s H vs Q E hr h => ?_)
  · obtain ⟨p, v0, rfl, _⟩ := h
    rfl
  · obtain ⟨p, v0, rfl, hp, q⟩ := h
    refine ⟨_, (pss_cons (ps_if (pt_cmpR op_eq (pe_fn G_l_digit (hr.mono (by decide)) pass0 (pa_cons (pv 0) (pa_cons pe_int pa_nil))) pe_int (nomark _)) (pss_one (ps_ret (pe_tup (pa_cons (pv 1) (pa_cons pe_bl pa_nil))))) pss_nil)
      (pss_one (ps_ret (pe_tup (pa_cons (pe_fn G_l_pick (hr.mono (by decide)) pass0 (pa_cons (pv 0) (pa_cons (pe_lst (pa_cons (pe_fn G_l_odd (hr.mono (by decide)) pass0 (pa_cons (pv 0) pa_nil)) (pa_cons (pe_fn G_l_odd (hr.mono (by decide)) pass0 (pa_cons (pv 0) pa_nil)) (pa_cons (pe_mf K_Amount1 (hr.mono (by decide)) pass0 (pa_cons pe_int pa_nil)) (pa_cons (pe_mf K_Amount2 (hr.mono (by decide)) pass0 (pa_cons (pe_un un_neg pe_int) (pa_cons pe_int pa_nil))) pa_nil))))) pa_nil))) (pa_cons pe_bl pa_nil)))))), ?_⟩
    refine ⟨_, rfl, p, 2, rfl, hp, by decide, by decide, fun H1 d b1 hp1 d0 d3 => ?_⟩
    refine ⟨rfl, _, rfl, iteB (fun c => ?_) (fun c => ?_)⟩
    · refine ⟨_, rfl, small (show 2 ≤ 100000 by decide), fun t nt => ?_⟩
      have s := same_upd (o := .tup [v0, V.bl false]) nt
      exact q _ t v0 false (b1.trans (But.of s)) (hp1.same s) upd_same (hp1.ne nt) (b1.free (hp1.ne nt) nt) (fun _ => rfl) (fun c => nomatch c)
    · refine ⟨_, rfl, _, rfl, p, rfl, hp1, fun H2 u2 b2 hp2 o2 => ⟨_, rfl, p, rfl, hp2, fun H3 u3 b3 hp3 o3 => ⟨2, rfl, by decide +kernel, fun H4 r4 s4 n4 a4 => ⟨_, rfl, -3, 4, rfl, by decide, by decide +kernel, by decide +kernel, fun H5 r5 s5 n5 a5 => ⟨small (show 4 ≤ 100000 by decide), fun l nl => ?_⟩⟩⟩⟩⟩
      have s6 := same_upd (o := .lst [u2, u3, V.ref r4, V.ref r5]) nl
      have hl : upd H5 l (.lst [u2, u3, V.ref r4, V.ref r5]) l = some (.lst [u2, u3, V.ref r4, V.ref r5]) := upd_same
      generalize upd H5 l (.lst [u2, u3, V.ref r4, V.ref r5]) = H6 at s6 hl
      have e4 : (lt (-3) 4, lb (-3) 4) = ((-3 : Int), (4 : Int)) := by decide +kernel
      rw [show lt (-3) 4 = -3 from congrArg Prod.fst e4, show lb (-3) 4 = 4 from congrArg Prod.snd e4] at a5
      have s36 := (s4.trans s5).trans s6
      have a4 := a4.same (s5.trans s6)
      have a5 := a5.same s6
      have o2 := o2.same (but_rsp (b3.trans (But.of s36)))
      have o3 := o3.same (rsp_same s36)
      have hp6 := hp3.same s36
      have b6 := (b1.trans b2).trans (b3.trans (But.of s36))
      have nlp : l ≠ p := (hp3.same (s4.trans s5)).ne nl
      have n4p : r4 ≠ p := hp3.ne n4
      have n5p : r5 ≠ p := (hp3.same s4).ne n5
      refine ⟨p, l, _, rfl, hp6, hl, (fun c => by cases c), (by show 4 ≤ 1000; decide), nlp, fun H7 v b7 hp7 mv => ⟨small (show 2 ≤ 100000 by decide), fun t nt => ?_⟩⟩
      have s8 := same_upd (o := .tup [v, V.bl true]) nt
      have ntp := hp7.ne nt
      have sR : Same (rsp p H6) (rsp p (upd H7 t (.tup [v, V.bl true]))) := but_rsp (b7.trans (But.of s8))
      refine q _ t v true ((b6.trans b7).trans (But.of s8)) (hp7.same s8) upd_same ntp ((b6.trans b7).free ntp nt) (fun c => nomatch c) fun _ => ?_
      simp only [List.mem_cons, List.not_mem_nil, or_false] at mv
      rcases mv with rfl | rfl | rfl | rfl
      · exact (o2.same sR).bad
      · exact (o3.same sR).bad
      · obtain ⟨dx, e⟩ := a4
        exact am_bad T TQ (t := 2) (b := 1) ⟨dx, sR _ _ (rsp_one e n4p)⟩ md2 md1 (by decide +kernel)
      · obtain ⟨dx, e⟩ := a5
        exact am_bad T TQ (t := -3) (b := 4) ⟨dx, sR _ _ (rsp_one e n5p)⟩ md3 md4 (by decide +kernel)
end
end K12

set_option Elab.async false
set_option linter.all false
set_option maxRecDepth 100000
set_option maxHeartbeats 4000000
/-! L12e: lambdas that are refused; Amounts made. -/
namespace K12
open PySem PySem.Spec PyProof.Rows L2 LL K11 W13
abbrev s_l_made_right : Stmt := top 33
abbrev n_l_made_right : List Str := ["_law_pot_here", "_law_above", "_law_is_odd", "_law_below", "_law_is_other", "_law_due"]
theorem sc_l_made_right : FnScope n_l_made_right ["_law_pot_here"] (defScope s_l_made_right) := ⟨rfl, rfl, rfl, by decide +kernel, rfl, by decide +kernel, by decide +kernel⟩
theorem ext_Z {Z G G' : Hp} (hz : ∀ b o, Z b = some o → ∀ ps, o ≠ .tbl ps) (s : Same Z G) (e : LamX.ExtN G G') : Same Z G' := fun b o h => e b o (s b o h) (hz b o h)
theorem PotAt.ext {H H' : Hp} {p : Addr} (h : PotAt H p) (s : LamX.ExtN H H') : PotAt H' p := let ⟨x, y, e, z⟩ := h; ⟨x, y, lst_ext e s, z⟩
theorem PotAt.kp {H H' : Hp} {p : Addr} (h : PotAt H p) (b : But p H H') : Kp H H' := let ⟨_, _, e, _⟩ := h; b.kp e
theorem new_Z {Z G : Hp} {a : Addr} (s : Same Z G) (n : G a = none) : Z a = none := by
  cases h : Z a with
  | none => rfl
  | some o => rw [s _ _ h] at n; cases n
theorem chg_Z {Z G : Hp} {a : Addr} {o : HO} (s : Same Z G) (n : Z a = none) : Same Z (upd G a o) := fun b x h => by
  rw [upd_ne fun c => by rw [c, n] at h; cases h]
  exact s b x h
/-- what a call is answered with -/
inductive Du | no | am (v : V) (t : Str) | ze
def Du.xs : Du → List V
  | .no => [.str "none"]
  | .am _ t => amS t
  | .ze => zeS
def Du.dat : Du → PyData
  | .no => .list [.str "none"]
  | .am _ t => .list [.str "amount", .str t, .bool true]
  | .ze => .list [.str "zero", .bool true]
section
variable {P : Program} {w : World} {K : PySem.W.Frag} {mg : Str → Option Value} {base : Heap} {C CF CB CA CZ CW : Addr} {f : Addr} {fd : FuncData}
def Du.Ok (K : PySem.W.Frag) (C CF : Addr) (Z : Hp) : Du → Prop
  | .am v t => Tl K C CF Z v t
  | _ => True
def Du.Tx : Du → Prop
  | .am _ t => PyData.strOk t = true
  | _ => True
theorem Du.Ok.same {Z Z' : Hp} {o : Du} (h : o.Ok K C CF Z) (s : Same Z Z') : o.Ok K C CF Z' := by
  cases o with
  | am v t => exact Tl.same (show Tl K C CF Z v t from h) s
  | no => trivial
  | ze => trivial
/-- what the body has to do -/
def Gd (CA CZ : Addr) (o : Du) (G : Hp) (R : VK) (E : XK) : Prop := match o with
  | .no => ∀ G' v, Same G G' → R v G'
  | .am v _ => ErF CA "value" G v E
  | .ze => ∀ G', Same G G' → E (.ref CZ) none G'
theorem tt_go {tl : XK → Hp → VK → Prop} {H : Hp} {Q : VK} (o : Du) (ok : o.Ok K C CF H) (h : ∀ G R E, Same H G → Gd CA CZ o G R E → tl E G R) (q : ∀ G a, Same H G → H a = none → G a = some (.lst o.xs) → Q (.ref a) G) : TTr K C CF CA CZ tl H Q := by
  intro t0 n0 R hR
  have s0 := same_upd (o := .lst [V.str "none"]) n0
  refine h _ R _ s0 ?_
  cases o with
  | no => exact fun G' v s => hR v G' (s _ _ upd_same) (q G' t0 (s0.trans s) n0 (s _ _ upd_same))
  | am v t => exact fun G' d s nd e => .inl ⟨v, d, t, rfl, rfl, e, Tl.same (show Tl K C CF H v t from ok) (s0.trans s), fun G2 l s2 nl hl => q G2 l ((s0.trans s).trans s2) ((s0.trans s).free nl) hl⟩
  | ze => exact fun G' s => .inr ⟨rfl, rfl, fun G2 l s2 nl hl => q G2 l ((s0.trans s).trans s2) ((s0.trans s).free nl) hl⟩
theorem lam_go {Tb : List (Addr × Str)} {t : XK → TE} {σ : L2.St} {H Z : Hp} {Q : VK} (hz : ∀ b o, Z b = some o → ∀ ps, o ≠ .tbl ps) (s : Same Z H) (tb : LamX.Tabs Tb H) (o : Du) (ok : o.Ok K C CF Z)
    (h : ∀ G R E, Same Z G → Gd CA CZ o G R E → t E σ G R) (q : ∀ G a, Same Z G → LamX.ExtN H G → LamX.Tabs Tb G → Z a = none → G a = some (.lst o.xs) → Q (.ref a) G) : LamX.tLam Tb (TTr K C CF CA CZ) t σ H Q := by
  refine ⟨tb, fun H1 e tb1 => ?_⟩
  have s1 := ext_Z hz s e
  exact tt_go o (ok.same s1) (fun G R E s2 g => h G R E (s1.trans s2) g) fun G a s2 na et => q G a (s1.trans s2) (e.trans (.of s2)) (tabs_same tb1 s2) (new_Z s1 na) et
theorem du_dp {H : Hp} {a : Addr} {o : Du} (h : H a = some (.lst o.xs)) : Dp K H (.ref a) o.dat := by
  cases o with
  | no => exact .lst (SqL.of h) (.cons (.str _) .nil)
  | am v t => exact .lst (SqL.of h) (.cons (.str _) (.cons (.str _) (.cons (.bl _) .nil)))
  | ze => exact .lst (SqL.of h) (.cons (.str _) (.cons (.bl _) .nil))
theorem du_lay {o : Du} (h : o.Tx) : PyData.canLay0 o.dat = true := by
  cases o with
  | no => decide +kernel
  | am v t =>
    have h : PyData.strOk t = true := h
    have h2 : PyData.strOk ("amount" : Str) = true := by decide +kernel
    simp [Du.dat, PyData.canLay0, PyData.canLayAll0, h, h2]
  | ze => decide +kernel
theorem du_shp {o : Du} (h : o.Tx) : SeqAt.shaped o.dat = true := by
  have := du_lay h
  unfold SeqAt.shaped
  rw [this]
  cases o <;> rfl
theorem du_eq {o : Du} (h : o.Tx) : PyData.eqv o.dat o.dat = true := SeqAt.eqv_refl _ (du_lay h)
def lamM : Str := (envOfC "_law_made_right" (defScope s_l_made_right) 0 0 .none).qual ++ "<lambda>"
def spMade (Tb : List (Addr × Str)) : Sp := fun vs H Q _ => ∃ p, vs = [.ref p] ∧ PotAt H p ∧ LamX.Tabs Tb H ∧ ∀ H', ButN p H H' → PotAt H' p → LamX.Tabs Tb H' → Q (.bl true) H'
theorem ok_l_made_right {Tb : List (Addr × Str)} (T : Ty K mg C CF) (G_l_digit : Fnc P w K mg base CX0 1 "_law_digit" [] spDigit) (G_l_pick : Fnc P w K mg base CX0 2 "_law_pick" [] spPick) (G_l_part : Fnc P w K mg base CX0 10 "_law_part" [] (spPart K C CF)) (G_l_refused : LN.Taker P w K mg base 14 "_law_refused" "_law_call" (TTr K C CF CA CZ))
    (S_arepr : SpF P w K mg base CX0 1 C "__repr__" (spShow C repS)) (S_frepr : SpF P w K mg base CX0 7 CF "__repr__" (spFShow C CF formR)) (X_Amount2 : Mkf P w K mg base (L2N.CX P w) 3 "Amount" (fun vs H Q E => spMkA2 C vs H Q E ∨ spMkX2 K CA vs H Q E))
    (F : FD K "_law_made_right" "_law_made_right" s_l_made_right [] f fd) (TB : LamX.TabB base mg (cOf K f) (tOf K f)) (hmT : (tOf K f, lamM) ∈ Tb) (huT : ∀ p ∈ Tb, p.1 = tOf K f → p.2 = lamM) :
    FnG P w K mg base CX0 16 f fd ["_law_pot_here"] (spMade Tb) := by
  refine okC F sc_l_made_right (fun vs H Q E h => ?_) (fun cdv ec A outer s H vs Q E hr h => ?_)
  · obtain ⟨p, rfl, _⟩ := h
    rfl
  · obtain ⟨p, rfl, hp, tb, q⟩ := h
    have ecd : cdv = .ref (cOf K f) := Option.some.inj (ec.symm.trans (code_ref F))
    subst ecd
    have hcode : (cxOf CX0 P w K mg base n_l_made_right "_law_made_right" (defScope s_l_made_right) f (.ref (cOf K f)) A outer s H E).nox.env.code = .ref (cOf K f) := rfl
    refine ⟨_, (pss_cons (ps_asg (pe_fn G_l_part (hr.mono (by decide)) pass0 (pa_cons (pv 0) (pa_cons (pe_op op_sub (pe_fn G_l_digit (hr.mono (by decide)) pass0 (pa_cons (pv 0) (pa_cons pe_int pa_nil))) pe_int) pa_nil))) (pg_tup rfl (pgs_cons (pg_name (i := 1) sc_l_made_right.nd rfl (by first | exact Or.inl rfl | exact Or.inr rfl)) (pgs_cons (pg_name (i := 2) sc_l_made_right.nd rfl (by first | exact Or.inl rfl | exact Or.inr rfl)) pgs_nil))))
      (pss_cons (ps_asg (pe_fn G_l_part (hr.mono (by decide)) pass0 (pa_cons (pv 0) (pa_cons (pe_fn G_l_pick (hr.mono (by decide)) pass0 (pa_cons (pv 0) (pa_cons (pe_lst (pa_cons pe_int (pa_cons pe_int (pa_cons (pe_un un_neg pe_int) pa_nil)))) pa_nil))) pa_nil))) (pg_tup rfl (pgs_cons (pg_name (i := 3) sc_l_made_right.nd rfl (by first | exact Or.inl rfl | exact Or.inr rfl)) (pgs_cons (pg_name (i := 4) sc_l_made_right.nd rfl (by first | exact Or.inl rfl | exact Or.inr rfl)) pgs_nil))))
      (pss_cons (ps_set (i := 5) sc_l_made_right.nd rfl (by first | exact Or.inl rfl | exact Or.inr rfl) (pe_lst (pa_cons pe_str pa_nil)))
      (pss_cons (ps_if (pt_val (pv 2)) (pss_one (ps_set (i := 5) sc_l_made_right.nd rfl (by first | exact Or.inl rfl | exact Or.inr rfl) (pe_lst (pa_cons pe_str (pa_cons (pe_callB (call_tell (k := 0) ⟨rfl, rfl, rfl, rfl, rfl⟩ (hr.g (by decide)) (hr.mono (by decide)) S_arepr S_frepr) (by rfl) T.n_repr (by decide +kernel) (pa_cons (pv 1) pa_nil)) (pa_cons pe_bl pa_nil)))))) (pss_one (ps_if (PW.pt (pw_or (pt_val (pv 4)) (pw_or1 (pt_cmpR op_eq (pv 3) pe_int (nomark _))))) (pss_one (ps_set (i := 5) sc_l_made_right.nd rfl (by first | exact Or.inl rfl | exact Or.inr rfl) (pe_lst (pa_cons pe_str (pa_cons (pe_callB (call_tell (k := 0) ⟨rfl, rfl, rfl, rfl, rfl⟩ (hr.g (by decide)) (hr.mono (by decide)) S_arepr S_frepr) (by rfl) T.n_repr (by decide +kernel) (pa_cons (pv 3) pa_nil)) (pa_cons pe_bl pa_nil)))))) pss_nil)))
      (pss_one (ps_ret (pe_cmpR (op_eqD hr.r.units) (LN.pe_lamG G_l_refused TB hcode hmT huT (hr.mono (by decide)) (LamX.lamS_by (sc := defScope s_l_made_right) (by decide +kernel)) (fun _ _ _ _ _ _ _ hr => (pe_mf X_Amount2 (hr.mono (by decide)) (L2N.passes_call (L2N.takes_of rfl rfl rfl rfl) (fun _ _ _ _ h => h)) (pa_cons (pv 1) (pa_cons (pv 3) pa_nil))))) (pv 5) (nomark _)))))))), ?_⟩
    refine ⟨_, rfl, _, rfl, p, 99, rfl, hp, by decide, by decide, fun H1 d b1 hp1 d0 d9 => ⟨_, _, rfl, rfl, p, .int (d - 40), rfl, hp1, fun H2 t1 v1 o1 b2 hp2 ht1 nt1 _ g1 w1 => ?_⟩⟩
    refine ⟨t1, _, rfl, SqT.of ht1, rfl, _, _, rfl, _, _, rfl, rfl, ?_⟩
    refine nx_of ?_
    refine ⟨_, rfl, _, rfl, _, rfl, small (show 3 ≤ 100000 by decide), fun l nl => ?_⟩
    have s3 := same_upd (o := .lst [V.int 0, V.int 1, V.int (-6)]) nl
    have hl : upd H2 l (.lst [V.int 0, V.int 1, V.int (-6)]) l = some (.lst [V.int 0, V.int 1, V.int (-6)]) := upd_same
    have nlp := hp2.ne nl
    generalize upd H2 l (.lst [V.int 0, V.int 1, V.int (-6)]) = H3 at s3 hl ⊢
    have hp3 := hp2.same s3
    refine ⟨p, l, _, rfl, hp3, hl, (fun c => by cases c), (by show 3 ≤ 1000; decide), nlp, fun H4 u0 b4 hp4 mu => ⟨p, u0, rfl, hp4, fun H5 t2 v2 o2 b5 hp5 ht2 nt2 _ g2 w2 => ?_⟩⟩
    refine ⟨t2, _, rfl, SqT.of ht2, rfl, _, _, rfl, _, _, rfl, rfl, ?_⟩
    refine nx_of ?_
    have B5 : But p H H5 := ((b1.trans b2).trans (But.of s3)).trans (b4.trans b5)
    have tb5 := tabs_kp tb (hp.kp B5)
    have w1' : o1 = true → Bad K C CF (rsp p H5) v1 := fun c => (w1 c).same (but_rsp ((But.of s3).trans (b4.trans b5)))
    have hz : ∀ b o, rsp p H5 b = some o → ∀ ps, o ≠ .tbl ps := fun b o e => (rsp_out e).2.2
    have sZ : Same (rsp p H5) H5 := rsp_le
    have fin : ∀ G, Same (rsp p H5) G → PotAt G p → LamX.Tabs Tb G → Q (.bl true) G := fun G s hpG tbG => q G ((ButN.of B5).trans fun b o e n t => s _ _ (rsp_one e n t)) hpG tbG
    generalize rsp p H5 = Z at w1' w2 hz sZ fin
    refine ⟨small (show 1 ≤ 100000 by decide), fun l0 n0 => ?_⟩
    have s6 := same_upd (o := .lst [V.str "none"]) n0
    have h6 : upd H5 l0 (.lst [V.str "none"]) l0 = some (.lst Du.no.xs) := upd_same
    generalize upd H5 l0 (.lst [V.str "none"]) = H6 at s6 h6
    have hp6 := hp5.same s6
    have tb6 := tabs_same tb5 s6
    have s06 := sZ.trans s6
    refine nm_of ?_
    dsimp only
    have n1Z : ∀ {G : Hp} {a : Addr}, Same Z G → G a = none → Z a = none := new_Z
    refine seq_cut (fun σ G => ∃ (o : Du) (l1 : Addr), Same Z G ∧ PotAt G p ∧ LamX.Tabs Tb G ∧ o.Ok K C CF Z ∧ o.Tx ∧ G l1 = some (.lst o.xs) ∧ Same Z G ∧ σ = [some (.ref p), some v1, some (.bl o1), some v2, some (.bl o2), some (.ref l1)] ∧
      ∀ G2 (R : VK) (E : XK), Same Z G2 → Gd CA CZ o G2 R E → (fun vs H Q E => spMkA2 C vs H Q E ∨ spMkX2 K CA vs H Q E) [v1, v2] G2 R E) (fun N hN => ?_) ?_
    · have md : ∀ {v : V}, Bad K C CF Z v → ∃ tx, Tl K C CF Z v tx ∧ PyData.strOk tx = true := fun b => b.tl
      have put : ∀ (v : V) (tx : Str) (N2 : L2.St → Hp → Prop) (σ : L2.St) (i : Nat), σ[i]? = some (some v) → Tl K C CF Z v tx → PyData.strOk tx = true → σ = [some (.ref p), some v1, some (.bl o1), some v2, some (.bl o2), some (.ref l0)] → (∀ σ' G, (∃ l1 : Addr, Same Z G ∧ PotAt G p ∧ LamX.Tabs Tb G ∧ G l1 = some (.lst (amS tx)) ∧ σ' = [some (.ref p), some v1, some (.bl o1), some v2, some (.bl o2), some (.ref l1)]) → N2 σ' G) →
          tAsg (tLst (tCons (tC (V.str "amount")) (tCons (tCB (rTell K C CF) (tCons (tVar i) tNil)) (tCons (tC (V.bl true)) tNil)))) (gName 5) ({ nx := N2, rt := Q } : Ends) σ H6 := by
        intro v tx N2 σ i e tl so es hN2
        refine ⟨_, e, v, tx, rfl, tl.same s06, fun H7 s7 => ⟨small (show 3 ≤ 100000 by decide), fun l1 n1 => ?_⟩⟩
        have s8 := same_upd (o := .lst [V.str "amount", V.str tx, V.bl true]) n1
        subst es
        exact hN2 _ _ ⟨l1, (s06.trans s7).trans s8, (hp6.same s7).same s8, tabs_same (tabs_same tb6 s7) s8, upd_same, rfl⟩
      cases o1 with
      | true =>
        obtain ⟨no, tx, tl, so⟩ := w1' rfl
        refine ⟨_, rfl, _, rfl, iteT (put v1 tx N _ 1 rfl tl so rfl fun σ' G ⟨l1, a, b, c, d, e⟩ => hN _ _ ⟨.am v1 tx, l1, a, b, c, tl, so, d, a, e, fun G2 R E s2 er => .inr ⟨v1, v2, v1, rfl, .inl ⟨no.same s2, rfl⟩, er⟩⟩)⟩
      | false =>
        obtain rfl := g1 rfl
        refine ⟨_, rfl, _, rfl, iteF ?_⟩
        cases o2 with
        | true =>
          obtain ⟨no, tx, tl, so⟩ := w2 rfl
          refine ⟨_, rfl, _, rfl, iteT (iteT (put v2 tx N _ 3 rfl tl so rfl fun σ' G ⟨l1, a, b, c, d9, e⟩ => hN _ _ ⟨.am v2 tx, l1, a, b, c, tl, so, d9, a, e, fun G2 R E s2 er => .inr ⟨_, v2, v2, rfl, .inr ⟨_, rfl, .inl ⟨no.same s2, rfl⟩⟩, er⟩⟩))⟩
        | false =>
          obtain rfl := g2 rfl
          refine ⟨_, rfl, _, rfl, iteF ?_⟩
          have fine : ∀ y : Int, v2 = .int y → y ≠ 0 → y.natAbs < 2 ^ 4000 → N [some (.ref p), some (.int (d - 40)), some (.bl false), some v2, some (.bl false), some (.ref l0)] H6 := fun y ey ny by_ => hN _ _ ⟨.no, l0, s06, hp6, tb6, trivial, trivial, h6, s06, rfl, fun G2 R E s2 g => .inl ⟨d - 40, y, by rw [ey], ny, Nat.lt_of_le_of_lt (show (d - 40).natAbs ≤ 100 by omega) (Nat.lt_of_lt_of_le (show 100 < 2 ^ 7 by decide) (Nat.pow_le_pow_right (by decide) (by decide))), by_, fun H' p9 s9 _ _ => g H' _ s9⟩⟩
          simp only [List.mem_cons, List.not_mem_nil, or_false] at mu
          rcases mu with rfl | rfl | rfl
          · refine ⟨_, rfl, rfl, _, rfl, iteY (dec_eq rfl) (put (.int 0) _ N _ 3 rfl (.dat (.q (.dat (.int 0) (by show Nat.log2 _ < 1920; decide +kernel) (by decide +kernel) (by decide +kernel)))) (by decide +kernel) rfl fun σ' G ⟨l1, a, b, c, d9, e⟩ => hN _ _ ⟨.am (.int 0) _, l1, a, b, c, .dat (.q (.dat (.int 0) (by show Nat.log2 _ < 1920; decide +kernel) (by decide +kernel) (by decide +kernel))), (by show PyData.strOk (PyData.shown (.int 0)) = true; decide +kernel), d9, a, e, fun G2 R E s2 er => .inr ⟨_, _, _, rfl, .inr ⟨_, rfl, .inr ⟨rfl, rfl⟩⟩, er⟩⟩)⟩
          · exact ⟨_, rfl, rfl, _, rfl, iteN (dec_ne (by decide)) (fine 1 rfl (by decide) (by decide +kernel))⟩
          · exact ⟨_, rfl, rfl, _, rfl, iteN (dec_ne (by decide)) (fine (-6) rfl (by decide) (by decide +kernel))⟩
    · rintro σ G ⟨o, l1, sG, hpG, tbG, ok, tx, hl1, _, rfl, go⟩
      refine lam_go hz sG tbG o ok (fun G2 R E s2 g => ⟨_, rfl, _, rfl, go G2 R E s2 g⟩) (fun G3 a s3 e3 tb3 _ ha => ⟨_, rfl, o.dat, o.dat, du_dp ha, du_dp (lst_ext hl1 e3), du_shp tx, du_shp tx, ?_⟩)
      rw [du_eq tx]
      exact fin G3 s3 (hpG.ext e3) tb3
end
end K12

set_option Elab.async false
set_option linter.all false
set_option maxRecDepth 100000
set_option maxHeartbeats 4000000
/-! L12f: operators that are refused. -/
namespace K12
open PySem PySem.Spec PyProof.Rows L2 LL K11 W13
abbrev s_l_signs_right : Stmt := top 34
abbrev n_l_signs_right : List Str := ["_law_pot_here", "_law_amount", "_law_odd_here", "_law_due", "_law_told"]
theorem sc_l_signs_right : FnScope n_l_signs_right ["_law_pot_here", "_law_amount"] (defScope s_l_signs_right) := ⟨rfl, rfl, rfl, by decide +kernel, rfl, by decide +kernel, by decide +kernel⟩
section
variable {P : Program} {w : World} {K : PySem.W.Frag} {mg : Str → Option Value} {base : Heap} {C CF CB CA CZ CW : Addr} {f : Addr} {fd : FuncData}
theorem kp_chg {G : Hp} {l : Addr} {xs ys : List V} (h : G l = some (.lst xs)) : Kp G (upd G l (.lst ys)) := fun b o e n => by
  rw [upd_ne fun c => by rw [c, h] at e; cases e; exact n _ rfl]
  exact e
theorem PotAt.chg {G : Hp} {p l : Addr} {ys : List V} (h : PotAt G p) (n : l ≠ p) : PotAt (L2.upd G l (.lst ys)) p := let ⟨x, y, e, z⟩ := h; ⟨x, y, by rw [upd_ne n.symm]; exact e, z⟩
structure St (Z : Hp) (Tb : List (Addr × Str)) (p l3 l4 : Addr) (o : Du) (rs : List V) (G : Hp) : Prop where
  s : Same Z G
  hp : PotAt G p
  tb : LamX.Tabs Tb G
  due : G l3 = some (.lst o.xs)
  told : G l4 = some (.lst rs)
  all : ∀ x ∈ rs, ∃ a, x = V.ref a ∧ G a = some (.lst o.xs)
  z : Z l4 = none
  n : l4 ≠ p
theorem xs_str (o : Du) : ∃ s l, o.xs = V.str s :: l := by cases o <;> exact ⟨_, _, rfl⟩
theorem St.ne {Z G : Hp} {Tb : List (Addr × Str)} {p l3 l4 a : Addr} {o : Du} {rs : List V} (h : St Z Tb p l3 l4 o rs G) (e : G a = some (.lst o.xs)) : a ≠ l4 := fun c => by
  rw [c, h.told] at e
  cases e
  obtain ⟨s, l, e⟩ := xs_str o
  obtain ⟨a, ea, _⟩ := h.all (V.str s) (by rw [e]; exact List.mem_cons_self ..)
  cases ea
theorem sg_step {Z G : Hp} {Tb : List (Addr × Str)} {p l3 l4 : Addr} {v : V} {tx : Str} {rs : List V} {te : XK → TE} {σ : L2.St} {N : L2.St → Hp → Prop} {rt : VK} (hz : ∀ b o, Z b = some o → ∀ ps, o ≠ .tbl ps) (h : St Z Tb p l3 l4 (.am v tx) rs G) (ok : Tl K C CF Z v tx) (l : rs.length ≤ 10) (es : σ[4]? = some (some (.ref l4)))
    (body : ∀ G R E, Same Z G → ErF CA "value" G v E → te E σ G R) (q : ∀ G a, St Z Tb p l3 l4 (.am v tx) (rs ++ [V.ref a]) G → N σ G) :
    tDrop (tBM K "list" rAppend (tVar 4) (tCons (LamX.tLam Tb (TTr K C CF CA CZ) te) tNil)) ({ nx := N, rt := rt } : Ends) σ G := by
  refine ⟨_, es, (.inl ⟨rfl, _, SqL.of h.told⟩), ?_⟩
  refine lam_go hz h.s h.tb (.am v tx) ok (fun G R E s g => body G R E s g) (fun G9 a s9 e9 tb9 na ha => ?_)
  have t9 := lst_ext h.told e9
  refine ⟨l4, _, _, rfl, rfl, t9, small (show _ ≤ 100000 by simp; omega), ?_⟩
  have h9 : St Z Tb p l3 l4 (.am v tx) rs G9 := ⟨s9, h.hp.ext e9, tb9, lst_ext h.due e9, t9, fun x m => let ⟨b, e, z⟩ := h.all x m; ⟨b, e, lst_ext z e9⟩, h.z, h.n⟩
  refine q _ a ⟨chg_Z s9 h.z, h9.hp.chg h.n, tabs_kp tb9 (kp_chg t9), ?_, upd_same, fun x m => ?_, h.z, h.n⟩
  · rw [upd_ne (h9.ne h9.due)]
    exact h9.due
  · rcases List.mem_append.mp m with m | m
    · obtain ⟨b, e, z⟩ := h9.all x m
      exact ⟨b, e, by rw [upd_ne (h9.ne z)]; exact z⟩
    · exact ⟨a, List.mem_singleton.mp m, by rw [upd_ne (h9.ne ha)]; exact ha⟩
def lamS : Str := (envOfC "_law_signs_right" (defScope s_l_signs_right) 0 0 .none).qual ++ "<lambda>"
def spSigns (C : Addr) (Tb : List (Addr × Str)) : Sp := fun vs H Q _ => ∃ p r t b, vs = [.ref p, .ref r] ∧ PotAt H p ∧ AmtAt C H r t b ∧ LamX.Tabs Tb H ∧ ∀ H', ButN p H H' → PotAt H' p → LamX.Tabs Tb H' → Q (.bl true) H'
theorem ok_l_signs_right {Tb : List (Addr × Str)} (T : Ty K mg C CF) (G_l_odd : Fnc P w K mg base CX0 9 "_law_odd" [] (spOdd K C CF)) (G_l_refused : LN.Taker P w K mg base 14 "_law_refused" "_law_call" (TTr K C CF CA CZ))
    (S_arepr : SpF P w K mg base CX0 1 C "__repr__" (spShow C repS)) (S_frepr : SpF P w K mg base CX0 7 CF "__repr__" (spFShow C CF formR)) (OX_add : OpX P w K mg base C CF CA .Add) (OX_sub : OpX P w K mg base C CF CA .Sub) (OX_mul : OpX P w K mg base C CF CA .Mult)
    (M_over : Mth P w K mg base (L2N.CX P w) 6 C "over" [] (spOverX K C CA CZ)) (M_below : Mth P w K mg base (L2N.CX P w) 6 C "below" [] (spOpX K C CA))
    (F : FD K "_law_signs_right" "_law_signs_right" s_l_signs_right [] f fd) (TB : LamX.TabB base mg (cOf K f) (tOf K f)) (hmT : (tOf K f, lamS) ∈ Tb) (huT : ∀ p ∈ Tb, p.1 = tOf K f → p.2 = lamS) :
    FnG P w K mg base CX0 16 f fd ["_law_pot_here", "_law_amount"] (spSigns C Tb) := by
  refine okC F sc_l_signs_right (fun vs H Q E h => ?_) (fun cdv ec A outer s H vs Q E hr h => ?_)
  · obtain ⟨p, r, t, b, rfl, _⟩ := h
    rfl
  · obtain ⟨p, r, t, b, rfl, hp, am, tb, q⟩ := h
    have ecd : cdv = .ref (cOf K f) := Option.some.inj (ec.symm.trans (code_ref F))
    subst ecd
    have hcode : (cxOf CX0 P w K mg base n_l_signs_right "_law_signs_right" (defScope s_l_signs_right) f (.ref (cOf K f)) A outer s H E).nox.env.code = .ref (cOf K f) := rfl
    refine ⟨_, (pss_cons (ps_set (i := 2) sc_l_signs_right.nd rfl (by first | exact Or.inl rfl | exact Or.inr rfl) (pe_fn G_l_odd (hr.mono (by decide)) pass0 (pa_cons (pv 0) pa_nil)))
      (pss_cons (ps_set (i := 3) sc_l_signs_right.nd rfl (by first | exact Or.inl rfl | exact Or.inr rfl) (pe_lst (pa_cons pe_str (pa_cons (pe_callB (call_tell (k := 0) ⟨rfl, rfl, rfl, rfl, rfl⟩ (hr.g (by decide)) (hr.mono (by decide)) S_arepr S_frepr) (by rfl) T.n_repr (by decide +kernel) (pa_cons (pv 2) pa_nil)) (pa_cons pe_bl pa_nil)))))
      (pss_cons (ps_set (i := 4) sc_l_signs_right.nd rfl (by first | exact Or.inl rfl | exact Or.inr rfl) (pe_lst (pa_cons (LN.pe_lamG G_l_refused TB hcode hmT huT (hr.mono (by decide)) (LamX.lamS_by (sc := defScope s_l_signs_right) (by decide +kernel)) (fun _ _ _ _ _ _ _ hr => (pe_op (op_odd ⟨rfl, rfl, rfl, rfl, rfl⟩ OX_add (hr.mono (by decide)) (L2N.passes_call (L2N.takes_of rfl rfl rfl rfl) (fun _ _ _ _ h => h))) (pv 1) (pv 2)))) pa_nil)))
      (pss_cons (ps_expr (pe_bm PySem.F.plainAttrs_list PySem.F.slot_list_append PySem.F.type_list_append mt_append (pv 4) (pa_cons (LN.pe_lamG G_l_refused TB hcode hmT huT (hr.mono (by decide)) (LamX.lamS_by (sc := defScope s_l_signs_right) (by decide +kernel)) (fun _ _ _ _ _ _ _ hr => (pe_op (op_odd ⟨rfl, rfl, rfl, rfl, rfl⟩ OX_sub (hr.mono (by decide)) (L2N.passes_call (L2N.takes_of rfl rfl rfl rfl) (fun _ _ _ _ h => h))) (pv 1) (pv 2)))) pa_nil)))
      (pss_cons (ps_expr (pe_bm PySem.F.plainAttrs_list PySem.F.slot_list_append PySem.F.type_list_append mt_append (pv 4) (pa_cons (LN.pe_lamG G_l_refused TB hcode hmT huT (hr.mono (by decide)) (LamX.lamS_by (sc := defScope s_l_signs_right) (by decide +kernel)) (fun _ _ _ _ _ _ _ hr => (pe_op (op_odd ⟨rfl, rfl, rfl, rfl, rfl⟩ OX_mul (hr.mono (by decide)) (L2N.passes_call (L2N.takes_of rfl rfl rfl rfl) (fun _ _ _ _ h => h))) (pv 1) (pv 2)))) pa_nil)))
      (pss_cons (ps_expr (pe_bm PySem.F.plainAttrs_list PySem.F.slot_list_append PySem.F.type_list_append mt_append (pv 4) (pa_cons (LN.pe_lamG G_l_refused TB hcode hmT huT (hr.mono (by decide)) (LamX.lamS_by (sc := defScope s_l_signs_right) (by decide +kernel)) (fun _ _ _ _ _ _ _ hr => (pe_mt M_over (hr.mono (by decide)) (L2N.passes_call (L2N.takes_of rfl rfl rfl rfl) (fun _ _ _ _ h => h)) (pv 1) (pa_cons (pv 2) pa_nil)))) pa_nil)))
      (pss_cons (ps_expr (pe_bm PySem.F.plainAttrs_list PySem.F.slot_list_append PySem.F.type_list_append mt_append (pv 4) (pa_cons (LN.pe_lamG G_l_refused TB hcode hmT huT (hr.mono (by decide)) (LamX.lamS_by (sc := defScope s_l_signs_right) (by decide +kernel)) (fun _ _ _ _ _ _ _ hr => (pe_mt M_below (hr.mono (by decide)) (L2N.passes_call (L2N.takes_of rfl rfl rfl rfl) (fun _ _ _ _ h => h)) (pv 1) (pa_cons (pv 2) pa_nil)))) pa_nil)))
      (pss_one (ps_ret (pe_cmpR (op_eqD hr.r.units) (pv 4) (pe_op op_rep (pe_lst (pa_cons (pv 3) pa_nil)) pe_int) (nomark _))))))))))), ?_⟩
    refine ⟨_, rfl, p, rfl, hp, fun H1 v b1 hp1 od => ?_⟩
    have tb1 := tabs_kp tb (hp.kp b1)
    have am1 : AmtAt C (rsp p H1) r t b := by
      obtain ⟨dx, e⟩ := am
      have n : r ≠ p := fun c => by
        obtain ⟨x, y, e2, _⟩ := hp
        rw [c, e2] at e
        cases e
      exact ⟨dx, rsp_one (b1 _ _ e n) n⟩
    have hz : ∀ b o, rsp p H1 b = some o → ∀ ps, o ≠ .tbl ps := fun b o e => (rsp_out e).2.2
    have sZ : Same (rsp p H1) H1 := rsp_le
    have fin : ∀ G, Same (rsp p H1) G → PotAt G p → LamX.Tabs Tb G → Q (.bl true) G := fun G s hpG tbG => q G ((ButN.of b1).trans fun b o e n t => s _ _ (rsp_one e n t)) hpG tbG
    generalize rsp p H1 = Z at od am1 hz sZ fin
    obtain ⟨tx, tl, so⟩ := od.tl
    have na := od.na
    have kd := od.kd
    refine ⟨_, rfl, v, tx, rfl, tl.same sZ, fun H2 s2 => ⟨small (show 3 ≤ 100000 by decide), fun l3 n3 => ?_⟩⟩
    have s3 := same_upd (o := .lst [V.str "amount", V.str tx, V.bl true]) n3
    have h3 : upd H2 l3 (.lst [V.str "amount", V.str tx, V.bl true]) l3 = some (.lst (Du.am v tx).xs) := upd_same
    generalize upd H2 l3 (.lst [V.str "amount", V.str tx, V.bl true]) = H3 at s3 h3
    have s03 := (sZ.trans s2).trans s3
    have hp3 := (hp1.same s2).same s3
    have tb3 := tabs_same (tabs_same tb1 s2) s3
    refine nm_of ?_
    dsimp only
    have opr : ∀ G (R : VK) (E : XK), Same Z G → ErF CA "value" G v E → rOdd K C CF CA E (.ref r) v G R := fun G R E s er => ⟨r, t, b, rfl, am1.same s, na.same s, kd.same s, er⟩
    refine lam_go hz s03 tb3 (.am v tx) tl (fun G R E s g => ⟨_, rfl, _, rfl, opr G R E s g⟩) (fun G9 a s9 e9 tb9 na9 ha => ?_)
    refine ⟨small (show 1 ≤ 100000 by decide), fun l4 n4 => ?_⟩
    have s10 := same_upd (o := .lst [V.ref a]) n4
    have st : St Z Tb p l3 l4 (.am v tx) [V.ref a] (upd G9 l4 (.lst [V.ref a])) := ⟨s9.trans s10, (hp3.ext e9).same s10, tabs_same tb9 s10, s10 _ _ (lst_ext h3 e9), upd_same, fun x m => ⟨a, List.mem_singleton.mp m, s10 _ _ ha⟩, new_Z s9 n4, (hp3.ext e9).ne n4⟩
    generalize upd G9 l4 (.lst [V.ref a]) = GA at st
    refine nm_of ?_
    dsimp only
    refine seq_cut (fun σ G => σ = [some (.ref p), some (.ref r), some v, some (.ref l3), some (.ref l4)] ∧ ∃ a1, St Z Tb p l3 l4 (.am v tx) ([V.ref a] ++ [V.ref a1]) G) (fun N hN => ?_) ?_
    · exact sg_step hz st tl (by simp) rfl (fun G R E s g => ⟨_, rfl, _, rfl, opr G R E s g⟩) fun G a2 s => hN _ _ ⟨rfl, a2, s⟩
    rintro σ G ⟨rfl, a1, st⟩
    refine seq_cut (fun σ G => σ = [some (.ref p), some (.ref r), some v, some (.ref l3), some (.ref l4)] ∧ ∃ a2, St Z Tb p l3 l4 (.am v tx) ([V.ref a] ++ [V.ref a1] ++ [V.ref a2]) G) (fun N hN => ?_) ?_
    · exact sg_step hz st tl (by simp) rfl (fun G R E s g => ⟨_, rfl, _, rfl, opr G R E s g⟩) fun G a2 s => hN _ _ ⟨rfl, a2, s⟩
    rintro σ G ⟨rfl, a2, st⟩
    refine seq_cut (fun σ G => σ = [some (.ref p), some (.ref r), some v, some (.ref l3), some (.ref l4)] ∧ ∃ a3, St Z Tb p l3 l4 (.am v tx) ([V.ref a] ++ [V.ref a1] ++ [V.ref a2] ++ [V.ref a3]) G) (fun N hN => ?_) ?_
    · refine sg_step hz st tl (by simp) rfl (fun G R E s g => ?_) fun G a2 s => hN _ _ ⟨rfl, a2, s⟩
      obtain ⟨dx, ha⟩ := am1.same s
      exact ⟨_, rfl, r, dx, _, rfl, ha, look_no t b (by decide +kernel) (by decide +kernel), _, rfl, r, v, rfl, .inl ⟨na.same s, g⟩⟩
    rintro σ G ⟨rfl, a3, st⟩
    refine seq_cut (fun σ G => σ = [some (.ref p), some (.ref r), some v, some (.ref l3), some (.ref l4)] ∧ ∃ a4, St Z Tb p l3 l4 (.am v tx) ([V.ref a] ++ [V.ref a1] ++ [V.ref a2] ++ [V.ref a3] ++ [V.ref a4]) G) (fun N hN => ?_) ?_
    · refine sg_step hz st tl (by simp) rfl (fun G R E s g => ?_) fun G a2 s => hN _ _ ⟨rfl, a2, s⟩
      obtain ⟨dx, ha⟩ := am1.same s
      exact ⟨_, rfl, r, dx, _, rfl, ha, look_no t b (by decide +kernel) (by decide +kernel), _, rfl, r, v, rfl, na.same s, g⟩
    rintro σ G ⟨rfl, a4, st⟩
    refine ⟨_, rfl, _, rfl, small (show 1 ≤ 100000 by decide), fun l5 n5 => ?_⟩
    have s5 := same_upd (o := .lst [V.ref l3]) n5
    have h5 : upd G l5 (.lst [V.ref l3]) l5 = some (.lst [V.ref l3]) := upd_same
    generalize upd G l5 (.lst [V.ref l3]) = G5 at s5 h5
    refine ⟨l5, 5, _, rfl, rfl, h5, by decide, by decide, small (show 5 ≤ 100000 by decide), fun l6 n6 => ?_⟩
    rw [show (List.replicate (Int.toNat 5) [V.ref l3]).flatten = [V.ref l3, V.ref l3, V.ref l3, V.ref l3, V.ref l3] from rfl]
    have s6 := same_upd (o := .lst [V.ref l3, V.ref l3, V.ref l3, V.ref l3, V.ref l3]) n6
    have h6 : upd G5 l6 (.lst [V.ref l3, V.ref l3, V.ref l3, V.ref l3, V.ref l3]) l6 = some (.lst [V.ref l3, V.ref l3, V.ref l3, V.ref l3, V.ref l3]) := upd_same
    have d6 := s6 _ _ (s5 _ _ st.due)
    have t6 := s6 _ _ (s5 _ _ st.told)
    have a6 : ∀ x ∈ ([V.ref a] ++ [V.ref a1] ++ [V.ref a2] ++ [V.ref a3] ++ [V.ref a4] : List V), ∃ b, x = V.ref b ∧ upd G5 l6 (.lst [V.ref l3, V.ref l3, V.ref l3, V.ref l3, V.ref l3]) b = some (.lst (Du.am v tx).xs) := fun x m => let ⟨b, e, z⟩ := st.all x m; ⟨b, e, s6 _ _ (s5 _ _ z)⟩
    have hp6 := (st.hp.same s5).same s6
    have tb6 := tabs_same (tabs_same st.tb s5) s6
    have s66 := (st.s.trans s5).trans s6
    generalize upd G5 l6 (.lst [V.ref l3, V.ref l3, V.ref l3, V.ref l3, V.ref l3]) = G6 at h6 d6 t6 a6 hp6 tb6 s66
    have dp : ∀ x ∈ ([V.ref a] ++ [V.ref a1] ++ [V.ref a2] ++ [V.ref a3] ++ [V.ref a4] : List V), Dp K G6 x (Du.am v tx).dat := fun x m => by
      obtain ⟨b, rfl, z⟩ := a6 x m
      exact du_dp z
    have dd := du_dp (K := K) d6
    have five : PyData.canLay0 (.list [(Du.am v tx).dat, (Du.am v tx).dat, (Du.am v tx).dat, (Du.am v tx).dat, (Du.am v tx).dat]) = true := by
      have := du_lay (o := .am v tx) so
      simp [PyData.canLay0, PyData.canLayAll0, this]
    have shp : SeqAt.shaped (.list [(Du.am v tx).dat, (Du.am v tx).dat, (Du.am v tx).dat, (Du.am v tx).dat, (Du.am v tx).dat]) = true := by
      unfold SeqAt.shaped
      rw [five]
      rfl
    refine ⟨.list [(Du.am v tx).dat, (Du.am v tx).dat, (Du.am v tx).dat, (Du.am v tx).dat, (Du.am v tx).dat], .list [(Du.am v tx).dat, (Du.am v tx).dat, (Du.am v tx).dat, (Du.am v tx).dat, (Du.am v tx).dat], .lst (SqL.of t6) (.cons (dp _ (by simp)) (.cons (dp _ (by simp)) (.cons (dp _ (by simp)) (.cons (dp _ (by simp)) (.cons (dp _ (by simp)) .nil))))), .lst (SqL.of h6) (.cons dd (.cons dd (.cons dd (.cons dd (.cons dd .nil))))), shp, shp, ?_⟩
    rw [SeqAt.eqv_refl _ five]
    exact fin G6 s66 hp6 tb6
end
end K12

set_option Elab.async false
set_option linter.all false
set_option maxRecDepth 100000
set_option maxHeartbeats 4000000
/-! L12g: all is right. -/
namespace K12
open PySem PySem.Spec PyProof.Rows L2 LL K11 W13
abbrev s_l_right : Stmt := top 35
abbrev n_l_right : List Str := ["_law_pot_here", "_law_high", "_law_low", "_law_amount", "_law_shown", "_law_equals", "_law_turn", "_law_none"]
theorem sc_l_right : FnScope n_l_right ["_law_pot_here"] (defScope s_l_right) := ⟨rfl, rfl, rfl, by decide +kernel, rfl, by decide +kernel, by decide +kernel⟩
section
variable {P : Program} {w : World} {K : PySem.W.Frag} {mg : Str → Option Value} {base : Heap} {C CF CB CA CZ CW : Addr} {f : Addr} {fd : FuncData}
def lamR : Str := (envOfC "_law_right" (defScope s_l_right) 0 0 .none).qual ++ "<lambda>"
def spRight (Tb : List (Addr × Str)) : Sp := fun vs H Q _ => ∃ p, vs = [.ref p] ∧ PotAt H p ∧ LamX.Tabs Tb H ∧ ∀ H', ButN p H H' → PotAt H' p → LamX.Tabs Tb H' → Q (.bl true) H'
theorem ok_l_right {Tb : List (Addr × Str)} (T : Ty K mg C CF) (TQ : Tq K C CF) (G_l_digit : Fnc P w K mg base CX0 1 "_law_digit" [] spDigit) (G_l_pick : Fnc P w K mg base CX0 2 "_law_pick" [] spPick) (K_Amount1 : Mkf P w K mg base CX0 2 "Amount" (spMkA1 C)) (K_Amount2 : Mkf P w K mg base CX0 2 "Amount" (spMkA2 C))
    (G_l_made_right : Fnc P w K mg base CX0 16 "_law_made_right" [] (spMade Tb)) (G_l_signs_right : Fnc P w K mg base CX0 16 "_law_signs_right" [] (spSigns C Tb)) (G_l_refused : LN.Taker P w K mg base 14 "_law_refused" "_law_call" (TTr K C CF CA CZ))
    (S_repr : SpF P w K mg base CX0 1 C "__repr__" (spShow C repS)) (S_eq : SpF P w K mg base CX0 1 C "__eq__" (spEq K C)) (M_over : Mth P w K mg base (L2N.CX P w) 6 C "over" [] (spOverX K C CA CZ))
    (F : FD K "_law_right" "_law_right" s_l_right [] f fd) (TB : LamX.TabB base mg (cOf K f) (tOf K f)) (hmT : (tOf K f, lamR) ∈ Tb) (huT : ∀ p ∈ Tb, p.1 = tOf K f → p.2 = lamR) :
    FnG P w K mg base CX0 17 f fd ["_law_pot_here"] (spRight Tb) := by
  refine okC F sc_l_right (fun vs H Q E h => ?_) (fun cdv ec A outer s H vs Q E hr h => ?_)
  · obtain ⟨p, rfl, _⟩ := h
    rfl
  · obtain ⟨p, rfl, hp, tb, q⟩ := h
    have ecd : cdv = .ref (cOf K f) := Option.some.inj (ec.symm.trans (code_ref F))
    subst ecd
    have hcode : (cxOf CX0 P w K mg base n_l_right "_law_right" (defScope s_l_right) f (.ref (cOf K f)) A outer s H E).nox.env.code = .ref (cOf K f) := rfl
    refine ⟨_, (pss_cons (ps_par (i := 1) (j := 2) rfl sc_l_right.nd rfl rfl (by decide) rfl rfl (pa_cons (pe_op op_sub (pe_fn G_l_digit (hr.mono (by decide)) pass0 (pa_cons (pv 0) (pa_cons pe_int pa_nil))) pe_int) (pa_cons (pe_op op_add pe_int (pe_fn G_l_digit (hr.mono (by decide)) pass0 (pa_cons (pv 0) (pa_cons pe_int pa_nil)))) pa_nil)) (by rfl))
      (pss_cons (ps_set (i := 3) sc_l_right.nd rfl (by first | exact Or.inl rfl | exact Or.inr rfl) (pe_mf K_Amount2 (hr.mono (by decide)) pass0 (pa_cons (pv 1) (pa_cons (pv 2) pa_nil))))
      (pss_cons (ps_par (i := 4) (j := 5) rfl sc_l_right.nd rfl rfl (by decide) rfl rfl (pa_cons (pe_callB (call_reprOF S_repr (hr.mono (by decide)) pass0) (by rfl) T.n_repr (by decide +kernel) (pa_cons (pv 3) pa_nil)) (pa_cons (pe_mf K_Amount2 (hr.mono (by decide)) pass0 (pa_cons (pe_op op_mulX (pv 1) pe_int) (pa_cons (pe_op op_mulX (pv 2) pe_int) pa_nil))) pa_nil)) (by rfl))
      (pss_cons (ps_for PassesOwn.never rfl (pi_range1 (by rfl) T.n_range (pa_cons pe_int pa_nil)) (pg_name (i := 6) sc_l_right.nd rfl (by first | exact Or.inl rfl | exact Or.inr rfl)) (pss_cons (ps_if (PW.pt (pw_or (pt_not (pt_val (pe_fn G_l_made_right (hr.mono (by decide)) pass0 (pa_cons (pv 0) pa_nil)))) (pw_or1 (pt_not (pt_val (pe_fn G_l_signs_right (hr.mono (by decide)) pass0 (pa_cons (pv 0) (pa_cons (pv 3) pa_nil)))))))) (pss_one (ps_ret pe_bl)) pss_nil)
      (pss_cons (ps_set (i := 7) sc_l_right.nd rfl (by first | exact Or.inl rfl | exact Or.inr rfl) (pe_fn G_l_pick (hr.mono (by decide)) pass0 (pa_cons (pv 0) (pa_cons (pe_lst (pa_cons pe_int (pa_cons (pe_mf K_Amount1 (hr.mono (by decide)) pass0 (pa_cons pe_int pa_nil)) (pa_cons (pe_mf K_Amount2 (hr.mono (by decide)) pass0 (pa_cons pe_int (pa_cons (pe_un un_neg pe_int) pa_nil))) pa_nil)))) pa_nil))))
      (pss_one (ps_if (pt_cmpR (op_neD hr.r.units) (LN.pe_lamG G_l_refused TB hcode hmT huT (hr.mono (by decide)) (LamX.lamS_by (sc := defScope s_l_right) (by decide +kernel)) (fun _ _ _ _ _ _ _ hr => (pe_mt M_over (hr.mono (by decide)) (L2N.passes_call (L2N.takes_of rfl rfl rfl rfl) (fun _ _ _ _ h => h)) (pv 3) (pa_cons (pv 7) pa_nil)))) (pe_lst (pa_cons pe_str (pa_cons pe_bl pa_nil))) (nomark _)) (pss_one (ps_ret pe_bl)) pss_nil)))))
      (pss_one (ps_ret (pe_and (pe_cmpR op_eq (pe_callB (call_reprOF S_repr (hr.mono (by decide)) pass0) (by rfl) T.n_repr (by decide +kernel) (pa_cons (pv 3) pa_nil)) (pv 4) (nomark _)) (pe_and (pe_cmpR (op_eqF S_eq (hr.mono (by decide)) pass0) (pv 3) (pv 5) (nomark _)) (pe_one (pe_cmpR op_eq (pe_callB (call_reprS hr) (by rfl) T.n_repr (by decide +kernel) (pa_cons (pe_lst (pa_cons (pe_cmpR (op_eqF S_eq (hr.mono (by decide)) pass0) (pv 3) (pv 4) (nomark _)) (pa_cons (pe_cmpR (op_eqF S_eq (hr.mono (by decide)) pass0) (pv 3) (pe_lst (pa_cons (pv 1) pa_nil)) (nomark _)) pa_nil))) pa_nil)) pe_str (nomark _))))))))))), ?_⟩
    refine ⟨_, rfl, p, 199, rfl, hp, by decide, by decide, fun H1 d1 b1 hp1 d10 d11 => ⟨_, _, rfl, rfl, _, rfl, p, 40, rfl, hp1, by decide, by decide, fun H2 d2 b2 hp2 d20 d21 => ⟨_, _, rfl, rfl, _, _, rfl, ?_⟩⟩⟩
    refine nx_of ?_
    have bH : (d1 - 99).natAbs < 2 ^ 7 := by have : (2 : Nat) ^ 7 = 128 := (by decide); omega
    have bL : (1 + d2).natAbs < 2 ^ 7 := by have : (2 : Nat) ^ 7 = 128 := (by decide); omega
    have nL : 1 + d2 ≠ 0 := by omega
    have up : ∀ {n : Int}, n.natAbs < 2 ^ 7 → n.natAbs < 2 ^ 4000 := fun h => Nat.lt_of_lt_of_le h (Nat.pow_le_pow_right (by decide) (by decide))
    refine ⟨_, rfl, _, rfl, d1 - 99, 1 + d2, rfl, nL, up bH, up bL, fun H3 r s3 n3 am => ?_⟩
    refine nm_of ?_
    dsimp only
    have mT : Md (lt (d1 - 99) (1 + d2)) := Nat.lt_of_le_of_lt (lt_le nL) (Nat.lt_of_lt_of_le bH (Nat.pow_le_pow_right (by decide) (by decide)))
    have mB : Md (lb (d1 - 99) (1 + d2)) := Nat.lt_of_le_of_lt (lb_le nL) (Nat.lt_of_lt_of_le bL (Nat.pow_le_pow_right (by decide) (by decide)))
    have e3 : lt ((d1 - 99) * 3) ((1 + d2) * 3) = lt (d1 - 99) (1 + d2) ∧ lb ((d1 - 99) * 3) ((1 + d2) * 3) = lb (d1 - 99) (1 + d2) := by
      rw [Int.mul_comm _ 3, Int.mul_comm _ 3]
      exact ⟨lt_scale (by decide) nL, lb_scale (by decide) nL⟩
    have bH3 : ((d1 - 99) * 3).natAbs < 2 ^ 9 := by have : (2 : Nat) ^ 9 = 512 := (by decide); omega
    have bL3 : ((1 + d2) * 3).natAbs < 2 ^ 9 := by have : (2 : Nat) ^ 9 = 512 := (by decide); omega
    have up9 : ∀ {n : Int}, n.natAbs < 2 ^ 9 → n.natAbs < 2 ^ 4000 := fun h => Nat.lt_of_lt_of_le h (Nat.pow_le_pow_right (by decide) (by decide))
    obtain ⟨dx, ha⟩ := id am
    refine ⟨_, rfl, r, dx, _, rfl, ha, r, _, _, rfl, am, mT, mB, _, rfl, ?_⟩
    refine ⟨_, rfl, _, _, rfl, rfl, mulx_ok (a := 7) (b := 2) bH (by decide) (by decide), _, rfl, _, _, rfl, rfl, mulx_ok (a := 7) (b := 2) bL (by decide) (by decide), _, _, rfl, by omega, up9 bH3, up9 bL3, fun H4 r2 s4 n4 am2 => ⟨_, _, rfl, ?_⟩⟩
    refine nx_of ?_
    rw [e3.1, e3.2] at am2
    have am := am.same s4
    generalize lt (d1 - 99) (1 + d2) = lt0 at am am2 mT ⊢
    generalize lb (d1 - 99) (1 + d2) = lb0 at am am2 mB ⊢
    have hp4 := (hp2.same s3).same s4
    have B4 : But p H H4 := ((b1.trans b2).trans (But.of s3)).trans (But.of s4)
    have tb4 := tabs_kp tb (hp.kp B4)
    have nr : r ≠ p := hp2.ne n3
    have nr2 : r2 ≠ p := (hp2.same s3).ne n4
    obtain ⟨dx, ha⟩ := am
    obtain ⟨dy, hb⟩ := am2
    refine seq_cut (fun σ G => ButN p H4 G ∧ PotAt G p ∧ LamX.Tabs Tb G ∧ ∃ u6 u7, σ = [some (.ref p), some (.int (d1 - 99)), some (.int (1 + d2)), some (.ref r), some (.str (repS lt0 lb0)), some (.ref r2), u6, u7]) (fun N hN => ?_) ?_
    · exact hN _ _ ⟨fun b o e _ _ => e, hp4, tb4, none, none, rfl⟩
    rintro σ G ⟨bG, hpG, tbG, u6, u7, rfl⟩
    refine seq_cut (fun σ G => ButN p H4 G ∧ PotAt G p ∧ LamX.Tabs Tb G ∧ ∃ u6 u7, σ = [some (.ref p), some (.int (d1 - 99)), some (.int (1 + d2)), some (.ref r), some (.str (repS lt0 lb0)), some (.ref r2), u6, u7]) (fun N hN => ?_) ?_
    · refine ⟨_, rfl, by decide, by decide, ?_⟩
      refine for_range (lo := 0) (n := 8) (fun i σ G => ButN p H4 G ∧ PotAt G p ∧ LamX.Tabs Tb G ∧ ∃ u6 u7, σ = [some (.ref p), some (.int (d1 - 99)), some (.int (1 + d2)), some (.ref r), some (.str (repS lt0 lb0)), some (.ref r2), u6, u7]) ⟨bG, hpG, tbG, _, _, rfl⟩ ?_ ?_
      · rintro i σ G5 hi ⟨b5, hp5, tb5, v6, v7, rfl⟩
        refine ⟨_, rfl, p, rfl, hp5, tb5, fun G6 b6 hp6 tb6 => ?_⟩
        refine ⟨true, rfl, iteF ?_⟩
        have ha6 := b6 _ _ (b5 _ _ ha nr (fun _ c => by cases c)) nr (fun _ c => by cases c)
        refine ⟨_, rfl, _, rfl, p, r, lt0, lb0, rfl, hp6, ⟨dx, ha6⟩, tb6, fun G7 b7 hp7 tb7 => ?_⟩
        refine ⟨true, rfl, iteF ?_⟩
        refine nx_of ?_
        have ha7 := b7 _ _ ha6 nr (fun _ c => by cases c)
        have b57 := (b5.trans b6).trans b7
        refine ⟨_, rfl, 0, rfl, by decide +kernel, fun G8 r8 s8 n8 a8 => ⟨_, rfl, 0, -5, rfl, by decide, by decide +kernel, by decide +kernel, fun G9 r9 s9 n9 a9 => ⟨small (show 3 ≤ 100000 by decide), fun l nl => ?_⟩⟩⟩
        have e9 : (lt 0 (-5), lb 0 (-5)) = ((0 : Int), (1 : Int)) := by decide +kernel
        rw [show lt 0 (-5) = 0 from congrArg Prod.fst e9, show lb 0 (-5) = 1 from congrArg Prod.snd e9] at a9
        have s10 := same_upd (o := .lst [V.int 0, V.ref r8, V.ref r9]) nl
        have hl : upd G9 l (.lst [V.int 0, V.ref r8, V.ref r9]) l = some (.lst [V.int 0, V.ref r8, V.ref r9]) := upd_same
        have nlp := ((hp7.same s8).same s9).ne nl
        have n8p := hp7.ne n8
        have n9p := (hp7.same s8).ne n9
        generalize upd G9 l (.lst [V.int 0, V.ref r8, V.ref r9]) = GA at s10 hl ⊢
        have sA := (s8.trans s9).trans s10
        have hpA := hp7.same sA
        have tbA := tabs_same tb7 sA
        obtain ⟨d8, a8⟩ := a8.same (s9.trans s10)
        obtain ⟨d9, a9⟩ := a9.same s10
        refine ⟨p, l, _, rfl, hpA, hl, (fun c => by cases c), (by show 3 ≤ 1000; decide), nlp, fun GB v bB hpB mv => ?_⟩
        refine nm_of ?_
        dsimp only
        have tbB := tabs_kp tbA (hpA.kp bB)
        have haB := rsp_one (a := p) (bB _ _ (sA _ _ ha7) nr) nr
        have zv : ∃ b, AmtV C (rsp p GB) v 0 b := by
          simp only [List.mem_cons, List.not_mem_nil, or_false] at mv
          rcases mv with rfl | rfl | rfl
          · exact ⟨1, .inr ⟨rfl, rfl⟩⟩
          · exact ⟨1, .inl ⟨r8, rfl, d8, rsp_one (bB _ _ a8 n8p) n8p⟩⟩
          · exact ⟨1, .inl ⟨r9, rfl, d9, rsp_one (bB _ _ a9 n9p) n9p⟩⟩
        have hz : ∀ b o, rsp p GB b = some o → ∀ ps, o ≠ .tbl ps := fun b o e => (rsp_out e).2.2
        have sZ : Same (rsp p GB) GB := rsp_le
        have bZ : ∀ G, Same (rsp p GB) G → ButN p H4 G := fun G s => b57.trans ((ButN.same sA).trans ((ButN.of bB).trans fun b o e n t => s _ _ (rsp_one e n t)))
        generalize rsp p GB = Z at haB zv hz sZ bZ
        refine lam_go hz sZ tbB .ze trivial (fun G R E s g => ?_) (fun GC a sC eC tbC na hC => ?_)
        · obtain ⟨b, zv⟩ := zv
          refine ⟨_, rfl, r, dx, _, rfl, s _ _ haB, look_no lt0 lb0 (by decide +kernel) (by decide +kernel), _, rfl, r, v, rfl, .inr ⟨⟨b, ?_⟩, g⟩⟩
          exact zv.imp (fun ⟨x, e, y⟩ => ⟨x, e, y.same s⟩) id
        refine ⟨small (show 2 ≤ 100000 by decide), fun l2 nl2 => ?_⟩
        have sD := same_upd (o := .lst [V.str "zero", V.bl true]) nl2
        have h2 : upd GC l2 (.lst [V.str "zero", V.bl true]) l2 = some (.lst Du.ze.xs) := upd_same
        refine ⟨Du.ze.dat, Du.ze.dat, du_dp (sD _ _ hC), du_dp h2, du_shp trivial, du_shp trivial, _, rfl, ?_⟩
        rw [du_eq (o := .ze) trivial]
        exact iteF ⟨bZ _ (sC.trans sD), (hpB.ext eC).same sD, tabs_same tbC sD, _, _, rfl⟩
      · rintro σ G5 ⟨b5, hp5, tb5, v6, v7, rfl⟩
        exact hN _ _ ⟨b5, hp5, tb5, _, _, rfl⟩
    · rintro σ G ⟨b, hpG, tbG, u6, u7, rfl⟩
      have haG := b _ _ ha nr (fun _ c => by cases c)
      have hbG := b _ _ hb nr2 (fun _ c => by cases c)
      refine ⟨_, rfl, r, dx, _, rfl, haG, r, _, _, rfl, ⟨dx, haG⟩, mT, mB, _, rfl, _, rfl, ?_⟩
      refine ⟨rfl, true, congrArg V.bl (decide_eq_true rfl), iteT ?_⟩
      have tyB : TyX K G (.ref r2) (.ref C) := tyA T.toTx ⟨dy, hbG⟩
      refine ⟨_, rfl, _, rfl, r, dx, _, .ref C, rfl, haG, tyB, T.fC, r, .ref r2, lt0, lb0, .ref C, true, rfl, ⟨dx, haG⟩, tyB, T.kC, (fun z => by cases z), fun _ => ⟨r2, lt0, lb0, rfl, ⟨dy, hbG⟩, ?_⟩⟩
      rw [decide_eq_true (show lt0 = lt0 from rfl), decide_eq_true (show lb0 = lb0 from rfl)]
      refine ⟨true, rfl, iteT ?_⟩
      refine ⟨_, rfl, _, rfl, r, dx, _, .type "str", rfl, haG, .base (.str _), TQ.fS, r, _, lt0, lb0, .type "str", false, rfl, ⟨dx, haG⟩, .base (.str _), TQ.cS, fun _ => ?_, (fun z => by cases z)⟩
      refine ⟨_, rfl, _, rfl, small (show 1 ≤ 100000 by decide), fun l2 n2 => ?_⟩
      have s2 := same_upd (o := .lst [V.int (d1 - 99)]) n2
      have tyL : TyX K (upd G l2 (.lst [V.int (d1 - 99)])) (.ref l2) (.type "list") := .base (.lst upd_same)
      refine ⟨r, dx, _, .type "list", rfl, s2 _ _ haG, tyL, TQ.fL, r, _, lt0, lb0, .type "list", false, rfl, ⟨dx, s2 _ _ haG⟩, tyL, TQ.cL, fun _ => ?_, (fun z => by cases z)⟩
      refine ⟨small (show 2 ≤ 100000 by decide), fun l3 n3' => ?_⟩
      have s3' := same_upd (o := .lst [V.bl false, V.bl false]) n3'
      refine ⟨l3, .list [.bool false, .bool false], rfl, .lst (SqL.of upd_same) (.cons (.bl _) (.cons (.bl _) .nil)), ⟨trivial, trivial, trivial⟩, by decide +kernel, by decide +kernel, rfl, ?_⟩
      rw [show decide (V.str (PyData.shown (.list [.bool false, .bool false])) = V.str "[False, False]") = true by decide +kernel]
      exact q _ ((ButN.of B4).trans (b.trans (.same (s2.trans s3')))) ((hpG.same s2).same s3') (tabs_same (tabs_same tbG s2) s3')
end
end K12

set_option Elab.async false
set_option linter.all false
set_option maxRecDepth 100000
set_option maxHeartbeats 4000000
/-! L12h: the law. -/
namespace K12
open PySem PySem.Spec PyProof.Rows L2 LL K11 W13
abbrev s_law : Stmt := top 36
abbrev n_law : List Str := ["_law_script", "_law_k"]
theorem sc_law : FnScope n_law ["_law_script"] (defScope s_law) := ⟨rfl, rfl, rfl, by decide +kernel, rfl, by decide +kernel, by decide +kernel⟩
theorem rst_none {D : Addr} {H : Hp} (n : H D = none) : rst [D] H = H := funext fun b => by
  by_cases c : b = D
  · rw [c, rst_in (List.mem_singleton.mpr rfl), n]
  · exact rst_at fun m => c (List.mem_singleton.mp m)
theorem rst_kp {H : Hp} {cl : Addr} {vs : List V} (h : H cl = some (.lst vs)) (a : Addr) (o : HO) (e : H a = some o) (n : ∀ vs, o ≠ HO.lst vs) : rst [cl] H a = some o := rst_one e fun c => by
  rw [c, h] at e
  cases e
  exact n _ rfl
section
variable {P : Program} {w : World} {K : PySem.W.Frag} {mg : Str → Option Value} {base : Heap} {C CF CE : Addr} {f : Addr} {fd : FuncData}
def spLaw (K : PySem.W.Frag) (Tb : List (Addr × Str)) : Sp := fun vs H Q _ => ∃ (a : Addr) (ns : List Int), vs = [.ref a] ∧ SqL K H a (ns.map V.int) ∧ ns.length ≤ 63 ∧ LamX.Tabs Tb H ∧ ∀ H', Q (.bl true) H'
theorem ok_law {Tb : List (Addr × Str)} (T : Ty K mg C CF) (G_l_pot : Fnc P w K mg base CX0 1 "_law_pot" [] (spPot K)) (G_l_right : Fnc P w K mg base CX0 17 "_law_right" [] (spRight Tb)) (F : FD K "law" "law" s_law [] f fd) : FnG P w K mg base CX0 18 f fd ["_law_script"] (spLaw K Tb) := by
  refine ok0 F sc_law (fun vs H Q E h => ?_) (fun cdv A outer s H vs Q E hr h => ?_)
  · obtain ⟨a, ns, rfl, _⟩ := h
    rfl
  · obtain ⟨a, ns, rfl, hS, hl, tb, q⟩ := h
    refine ⟨_, (pss_one (ps_ret (pe_callB (cr_all rfl) (by rfl) T.n_all (by decide +kernel) (pa_cons (pe_lc (own := [("_law_k", 1)]) rfl sc_law.nd (pi_range1 (by rfl) T.n_range (pa_cons (pe_callB (call_max2 rfl) (by rfl) T.n_max (by decide +kernel) (pa_cons pe_int (pa_cons (pe_callB (call_min2 rfl) (by rfl) T.n_min (by decide +kernel) (pa_cons (pe_callB call_len_seq (by rfl) T.n_len (by decide +kernel) (pa_cons (pv 0) pa_nil)) (pa_cons pe_int pa_nil))) pa_nil))) pa_nil)) (blkOk_by (own := [("_law_k", 1)]) (N := n_law) (sc := defScope s_law) (by decide +kernel)) (fun _ _ _ _ _ => (pg_name (i := 1) sc_law.nd rfl (by first | exact Or.inl rfl | exact Or.inr rfl))) (fun _ _ _ _ _ => pts_nil) (fun _ _ _ _ _ => (pe_fn G_l_right (hr.mono (by decide)) pass0 (pa_cons (pe_fn G_l_pot (hr.mono (by decide)) pass0 (pa_cons (pv 0) (pa_cons (pv 1) pa_nil))) pa_nil)))) pa_nil)))), ?_⟩
    refine ⟨_, rfl, a, _, rfl, .inl hS, _, _, rfl, _, _, rfl, ?_⟩
    obtain ⟨m, em, lm⟩ : ∃ m : Nat, (if (if 8 < (((ns.map V.int).length : Nat) : Int) then 8 else (((ns.map V.int).length : Nat) : Int)) > 1 then (if 8 < (((ns.map V.int).length : Nat) : Int) then 8 else (((ns.map V.int).length : Nat) : Int)) else 1) = (m : Nat) ∧ m ≤ 8 := by
      by_cases c : 8 < (((ns.map V.int).length : Nat) : Int)
      · rw [if_pos c]
        exact ⟨8, by decide, by decide⟩
      · rw [if_neg c]
        by_cases c1 : (((ns.map V.int).length : Nat) : Int) > 1
        · exact ⟨(ns.map V.int).length, by rw [if_pos c1], by omega⟩
        · exact ⟨1, by rw [if_neg c1]; rfl, by decide⟩
    refine ⟨((m : Nat) : Int), congrArg (fun z => [V.int z]) em, by omega, by omega, fun D nD => ?_⟩
    rw [Int.toNat_natCast]
    refine lc_inv (walk_range (lo := 0) (n := m)) (fun j acc H' => LamX.ExtN H H' ∧ LamX.Tabs Tb (rst [D] H') ∧ acc = List.replicate j (V.bl true)) (fun j acc H' xs z => ⟨fun b o e t => ?_, by rw [rst_upd (List.mem_singleton.mpr rfl)]; exact z.2.1, z.2.2⟩) ⟨.refl _, by rw [rst_none nD]; exact tb, rfl⟩ ?_ (fun _ _ _ _ _ => trivial) ?_ ?_
    · rw [upd_ne (ne_of_none e nD)]
      exact z.1 b o e t
    · rintro j acc H' hj ⟨_, _, rfl⟩
      rw [List.length_replicate]
      exact Nat.lt_of_lt_of_le (show _ < 100000 by omega) (small (Nat.le_refl _))
    · rintro j x acc H1 H1' hj ⟨e1, t1, rfl⟩ hD1 ⟨rfl, rfl⟩ N S hN hSk
      dsimp only
      rw [Int.zero_add]
      refine ⟨rfl, ?_⟩
      dsimp only [tYes]
      rw [if_pos rfl]
      refine ⟨_, rfl, _, rfl, a, ns, j, rfl, sq_ext hS e1, hl, by omega, fun H2 p s2 np hp2 => ?_⟩
      refine ⟨p, rfl, hp2, tabs_same (tabs_same t1 rst_le) s2, fun H3 b3 _ t3 => ?_⟩
      have hD3 := b3 _ _ (s2 _ _ hD1) (ne_of_none hD1 np) (fun _ z => by cases z)
      refine hN _ _ hD3 ⟨fun b o e t => b3 _ _ (s2 _ _ (e1 b o e t)) (ne_of_none (e1 b o e t) np) t, tabs_kp t3 (rst_kp hD3), ?_⟩
      exact (List.replicate_succ' ..).symm
    · rintro acc H1 hD ⟨e1, _, rfl⟩
      refine ⟨D, List.replicate m true, rfl, SqL.of (by rw [List.map_replicate]; exact hD), ?_⟩
      have : (List.replicate m true).all id = true := List.all_eq_true.mpr fun b hb => List.eq_of_mem_replicate hb
      rw [this]
      exact q _
end
end K12

set_option Elab.async false
set_option linter.all false
set_option maxRecDepth 100000
set_option maxHeartbeats 4000000
/-! L12i: the errors' classes. -/
namespace K12
open PySem PySem.Spec PyProof.Rows L2 LL K11 W13
abbrev s_InvalidAmountinit : Stmt := inClass (top 3) 0
abbrev n_InvalidAmountinit : List Str := ["self", "value"]
theorem sc_InvalidAmountinit : FnScope n_InvalidAmountinit ["self", "value"] (defScope s_InvalidAmountinit) := ⟨rfl, rfl, rfl, by decide +kernel, rfl, by decide +kernel, by decide +kernel⟩
section
variable {P : Program} {w : World} {K : PySem.W.Frag} {mg : Str → Option Value} {base : Heap} {C CF CE CB CI CA : Addr} {f : Addr} {fd : FuncData}
theorem FnG.up {CX : CXT} {k k' : Nat} {ps : List Str} {sp : Sp} (F : FnG P w K mg base CX k f fd ps sp) (h : k ≤ k') : FnG P w K mg base CX k' f fd ps sp := ⟨F.len, fun A outer s H args us vs Q E hr e0 hb r z => F.run A outer s H args us vs Q E (hr.mono h) e0 hb r z⟩
theorem ok_xInvalidAmount (le : LeC K CB) (gl : mg "LeastlogError" = some (.ref CB)) (O : OexC K CA) (nf : PySem.W.findIn K (.ref CA) "value" = some none) (F : FD K "__init__" "InvalidAmount.__init__" s_InvalidAmountinit [] f fd) : FnOk P w K mg base CX0 1 f fd ["self", "value"] (spXI CA "value") := by
  refine F.ok sc_InvalidAmountinit (fun vs H Q E h => ?_) (fun cdv A outer s H vs Q E hr h => ?_)
  · obtain ⟨a, v, rfl, _⟩ := h
    rfl
  · obtain ⟨a, v, rfl, ha, q⟩ := h
    refine ⟨_, PSs.nox (pss_cons (ps_expr (pe_leinit le (by rfl) gl (pa_cons (pv 0) (pa_cons pe_str pa_nil)))) (pss_one (ps_ost (pv 0) (pv 1)))), ?_⟩
    refine ⟨_, rfl, a, CA, _, rfl, (by show 1 ≤ 1000; decide), O, ha, _, rfl, _, rfl, a, CA, rfl, O, nf, .inl ⟨ha, fun dx hd ne => q dx hd ne⟩⟩
end
end K12

set_option Elab.async false
set_option linter.all false
set_option maxRecDepth 100000
set_option maxHeartbeats 0
/-! the end. -/
namespace K12
open PySem PySem.Spec PyProof.Rows L2 LL K11 W13
def csOf (K : PySem.W.Frag) : List (Addr × Addr) := tf.map fun a => (cOf K (a K), tOf K (a K))
def tbOf (K : PySem.W.Frag) : List (Addr × Str) := [(tOf K (gA "_law_made_right" K), lamM), (tOf K (gA "_law_signs_right" K), lamS), (tOf K (gA "_law_right" K), lamR)]
section
variable {P : Program} {w : World} {K : PySem.W.Frag} {h : Heap} {mg : Str → Option Value} {fa : Addr}
theorem facts (X : K.In h) (G : h.Ns mainGlobals mg) (hfa : mg ("law" : Str) = some (.ref fa)) (c : SaysY ft fn K) :
    ∃ fd : FuncData, (∀ (s : Shared) (v : Value), BindsTo s fd ⟨[v], []⟩ [("_law_script", v)]) ∧ ∀ base : Heap, K.In base → base.Ns mainGlobals mg → (∀ p ∈ csOf K, LamX.TabB base mg p.1 p.2) → FnG P w K mg base CX0 18 fa fd ["_law_script"] (spLaw K (tbOf K)) := by
  obtain ⟨fd_is_integer, F_is_integer⟩ := c.fn_ 0
  obtain ⟨fd_common_divisor, F_common_divisor⟩ := c.fn_ 1
  obtain ⟨fd_as_amount, F_as_amount⟩ := c.fn_ 2
  obtain ⟨fd_is_amount, F_is_amount⟩ := c.fn_ 3
  obtain ⟨fd_is_symbol, F_is_symbol⟩ := c.fn_ 4
  obtain ⟨fd_require_symbol, F_require_symbol⟩ := c.fn_ 5
  obtain ⟨fd_are_terms, F_are_terms⟩ := c.fn_ 6
  obtain ⟨fd_term_text, F_term_text⟩ := c.fn_ 7
  obtain ⟨fd_form_text, F_form_text⟩ := c.fn_ 8
  obtain ⟨fd_l_pot, F_l_pot⟩ := c.fn_ 9
  obtain ⟨fd_l_digit, F_l_digit⟩ := c.fn_ 10
  obtain ⟨fd_l_pick, F_l_pick⟩ := c.fn_ 11
  obtain ⟨fd_l_odd, F_l_odd⟩ := c.fn_ 12
  obtain ⟨fd_l_refused, F_l_refused⟩ := c.fn_ 13
  obtain ⟨fd_l_part, F_l_part⟩ := c.fn_ 14
  obtain ⟨fd_l_made_right, F_l_made_right⟩ := c.fn_ 15
  obtain ⟨fd_l_signs_right, F_l_signs_right⟩ := c.fn_ 16
  obtain ⟨fd_l_right, F_l_right⟩ := c.fn_ 17
  obtain ⟨fd_law, F_law⟩ := c.fn_ 18
  obtain ⟨fd_Amountinit, F_Amountinit⟩ := c.fn_ 19
  obtain ⟨fd_Forminit, F_Forminit⟩ := c.fn_ 20
  obtain ⟨fd_Amountadd, F_Amountadd⟩ := c.fn_ 21
  obtain ⟨fd_Amountsub, F_Amountsub⟩ := c.fn_ 22
  obtain ⟨fd_Amountmul, F_Amountmul⟩ := c.fn_ 23
  obtain ⟨fd_Amountneg, F_Amountneg⟩ := c.fn_ 24
  obtain ⟨fd_Amount_over, F_Amount_over⟩ := c.fn_ 25
  obtain ⟨fd_Amount_below, F_Amount_below⟩ := c.fn_ 26
  obtain ⟨fd_Amounteq, F_Amounteq⟩ := c.fn_ 27
  obtain ⟨fd_Amountstr, F_Amountstr⟩ := c.fn_ 28
  obtain ⟨fd_Amountrepr, F_Amountrepr⟩ := c.fn_ 29
  obtain ⟨fd_Formrepr, F_Formrepr⟩ := c.fn_ 30
  obtain ⟨fd_InvalidAmountinit, F_InvalidAmountinit⟩ := c.fn_ 31
  obtain ⟨fd_Amount_sign, F_Amount_sign⟩ := c.fn_ 32
  obtain ⟨fd_Form_of, F_Form_of⟩ := c.fn_ 33
  have T0 : Tx K mg (He.ga K "Amount") := {
    cl := He.cls_ok (c.fact 51)
    nT := He.noat_ok (c.fact 56)
    nB := He.noat_ok (c.fact 57)
    g_Amount := He.glo_ok X G (c.fact 50)
    ca := He.eqO_ok (c.fact 60)
    cn := He.eqO_ok (c.fact 62)
    ne := He.eqO_ok (c.fact 63)
    ct := of_decide_eq_true (c.fact 66)
    cm := of_decide_eq_true (c.fact 67)
    kI := of_decide_eq_true (c.fact 69)
    kC := of_decide_eq_true (c.fact 70)
    fI := (c.fact 76)
    fC := (c.fact 77)
    n_isinstance := He.free_ok X G (c.fact 120)
    n_int := He.free_ok X G (c.fact 121)
    n_bool := He.free_ok X G (c.fact 122)
    n_abs := He.free_ok X G (c.fact 123)
    n_str := He.free_ok X G (c.fact 124)
    n_repr := He.free_ok X G (c.fact 125)
    n_range := He.free_ok X G (c.fact 126)
    n_len := He.free_ok X G (c.fact 127)
    n_max := He.free_ok X G (c.fact 128)
    n_min := He.free_ok X G (c.fact 129)
    n_divmod := He.free_ok X G (c.fact 130)
    n_all := He.free_ok X G (c.fact 131)
    n_zip := He.free_ok X G (c.fact 132)
  }
  have T : Ty K mg (He.ga K "Amount") (He.ga K "Form") := {
    toTx := T0
    cf := He.cls_ok (c.fact 54)
    nC := He.noat_ok (c.fact 58)
    nW := He.noat_ok (c.fact 59)
    g_Form := He.glo_ok X G (c.fact 53)
    g_DIGITS := He.str_ok X G (c.fact 83)
    g_SIGNS := He.str_ok X G (c.fact 84)
    g_MOST_SIGNS := He.int_ok X G (c.fact 85)
    caF := He.eqO_ok (c.fact 61)
    neF := He.eqO_ok (c.fact 64)
    fm := He.eqO_ok (c.fact 65)
    cmF := of_decide_eq_true (c.fact 68)
    kFF := of_decide_eq_true (c.fact 71)
    kAF := of_decide_eq_true (c.fact 72)
    kFA := of_decide_eq_true (c.fact 73)
    kIF := of_decide_eq_true (c.fact 74)
    kSF := of_decide_eq_true (c.fact 75)
    fFF := (c.fact 78)
    fFA := (c.fact 79)
    fFI := (c.fact 80)
    fFS := (c.fact 81)
    fAF := (c.fact 82)
    n_sorted := He.free_ok X G (c.fact 133)
    n_list := He.free_ok X G (c.fact 134)
    n_dict := He.free_ok X G (c.fact 135)
  }
  have TQ : Tq K (He.ga K "Amount") (He.ga K "Form") := {
    cN := of_decide_eq_true (c.fact 28)
    cB := of_decide_eq_true (c.fact 29)
    cS := of_decide_eq_true (c.fact 30)
    cL := of_decide_eq_true (c.fact 31)
    cT := of_decide_eq_true (c.fact 32)
    cD := of_decide_eq_true (c.fact 33)
    iF := of_decide_eq_true (c.fact 34)
    bF := of_decide_eq_true (c.fact 35)
    iA := of_decide_eq_true (c.fact 36)
    bA := of_decide_eq_true (c.fact 37)
    fS := (c.fact 45)
    fL := (c.fact 46)
  }
  have TWW : Tw K mg (He.ga K "LeastlogError") (He.ga K "InvalidAmount") (He.ga K "ZeroDivisor") (He.ga K "InvalidForm") := {
    g_LeastlogError := He.glo_ok X G (c.fact 26)
    g_InvalidAmount := He.glo_ok X G (c.fact 23)
    g_ZeroDivisor := He.glo_ok X G (c.fact 24)
    g_InvalidForm := He.glo_ok X G (c.fact 25)
    n_ArithmeticError := He.free_ok X G (c.fact 136)
    xA := of_decide_eq_true (c.fact 38)
    xZA := of_decide_eq_true (c.fact 39)
    xZ := of_decide_eq_true (c.fact 40)
    kAB := of_decide_eq_true (c.fact 41)
    kAW := of_decide_eq_true (c.fact 42)
    kZE := of_decide_eq_true (c.fact 43)
    kZB := of_decide_eq_true (c.fact 44)
  }
  have B_is_integer : Binds K fd_is_integer ["value"] [] := F_is_integer.bindsN fun _ _ _ _ _ _ us hl => match us, hl with | [_], _ => rfl
  have B_common_divisor : Binds K fd_common_divisor ["one", "other"] [] := F_common_divisor.bindsN fun _ _ _ _ _ _ us hl => match us, hl with | [_, _], _ => rfl
  have B_as_amount : Binds K fd_as_amount ["value"] [] := F_as_amount.bindsN fun _ _ _ _ _ _ us hl => match us, hl with | [_], _ => rfl
  have B_is_amount : Binds K fd_is_amount ["value"] [] := F_is_amount.bindsN fun _ _ _ _ _ _ us hl => match us, hl with | [_], _ => rfl
  have B_is_symbol : Binds K fd_is_symbol ["value"] [] := F_is_symbol.bindsN fun _ _ _ _ _ _ us hl => match us, hl with | [_], _ => rfl
  have B_require_symbol : Binds K fd_require_symbol ["value"] [] := F_require_symbol.bindsN fun _ _ _ _ _ _ us hl => match us, hl with | [_], _ => rfl
  have B_are_terms : Binds K fd_are_terms ["value"] [] := F_are_terms.bindsN fun _ _ _ _ _ _ us hl => match us, hl with | [_], _ => rfl
  have B_term_text : Binds K fd_term_text ["symbol", "weight"] [] := F_term_text.bindsN fun _ _ _ _ _ _ us hl => match us, hl with | [_, _], _ => rfl
  have B_form_text : Binds K fd_form_text ["constant", "weights"] [] := F_form_text.bindsN fun _ _ _ _ _ _ us hl => match us, hl with | [_, _], _ => rfl
  have B_l_pot : Binds K fd_l_pot ["_law_script", "_law_k"] [] := F_l_pot.bindsN fun _ _ _ _ _ _ us hl => match us, hl with | [_, _], _ => rfl
  have B_l_digit : Binds K fd_l_digit ["_law_pot_here", "_law_many"] [] := F_l_digit.bindsN fun _ _ _ _ _ _ us hl => match us, hl with | [_, _], _ => rfl
  have B_l_pick : Binds K fd_l_pick ["_law_pot_here", "_law_some"] [] := F_l_pick.bindsN fun _ _ _ _ _ _ us hl => match us, hl with | [_, _], _ => rfl
  have B_l_odd : Binds K fd_l_odd ["_law_pot_here"] [] := F_l_odd.bindsN fun _ _ _ _ _ _ us hl => match us, hl with | [_], _ => rfl
  have B_l_refused : Binds K fd_l_refused ["_law_call"] [] := F_l_refused.bindsN fun _ _ _ _ _ _ us hl => match us, hl with | [_], _ => rfl
  have B_l_part : Binds K fd_l_part ["_law_pot_here", "_law_right_here"] [] := F_l_part.bindsN fun _ _ _ _ _ _ us hl => match us, hl with | [_, _], _ => rfl
  have B_l_made_right : Binds K fd_l_made_right ["_law_pot_here"] [] := F_l_made_right.bindsN fun _ _ _ _ _ _ us hl => match us, hl with | [_], _ => rfl
  have B_l_signs_right : Binds K fd_l_signs_right ["_law_pot_here", "_law_amount"] [] := F_l_signs_right.bindsN fun _ _ _ _ _ _ us hl => match us, hl with | [_, _], _ => rfl
  have B_l_right : Binds K fd_l_right ["_law_pot_here"] [] := F_l_right.bindsN fun _ _ _ _ _ _ us hl => match us, hl with | [_], _ => rfl
  have B_law : Binds K fd_law ["_law_script"] [] := F_law.bindsN fun _ _ _ _ _ _ us hl => match us, hl with | [_], _ => rfl
  have B_Amountadd : Binds K fd_Amountadd ["self", "other"] [] := F_Amountadd.bindsN fun _ _ _ _ _ _ us hl => match us, hl with | [_, _], _ => rfl
  have B_Amountsub : Binds K fd_Amountsub ["self", "other"] [] := F_Amountsub.bindsN fun _ _ _ _ _ _ us hl => match us, hl with | [_, _], _ => rfl
  have B_Amountmul : Binds K fd_Amountmul ["self", "other"] [] := F_Amountmul.bindsN fun _ _ _ _ _ _ us hl => match us, hl with | [_, _], _ => rfl
  have B_Amountneg : Binds K fd_Amountneg ["self"] [] := F_Amountneg.bindsN fun _ _ _ _ _ _ us hl => match us, hl with | [_], _ => rfl
  have B_Amount_over : Binds K fd_Amount_over ["self", "divisor"] [] := F_Amount_over.bindsN fun _ _ _ _ _ _ us hl => match us, hl with | [_, _], _ => rfl
  have B_Amount_below : Binds K fd_Amount_below ["self", "other"] [] := F_Amount_below.bindsN fun _ _ _ _ _ _ us hl => match us, hl with | [_, _], _ => rfl
  have B_Amounteq : Binds K fd_Amounteq ["self", "other"] [] := F_Amounteq.bindsN fun _ _ _ _ _ _ us hl => match us, hl with | [_, _], _ => rfl
  have B_Amountstr : Binds K fd_Amountstr ["self"] [] := F_Amountstr.bindsN fun _ _ _ _ _ _ us hl => match us, hl with | [_], _ => rfl
  have B_Amountrepr : Binds K fd_Amountrepr ["self"] [] := F_Amountrepr.bindsN fun _ _ _ _ _ _ us hl => match us, hl with | [_], _ => rfl
  have B_Formrepr : Binds K fd_Formrepr ["self"] [] := F_Formrepr.bindsN fun _ _ _ _ _ _ us hl => match us, hl with | [_], _ => rfl
  have B_InvalidAmountinit : Binds K fd_InvalidAmountinit ["self", "value"] [] := F_InvalidAmountinit.bindsN fun _ _ _ _ _ _ us hl => match us, hl with | [_, _], _ => rfl
  have B_Amount_sign : Binds K fd_Amount_sign ["self"] [] := F_Amount_sign.bindsN fun _ _ _ _ _ _ us hl => match us, hl with | [_], _ => rfl
  obtain ⟨dsa1, va1, Ba1⟩ := FunD.binds1 (ps := ["self", "top", "bottom"]) F_Amountinit 2 0 (List.cons_ne_nil _ _) rfl fun _ _ _ _ _ _ _ us its hl hi => match us, its, hl, hi with | [_, _], [_], _, _ => ⟨_, rfl, rfl⟩
  obtain ⟨dsa2, va2, Ba2⟩ := FunD.binds1 (ps := ["self", "top", "bottom"]) F_Amountinit 3 1 (List.cons_ne_nil _ _) rfl fun _ _ _ _ _ _ _ us its hl hi => match us, its, hl, hi with | [_, _, _], [_], _, _ => ⟨_, rfl, rfl⟩
  obtain ⟨dsf0, vf0, Bf0⟩ := FunD.binds1 (ps := ["self", "constant", "weights"]) F_Forminit 1 0 (List.cons_ne_nil _ _) rfl fun _ _ _ _ _ _ _ us its hl hi => match us, its, hl, hi with | [_], [_, _], _, _ => ⟨_, rfl, rfl⟩
  obtain ⟨dsf1, vf1, Bf1⟩ := FunD.binds1 (ps := ["self", "constant", "weights"]) F_Forminit 2 1 (List.cons_ne_nil _ _) rfl fun _ _ _ _ _ _ _ us its hl hi => match us, its, hl, hi with | [_, _], [_, _], _, _ => ⟨_, rfl, rfl⟩
  obtain ⟨dsf2, vf2, Bf2⟩ := FunD.binds1 (ps := ["self", "constant", "weights"]) F_Forminit 3 2 (List.cons_ne_nil _ _) rfl fun _ _ _ _ _ _ _ us its hl hi => match us, its, hl, hi with | [_, _, _], [_, _], _, _ => ⟨_, rfl, rfl⟩
  have e := hfa.symm.trans (He.glo_ok X G (c.fact 18))
  cases e
  have b := FunD.bindsA (ps := ["_law_script"]) F_law fun _ _ _ _ _ _ us hl => match us, hl with | [_], _ => rfl
  refine ⟨fd_law, fun s v => b s [v] rfl, fun base kb nb tbs => ?_⟩
  have G_is_integer : Fnc P w K mg base CX0 1 "is_integer" [] (spIsInt K) := ⟨_, _, _, [], He.glo_ok X G (c.fact 0), F_is_integer.kp, B_is_integer, .nil, ok_is_integer T0 F_is_integer⟩
  have G_common_divisor : Fnc P w K mg base CX0 1 "common_divisor" [] spGcd := ⟨_, _, _, [], He.glo_ok X G (c.fact 1), F_common_divisor.kp, B_common_divisor, .nil, ok_common_divisor T0 F_common_divisor⟩
  have init := ok_init (P := P) (w := w) (base := base) T0 G_is_integer G_common_divisor F_Amountinit
  have K1 : Mkr P w K mg base CX0 2 "Amount" (He.ga K "Amount") [.int 1] (spInit (He.ga K "Amount")) := ⟨_, _, _, _, He.mkr_ok (c.fact 52), T0.g_Amount, Ba1, va1, init⟩
  have K2 : Mkr P w K mg base CX0 2 "Amount" (He.ga K "Amount") [] (spInit (He.ga K "Amount")) := ⟨_, _, _, _, He.mkr_ok (c.fact 52), T0.g_Amount, Ba2, va2, init⟩
  have K_Amount1 := mkA1 K1
  have K_Amount2 := mkA2 K2
  have G_as_amount : Fnc P w K mg base CX0 4 "as_amount" [] (spAs (He.ga K "Amount")) := ⟨_, _, _, [], He.glo_ok X G (c.fact 2), F_as_amount.kp, B_as_amount, .nil, ok_as_amount T0 K1 F_as_amount⟩
  have S_neg : SpF P w K mg base CX0 4 (He.ga K "Amount") "__neg__" _ := ⟨_, _, _, (fSpec_ok (c.fact 115)).1, (fSpec_ok (c.fact 115)).2, B_Amountneg, ok_neg T0 K2 F_Amountneg⟩
  have S_eq : SpF P w K mg base CX0 1 (He.ga K "Amount") "__eq__" _ := ⟨_, _, _, (fSpec_ok (c.fact 116)).1, (fSpec_ok (c.fact 116)).2, B_Amounteq, ok_eq T0 F_Amounteq⟩
  have S_str : SpF P w K mg base CX0 1 (He.ga K "Amount") "__str__" _ := ⟨_, _, _, (fSpec_ok (c.fact 117)).1, (fSpec_ok (c.fact 117)).2, B_Amountstr, ok_str T0 F_Amountstr⟩
  have S_repr : SpF P w K mg base CX0 1 (He.ga K "Amount") "__repr__" _ := ⟨_, _, _, (fSpec_ok (c.fact 118)).1, (fSpec_ok (c.fact 118)).2, B_Amountrepr, ok_repr T0 F_Amountrepr⟩
  have P_sign : Prp P w K mg base CX0 1 (He.ga K "Amount") "sign" _ := ⟨T0.cl, _, _, _, _, fProp_ok (c.fact 19), B_Amount_sign, ok_sign T0 F_Amount_sign⟩
  have G_is_amount : Fnc P w K mg base CX0 2 "is_amount" [] (spIsAmt (He.ga K "Amount")) := ⟨_, _, _, [], He.glo_ok X G (c.fact 3), F_is_amount.kp, B_is_amount, .nil, ok_is_amount T G_is_integer F_is_amount⟩
  have G_is_symbol : Fnc P w K mg base CX0 1 "is_symbol" [] spSym := ⟨_, _, _, [], He.glo_ok X G (c.fact 4), F_is_symbol.kp, B_is_symbol, .nil, ok_is_symbol T F_is_symbol⟩
  have G_require_symbol : Fnc P w K mg base CX0 2 "require_symbol" [] spReq := ⟨_, _, _, [], He.glo_ok X G (c.fact 5), F_require_symbol.kp, B_require_symbol, .nil, ok_require T G_is_symbol F_require_symbol⟩
  have G_are_terms : Fnc P w K mg base CX0 3 "are_terms" [] (spTerms (He.ga K "Amount")) := ⟨_, _, _, [], He.glo_ok X G (c.fact 6), F_are_terms.kp, B_are_terms, .nil, ok_are_terms T G_is_symbol G_is_amount F_are_terms⟩
  have finit := ok_finit (P := P) (w := w) (base := base) T G_as_amount G_are_terms P_sign F_Forminit
  have KF1 : Mkr P w K mg base CX0 5 "Form" (He.ga K "Form") [.non] (spFI (He.ga K "Amount") (He.ga K "Form")) := ⟨_, _, _, _, He.mkr_ok (c.fact 55), T.g_Form, Bf1, vf1, finit⟩
  have KF2 : Mkr P w K mg base CX0 5 "Form" (He.ga K "Form") [] (spFI (He.ga K "Amount") (He.ga K "Form")) := ⟨_, _, _, _, He.mkr_ok (c.fact 55), T.g_Form, Bf2, vf2, finit⟩
  have K_Form1 := mkF1 KF1
  have C_Form2 := mkCF2 KF2
  have G_term_text : Fnc P w K mg base CX0 5 "term_text" [] (spTerm (He.ga K "Amount")) := ⟨_, _, _, [], He.glo_ok X G (c.fact 7), F_term_text.kp, B_term_text, .nil, ok_term T P_sign S_neg S_eq S_str K_Amount1 F_term_text⟩
  have G_form_text : Fnc P w K mg base CX0 6 "form_text" [] (spForm (He.ga K "Amount")) := ⟨_, _, _, [], He.glo_ok X G (c.fact 8), F_form_text.kp, B_form_text, .nil, ok_form T P_sign S_neg S_eq S_str G_term_text F_form_text⟩
  have S_frepr : SpF P w K mg base CX0 7 (He.ga K "Form") "__repr__" _ := ⟨_, _, _, (fSpec_ok (c.fact 119)).1, (fSpec_ok (c.fact 119)).2, B_Formrepr, ok_frepr T G_form_text F_Formrepr⟩
  have cmf := fCm_ok (c.fact 20)
  have Z_ofA : CmtW P w K mg base CX0 7 (He.ga K "Form") "of" 0 ["a"] (spKwD ["a"] [.int 0] (spOfB (He.ga K "Amount") (He.ga K "Form"))) := ⟨cmf.1, _, _, cmf.2, ok_of1 T G_as_amount G_require_symbol G_is_amount C_Form2 (List.nodup_cons.mpr ⟨(fun h => by cases h), List.nodup_nil⟩) (small (show 1 ≤ 100000 by decide)) (fun dV kV doc pm an cdv ct us ws hu hw => match us, ws, hu, hw with | [_], [_], _, _ => ⟨_, rfl, fun its hi => match its, hi with | [_], _ => rfl⟩) F_Form_of⟩
  have LE : LeC K (He.ga K "LeastlogError") := fLe_ok (c.fact 27)
  have GLE : mg "LeastlogError" = some (.ref (He.ga K "LeastlogError")) := He.glo_ok X G (c.fact 26)
  have O_InvalidAmount := fXcl_pre (c.fact 21)
  have XA : Xcl P w K mg base 1 "InvalidAmount" (He.ga K "InvalidAmount") "value" := fXcl_ok (c.fact 21) (He.glo_ok X G (c.fact 23)) B_InvalidAmountinit (ok_xInvalidAmount LE GLE O_InvalidAmount.1 O_InvalidAmount.2 F_InvalidAmountinit)
  have XZ := fXo_ok (mg := mg) bas_A (c.fact 22) (He.glo_ok X G (c.fact 24))
  have initX := ok_initX T0 XA G_is_integer G_common_divisor F_Amountinit
  have K1X : Mkr P w K mg base (L2N.CX P w) 3 "Amount" (He.ga K "Amount") [.int 1] (spInitX K (He.ga K "Amount") (He.ga K "InvalidAmount")) := ⟨_, _, _, _, He.mkr_ok (c.fact 52), T0.g_Amount, Ba1, va1, initX⟩
  have K2X : Mkr P w K mg base (L2N.CX P w) 3 "Amount" (He.ga K "Amount") [] (fun vs H Q E => spInit (He.ga K "Amount") vs H Q E ∨ spInitX K (He.ga K "Amount") (He.ga K "InvalidAmount") vs H Q E) := ⟨_, _, _, _, He.mkr_ok (c.fact 52), T0.g_Amount, Ba2, va2, fn_or ((lift0 init).mono (by decide)) initX⟩
  have X_Amount1 := mkX1 K1X
  have X_Amount2 := mkO2 K2X
  have GX_as_amount : Fnc P w K mg base (L2N.CX P w) 5 "as_amount" [] (spAsX K (He.ga K "Amount") (He.ga K "InvalidAmount")) := ⟨_, _, _, [], He.glo_ok X G (c.fact 2), F_as_amount.kp, B_as_amount, .nil, ok_as_amountX T0 X_Amount1 F_as_amount⟩
  have GO_as_amount : Fnc P w K mg base (L2N.CX P w) 5 "as_amount" [] (spAsO K (He.ga K "Amount") (He.ga K "InvalidAmount")) := ⟨_, _, _, [], He.glo_ok X G (c.fact 2), F_as_amount.kp, B_as_amount, .nil, fn_or ((lift0 (ok_as_amount T0 K1 F_as_amount)).mono (by decide)) (ok_as_amountX T0 X_Amount1 F_as_amount)⟩
  have OX_add : OpX P w K mg base (He.ga K "Amount") (He.ga K "Form") (He.ga K "InvalidAmount") .Add := ⟨⟨_, _, _, fOper_ok (c.fact 88), fOpInt_ok (c.fact 89), B_Amountadd, ok_addX T0 K_Amount2 GX_as_amount F_Amountadd⟩, fun T9 m => by
    simp only [tys, List.mem_cons, List.not_mem_nil, or_false] at m
    rcases m with rfl | rfl | rfl | rfl | rfl | rfl
    · exact fOpTy_ok (c.fact 91)
    · exact fOpTy_ok (c.fact 92)
    · exact fOpTy_ok (c.fact 93)
    · exact fOpTy_ok (c.fact 94)
    · exact fOpTy_ok (c.fact 95)
    · exact fOpTy_ok (c.fact 96)
    , fOth_ok (c.fact 90)⟩
  have OX_sub : OpX P w K mg base (He.ga K "Amount") (He.ga K "Form") (He.ga K "InvalidAmount") .Sub := ⟨⟨_, _, _, fOper_ok (c.fact 97), fOpInt_ok (c.fact 98), B_Amountsub, ok_subX T0 K_Amount2 GX_as_amount F_Amountsub⟩, fun T9 m => by
    simp only [tys, List.mem_cons, List.not_mem_nil, or_false] at m
    rcases m with rfl | rfl | rfl | rfl | rfl | rfl
    · exact fOpTy_ok (c.fact 100)
    · exact fOpTy_ok (c.fact 101)
    · exact fOpTy_ok (c.fact 102)
    · exact fOpTy_ok (c.fact 103)
    · exact fOpTy_ok (c.fact 104)
    · exact fOpTy_ok (c.fact 105)
    , fOth_ok (c.fact 99)⟩
  have OX_mul : OpX P w K mg base (He.ga K "Amount") (He.ga K "Form") (He.ga K "InvalidAmount") .Mult := ⟨⟨_, _, _, fOper_ok (c.fact 106), fOpInt_ok (c.fact 107), B_Amountmul, ok_mulX T0 K_Amount2 GX_as_amount F_Amountmul⟩, fun T9 m => by
    simp only [tys, List.mem_cons, List.not_mem_nil, or_false] at m
    rcases m with rfl | rfl | rfl | rfl | rfl | rfl
    · exact fOpTy_ok (c.fact 109)
    · exact fOpTy_ok (c.fact 110)
    · exact fOpTy_ok (c.fact 111)
    · exact fOpTy_ok (c.fact 112)
    · exact fOpTy_ok (c.fact 113)
    · exact fOpTy_ok (c.fact 114)
    , fOth_ok (c.fact 108)⟩
  have M_over : Mth P w K mg base (L2N.CX P w) 6 (He.ga K "Amount") "over" [] (spOverX K (He.ga K "Amount") (He.ga K "InvalidAmount") (He.ga K "ZeroDivisor")) := ⟨T0.cl, _, _, _, [], He.meth_ok (c.fact 86), B_Amount_over, .nil, ok_overX T0 XZ.1 K_Amount2 GO_as_amount F_Amount_over⟩
  have M_below : Mth P w K mg base (L2N.CX P w) 6 (He.ga K "Amount") "below" [] (spOpX K (He.ga K "Amount") (He.ga K "InvalidAmount")) := ⟨T0.cl, _, _, _, [], He.meth_ok (c.fact 87), B_Amount_below, .nil, ok_belowX T0 K_Amount2 GX_as_amount F_Amount_below⟩
  have H_is_integer : LH.Fnc P w K mg base CX0 1 "is_integer" [] (spIsInt K) := ⟨_, _, _, [], He.glo_ok X G (c.fact 0), F_is_integer.kp, B_is_integer, .nil, hk_is_integer T0 F_is_integer⟩
  have H_common_divisor : LH.Fnc P w K mg base CX0 1 "common_divisor" [] spGcd := ⟨_, _, _, [], He.glo_ok X G (c.fact 1), F_common_divisor.kp, B_common_divisor, .nil, hk_common_divisor T0 F_common_divisor⟩
  have hinit := hk_init (P := P) (w := w) (base := base) T0 H_is_integer H_common_divisor F_Amountinit
  have HK1 : LH.Mkr P w K mg base CX0 2 "Amount" (He.ga K "Amount") [.int 1] (spInit (He.ga K "Amount")) := ⟨_, _, _, _, He.mkr_ok (c.fact 52), T0.g_Amount, Ba1, va1, hinit⟩
  have HK2 : LH.Mkr P w K mg base CX0 2 "Amount" (He.ga K "Amount") [] (spInit (He.ga K "Amount")) := ⟨_, _, _, _, He.mkr_ok (c.fact 52), T0.g_Amount, Ba2, va2, hinit⟩
  have H_Amount1 := hmkA1 HK1
  have HS_neg : LH.SpF P w K mg base CX0 4 (He.ga K "Amount") "__neg__" _ := ⟨_, _, _, (fSpec_ok (c.fact 115)).1, (fSpec_ok (c.fact 115)).2, B_Amountneg, hk_neg T0 HK2 F_Amountneg⟩
  have HS_eq : LH.SpF P w K mg base CX0 1 (He.ga K "Amount") "__eq__" _ := ⟨_, _, _, (fSpec_ok (c.fact 116)).1, (fSpec_ok (c.fact 116)).2, B_Amounteq, hk_eq T0 F_Amounteq⟩
  have HS_str : LH.SpF P w K mg base CX0 1 (He.ga K "Amount") "__str__" _ := ⟨_, _, _, (fSpec_ok (c.fact 117)).1, (fSpec_ok (c.fact 117)).2, B_Amountstr, hk_str T0 F_Amountstr⟩
  have HS_repr : LH.SpF P w K mg base CX0 1 (He.ga K "Amount") "__repr__" _ := ⟨_, _, _, (fSpec_ok (c.fact 118)).1, (fSpec_ok (c.fact 118)).2, B_Amountrepr, hk_repr T0 F_Amountrepr⟩
  have HP_sign : LH.Prp P w K mg base CX0 1 (He.ga K "Amount") "sign" _ := ⟨T0.cl, _, _, _, _, fProp_ok (c.fact 19), B_Amount_sign, hk_sign T0 F_Amount_sign⟩
  have H_term_text : LH.Fnc P w K mg base CX0 5 "term_text" [] (spTerm (He.ga K "Amount")) := ⟨_, _, _, [], He.glo_ok X G (c.fact 7), F_term_text.kp, B_term_text, .nil, hk_term T HP_sign HS_neg HS_eq HS_str H_Amount1 F_term_text⟩
  have H_form_text : LH.Fnc P w K mg base CX0 6 "form_text" [] (spForm (He.ga K "Amount")) := ⟨_, _, _, [], He.glo_ok X G (c.fact 8), F_form_text.kp, B_form_text, .nil, hk_form T HP_sign HS_neg HS_eq HS_str H_term_text F_form_text⟩
  have HS_frepr : LH.SpF P w K mg base CX0 7 (He.ga K "Form") "__repr__" _ := ⟨_, _, _, (fSpec_ok (c.fact 119)).1, (fSpec_ok (c.fact 119)).2, B_Formrepr, hk_frepr T H_form_text F_Formrepr⟩
  have G_l_pot : Fnc P w K mg base CX0 1 "_law_pot" [] (spPot K) := ⟨_, _, _, [], He.glo_ok X G (c.fact 9), F_l_pot.kp, B_l_pot, .nil, ok_l_pot T F_l_pot⟩
  have G_l_digit : Fnc P w K mg base CX0 1 "_law_digit" [] spDigit := ⟨_, _, _, [], He.glo_ok X G (c.fact 10), F_l_digit.kp, B_l_digit, .nil, ok_l_digit T F_l_digit⟩
  have G_l_pick : Fnc P w K mg base CX0 2 "_law_pick" [] spPick := ⟨_, _, _, [], He.glo_ok X G (c.fact 11), F_l_pick.kp, B_l_pick, .nil, ok_l_pick T G_l_digit F_l_pick⟩
  have G_l_odd : Fnc P w K mg base CX0 9 "_law_odd" [] (spOdd K (He.ga K "Amount") (He.ga K "Form")) := ⟨_, _, _, [], He.glo_ok X G (c.fact 12), F_l_odd.kp, B_l_odd, .nil, ok_l_odd T TQ Z_ofA K_Form1 G_l_pick F_l_odd⟩
  have G_l_part : Fnc P w K mg base CX0 10 "_law_part" [] (spPart K (He.ga K "Amount") (He.ga K "Form")) := ⟨_, _, _, [], He.glo_ok X G (c.fact 14), F_l_part.kp, B_l_part, .nil, ok_l_part T TQ G_l_digit G_l_pick G_l_odd K_Amount1 K_Amount2 F_l_part⟩
  have G_l_refused : LN.Taker P w K mg base 14 "_law_refused" "_law_call" (TTr K (He.ga K "Amount") (He.ga K "Form") (He.ga K "InvalidAmount") (He.ga K "ZeroDivisor")) := tk_refused T TWW XA XZ.2 HS_repr HS_frepr F_l_refused (He.glo_ok X G (c.fact 13)) B_l_refused
  have d_made_signs := of_decide_eq_true (c.fact 47)
  have d_made_right := of_decide_eq_true (c.fact 48)
  have d_signs_right := of_decide_eq_true (c.fact 49)
  have tb0 : LamX.TabB base mg (cOf K (gA "_law_made_right" K)) (tOf K (gA "_law_made_right" K)) := tbs _ (List.mem_map.mpr ⟨_, List.mem_cons_self .., rfl⟩)
  have hm0 : (tOf K (gA "_law_made_right" K), lamM) ∈ tbOf K := List.mem_cons_self ..
  have tb1 : LamX.TabB base mg (cOf K (gA "_law_signs_right" K)) (tOf K (gA "_law_signs_right" K)) := tbs _ (List.mem_map.mpr ⟨_, List.mem_cons_of_mem _ (List.mem_cons_self ..), rfl⟩)
  have hm1 : (tOf K (gA "_law_signs_right" K), lamS) ∈ tbOf K := List.mem_cons_of_mem _ (List.mem_cons_self ..)
  have tb2 : LamX.TabB base mg (cOf K (gA "_law_right" K)) (tOf K (gA "_law_right" K)) := tbs _ (List.mem_map.mpr ⟨_, List.mem_cons_of_mem _ (List.mem_cons_of_mem _ (List.mem_singleton.mpr rfl)), rfl⟩)
  have hm2 : (tOf K (gA "_law_right" K), lamR) ∈ tbOf K := List.mem_cons_of_mem _ (List.mem_cons_of_mem _ (List.mem_singleton.mpr rfl))
  have hu0 : ∀ p ∈ tbOf K, p.1 = tOf K (gA "_law_made_right" K) → p.2 = lamM := fun p hp e => by
    rcases List.mem_cons.mp hp with rfl | hp
    · rfl
    rcases List.mem_cons.mp hp with rfl | hp
    · exact absurd e.symm d_made_signs
    · obtain rfl := List.mem_singleton.mp hp
      exact absurd e.symm d_made_right
  have hu1 : ∀ p ∈ tbOf K, p.1 = tOf K (gA "_law_signs_right" K) → p.2 = lamS := fun p hp e => by
    rcases List.mem_cons.mp hp with rfl | hp
    · exact absurd e d_made_signs
    rcases List.mem_cons.mp hp with rfl | hp
    · rfl
    · obtain rfl := List.mem_singleton.mp hp
      exact absurd e.symm d_signs_right
  have hu2 : ∀ p ∈ tbOf K, p.1 = tOf K (gA "_law_right" K) → p.2 = lamR := fun p hp e => by
    rcases List.mem_cons.mp hp with rfl | hp
    · exact absurd e d_made_right
    rcases List.mem_cons.mp hp with rfl | hp
    · exact absurd e d_signs_right
    · obtain rfl := List.mem_singleton.mp hp
      rfl
  have G_l_made_right : Fnc P w K mg base CX0 16 "_law_made_right" [] (spMade (tbOf K)) := ⟨_, _, _, [], He.glo_ok X G (c.fact 15), F_l_made_right.kp, B_l_made_right, .nil, ok_l_made_right T G_l_digit G_l_pick G_l_part G_l_refused S_repr S_frepr X_Amount2 F_l_made_right tb0 hm0 hu0⟩
  have G_l_signs_right : Fnc P w K mg base CX0 16 "_law_signs_right" [] (spSigns (He.ga K "Amount") (tbOf K)) := ⟨_, _, _, [], He.glo_ok X G (c.fact 16), F_l_signs_right.kp, B_l_signs_right, .nil, ok_l_signs_right T G_l_odd G_l_refused S_repr S_frepr OX_add OX_sub OX_mul M_over M_below F_l_signs_right tb1 hm1 hu1⟩
  have G_l_right : Fnc P w K mg base CX0 17 "_law_right" [] (spRight (tbOf K)) := ⟨_, _, _, [], He.glo_ok X G (c.fact 17), F_l_right.kp, B_l_right, .nil, ok_l_right T TQ G_l_digit G_l_pick K_Amount1 K_Amount2 G_l_made_right G_l_signs_right G_l_refused S_repr S_eq M_over F_l_right tb2 hm2 hu2⟩
  exact ok_law T G_l_pot G_l_right F_law
end
end K12
open PySem PySem.W PySem.Calls PyProof.Rows
theorem PySem.Challenge.cw_leastlog_k12_amounts_refused_holds : PySem.Challenge.rw_leastlog_k12_amounts_refused.Holds := by
  w_on; o_law
  refine HandSHeadRun.head_any (r := OpenLaw.row PySem.Challenge.rw_leastlog_k12_amounts_refused) (q := view (OpenLaw.row PySem.Challenge.rw_leastlog_k12_amounts_refused).prog [36]) (H := K12.hk) (ob := K12.ob) (M := 8000) (loose := K12.loose) (d := HandSHeadRun.topDef (OpenLaw.row PySem.Challenge.rw_leastlog_k12_amounts_refused).prog 36) (kwd := []) K12.ob_eq
    (by kernel_rfl) (fun s => by kernel_rfl) K12.run (by kernel_rfl) (by kernel_rfl) (by kernel_rfl) (by rfl) (by first | assumption | decide +kernel) (by decide +kernel) ⟨rfl, rfl, rfl, rfl, rfl, by decide +kernel⟩ ?hw ?hc
  case hw => w_witness2
  case hc =>
    refine LL.walkT (l := PySem.Challenge.rw_leastlog_k12_amounts_refused) (n := 63) (k := 18) (x := "_law_script") (CX := L2.CX0) rfl (by decide) (by kernel_rfl) ⟨⟨rfl, by decide, by decide⟩, fun _ => rfl⟩ ?F (fun _ _ _ _ z => z)
    intro w mg fa h Y G hmg0
    obtain ⟨K, KX, c⟩ := Y
    have hmg : mg ("law" : PySem.Str) = some (.ref fa) := by
      have e : (HandSHeadRun.topDef (OpenLaw.row PySem.Challenge.rw_leastlog_k12_amounts_refused).prog 36).name = ("law" : PySem.Str) := by kernel_rfl
      rw [← e]
      exact hmg0
    obtain ⟨fd, hb, hF⟩ := K12.facts (P := (PySem.Challenge.rw_leastlog_k12_amounts_refused).prog) (w := w) KX G hmg c.y
    have mem : ∀ p ∈ K12.csOf K, ∃ a ∈ K12.tf, p = (LL.cOf K (a K), LL.tOf K (a K)) := fun p hp => by
      obtain ⟨a, ha, e⟩ := List.mem_map.mp hp
      exact ⟨a, ha, e.symm⟩
    refine ⟨K, fd, K12.spLaw K (K12.tbOf K), K12.csOf K, KX, fun p hp => ?_, fun p hp => ?_, fun p hp => ?_, hb, fun H a ns hl _ hT hS => ⟨a, ns, rfl, hS, hl, fun p hp => (List.mem_cons.mp hp).elim (fun e => by rw [e]; exact LamX.TabS.nil (hT _ (List.mem_map.mpr ⟨_, List.mem_cons_self .., rfl⟩))) (fun hp => (List.mem_cons.mp hp).elim (fun e => by rw [e]; exact LamX.TabS.nil (hT _ (List.mem_map.mpr ⟨_, List.mem_cons_of_mem _ (List.mem_cons_self ..), rfl⟩))) (fun hp => by rw [List.mem_singleton.mp hp]; exact LamX.TabS.nil (hT _ (List.mem_map.mpr ⟨_, List.mem_cons_of_mem _ (List.mem_cons_of_mem _ (List.mem_singleton.mpr rfl)), rfl⟩)))), fun _ => rfl⟩, hF⟩
    · obtain ⟨a, ha, rfl⟩ := mem p hp
      exact c.emp a ha
    · obtain ⟨a, ha, rfl⟩ := mem p hp
      exact c.out a ha
    · obtain ⟨a, ha, rfl⟩ := mem p hp
      exact c.hd a ha
