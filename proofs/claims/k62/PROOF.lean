import PyProof.Rows.All
import Wide.All
import OpenK.AllK
import Wide.FinOn
import KE.KOpsOwn
import KE.KCallOwn
import KE.KFmtOwn
import PyProof.ReprRoads
import HandS.ForMost
import HandS.Exc
import HandS.Lambda
import HandS.Defaults
import HandS.Property
import HandS.IsInst
import HandS.FStr
import HandS.WideBits
import HandS.EndTab
import HandS.SlotsOwn
import HandS.FStrTup
import HandS.RaiseMore
import HandS.Head0
import HandS.Head1
import HandS.Head2
import HandS.HeadEnd
import HandS.HeadHook1
import HandS.HeadHook2
import HandS.EndBits
import HandS.TryOnly
import HandS.TryMany
import HandS.ExcInit
import HandS.ExcField
import HandS.ExcIs
import HandS.HeadHook4
import HandS.Walk
import HandS.Zip
import KE.GoesZip
import KE.GoesMore
import HandS.SetFor
import HandS.Strs
import HandS.TupAny
import HandS.More
import HandS.Conv
import HandS.CallSlots
import HandS.ExcOwn
import HandS.Style
import HandS.MakeKw
import HandS.Small
import KE.KExcInit
import KE.KExcPX
import PyProof.ExcBaseAll.LookupError
import PyProof.ExcBaseAll.RuntimeError
import PyProof.ExcBaseAll.ArithmeticError
import HandS.ClsMeth
import HandS.HeadNt
import HandS.Deep
import PyProof.P3In
import PySem.Challenge.RW_leastlog_k62_known_by_keeps
set_option Elab.async false
set_option linter.all false
set_option maxRecDepth 100000
set_option maxHeartbeats 2000000
/-! LLBase: the layer with one fact more: no repr is under way where a def is called. -/
namespace LL
open PySem PySem.Spec PyProof.Rows L2

/-- room for k calls, and no container's repr is under way -/
structure Rm (k : Nat) (A : Around) : Prop where
  r : Room k A
  g : A.guards = some []
theorem Rm.mono {j k : Nat} {A : Around} (h : Rm k A) (q : j ≤ k) : Rm j A := ⟨h.r.mono q, h.g⟩
theorem Rm.deeper {k : Nat} {A : Around} (h : Rm (k + 1) A) (env : Env) : Rm k (A.deeper env) := ⟨h.r.deeper env, h.g⟩
theorem Rm.in1 {k : Nat} {A : Around} (h : Rm (k + 1) A) : Rm k A.in1 := ⟨h.r.in1, h.g⟩
theorem Rm.make {k : Nat} {A : Around} (h : Rm (k + 1) A) (C : Addr) (us : List Value) (kw : List (Str × Value)) : Rm k (A.under (.builtin "type.__call__" ⟨.ref C :: us, kw⟩)) :=
  ⟨h.r.make C us kw, by
    have e : (Code.builtin "type.__call__" ⟨.ref C :: us, kw⟩).guards = [] := by
      first | rfl | simp [Code.guards, Code.isGuard, guardIds]
    unfold Around.under
    rw [e, h.g]
    rfl⟩

/-- a def keeps its promise wherever there is room and no repr is under way -/
structure FnG (P : Program) (w : World) (K : PySem.W.Frag) (mg : Str → Option Value) (base : Heap) (CX : CXT) (k : Nat) (f : Addr) (fd : FuncData) (ps : List Str) (sp : Sp) : Prop where
  len : ∀ vs H Q E, sp vs H Q E → vs.length = ps.length
  run : ∀ (A : Around) (outer : List Env) (s : Shared) (H : Hp) (args : Args) (us : List Value) (vs : List V) (Q : VK) (E : XK), Rm k A → Env0 P w K mg base A outer s H → BindsTo s fd args (ps.zip us) → Vals vs us → sp vs H Q E →
    codeAny (model P w) A (.call (.ref f) args) (CR CX outer P w H s Q E) s
section
variable {P : Program} {w : World} {K : PySem.W.Frag} {mg : Str → Option Value} {base : Heap} {CX : CXT} {k : Nat} {f : Addr} {fd : FuncData} {ps : List Str} {sp sp' : Sp}
theorem FnG.mono {j : Nat} (F : FnG P w K mg base CX j f fd ps sp) (h : j ≤ k) : FnG P w K mg base CX k f fd ps sp :=
  ⟨F.len, fun A outer s H args us vs Q E hr => F.run A outer s H args us vs Q E (hr.mono h)⟩
theorem FnG.imp (F : FnG P w K mg base CX k f fd ps sp) (h : ∀ vs H Q E, sp' vs H Q E → sp vs H Q E) : FnG P w K mg base CX k f fd ps sp' :=
  ⟨fun vs H Q E q => F.len vs H Q E (h _ _ _ _ q), fun A outer s H args us vs Q E hr he hb hv hs => F.run A outer s H args us vs Q E hr he hb hv (h _ _ _ _ hs)⟩
/-- a def by its body: it may raise -/
theorem okX {x qual : Str} {params : Arguments} {body : List Stmt} {scope : Scope} {dvs : List V} {kws : List (Str × V)} {N : List Str} (F : FunD K x qual params body scope dvs kws f fd) (S : FnScope N ps scope) (len : ∀ vs H Q E, sp vs H Q E → vs.length = ps.length)
    (hbody : ∀ (cdv : Value) (A : Around) (outer : List Env) (s : Shared) (H : Hp) (vs : List V) (Q : VK) (E : XK), Rm k (A.deeper (envOfC qual scope s.heap.objs.size f cdv)) → sp vs H Q E →
      ∃ t, PSs (cxOf CX P w K mg base N qual scope f cdv A outer s H E) body t ∧ t { nx := fun _ H' => Q .non H', rt := Q } (L2.start N vs) H) : FnG P w K mg base CX (k + 1) f fd ps sp := by
  obtain ⟨oc, od, dV, kV, doc, pm, an, cdv, ct, osl, rfl, lk, hcd, _, _⟩ := F.ex
  refine ⟨len, fun A outer s H args us vs Q E hr e0 hb r hsp => ?_⟩
  exact LamX.run_ofS (CX := CX) lk hcd S hr.r e0 hb r (len _ _ _ _ hsp) fun _ => hbody cdv A outer s H vs Q E (hr.deeper _) hsp
/-- a def by its body: nothing leaves it -/
theorem ok0 {x qual : Str} {params : Arguments} {body : List Stmt} {scope : Scope} {dvs : List V} {kws : List (Str × V)} {N : List Str} (F : FunD K x qual params body scope dvs kws f fd) (S : FnScope N ps scope) (len : ∀ vs H Q E, sp vs H Q E → vs.length = ps.length)
    (hbody : ∀ (cdv : Value) (A : Around) (outer : List Env) (s : Shared) (H : Hp) (vs : List V) (Q : VK) (E : XK), Rm k (A.deeper (envOfC qual scope s.heap.objs.size f cdv)) → sp vs H Q E →
      ∃ t, PSs (cxOf CX0 P w K mg base N qual scope f cdv A outer s H E).nox body t ∧ t { nx := fun _ H' => Q .non H', rt := Q } (L2.start N vs) H) : FnG P w K mg base CX0 (k + 1) f fd ps sp :=
  okX F S len fun cdv A outer s H vs Q E hr h => by
    obtain ⟨t, ht, q⟩ := hbody cdv A outer s H vs Q E hr h
    exact ⟨t, ht.nox, q⟩
end

section
variable {X : Cx} {CX : CXT} {k : Nat} {f C : Addr} {fd : FuncData} {ps : List Str} {sp : Sp} {dvs : List V} {ds : List Value} {E : XK} {x m : Str} {p pos apos : Pos} {e o : Expr} {es : List Expr} {ta : TE} {t : TA}
/-- the callee runs, at any place that stands for this body's -/
theorem run_g {pins : List (Addr × Obj)} {σ : L2.St} {H : Hp} {s : Shared} {Q : VK} {us : List Value} {vs : List V} {A : Around} (F : FnG X.prog X.w X.K X.mg X.base CX k f fd ps sp) (hr : Rm k A) (e0 : Env0 X.prog X.w X.K X.mg X.base A X.stack s H) (hb : Binds X.K fd ps ds) (hd : Vals dvs ds) (hx : Passes CX X E)
    (I : Inv X pins σ H s) (r : Vals vs us) (h : sp (vs ++ dvs) H Q E) : wpAny (model X.prog X.w) A (call (.ref f) us) (EP X pins σ Q) X.xe s := by
  have r2 : Vals (vs ++ dvs) (us ++ ds) := r.append hd
  have hl : (us ++ ds).length = ps.length := by
    have := F.len _ _ _ _ h
    rw [← this]
    exact r2.length.symm
  have go := F.run A X.stack s H ⟨us, []⟩ (us ++ ds) (vs ++ dvs) Q E hr e0 (hb s us I.kIn hl) r2 h
  refine wpAny_call (codeAny_mono go fun r s' hq => ?_)
  match r, hq with
  | .error er, hq => exact hx pins σ H s er s' I hq
  | .ok (.ret u), hq => exact I.after hq
  | .ok .next, hq => exact False.elim hq
  | .ok .brk, hq => exact False.elim hq
  | .ok .cont, hq => exact False.elim hq
/-- f(e, ..) -/
theorem pe_callG (F : FnG X.prog X.w X.K X.mg X.base CX k f fd ps sp) (hr : Rm k X.A) (hg : Gl X x) (hm : X.mg x = some (.ref f)) (hk : PySem.W.keepIn X.K (.ref f) = true) (hb : Binds X.K fd ps ds) (hd : Vals dvs ds) (hx : Passes CX X E)
    (ha : PA X (e :: es) t) (hdb : (x == ("__debug__" : Str)) = false := by decide) (he : starEach (e :: es) X.env = (false, eval e X.env) :: starEach es X.env := by rfl) (hpl : (backTo pos (starEach es X.env)).any (·.1) = false := by rfl) :
    PE X (.Call (.Name x p) (e :: es) [] pos) (tCall sp dvs E t) :=
  ⟨fun pins s σ H Q I h => wpAny_Call_Name_kw (ld_glob I hg hm (PySem.W.callWith_K (h₀ := X.base) I.ok.mod.kin hk (thn (ha.run pos pins s σ H _ I h) fun us s1 ⟨vs, H1, I1, r, q⟩ => ⟨I1.kIn, run_g F hr I1.env0 hb hd hx I1 r q⟩) he hpl) hdb)⟩
theorem pe_call0G (F : FnG X.prog X.w X.K X.mg X.base CX k f fd ps sp) (hr : Rm k X.A) (hg : Gl X x) (hm : X.mg x = some (.ref f)) (hk : PySem.W.keepIn X.K (.ref f) = true) (hb : Binds X.K fd ps ds) (hd : Vals dvs ds) (hx : Passes CX X E)
    (hdb : (x == ("__debug__" : Str)) = false := by decide) : PE X (.Call (.Name x p) [] [] pos) (tCall sp dvs E tNil) :=
  ⟨fun pins s σ H Q I h => wpAny_Call_Name_kw (ld_glob I hg hm (PySem.W.callWith_K0 I.kIn hk (run_g (us := []) F hr I.env0 hb hd hx I .nil h)) hdb)⟩
/-- o.m(e, ..) -/
theorem pe_methG {pl : Sem Bool} (he : PE X o ta) (c : Cls X.K C) (hm : Meth X.K C m f) (F : FnG X.prog X.w X.K X.mg X.base CX k f fd ps sp) (hr : Rm k X.A) (hb : Binds X.K fd ps ds) (hd : Vals dvs ds) (hx : Passes CX X E) (ha : PA X (e :: es) t)
    (hst : starEach (e :: es) X.env = (false, eval e X.env) :: starEach es X.env := by rfl) (hpl : (backTo pos (starEach es X.env)).any (·.1) = false := by rfl)
    (ht : eval (.Call (.Attribute o m apos) (e :: es) [] pos) X.env = (do
      let ov ← eval o X.env
      standAt apos.atName
      let (f, first) ← holding [ov] (getMethod ov m pl)
      callWith pos f first (backTo pos (starEach (e :: es) X.env)) (backToKw pos (keywordEach [] X.env))) := by rfl) :
    PE X (.Call (.Attribute o m apos) (e :: es) [] pos) (tMeth C m sp dvs E ta t) := by
  refine ⟨fun pins s σ H Q I h => PySem.W.methodCall_KW (pl := pl) (thn (he.run pins s σ H _ I h) fun u s1 hh => ?_) ht⟩
  obtain ⟨x, H1, I1, rx, a, dx, fs, rfl, ea, l, q⟩ := hh
  obtain rfl : u = Value.ref a := rx
  exact getmeth_ok I1 ea c hm l (PySem.W.callWith_K (first := [.ref a]) (h₀ := X.base) I.ok.mod.kin hm.kp (thn (ha.run pos pins s1 σ H1 _ I1 q) fun us s2 ⟨vs, H2, I2, r, q2⟩ =>
    ⟨I2.kIn, run_g (us := .ref a :: us) (vs := .ref a :: vs) F hr I2.env0 hb hd hx I2 (.cons rfl r) q2⟩) hst hpl)
theorem pe_meth0G {pl : Sem Bool} (he : PE X o ta) (c : Cls X.K C) (hm : Meth X.K C m f) (F : FnG X.prog X.w X.K X.mg X.base CX k f fd ps sp) (hr : Rm k X.A) (hb : Binds X.K fd ps ds) (hd : Vals dvs ds) (hx : Passes CX X E)
    (ht : eval (.Call (.Attribute o m apos) [] [] pos) X.env = (do
      let ov ← eval o X.env
      standAt apos.atName
      let (f, first) ← holding [ov] (getMethod ov m pl)
      callWith pos f first (backTo pos (starEach [] X.env)) (backToKw pos (keywordEach [] X.env))) := by rfl) :
    PE X (.Call (.Attribute o m apos) [] [] pos) (tMeth C m sp dvs E ta tNil) := by
  refine ⟨fun pins s σ H Q I h => PySem.W.methodCall_KW (pl := pl) (thn (he.run pins s σ H _ I h) fun u s1 hh => ?_) ht⟩
  obtain ⟨x, H1, I1, rx, a, dx, fs, rfl, ea, l, q⟩ := hh
  obtain rfl : u = Value.ref a := rx
  exact getmeth_ok I1 ea c hm l (PySem.W.callWith_K0 (first := [.ref a]) I1.kIn hm.kp (run_g (us := [.ref a]) (vs := [.ref a]) F hr I1.env0 hb hd hx I1 (.cons rfl .nil) q))
/-- C(e, ..): a new instance, then its __init__ -/
theorem run_makeG {pins : List (Addr × Obj)} {σ : L2.St} {H : Hp} {s : Shared} {Q : VK} {us : List Value} {vs : List V} (M : Mk X.K C f) (F : FnG X.prog X.w X.K X.mg X.base CX k f fd ps sp) (hr : Rm (k + 1) X.A) (hb : Binds X.K fd ps ds) (hd : Vals dvs ds)
    (hx : Passes CX X E) (I : Inv X pins σ H s) (r : Vals vs us)
    (h : ∀ x dx, H x = none → H dx = none → dx ≠ x → sp (.ref x :: (vs ++ dvs)) (upd (upd H dx (.own x)) x (.ins C dx [])) (fun v H2 => v = .non ∧ Q (.ref x) H2) E) :
    wpAny (model X.prog X.w) X.A (call (.ref C) us) (EP X pins σ Q) X.xe s := by
  have n1 : H (s.heap.objs.size + 1) = none := I.hok.fresh (Nat.le_succ _)
  have n0 : H s.heap.objs.size = none := I.hok.fresh (Nat.le_refl _)
  have hq := h (s.heap.objs.size + 1) s.heap.objs.size n1 n0 (Nat.ne_of_lt (Nat.lt_succ_self _))
  have I2 := Inv.made (C := C) I
  have r2 : Vals (V.ref (s.heap.objs.size + 1) :: (vs ++ dvs)) (Value.ref (s.heap.objs.size + 1) :: (us ++ ds)) := .cons rfl (r.append hd)
  have hl : (Value.ref (s.heap.objs.size + 1) :: us ++ ds).length = ps.length := r2.length.symm.trans (F.len _ _ _ _ hq)
  have go := F.run (X.A.under (.builtin "type.__call__" ⟨.ref C :: us, []⟩)) X.stack _ _ ⟨Value.ref (s.heap.objs.size + 1) :: us, []⟩ (Value.ref (s.heap.objs.size + 1) :: (us ++ ds)) _ _ E (hr.make C us [])
    (I2.env0.make C us []) (hb _ (Value.ref (s.heap.objs.size + 1) :: us) I2.kIn hl) r2 hq
  refine wpAny_call (make_map (f := f) I.kIn M.makes M.init (beq_iff_eq.mp M.fn) (codeAny_mono go fun r s' hq' => ?_))
  match r, hq' with
  | .error er, hq' => exact hx pins σ _ _ er s' I2 hq'
  | .ok (.ret u), hq' =>
    obtain ⟨v, H', I3, rv, rfl, q3⟩ := I2.after hq'
    exact ⟨rv, ⟨V.ref (s.heap.objs.size + 1), H', I3, rfl, q3⟩⟩
  | .ok .next, hq' => exact False.elim hq'
  | .ok .brk, hq' => exact False.elim hq'
  | .ok .cont, hq' => exact False.elim hq'
theorem pe_makeG (M : Mk X.K C f) (F : FnG X.prog X.w X.K X.mg X.base CX k f fd ps sp) (hr : Rm (k + 1) X.A) (hg : Gl X x) (hm : X.mg x = some (.ref C)) (hb : Binds X.K fd ps ds) (hd : Vals dvs ds) (hx : Passes CX X E)
    (ha : PA X (e :: es) t) (hdb : (x == ("__debug__" : Str)) = false := by decide) (he : starEach (e :: es) X.env = (false, eval e X.env) :: starEach es X.env := by rfl) (hpl : (backTo pos (starEach es X.env)).any (·.1) = false := by rfl) :
    PE X (.Call (.Name x p) (e :: es) [] pos) (tMake C sp dvs E t) :=
  ⟨fun pins s σ H Q I h => wpAny_Call_Name_kw (ld_glob I hg hm (PySem.W.callWith_K (h₀ := X.base) I.ok.mod.kin M.kp (thn (ha.run pos pins s σ H _ I h) fun us s1 ⟨vs, H1, I1, r, q⟩ => ⟨I1.kIn, run_makeG M F hr hb hd hx I1 r q⟩) he hpl) hdb)⟩
theorem pe_make0G (M : Mk X.K C f) (F : FnG X.prog X.w X.K X.mg X.base CX k f fd ps sp) (hr : Rm (k + 1) X.A) (hg : Gl X x) (hm : X.mg x = some (.ref C)) (hb : Binds X.K fd ps ds) (hd : Vals dvs ds) (hx : Passes CX X E)
    (hdb : (x == ("__debug__" : Str)) = false := by decide) : PE X (.Call (.Name x p) [] [] pos) (tMake C sp dvs E tNil) :=
  ⟨fun pins s σ H Q I h => wpAny_Call_Name_kw (ld_glob I hg hm (PySem.W.callWith_K0 I.kIn M.kp (run_makeG (us := []) M F hr hb hd hx I .nil h)) hdb)⟩
end
end LL

set_option Elab.async false
set_option linter.all false
set_option maxRecDepth 100000
set_option maxHeartbeats 2000000
/-! LLOwn: operators, ==, !=, str, repr of instances of own classes; repr of data. -/
namespace LL
open PySem PySem.Spec PyProof.Rows L2
/-! ### != by an own __eq__ -/
section
variable {prog : Program} {w : World} {A : Around} {E : Value → Shared → Prop} {s : Shared} {K : PySem.W.Frag} {x C f : Addr} {ox : Obj} {od : Option Obj} {b tb : Value}
/-- a special method that is a built-in's, bound if it can be -/
theorem ifBound_b {M : Model} {name : Str} {id : String} {args : List Value} {Q : Option Value → Shared → Prop} (X : K.In s.heap) (I : PySem.W.InstAt s.heap x ox C od) (hs : PySem.W.findIn K (.ref C) name = some (some (.builtin id)))
    (hb : ∀ self, bindSpecial (.builtin id) self = pure (.builtin id, [self])) (h : wpAny M A (call (.builtin id) (.ref x :: args)) (fun v => Q (some v)) E s) : wpAny M A (callSpecialIfBound? (.ref x) name args) Q E s := by
  have fin : wpAny M A (call (.builtin id) ([.ref x] ++ args) >>= fun v => pure (some v)) Q E s := wpAny_bind (thn h fun _ _ z => wpAny_pure z)
  have bnd : PySem.W.Looks M s.heap (bindSpecial (.builtin id) (.ref x)) (.builtin id, [.ref x]) := PySem.W.Looks.of_pure (hb _)
  unfold callSpecialIfBound? bindSpecialIfBound?
  refine wpAny_holding (wpAny_bind (wpAny_bind (wpAny_bind (I.type.here ((PySem.W.looks_findIn X hs).here ?_)))))
  refine wpAny_bind (wpAny_askSetting (wpAny_ite ?_))
  split
  · exact wpAny_bind (bnd.here (wpAny_pure (by exact fin)))
  · exact wpAny_tryCatch (wpAny_bind (bnd.here (wpAny_pure (by exact fin))))
open Builtin in
theorem ne_own {Q : Value → Shared → Prop} (hu : A.units + 1 < cLine) (X : K.In s.heap) (I : PySem.W.InstAt s.heap x ox C od) (hb : PySem.W.Looks (model prog w) s.heap (typeOf b) tb) (hn : PySem.W.notFirst K C tb = true) (hm : PySem.W.mroIn K C (.type "object") = some true)
    (hs : PySem.W.findIn K (.ref C) "__eq__" = some (some (.ref f))) (hf : PySem.W.isFn K (.ref f) = true) (hne : PySem.W.findIn K (.ref C) "__ne__" = some (some (.builtin "object.__ne__")))
    (h : wpAny (model prog w) A.in1 (call (.ref f) [.ref x, b]) (fun v s' => ∃ c, v = .bool c ∧ Q (.bool (!c)) s') E s) : wpAny (model prog w) A (richCompare .NotEq (.ref x) b) Q E s := by
  have one : wpAny (model prog w) A (tryCompare (.ref x) (cmpInfo .NotEq).2.1 b) (fun r s' => ∃ v, r = some v ∧ Q v s') E s := by
    unfold tryCompare
    refine wpAny_bind (ifBound_b (name := "__ne__") X I hne PySem.F.slot_tuple_iterator_ne.bind ?_)
    refine wpAny_call (codeAny_call_builtin PySem.F.slot_tuple_iterator_ne.plain PySem.F.cmpEntry_ne (PySem.W.check_slot PySem.F.cmpKind_ne PySem.F.cmpSplit_ne (I.type.andThen (PySem.W.looks_mroIn X hm)) (PySem.F.cmpArgs_ne _ _) ?_))
    unfold Builtin.«object.__ne__»
    refine wpAny_bind (m := slotArgs "__ne__" 1 _) (wpAny_pure ?_)
    refine wpAny_bind (m := cRoomFor _ _) (wpAny_cRoomFor hu ?_)
    refine wpAny_bind (m := callSpecialIfBound? (.ref x) (Str.ofString "__eq__") _) (PySem.W.ifBound_K X I hs hf (thn h fun r s' hr => ?_))
    obtain ⟨c, rfl, hq⟩ := hr
    refine wpAny_bind (wpAny_truthy_bool (wpAny_pure ?_))
    exact wpAny_pure ⟨_, rfl, hq⟩
  unfold richCompare
  simp only [oneThing_ref]
  refine wpAny_holding (wpAny_bind (wpAny_cRoomFor (by omega) ?_))
  refine wpAny_bind (I.type.here (wpAny_bind (hb.here ?_)))
  split
  · rename_i q
    have e : PySem.W.subIn K tb (.ref C) = some false := by
      rcases Bool.or_eq_true_iff.mp hn with e | e
      · rw [beq_iff_eq.mp e] at q
        simp at q
      · exact beq_iff_eq.mp e
    refine wpAny_bind ((PySem.W.looks_subIn X e).here ?_)
    simp only [Bool.false_eq_true, if_false]
    refine wpAny_bind (thn one fun r s' z => ?_)
    obtain ⟨v, rfl, hq⟩ := z
    exact wpAny_pure hq
  · refine wpAny_bind (wpAny_pure ?_)
    simp only [Bool.false_eq_true, if_false]
    refine wpAny_bind (thn one fun r s' z => ?_)
    obtain ⟨v, rfl, hq⟩ := z
    exact wpAny_pure hq
end
/-! ### rules -/
section
variable {X : Cx} {CX : CXT} {k : Nat} {f C : Addr} {fd : FuncData} {ps : List Str} {sp : Sp} {E : XK}
/-- the object's own record -/
theorem inst_of {pins : List (Addr × Obj)} {σ : L2.St} {H : Hp} {s : Shared} {a dx : Addr} {fs : List (Str × V)} (I : Inv X pins σ H s) (e : H a = some (.ins C dx fs)) : ∃ od, PySem.W.InstAt s.heap a (PySem.W.instObj C dx) C (some od) := by
  obtain ⟨mA, O, _⟩ := ins_get I.hok e
  obtain ⟨od, J, _⟩ := O.look
  exact ⟨od, J⟩
/-- a number's operator that the class at C has as a def -/
structure OpAt (K : PySem.W.Frag) (C : Addr) (op : Operator) (f : Addr) : Prop where
  first : PySem.W.selfFirst K C = true
  at_ : PySem.W.findIn K (.ref C) (PySem.dunder op.info.2) = some (some (.ref f))
  fn : PySem.W.isFn K (.ref f) = true
/-- .. asked with an int at the right -/
structure OpInt (K : PySem.W.Frag) (C : Addr) (op : Operator) : Prop where
  back : PySem.W.findIn K (.ref C) (PySem.dunderR op.info.2) = some none
  io : ∃ fo, PySem.W.findIn K (.type "int") (PySem.dunder op.info.2) = some fo
  ir : ∃ ro, PySem.W.findIn K (.type "int") (PySem.dunderR op.info.2) = some ro
  sub : PySem.W.subIn K (.type "int") (.ref C) = some false
/-- x op y: both of the class at C; or y an int -/
def rBin (C : Addr) (sp : Sp) (E : XK) : R2 := fun x y H Q => ∃ a dx fs, x = .ref a ∧ H a = some (.ins C dx fs) ∧ ((∃ b dy gs, y = .ref b ∧ H b = some (.ins C dy gs)) ∨ ∃ i, y = .int i) ∧ sp [x, y] H Q E
theorem op_bin {op : Operator} (O : OpAt X.K C op f) (OI : OpInt X.K C op) (F : FnG X.prog X.w X.K X.mg X.base CX k f fd ps sp) (hr : Rm k X.A) (hb : Binds X.K fd ps []) (hx : Passes CX X E) : OpR X (binaryOp op) (rBin C sp E) := by
  intro pins s σ H x y v u Q I rx ry h
  obtain ⟨a, dx, fs, rfl, ha, hy, q⟩ := h
  cases (show v = Value.ref a from rx)
  obtain ⟨od, J⟩ := inst_of I ha
  obtain ⟨m, hF⟩ := I.fr
  have go : wpAny (model X.prog X.w) X.A (call (.ref f) [.ref a, u]) (PySem.W.CmpBack (EP X pins σ Q)) X.xe s := by
    refine thn (run_g (us := [.ref a, u]) (vs := [.ref a, y]) (dvs := []) F hr I.env0 hb .nil hx I (.cons rfl (.cons ry .nil)) q) fun w s' z => ?_
    obtain ⟨z', H', I', rz, qz⟩ := z
    exact SlX.cmpback rz ⟨z', H', I', rz, qz⟩
  rcases hy with ⟨b, dy, gs, rfl, hb⟩ | ⟨i, rfl⟩
  · cases (show u = Value.ref b from ry)
    obtain ⟨od', J'⟩ := inst_of I hb
    exact PySem.W.binop_K hF I.ok.mod.kin J J'.type O.first O.at_ O.fn go
  · obtain ⟨t, rfl⟩ := (show ∃ t, u = Value.int i t from ry)
    obtain ⟨fo, h1⟩ := OI.io
    obtain ⟨ro, h2⟩ := OI.ir
    exact PySem.W.ksp_binT (T := "int") hF I.ok.mod.kin J (by rfl) O.first O.at_ O.fn OI.back (.inl rfl) h1 h2 OI.sub go
/-- -x -/
def rNeg (C : Addr) (sp : Sp) (E : XK) : V → Hp → VK → Prop := fun x H Q => ∃ a dx fs, x = .ref a ∧ H a = some (.ins C dx fs) ∧ sp [x] H Q E
theorem un_own (hs : PySem.W.findIn X.K (.ref C) "__neg__" = some (some (.ref f))) (hf : PySem.W.isFn X.K (.ref f) = true) (F : FnG X.prog X.w X.K X.mg X.base CX k f fd ps sp) (hr : Rm k X.A) (hb : Binds X.K fd ps []) (hx : Passes CX X E) : UnR X (unaryOp .USub) (rNeg C sp E) := by
  intro pins s σ H x v Q I rx h
  obtain ⟨a, dx, fs, rfl, ha, q⟩ := h
  cases (show v = Value.ref a from rx)
  obtain ⟨od, J⟩ := inst_of I ha
  obtain ⟨m, hF⟩ := I.fr
  exact PySem.W.ksp_neg hF I.ok.mod.kin J hs hf (run_g (us := [.ref a]) (vs := [.ref a]) (dvs := []) F hr I.env0 hb .nil hx I (.cons rfl .nil) q)
/-- x == y by x's own __eq__, whatever y is -/
def rEqO (K : PySem.W.Frag) (C : Addr) (sp : Sp) (E : XK) : R2 := fun x y H Q => ∃ a dx fs t, x = .ref a ∧ H a = some (.ins C dx fs) ∧ TyX K H y t ∧ PySem.W.notFirst K C t = true ∧ sp [x, y] H Q E
theorem op_eqO (hs : PySem.W.findIn X.K (.ref C) "__eq__" = some (some (.ref f))) (hf : PySem.W.isFn X.K (.ref f) = true) (F : FnG X.prog X.w X.K X.mg X.base CX k f fd ps sp) (hr : Rm k X.A) (hb : Binds X.K fd ps []) (hx : Passes CX X E) : OpR X (compareOp .Eq) (rEqO X.K C sp E) := by
  intro pins s σ H x y v u Q I rx ry h
  obtain ⟨a, dx, fs, t, rfl, ha, ty, hn, q⟩ := h
  cases (show v = Value.ref a from rx)
  obtain ⟨od, J⟩ := inst_of I ha
  obtain ⟨m, hF⟩ := I.fr
  obtain ⟨P, Z, hp, _⟩ := kit_of I ry ty
  refine PySem.W.cmp_K (op := .Eq) hr.r.units0 hF I.ok.mod.kin J (Z.ty _ _ I.kIn hp) hn hs hf ?_
  refine thn (run_g (us := [.ref a, u]) (vs := [.ref a, y]) (dvs := []) F hr I.env0 hb .nil hx I (.cons rfl (.cons ry .nil)) q) fun w s' z => ?_
  obtain ⟨z', H', I', rz, qz⟩ := z
  exact SlX.cmpback rz ⟨z', H', I', rz, qz⟩
/-- x != y by x's own __eq__ -/
def rNeO (K : PySem.W.Frag) (C : Addr) (sp : Sp) (E : XK) : R2 := fun x y H Q => ∃ a dx fs t, x = .ref a ∧ H a = some (.ins C dx fs) ∧ TyX K H y t ∧ PySem.W.notFirst K C t = true ∧ sp [x, y] H (fun z H' => ∃ c, z = .bl c ∧ Q (.bl (!c)) H') E
theorem op_neO (hs : PySem.W.findIn X.K (.ref C) "__eq__" = some (some (.ref f))) (hf : PySem.W.isFn X.K (.ref f) = true) (hne : PySem.W.findIn X.K (.ref C) "__ne__" = some (some (.builtin "object.__ne__"))) (hm : PySem.W.mroIn X.K C (.type "object") = some true)
    (F : FnG X.prog X.w X.K X.mg X.base CX k f fd ps sp) (hr : Rm (k + 1) X.A) (hb : Binds X.K fd ps []) (hx : Passes CX X E) : OpR X (compareOp .NotEq) (rNeO X.K C sp E) := by
  intro pins s σ H x y v u Q I rx ry h
  obtain ⟨a, dx, fs, t, rfl, ha, ty, hn, q⟩ := h
  cases (show v = Value.ref a from rx)
  obtain ⟨od, J⟩ := inst_of I ha
  obtain ⟨P, Z, hp, _⟩ := kit_of I ry ty
  have hu := hr.r.units
  refine ne_own (by omega) I.kIn J (Z.ty _ _ I.kIn hp) hn hm hs hf hne ?_
  refine thn (run_g (us := [.ref a, u]) (vs := [.ref a, y]) (dvs := []) F hr.in1 I.env0.in1 hb .nil hx I (.cons rfl (.cons ry .nil)) q) fun w s' z => ?_
  obtain ⟨z', H', I', rz, c, rfl, qz⟩ := z
  cases (show w = Value.bool c from rz)
  exact ⟨c, rfl, .bl (!c), H', I', rfl, qz⟩
/-- repr(x), str(x) by the class's own def -/
def rShow (C : Addr) (sp : Sp) (E : XK) : List V → Hp → VK → Prop := fun xs H Q => ∃ a dx fs, xs = [.ref a] ∧ H a = some (.ins C dx fs) ∧ sp [.ref a] H (fun z H' => ∃ y, z = .str y ∧ Q z H') E
theorem call_reprO (hs : PySem.W.findIn X.K (.ref C) "__repr__" = some (some (.ref f))) (hf : PySem.W.isFn X.K (.ref f) = true) (F : FnG X.prog X.w X.K X.mg X.base CX k f fd ps sp) (hr : Rm (k + 1) X.A) (hb : Binds X.K fd ps []) (hx : Passes CX X E) : CallR X (.builtin "repr") (rShow C sp E) := by
  intro pins s σ H xs us Q I r h
  obtain ⟨a, dx, fs, rfl, ha, q⟩ := h
  obtain ⟨u, rfl, ru⟩ := r.one
  cases (show u = Value.ref a from ru)
  obtain ⟨od, J⟩ := inst_of I ha
  obtain ⟨m, hF⟩ := I.fr
  refine PySem.W.repr_K hr.in1.r.units0 hF I.ok.mod.kin J hs hf (thn (run_g (us := [.ref a]) (vs := [.ref a]) (dvs := []) F hr.in1 I.env0.in1 hb .nil hx I (.cons rfl .nil) q) fun w s' z => ?_)
  obtain ⟨z', H', I', rz, y, rfl, qz⟩ := z
  obtain ⟨t, rfl⟩ := (show ∃ t, w = Value.str y t from rz)
  exact ⟨.str y, H', I', ⟨t, rfl⟩, qz⟩
theorem call_strO (hs : PySem.W.findIn X.K (.ref C) "__str__" = some (some (.ref f))) (hf : PySem.W.isFn X.K (.ref f) = true) (F : FnG X.prog X.w X.K X.mg X.base CX k f fd ps sp) (hr : Rm (k + 2) X.A) (hb : Binds X.K fd ps []) (hx : Passes CX X E) : CallR X (.type "str") (rShow C sp E) := by
  intro pins s σ H xs us Q I r h
  obtain ⟨a, dx, fs, rfl, ha, q⟩ := h
  obtain ⟨u, rfl, ru⟩ := r.one
  cases (show u = Value.ref a from ru)
  obtain ⟨od, J⟩ := inst_of I ha
  have hr2 : Rm k X.A.in1.in1 := (show Rm (k + 1) X.A.in1 from hr.in1).in1
  refine PySem.W.kso_call hr2.r.units0 I.kIn J hs hf (thn (run_g (us := [.ref a]) (vs := [.ref a]) (dvs := []) F hr2 I.env0.in1.in1 hb .nil hx I (.cons rfl .nil) q) fun w s' z => ?_)
  obtain ⟨z', H', I', rz, y, rfl, qz⟩ := z
  obtain ⟨t, rfl⟩ := (show ∃ t, w = Value.str y t from rz)
  exact ⟨.str y, H', I', ⟨t, rfl⟩, qz⟩
/-- repr of data: ints, texts, bools, None, lists and tuples of these -/
def rRepD (K : PySem.W.Frag) : List V → Hp → VK → Prop := fun xs H Q => ∃ a d, xs = [.ref a] ∧ Dp K H (.ref a) d ∧ d.showable = true ∧ d.hasDict = false ∧ d.depth ≤ 40 ∧ d.shown.length ≤ sizeLine ∧ Q (.str d.shown) H
theorem call_reprD (hr : Rm k X.A) : CallR X (.builtin "repr") (rRepD X.K) := by
  intro pins s σ H xs us Q I r h
  obtain ⟨a, d, rfl, hd, hs, hn, hp, hz, q⟩ := h
  obtain ⟨u, rfl, ru⟩ := r.one
  obtain ⟨as, rd⟩ := Dp.reads I d _ _ hd ru
  cases (show u = Value.ref a from ru)
  have hu := hr.r.units
  exact repr_of_reads' rd hs (fun z => by rw [hn] at z; cases z) hr.g (by omega) (fun _ _ e => e) (fun h' u tk hk => ⟨.str d.shown, H, I.kept hk, ⟨_, rfl⟩, q⟩) hz
end
end LL

set_option Elab.async false
set_option linter.all false
set_option maxRecDepth 100000
set_option maxHeartbeats 2000000
/-! LLCall: a def, a method, a maker, a property, each as one fact; some operators. -/
namespace LL
open PySem PySem.Spec PyProof.Rows L2
section
variable (P : Program) (w : World) (K : PySem.W.Frag) (mg : Str → Option Value) (base : Heap) (CX : CXT) (k : Nat)
/-- the module's name x is a def that keeps sp; dvs fill up -/
structure Fnc (x : Str) (dvs : List V) (sp : Sp) : Prop where
  ex : ∃ (f : Addr) (fd : FuncData) (ps : List Str) (ds : List Value), mg x = some (.ref f) ∧ PySem.W.keepIn K (.ref f) = true ∧ Binds K fd ps ds ∧ Vals dvs ds ∧ FnG P w K mg base CX k f fd ps sp
/-- the class at C has the method m -/
structure Mth (C : Addr) (m : Str) (dvs : List V) (sp : Sp) : Prop where
  cl : Cls K C
  ex : ∃ (f : Addr) (fd : FuncData) (ps : List Str) (ds : List Value), Meth K C m f ∧ Binds K fd ps ds ∧ Vals dvs ds ∧ FnG P w K mg base CX k f fd ps sp
/-- the module's name x is the class at C, made by an __init__ that keeps sp -/
structure Mkr (x : Str) (C : Addr) (dvs : List V) (sp : Sp) : Prop where
  ex : ∃ (f : Addr) (fd : FuncData) (ps : List Str) (ds : List Value), Mk K C f ∧ mg x = some (.ref C) ∧ Binds K fd ps ds ∧ Vals dvs ds ∧ FnG P w K mg base CX k f fd ps sp
/-- the class at C has the property m -/
structure Prp (C : Addr) (m : Str) (sp : Sp) : Prop where
  cl : Cls K C
  ex : ∃ (p g : Addr) (fd : FuncData) (ps : List Str), PropOf K C m p g ∧ Binds K fd ps [] ∧ FnG P w K mg base CX k g fd ps sp
end
section
variable {X : Cx} {CX : CXT} {k : Nat} {C : Addr} {sp : Sp} {dvs : List V} {E : XK} {x m : Str} {p pos apos : Pos} {e o : Expr} {es : List Expr} {ta : TE} {t : TA}
theorem pe_fn (G : Fnc X.prog X.w X.K X.mg X.base CX k x dvs sp) (hr : Rm k X.A) (hx : Passes CX X E) (ha : PA X (e :: es) t) (hg : Gl X x := by rfl) (hdb : (x == ("__debug__" : Str)) = false := by decide)
    (he : starEach (e :: es) X.env = (false, eval e X.env) :: starEach es X.env := by rfl) (hpl : (backTo pos (starEach es X.env)).any (·.1) = false := by rfl) : PE X (.Call (.Name x p) (e :: es) [] pos) (tCall sp dvs E t) := by
  obtain ⟨f, fd, ps, ds, hm, hk, hb, hd, F⟩ := G.ex
  exact pe_callG F hr hg hm hk hb hd hx ha hdb he hpl
theorem pe_fn0 (G : Fnc X.prog X.w X.K X.mg X.base CX k x dvs sp) (hr : Rm k X.A) (hx : Passes CX X E) (hg : Gl X x := by rfl) (hdb : (x == ("__debug__" : Str)) = false := by decide) : PE X (.Call (.Name x p) [] [] pos) (tCall sp dvs E tNil) := by
  obtain ⟨f, fd, ps, ds, hm, hk, hb, hd, F⟩ := G.ex
  exact pe_call0G F hr hg hm hk hb hd hx hdb
theorem pe_mt {pl : Sem Bool} (G : Mth X.prog X.w X.K X.mg X.base CX k C m dvs sp) (hr : Rm k X.A) (hx : Passes CX X E) (he : PE X o ta) (ha : PA X (e :: es) t)
    (hst : starEach (e :: es) X.env = (false, eval e X.env) :: starEach es X.env := by rfl) (hpl : (backTo pos (starEach es X.env)).any (·.1) = false := by rfl)
    (ht : eval (.Call (.Attribute o m apos) (e :: es) [] pos) X.env = (do
      let ov ← eval o X.env
      standAt apos.atName
      let (f, first) ← holding [ov] (getMethod ov m pl)
      callWith pos f first (backTo pos (starEach (e :: es) X.env)) (backToKw pos (keywordEach [] X.env))) := by rfl) : PE X (.Call (.Attribute o m apos) (e :: es) [] pos) (tMeth C m sp dvs E ta t) := by
  obtain ⟨f, fd, ps, ds, hm, hb, hd, F⟩ := G.ex
  exact pe_methG he G.cl hm F hr hb hd hx ha hst hpl ht
theorem pe_mt0 {pl : Sem Bool} (G : Mth X.prog X.w X.K X.mg X.base CX k C m dvs sp) (hr : Rm k X.A) (hx : Passes CX X E) (he : PE X o ta)
    (ht : eval (.Call (.Attribute o m apos) [] [] pos) X.env = (do
      let ov ← eval o X.env
      standAt apos.atName
      let (f, first) ← holding [ov] (getMethod ov m pl)
      callWith pos f first (backTo pos (starEach [] X.env)) (backToKw pos (keywordEach [] X.env))) := by rfl) : PE X (.Call (.Attribute o m apos) [] [] pos) (tMeth C m sp dvs E ta tNil) := by
  obtain ⟨f, fd, ps, ds, hm, hb, hd, F⟩ := G.ex
  exact pe_meth0G he G.cl hm F hr hb hd hx ht
theorem pe_mk (G : Mkr X.prog X.w X.K X.mg X.base CX k x C dvs sp) (hr : Rm (k + 1) X.A) (hx : Passes CX X E) (ha : PA X (e :: es) t) (hg : Gl X x := by rfl) (hdb : (x == ("__debug__" : Str)) = false := by decide)
    (he : starEach (e :: es) X.env = (false, eval e X.env) :: starEach es X.env := by rfl) (hpl : (backTo pos (starEach es X.env)).any (·.1) = false := by rfl) : PE X (.Call (.Name x p) (e :: es) [] pos) (tMake C sp dvs E t) := by
  obtain ⟨f, fd, ps, ds, M, hm, hb, hd, F⟩ := G.ex
  exact pe_makeG M F hr hg hm hb hd hx ha hdb he hpl
theorem pe_mk0 (G : Mkr X.prog X.w X.K X.mg X.base CX k x C dvs sp) (hr : Rm (k + 1) X.A) (hx : Passes CX X E) (hg : Gl X x := by rfl) (hdb : (x == ("__debug__" : Str)) = false := by decide) : PE X (.Call (.Name x p) [] [] pos) (tMake C sp dvs E tNil) := by
  obtain ⟨f, fd, ps, ds, M, hm, hb, hd, F⟩ := G.ex
  exact pe_make0G M F hr hg hm hb hd hx hdb
/-- e.m, a property -/
def tPr (C : Addr) (sp : Sp) (E : XK) (ta : TE) : TE := fun σ H Q => ta σ H fun x H1 => ∃ a dx fs, x = .ref a ∧ H1 a = some (.ins C dx fs) ∧ sp [.ref a] H1 Q E
theorem pe_pr (G : Prp X.prog X.w X.K X.mg X.base CX k C m sp) (hr : Rm (k + 1) X.A) (hx : Passes CX X.nox E) (he : PE X e ta) (hab : attributeBase e m X.env (eval e X.env) = eval e X.env := by rfl) : PE X (.Attribute e m pos) (tPr C sp E ta) := by
  obtain ⟨p, g, fd, ps, hp, hb, F⟩ := G.ex
  refine ⟨fun pins s σ H Q I h => attr_of hab (thn (he.run pins s σ H _ I h) fun u s1 hh => ?_)⟩
  obtain ⟨x, H1, I1, rx, a, dx, fs, rfl, ea, q⟩ := hh
  obtain rfl : u = Value.ref a := rx
  obtain ⟨od, J⟩ := inst_of I1 ea
  have c := G.cl
  have hc : (PySem.W.clsIn X.K C).isSome = true := by
    obtain ⟨cd, hc, _⟩ := PySem.W.any_some c.hd
    rw [hc]
    rfl
  obtain ⟨rest, hrec⟩ := hp.rec_
  have I2 : Inv X pins σ H1 { s1 with toks := s1.toks + 1 } := I1.tok _
  have hl : ([Value.ref a] : List Value).length = ps.length := F.len _ _ _ _ q
  refine PySem.W.get_bind I1.kIn J (PySem.W.plainGet_of (c.get m)).1 (PySem.W.findObj_data hc hp.at_ hp.get hp.tak) (PySem.W.plainGet_of (c.get m)).2 (wpAny_call (PySem.W.prop_get (s := { s1 with toks := s1.toks + 1 }) I1.kIn hrec ?_))
  have go := F.run X.A.in1 X.stack { s1 with toks := s1.toks + 1 } H1 ⟨[.ref a], []⟩ [.ref a] [.ref a] Q E hr.in1 I2.env0.in1 (hb _ [.ref a] I2.kIn hl) (.cons rfl .nil) q
  refine codeAny_mono go fun r s' hq => ?_
  match r, hq with
  | .error er, hq => exact False.elim (hx pins σ H1 _ er s' (I2.wish _) hq)
  | .ok (.ret u), hq =>
    obtain ⟨v, H', I3, rv, q3⟩ := I2.after hq
    exact wpAny_of_eq (PySem.W.handedOut_of (handed_of rv)) ⟨v, H', I3, rv, q3⟩
  | .ok .next, hq => exact False.elim hq
  | .ok .brk, hq => exact False.elim hq
  | .ok .cont, hq => exact False.elim hq
/-! ### some operators -/
/-- // by any number but 0 -/
def CDivZ (_ j : Int) : Prop := j ≠ 0 ∧ j.natAbs.log2 < 9000
theorem op_fdivZ : OpR X (binaryOp .FloorDiv) (rI CDivZ fun i j => .int (i.fdiv j)) := opI fun _ _ _ _ _ _ _ hc q => floordiv_int hc.1 q (.inl (PyProof.noPylong_of_log2 hc.2))
theorem wide_divZ {i j : Int} {b : Nat} (h : j ≠ 0) (hb : j.natAbs < 2 ^ b) (h0 : 0 < b) (h9 : b ≤ 9000) : CDivZ i j := ⟨h, Nat.lt_of_lt_of_le (PySem.Flt.log2_lt_of h0 hb) h9⟩
end
/-! ### tests -/
theorem iteY {c : Bool} {A B : Prop} (h : c = true) (a : A) : if c = true then A else B := by
  rw [if_pos h]
  exact a
theorem iteN {c : Bool} {A B : Prop} (h : c = false) (b : B) : if c = true then A else B := by
  rw [if_neg (by rw [h]; exact Bool.false_ne_true)]
  exact b
theorem iteB {c : Bool} {A B : Prop} (h1 : c = true → A) (h2 : c = false → B) : if c = true then A else B := by
  cases c with
  | true => exact iteT (h1 rfl)
  | false => exact iteF (h2 rfl)
theorem dec_ne {i j : Int} (h : i ≠ j) : decide (V.int i = V.int j) = false := decide_eq_false fun z => h (V.int.inj z)
theorem dec_eq {i j : Int} (h : i = j) : decide (V.int i = V.int j) = true := decide_eq_true (by rw [h])
/-! ### heaps -/
/-- all that was tracked but p is as it was -/
def But (p : Addr) (H H' : Hp) : Prop := ∀ b o, H b = some o → b ≠ p → H' b = some o
theorem But.refl {p : Addr} {H : Hp} : But p H H := fun _ _ e _ => e
theorem But.trans {p : Addr} {H H1 H2 : Hp} (a : But p H H1) (b : But p H1 H2) : But p H H2 := fun c o e n => b c o (a c o e n) n
theorem But.of {p : Addr} {H H' : Hp} (a : Same H H') : But p H H' := fun c o e _ => a c o e
theorem same_upd {H : Hp} {p : Addr} {o : HO} (h : H p = none) : Same H (upd H p o) := fun b x e => by
  rw [upd_ne (ne_of_none e h)]
  exact e
theorem but_upd {H : Hp} {p : Addr} {o : HO} : But p H (upd H p o) := fun b x e n => by
  rw [upd_ne n]
  exact e
/-- what was new at p stands beside what was -/
theorem But.same {p : Addr} {H H' : Hp} (a : But p H H') (n : H p = none) : Same H H' := fun b o e => a b o e (ne_of_none e n)
theorem But.free {p : Addr} {H H' : Hp} (a : But p H H') {b : Addr} (hb : b ≠ p) (h : H' b = none) : H b = none := by
  cases q : H b with
  | none => rfl
  | some o =>
    rw [a b o q hb] at h
    cases h
end LL

set_option Elab.async false
set_option linter.all false
set_option maxRecDepth 100000
set_option maxHeartbeats 2000000
/-! LLData: what repr of data is, how long it is. -/
namespace LL
open PySem PySem.Spec PyProof.Rows L2
/-- signs as texts have them -/
def Asc (x : Str) : Prop := ∀ c ∈ x.cps.toList, c < 16 ^ 8
theorem asc_of (s : String) : Asc (Str.ofString s) := by
  intro c hc
  rw [signs_ofString] at hc
  obtain ⟨k, _, rfl⟩ := List.mem_map.mp hc
  have h : k.toNat < 1114112 := by
    have := k.valid
    rcases this with h | ⟨_, h⟩
    · exact Nat.lt_trans h (by decide)
    · exact h
  exact Nat.lt_trans h (by decide)
theorem Asc.app {x y : Str} (hx : Asc x) (hy : Asc y) : Asc (x ++ y) := by
  intro c hc
  rw [Str.cps_append, Array.toList_append] at hc
  rcases List.mem_append.mp hc with h | h
  · exact hx c h
  · exact hy c h
theorem textFrom_size : ∀ (ts : List Str) (k : Nat) (acc : Str), (textFrom k acc ts).length ≤ acc.length + piled ts
  | [], _, acc => Nat.le_add_right _ _
  | t :: r, k, acc => by
    have h := textFrom_size r (k + 1) (acc ++ (if k > 0 then ", " else "" : String) ++ t)
    have e : (((if k > 0 then ", " else "" : String) : Str)).length ≤ 2 := by split <;> decide +kernel
    rw [strLen_append, strLen_append] at h
    rw [piled_cons]
    show (textFrom (k + 1) _ r).length ≤ _
    omega
theorem listText_size (ts : List Str) : (listText ts).length ≤ piled ts + 2 := by
  have h := textFrom_size ts 0 "["
  unfold listText
  rw [strLen_append]
  have e1 : ((("[" : String) : Str)).length = 1 := rfl
  have e2 : ((("]" : String) : Str)).length = 1 := rfl
  omega
mutual
/-- a bound on the signs that are shown -/
def cost : PyData → Nat
  | .none => 5
  | .bool _ => 5
  | .int _ => 1930
  | .str x => 10 * x.length + 2
  | .list xs => costAll xs + 2
  | .tuple xs => costAll xs + 2
  | .dict _ => 0
def costAll : List PyData → Nat
  | [] => 0
  | x :: xs => cost x + 2 + costAll xs
end
mutual
/-- data without dicts that repr can show -/
def Shw : PyData → Prop
  | .none => True
  | .bool _ => True
  | .int i => i.natAbs.log2 < 1920
  | .str x => Asc x
  | .list xs => ShwAll xs
  | .tuple xs => ShwAll xs
  | .dict _ => False
def ShwAll : List PyData → Prop
  | [] => True
  | x :: xs => Shw x ∧ ShwAll xs
end
mutual
theorem Shw.all : ∀ d : PyData, Shw d → d.shown.length ≤ cost d ∧ d.showable = true ∧ d.hasDict = false
  | .none, _ => ⟨by simp only [PyData.shown, cost]; decide +kernel, by simp only [PyData.showable], by simp only [PyData.hasDict]⟩
  | .bool b, _ => ⟨by simp only [PyData.shown, cost]; cases b <;> decide +kernel, by simp only [PyData.showable], by simp only [PyData.hasDict]⟩
  | .int i, h => by
    simp only [Shw] at h
    refine ⟨?_, by simp only [PyData.showable]; exact decide_eq_true h, by simp only [PyData.hasDict]⟩
    simp only [PyData.shown, cost]
    have e := int_text_length_le (k := 1920) (by decide) h
    rw [PySem.ofString_length]
    omega
  | .str x, h => by
    simp only [Shw] at h
    exact ⟨by simp only [PyData.shown, cost]; exact StrLaws.reprText_len x h, by simp only [PyData.showable], by simp only [PyData.hasDict]⟩
  | .list xs, h => by
    simp only [Shw] at h
    obtain ⟨h1, h2, h3⟩ := ShwAll.all xs h
    refine ⟨?_, by simp only [PyData.showable]; exact h2, by simp only [PyData.hasDict]; exact h3⟩
    simp only [PyData.shown, cost]
    exact Nat.le_trans (listText_size _) (by omega)
  | .tuple xs, h => by
    simp only [Shw] at h
    obtain ⟨h1, h2, h3⟩ := ShwAll.all xs h
    refine ⟨?_, by simp only [PyData.showable]; exact h2, by simp only [PyData.hasDict]; exact h3⟩
    simp only [PyData.shown, cost]
    exact Nat.le_trans (fmt_text _) (by omega)
  | .dict _, h => by
    simp only [Shw] at h
theorem ShwAll.all : ∀ xs : List PyData, ShwAll xs → piled (PyData.shownAll xs) ≤ costAll xs ∧ PyData.showableAll xs = true ∧ PyData.hasDictAll xs = false
  | [], _ => ⟨by simp only [PyData.shownAll, costAll]; exact Nat.le_refl _, by simp only [PyData.showableAll], by simp only [PyData.hasDictAll]⟩
  | x :: xs, h => by
    simp only [ShwAll] at h
    obtain ⟨a1, a2, a3⟩ := Shw.all x h.1
    obtain ⟨b1, b2, b3⟩ := ShwAll.all xs h.2
    refine ⟨?_, by simp only [PyData.showableAll]; rw [a2, b2]; rfl, by simp only [PyData.hasDictAll]; rw [a3, b3]; rfl⟩
    simp only [PyData.shownAll, costAll]
    rw [piled_cons]
    omega
end
section
variable {X : Cx} {k : Nat}
/-- repr of a list or tuple of such -/
def rRepS (K : PySem.W.Frag) : List V → Hp → VK → Prop := fun xs H Q => ∃ a d, xs = [.ref a] ∧ Dp K H (.ref a) d ∧ Shw d ∧ d.depth ≤ 40 ∧ cost d ≤ sizeLine ∧ Q (.str d.shown) H
theorem call_reprS (hr : Rm k X.A) : CallR X (.builtin "repr") (rRepS X.K) := by
  intro pins s σ H xs us Q I r h
  obtain ⟨a, d, rfl, hd, hs, hp, hz, q⟩ := h
  obtain ⟨h1, h2, h3⟩ := Shw.all d hs
  exact call_reprD hr pins s σ H _ us Q I r ⟨a, d, rfl, hd, h2, h3, hp, Nat.le_trans h1 hz, q⟩
/-- repr of what is no object: None, a bool, an int, a text -/
def rRepF : List V → Hp → VK → Prop := fun xs H Q => (∃ i, xs = [.int i] ∧ i.natAbs.log2 < 1920 ∧ Q (.str (toString i)) H) ∨ (∃ b, xs = [.bl b] ∧ Q (.str (if b then "True" else "False")) H) ∨ (xs = [.non] ∧ Q (.str "None") H) ∨
  (∃ x, xs = [.str x] ∧ (reprText x).length ≤ sizeLine ∧ Q (.str (reprText x)) H)
theorem call_reprF : CallR X (.builtin "repr") rRepF := by
  intro pins s σ H xs us Q I r h
  rcases h with ⟨i, rfl, hi, q⟩ | ⟨b, rfl, q⟩ | ⟨rfl, q⟩ | ⟨x, rfl, hx, q⟩
  · obtain ⟨u, rfl, ru⟩ := r.one
    obtain ⟨t, rfl⟩ := (show ∃ t, u = Value.int i t from ru)
    exact PySem.P.repr_of_int hi ⟨.str _, H, I.tok _, ⟨_, rfl⟩, q⟩
  · obtain ⟨u, rfl, ru⟩ := r.one
    cases (show u = Value.bool b from ru)
    exact PySem.P.repr_of_bool ⟨.str _, H, I.tok _, ⟨_, rfl⟩, q⟩
  · obtain ⟨u, rfl, ru⟩ := r.one
    cases (show u = Value.none from ru)
    exact PySem.P.repr_of_none ⟨.str _, H, I.tok _, ⟨_, rfl⟩, q⟩
  · obtain ⟨u, rfl, ru⟩ := r.one
    obtain ⟨t, rfl⟩ := (show ∃ t, u = Value.str x t from ru)
    exact PySem.P.repr_of_str ⟨.str _, H, I.tok _, ⟨_, rfl⟩, q⟩ hx
end
/-! ### an operator, a special method of an own class, each as one fact -/
section
variable (P : Program) (w : World) (K : PySem.W.Frag) (mg : Str → Option Value) (base : Heap) (CX : CXT) (k : Nat)
structure OpF (C : Addr) (op : Operator) (sp : Sp) : Prop where
  ex : ∃ (f : Addr) (fd : FuncData) (ps : List Str), OpAt K C op f ∧ OpInt K C op ∧ Binds K fd ps [] ∧ FnG P w K mg base CX k f fd ps sp
structure SpF (C : Addr) (m : Str) (sp : Sp) : Prop where
  ex : ∃ (f : Addr) (fd : FuncData) (ps : List Str), PySem.W.findIn K (.ref C) m = some (some (.ref f)) ∧ PySem.W.isFn K (.ref f) = true ∧ Binds K fd ps [] ∧ FnG P w K mg base CX k f fd ps sp
end
section
variable {X : Cx} {CX : CXT} {k : Nat} {C : Addr} {sp : Sp} {E : XK}
theorem op_binF {op : Operator} (O : OpF X.prog X.w X.K X.mg X.base CX k C op sp) (hr : Rm k X.A) (hx : Passes CX X E) : OpR X (binaryOp op) (rBin C sp E) := by
  obtain ⟨f, fd, ps, o1, o2, hb, F⟩ := O.ex
  exact op_bin o1 o2 F hr hb hx
theorem un_negF (O : SpF X.prog X.w X.K X.mg X.base CX k C "__neg__" sp) (hr : Rm k X.A) (hx : Passes CX X E) : UnR X (unaryOp .USub) (rNeg C sp E) := by
  obtain ⟨f, fd, ps, o1, o2, hb, F⟩ := O.ex
  exact un_own o1 o2 F hr hb hx
theorem op_eqF (O : SpF X.prog X.w X.K X.mg X.base CX k C "__eq__" sp) (hr : Rm k X.A) (hx : Passes CX X E) : OpR X (compareOp .Eq) (rEqO X.K C sp E) := by
  obtain ⟨f, fd, ps, o1, o2, hb, F⟩ := O.ex
  exact op_eqO o1 o2 F hr hb hx
theorem op_neF (O : SpF X.prog X.w X.K X.mg X.base CX k C "__eq__" sp) (hne : PySem.W.findIn X.K (.ref C) "__ne__" = some (some (.builtin "object.__ne__"))) (hm : PySem.W.mroIn X.K C (.type "object") = some true) (hr : Rm (k + 1) X.A) (hx : Passes CX X E) : OpR X (compareOp .NotEq) (rNeO X.K C sp E) := by
  obtain ⟨f, fd, ps, o1, o2, hb, F⟩ := O.ex
  exact op_neO o1 o2 hne hm F hr hb hx
theorem call_reprOF (O : SpF X.prog X.w X.K X.mg X.base CX k C "__repr__" sp) (hr : Rm (k + 1) X.A) (hx : Passes CX X E) : CallR X (.builtin "repr") (rShow C sp E) := by
  obtain ⟨f, fd, ps, o1, o2, hb, F⟩ := O.ex
  exact call_reprO o1 o2 F hr hb hx
theorem call_strOF (O : SpF X.prog X.w X.K X.mg X.base CX k C "__str__" sp) (hr : Rm (k + 2) X.A) (hx : Passes CX X E) : CallR X (.type "str") (rShow C sp E) := by
  obtain ⟨f, fd, ps, o1, o2, hb, F⟩ := O.ex
  exact call_strO o1 o2 F hr hb hx
end
end LL

set_option Elab.async false
set_option linter.all false
set_option maxRecDepth 100000
set_option maxHeartbeats 2000000
/-! LLEnd: the law's end over FnG; the head's facts as any tests of the written part. -/
namespace LL
open PySem PySem.Spec PyProof.Rows L2
section
variable {P : Program} {w : World} {K : PySem.W.Frag} {mg mb : Str → Option Value} {CX : CXT} {k : Nat} {fa a : Addr} {fd : FuncData} {x : Str} {sp : Sp} {t : Shared} {us : List Value} {ns : List Int}
/-- what the caller asks of the law's call -/
abbrev LawEnd (t : Shared) (r : Result) (t' : Shared) : Prop := r = .ok (.ret (.bool true)) ∧ OldK t.heap t'.heap ∧ t'.os = t.os ∧ AllBare t'.gens
/-- the law's call where H tracks at most the script -/
theorem lawAt {H : Hp} {osc : Obj} (KX : K.In t.heap) (hns : t.heap.Ns mainGlobals mg) (hb : t.heap.Ns builtinsNs mb) (hbb : ∀ x : Str, x ≠ "__name__" → mb x = bootBuiltins x) (hlim : t.heap.NoLimit) (hg : t.gens = #[])
    (ha : t.heap.get? a = some osc) (hd : ∀ es ep, osc.data ≠ .dict es ep) (hr : Rm k callerA) (F : ∀ base : Heap, K.In base → base.Ns mainGlobals mg → FnG P w K mg base CX k fa fd [x] sp)
    (bd : ∀ (s : Shared) (u : Value), BindsTo s fd ⟨[u], []⟩ [(x, u)]) (hsp : sp [.ref a] H (fun v _ => v = .bl true) fun _ _ _ => False) (hCX : ∀ e s', CX [] H t (fun _ _ _ => False) e s' → False)
    (only : ∀ b, H b = none ∨ (b = a ∧ K.lookup a = none ∧ ∃ o l, H b = some (.frz o (.lst l)))) (hok : HOk P w H t.heap) : codeAny (model P w) callerA (.call (.ref fa) ⟨[.ref a], []⟩) (LawEnd t) t := by
  have free : ∀ {b : Addr} {o : Obj}, t.heap.get? b = some o → (b = a → K.lookup a = none → False) → H b = none := fun {b o} _ h =>
    (only b).elim id fun q => (h q.1 q.2.1).elim
  have nsB : ∀ {b : Addr} {m : Str → Option Value}, t.heap.Ns b m → (hidT t.heap H).Ns b m := by
    rintro b m ⟨o, es, ep, e, d, r⟩
    refine ⟨o, es, ep, hidT_get e (free e fun z _ => ?_), d, r⟩
    subst z
    rw [ha] at e
    cases e
    exact hd _ _ d
  have kB : K.In (hidT t.heap H) := by
    intro b o e
    refine hidT_get (KX b o e) (free (KX b o e) fun z q => ?_)
    rw [z, q] at e
    cases e
  obtain ⟨ml, l1, l2⟩ := hlim
  have env : Env0 P w K mg (hidT t.heap H) callerA [] t H :=
    { frames := rfl
      mod := ⟨kB, nsB hns, ⟨mb, nsB hb, hbb⟩, ⟨ml, nsB l1, l2⟩⟩
      bs := fun _ _ e => of_hidT e
      bsz := Nat.le_of_eq (hidT_size _ _)
      funs := trivial
      frf := fun _ z => by cases (show _ ∈ ([] : List Addr) from z)
      hok := hok
      bare := .of_eq hg }
  have go := (F _ kB (nsB hns)).run callerA [] t H ⟨[.ref a], []⟩ [.ref a] [.ref a] _ _ hr env (bd t (.ref a)) (.cons rfl .nil) hsp
  refine codeAny_mono go fun r t' h => ?_
  match r, h with
  | .error e, h => exact (hCX e t' h).elim
  | .ok .next, h => exact False.elim h
  | .ok .brk, h => exact False.elim h
  | .ok .cont, h => exact False.elim h
  | .ok (.ret u), h =>
    obtain ⟨v, H', e1, e2, un, hok', rv, (rfl : v = .bl true)⟩ := h
    cases (show u = Value.bool true from rv)
    refine ⟨rfl, OldK.of_keep fun b o e => ?_, e1, e2⟩
    rcases only b with n | ⟨_, _, ob, l, z⟩
    · exact un.keep b o e n (fun z => by cases (show b ∈ ([] : List Addr) from z)) (fun z => by cases z)
    · have z1 := (hok b _ z).1
      have z2 := (hok' b _ (un.frzs b ob _ z)).1
      rw [e] at z1
      cases z1
      exact z2
/-- the law's call -/
theorem lawG (KX : K.In t.heap) (hns : t.heap.Ns mainGlobals mg) (hb : t.heap.Ns builtinsNs mb) (hbb : ∀ x : Str, x ≠ "__name__" → mb x = bootBuiltins x) (hlim : t.heap.NoLimit) (hg : t.gens = #[])
    (ha : t.heap.get? a = some { cls := .type "list", data := .seq us.toArray }) (hi : IntsAre us ns) (hl : ns.length ≤ sizeLine) (hr : Rm k callerA) (F : ∀ base : Heap, K.In base → base.Ns mainGlobals mg → FnG P w K mg base CX k fa fd [x] sp)
    (bd : ∀ (s : Shared) (u : Value), BindsTo s fd ⟨[u], []⟩ [(x, u)]) (hsp : ∀ H : Hp, SqL K H a (ns.map V.int) → sp [.ref a] H (fun v _ => v = .bl true) fun _ _ _ => False) (hCX : ∀ H e s', CX [] H t (fun _ _ _ => False) e s' → False) :
    codeAny (model P w) callerA (.call (.ref fa) ⟨[.ref a], []⟩) (LawEnd t) t := by
  have rv := vals_ints hi
  have dd : ∀ es ep, ({ cls := .type "list", data := .seq us.toArray } : Obj).data ≠ .dict es ep := fun _ _ z => by cases z
  cases q : K.lookup a with
  | none =>
    let H : Hp := fun b => if b = a then some (.frz { cls := .type "list", data := .seq us.toArray } (.lst (ns.map V.int))) else none
    have Ha : H a = some (.frz { cls := .type "list", data := .seq us.toArray } (.lst (ns.map V.int))) := if_pos rfl
    have Hn : ∀ b, b ≠ a → H b = none := fun b n => if_neg n
    refine lawAt (H := H) KX hns hb hbb hlim hg ha dd hr F bd (hsp H (.inl (.inr ⟨_, Ha⟩))) (hCX H) (fun b => ?_) fun b u z => ?_
    · by_cases c : b = a
      · exact .inr ⟨c, q, _, _, by rw [c]; exact Ha⟩
      · exact .inl (Hn b c)
    · by_cases c : b = a
      · subst c
        rw [Ha] at z
        cases z
        exact ⟨ha, by rw [List.length_map]; exact hl, us, _, rv, ha⟩
      · rw [Hn b c] at z
        cases z
  | some o =>
    have e := KX a o q
    rw [ha] at e
    cases e
    refine lawAt (H := fun _ => none) KX hns hb hbb hlim hg ha dd hr F bd (hsp _ (.inr ⟨_, us.toArray, _, q, rfl, rfl, rfl, ?_, by simpa using rv⟩)) (hCX _) (fun _ => .inl rfl) fun b u z => by cases z
    rw [List.size_toArray, hi.length]
    exact hl
end
/-- the goal that the head leaves, from the law's promise -/
theorem walkG {l : PySem.W.OpenLaw} {n k : Nat} {q : Program} {loose : List Str} {XP : (Str → Option Value) → Heap → Prop} {YP : World → Heap → Prop} {d : DefRec} {CX : CXT} {x : Str} (hn : l.most = some n) (hn2 : n ≤ sizeLine) (hdf : d.params.defaults = []) (hr : Rm k callerA)
    (F : ∀ (w : World) (mg : Str → Option Value) (fa : Addr) (h : Heap), YP w h → h.Ns mainGlobals mg → mg d.name = some (.ref fa) →
      ∃ (K : PySem.W.Frag) (fd : FuncData) (sp : Sp), K.In h ∧ (∀ (s : Shared) (u : Value), BindsTo s fd ⟨[u], []⟩ [(x, u)]) ∧
        (∀ (H : Hp) (a : Addr) (ns : List Int), ns.length ≤ n → (∀ i ∈ ns, Builtin.Int.intBits i ≤ 1048576) → SqL K H a (ns.map V.int) → sp [.ref a] H (fun v _ => v = .bl true) fun _ _ _ => False) ∧ ∀ base : Heap, K.In base → base.Ns mainGlobals mg → FnG l.prog w K mg base CX k fa fd [x] sp)
    (hCX : ∀ (H : Hp) (s : Shared) (e : Value) (s' : Shared), CX [] H s (fun _ _ _ => False) e s' → False) : PySem.W.WalkO q loose XP YP l.row.toRowW d [] (fun f vs => PySem.call f vs) := by
  refine Att.attach_callB hn hdf fun w _ t mg mb fa _ _ _ _ a us ns G Y _ _ _ hm ho hi hlen hbits hg => ?_
  obtain ⟨K, fd, sp, KX, bd, hs, hF⟩ := F w mg fa _ Y G.T.g hm
  exact lawG KX G.T.g G.T.b G.T.builtins G.T.nolimit hg ho hi (Nat.le_trans hlen hn2) hr hF bd (fun H hS => hs H a ns hlen hbits hS) fun H e s' => hCX H t e s'
/-! ### the Hook: tests of the written part, and defs -/
abbrev Ft : Type := PySem.W.Frag → Bool
def obsX (ft : List Ft) (fn : List He.DefD) (K : PySem.W.Frag) : He.AlD := ((ft.all fun f => f K) && fn.all fun d => d.ok K, fn.map fun d => He.fnW K d.at_)
def SaysX (ft : List Ft) (fn : List He.DefD) (K : PySem.W.Frag) : Prop := obsX ft fn K = He.valD fn
def obsXG (n : Nat) (ft : List Ft) (fn : List He.DefD) (g : Addr → Option Obj) : He.AlD := obsX ft fn (He.frG g (He.asD g n))
def hookX (n : Nat) (ft : List Ft) (fn : List He.DefD) : PySem.W.Hook where
  α := He.AlD
  obs := fun s => obsXG n ft fn s.heap.get?
  val := fun _ => He.valD fn
  says := fun _ h => ∃ K : PySem.W.Frag, K.In h ∧ SaysX ft fn K
  of := fun _ _ e => ⟨_, He.frG_in, e⟩
  keeps := fun _ _ _ ⟨K, hK, c⟩ k => ⟨K, PySem.W.Frag.In.keeps hK k, c⟩
theorem obsXG_eq {n : Nat} {ft : List Ft} {fn : List He.DefD} {g : Addr → Option Obj} {s : Shared} (h : ∀ a, g a = s.heap.get? a) : obsXG n ft fn g = (hookX n ft fn).obs s := by
  have e : g = s.heap.get? := funext h
  rw [e] <;> rfl
theorem SaysX.fact {ft : List Ft} {fn : List He.DefD} {K : PySem.W.Frag} (c : SaysX ft fn K) (i : Nat) {f : Ft} (h : ft[i]? = some f := by rfl) : f K = true := by
  have e : ((ft.all fun f => f K) && fn.all fun d => d.ok K) = true := congrArg Prod.fst c
  exact List.all_eq_true.mp (He.ba e).1 f (List.mem_of_getElem? h)
theorem SaysX.def_ {ft : List Ft} {fn : List He.DefD} {K : PySem.W.Frag} (c : SaysX ft fn K) (i : Nat) {d : He.DefD} (h : fn[i]? = some d := by rfl) : ∃ fd, FunD K d.name d.qual d.params d.body d.scope (d.dvs K) (d.kws K) (He.fAd K d.at_) fd := by
  have e : ((ft.all fun f => f K) && fn.all fun d => d.ok K) = true := congrArg Prod.fst c
  have e1 : (fn.map fun d => He.fnW K d.at_)[i]? = (fn.map He.DefD.val)[i]? := congrArg (fun z : He.AlD => z.2[i]?) c
  rw [List.getElem?_map, List.getElem?_map, h] at e1
  exact He.DefD.funD (Option.some.inj e1) (List.all_eq_true.mp (He.ba e).2 d (List.mem_of_getElem? h))
end LL

set_option Elab.async false
set_option linter.all false
set_option maxRecDepth 100000
set_option maxHeartbeats 2000000
/-! LLCut: a reading cut in two: what stands between is told once. -/
namespace LL
open PySem PySem.Spec PyProof.Rows L2
/-- behind a statement I holds -/
theorem seq_cut {t u : TS} {D : Ends} {σ : L2.St} {H : Hp} (I : L2.St → Hp → Prop) (h1 : ∀ N : L2.St → Hp → Prop, (∀ σ' H', I σ' H' → N σ' H') → t { D with nx := N } σ H) (h2 : ∀ σ' H', I σ' H' → u D σ' H') : tSeq t u D σ H := h1 _ h2
/-- an expression has a value of which I holds -/
theorem ex_cut {t : TE} {σ : L2.St} {H : Hp} {Q : VK} (I : VK) (h1 : ∀ R : VK, (∀ x H', I x H' → R x H') → t σ H R) (h2 : ∀ x H', I x H' → Q x H') : t σ H Q := h1 Q h2
/-- a test has an answer of which I holds -/
theorem tt_cut {t : TT} {σ : L2.St} {H : Hp} {Q : Bool → Hp → Prop} (I : Bool → Hp → Prop) (h1 : ∀ R : Bool → Hp → Prop, (∀ x H', I x H' → R x H') → t σ H R) (h2 : ∀ x H', I x H' → Q x H') : t σ H Q := h1 Q h2
/-- a and b, both without an effect -/
theorem and_of {ta tb : TE} {σ : L2.St} {H : Hp} {Q : VK} (c d : Bool) (h1 : ∀ R : VK, R (.bl c) H → ta σ H R) (h2 : c = true → ∀ R : VK, R (.bl d) H → tb σ H R) (q : Q (.bl (c && d)) H) : tAndV ta tb σ H Q := by
  refine h1 _ ⟨c, rfl, ?_⟩
  cases c with
  | true => exact iteT (h2 rfl _ q)
  | false => exact iteF q
theorem or_of {ta tb : TE} {σ : L2.St} {H : Hp} {Q : VK} (c d : Bool) (h1 : ∀ R : VK, R (.bl c) H → ta σ H R) (h2 : c = false → ∀ R : VK, R (.bl d) H → tb σ H R) (q : Q (.bl (c || d)) H) : tOrV ta tb σ H Q := by
  refine h1 _ ⟨c, rfl, ?_⟩
  cases c with
  | true => exact iteT q
  | false => exact iteF (h2 rfl _ q)
theorem seq_asg {te : TE} {g : TG} {u : TS} {D : Ends} {σ : L2.St} {H : Hp} (h : te σ H fun x H1 => g x σ H1 (u D)) : tSeq (tAsg te g) u D σ H := h
theorem ret_of {te : TE} {D : Ends} {σ : L2.St} {H : Hp} (h : te σ H D.rt) : tRet te D σ H := h
theorem nm_of {i : Nat} {v : V} {σ : L2.St} {H : Hp} {N : L2.St → Hp → Prop} (h : N (σ.set i (some v)) H) : gName i v σ H N := h
theorem nx_of {D : Ends} {σ : L2.St} {H : Hp} (h : D.nx σ H) : tNext D σ H := h
/-! ### a class called, as a def is -/
section
variable (P : Program) (w : World) (K : PySem.W.Frag) (mg : Str → Option Value) (base : Heap) (CX : CXT) (k : Nat)
/-- C(..) keeps sp: its __init__ does, at each new instance -/
structure Mkf (x : Str) (sp : Sp) : Prop where
  ex : ∃ (C : Addr) (dvs : List V) (si : Sp), Mkr P w K mg base CX k x C dvs si ∧ ∀ vs H Q E, sp vs H Q E → ∀ a dx, H a = none → H dx = none → dx ≠ a → si (.ref a :: (vs ++ dvs)) (upd (upd H dx (.own a)) a (.ins C dx [])) (fun v H2 => v = .non ∧ Q (.ref a) H2) E
end
section
variable {X : Cx} {CX : CXT} {k : Nat} {sp : Sp} {E : XK} {x : Str} {p pos : Pos} {e : Expr} {es : List Expr} {t : TA}
theorem pe_mf (G : Mkf X.prog X.w X.K X.mg X.base CX k x sp) (hr : Rm (k + 1) X.A) (hx : Passes CX X E) (ha : PA X (e :: es) t) (hg : Gl X x := by rfl) (hdb : (x == ("__debug__" : Str)) = false := by decide)
    (he : starEach (e :: es) X.env = (false, eval e X.env) :: starEach es X.env := by rfl) (hpl : (backTo pos (starEach es X.env)).any (·.1) = false := by rfl) : PE X (.Call (.Name x p) (e :: es) [] pos) (tCall sp [] E t) := by
  obtain ⟨C, dvs, si, ⟨f, fd, ps, ds, M, hm, hb, hd, F⟩, conv⟩ := G.ex
  refine ⟨fun pins s σ H Q I h => wpAny_Call_Name_kw (ld_glob I hg hm (PySem.W.callWith_K (h₀ := X.base) I.ok.mod.kin M.kp (thn (ha.run pos pins s σ H _ I h) fun us s1 z => ?_) he hpl) hdb)⟩
  obtain ⟨vs, H1, I1, r, q⟩ := z
  exact ⟨I1.kIn, run_makeG M F hr hb hd hx I1 r (conv vs H1 Q E (by simpa using q))⟩
theorem pe_mf0 (G : Mkf X.prog X.w X.K X.mg X.base CX k x sp) (hr : Rm (k + 1) X.A) (hx : Passes CX X E) (hg : Gl X x := by rfl) (hdb : (x == ("__debug__" : Str)) = false := by decide) : PE X (.Call (.Name x p) [] [] pos) (tCall sp [] E tNil) := by
  obtain ⟨C, dvs, si, ⟨f, fd, ps, ds, M, hm, hb, hd, F⟩, conv⟩ := G.ex
  exact ⟨fun pins s σ H Q I h => wpAny_Call_Name_kw (ld_glob I hg hm (PySem.W.callWith_K0 I.kIn M.kp (run_makeG (us := []) M F hr hb hd hx I .nil (conv [] H Q E h))) hdb)⟩
end
/-! ### rules within a comprehension: the written part by its name -/
theorem ix_tupK {X : Cx} {K : PySem.W.Frag} (h : X.K = K) : IxR X (rIxT K) := h ▸ ix_tup
theorem ix_listK {X : Cx} {K : PySem.W.Frag} (h : X.K = K) : IxR X (rIxL K) := h ▸ ix_list
/-! ### texts that == can read -/
theorem okt_iff {x : Str} : PyData.strOk x = true ↔ ∀ c ∈ x.cps.toList, c < 1114112 := by
  unfold PyData.strOk
  rw [← Array.all_toList, List.all_eq_true]
  exact ⟨fun h c hc => of_decide_eq_true (h c hc), fun h c hc => decide_eq_true (h c hc)⟩
theorem okt_of (s : String) : PyData.strOk (Str.ofString s) = true := by
  rw [okt_iff]
  intro c hc
  rw [signs_ofString] at hc
  obtain ⟨k, _, rfl⟩ := List.mem_map.mp hc
  rcases k.valid with h | ⟨_, h⟩
  · exact Nat.lt_trans h (by decide)
  · exact h
theorem okt_app {x y : Str} (hx : PyData.strOk x = true) (hy : PyData.strOk y = true) : PyData.strOk (x ++ y) = true := by
  rw [okt_iff] at *
  intro c hc
  rw [Str.cps_append, Array.toList_append] at hc
  rcases List.mem_append.mp hc with h | h
  · exact hx c h
  · exact hy c h
/-! ### all but lists stay -/
def Kp (H H' : Hp) : Prop := ∀ b o, H b = some o → (∀ xs, o ≠ .lst xs) → H' b = some o
theorem Kp.refl {H : Hp} : Kp H H := fun _ _ e _ => e
theorem Kp.trans {H H1 H2 : Hp} (a : Kp H H1) (b : Kp H1 H2) : Kp H H2 := fun c o e n => b c o (a c o e n) n
theorem Kp.of {H H' : Hp} (a : Same H H') : Kp H H' := fun c o e _ => a c o e
theorem But.kp {p : Addr} {H H' : Hp} {xs : List V} (a : But p H H') (h : H p = some (.lst xs)) : Kp H H' := fun c o e n => a c o e fun z => by
  rw [z, h] at e
  exact n xs (Option.some.inj e).symm
theorem kp_upd {H : Hp} {p : Addr} {o : HO} {xs : List V} (h : H p = some (.lst xs)) : Kp H (upd H p o) := (but_upd (o := o)).kp h
end LL

set_option Elab.async false
set_option linter.all false
set_option maxRecDepth 100000
set_option maxHeartbeats 2000000
/-! LLHead: defs of the text at any address of the written part; the Hook over them; facts as tests. -/
namespace LL
open PySem PySem.Spec PyProof.Rows L2
/-- a def: where it stands, what it is -/
structure DefX where
  adr : PySem.W.Frag → Addr
  name : Str
  qual : Str
  params : Arguments
  body : List Stmt
  scope : Scope
  dfl : PySem.W.Frag → List V := fun _ => []
def dX (adr : PySem.W.Frag → Addr) (name qual : Str) (st : Stmt) (dfl : List V := []) : DefX := ⟨adr, name, qual, defArgs st, defBody st, defScope st, fun _ => dfl⟩
/-- .. with defaults that lie in the written part -/
def dXK (adr : PySem.W.Frag → Addr) (name qual : Str) (st : Stmt) (dfl : PySem.W.Frag → List V) : DefX := ⟨adr, name, qual, defArgs st, defBody st, defScope st, dfl⟩
/-- the function object at a -/
def fdAt (K : PySem.W.Frag) (a : Addr) : Option FuncData := match K.lookup a with
  | some ⟨_, _, .func g, _⟩ => some g
  | _ => none
def shapeX (g : FuncData) : Str × Str × Arguments × FuncBody × Scope × Addr × List (Str × Addr) × Addr := (g.name, g.qualname, g.params, g.body, g.scope, g.globals, g.closure, g.builtins)
def DefX.shape (d : DefX) : Option (Str × Str × Arguments × FuncBody × Scope × Addr × List (Str × Addr) × Addr) := some (d.name, d.qual, d.params, .stmts d.body, d.scope, mainGlobals, [], builtinsNs)
def DefX.fine (K : PySem.W.Frag) (d : DefX) : Bool := PySem.W.keepIn K (.ref (d.adr K)) && ((fdAt K (d.adr K)).any fun g => PySem.W.codeIn K g.code d.qual && He.dflB K g.defaults (d.dfl K))
theorem fdAt_look {K : PySem.W.Frag} {a : Addr} {g : FuncData} (e : fdAt K a = some g) : ∃ oc od osl, K.lookup a = some ⟨oc, od, .func g, osl⟩ := by
  unfold fdAt at e
  split at e
  · rename_i c d z sl q
    cases e
    exact ⟨c, d, sl, q⟩
  · cases e
theorem DefX.fun_ {K : PySem.W.Frag} {d : DefX} (e : (fdAt K (d.adr K)).map shapeX = d.shape) (c : d.fine K = true) : ∃ fd, FunD K d.name d.qual d.params d.body d.scope (d.dfl K) [] (d.adr K) fd := by
  obtain ⟨kp, c2⟩ := He.ba c
  obtain ⟨g, eg, es⟩ := Option.map_eq_some_iff.mp e
  rw [eg] at c2
  obtain ⟨c3, c4⟩ := He.ba (show (PySem.W.codeIn K g.code d.qual && He.dflB K g.defaults (d.dfl K)) = true from c2)
  obtain ⟨oc, od, osl, lk⟩ := fdAt_look eg
  unfold shapeX at es
  simp only [Prod.mk.injEq] at es
  obtain ⟨e1, e2, e3, e4, e5, e6, e7, e8⟩ := es
  refine ⟨g, ⟨oc, od, g.defaults, g.kwdefaults, g.doc, g.pyModule, g.annotations, g.code, g.closureTuple, osl, ?_, lk, c3, He.dflB_ok c4, .inl rfl⟩, kp⟩
  obtain ⟨a1, a2, a3, a4, a5, a6, a7, a8, a9, a10, a11, a12, a13, a14, a15⟩ := g
  subst e1 e2 e3 e4 e5 e6 e7 e8
  rfl
/-! ### the Hook -/
abbrev AlX : Type := Bool × List (Option (Str × Str × Arguments × FuncBody × Scope × Addr × List (Str × Addr) × Addr))
def obsY (ft : List Ft) (fn : List DefX) (K : PySem.W.Frag) : AlX := ((ft.all fun f => f K) && fn.all fun d => d.fine K, fn.map fun d => (fdAt K (d.adr K)).map shapeX)
def valY (fn : List DefX) : AlX := (true, fn.map DefX.shape)
def SaysY (ft : List Ft) (fn : List DefX) (K : PySem.W.Frag) : Prop := obsY ft fn K = valY fn
def obsYG (n : Nat) (ft : List Ft) (fn : List DefX) (g : Addr → Option Obj) : AlX := obsY ft fn (He.frG g (He.asD g n))
def hookY (n : Nat) (ft : List Ft) (fn : List DefX) : PySem.W.Hook where
  α := AlX
  obs := fun s => obsYG n ft fn s.heap.get?
  val := fun _ => valY fn
  says := fun _ h => ∃ K : PySem.W.Frag, K.In h ∧ SaysY ft fn K
  of := fun _ _ e => ⟨_, He.frG_in, e⟩
  keeps := fun _ _ _ ⟨K, hK, c⟩ k => ⟨K, PySem.W.Frag.In.keeps hK k, c⟩
theorem obsYG_eq {n : Nat} {ft : List Ft} {fn : List DefX} {g : Addr → Option Obj} {s : Shared} (h : ∀ a, g a = s.heap.get? a) : obsYG n ft fn g = (hookY n ft fn).obs s := by
  cases (funext h : g = s.heap.get?)
  rfl
theorem SaysY.fact {ft : List Ft} {fn : List DefX} {K : PySem.W.Frag} (c : SaysY ft fn K) (i : Nat) {f : Ft} (h : ft[i]? = some f := by rfl) : f K = true := by
  have e : ((ft.all fun f => f K) && fn.all fun d => d.fine K) = true := congrArg Prod.fst c
  exact List.all_eq_true.mp (He.ba e).1 f (List.mem_of_getElem? h)
theorem SaysY.fn_ {ft : List Ft} {fn : List DefX} {K : PySem.W.Frag} (c : SaysY ft fn K) (i : Nat) {d : DefX} (h : fn[i]? = some d := by rfl) : ∃ fd, FunD K d.name d.qual d.params d.body d.scope (d.dfl K) [] (d.adr K) fd := by
  have e : ((ft.all fun f => f K) && fn.all fun d => d.fine K) = true := congrArg Prod.fst c
  have e1 : (fn.map fun d => (fdAt K (d.adr K)).map shapeX)[i]? = (fn.map DefX.shape)[i]? := congrArg (fun z : AlX => z.2[i]?) c
  rw [List.getElem?_map, List.getElem?_map, h] at e1
  exact DefX.fun_ (Option.some.inj e1) (List.all_eq_true.mp (He.ba e).2 d (List.mem_of_getElem? h))
/-! ### addresses and tests -/
/-- a global, a method, a property's getter -/
def gA (x : Str) (K : PySem.W.Frag) : Addr := He.ga K x
def mA (x m : Str) (K : PySem.W.Frag) : Addr := He.ma K (He.ga K x) m
def pA (x m : Str) (K : PySem.W.Frag) : Addr := match PySem.W.recIn K (mA x m K) "property" with
  | some (.ref g :: _) => g
  | _ => 0
def fGlo (x : Str) : Ft := fun K => (He.Fa.glo x).ok K
def fFree (x : Str) : Ft := fun K => (He.Fa.free x).ok K
def fCls (x : Str) : Ft := fun K => (He.Fa.cls x).ok K
def fNo (x f : Str) : Ft := fun K => (He.Fa.noat x f).ok K
def fMeth (x m : Str) : Ft := fun K => (He.Fa.meth x m).ok K
def fMkr (x : Str) : Ft := fun K => (He.Fa.mkr x).ok K
def fSame (a b : PySem.W.Frag → Option (Option Value)) : Ft := fun K => He.eqO (a K) (b K)
def fBool (a : PySem.W.Frag → Option Bool) (b : Bool) : Ft := fun K => decide (a K = some b)
def fProp (x m : Str) : Ft := fun K => He.eqO (PySem.W.findIn K (.ref (He.ga K x)) m) (some (some (.ref (mA x m K)))) && (He.eqO (PySem.W.specialIn K (.ref (mA x m K)) "__get__") (some (some (.builtin "property.__get__"))) && (decide (PySem.W.takesIn K (.ref (mA x m K)) = some true) &&
  (match PySem.W.recIn K (mA x m K) "property" with
  | some (.ref _ :: _) => true
  | _ => false)))
theorem fProp_ok {K : PySem.W.Frag} {x m : Str} (h : fProp x m K = true) : PropOf K (He.ga K x) m (mA x m K) (pA x m K) := by
  obtain ⟨h1, h2⟩ := He.ba h
  obtain ⟨h3, h4⟩ := He.ba h2
  obtain ⟨h5, h6⟩ := He.ba h4
  refine ⟨He.eqO_ok h1, He.eqO_ok h3, of_decide_eq_true h5, ?_⟩
  unfold pA
  split at h6
  · rename_i g rest q
    exact ⟨rest, by rw [q]⟩
  · cases h6
/-- an operator of the class x -/
def fOper (x : Str) (op : Operator) : Ft := fun K => PySem.W.selfFirst K (He.ga K x) && (He.eqO (PySem.W.findIn K (.ref (He.ga K x)) (PySem.dunder op.info.2)) (some (some (.ref (mA x (PySem.dunder op.info.2) K)))) && PySem.W.isFn K (.ref (mA x (PySem.dunder op.info.2) K)))
theorem fOper_ok {K : PySem.W.Frag} {x : Str} {op : Operator} (h : fOper x op K = true) : OpAt K (He.ga K x) op (mA x (PySem.dunder op.info.2) K) := by
  obtain ⟨h1, h2⟩ := He.ba h
  obtain ⟨h3, h4⟩ := He.ba h2
  exact ⟨h1, He.eqO_ok h3, h4⟩
def fOpInt (x : Str) (op : Operator) : Ft := fun K => He.eqO (PySem.W.findIn K (.ref (He.ga K x)) (PySem.dunderR op.info.2)) (some none) && ((PySem.W.findIn K (.type "int") (PySem.dunder op.info.2)).isSome && ((PySem.W.findIn K (.type "int") (PySem.dunderR op.info.2)).isSome && decide (PySem.W.subIn K (.type "int") (.ref (He.ga K x)) = some false)))
theorem fOpInt_ok {K : PySem.W.Frag} {x : Str} {op : Operator} (h : fOpInt x op K = true) : OpInt K (He.ga K x) op := by
  obtain ⟨h1, h2⟩ := He.ba h
  obtain ⟨h3, h4⟩ := He.ba h2
  obtain ⟨h5, h6⟩ := He.ba h4
  exact ⟨He.eqO_ok h1, Option.isSome_iff_exists.mp h3, Option.isSome_iff_exists.mp h5, of_decide_eq_true h6⟩
/-- a special method of the class x -/
def fSpec (x m : Str) : Ft := fun K => He.eqO (PySem.W.findIn K (.ref (He.ga K x)) m) (some (some (.ref (mA x m K)))) && PySem.W.isFn K (.ref (mA x m K))
theorem fSpec_ok {K : PySem.W.Frag} {x m : Str} (h : fSpec x m K = true) : PySem.W.findIn K (.ref (He.ga K x)) m = some (some (.ref (mA x m K))) ∧ PySem.W.isFn K (.ref (mA x m K)) = true := by
  obtain ⟨h1, h2⟩ := He.ba h
  exact ⟨He.eqO_ok h1, h2⟩
end LL

set_option Elab.async false
set_option linter.all false
set_option maxRecDepth 100000
set_option maxHeartbeats 2000000
/-! LLTry: try .. with several clauses 'except x as n', all of one name. -/
namespace LL
open PySem PySem.Spec PyProof.Rows L2
/-- behind a suite the clause's name is gone -/
def Dgone (D : Ends) (i : Nat) : Ends := { nx := fun τ G => D.nx (τ.set i none) G, rt := D.rt, bk := fun τ G => D.bk (τ.set i none) G, ct := fun τ G => D.ct (τ.set i none) G }
abbrev Clause : Type := Value × (Addr → Value → Option Addr → TS)
/-- what the clauses wish of what the body lets out -/
def wRow (K : PySem.W.Frag) (Wo : WX) (D : Ends) (i : Nat) : List Clause → WX
  | [] => Wo
  | q :: r => fun cls d τ G => ∃ b, PySem.W.exmOne K cls q.1 = some b ∧ (b = true → ∀ e, G e = none → q.2 e cls d (Dgone D i) (τ.set i (some (.ref e))) G) ∧ (b = false → wRow K Wo D i r cls d τ G)
inductive RowOk (X : Cx) (n : Str) : List ExceptHandler → List Clause → Prop
  | nil : RowOk X n [] []
  | cons {x : Str} {c : Value} {ts : Addr → Value → Option Addr → TS} {t₀ : Stmt} {more : List Stmt} {q1 q2 : Pos} {hs : List ExceptHandler} {l : List Clause} (nm : Names X x c)
      (su : ∀ (e : Addr) (oe : Obj) (cls : Value) (d : Option Addr) (pn : List (Addr × Obj)), Zc cls d oe → (∃ fs, oe.data = .fields fs) → PSs (X.suite e ((e, oe) :: pn)) (t₀ :: more) (ts e cls d)) (r : RowOk X n hs l) :
      RowOk X n (.ExceptHandler (some (.Name x q1)) (some n) (t₀ :: more) q2 :: hs) ((c, ts) :: l)
section
variable {X : Cx} {n : Str} {i : Nat} {body : List Stmt} {h₀ : ExceptHandler} {hs : List ExceptHandler} {l : List Clause} {pos : Pos} {tb : WX → TS} {Wo : WX}
theorem ps_tryRow (st : X.stack = X.env :: X.outer) (fr : X.env.frame = some X.env.locals) (nd : X.N.Nodup) (ni : X.N[i]? = some n) (nl : X.env.kindOf n = some .local) (tk : Takes X Wo)
    (bd : ∀ (W : WX) (pn : List (Addr × Obj)) (xe : Value → Shared → Prop), Takes (X.tr pn xe) W → PassesOwn (model X.prog X.w) X.A X.env xe → PSs (X.tr pn xe) body (tb W)) (hh : RowOk X n (h₀ :: hs) l) :
    PS X (.Try body (h₀ :: hs) [] [] pos) (fun D τ G => tb (wRow X.K Wo D i l) D τ G) := by
  constructor
  intro pins s τ G D I h
  have ok := I.ok
  have frs' : X.A.frames = some (X.env :: X.outer) := ok.frames.trans (by rw [st])
  refine wpAny_Try_except ?_
  let after : Value → Shared → Prop := fun e u => wpAny (model X.prog X.w) X.A (noteFrame e X.env)
    (fun _ u2 => wpAny (model X.prog X.w) X.A (setFlight e none)
      (fun _ u3 => wpAny (model X.prog X.w) X.A (handleBy e X.env (h₀ :: hs)) (SP X pins D) X.xe u3) X.xe u2) X.xe u
  have catch_ : Takes (X.tr (X.pn ++ pins) after) (wRow X.K Wo D i l) := by
    intro u s' xx
    obtain ⟨e, B, sI, pn', τ', G', cls, d, eu, J', nb, up, sky, ne, os, ag, w⟩ := xx
    subst eu
    have J : Inv X pins τ' G' sI := J'.ofTry ok
    have sky2 : Sky B (X.env :: X.outer) e (Zc cls d) X.env.locals s'.heap := st ▸ sky
    show wpAny (model X.prog X.w) X.A (noteFrame (.ref e) X.env) _ _ _
    refine Sky.land Zc.steady frs' fr sky2 fun h3 fl up3 => ?_
    have J3 : Inv X pins τ' G' { s' with heap := h3 } := J.landed nb fl.1 (up.trans up3) os ag
    obtain ⟨oe, fs, at3, z3, d3⟩ := fl.there
    have out : e ∉ frs (X.env :: X.outer) := fun hm => by
      obtain ⟨_, o', q, hnf⟩ := fl.2.2.1.mem hm
      rw [at3] at q
      cases q
      exact hnf _ d3
    have nL : e ≠ X.env.locals := fun z => out (List.mem_filterMap.mpr ⟨X.env, List.mem_cons_self, by rw [fr, z]⟩)
    have nF : e ∉ X.fs := fun hm => by
      obtain ⟨v, hv, q⟩ := List.mem_filterMap.mp hm
      exact out (List.mem_filterMap.mpr ⟨v, List.mem_cons_of_mem _ hv, q⟩)
    have S3 := J3.suite at3 d3 ne nL nF
    have row : ∀ {hs' : List ExceptHandler} {l' : List Clause}, RowOk X n hs' l' → wRow X.K Wo D i l' cls d τ' G' → wpAny (model X.prog X.w) X.A (handleBy (.ref e) X.env hs') (SP X pins D) X.xe { s' with heap := h3 } := by
      intro hs' l' hk
      induction hk with
      | nil =>
        intro w
        refine wpAny_handleBy_nil ?_
        obtain ⟨k1, k2, k3, o1, v1, T1, oT, t1, g1, g2, g3, g4, g5⟩ := id fl
        unfold PySem.passOn
        refine wpAny_bind (wpAny_field g1 g3 g4 ?_)
        rw [if_neg (by simp)]
        have go : wpAny (model X.prog X.w) X.A (setFlight (.ref e) X.env.frame) (fun _ u4 => wpAny (model X.prog X.w) X.A (throw (.ref e) : Sem Flow) (SP X pins D) X.xe u4) X.xe { s' with heap := h3 } := by
          rw [fr]
          refine HandSPX.setFlight_upZ fl fun h4 up4 upb => wpAny_throw (tk _ _ ?_)
          exact ⟨e, B, sI, pins, τ', G', cls, d, rfl, J, nb, (up.trans up3).trans upb, .inr (.inr (by rw [st]; exact up4)), ne, os, ag, w⟩
        first
          | exact wpAny_bind (wpAny_pure (wpAny_bind go))
          | exact wpAny_bind go
      | @cons x c ts t₀ more q1 q2 hs2 l2 nm su r ih =>
        intro w
        obtain ⟨b, e1, yes, no⟩ := w
        refine wpAny_handleBy_cons (codeAny_handlers_test ?_) (fun q => by cases q)
        have isC : PySem.W.Looks (model X.prog X.w) h3 (typeOf (.ref e)) cls := fun A Q E s k q => wpAny_typeOf_ref (k _ _ at3) (z3.1 ▸ q)
        have ask := PySem.W.exm_one (M := model X.prog X.w) J3.kIn isC e1
        have name_ : ∀ {Q : Value → Shared → Prop} {E : Value → Shared → Prop}, Q c { s' with heap := h3 } → wpAny (model X.prog X.w) (X.A.mark (some (.ref e))) (eval (.Name x q1) X.env) Q E { s' with heap := h3 } := by
          intro Q E q
          rcases nm with ⟨y1, y2, y3 | ⟨y3, y4, y5⟩⟩
          · exact ld_glob (X := X.suite e ((e, oe) :: (X.pn ++ pins))) S3 y1 y3 q y2
          · exact ld_blt (X := X.suite e ((e, oe) :: (X.pn ++ pins))) S3 y1 y3 y4 q y5 y2
        refine name_ (ask.here ?_)
        cases b with
        | false =>
          show wpAny _ X.A (handleBy (.ref e) X.env hs2) _ _ _
          exact ih (no rfl)
        | true =>
          refine codeAny_handlers_suite_as ?_
          refine HandSPX.lands_againZ fl fun h4 fl4 up4 => ?_
          have J4 : Inv X pins τ' G' { s' with heap := h4 } := J.landed nb fl4.1 ((up.trans up3).trans up4) os ag
          obtain ⟨oe4, fs4, at4, z4, d4⟩ := fl4.there
          have S4 := J4.suite at4 d4 ne nL nF
          refine store_ok (X := X.suite e ((e, oe4) :: (X.pn ++ pins))) (v := .ref e) S4 nd ni (.inl nl) rfl (fun s5 S5 => ?_) (.inr nl)
          refine wpAny_mono ((su e oe4 cls d (X.pn ++ pins) z4 ⟨_, d4⟩).run [] s5 _ G' _ S5 (yes rfl e ne)) (fun f s6 z => ?_) (fun _ _ z => z.elim)
          have fin : ∀ {τ6 : L2.St} {G6 : Hp} {Q : Shared → Prop}, Inv (X.suite e ((e, oe4) :: (X.pn ++ pins))) [] τ6 G6 s6 → (∀ s7, Inv X pins (τ6.set i none) G6 s7 → Q s7) →
              wpAny (model X.prog X.w) X.A (do bindName X.env n .none; unbindBehindTheSuite X.env n q2) (fun _ s7 => Q s7) X.xe s6 := fun S6 hq => gone_ok (S6.unsuite ok) nd ni nl hq
          match f, z with
          | .next, ⟨_, _, S6, q6⟩ => exact fin S6 fun s7 J7 => ⟨_, _, J7, q6⟩
          | .brk, ⟨_, _, S6, q6⟩ => exact fin S6 fun s7 J7 => ⟨_, _, J7, q6⟩
          | .cont, ⟨_, _, S6, q6⟩ => exact fin S6 fun s7 J7 => ⟨_, _, J7, q6⟩
          | .ret u, ⟨_, _, _, S6, r6, q6⟩ => exact fin S6 fun s7 J7 => ⟨_, _, _, J7, r6, q6⟩
    exact row hh w
  refine wpAny_mono ((bd (wRow X.K Wo D i l) (X.pn ++ pins) after catch_ PassesOwn.looking).run [] s τ G D (I.toTry _) h) (fun f s1 z => ?_) (fun _ _ z => z)
  match f, z with
  | .next, ⟨_, _, J', q⟩ => exact wpAny_execs_nil ⟨_, _, J'.ofTry ok, q⟩
  | .brk, ⟨_, _, J', q⟩ => exact ⟨_, _, J'.ofTry ok, q⟩
  | .cont, ⟨_, _, J', q⟩ => exact ⟨_, _, J'.ofTry ok, q⟩
  | .ret u, ⟨_, _, _, J', r, q⟩ => exact ⟨_, _, _, J'.ofTry ok, r, q⟩
end
end LL

set_option Elab.async false
set_option linter.all false
set_option maxRecDepth 100000
set_option maxHeartbeats 2000000
/-! LLExc: own error classes with one field; what a suite asks of the error it holds; repr of any data. -/
namespace LL
open PySem PySem.Spec PyProof.Rows L2
/-! ### B.__init__(self, ..), B an own class over ValueError without one -/
structure LeC (K : PySem.W.Frag) (B : Addr) : Prop where
  sp : PySem.W.specialIn K (.ref B) "__getattribute__" = some (some (.builtin "type.__getattribute__"))
  rd : PySem.W.readsIn K B (.type "type") = true
  fi : PySem.W.findCls K (.ref B) (.type "type") "__init__" = some (.val (.builtin "ValueError.__init__"))
section
variable {X : Cx} {B : Addr} {x : Str} {e : Expr} {es : List Expr} {ta : TA} {p1 p2 pos : Pos}
theorem pe_leinit {pl : Sem Bool} (L : LeC X.K B) (hg : Gl X x) (hm : X.mg x = some (.ref B)) (ha : PA X (e :: es) ta) (hdb : (x == ("__debug__" : Str)) = false := by decide)
    (ev : eval (.Call (.Attribute (.Name x p1) "__init__" p2) (e :: es) [] pos) X.env = (do
      let o ← eval (.Name x p1) X.env
      standAt p2.atName
      let (g, first) ← holding [o] (getMethod o "__init__" pl)
      callWith pos g first (backTo pos (starEach (e :: es) X.env)) (backToKw pos (keywordEach [] X.env))) := by rfl)
    (se : starEach (e :: es) X.env = (false, eval e X.env) :: starEach es X.env := by rfl) (sn : (backTo pos (starEach es X.env)).any (·.1) = false := by rfl) : PE X (.Call (.Attribute (.Name x p1) "__init__" p2) (e :: es) [] pos) (tVeI X.K ta) := by
  constructor
  intro pins s σ H Q I h
  refine PySem.W.methodCall_KW (ld_glob I hg hm ?_ hdb) ev
  refine PySem.W.method_cls I.kIn L.sp (PySem.W.cls_value I.kIn L.rd L.fi (by decide +kernel) ?_)
  show wpAny _ _ (callWith pos (Value.builtin "ValueError.__init__") [] (backTo pos (starEach (e :: es) X.env)) []) _ _ _
  refine PyProof.Rows.callWith_method1 (thn (ha.run pos pins _ σ H _ (I.tok _) h) fun us s1 z => ?_) se sn
  obtain ⟨vs, H1, I1, r, a, C, ws, rfl, hl, T, ea, q⟩ := z
  cases r with
  | @cons _ u _ ur ru rr =>
    cases (show u = Value.ref a from ru)
    have hz : ur.length ≤ sizeLine := Nat.le_trans (Nat.le_of_eq (Paired.length rr).symm) (Nat.le_trans hl (by rw [sizeLine_eq]; decide))
    exact oinit_ok T I1 ea hz fun s2 J => ⟨.non, H1, J, rfl, q⟩
end
/-! ### raise C(v) -/
/-- the promise of an __init__ that keeps one value in the field f -/
def spXI (C : Addr) (f : Str) : Sp := fun vs H Q _ => ∃ a v, vs = [.ref a, v] ∧ H a = some (exo a C none) ∧ ∀ dx, H dx = none → dx ≠ a → Q .non (upd (upd H dx (exd dx [(f, v)])) a (exo a C (some dx)))
section
variable (P : Program) (w : World) (K : PySem.W.Frag) (mg : Str → Option Value) (base : Heap) (k : Nat)
/-- the module's name x is the error class at C, its field is f -/
structure Xcl (x : Str) (C : Addr) (f : Str) : Prop where
  T : OexC K C
  nf : PySem.W.findIn K (.ref C) f = some none
  mx : mg x = some (.ref C)
  ex : ∃ (fI : Addr) (fd : FuncData) (ps : List Str), PySem.W.findIn K (.ref C) "__init__" = some (some (.ref fI)) ∧ PySem.W.typeIn K (.ref fI) = some (.type "function") ∧ Binds K fd ps [] ∧ FnOk P w K mg base CX0 k fI fd ps (spXI C f)
  xf : XfC K C
  ec : ExcC K C
end
section
variable {X : Cx} {k : Nat} {C : Addr} {x f : Str} {W : WX} {e : Expr} {te : TE} {p pos rpos : Pos}
theorem ps_raiseX (G : Xcl X.prog X.w X.K X.mg X.base k x C f) (hr : Room (k + 1) X.A) (tk : Takes X W) (he : PE X e te) (hc : X.calm = true := by rfl) (hg : Gl X x := by rfl) (hdb : (x == ("__debug__" : Str)) = false := by decide)
    (se : starEach [e] X.env = (false, eval e X.env) :: starEach [] X.env := by rfl) (sn : (backTo pos (starEach [] X.env)).any (·.1) = false := by rfl) :
    PS X (.Raise (some (.Call (.Name x p) [e] [] pos)) none rpos) (fun _ σ H => tMkO C (spXI C f) [] (tCons te tNil) σ H fun cls d H' => W cls d σ H') := by
  obtain ⟨fI, fd, ps, h1, h2, h3, h4⟩ := G.ex
  exact ps_raise hc tk (pmk_oex G.T h1 h2 h4 hr h3 .nil pass0 hg G.mx (pa_cons he pa_nil (hs := se)) hdb se sn)
/-- the error's own dict is new -/
theorem raise_of {v : V} {H : Hp} {Q : XK} (h : ∀ d, H d = none → Q (.ref C) (some d) (upd H d (.xd [(f, v)]))) : ([v] : List V).length ≤ 1000 ∧ ∀ a, H a = none → spXI C f (.ref a :: ([v] ++ [])) (upd H a (exo a C none))
    (fun z H2 => z = .non ∧ ∃ (d : Addr) (fs : List (Str × V)), H2 a = some (exo a C (some d)) ∧ H2 d = some (exd d fs) ∧ H d = none ∧ Q (.ref C) (some d) (upd (del H2 a) d (.xd fs))) (fun _ _ _ => False) := by
  refine ⟨(by show 1 ≤ 1000; decide), fun a ha => ⟨a, v, rfl, upd_same, fun dx hd ne => ⟨rfl, dx, [(f, v)], upd_same, ?_, ?_, ?_⟩⟩⟩
  · rw [upd_ne ne, upd_same]
  · rw [upd_ne ne] at hd
    exact hd
  · rw [upd_ne ne] at hd
    have e : upd (del (upd (upd (upd H a (exo a C none)) dx (exd dx [(f, v)])) a (exo a C (some dx))) a) dx (.xd [(f, v)]) = upd H dx (.xd [(f, v)]) := by
      funext b
      by_cases h1 : b = dx
      · rw [h1, upd_same, upd_same]
      · rw [upd_ne h1, upd_ne h1]
        by_cases h2 : b = a
        · rw [h2, del_same, ha]
        · rw [del_ne h2, upd_ne h2, upd_ne h1, upd_ne h2]
    rw [e]
    exact h dx hd
end
/-! ### isinstance(e, c) of a caught error that has its dict -/
section
variable {prog : Program} {w : World} {A : Around} {E : Value → Shared → Prop} {s : Shared} {K : PySem.W.Frag} {z D : Addr} {oz : Obj} {od : Option Obj}
open PySem.W in
theorem clsE {Q : Option Value → Shared → Prop} (C : ExcC K D) (kin : K.In s.heap) (I : InstAt s.heap z oz D od) (h : Q (some (.ref D)) { s with toks := s.toks + 1 }) : wpAny (model prog w) A (getAttr? (.ref z) "__class__") Q E s := by
  have isc : (clsIn K D).isSome = true := by
    obtain ⟨cd, hc, _⟩ := any_some C.hd
    rw [hc]
    rfl
  have found : findObj K D od "__class__" = some (.bind (.builtin "getset_descriptor.__get__") (.builtin "object.__class__")) := by
    cases od with
    | none => exact findObj_dataN isc C.ha C.hn C.ht
    | some o => exact findObj_data isc C.ha C.hn C.ht
  obtain ⟨hh, gg, dd, tt, oo⟩ := s
  have T0 := I.type (M := model prog w)
  have T1 := looks_findIn (M := model prog w) kin C.hg
  have T2 := looks_findIn (M := model prog w) kin C.hk
  have T3 := looks_find (M := model prog w) kin I found
  have isB : Looks (model prog w) hh (isInstance (.ref z) (.type "BaseException")) true := T0.andThen (looks_subIn kin C.hs)
  have n2 : (Value.builtin "BaseException.__getattribute__" == Value.builtin "object.__getattribute__") = false := by
    decide +kernel
  have n1 : (onTheHeap (Value.ref D) && Value.builtin "BaseException.__getattribute__" == Value.builtin "object.__getattribute__") = false := by
    rw [n2]
    rfl
  unfold getAttr?
  unfold getAttrBy?
  unfold getAttrBy
  refine wpAny_bind (wpAny_mkText (wpAny_bind (wpAny_attempt (wpAny_holding (wpAny_bind (T0.at (wpAny_bind (T1.at ?_))))))))
  show wpAny _ _ (ite ((onTheHeap (Value.ref D) && Value.builtin "BaseException.__getattribute__" == Value.builtin "object.__getattribute__") = true) _ _) _ _ _
  rw [n1]
  rw [if_neg Bool.false_ne_true]
  unfold getAttrByItsOwn
  unfold hookBefore
  refine wpAny_bind ?_
  rw [if_pos (show onTheHeap (.ref D) = true from rfl)]
  refine T2.at (wpAny_bind (wpAny_attempt (wpAny_holding ?_)))
  unfold callGetattribute
  rw [show (false && onTheHeap (Value.builtin "BaseException.__getattribute__")) = false from rfl]
  rw [if_neg Bool.false_ne_true]
  unfold boundAndCalled
  rw [PySem.F.excAttr_ValueError.ga.bind (.ref z)]
  refine wpAny_bind (wpAny_pure ?_)
  show wpAny _ _ (call (.builtin "BaseException.__getattribute__") [.ref z, .str "__class__" tt]) _ _ _
  refine wpAny_call (codeAny_call_builtin PySem.F.excAttr_ValueError.ga.plain PySem.F.entry_bexc_ga (@check_slot (model prog w) _ _ ⟨hh, gg, dd, tt + 1, oo⟩ "BaseException.__getattribute__" "BaseException" "__getattribute__" (.ref z) [.str "__class__" tt] [] _ (by decide +kernel) (by decide +kernel) isB (PySem.F.args_bexc_ga (.ref z) (.str "__class__" tt)) ?_))
  unfold Builtin.«object.__getattribute__»
  refine wpAny_bind (wpAny_of_eq (a := ((Value.ref z : Value), [Value.str "__class__" tt])) (by first | rfl | (simp only [slotArgs]; rfl)) ?_)
  refine wpAny_bind (wpAny_pure (wpAny_bind (T0.at (wpAny_bind (T3.at ?_)))))
  show wpAny _ _ (holding [Value.builtin "object.__class__"] (call (.builtin "getset_descriptor.__get__") [.builtin "object.__class__", .ref z, .ref D]) >>= ret) _ _ _
  refine wpAny_bind (wpAny_holding (wpAny_call (class_get (s := ⟨hh, gg, dd, tt + 1, oo⟩) (ox := oz) (od := od) kin I C.hm (wpAny_pure ?_))))
  show wpAny _ _ (handedOut (.ref D)) _ _ _
  rw [handedOut_of (v := .ref D) rfl]
  first
    | exact wpAny_pure (wpAny_pure h)
    | exact wpAny_pure h
    | exact wpAny_pure (wpAny_bind (wpAny_pure (wpAny_pure h)))
open PySem.W in
theorem kitE (C : ExcC K D) : KitX K (.ref z) (.ref D) (fun h => ∃ od, InstAt h z oz D od) where
  ty := fun _ _ _ ⟨_, I⟩ => I.type
  it := fun _ _ kin _ => by
    obtain ⟨cd, hc, _⟩ := any_some C.hd
    unfold clsIn at hc
    split at hc
    · rename_i ho
      intro A' Q' E' s' kp q
      unfold isType loadHead
      exact wpAny_bind (wpAny_loadPart (kp _ _ (kin _ _ ho)) (wpAny_pure q))
    · cases hc
  ne := fun h tp dd its n sl kin htp => by
    obtain ⟨cd, hc, _⟩ := any_some C.hd
    rw [Bool.eq_false_iff]
    intro q
    cases (Value.ref.inj (beq_iff_eq.mp q) : D = tp)
    unfold clsIn at hc
    split at hc
    · rename_i ho
      cases (kin _ _ ho).symm.trans htp
    · cases hc
  ca := fun kin ⟨_, I⟩ q => clsE C kin I q
end
/-- isinstance(e, c) in a suite: a the error, cls its class, d its dict -/
def rIsD (K : PySem.W.Frag) (D a : Addr) (cls : Value) (d : Option Addr) : List V → Hp → VK → Prop := fun xs H Q => ∃ (c : V) (cv : Value) (b : Bool) (dd : Addr) (fs : List (Str × V)), xs = [.ref a, c] ∧ (∀ u, RelV c u → u = cv) ∧ cls = .ref D ∧ d = some dd ∧ H dd = some (.xd fs) ∧ PySem.W.kitOne K (.ref D) cv = some b ∧ Q (.bl b) H
theorem call_isD {X : Cx} {a D : Addr} {oe : Obj} {cls : Value} {d : Option Addr} {pn : List (Addr × Obj)} (C : ExcC X.K D) (hz : Zc cls d oe) (hf : ∃ vs, oe.data = .fields vs) : CallR (X.suite a ((a, oe) :: pn)) (.builtin "isinstance") (rIsD X.K D a cls d) := by
  intro pins s σ H xs us Q I r h
  obtain ⟨c, cv, b, dd, fs, rfl, hcv, rfl, rfl, ed, e, q⟩ := h
  cases r with
  | cons rx rr =>
    cases rr with
    | cons rt rr =>
      cases rr
      cases rx
      cases hcv _ rt
      obtain ⟨at_, _⟩ := I.pin (a, oe) (List.mem_append.mpr (.inl List.mem_cons_self))
      obtain ⟨vs, hv⟩ := hf
      obtain ⟨mA, hns, _⟩ := (show ObjOk X.prog X.w H s.heap dd (.xd fs) from I.hok dd _ ed)
      obtain ⟨od, ho, _⟩ := lookIn_ns hns
      have J : PySem.W.InstAt s.heap a oe D (some od) := ⟨at_, hz.1, by unfold PySem.W.notCls; rw [hv] <;> rfl, by rw [hz.2]; exact ho⟩
      exact PySem.W.kia_one (kitE C) I.kIn ⟨_, J⟩ e (fun z => nomatch z) fun tk => ⟨.bl b, H, I.kept (t' := tk) fun _ _ z => z, rfl, q⟩
/-! ### repr of any data, an empty dict among it -/
/-- data, or an empty dict -/
inductive Dq (K : PySem.W.Frag) (H : Hp) : V → PyData → Prop
  | dat {v : V} {d : PyData} : Dp K H v d → Shw d → d.depth ≤ 40 → cost d ≤ sizeLine → Dq K H v d
  | emp {a : Addr} : H a = some (.dK []) → Dq K H (.ref a) (.dict [])
theorem empty_reads {X : Cx} {pins : List (Addr × Obj)} {σ : L2.St} {H : Hp} {s : Shared} {a : Addr} (I : Inv X pins σ H s) (e : H a = some (.dK [])) : Reads s.heap (.ref a) (.dict []) (a :: [] ++ []) ∧ a ≠ sysModules := by
  obtain ⟨_, ns, vs, kv, o, es, ep, h1, h2, h3, _, h5, _⟩ := (show ObjOk X.prog X.w H s.heap a (.dK []) from I.hok a _ e)
  cases kv
  have e0 : es.toList = [] := by
    cases q : es.toList with
    | nil => rfl
    | cons y ys =>
      rw [q] at h5
      cases h5
  refine ⟨.dict h1 h2.1 h3 ?_ ?_, fun z => ?_⟩
  · rw [e0]
    exact .nil
  · rw [e0]
    exact .nil
  · rw [z] at ns
    simp at ns
def rRepV (K : PySem.W.Frag) : List V → Hp → VK → Prop := fun xs H Q => ∃ v d, xs = [v] ∧ Dq K H v d ∧ Q (.str d.shown) H
theorem call_reprV {X : Cx} {K : PySem.W.Frag} (hk : X.K = K) (g : X.A.guards = some []) (hu : X.A.units + 64 < cLine) : CallR X (.builtin "repr") (rRepV K) := by
  subst hk
  intro pins s σ H xs us Q I r h
  obtain ⟨v, d, rfl, hd, q⟩ := h
  obtain ⟨u, rfl, ru⟩ := r.one
  cases hd with
  | emp e =>
    cases (show u = Value.ref _ from ru)
    obtain ⟨rd, ns⟩ := empty_reads I e
    refine repr_of_reads' rd (by decide +kernel) (fun _ z => ns (List.mem_singleton.mp z).symm) g ?_ (fun _ _ e => e) (fun h' u tk hk => ⟨.str _, H, I.kept hk, ⟨_, rfl⟩, q⟩) (by decide +kernel)
    have : (PyData.dict []).depth ≤ 2 := by decide +kernel
    omega
  | dat hp hs hd hc =>
    obtain ⟨h1, h2, h3⟩ := Shw.all d hs
    have fin : ∀ h' t' tk, (∀ b o, s.heap.get? b = some o → h'.get? b = some o) → EP X pins σ Q (.str d.shown t') { s with heap := h', toks := tk } := fun h' t' tk hk => ⟨.str d.shown, H, I.kept hk, ⟨_, rfl⟩, q⟩
    have ref_ : ∀ a : Addr, v = .ref a → wpAny (model X.prog X.w) X.A (call (.builtin "repr") [u]) (EP X pins σ Q) X.xe s := fun a ea => by
      subst ea
      obtain ⟨as, rd⟩ := Dp.reads I d _ _ hp ru
      cases (show u = Value.ref a from ru)
      exact repr_of_reads' rd h2 (fun z => by rw [h3] at z; cases z) g (by omega) (fun _ _ e => e) fin (Nat.le_trans h1 hc)
    cases hp with
    | non =>
      cases (show u = Value.none from ru)
      refine PySem.P.repr_of_none ⟨.str _, H, I.tok _, ⟨_, rfl⟩, ?_⟩
      simp only [PyData.shown] at q
      exact q
    | bl b =>
      cases (show u = Value.bool b from ru)
      refine PySem.P.repr_of_bool ⟨.str _, H, I.tok _, ⟨_, rfl⟩, ?_⟩
      simp only [PyData.shown] at q
      exact q
    | int i =>
      obtain ⟨t, rfl⟩ := (show ∃ t, u = Value.int i t from ru)
      simp only [Shw] at hs
      refine PySem.P.repr_of_int hs ⟨.str _, H, I.tok _, ⟨_, rfl⟩, ?_⟩
      simp only [PyData.shown] at q
      exact q
    | str x =>
      obtain ⟨t, rfl⟩ := (show ∃ t, u = Value.str x t from ru)
      simp only [PyData.shown] at q h1
      exact PySem.P.repr_of_str ⟨.str _, H, I.tok _, ⟨_, rfl⟩, q⟩ (Nat.le_trans h1 hc)
    | lst _ _ => exact ref_ _ rfl
    | tup _ _ => exact ref_ _ rfl
end LL

set_option Elab.async false
set_option linter.all false
set_option maxRecDepth 100000
set_option maxHeartbeats 2000000
/-! LLLam: x(lambda: body), with no repr under way; LamX's own layer for it lacks that. -/
namespace LL
open PySem PySem.Spec PyProof.Rows L2 LamX
section
variable {X : Cx} {pins : List (Addr × Obj)} {σ : L2.St} {H : Hp} {s : Shared}
/-- the call of the lambda, in the def that got it -/
theorem pe_run {CXg : CXT} {Eg : XK} {Ng : List Str} {qg : Str} {sg : Scope} {g f c' : Addr} {cdg pm ctv : Value} {params : Arguments} {body : Expr} {scope : Scope} {k i : Nat} {y : Str} {pn : List (Addr × Obj)} {xe : Value → Shared → Prop} {W : WX} {E : XK} {tb : TE} {p1 p2 : Pos}
    (I : Inv X pins σ H s) (L : LamS X.env.scope scope) (of : s.heap.get? f = some (PySem.W.kla_obj "<lambda>" (X.env.qual ++ "<lambda>") params body scope (cloFrom X.env.cells scope.names []) pm c' ctv)) (fn : H f = none) (fo : f ∉ frs X.stack)
    (ba : bindArgs (PySem.W.kla_fn "<lambda>" (X.env.qual ++ "<lambda>") params body scope (cloFrom X.env.cells scope.names []) pm (.ref c') ctv) ⟨[], []⟩ = pure [])
    (tk : Takes ((cxOf CXg X.prog X.w X.K X.mg X.base Ng qg sg g cdg X.A X.stack s H Eg).tr pn xe) W) (hr : Rm (k + 1) (X.A.deeper (envOfC qg sg s.heap.objs.size g cdg)))
    (hb : ∀ (A : Around) (outer : List Env) (s : Shared) (H : Hp), Rm k (A.deeper (lamEnv X scope s.heap.objs.size f c')) → PE (lamCx X A outer s H E scope f c') body tb)
    (hN : Ng[i]? = some y) (hv : Vis sg y) (hd : (y == ("__debug__" : Str)) = false := by decide) (hcd : (y == ("__classdict__" : Str)) = false := by decide) :
    PE ((cxOf CXg X.prog X.w X.K X.mg X.base Ng qg sg g cdg X.A X.stack s H Eg).tr pn xe) (.Call (.Name y p1) [] [] p2)
      (fun τ G Q => τ[i]? = some (some (.ref f)) ∧ G c' = some (CodeO c' (X.env.qual ++ "<lambda>")) ∧ (∀ cls d G', E cls d G' → W cls d τ G') ∧ tb σ G Q) := by
  constructor
  intro pz sz τ G Q J h
  obtain ⟨h1, h2, hW, h3⟩ := h
  have look := (pe_var (pos := p1) (i := i) hN hv hd hcd).run pz sz τ G (fun v G1 => v = .ref f ∧ G1 = G) J ⟨.ref f, h1, rfl, rfl⟩
  refine wpAny_Call_Name_kw (thn look fun u s1 z => ?_)
  obtain ⟨v, G1, J1, rv, rfl, rfl⟩ := z
  cases (show u = Value.ref f from rv)
  have of1 := J1.base.keep f _ of fn fo (fun z => nomatch (show f ∈ ([] : List Addr) from z))
  refine PySem.W.callWith_F0 ⟨_, _, _, _, of1⟩ ?_
  obtain ⟨⟨oc, vs, t, co1, co2, co3⟩, _, _⟩ := J1.hok c' _ h2
  have run : codeAny (model X.prog X.w) (X.A.deeper (envOfC qg sg s.heap.objs.size g cdg)) (.call (.ref f) ⟨[], []⟩) (CR (L2.CX X.prog X.w) (envOfC qg sg s.heap.objs.size g cdg :: X.stack) X.prog X.w G1 s1 Q E) s1 := by
    refine PySem.W.kla_callFunE hr.r.depth of1 rfl L.co L.gen rfl ⟨c', oc, vs, t, rfl, co1, co2, co3⟩ ?_
    rw [ba]
    refine wpAny_pure (wpAny_newFunctionEnv (fun n hn => (L.own n hn).2) (fun n hn => absurd hn (by simp)) (fun h₁ ns1 sb => ⟨J1.nolimit.fresh _ sb, ?_⟩) L.kind)
    show codeAny _ _ (.expr body (lamEnv X scope s1.heap.objs.size f c')) _ _
    have kp : ∀ b o, s1.heap.get? b = some o → h₁.get? b = some o := fun b o e => sb.extBut b o (Nat.ne_of_lt (Heap.lt_size e)) (Heap.get?_push_of_some _ e)
    have S : Inv (lamCx X (X.A.deeper (envOfC qg sg s.heap.objs.size g cdg)) (envOfC qg sg s.heap.objs.size g cdg :: X.stack) s1 G1 E scope f c') [] σ G1 { s1 with heap := h₁, toks := s1.toks + ([] : List (Str × Value)).length } :=
      lam_start2 I L J1.env0 hr.r.hd J1.base ns1 kp
    refine PySem.W.kla_codeExpr (wpAny_mono ((hb _ _ s1 G1 (hr.deeper _)).run [] _ _ G1 Q S h3) (fun v s2 z => ?_) fun _ _ z => z)
    obtain ⟨w', G2, S2, rv2, q⟩ := z
    exact ⟨w', G2, S2.os, S2.bare, S2.base, S2.hok, rv2, q⟩
  refine wpAny_call (codeAny_mono run fun r s2 z => ?_)
  match r, z with
  | .error e, z => exact tk _ _ (XE.of_call J1 hW z)
  | .ok (.ret u), z => exact J1.after z
  | .ok .next, z => exact z.elim
  | .ok .brk, z => exact z.elim
  | .ok .cont, z => exact z.elim
end
/-- the def x that calls what it got by its one name y: TT is what it makes of the lambda's reading -/
def Gives (X : Cx) (k : Nat) (Ng : List Str) (x : Str) (sg : Scope) (g : Addr) (cdg : Value) (bg : List Stmt) (y : Str) (q : Str) (TT : (XK → Hp → VK → Prop) → Hp → VK → Prop) : Prop :=
  ∀ (f c' : Addr) (s : Shared) (H : Hp) (Q : VK) (tl : XK → Hp → VK → Prop), Rm k (X.A.deeper (envOfC x sg s.heap.objs.size g cdg)) →
    (∀ (W : WX) (pn : List (Addr × Obj)) (xe : Value → Shared → Prop) (E : XK) (p1 p2 : Pos), Takes ((cxOf CX0 X.prog X.w X.K X.mg X.base Ng x sg g cdg X.A X.stack s H E0).tr pn xe) W →
      PE ((cxOf CX0 X.prog X.w X.K X.mg X.base Ng x sg g cdg X.A X.stack s H E0).tr pn xe) (.Call (.Name y p1) [] [] p2) (fun τ G Q => τ[0]? = some (some (.ref f)) ∧ G c' = some (CodeO c' q) ∧ (∀ cls d G', E cls d G' → W cls d τ G') ∧ tl E G Q)) →
    H c' = some (CodeO c' q) → TT tl H Q →
    ∃ t, PSs (cxOf CX0 X.prog X.w X.K X.mg X.base Ng x sg g cdg X.A X.stack s H E0).nox bg t ∧ t { nx := fun _ H' => Q .non H', rt := Q } (L2.start Ng [.ref f]) H
/-- the def x, as one fact: it calls what it gets, and makes TT of it -/
structure Taker (P : Program) (w : World) (K : PySem.W.Frag) (mg : Str → Option Value) (base : Heap) (k : Nat) (x y : Str) (TT : (XK → Hp → VK → Prop) → Hp → VK → Prop) : Prop where
  ex : ∃ (g : Addr) (fd : FuncData) (pg : Arguments) (bg : List Stmt) (sg : Scope) (Ng : List Str), mg x = some (.ref g) ∧ FunD K x x pg bg sg [] [] g fd ∧ FnScope Ng [y] sg ∧ Ng[0]? = some y ∧ Vis sg y ∧ Binds K fd [y] [] ∧
    ∀ (X : Cx) (cdg : Value) (q : Str), X.prog = P → X.w = w → X.K = K → X.mg = mg → X.base = base → Gives X k Ng x sg g cdg bg y q TT
section
variable {X : Cx}
/-- x(lambda: body) -/
theorem pe_lamG {T : List (Addr × Str)} {TT : (XK → Hp → VK → Prop) → Hp → VK → Prop} {x y : Str} {c P : Addr} {k : Nat} {params : Arguments} {body : Expr} {scope : Scope} {t : XK → TE} {p lpos pos : Pos} (G : Taker X.prog X.w X.K X.mg X.base (k + 1) x y TT)
    (TB : TabB X.base X.mg c P) (hcode : X.env.code = .ref c) (hmT : (P, X.env.qual ++ "<lambda>") ∈ T) (hu : ∀ p ∈ T, p.1 = P → p.2 = X.env.qual ++ "<lambda>") (hr : Rm (k + 2) X.A) (L : LamS X.env.scope scope)
    (hbody : ∀ (A : Around) (outer : List Env) (s : Shared) (H : Hp) (E : XK) (f c' : Addr), Rm k (A.deeper (lamEnv X scope s.heap.objs.size f c')) → PE (lamCx X A outer s H E scope f c') body (t E)) (hg : Gl X x := by rfl)
    (hdef : defaultsOf params X.env = ([], []) := by rfl) (hbind : ∀ (q : Str) (cl : List (Str × Addr)) (pm cv ctv : Value), bindArgs (PySem.W.kla_fn "<lambda>" q params body scope cl pm cv ctv) ⟨[], []⟩ = pure [] := by intros; rfl)
    (hdb : (x == ("__debug__" : Str)) = false := by decide) (hd : (y == ("__debug__" : Str)) = false := by decide) (hcd : (y == ("__classdict__" : Str)) = false := by decide) :
    PE X (.Call (.Name x p) [.Lambda params body scope lpos] [] pos) (tLam T TT t) := by
  obtain ⟨g, fd, pg, bg, sg, Ng, hm, FF, Sg, hNg, hva, hb, hG⟩ := G.ex
  obtain ⟨oc, od, dV, kV, doc, pm, an, cdv, ct, osl, rfl, lk, hcg, _, _⟩ := FF.ex
  constructor
  intro pins s σ H Q I h
  obtain ⟨hT, h⟩ := h
  refine wpAny_Call_Name_kw (ld_glob I hg hm (PySem.W.callWith_K (h₀ := X.base) I.ok.mod.kin FF.kp ?_ (by rfl) (by rfl)) hdb)
  show wpAny _ _ (spliced ((false, eval (.Lambda params body scope lpos) X.env) :: backTo pos (starEach [] X.env))) _ _ s
  refine Calls.spliced_cons (lam_make2 I TB hcode hmT hu hT hdef (L.has I.ok) fun f c' pm' ctv H1 s1 I1 eN T1 of fn fo co => Calls.spliced_nil ⟨I1.kIn, ?_⟩)
  have run : codeAny (model X.prog X.w) X.A (.call (.ref g) ⟨[.ref f], []⟩) (CR CX0 X.stack X.prog X.w H1 s1 Q E0) s1 := by
    refine run_ofS (N := Ng) (ps := [y]) (us := [.ref f]) (vs := [.ref f]) lk hcg Sg hr.r I1.env0 (hb s1 [.ref f] I1.kIn rfl) (.cons rfl .nil) rfl fun _ => ?_
    have hr1 : Rm (k + 1) (X.A.deeper (envOfC x sg s1.heap.objs.size g cdv)) := hr.deeper _
    obtain ⟨t', ht, hq⟩ := hG X cdv (X.env.qual ++ "<lambda>") rfl rfl rfl rfl rfl f c' s1 H1 Q (fun E H' Q' => t E σ H' Q') hr1
      (fun W pn xe E p1 p2 tk => pe_run (i := 0) I1 L of fn fo (hbind _ _ _ _ _) tk hr1 (fun A outer s H hr2 => hbody A outer s H E f c' hr2) hNg hva hd hcd) co (h H1 eN T1)
    exact ⟨t', ht.nox, hq⟩
  refine wpAny_call (codeAny_mono run fun r s2 z => ?_)
  match r, z with
  | .error e, z => exact (show False from z).elim
  | .ok (.ret u), z => exact I1.after z
  | .ok .next, z => exact z.elim
  | .ok .brk, z => exact z.elim
  | .ok .cont, z => exact z.elim
end
end LL

set_option Elab.async false
set_option linter.all false
set_option maxRecDepth 100000
set_option maxHeartbeats 2000000
/-! LLTab: the law's end, and the head's Hook, where some defs make lambdas (tables of code objects). -/
namespace LL
open PySem PySem.Spec PyProof.Rows L2 LamX
/-! ### a def by its body, its code object known -/
section
variable {P : Program} {w : World} {K : PySem.W.Frag} {mg : Str → Option Value} {base : Heap} {CX : CXT} {k : Nat} {f : Addr} {fd : FuncData} {ps : List Str} {sp : Sp}
theorem okC {x qual : Str} {params : Arguments} {body : List Stmt} {scope : Scope} {dvs : List V} {kws : List (Str × V)} {N : List Str} (F : FunD K x qual params body scope dvs kws f fd) (S : FnScope N ps scope) (len : ∀ vs H Q E, sp vs H Q E → vs.length = ps.length)
    (hbody : ∀ (cdv : Value), (fdAt K f).map FuncData.code = some cdv → ∀ (A : Around) (outer : List Env) (s : Shared) (H : Hp) (vs : List V) (Q : VK) (E : XK), Rm k (A.deeper (envOfC qual scope s.heap.objs.size f cdv)) → sp vs H Q E →
      ∃ t, PSs (cxOf CX0 P w K mg base N qual scope f cdv A outer s H E).nox body t ∧ t { nx := fun _ H' => Q .non H', rt := Q } (L2.start N vs) H) : FnG P w K mg base CX0 (k + 1) f fd ps sp := by
  obtain ⟨oc, od, dV, kV, doc, pm, an, cdv, ct, osl, rfl, lk, hcd, _, _⟩ := F.ex
  have ec : (fdAt K f).map FuncData.code = some cdv := by
    unfold fdAt
    rw [lk]
    rfl
  refine ⟨len, fun A outer s H args us vs Q E hr e0 hb r hsp => ?_⟩
  refine LamX.run_ofS (CX := CX0) lk hcd S hr.r e0 hb r (len _ _ _ _ hsp) fun _ => ?_
  obtain ⟨t, ht, q⟩ := hbody cdv ec A outer s H vs Q E (hr.deeper _) hsp
  exact ⟨t, ht.nox, q⟩
end
/-- the code object of the def at a, its table -/
def cOf (K : PySem.W.Frag) (a : Addr) : Addr := match (fdAt K a).map FuncData.code with
  | some (Value.ref c) => c
  | _ => 0
theorem cOf_of {K : PySem.W.Frag} {a c : Addr} (e : (fdAt K a).map FuncData.code = some (Value.ref c)) : cOf K a = c := by
  unfold cOf
  rw [e]
def tOf (K : PySem.W.Frag) (a : Addr) : Addr := He.tabOf K (cOf K a)
/-! ### the law's call -/
section
variable {P : Program} {w : World} {K : PySem.W.Frag} {mg mb : Str → Option Value} {CX : CXT} {k : Nat} {fa a : Addr} {fd : FuncData} {x : Str} {sp : Sp} {t : Shared} {us : List Value} {ns : List Int} {cs : List (Addr × Addr)}
/-- an empty table -/
abbrev tab0 : Obj := { cls := .none, data := .fields #[] }
theorem lawAtT {H : Hp} (KX : K.In t.heap) (hns : t.heap.Ns mainGlobals mg) (hb : t.heap.Ns builtinsNs mb) (hbb : ∀ x : Str, x ≠ "__name__" → mb x = bootBuiltins x) (hlim : t.heap.NoLimit) (hg : t.gens = #[])
    (tT : ∀ p ∈ cs, t.heap.get? p.2 = some tab0) (tK : ∀ p ∈ cs, K.lookup p.2 = none) (tC : ∀ p ∈ cs, PySem.W.codeHdIn K p.1 p.2 = true)
    (bm : ∃ (m : Addr) (om : Obj), mg "__builtins__" = some (.ref m) ∧ m ≠ builtinsNs ∧ t.heap.get? m = some om ∧ om.cls = .type "module" ∧ om.dict = some builtinsNs ∧ om.data = .plain)
    (ha : t.heap.get? a = some { cls := .type "list", data := .seq us.toArray }) (hr : Rm k callerA) (F : ∀ base : Heap, K.In base → base.Ns mainGlobals mg → (∀ p ∈ cs, TabB base mg p.1 p.2) → FnG P w K mg base CX k fa fd [x] sp)
    (bd : ∀ (s : Shared) (u : Value), BindsTo s fd ⟨[u], []⟩ [(x, u)]) (hsp : sp [.ref a] H (fun v _ => v = .bl true) fun _ _ _ => False) (hCX : ∀ e s', CX [] H t (fun _ _ _ => False) e s' → False)
    (only : ∀ b, H b = none ∨ (b = a ∧ K.lookup a = none ∧ ∃ o l, H b = some (.frz o (.lst l))) ∨ ∃ p ∈ cs, b = p.2 ∧ H b = some (.tbl #[])) (hok : HOk P w H t.heap) : codeAny (model P w) callerA (.call (.ref fa) ⟨[.ref a], []⟩) (LawEnd t) t := by
  -- what is neither a list nor a table is free
  have free : ∀ {b : Addr} {o : Obj}, t.heap.get? b = some o → (∀ vs m, o.data ≠ .seq vs m) → (o.data ≠ .fields #[]) → H b = none := fun {b o} e n1 n2 => by
    rcases only b with z | ⟨rfl, _, _⟩ | ⟨p, hp, rfl, _⟩
    · exact z
    · rw [ha] at e
      cases e
      exact (n1 _ _ rfl).elim
    · rw [tT p hp] at e
      cases e
      exact (n2 rfl).elim
  have nsB : ∀ {b : Addr} {m : Str → Option Value}, t.heap.Ns b m → (hidT t.heap H).Ns b m := by
    rintro b m ⟨o, es, ep, e, d, r⟩
    refine ⟨o, es, ep, hidT_get e (free e (fun vs m z => ?_) fun z => ?_), d, r⟩ <;> rw [d] at z <;> cases z
  have kB : K.In (hidT t.heap H) := by
    intro b o e
    refine hidT_get (KX b o e) ?_
    rcases only b with z | ⟨z, q, _⟩ | ⟨p, hp, z, _⟩
    · exact z
    · rw [z, q] at e
      cases e
    · rw [z, tK p hp] at e
      cases e
  have TB : ∀ p ∈ cs, TabB (hidT t.heap H) mg p.1 p.2 := fun p hp => by
    refine ⟨PySem.W.codeHd_of_K kB (tC p hp), ?_, fun z => ?_⟩
    · obtain ⟨m, om, m1, m2, m3, m4, m5, m6⟩ := bm
      refine ⟨m, om, m1, m2, fun z => ?_, fun z => ?_, hidT_get m3 (free m3 (fun vs n z => ?_) fun z => ?_), m4, m5, m6⟩
      · obtain ⟨o, es, ep, e, d, _⟩ := hns
        rw [z, e] at m3
        cases m3
        rw [d] at m6
        cases m6
      · rw [z, tT p hp] at m3
        cases m3
        cases m6
      · rw [m6] at z
        cases z
      · rw [m6] at z
        cases z
    · obtain ⟨o, es, ep, e, d, _⟩ := hns
      rw [z, tT p hp] at e
      cases e
      cases d
  obtain ⟨ml, l1, l2⟩ := hlim
  have env : Env0 P w K mg (hidT t.heap H) callerA [] t H :=
    { frames := rfl
      mod := ⟨kB, nsB hns, ⟨mb, nsB hb, hbb⟩, ⟨ml, nsB l1, l2⟩⟩
      bs := fun _ _ e => of_hidT e
      bsz := Nat.le_of_eq (hidT_size _ _)
      funs := trivial
      frf := fun _ z => by cases (show _ ∈ ([] : List Addr) from z)
      hok := hok
      bare := .of_eq hg }
  have go := (F _ kB (nsB hns) TB).run callerA [] t H ⟨[.ref a], []⟩ [.ref a] [.ref a] _ _ hr env (bd t (.ref a)) (.cons rfl .nil) hsp
  refine codeAny_mono go fun r t' h => ?_
  match r, h with
  | .error e, h => exact (hCX e t' h).elim
  | .ok .next, h => exact False.elim h
  | .ok .brk, h => exact False.elim h
  | .ok .cont, h => exact False.elim h
  | .ok (.ret u), h =>
    obtain ⟨v, H', e1, e2, un, hok', rv, (rfl : v = .bl true)⟩ := h
    cases (show u = Value.bool true from rv)
    have key : ∀ b o, t.heap.get? b = some o → t'.heap.get? b = some o ∨ ∃ p ∈ cs, b = p.2 ∧ o = tab0 ∧ ∃ more : Array Value, t'.heap.get? b = some { cls := .none, data := .fields more } := fun b o e => by
      rcases only b with n | ⟨_, _, ob, l, z⟩ | ⟨p, hp, rfl, z⟩
      · exact .inl (un.keep b o e n (fun z => by cases (show b ∈ ([] : List Addr) from z)) (fun z => by cases z))
      · have z1 := (hok b _ z).1
        have z2 := (hok' b _ (un.frzs b ob _ z)).1
        rw [e] at z1
        cases z1
        exact .inl z2
      · obtain ⟨more, y⟩ := un.tbls p.2 #[] z
        have y2 := tT p hp
        rw [e] at y2
        exact .inr ⟨p, hp, rfl, Option.some.inj y2, _, hok' p.2 _ y⟩
    refine ⟨rfl, ⟨fun b o e => ?_, fun b o e => ?_⟩, e1, e2⟩
    · rcases key b o e with z | ⟨p, hp, rfl, rfl, more, z⟩
      · exact .inl z
      · exact .inr (.inl ⟨((PySem.W.codeHd_of_K KX (tC p hp)).tab (tT p hp)).isCodeTable, rfl, #[], more, rfl, by rw [Array.empty_append]; exact z⟩)
    · rcases key b o e with z | ⟨p, hp, rfl, rfl, more, z⟩
      · exact ⟨o, z⟩
      · exact ⟨_, z⟩
theorem lawT (KX : K.In t.heap) (hns : t.heap.Ns mainGlobals mg) (hb : t.heap.Ns builtinsNs mb) (hbb : ∀ x : Str, x ≠ "__name__" → mb x = bootBuiltins x) (hlim : t.heap.NoLimit) (hg : t.gens = #[])
    (tT : ∀ p ∈ cs, t.heap.get? p.2 = some tab0) (tK : ∀ p ∈ cs, K.lookup p.2 = none) (tC : ∀ p ∈ cs, PySem.W.codeHdIn K p.1 p.2 = true)
    (bm : ∃ (m : Addr) (om : Obj), mg "__builtins__" = some (.ref m) ∧ m ≠ builtinsNs ∧ t.heap.get? m = some om ∧ om.cls = .type "module" ∧ om.dict = some builtinsNs ∧ om.data = .plain)
    (ha : t.heap.get? a = some { cls := .type "list", data := .seq us.toArray }) (hi : IntsAre us ns) (hl : ns.length ≤ sizeLine) (hr : Rm k callerA) (F : ∀ base : Heap, K.In base → base.Ns mainGlobals mg → (∀ p ∈ cs, TabB base mg p.1 p.2) → FnG P w K mg base CX k fa fd [x] sp)
    (bd : ∀ (s : Shared) (u : Value), BindsTo s fd ⟨[u], []⟩ [(x, u)]) (hsp : ∀ H : Hp, (∀ p ∈ cs, H p.2 = some (.tbl #[])) → SqL K H a (ns.map V.int) → sp [.ref a] H (fun v _ => v = .bl true) fun _ _ _ => False) (hCX : ∀ H e s', CX [] H t (fun _ _ _ => False) e s' → False) :
    codeAny (model P w) callerA (.call (.ref fa) ⟨[.ref a], []⟩) (LawEnd t) t := by
  classical
  have rv := vals_ints hi
  have na : ∀ p ∈ cs, p.2 ≠ a := fun p hp z => by
    have e := tT p hp
    rw [z, ha] at e
    cases e
  let T : Hp := fun b => if ∃ p ∈ cs, b = p.2 then some (.tbl #[]) else none
  have T1 : ∀ p ∈ cs, T p.2 = some (.tbl #[]) := fun p hp => if_pos ⟨p, hp, rfl⟩
  have T2 : ∀ b u, T b = some u → (∃ p ∈ cs, b = p.2) ∧ u = .tbl #[] := fun b u e => by
    by_cases c : ∃ p ∈ cs, b = p.2
    · have e' : some (HO.tbl #[]) = some u := (if_pos c).symm.trans e
      exact ⟨c, (Option.some.inj e').symm⟩
    · have e' : none = some u := (if_neg c).symm.trans e
      cases e'
  have T3 : ∀ b, T b = none ∨ ∃ p ∈ cs, b = p.2 ∧ T b = some (.tbl #[]) := fun b => by
    by_cases c : ∃ p ∈ cs, b = p.2
    · obtain ⟨p, hp, e⟩ := c
      exact .inr ⟨p, hp, e, e ▸ T1 p hp⟩
    · exact .inl (if_neg c)
  have T4 : HOk P w T t.heap := fun b u e => by
    obtain ⟨⟨p, hp, rfl⟩, rfl⟩ := T2 b u e
    exact tT p hp
  cases q : K.lookup a with
  | none =>
    let o : Obj := { cls := .type "list", data := .seq us.toArray }
    have Ha : upd T a (.frz o (.lst (ns.map V.int))) a = some (.frz o (.lst (ns.map V.int))) := upd_same
    refine lawAtT (H := upd T a (.frz o (.lst (ns.map V.int)))) KX hns hb hbb hlim hg tT tK tC bm ha hr F bd (hsp _ (fun p hp => ?_) (.inl (.inr ⟨_, Ha⟩))) (hCX _) (fun b => ?_) fun b u z => ?_
    · rw [upd_ne (na p hp)]
      exact T1 p hp
    · by_cases c : b = a
      · exact .inr (.inl ⟨c, q, o, _, by rw [c]; exact Ha⟩)
      · rw [upd_ne c]
        exact (T3 b).imp id fun z => .inr z
    · by_cases c : b = a
      · subst c
        rw [Ha] at z
        cases z
        exact ⟨ha, by rw [List.length_map]; exact hl, us, _, rv, ha⟩
      · rw [upd_ne c] at z
        obtain ⟨⟨p, hp, rfl⟩, rfl⟩ := T2 b u z
        exact tT p hp
  | some o =>
    have e := KX a o q
    rw [ha] at e
    cases e
    refine lawAtT (H := T) KX hns hb hbb hlim hg tT tK tC bm ha hr F bd (hsp _ T1 (.inr ⟨_, us.toArray, _, q, rfl, rfl, rfl, ?_, by simpa using rv⟩)) (hCX _) (fun b => (T3 b).imp id fun z => .inr z) T4
    rw [List.size_toArray, hi.length]
    exact hl
end
/-- the goal that the head leaves, from the law's promise -/
theorem walkT {l : PySem.W.OpenLaw} {n k : Nat} {q : Program} {loose : List Str} {XP : (Str → Option Value) → Heap → Prop} {YP : World → Heap → Prop} {d : DefRec} {CX : CXT} {x : Str} (hn : l.most = some n) (hn2 : n ≤ sizeLine) (hdf : d.params.defaults = []) (hr : Rm k callerA)
    (F : ∀ (w : World) (mg : Str → Option Value) (fa : Addr) (h : Heap), YP w h → h.Ns mainGlobals mg → mg d.name = some (.ref fa) →
      ∃ (K : PySem.W.Frag) (fd : FuncData) (sp : Sp) (cs : List (Addr × Addr)), K.In h ∧ (∀ p ∈ cs, h.get? p.2 = some tab0) ∧ (∀ p ∈ cs, K.lookup p.2 = none) ∧ (∀ p ∈ cs, PySem.W.codeHdIn K p.1 p.2 = true) ∧ (∀ (s : Shared) (u : Value), BindsTo s fd ⟨[u], []⟩ [(x, u)]) ∧
        (∀ (H : Hp) (a : Addr) (ns : List Int), ns.length ≤ n → (∀ i ∈ ns, Builtin.Int.intBits i ≤ 1048576) → (∀ p ∈ cs, H p.2 = some (.tbl #[])) → SqL K H a (ns.map V.int) → sp [.ref a] H (fun v _ => v = .bl true) fun _ _ _ => False) ∧
        ∀ base : Heap, K.In base → base.Ns mainGlobals mg → (∀ p ∈ cs, TabB base mg p.1 p.2) → FnG l.prog w K mg base CX k fa fd [x] sp)
    (hCX : ∀ (H : Hp) (s : Shared) (e : Value) (s' : Shared), CX [] H s (fun _ _ _ => False) e s' → False) : PySem.W.WalkO q loose XP YP l.row.toRowW d [] (fun f vs => PySem.call f vs) := by
  refine Att.attach_callB hn hdf fun w _ t mg mb fa _ _ _ _ a us ns G Y _ _ _ hm ho hi hlen hbits hg => ?_
  obtain ⟨K, fd, sp, cs, KX, tT, tK, tC, bd, hs, hF⟩ := F w mg fa _ Y G.T.g hm
  exact lawT KX G.T.g G.T.b G.T.builtins G.T.nolimit hg tT tK tC G.T.bmain ho hi (Nat.le_trans hlen hn2) hr hF bd (fun H hT hS => hs H a ns hlen hbits hT hS) fun H e s' => hCX H t e s'
/-! ### the Hook -/
/-- what the module's names reach in n steps, and the statics -/
def asY (g : Addr → Option Obj) : Nat → List Addr
  | 0 => [mainGlobals, cStatics]
  | n + 1 => He.growD g (asY g n)
def frY (n : Nat) (g : Addr → Option Obj) : PySem.W.Frag := He.frT g (asY g n)
def tabY (g : Addr → Option Obj) (tf : List (PySem.W.Frag → Addr)) (K : PySem.W.Frag) : Bool := tf.all fun a => PySem.W.codeHdIn K (cOf K (a K)) (tOf K (a K)) && (g (tOf K (a K))).any He.emptyTab
abbrev AlT : Type := AlX × Bool
def obsTG (n : Nat) (ft : List Ft) (fn : List DefX) (tf : List (PySem.W.Frag → Addr)) (g : Addr → Option Obj) : AlT := (obsY ft fn (frY n g), tabY g tf (frY n g))
structure SaysT (ft : List Ft) (fn : List DefX) (tf : List (PySem.W.Frag → Addr)) (h : Heap) (K : PySem.W.Frag) : Prop where
  y : SaysY ft fn K
  hd : ∀ a ∈ tf, PySem.W.codeHdIn K (cOf K (a K)) (tOf K (a K)) = true
  out : ∀ a ∈ tf, K.lookup (tOf K (a K)) = none
  emp : ∀ a ∈ tf, h.get? (tOf K (a K)) = some tab0
theorem saysT_of {n : Nat} {ft : List Ft} {fn : List DefX} {tf : List (PySem.W.Frag → Addr)} {h : Heap} (e : obsTG n ft fn tf h.get? = (valY fn, true)) : SaysT ft fn tf h (frY n h.get?) := by
  have e1 : obsY ft fn (frY n h.get?) = valY fn := congrArg Prod.fst e
  have e2 : tabY h.get? tf (frY n h.get?) = true := congrArg Prod.snd e
  have key : ∀ a ∈ tf, PySem.W.codeHdIn (frY n h.get?) (cOf (frY n h.get?) (a (frY n h.get?))) (tOf (frY n h.get?) (a (frY n h.get?))) = true ∧ ∃ o, h.get? (tOf (frY n h.get?) (a (frY n h.get?))) = some o ∧ He.emptyTab o = true := fun a ha => by
    obtain ⟨h1, h2⟩ := He.ba (List.all_eq_true.mp e2 a ha)
    cases q : h.get? (tOf (frY n h.get?) (a (frY n h.get?))) with
    | none =>
      rw [q] at h2
      cases h2
    | some o =>
      rw [q] at h2
      exact ⟨h1, o, rfl, h2⟩
  refine ⟨e1, fun a ha => (key a ha).1, fun a ha => ?_, fun a ha => ?_⟩
  · obtain ⟨_, o, q, z⟩ := key a ha
    exact He.frT_none q z
  · obtain ⟨_, o, q, z⟩ := key a ha
    rw [q, He.emptyTab_eq z]
def hookT (n : Nat) (ft : List Ft) (fn : List DefX) (tf : List (PySem.W.Frag → Addr)) : PySem.W.Hook where
  α := AlT
  obs := fun s => obsTG n ft fn tf s.heap.get?
  val := fun _ => (valY fn, true)
  says := fun _ h => ∃ K : PySem.W.Frag, K.In h ∧ SaysT ft fn tf h K
  of := fun _ _ e => ⟨_, He.frT_in, saysT_of e⟩
  keeps := fun _ _ _ ⟨K, hK, c⟩ k => ⟨K, PySem.W.Frag.In.keeps hK k, ⟨c.y, c.hd, c.out, fun a ha => k _ _ (c.emp a ha)⟩⟩
theorem obsTG_eq {n : Nat} {ft : List Ft} {fn : List DefX} {tf : List (PySem.W.Frag → Addr)} {g : Addr → Option Obj} {s : Shared} (h : ∀ a, g a = s.heap.get? a) : obsTG n ft fn tf g = (hookT n ft fn tf).obs s := by
  cases (funext h : g = s.heap.get?)
  rfl
/-! ### an error class of the text, over ValueError -/
def oexB (K : PySem.W.Frag) (C : Addr) : Bool := match K.lookup C with
  | some ⟨.type c, _, .cls cd, sl⟩ => c == "type" && (match cd.mro, sl.toList with
    | .ref D :: bm, [_, _, _, _, some (.builtin n), _] => D == C && (n == "ValueError.__new__" && (!cd.hasDel && (cd.hasDict && PySem.HandSPX.refsVE bm)))
    | _, _ => false)
  | _ => false
theorem oexB_ok {K : PySem.W.Frag} {C : Addr} (h : oexB K C = true) : ∃ nm q N bs bm sn sub ab col dd k0 k1 k2 k3 k5, K.lookup C = some (excClassObj nm q C N bs bm true sn sub ab col dd k0 k1 k2 k3 k5 "ValueError.__new__") ∧ PySem.HandSPX.refsVE bm = true := by
  unfold oexB at h
  split at h
  · rename_i c dd cd sl lk
    obtain ⟨h1, h2⟩ := He.ba h
    split at h2
    · rename_i D bm k0 k1 k2 k3 n k5 hm hs
      obtain ⟨g1, g2⟩ := He.ba h2
      obtain ⟨g3, g4⟩ := He.ba g2
      obtain ⟨g5, g6⟩ := He.ba g4
      obtain ⟨g7, g8⟩ := He.ba g6
      obtain ⟨c1, c2, c3, c4, c5, c6, c7, c8, c9, c10, c11⟩ := cd
      have es : sl = #[k0, k1, k2, k3, some (.builtin n), k5] := by
        have : sl = sl.toList.toArray := by simp
        rw [this, hs]
      have e1 : c = "type" := beq_iff_eq.mp h1
      have e2 : D = C := beq_iff_eq.mp g1
      have e3 : n = "ValueError.__new__" := beq_iff_eq.mp g3
      have e4 : c11 = false := by simpa using g5
      have e5 : c6 = true := g7
      have e6 : c3 = .ref D :: bm := hm
      subst es e1 e2 e3 e4 e5 e6
      exact ⟨_, _, _, _, _, _, _, _, _, _, _, _, _, _, _, lk, g8⟩
    · cases h2
  · cases h
/-- all that is asked of an error class x with the field f -/
def fXcl (x f : Str) : Ft := fun K => oexB K (He.ga K x) && (He.eqO (PySem.W.findIn K (.ref (He.ga K x)) "__setattr__") (some (some (.builtin "object.__setattr__"))) && (decide (PySem.W.subIn K (.ref (He.ga K x)) (.type "BaseException") = some true) && (decide (PySem.W.typeIn K (.ref (He.ga K x)) = some (.type "type")) &&
  (PySem.W.keepIn K (.ref (He.ga K x)) && (He.eqO (PySem.W.findIn K (.ref (He.ga K x)) f) (some none) && (He.eqO (PySem.W.findIn K (.ref (He.ga K x)) "__init__") (some (some (.ref (mA x "__init__" K)))) && (decide (PySem.W.typeIn K (.ref (mA x "__init__" K)) = some (.type "function")) &&
  (xfB K (He.ga K x) && (He.eqO (PySem.W.findIn K (.ref (He.ga K x)) "__class__") (some (some (.builtin "object.__class__"))) && (He.eqO (PySem.W.specialIn K (.builtin "object.__class__") "__get__") (some (some (.builtin "getset_descriptor.__get__"))) && (decide (PySem.W.takesIn K (.builtin "object.__class__") = some true) && decide (PySem.W.mroIn K (He.ga K x) (.type "object") = some true))))))))))))
theorem fXcl_ok {P : Program} {w : World} {K : PySem.W.Frag} {mg : Str → Option Value} {base : Heap} {k : Nat} {x f : Str} {fd : FuncData} {ps : List Str} (c : fXcl x f K = true) (hm : mg x = some (.ref (He.ga K x))) (B : Binds K fd ps []) (F : FnOk P w K mg base CX0 k (mA x "__init__" K) fd ps (spXI (He.ga K x) f)) :
    Xcl P w K mg base k x (He.ga K x) f := by
  obtain ⟨c1, c⟩ := He.ba c
  obtain ⟨c2, c⟩ := He.ba c
  obtain ⟨c3, c⟩ := He.ba c
  obtain ⟨c4, c⟩ := He.ba c
  obtain ⟨c5, c⟩ := He.ba c
  obtain ⟨c6, c⟩ := He.ba c
  obtain ⟨c7, c⟩ := He.ba c
  obtain ⟨c8, c⟩ := He.ba c
  obtain ⟨c9, c⟩ := He.ba c
  obtain ⟨c10, c⟩ := He.ba c
  obtain ⟨c11, c⟩ := He.ba c
  obtain ⟨c12, c13⟩ := He.ba c
  have xf := xfB_ok c9
  exact ⟨⟨oexB_ok c1, He.eqO_ok c2, of_decide_eq_true c3, of_decide_eq_true c4, c5⟩, He.eqO_ok c6, hm, ⟨_, fd, ps, He.eqO_ok c7, of_decide_eq_true c8, B, F⟩, xf, ⟨xf.ga, xf.gg, xf.exC, xf.hdC, He.eqO_ok c10, He.eqO_ok c11, of_decide_eq_true c12, of_decide_eq_true c13⟩⟩
theorem fXcl_pre {K : PySem.W.Frag} {x f : Str} (c : fXcl x f K = true) : OexC K (He.ga K x) ∧ PySem.W.findIn K (.ref (He.ga K x)) f = some none := by
  obtain ⟨c1, c⟩ := He.ba c
  obtain ⟨c2, c⟩ := He.ba c
  obtain ⟨c3, c⟩ := He.ba c
  obtain ⟨c4, c⟩ := He.ba c
  obtain ⟨c5, c⟩ := He.ba c
  obtain ⟨c6, _⟩ := He.ba c
  exact ⟨⟨oexB_ok c1, He.eqO_ok c2, of_decide_eq_true c3, of_decide_eq_true c4, c5⟩, He.eqO_ok c6⟩
/-- the class B over ValueError that has no __init__ of its own -/
def fLe (x : Str) : Ft := fun K => He.eqO (PySem.W.specialIn K (.ref (He.ga K x)) "__getattribute__") (some (some (.builtin "type.__getattribute__"))) && (PySem.W.readsIn K (He.ga K x) (.type "type") && (match PySem.W.findCls K (.ref (He.ga K x)) (.type "type") "__init__" with
  | some (.val (.builtin n)) => n == "ValueError.__init__"
  | _ => false))
theorem fLe_ok {K : PySem.W.Frag} {x : Str} (c : fLe x K = true) : LeC K (He.ga K x) := by
  obtain ⟨c1, c⟩ := He.ba c
  obtain ⟨c2, c3⟩ := He.ba c
  refine ⟨He.eqO_ok c1, c2, ?_⟩
  split at c3
  · rename_i n e
    rw [e, beq_iff_eq.mp c3]
  · cases c3
end LL

set_option Elab.async false
set_option linter.all false
set_option maxRecDepth 100000
set_option maxHeartbeats 2000000
/-! LLVal: values that are refused, and how repr tells them; heaps with tables; constants of the module. -/
namespace LL
open PySem PySem.Spec PyProof.Rows L2
theorem small {n : Nat} (h : n ≤ 100000) : n ≤ sizeLine := Nat.le_trans h (by rw [sizeLine_eq]; decide)
theorem passF {X : Cx} : Passes (L2.CX X.prog X.w) X E0 := fun _ _ _ _ _ _ _ h => by
  obtain ⟨_, _, _, _, _, _, _, _, _, _, _, _, z⟩ := h
  exact z.elim
/-- a constant of the module -/
theorem pe_gS {X : Cx} {x z : Str} {pos : Pos} (h : ∃ t, X.mg x = some (.str z t)) (hg : Gl X x := by rfl) (hd : (x == ("__debug__" : Str)) = false := by decide) : PE X (.Name x pos) (tC (.str z)) := by
  obtain ⟨t, h⟩ := h
  exact pe_glob hg h ⟨t, rfl⟩ hd
theorem pe_gI {X : Cx} {x : Str} {i : Int} {pos : Pos} (h : ∃ t, X.mg x = some (.int i t)) (hg : Gl X x := by rfl) (hd : (x == ("__debug__" : Str)) = false := by decide) : PE X (.Name x pos) (tC (.int i)) := by
  obtain ⟨t, h⟩ := h
  exact pe_glob hg h ⟨t, rfl⟩ hd
def fStr (x z : Str) : Ft := fun K => (He.Fa.str x z).ok K
def fInt (x : Str) (i : Int) : Ft := fun K => (He.Fa.int x i).ok K
/-- a value that is no text -/
def NoTxt (K : PySem.W.Frag) (H : Hp) (v : V) : Prop := ∃ t, (∀ H', LamX.ExtN H H' → TyX K H' v t) ∧ PySem.W.kitOne K t (.type "str") = some false
theorem NoTxt.ext {K : PySem.W.Frag} {H H' : Hp} {v : V} (h : NoTxt K H v) (s : LamX.ExtN H H') : NoTxt K H' v := let ⟨t, a, b⟩ := h; ⟨t, fun H2 s2 => a H2 (s.trans s2), b⟩
theorem NoTxt.same {K : PySem.W.Frag} {H H' : Hp} {v : V} (h : NoTxt K H v) (s : Same H H') : NoTxt K H' v := h.ext (.of s)
/-- an error with this value -/
def Err (Cx : Addr) (H : Hp) (v : V) (E : XK) : Prop := ∀ H' d, Same H H' → H d = none → H' d = some (.xd [("value", v)]) → E (.ref Cx) (some d) H'
theorem Err.now {Cx : Addr} {H : Hp} {v : V} {E : XK} (h : Err Cx H v E) : ∀ d, H d = none → E (.ref Cx) (some d) (upd H d (.xd [("value", v)])) := fun d hd => h _ d (same_upd hd) hd upd_same
theorem Err.same {Cx : Addr} {H H1 : Hp} {v : V} {E : XK} (h : Err Cx H v E) (s : Same H H1) : Err Cx H1 v E := fun H' d s2 hd e => h H' d (s.trans s2) (s.free hd) e
theorem kStr {K : PySem.W.Frag} : PySem.W.kitOne K (.type "str") (.type "str") = some true := kit_ty (by decide +kernel)
/-! ### heaps with tables -/
def ButN (p : Addr) (H H' : Hp) : Prop := ∀ b o, H b = some o → b ≠ p → (∀ ps, o ≠ .tbl ps) → H' b = some o
theorem ButN.trans {p : Addr} {H H1 H2 : Hp} (a : ButN p H H1) (b : ButN p H1 H2) : ButN p H H2 := fun c o e n t => b c o (a c o e n t) n t
theorem ButN.of {p : Addr} {H H' : Hp} (a : But p H H') : ButN p H H' := fun c o e n _ => a c o e n
theorem ButN.ext {p : Addr} {H H' : Hp} (a : LamX.ExtN H H') : ButN p H H' := fun c o e _ t => a c o e t
theorem ButN.same {p : Addr} {H H' : Hp} (a : Same H H') : ButN p H H' := fun c o e _ _ => a c o e
theorem lst_ext {H H' : Hp} {l : Addr} {xs : List V} (h : H l = some (.lst xs)) (b : LamX.ExtN H H') : H' l = some (.lst xs) := b _ _ h (fun _ z => by cases z)
theorem tabs_kp {T : List (Addr × Str)} {H H' : Hp} (t : LamX.Tabs T H) (k : Kp H H') : LamX.Tabs T H' := fun p hp => by
  obtain ⟨ps, h1, h2, h3⟩ := t p hp
  refine ⟨ps, k _ _ h1 (fun _ z => by cases z), h2, fun pos cv hc => ?_⟩
  obtain ⟨c, e1, e2⟩ := h3 pos cv hc
  exact ⟨c, e1, k _ _ e2 (fun _ z => by unfold LamX.CodeO at z; cases z)⟩
theorem tabs_same {T : List (Addr × Str)} {H H' : Hp} (t : LamX.Tabs T H) (k : Same H H') : LamX.Tabs T H' := tabs_kp t (Kp.of k)
theorem asc_okt {z : Str} (h : PyData.strOk z = true) : Asc z := fun c hc => Nat.lt_trans (okt_iff.mp h c hc) (by decide)
theorem log_small {n : Int} (h : n.natAbs < 2 ^ 100) : n.natAbs.log2 < 1920 := Nat.lt_of_lt_of_le (PySem.Flt.log2_lt_of (by decide) h) (by decide)
section
variable {K : PySem.W.Frag}
theorem dq_of {H : Hp} {v : V} {d : PyData} (h : Dp K H v d) (s : Shw d) (p : d.depth ≤ 40) (c : cost d ≤ sizeLine) : Dq K H v d := .dat h s p c
/-- told by repr as d, whatever else is made -/
def Tld (K : PySem.W.Frag) (H : Hp) (v : V) (d : PyData) : Prop := PyData.strOk d.shown = true ∧ ∀ H', LamX.ExtN H H' → Dq K H' v d
theorem Tld.ext {H H' : Hp} {v : V} {d : PyData} (h : Tld K H v d) (s : LamX.ExtN H H') : Tld K H' v d := ⟨h.1, fun H2 s2 => h.2 H2 (s.trans s2)⟩
theorem okt_int (i : Int) : PyData.strOk (PyData.shown (.int i)) = true := by
  simp only [PyData.shown]
  exact okt_of _
theorem tld_non {H : Hp} : Tld K H .non .none := ⟨by decide +kernel, fun _ _ => dq_of .non (by simp only [Shw]) (by decide +kernel) (by decide +kernel)⟩
theorem tld_bl {H : Hp} (b : Bool) : Tld K H (.bl b) (.bool b) := ⟨by cases b <;> decide +kernel, fun _ _ => dq_of (.bl b) (by simp only [Shw]) (by cases b <;> decide +kernel) (by cases b <;> decide +kernel)⟩
theorem tld_int {H : Hp} {i : Int} (h : i.natAbs < 2 ^ 100) : Tld K H (.int i) (.int i) := by
  refine ⟨okt_int i, fun _ _ => dq_of (.int i) (by simp only [Shw]; exact log_small h) ?_ ?_⟩
  · simp only [PyData.depth]
    decide
  · simp only [cost]
    exact small (by decide)
theorem tld_zero {H : Hp} : Tld K H (.str "0") (.str "0") := ⟨by decide +kernel, fun _ _ => dq_of (.str _) (by simp only [Shw]; exact asc_of _) (by decide +kernel) (by decide +kernel)⟩
theorem tld_list1 {H : Hp} {l : Addr} {i : Int} (h : i.natAbs < 2 ^ 100) (hl : H l = some (.lst [.int i])) : Tld K H (.ref l) (.list [.int i]) := by
  refine ⟨?_, fun H' s => dq_of (.lst (SqL.of (lst_ext hl s)) (.cons (.int _) .nil)) (by simp only [Shw, ShwAll]; exact ⟨log_small h, trivial⟩) ?_ ?_⟩
  · simp only [PyData.shown, PyData.shownAll, listText, textFrom]
    exact okt_app (okt_app (okt_app (okt_of _) (okt_of _)) (okt_of _)) (okt_of _)
  · simp only [PyData.depth, PyData.depthAll]
    decide
  · simp only [cost, costAll]
    exact small (by decide)
theorem tld_a {H : Hp} {l : Addr} (hl : H l = some (.lst [.str "a"])) : Tld K H (.ref l) (.list [.str "a"]) :=
  ⟨by decide +kernel, fun H' s => dq_of (.lst (SqL.of (lst_ext hl s)) (.cons (.str _) .nil)) (by simp only [Shw, ShwAll]; exact ⟨asc_of _, trivial⟩) (by decide +kernel) (by decide +kernel)⟩
theorem tld_nil {H : Hp} {l : Addr} (hl : H l = some (.lst [])) : Tld K H (.ref l) (.list []) :=
  ⟨by decide +kernel, fun H' s => dq_of (.lst (SqL.of (lst_ext hl s)) .nil) (by simp only [Shw, ShwAll]) (by decide +kernel) (by decide +kernel)⟩
theorem tld_t0 {H : Hp} {l : Addr} (hl : H l = some (.tup [.int 0])) : Tld K H (.ref l) (.tuple [.int 0]) :=
  ⟨by decide +kernel, fun H' s => dq_of (.tup (SqT.of (s _ _ hl (fun _ z => by cases z))) (.cons (.int _) .nil)) (by simp only [Shw, ShwAll]; decide +kernel) (by decide +kernel) (by decide +kernel)⟩
theorem tld_tnil {H : Hp} {l : Addr} (hl : H l = some (.tup [])) : Tld K H (.ref l) (.tuple []) :=
  ⟨by decide +kernel, fun H' s => dq_of (.tup (SqT.of (s _ _ hl (fun _ z => by cases z))) .nil) (by simp only [Shw, ShwAll]) (by decide +kernel) (by decide +kernel)⟩
theorem tld_d {H : Hp} {l : Addr} (hl : H l = some (.dK [])) : Tld K H (.ref l) (.dict []) := ⟨by decide +kernel, fun H' s => .emp (s _ _ hl (fun _ z => by cases z))⟩
theorem kNoneI : PySem.W.kitOne K (.type "NoneType") (.type "int") = some false := kit_ty (by decide +kernel)
theorem kStrI : PySem.W.kitOne K (.type "str") (.type "int") = some false := kit_ty (by decide +kernel)
theorem kLstI : PySem.W.kitOne K (.type "list") (.type "int") = some false := kit_ty (by decide +kernel)
theorem kTupI : PySem.W.kitOne K (.type "tuple") (.type "int") = some false := kit_ty (by decide +kernel)
theorem kDicI : PySem.W.kitOne K (.type "dict") (.type "int") = some false := kit_ty (by decide +kernel)
theorem kNoneS : PySem.W.kitOne K (.type "NoneType") (.type "str") = some false := kit_ty (by decide +kernel)
theorem kIntS : PySem.W.kitOne K (.type "int") (.type "str") = some false := kit_ty (by decide +kernel)
theorem kBoolS : PySem.W.kitOne K (.type "bool") (.type "str") = some false := kit_ty (by decide +kernel)
theorem kLstS : PySem.W.kitOne K (.type "list") (.type "str") = some false := kit_ty (by decide +kernel)
theorem kTupS : PySem.W.kitOne K (.type "tuple") (.type "str") = some false := kit_ty (by decide +kernel)
theorem kDicS : PySem.W.kitOne K (.type "dict") (.type "str") = some false := kit_ty (by decide +kernel)
theorem ty_lst {H H' : Hp} {l : Addr} {xs : List V} (h : H l = some (.lst xs)) (s : LamX.ExtN H H') : TyX K H' (.ref l) (.type "list") := .base (.lst (lst_ext h s))
theorem ty_tup {H H' : Hp} {l : Addr} {xs : List V} (h : H l = some (.tup xs)) (s : LamX.ExtN H H') : TyX K H' (.ref l) (.type "tuple") := .base (.tup (s _ _ h (fun _ z => by cases z)))
theorem ty_dK {H H' : Hp} {l : Addr} (h : H l = some (.dK [])) (s : LamX.ExtN H H') : TyX K H' (.ref l) (.type "dict") := .base (.dK (s _ _ h (fun _ z => by cases z)))
/-- a refusal as a tuple, and the one that is due -/
def rfs (x s : Str) : PyData := .tuple [.str x, .str s, .bool true]
theorem rfs_lay {x s : Str} (hx : PyData.strOk x = true) (hs : PyData.strOk s = true) : PyData.canLay0 (rfs x s) = true := by
  simp [rfs, PyData.canLay0, PyData.canLayAll0, hx, hs]
theorem rfs_shp {x s : Str} (hx : PyData.strOk x = true) (hs : PyData.strOk s = true) : SeqAt.shaped (rfs x s) = true := by
  unfold SeqAt.shaped
  rw [rfs_lay hx hs]
  simp [rfs, PyData.depth, PyData.depthAll]
theorem rfs_dp {H : Hp} {t : Addr} {x s : Str} (h : H t = some (.tup [.str x, .str s, .bl true])) : Dp K H (.ref t) (rfs x s) := .tup (SqT.of h) (.cons (.str _) (.cons (.str _) (.cons (.bl _) .nil)))
end
def Fre (H : Hp) (a : Addr) : Prop := ∀ o, H a = some o → ∃ ps, o = HO.tbl ps
/-- beside what was there, but p, an own a is changed -/
theorem bn_own {p a : Addr} {H H1 H2 : Hp} (b : ButN p H H1) (f : Fre H a) (c : But a H1 H2) : ButN p H H2 := fun x o e n t => c x o (b x o e n t) fun z => by
  obtain ⟨ps, q⟩ := f o (z ▸ e)
  exact t ps q
theorem code_ref {K : PySem.W.Frag} {f : Addr} {fd : FuncData} {x qual : Str} {params : Arguments} {body : List Stmt} {scope : Scope} {dvs : List V} {kws : List (Str × V)} (F : FunD K x qual params body scope dvs kws f fd) : (fdAt K f).map FuncData.code = some (.ref (cOf K f)) := by
  obtain ⟨oc, od, dV, kV, doc, pm, an, cdv, ct, osl, rfl, lk, hcd, _, _⟩ := F.ex
  obtain ⟨c, rfl⟩ := He.codeIn_ref hcd
  have e : (fdAt K f).map FuncData.code = some (.ref c) := by
    unfold fdAt
    rw [lk]
    rfl
  rw [cOf_of e]
  exact e
theorem look_v (v : V) : ([(("value" : Str), v)] : List (Str × V)).lookup ("value" : Str) = some v := by
  rw [show ([(("value" : Str), v)] : List (Str × V)) = putF "value" v [] from rfl, lookup_putF, if_pos rfl]
theorem sq_ext {K : PySem.W.Frag} {H H' : Hp} {a : Addr} {xs : List V} (h : SqL K H a xs) (e : LamX.ExtN H H') : SqL K H' a xs := by
  rcases h with (h | ⟨o, h⟩) | h
  · exact .inl (.inl (e _ _ h (fun _ z => by cases z)))
  · exact .inl (.inr ⟨o, e _ _ h (fun _ z => by cases z)⟩)
  · exact .inr h
/-! ### slices -/
theorem cutV_to (xs : List V) (n : Nat) : cutV xs none (some (n : Int)) = xs.take n := by
  unfold cutV
  rw [HT.sIx_none, HT.sIx_nat, List.drop_zero, Nat.sub_zero, List.take_eq_take_iff]
  omega
theorem cutV_from (xs : List V) (n : Nat) : cutV xs (some (n : Int)) none = xs.drop n := by
  unfold cutV
  rw [HT.sIx_none, HT.sIx_nat]
  by_cases h : n ≤ xs.length
  · rw [Nat.min_eq_left h, List.take_of_length_le (by rw [List.length_drop]; omega)]
  · rw [Nat.min_eq_right (by omega), List.drop_of_length_le (Nat.le_refl _), List.drop_of_length_le (by omega)]
    simp
theorem cutV_one (xs : List V) (n : Nat) : cutV xs (some (n : Int)) (some ((n : Int) + 1)) = (xs.drop n).take 1 := by
  unfold cutV
  rw [show ((n : Int) + 1) = ((n + 1 : Nat) : Int) by omega, HT.sIx_nat, HT.sIx_nat]
  by_cases h : n < xs.length
  · rw [Nat.min_eq_left (by omega), Nat.min_eq_left (by omega), Nat.add_sub_cancel_left]
  · rw [show min n xs.length = xs.length by omega, List.drop_of_length_le (Nat.le_refl _), List.drop_of_length_le (by omega)]
    simp
theorem cutV_last (xs : List V) : cutV xs none (some (-1)) = xs.dropLast := by
  unfold cutV
  have e : HT.sIx xs.length xs.length (some (-1)) = xs.length - 1 := by
    show (if (-1 : Int) < 0 then ((-1 : Int) + (xs.length : Int)).toNat else min (-1 : Int).toNat xs.length) = _
    rw [if_pos (by decide)]
    omega
  rw [HT.sIx_none, e, List.drop_zero, Nat.sub_zero, List.dropLast_eq_take]
theorem cutS_to (z : Str) (n : Nat) : cutS z none (some (n : Int)) = ⟨(z.cps.toList.take n).toArray⟩ := by
  have h : z.cps.toList.length = z.length := rfl
  unfold cutS
  rw [HT.sIx_none, HT.sIx_nat, List.drop_zero, Nat.sub_zero]
  congr 2
  rw [List.take_eq_take_iff]
  omega
theorem cutS_from (z : Str) (n : Nat) : cutS z (some (n : Int)) none = ⟨(z.cps.toList.drop n).toArray⟩ := by
  have e : z.cps.toList.length = z.length := rfl
  unfold cutS
  rw [HT.sIx_none, HT.sIx_nat]
  by_cases h : n ≤ z.length
  · rw [Nat.min_eq_left h, List.take_of_length_le (by rw [List.length_drop]; omega)]
  · rw [Nat.min_eq_right (by omega), List.drop_of_length_le (by omega), List.drop_of_length_le (by omega)]
    simp
/-! ### a text times a number; texts told by repr -/
def rMulS : R2 := fun x y H Q => ∃ z k, x = .str z ∧ y = .int k ∧ MulOk z k ∧ Q (.str (Txt.mul z k)) H
theorem op_mulS {X : Cx} : OpR X (binaryOp .Mult) rMulS := by
  intro pins s σ H x y v u Q I rx ry h
  obtain ⟨i, j, rfl, rfl, hz, q⟩ := h
  obtain ⟨t, rfl⟩ := rx
  obtain ⟨t', rfl⟩ := ry
  exact PySem.SB.mul hz (fun t' tk => ⟨.str (Txt.mul i j), H, I.tok _, ⟨_, rfl⟩, q⟩)
theorem repr_char (q c : Nat) (hq : q < 1114112) (h : c < 1114112) : ∀ d ∈ Builtin.Str.reprChar q c, d < 1114112 := by
  have hx : ∀ w d, d ∈ List.replicate (w - ((Nat.toDigits 16 c).map Char.toNat).length) 48 ++ (Nat.toDigits 16 c).map Char.toNat → d < 1114112 := fun w d hd => by
    rcases List.mem_append.mp hd with hd | hd
    · rw [List.eq_of_mem_replicate hd]
      decide
    · obtain ⟨k, _, rfl⟩ := List.mem_map.mp hd
      rcases k.valid with h | ⟨_, h⟩
      · exact Nat.lt_trans h (by decide)
      · exact h
  intro d hd
  unfold Builtin.Str.reprChar at hd
  dsimp only at hd
  repeat' split at hd
  all_goals first
    | (rcases List.mem_append.mp hd with z | z
       · rcases List.mem_cons.mp z with rfl | z
         · decide
         · rw [List.mem_singleton.mp z]; decide
       · exact hx _ _ z)
    | (rcases List.mem_cons.mp hd with rfl | z
       · decide
       · rw [List.mem_singleton.mp z]; first | decide | exact h)
    | (rw [List.mem_singleton.mp hd]; exact h)
theorem fold_repr (q : Nat) (hq : q < 1114112) : ∀ (l : List Nat) (acc : Array Nat), (∀ c ∈ l, c < 1114112) → (∀ c ∈ acc.toList, c < 1114112) → ∀ c ∈ (l.foldl (fun out c => out ++ (Builtin.Str.reprChar q c).toArray) acc).toList, c < 1114112
  | [], _, _, h => h
  | d :: r, acc, hl, h => by
    refine fold_repr q hq r _ (fun c hc => hl c (List.mem_cons_of_mem _ hc)) fun c hc => ?_
    rw [Array.toList_append] at hc
    rcases List.mem_append.mp hc with z | z
    · exact h c z
    · exact repr_char q d hq (hl d (List.mem_cons_self ..)) c z
theorem okt_repr {z : Str} (h : PyData.strOk z = true) : PyData.strOk (PyData.shown (.str z)) = true := by
  simp only [PyData.shown]
  rw [okt_iff] at h ⊢
  have hq : reprQuote z < 1114112 := by
    unfold reprQuote
    split <;> decide
  intro c hc
  unfold reprText at hc
  rw [Array.toList_push, ← Array.foldl_toList] at hc
  rcases List.mem_append.mp hc with w | w
  · refine fold_repr _ hq _ _ h (fun c hc => ?_) c w
    rw [List.mem_singleton.mp hc]
    exact hq
  · rw [List.mem_singleton.mp w]
    exact hq
theorem tld_str {K : PySem.W.Frag} {H : Hp} {z : Str} (h : PyData.strOk z = true) (l : z.length ≤ 9000) : Tld K H (.str z) (.str z) := by
  refine ⟨okt_repr h, fun _ _ => dq_of (.str _) (by simp only [Shw]; exact asc_okt h) ?_ ?_⟩
  · simp only [PyData.depth]
    decide
  · simp only [cost]
    exact small (by omega)
theorem kDicS' {K : PySem.W.Frag} : PySem.W.kitOne K (.type "dict") (.type "str") = some false := kit_ty (by decide +kernel)
end LL

set_option Elab.async false
set_option linter.all false
set_option maxRecDepth 100000
set_option maxHeartbeats 2000000
/-! LLZip: enumerate of a list or a tuple; zip of three lists or tuples. -/
namespace LL
open PySem PySem.Spec PyProof.Rows L2
/-! ### a list or a tuple -/
/-- a list (k) or a tuple -/
def sqK (k : Bool) (K : PySem.W.Frag) (H : Hp) (a : Addr) (xs : List V) : Prop := match k with | true => SqL K H a xs | false => SqT K H a xs
def itK (k : Bool) (h : Heap) (it a : Addr) (i : Nat) : Prop := match k with | true => h.IsListIter it a i | false => h.IsTupleIter it a i
def hpK (k : Bool) (h : Heap) (a : Addr) (items : Array Value) : Prop := match k with | true => h.IsList a items | false => h.IsTuple a items
def obK (k : Bool) (a : Addr) : Obj := match k with | true => { cls := .type "list_iterator", data := .fields #[.ref a, .int 0 0] } | false => { cls := .type "tuple_iterator", data := .fields #[.ref a, .int 0 0] }
theorem itK.at {k : Bool} {h h' : Heap} {it a : Addr} {i : Nat} (x : itK k h it a i) (e : ∀ o, h.get? it = some o → h'.get? it = some o) : itK k h' it a i := by
  cases k with
  | true => exact Heap.IsListIter.at x e
  | false => exact Heap.IsTupleIter.at x e
theorem itK.ob {k : Bool} {h : Heap} {it a : Addr} {i : Nat} (x : itK k h it a i) : ∃ o, h.get? it = some o ∧ ∀ v, o.data ≠ .cell v := by
  cases k with
  | true => obtain ⟨o, e, _, d⟩ := x; exact ⟨o, e, fun v q => by rw [d] at q; cases q⟩
  | false => obtain ⟨o, e, _, d⟩ := x; exact ⟨o, e, fun v q => by rw [d] at q; cases q⟩
theorem itK.new {k : Bool} {h : Heap} {it a : Addr} (e : h.get? it = some (obK k a)) : itK k h it a 0 := by
  cases k with
  | true => exact ⟨_, e, rfl, rfl⟩
  | false => exact ⟨_, e, rfl, rfl⟩
theorem begK (k : Bool) (a : Addr) (items : Array Value) : Begins (.ref a) (obK k a) fun h => hpK k h a items := by
  cases k with
  | true => exact begins_list a items
  | false => exact begins_tuple a items
theorem drwK {prog : Program} {w : World} {A : Around} (hh : A.handled = none) (k : Bool) (it a : Addr) (hne : a ≠ it) (items : Array Value) :
    Draws prog w A it [it, a] items.size (fun i v => items[i]? = some v) (fun i h => itK k h it a i ∧ hpK k h a items) := by
  cases k with
  | true => exact Draws.list hh it a hne items
  | false => exact Draws.tuple hh it a hne items
section
variable {X : Cx} {pins : List (Addr × Obj)} {σ : L2.St} {H : Hp} {s : Shared}
theorem inv_K {k : Bool} {a : Addr} {xs : List V} (I : Inv X pins σ H s) (h : sqK k X.K H a xs) : ∃ its : List Value, Vals xs its ∧ hpK k s.heap a its.toArray ∧ ∃ o, s.heap.get? a = some o := by
  cases k with
  | true =>
    obtain ⟨its, r, p, _⟩ := I.list h
    obtain ⟨o, e, _⟩ := id p.isList
    exact ⟨its, r, p.isList, o, e⟩
  | false =>
    obtain ⟨its, r, p, _⟩ := I.tuple h
    obtain ⟨o, e, _⟩ := id p
    exact ⟨its, r, p, o, e⟩
theorem inj_K {k : Bool} {a : Addr} {xs ys : List V} (I : Inv X pins σ H s) (h : sqK k X.K H a xs) (h' : sqK k X.K H a ys) : xs = ys := by
  cases k with
  | true => exact I.list_inj h h'
  | false => exact I.tuple_inj h h'
end
/-! ### enumerate -/
/-- enumerate(v) makes two new objects -/
theorem enum_new {v : Value} {o : Obj} {G : Heap → Prop} (B : Begins v o G) :
    Meets (Builtin.«enumerate.__new__» ⟨[.type "enumerate", v], []⟩) (fun _ R s => G s.heap ∧ R (.ok (.ret (.ref (s.heap.push o).objs.size)))
      { s with heap := (s.heap.push o).push { cls := .type "enumerate", data := .fields #[.none, .bool false, .ref s.heap.objs.size, rawInt 0, .none, .none] } }) :=
  .of_wp fun prog w A R s h => by
    obtain ⟨hp, g, d, tk, os⟩ := s
    have sub := sub_enumerate
    have it : ∀ {A' : Around} {E : Value → Shared → Prop} {Q : Value → Shared → Prop}, Q (.ref hp.objs.size) ⟨hp.push o, g, d, tk, os⟩ → wpAny (model prog w) A' (pyIter v) Q E ⟨hp, g, d, tk, os⟩ := fun q => B.iter _ _ _ _ _ _ h.1 q
    wp_walk using it
    refine wpAny_stack_any fun st => wpAny_pure ?_
    split <;> try (rename_i c _ _ _ _ _; cases (c == Value.type "enumerate"))
    all_goals
      wp_walk using it
      exact ⟨_, rfl, h.2⟩
/-- the things at a as they stand at each turn, each in a new pair behind its number -/
def IteK (K : PySem.W.Frag) (k : Bool) (a : Addr) : It where
  go := fun i H => ∃ (xs : List V) (x : V), sqK k K H a xs ∧ xs[i]? = some x
  yld := fun i H v H' => ∃ T x, v = .ref T ∧ H T = none ∧ H' = upd H T (.tup [.int (i : Nat), x]) ∧ ∀ xs, sqK k K H a xs → xs[i]? = some x
  stop := fun i H => ∃ xs : List V, sqK k K H a xs ∧ xs.length = i
theorem two_mem {x a b : Addr} (h : x ∈ [a, b]) : x = a ∨ x = b := (List.mem_cons.mp h).imp id List.mem_singleton.mp
theorem turn_enumK {P : Program} {w : World} {K : PySem.W.Frag} {elts : List Expr} {kk : Nat} {tpos : Pos} {k : Bool} (a e it : Addr) (n1 : a ≠ it) (n2 : e ≠ a) (n3 : e ≠ it) :
    Turn P w K (.Tuple elts kk tpos) (IteK K k a) [e, it] e (fun i h => (∃ v, IsEnum h e it (i : Nat) v) ∧ itK k h it a i) where
  mem := List.mem_cons_self ..
  obj := fun i h st b hb => (two_mem hb).elim (fun z => z ▸ let ⟨_, he⟩ := st.1; ⟨_, he, fun _ q => nomatch q⟩) fun z => z ▸ st.2.ob
  keep := fun i h h' st hk => ⟨st.1.imp fun v he => hk e (List.mem_cons_self ..) _ he, st.2.at fun o q => hk it (List.mem_cons_of_mem _ (List.mem_cons_self ..)) o q⟩
  item := by
    rintro X rfl rfl rfl calm i pins s σ H E I own ⟨⟨v0, he⟩, hit⟩ ⟨xs, x, hq, hx⟩
    obtain ⟨its, rv, p, _⟩ := inv_K I hq
    obtain ⟨u, hu, ru⟩ := rv.get hx
    have bound : ∀ b ∈ [e, it], b < s.heap.objs.size := fun b hb => (two_mem hb).elim (fun z => z ▸ Heap.lt_size he) fun z => z ▸ let ⟨_, q, _⟩ := hit.ob; Heap.lt_size q
    have eu : its.toArray[i]? = some u := by simpa using hu
    refine wpAny_pyNext_enum_itemD (drwK (A := X.A.in1) (show X.A.in1.handled = none from I.ok.hd calm) k it a n1 its.toArray) he ⟨hit, p⟩ (Array.getElem?_eq_some_iff.mp eu).1 n3 (fun q => (two_mem q).elim n3 n2) fun y h1 tk py ho st' hT _ far => ?_
    cases Option.some.inj ((show its.toArray[i]? = some y from py).symm.trans eu)
    refine ⟨_, rfl, wpAny_letOwnedTupleGo_enum (s := { s with heap := h1, toks := tk + 1 }) ho fun h2 he2 sb => ?_⟩
    have off {b : Addr} (hb : b ∉ [e, it]) : b ≠ e ∧ b ≠ it := ⟨fun z => hb (z ▸ List.mem_cons_self ..), fun z => hb (z ▸ List.mem_cons_of_mem _ (List.mem_cons_self ..))⟩
    have pair : h2.get? s.heap.objs.size = some { cls := .type "tuple", data := .seq #[.int i tk, u] } := (sb.2 _ (Nat.ne_of_gt (Heap.lt_size he))).trans hT
    have I1 : Inv X pins σ (upd H s.heap.objs.size (.tup [.int (i : Nat), x])) { s with heap := h2, toks := tk + 1 } :=
      I.turnedNew (ch := [e, it]) (fun b o hb q => (sb.2 b (off hb).1).trans (far b o (off hb).1 (off hb).2 q)) own (Nat.le_refl _) ⟨by show 2 ≤ sizeLine; decide, [.int i tk, u], .cons ⟨_, rfl⟩ (.cons ru .nil), ⟨_, pair, rfl, _, rfl⟩⟩
    refine ⟨.ref s.heap.objs.size, _, I1, rfl, ⟨_, x, rfl, I.hok.fresh (Nat.le_refl _), rfl, fun ys hy => inj_K I hy hq ▸ hx⟩, ⟨⟨u, ?_⟩, st'.1.at fun o q => (sb.2 it n3.symm).trans q⟩, fun b hb => ?_⟩
    · rw [show ((i + 1 : Nat) : Int) = (i : Int) + 1 by omega]
      exact he2
    · rw [upd_ne (Nat.ne_of_lt (bound b hb))]
      exact (own b hb).1
  done := by
    rintro X rfl rfl rfl calm i pins s σ H E I own ⟨⟨v0, he⟩, hit⟩ ⟨xs, hq, rfl⟩
    obtain ⟨its, rv, p, _⟩ := inv_K I hq
    have len : xs.length = its.toArray.size := by rw [List.size_toArray]; exact rv.length
    rw [len] at hit
    obtain ⟨f0, f1, _, f3, f4, f5⟩ := own it (List.mem_cons_of_mem _ (List.mem_cons_self ..))
    exact wpAny_pyNext_enum_endD (drwK (A := X.A.in1) (show X.A.in1.handled = none from I.ok.hd calm) k it a n1 its.toArray) he ⟨hit, p⟩ fun h1 far => ⟨rfl, I.turned (t' := s.toks) (fun b o hb q => far b o hb q) f0 f1 f3 f4 f5⟩
  self := fun A i s Q E st h => let ⟨_, he⟩ := st.1; wpAny_pyIter_enum he h
def iEnumA (K : PySem.W.Frag) (ta : TA) : TI := fun σ H R => ta σ H fun vs H1 => ∃ k a xs, vs = [.ref a] ∧ sqK k K H1 a xs ∧ R (IteK K k a) H1
theorem pi_enumA {X : Cx} {e : Expr} {ta : TA} {p pos tpos : Pos} {elts : List Expr} {kk : Nat} (hg : Gl X "enumerate") (hm : X.mg "enumerate" = none) (ha : PA X [e] ta) (hs : starEach [e] X.env = [(false, eval e X.env)] := by rfl) :
    PI X (.Tuple elts kk tpos) (.Call (.Name "enumerate" p) [e] [] pos) (iEnumA X.K ta) := by
  refine ⟨fun pins s σ H R I h => Call_ (ld_blt I hg hm boot_enumerate (PyProof.Rows.callWith_type1 (thn (ha.run pos pins s σ H _ I h) fun us s1 ⟨vs, H1, I1, r1, k, a, xs, ex, hq, q⟩ => ?_) hs rfl))⟩
  subst ex
  obtain ⟨u, rfl, ru⟩ := vals1 r1
  cases ru
  obtain ⟨its, rv, p1, o1, ho1⟩ := inv_K I1 hq
  have la := Heap.lt_size ho1
  refine callType_new F.called_enumerate (by decide) (F.typeCall_enumerate_1 _) (F.newCall_enumerate_1 _) (fun obj => F.args_object_init_2 obj _) F.entry_enumerate_new (enum_new (begK k a its.toArray)) ⟨p1, ?_⟩
  have sz : (s1.heap.push (obK k a)).objs.size = s1.heap.objs.size + 1 := Heap.size_push ..
  have he := Heap.get?_push_size (s1.heap.push (obK k a)) (o := { cls := .type "enumerate", data := .fields #[.none, .bool false, .ref s1.heap.objs.size, rawInt 0, .none, .none] }) rfl
  rw [sz] at he
  have hi : ((s1.heap.push (obK k a)).push { cls := .type "enumerate", data := .fields #[.none, .bool false, .ref s1.heap.objs.size, rawInt 0, .none, .none] }).get? s1.heap.objs.size = some (obK k a) := Heap.get?_push_of_some _ (Heap.get?_push_size _ (begK k a its.toArray).free)
  show _ ∧ _
  rw [sz]
  refine ⟨⟨_, he, rfl⟩, wpAny_pyIter_enum he ?_⟩
  refine ⟨s1.heap.objs.size + 1, [s1.heap.objs.size + 1, s1.heap.objs.size], _, _, H1, rfl, I1.kept (t' := s1.toks) (fun b o x => Heap.get?_push_of_some _ (Heap.get?_push_of_some _ x)), turn_enumK a _ _ (Nat.ne_of_lt la) (Nat.ne_of_gt (Nat.lt_succ_of_lt la)) (Nat.succ_ne_self _), ⟨⟨.none, he⟩, .new hi⟩, fun b hb => ?_, q⟩
  have hle : s1.heap.objs.size ≤ b := (two_mem hb).elim (fun z => z ▸ Nat.le_succ _) fun z => z ▸ Nat.le_refl _
  exact I1.fpOk hle (I1.hok.fresh hle)
theorem walk_enumK {K : PySem.W.Frag} {k : Bool} {a : Addr} {xs : List V} : Walk (IteK K k a) xs.length (fun H => sqK k K H a xs) (YPair (fun i => some (.int (i : Nat))) (fun i => xs[i]?)) where
  goes := fun i H hi h => ⟨xs, xs[i], h, List.getElem?_eq_getElem hi⟩
  stops := fun H h => ⟨xs, h, rfl⟩
  yields := fun i H x H' hi h y => let ⟨T, v, e1, e2, e3, e4⟩ := y; ⟨T, _, v, e1, e2, e3, rfl, e4 xs h⟩
/-! ### zip of three -/
/-- the three as they stand at each turn, the items in new triples -/
def Itz3 (K : PySem.W.Frag) (k1 k2 k3 : Bool) (a b c : Addr) : It :=
  ⟨fun i H => ∃ (xs ys zs : List V) (x y z : V), sqK k1 K H a xs ∧ sqK k2 K H b ys ∧ sqK k3 K H c zs ∧ xs[i]? = some x ∧ ys[i]? = some y ∧ zs[i]? = some z,
    fun i H v H' => ∃ T x y z, v = .ref T ∧ H T = none ∧ H' = upd H T (.tup [x, y, z]) ∧ (∀ xs, sqK k1 K H a xs → xs[i]? = some x) ∧ (∀ ys, sqK k2 K H b ys → ys[i]? = some y) ∧ ∀ zs, sqK k3 K H c zs → zs[i]? = some z,
    fun i H => ∃ xs ys zs : List V, sqK k1 K H a xs ∧ sqK k2 K H b ys ∧ sqK k3 K H c zs ∧ i ≤ xs.length ∧ i ≤ ys.length ∧ i ≤ zs.length ∧ (i = xs.length ∨ i = ys.length ∨ i = zs.length)⟩
theorem turn_zip3 {P : Program} {w : World} {K : PySem.W.Frag} {elts : List Expr} {kk : Nat} {tpos : Pos} {k1 k2 k3 : Bool} {a b c z TI TO i1 i2 i3 : Addr} (S : ZipSep3 z TI TO i1 i2 i3 [i1, a] [i2, b] [i3, c]) (n1 : a ≠ i1) (n2 : b ≠ i2) (n3 : c ≠ i3) :
    Turn P w K (.Tuple elts kk tpos) (Itz3 K k1 k2 k3 a b c) [z, TI, TO, i1, i2, i3] z (fun i h => IsZip h z TI TO .none ∧ IsTupOf3 h TI (.ref i1) (.ref i2) (.ref i3) ∧ (∃ x y u, IsTupOf3 h TO x y u) ∧ itK k1 h i1 a i ∧ itK k2 h i2 b i ∧ itK k3 h i3 c i) where
  mem := by simp
  obj := fun i h st d hd => by
    obtain ⟨hz, hTI, ⟨x, y, u, hTO⟩, h1, h2, h3⟩ := st
    have e' : d = z ∨ d = TI ∨ d = TO ∨ d = i1 ∨ d = i2 ∨ d = i3 := by simpa using hd
    rcases e' with q | q | q | q | q | q
    · rw [q]; exact ⟨_, hz, fun v q => nomatch q⟩
    · rw [q]; exact ⟨_, hTI, fun v q => nomatch q⟩
    · rw [q]; exact ⟨_, hTO, fun v q => nomatch q⟩
    · rw [q]; exact h1.ob
    · rw [q]; exact h2.ob
    · rw [q]; exact h3.ob
  keep := fun i h h' st k => by
    obtain ⟨hz, hTI, ⟨x, y, u, hTO⟩, h1, h2, h3⟩ := st
    exact ⟨k z (by simp) _ hz, k TI (by simp) _ hTI, ⟨x, y, u, k TO (by simp) _ hTO⟩, h1.at fun o q => k i1 (by simp) o q, h2.at fun o q => k i2 (by simp) o q, h3.at fun o q => k i3 (by simp) o q⟩
  item := by
    intro X hP hw hK hc i pins s σ H E I hf st hg
    subst hP hw hK
    obtain ⟨hz, hTI, ⟨x0, y0, u0, hTO⟩, h1, h2, h3⟩ := st
    obtain ⟨xs, ys, zs, x, y, u, hqx, hqy, hqz, hx, hy, hu⟩ := hg
    obtain ⟨its, rv, p, _⟩ := inv_K I hqx
    obtain ⟨its2, rv2, p2, _⟩ := inv_K I hqy
    obtain ⟨its3, rv3, p3, _⟩ := inv_K I hqz
    obtain ⟨w1, hw1, rw1⟩ := rv.get hx
    obtain ⟨w2, hw2, rw2⟩ := rv2.get hy
    obtain ⟨w3, hw3, rw3⟩ := rv3.get hu
    have hzl : z < s.heap.objs.size := Heap.lt_size hz
    have hA : X.A.in1.handled = none := I.ok.hd hc
    have lt {l : List Value} {v : Value} (q : l[i]? = some v) : i < l.toArray.size := by
      have := (List.getElem?_eq_some_iff.mp q).1
      simpa using this
    have same {l : List Value} {v v' : Value} (q : l[i]? = some v) (q' : l.toArray[i]? = some v') : v' = v := by
      have : l[i]? = some v' := by simpa using q'
      rw [q] at this
      exact (Option.some.inj this).symm
    refine wpAny_pyNext_zipD3_item S (drwK hA k1 i1 a n1 its.toArray) (drwK hA k2 i2 b n2 its2.toArray) (drwK hA k3 i3 c n3 its3.toArray) hz hTI hTO ⟨h1, p⟩ ⟨h2, p2⟩ ⟨h3, p3⟩ (lt hw1) (lt hw2) (lt hw3) fun v1 v2 v3 h' tk y1 y2 y3 z' TO' d1 d2 d3 hT hsz hk => ?_
    have e1 := same hw1 y1
    have e2 := same hw2 y2
    have e3 := same hw3 y3
    subst e1 e2 e3
    refine ⟨_, rfl, wpAny_letOwnedTupleGo_zip (s := { s with heap := h', toks := tk }) z' fun h'' z'' sb => ?_⟩
    have hT2 : h''.get? s.heap.objs.size = some { cls := .type "tuple", data := .seq #[v1, v2, v3] } := (sb.2 _ (Nat.ne_of_gt hzl)).trans hT
    have new : ObjOk X.prog X.w (upd H s.heap.objs.size (.tup [x, y, u])) h'' s.heap.objs.size (.tup [x, y, u]) :=
      ⟨by show 3 ≤ sizeLine; decide, [v1, v2, v3], .cons rw1 (.cons rw2 (.cons rw3 .nil)), ⟨_, hT2, rfl, _, rfl⟩⟩
    have I1 : Inv X pins σ (upd H s.heap.objs.size (.tup [x, y, u])) { s with heap := h'', toks := tk } :=
      I.turnedNew (ch := [z, TI, TO, i1, i2, i3]) (fun d o hb q => (sb.2 d (fun q' => hb (by simp [q']))).trans (hk d o (fun q' => hb (by simp [q'])) (fun q' => hb (by simp [q'])) (fun q' => hb (by simp [q'])) (fun q' => hb (by simp [q'])) (fun q' => hb (by simp [q'])) q)) hf (Nat.le_refl _) new
    refine ⟨.ref s.heap.objs.size, _, I1, rfl, ⟨_, x, y, u, rfl, I.hok.fresh (Nat.le_refl _), rfl, fun l hl => by rw [inj_K I hl hqx]; exact hx, fun l hl => by rw [inj_K I hl hqy]; exact hy, fun l hl => by rw [inj_K I hl hqz]; exact hu⟩, ⟨z'', ?_, ⟨v1, v2, v3, ?_⟩, ?_, ?_, ?_⟩, fun d hdm => ?_⟩
    · exact (sb.2 _ S.TIz).trans (hk _ _ S.TIz S.TITO S.TIi1 S.TIi2 S.TIi3 hTI)
    · exact (sb.2 _ S.TOz).trans TO'
    · exact d1.1.at fun o q => (sb.2 _ S.zi1.symm).trans q
    · exact d2.1.at fun o q => (sb.2 _ S.zi2.symm).trans q
    · exact d3.1.at fun o q => (sb.2 _ S.zi3.symm).trans q
    · have hlt : d < s.heap.objs.size := by
        have e' : d = z ∨ d = TI ∨ d = TO ∨ d = i1 ∨ d = i2 ∨ d = i3 := by simpa using hdm
        rcases e' with q | q | q | q | q | q
        · rw [q]; exact hzl
        · rw [q]; exact Heap.lt_size hTI
        · rw [q]; exact Heap.lt_size hTO
        · rw [q]; obtain ⟨_, e1, _⟩ := h1.ob; exact Heap.lt_size e1
        · rw [q]; obtain ⟨_, e2, _⟩ := h2.ob; exact Heap.lt_size e2
        · rw [q]; obtain ⟨_, e2, _⟩ := h3.ob; exact Heap.lt_size e2
      rw [upd_ne (Nat.ne_of_lt hlt)]
      exact (hf d hdm).1
  done := by
    intro X hP hw hK hc i pins s σ H E I hf st hg
    subst hP hw hK
    obtain ⟨hz, hTI, ⟨x0, y0, u0, hTO⟩, h1, h2, h3⟩ := st
    obtain ⟨xs, ys, zs, hqx, hqy, hqz, g1, g2, g3, g4⟩ := hg
    obtain ⟨its, rv, p, _⟩ := inv_K I hqx
    obtain ⟨its2, rv2, p2, _⟩ := inv_K I hqy
    obtain ⟨its3, rv3, p3, _⟩ := inv_K I hqz
    have l1 := rv.length
    have l2 := rv2.length
    have l3 := rv3.length
    have hA : X.A.in1.handled = none := I.ok.hd hc
    have z1 : its.toArray.size = its.length := List.size_toArray
    have z2 : its2.toArray.size = its2.length := List.size_toArray
    have z3 : its3.toArray.size = its3.length := List.size_toArray
    exact wpAny_pyNext_zipD3_end S (drwK hA k1 i1 a n1 its.toArray) (drwK hA k2 i2 b n2 its2.toArray) (drwK hA k3 i3 c n3 its3.toArray) hz hTI hTO ⟨h1, p⟩ ⟨h2, p2⟩ ⟨h3, p3⟩ (by omega) (by omega) (by omega) (by omega) fun h' tk hk => ⟨rfl, I.turnedL (ch := [z, TI, TO, i1, i2, i3]) (fun d o hb q =>
      hk d o (fun q' => hb (by simp [q'])) (fun q' => hb (by simp [q'])) (fun q' => hb (by simp [q'])) (fun q' => hb (by simp [q'])) (fun q' => hb (by simp [q'])) q) hf⟩
  self := fun A i s Q E st h => wpAny_pyIter_zip st.1 h
theorem no2 {x y z : Nat} (h1 : x ≠ y) (h2 : x ≠ z) : x ∉ [y, z] := fun q => (List.mem_cons.mp q).elim h1 fun q => h2 (List.mem_singleton.mp q)
theorem sep3 (N a b c : Nat) (la : a < N) (lb : b < N) (lc : c < N) : ZipSep3 (N + 5) (N + 3) (N + 4) N (N + 1) (N + 2) [N, a] [N + 1, b] [N + 2, c] where
  TIz := fun (q : N + 3 = N + 5) => by omega
  TOz := fun (q : N + 4 = N + 5) => by omega
  TITO := fun (q : N + 3 = N + 4) => by omega
  TIi1 := fun (q : N + 3 = N) => by omega
  mem1 := List.mem_cons_self ..
  zf1 := no2 (by omega) (by omega)
  Tf1 := no2 (by omega) (by omega)
  TIi2 := fun (q : N + 3 = N + 1) => by omega
  mem2 := List.mem_cons_self ..
  zf2 := no2 (by omega) (by omega)
  Tf2 := no2 (by omega) (by omega)
  TIi3 := fun (q : N + 3 = N + 2) => by omega
  mem3 := List.mem_cons_self ..
  zf3 := no2 (by omega) (by omega)
  Tf3 := no2 (by omega) (by omega)
  sep1_2 := no2 (by omega) (by omega)
  sep1_3 := no2 (by omega) (by omega)
  sep2_1 := no2 (by omega) (by omega)
  sep2_3 := no2 (by omega) (by omega)
  sep3_1 := no2 (by omega) (by omega)
  sep3_2 := no2 (by omega) (by omega)
def iZip3 (K : PySem.W.Frag) (ta : TA) : TI := fun σ H R => ta σ H fun vs H1 => ∃ k1 k2 k3 a b c xs ys zs, vs = [.ref a, .ref b, .ref c] ∧ sqK k1 K H1 a xs ∧ sqK k2 K H1 b ys ∧ sqK k3 K H1 c zs ∧ R (Itz3 K k1 k2 k3 a b c) H1
theorem pi_zip3 {X : Cx} {e e2 e3 : Expr} {ta : TA} {p pos tpos : Pos} {elts : List Expr} {kk : Nat} (hg : Gl X "zip") (hm : X.mg "zip" = none) (ha : PA X [e, e2, e3] ta)
    (hs : starEach [e, e2, e3] X.env = (false, eval e X.env) :: starEach [e2, e3] X.env := by rfl) (hpl : (backTo pos (starEach [e2, e3] X.env)).any (·.1) = false := by rfl) :
    PI X (.Tuple elts kk tpos) (.Call (.Name "zip" p) [e, e2, e3] [] pos) (iZip3 X.K ta) := by
  refine ⟨fun pins s σ H R I h => ?_⟩
  refine Call_ (ld_blt I hg hm PyProof.Rows.boot_zip (PyProof.Rows.callWith_type1 (thn (ha.run pos pins s σ H _ I h) fun us s1 ⟨vs, H1, I1, r1, q1⟩ => ?_) hs hpl))
  obtain ⟨k1, k2, k3, a, b, c, xs, ys, zs, ex, hqx, hqy, hqz, q⟩ := q1
  subst ex
  cases r1 with
  | cons r rr =>
    cases rr with
    | cons r' rr =>
      cases rr with
      | cons r'' rr =>
        cases rr
        cases r
        cases r'
        cases r''
        obtain ⟨its, rv, p1, o1, ho1⟩ := inv_K I1 hqx
        obtain ⟨its2, rv2, p2, o2, ho2⟩ := inv_K I1 hqy
        obtain ⟨its3, rv3, p3, o3, ho3⟩ := inv_K I1 hqz
        have la : a < s1.heap.objs.size := Heap.lt_size ho1
        have lb : b < s1.heap.objs.size := Heap.lt_size ho2
        have lc : c < s1.heap.objs.size := Heap.lt_size ho3
        refine zip_begins3 (begK k1 a its.toArray) (begK k2 b its2.toArray) (begK k3 c its3.toArray) p1 p2 p3 fun h' hz hTI hTO h1 h2 h3 hsz hk => wpAny_pyIter_zip hz ?_
        have I2 : Inv X pins σ H1 { s1 with heap := h' } := I1.kept (t' := s1.toks) hk
        have sep : ZipSep3 (s1.heap.objs.size + 5) (s1.heap.objs.size + 3) (s1.heap.objs.size + 4) s1.heap.objs.size (s1.heap.objs.size + 1) (s1.heap.objs.size + 2) [s1.heap.objs.size, a] [s1.heap.objs.size + 1, b] [s1.heap.objs.size + 2, c] := sep3 _ a b c la lb lc
        refine ⟨s1.heap.objs.size + 5, [s1.heap.objs.size + 5, s1.heap.objs.size + 3, s1.heap.objs.size + 4, s1.heap.objs.size, s1.heap.objs.size + 1, s1.heap.objs.size + 2], _, _, H1, rfl, I2, turn_zip3 sep (Nat.ne_of_lt la) (Nat.ne_of_lt (Nat.lt_succ_of_lt lb)) (Nat.ne_of_lt (Nat.lt_succ_of_lt (Nat.lt_succ_of_lt lc))), ⟨hz, hTI, ⟨_, _, _, hTO⟩, .new h1, .new h2, .new h3⟩, fun d hd => ?_, q⟩
        have hle : s1.heap.objs.size ≤ d := by
          simp only [List.mem_cons, List.not_mem_nil, or_false] at hd
          rcases hd with z | z | z | z | z | z
          · rw [z]; exact Nat.le_add_right _ _
          · rw [z]; exact Nat.le_add_right _ _
          · rw [z]; exact Nat.le_add_right _ _
          · rw [z]; exact Nat.le_refl _
          · rw [z]; exact Nat.le_add_right _ _
          · rw [z]; exact Nat.le_add_right _ _
        exact I1.fpOk hle (I1.hok.fresh hle)
theorem walk_zip3 {K : PySem.W.Frag} {k1 k2 k3 : Bool} {a b c : Addr} {xs ys zs : List V} (h1 : xs.length = ys.length) (h2 : xs.length = zs.length) : Walk (Itz3 K k1 k2 k3 a b c) xs.length (fun H => sqK k1 K H a xs ∧ sqK k2 K H b ys ∧ sqK k3 K H c zs)
    (fun i H v H' => ∃ T x y z, v = .ref T ∧ H T = none ∧ H' = upd H T (.tup [x, y, z]) ∧ xs[i]? = some x ∧ ys[i]? = some y ∧ zs[i]? = some z) where
  goes := fun i H hi h => ⟨xs, ys, zs, xs[i], ys[i], zs[i], h.1, h.2.1, h.2.2, List.getElem?_eq_getElem hi, List.getElem?_eq_getElem (by omega), List.getElem?_eq_getElem (by omega)⟩
  stops := fun H h => ⟨xs, ys, zs, h.1, h.2.1, h.2.2, Nat.le_refl _, by omega, by omega, .inl rfl⟩
  yields := fun i H x H' hi h y => by
    obtain ⟨T, x, y, z, e1, e2, e3, e4, e5, e6⟩ := y
    exact ⟨T, x, y, z, e1, e2, e3, e4 xs h.1, e5 ys h.2.1, e6 zs h.2.2⟩
end LL

set_option Elab.async false
set_option linter.all false
set_option maxRecDepth 100000
set_option maxHeartbeats 3200000
/-! LLSet: set(a list of ints). -/
namespace LL
open PySem PySem.Spec PyProof.Rows L2
/-- a set as it is born -/
abbrev born (w : World) : Obj := { cls := .type "set", dict := none, data := .set #[] 0 (.fresh 0 0 (!w.params.followText "set-order")) }
abbrev walker (l : Addr) : Obj := { cls := .type "list_iterator", data := .fields #[.ref l, .int 0 0] }
section
variable {P : Program} {w : World} {A : Around} {E : Value → Shared → Prop} {s : Shared}
/-- what is left when the set is filled -/
def Filled (w : World) (s : Shared) (ns : List Int) (s2 : Shared) : Prop := ∃ (h' : Heap) (tk c : Nat), s2 = { s with heap := h', toks := tk } ∧ SetR w h' s.heap.objs.size (fun j => decide (j ∈ ns)) c ∧ c ≤ ns.length ∧ ∀ b o, s.heap.get? b = some o → h'.get? b = some o
theorem set_of_ints {l : Addr} {items : Array Value} (ns : List Int) {Q : Value → Shared → Prop} (hh : A.handled = none) (hl : s.heap.IsList l items) (hit : IntsAre items.toList ns) (hb : ns.length + 1 < scanBound)
    (h : ∀ s2, Filled w s ns s2 → Q (.ref s.heap.objs.size) s2) : wpAny (model P w) A (call (.type "set") [.ref l]) Q E s := by
  have many : items.size = ns.length := by have q := IntsAre.length hit; rwa [Array.length_toList] at q
  obtain ⟨⟨_, dc, _, sl⟩, at0, cl, nn, dt⟩ := hl
  cases cl
  cases dt
  have below : l < s.heap.objs.size := Heap.lt_size at0
  have me : (s.heap.push (born w)).get? s.heap.objs.size = some (born w) := Heap.get?_push_size _ rfl
  have at1 : (s.heap.push (born w)).get? l = some { cls := .type "list", dict := dc, data := .seq items nn, slots := sl } := Heap.get?_push_of_some _ at0
  have lst : (s.heap.push (born w)).IsList l items := ⟨_, at1, rfl, nn, rfl⟩
  -- the class is called
  obtain ⟨_, _, g1⟩ := F.called_set.mro
  have g2 := F.called_set.made
  have g3 := F.called_set.sub
  have g4 := F.called_set.notType
  have g5 := F.called_set.canCreate
  have g6 := F.typeCall_set_1 (.ref l)
  refine wpAny_call (codeAny_of_tree (show wpAny _ _ (callAny (.type "set") _) _ _ _ from wpAny_pure ⟨Code.quiet_builtin _ (by decide +kernel), codeAny_builtin F.entry_type_call ?_⟩))
  rw [Around.under_plain (weight_type_call_type "set" [.ref l] []) rfl]
  repeat (any_goals (first | assumption | wp_step))
  -- it is born
  refine codeAny_mono (code_set_led1 (.ref l) (E := E) (Q₁ := fun v s1 => v = .ref s.heap.objs.size ∧ s1 = { s with heap := s.heap.push (born w) }) ⟨rfl, rfl⟩) fun r s1 e1 => ?_
  rcases r with _ | fl
  · exact e1
  rcases fl with _ | _ | _ | v
  any_goals exact e1.elim
  all_goals
    obtain ⟨rfl, rfl⟩ := e1
    have ty : Shared.TypeIs { s with heap := s.heap.push (born w) } (.ref s.heap.objs.size) "set" := ⟨_, me, rfl⟩
    have k1 := F.called_set.init.lookup
    have k2 := F.called_set.init.bind (.ref s.heap.objs.size)
    repeat (any_goals (first | assumption | wp_step))
    -- it is filled
    refine codeAny_mono (codeAny_call_builtin (R := wants (fun v s2 => v = .none ∧ Filled w s ns s2) E) F.called_set.init.plain F.entry_set_init (check_set_init_1 ty ?_)) fun r s2 e2 => ?_
    · have u1 := F.sub_list_set
      have u2 := F.sub_list_frozenset
      have u3 : (Value.type "list" == Value.type "dict") = false := by decide
      unfold Builtin.«set.__init__» noKeywords Builtin.Frozenset.updateFrom
      generalize keep : pyIter = pi
      wp_walk
      subst keep
      refine wpAny_pyIter_list lst (wpAny_bind (wpAny_runValue ?_))
      have size1 : (s.heap.push (born w)).objs.size = s.heap.objs.size + 1 := Heap.size_push ..
      have out : s.heap.objs.size ∉ [(s.heap.push (born w)).objs.size, l] := fun q => by
        rw [size1] at q
        rcases List.mem_cons.mp q with q | q
        · exact absurd q (Nat.ne_of_lt (Nat.lt_succ_self _))
        · exact absurd (List.mem_singleton.mp q) (Nat.ne_of_gt below)
      have val : ∀ (i : Nat) (v : Value), items[i]? = some v → ∃ k t, ns[i]? = some k ∧ v = .int k t := fun i v hv => by
        have hi : i < ns.length := many ▸ (Array.getElem?_eq_some_iff.mp hv).1
        obtain ⟨t, e⟩ := IntsAre.int_at hit i v (by rw [Array.getElem?_toList]; exact hv)
        exact ⟨ns[i], t, List.getElem?_eq_getElem hi, by rw [e, List.getD_eq_getElem?_getD, List.getElem?_eq_getElem hi]; rfl⟩
      refine set_update_ints ((Walks.list (by simp [hh]) _ l (by rw [size1]; exact Nat.ne_of_lt (Nat.lt_succ_of_lt below)) items).toS) s.heap.objs.size out ns many hb val items.size 0 _ rfl (Nat.zero_le _)
        ⟨⟨_, Heap.get?_push_size _ rfl, rfl, rfl⟩, lst.push _⟩ ⟨0, Nat.le_refl 0, setR_new_at (Heap.get?_push_of_some (walker l) me)⟩ ?_
      rintro ⟨h2, g', d', tk, os'⟩ c mv hc R
      cases (show g' = s.gens from mv.gens)
      cases (show d' = s.drawn from mv.drawn)
      cases (show os' = s.os from mv.os)
      refine wpAny_pure (wpAny_pure ⟨rfl, h2, tk, c, rfl, R, many ▸ hc, fun b o e => ?_⟩)
      have lt := Heap.lt_size e
      refine mv.heap b o (fun q => ?_) (Heap.get?_push_of_some _ (Heap.get?_push_of_some _ e))
      rcases List.mem_cons.mp q with q | q
      · exact Nat.ne_of_lt lt q
      · have q := List.mem_singleton.mp q
        rw [size1] at q
        exact Nat.ne_of_lt (Nat.lt_succ_of_lt lt) q
    · rcases r with _ | fl
      · exact e2
      rcases fl with _ | _ | _ | v
      any_goals exact e2.elim
      all_goals
        obtain ⟨rfl, e2⟩ := e2
        have done := h _ e2
        obtain ⟨h2, tk, c, rfl, _⟩ := e2
        repeat (any_goals (first | assumption | wp_step))
end
section
variable {X : Cx}
/-- set(a list of ints) -/
def rSetL (K : PySem.W.Frag) (w : World) : List V → Hp → VK → Prop := fun vs H Q => ∃ (p : Addr) (ns : List Int), vs = [.ref p] ∧ SqL K H p (ns.map V.int) ∧ ns.length ≤ 1000 ∧ ∀ a c, (∀ D : List Int, (∀ x ∈ ns, x ∈ D) → c ≤ D.length) → H a = none → Q (.ref a) (upd H a (SetO w a (fun j => decide (j ∈ ns)) c))
theorem cr_setL (hc : X.calm = true) : CallR X (.type "set") (rSetL X.K X.w) := by
  intro pins s σ H xs us Q I r h
  obtain ⟨p, ns, rfl, hq, hl, q⟩ := h
  obtain ⟨u, rfl, rx⟩ := vals1 r
  cases rx
  obtain ⟨its, rv, pt, hz⟩ := I.list hq
  refine set_of_ints ns (I.ok.hd hc) pt.isList (by simpa using ints_of_vals rv) (by unfold scanBound; omega) fun s2 z => ?_
  obtain ⟨h2, tk, c, rfl, R, hc2, hk⟩ := z
  refine ⟨.ref _, _, I.laid (t' := tk) hk (Nat.le_refl _) (setO_new R), rfl, q _ c (fun D hD => ?_) (I.hok.fresh (Nat.le_refl _))⟩
  obtain ⟨o, es, ep, t, _, _, _, _, nd, mem, _, _, sz, _⟩ := R
  rw [← sz, ← Array.length_toList, ← List.length_map (f := keyOf)]
  exact nd.length_le_of_subset fun x hx => hD x (of_decide_eq_true ((mem x).mpr hx))
end
end LL

set_option Elab.async false
set_option linter.all false
set_option maxRecDepth 100000
set_option maxHeartbeats 2000000
/-! LLSeq: lists or tuples; small rules. -/
namespace LL
open PySem PySem.Spec PyProof.Rows L2
theorem un1 {n : Nat} (h : n + 64 < cLine) : n + 1 < cLine := by omega
section
variable {X : Cx} {tg l : Expr} {tl : TE}
/-- for x in s, s a list or a tuple -/
def iSeqA (K : PySem.W.Frag) (tl : TE) : TI := fun σ H R => iList K tl σ H R ∨ iTup K tl σ H R
theorem pi_seqA (hl : PE X l tl) : PI X tg l (iSeqA X.K tl) := ⟨fun pins s σ H R I h => h.elim ((pi_list hl).run pins s σ H R I) ((pi_tup hl).run pins s σ H R I)⟩
theorem ix_seqK {K : PySem.W.Frag} (h : X.K = K) : IxR X (rIx K) := h ▸ ix_seq
end
/-- s stands at a -/
def Sq (K : PySem.W.Frag) (H : Hp) (a : Addr) (xs : List V) : Prop := SqL K H a xs ∨ SqT K H a xs
theorem Sq.k {K : PySem.W.Frag} {H : Hp} {a : Addr} {xs : List V} (h : Sq K H a xs) : ∃ k, sqK k K H a xs := h.elim (fun h => ⟨true, h⟩) fun h => ⟨false, h⟩
theorem sqL_same {K : PySem.W.Frag} {H H' : Hp} {a : Addr} {xs : List V} (h : SqL K H a xs) (s : Same H H') : SqL K H' a xs := sq_ext h (.of s)
theorem sqT_same {K : PySem.W.Frag} {H H' : Hp} {a : Addr} {xs : List V} (h : SqT K H a xs) (s : Same H H') : SqT K H' a xs := by
  rcases h with (h | ⟨o, h⟩) | h
  · exact .inl (.inl (s _ _ h))
  · exact .inl (.inr ⟨o, s _ _ h⟩)
  · exact .inr h
theorem Sq.same {K : PySem.W.Frag} {H H' : Hp} {a : Addr} {xs : List V} (h : Sq K H a xs) (s : Same H H') : Sq K H' a xs := h.imp (sqL_same · s) (sqT_same · s)
end LL

set_option Elab.async false
set_option linter.all false
set_option maxRecDepth 100000
set_option maxHeartbeats 2000000
/-! LLMix: sorted of a tuple, rules by the name of the written part, errors by their field, lists or tuples that are tracked. -/
namespace LL
open PySem PySem.Spec PyProof.Rows L2
section
variable {prog : Program} {w : World} {A : Around} {E : Value → Shared → Prop} {s : Shared}
/-- what is drawn of a list or a tuple -/
theorem collect_q {l : Addr} {vs : List Value} {T : String} {o : Obj} {n : Nat} {Q : List Value → Shared → Prop} (hT : T = "list" ∨ T = "tuple") (ho : s.heap.get? l = some o) (hc : o.cls = .type T) (hd : o.data = .seq vs.toArray n) (hsz : vs.length ≤ sizeLine)
    (h : Q vs { s with heap := (s.heap.push (seqObj "list" #[] 0)).update s.heap.objs.size (Obj.mapSeq (· ++ vs.toArray)) }) : wpAny (model prog w) A (collect (.ref l)) Q E s := by
  have ho' : (s.heap.push (seqObj "list" #[] 0)).get? l = some o := Heap.get?_push_of_some _ ho
  have ht : (Builtin.List.listSameRef (.ref s.heap.objs.size) (.ref l) || Value.type T == Value.type "list" || Value.type T == Value.type "tuple") = true := by
    rcases hT with rfl | rfl <;> simp
  unfold collect; refine wpAny_bind (wpAny_runValue (codeAny_builtin entry_proto_collect' ?_))
  show wpAny _ _ (do again (.builtin "list.__iadd__" ⟨[← newList [], .ref l], []⟩)) _ _ s; refine wpAny_bind (wpAny_newList (wpAny_pure ⟨Code.quiet_builtin _ (by decide +kernel), codeAny_builtin entry_list_iadd' ?_⟩))
  show wpAny _ _ (Builtin.List.listExtendWith (.ref s.heap.objs.size) (.ref l) (.ref s.heap.objs.size)) _ _ { s with heap := s.heap.push (seqObj "list" #[] 0) }; unfold Builtin.List.listExtendWith
  refine wpAny_bind (wpAny_typeOf (T := T) ⟨o, ho', hc⟩ ?_); rw [if_pos ht]
  refine wpAny_bind (listItems_at ho' hd (wpAny_bind (listItems_at (xs := #[]) (n := 0) (Heap.get?_push_size _ rfl) rfl ?_))); rw [if_neg (by simp)]
  refine wpAny_bind (listUpdate_at (xs := #[]) (n := 0) (Heap.get?_push_size _ rfl) rfl (wpAny_pure ?_) (Nat.zero_le _) (by show (#[] ++ vs.toArray).size ≤ sizeLine + 1; simp only [Array.size_append, List.size_toArray, List.length_nil]; omega))
  refine wpAny_bind (m := load s.heap.objs.size) (wpAny_load (get?_update_seq (Heap.get?_push_size _ rfl) _) ?_)
  show wpAny _ _ (pure ((#[] : Array Value) ++ vs.toArray).toList) Q E _; rw [show ((#[] : Array Value) ++ vs.toArray).toList = vs by simp]; exact wpAny_pure h
theorem sorted_q {l : Addr} {vs : List Value} {ns : List Int} {T : String} {o : Obj} {n : Nat} {Q : Value → Shared → Prop} (hT : T = "list" ∨ T = "tuple") (ho : s.heap.get? l = some o) (hc : o.cls = .type T) (hd : o.data = .seq vs.toArray n) (hI : IntsAre vs ns) (h64 : vs.length < 64)
    (h : ∀ (out : Array Value) (ns' : List Int), IntsAre out.toList ns' → ns'.Perm ns → ns'.Pairwise (· ≤ ·) → Q (.ref (s.heap.objs.size + 1)) { s with heap := sortedAll s.heap vs out }) : wpAny (model prog w) A (call (.builtin "sorted") [.ref l]) Q E s := by
  have hsz : ((s.heap.push (seqObj "list" #[] 0)).update s.heap.objs.size (Obj.mapSeq (· ++ vs.toArray))).objs.size = s.heap.objs.size + 1 := (by rw [Heap.size_update, size_push'])
  have hoL : (((s.heap.push (seqObj "list" #[] 0)).update s.heap.objs.size (Obj.mapSeq (· ++ vs.toArray))).push (seqObj "list" vs.toArray 0)).get? (s.heap.objs.size + 1) = some (seqObj "list" vs.toArray 0) := (by rw [← hsz]; exact Heap.get?_push_size _ rfl)
  refine Calls.call_function_entry kind_sorted plain_sorted entry_sorted (args_sorted1 _) ?_; unfold Builtin.«sorted»
  refine wpAny_bind (m := checkCount "sorted" 1 1 _) (wpAny_pure (wpAny_bind (collect_q hT ho hc hd (by rw [sizeLine_eq]; omega) (wpAny_bind (wpAny_newList ?_)))))
  show wpAny _ _ _ _ _ { s with heap := ((s.heap.push (seqObj "list" #[] 0)).update s.heap.objs.size (Obj.mapSeq (· ++ vs.toArray))).push (seqObj "list" vs.toArray 0) }; rw [hsz]
  exact wpAny_bind (wpAny_holding (wpAny_call_entry slot_list_sort ⟨_, hoL, rfl⟩ entry_list_sort (list_sort_tree hoL hI h64 fun out ns' a1 a2 a3 => ⟨_, rfl, wpAny_pure ⟨_, rfl, h out ns' a1 a2 a3⟩⟩) (args_list_sort _)))
end
/-- a list or a tuple that is tracked -/
def Lt (H : Hp) (a : Addr) (vs : List V) : Prop := H a = some (.lst vs) ∨ H a = some (.tup vs)
theorem Lt.sq {K : PySem.W.Frag} {H : Hp} {a : Addr} {vs : List V} (h : Lt H a vs) : SqL K H a vs ∨ SqT K H a vs := h.imp SqL.of SqT.of
theorem Lt.same {H H' : Hp} {a : Addr} {vs : List V} (h : Lt H a vs) (s : Same H H') : Lt H' a vs := h.imp (s _ _) (s _ _)
theorem Lt.uniq {H : Hp} {a : Addr} {vs us : List V} (h : Lt H a vs) (g : Lt H a us) : vs = us := by
  rcases h with h | h <;> rcases g with g | g <;> rw [h] at g <;> cases g <;> rfl
theorem Lt.k {K : PySem.W.Frag} {H : Hp} {a : Addr} {vs : List V} (h : Lt H a vs) : ∃ k, sqK k K H a vs := h.elim (fun h => ⟨true, SqL.of h⟩) fun h => ⟨false, SqT.of h⟩
theorem sqK_same {k : Bool} {K : PySem.W.Frag} {H H' : Hp} {a : Addr} {xs : List V} (h : sqK k K H a xs) (s : Same H H') : sqK k K H' a xs := by
  cases k with
  | true => exact sqL_same h s
  | false => exact sqT_same h s
section
variable {X : Cx}
def rSortQ : List V → Hp → VK → Prop := fun vs H Q => ∃ (a : Addr) (ns : List Int), vs = [V.ref a] ∧ Lt H a (ns.map V.int) ∧ ns.length < 64 ∧ ∀ (ns' : List Int) (p : Addr), ns'.Perm ns → ns'.Pairwise (· ≤ ·) → H p = none → Q (.ref p) (upd H p (.lst (ns'.map V.int)))
theorem cr_sortedQ : CallR X (.builtin "sorted") rSortQ := by
  intro pins s σ H vs us Q I r h
  obtain ⟨a, ns, rfl, hs, h64, q⟩ := h
  rcases hs with hs | hs
  · exact cr_sorted pins s σ H _ us Q I r ⟨a, ns, rfl, SqL.of hs, h64, q⟩
  · obtain ⟨its, rv, hl, _⟩ := I.tuple (SqT.of (K := X.K) hs)
    obtain ⟨o, h1, h2, n, h3⟩ := hl
    rw [Vals.ref1 r]
    have hi := rv.ints
    refine sorted_q (.inr rfl) h1 h2 h3 hi (by rw [hi.length]; exact h64) fun out ns' a1 a2 a3 => ?_
    obtain ⟨ep, he'⟩ := PyProof.Rows.sortedAll_at s.heap its out
    exact ⟨.ref _, upd H (s.heap.objs.size + 1) (.lst (ns'.map V.int)), I.laid (t' := s.toks) (fun _ _ => PyProof.Rows.sortedAll_old) (Nat.le_succ _) ⟨by rw [List.length_map, a2.length_eq]; exact small64 h64, out.toList, ep, vals_of_ints a1, he'⟩, rfl, q ns' _ a2 a3 (I.hok.fresh (Nat.le_succ _))⟩
theorem op_in_seqK {K : PySem.W.Frag} (h : X.K = K) : OpR X (compareOp .In) (rIn K false) := h ▸ op_in_seq
theorem op_notIn_seqK {K : PySem.W.Frag} (h : X.K = K) : OpR X (compareOp .NotIn) (rIn K true) := h ▸ op_notIn_seq
end
/-- an error with the field f -/
def ErF (C : Addr) (f : Str) (H : Hp) (v : V) (E : XK) : Prop := ∀ H' d, Same H H' → H d = none → H' d = some (.xd [(f, v)]) → E (.ref C) (some d) H'
theorem ErF.now {C : Addr} {f : Str} {H : Hp} {v : V} {E : XK} (h : ErF C f H v E) : ∀ d, H d = none → E (.ref C) (some d) (upd H d (.xd [(f, v)])) := fun d hd => h _ d (same_upd hd) hd upd_same
theorem ErF.same {C : Addr} {f : Str} {H H1 : Hp} {v : V} {E : XK} (h : ErF C f H v E) (s : Same H H1) : ErF C f H1 v E := fun H' d s2 hd e => h H' d (s.trans s2) (s.free hd) e
/-- texts in a list of texts -/
theorem inV_str (c : Str) (l : List Str) : inV (.str c) (l.map V.str) = decide (c ∈ l) := by
  induction l with
  | nil => rfl
  | cons d l ih =>
    unfold inV at ih ⊢
    rw [List.map_cons, List.any_cons, ih]
    have e : eqV (.str d) (.str c) = decide (d = c) := by
      show (d == c) = _
      rw [Bool.eq_iff_iff, beq_iff_eq, decide_eq_true_iff]
    rw [e]
    by_cases h : d = c
    · simp [h]
    · have h' : c ≠ d := fun z => h z.symm
      simp [h, h']
theorem inV_int (c : Int) (l : List Int) : inV (.int c) (l.map V.int) = decide (c ∈ l) := by
  induction l with
  | nil => rfl
  | cons d l ih =>
    unfold inV at ih ⊢
    rw [List.map_cons, List.any_cons, ih]
    have e : eqV (.int d) (.int c) = decide (d = c) := by
      show (d == c) = _
      rw [Bool.eq_iff_iff, beq_iff_eq, decide_eq_true_iff]
    rw [e]
    by_cases h : d = c
    · simp [h]
    · have h' : c ≠ d := fun z => h z.symm
      simp [h, h']
theorem flatS (l : List Str) : (l.map V.str).all flatV = true := by
  rw [List.all_map]
  exact List.all_eq_true.mpr fun _ _ => rfl
theorem flatI (l : List Int) : (l.map V.int).all flatV = true := by
  rw [List.all_map]
  exact List.all_eq_true.mpr fun _ _ => rfl
/-- a list or a tuple at an index -/
theorem ix_lt {K : PySem.W.Frag} {H : Hp} {a : Addr} {vs : List V} {i : Int} {v : V} {Q : VK} (h : Lt H a vs) (e : atI vs i = some v) (q : Q v H) : rIx K (.ref a) (.int i) H Q :=
  h.elim (fun h => .inl ⟨a, vs, i, v, rfl, rfl, SqL.of h, e, q⟩) fun h => .inr (.inl ⟨a, vs, i, v, rfl, rfl, SqT.of h, e, q⟩)
/-! ### comprehensions by what they have made so far -/
section
variable {J : It} {n : Nat} {G : Hp → Prop} {Y : Nat → Hp → V → Hp → Prop} {g : TG} {tt : TT} {te : TE} {vs : List Nat} {σ : L2.St} {H1 : Hp} {D : Addr} {Qd : Hp → Prop}
theorem lc_inv (w : Walk J n G Y) (I : Nat → List V → Hp → Prop) (bl : ∀ i acc H xs, I i acc H → I i acc (upd H D (.lst xs))) (h0 : I 0 [] H1) (hl : ∀ i acc H, i < n → I i acc H → acc.length < sizeLine) (hG : ∀ i acc H, i ≤ n → I i acc H → G H)
    (hs : ∀ i x acc H H', i < n → I i acc H → H D = some (.lst acc) → Y i H x H' → ∀ (N : V → Hp → Prop) (S : Hp → Prop), (∀ v H4, H4 D = some (.lst acc) → I (i + 1) (acc ++ [v]) H4 → N v H4) → (∀ H4, H4 D = some (.lst acc) → I (i + 1) acc H4 → S H4) →
      g x (wipe σ vs) H' fun σ2 H2 => wipe σ2 vs = wipe σ vs ∧ tt σ2 H2 fun b H3 => if b = true then te σ2 H3 N else S H3) (hd : ∀ acc H, H D = some (.lst acc) → I n acc H → Qd H) :
    ∃ W : Nat → Nat → Hp → Prop, (∃ m, W 0 m (upd H1 D (.lst []))) ∧ ∀ i m H, W i m H →
      (J.stop i H ∧ Qd H) ∨ (J.go i H ∧ ∃ Nx : Hp → Prop, (∀ H', Nx H' → ∃ m', m' < m ∧ W (i + 1) m' H') ∧ ∀ x H', J.yld i H x H' → g x (wipe σ vs) H' fun σ2 H2 => wipe σ2 vs = wipe σ vs ∧ tt σ2 H2 fun b H3 =>
        if b = true then te σ2 H3 fun y H4 => ∃ acc, H4 D = some (.lst acc) ∧ acc.length < sizeLine ∧ Nx (upd H4 D (.lst (acc ++ [y]))) else Nx H3) := by
  refine lc_it w (fun i H => ∃ acc, H D = some (.lst acc) ∧ I i acc H) ⟨[], upd_same, bl _ _ _ _ h0⟩ (fun i H hi ⟨acc, _, h⟩ => hG i acc H hi h) ?_ (fun H ⟨acc, e, h⟩ => hd acc H e h)
  rintro i x H H' hi ⟨acc, e, h⟩ y
  exact hs i x acc H H' hi h e y _ _ (fun v H4 e4 h4 => ⟨acc, e4, hl i acc H hi h, _, upd_same, bl _ _ _ _ h4⟩) fun H4 e4 h4 => ⟨acc, e4, h4⟩
/-- all stays beside the new list -/
theorem lc_acc (w : Walk J n G Y) (nD : H1 D = none) (out : Nat → List V) (o0 : out 0 = []) (ol : ∀ i, i < n → (out i).length ≤ 99999) (hG : ∀ H, Same H1 H → G H)
    (hs : ∀ i x H H', i < n → Same H1 H → Y i H x H' → ∀ (N : V → Hp → Prop) (S : Hp → Prop), (∀ v H4, Same H H4 → out (i + 1) = out i ++ [v] → N v H4) → (∀ H4, Same H H4 → out (i + 1) = out i → S H4) →
      g x (wipe σ vs) H' fun σ2 H2 => wipe σ2 vs = wipe σ vs ∧ tt σ2 H2 fun b H3 => if b = true then te σ2 H3 N else S H3) (hd : ∀ H, Same H1 H → H D = some (.lst (out n)) → Qd H) :
    ∃ W : Nat → Nat → Hp → Prop, (∃ m, W 0 m (upd H1 D (.lst []))) ∧ ∀ i m H, W i m H →
      (J.stop i H ∧ Qd H) ∨ (J.go i H ∧ ∃ Nx : Hp → Prop, (∀ H', Nx H' → ∃ m', m' < m ∧ W (i + 1) m' H') ∧ ∀ x H', J.yld i H x H' → g x (wipe σ vs) H' fun σ2 H2 => wipe σ2 vs = wipe σ vs ∧ tt σ2 H2 fun b H3 =>
        if b = true then te σ2 H3 fun y H4 => ∃ acc, H4 D = some (.lst acc) ∧ acc.length < sizeLine ∧ Nx (upd H4 D (.lst (acc ++ [y]))) else Nx H3) := by
  refine lc_inv w (fun i acc H => Same H1 H ∧ acc = out i) (fun i acc H xs h => ⟨fun b o e => ?_, h.2⟩) ⟨fun _ _ e => e, o0.symm⟩ (fun i acc H hi h => ?_) (fun i acc H _ h => hG H h.1) ?_ (fun acc H e h => hd H h.1 (h.2 ▸ e))
  · rw [upd_ne (ne_of_none e nD)]
    exact h.1 b o e
  · rw [h.2]
    exact Nat.lt_of_lt_of_le (Nat.lt_succ_of_le (ol i hi)) (small (by decide))
  · rintro i x acc H H' hi ⟨s, rfl⟩ e y N S hN hS
    exact hs i x H H' hi s y N S (fun v H4 s4 eo => hN v H4 (s4 _ _ e) ⟨s.trans s4, eo.symm⟩) fun H4 s4 eo => hS H4 (s4 _ _ e) ⟨s.trans s4, eo.symm⟩
end
theorem take_map {α : Type} {β : Type} {xs : List α} {i : Nat} {x : α} (f : α → β) (h : xs[i]? = some x) : (xs.take (i + 1)).map f = (xs.take i).map f ++ [f x] := by
  rw [List.take_add_one, h, Option.toList_some, List.map_append]
  rfl
theorem take_fil {α : Type} {xs : List α} {i : Nat} {x : α} (p : α → Bool) (h : xs[i]? = some x) : (xs.take (i + 1)).filter p = (xs.take i).filter p ++ (if p x then [x] else []) := by
  rw [List.take_add_one, h, Option.toList_some, List.filter_append]
  cases e : p x <;> simp [e]
theorem rep_succ (n : Nat) : (List.replicate (n + 1) true).map V.bl = (List.replicate n true).map V.bl ++ [V.bl true] := by
  rw [List.replicate_succ', List.map_append]
  rfl
theorem rep_all (n : Nat) : (List.replicate n true).all id = true := by simp
theorem Same.rfl' {H : Hp} : Same H H := fun _ _ e => e
/-- a new object beside what was there -/
theorem mkO {H : Hp} {a : Addr} (n : H a = none) (o : HO) : ∃ G : Hp, upd H a o = G ∧ Same H G ∧ G a = some o := ⟨_, rfl, same_upd n, upd_same⟩
/-- an own object is changed beside what was there -/
theorem own_same {H0 H : Hp} {D : Addr} {o : HO} (s : Same H0 H) (n : H0 D = none) : Same H0 (upd H D o) := fun b x e => by
  rw [upd_ne (ne_of_none e n)]
  exact s b x e
/-- t + u, in whatever way -/
theorem cat_of {K : PySem.W.Frag} {H : Hp} {a b : Addr} {xs ys : List V} {Q : VK} (ha : H a = some (.tup xs)) (hb : H b = some (.tup ys)) (hz : xs.length + ys.length ≤ 100000) (q : ∀ p H', Same H H' → H' p = some (.tup (xs ++ ys)) → Q (.ref p) H') : rCatA K (.ref a) (.ref b) H Q := by
  refine ⟨a, b, xs, ys, rfl, rfl, SqT.of ha, SqT.of hb, small hz, fun e => ?_, fun _ e => ?_, fun _ _ p hp => q p _ (same_upd hp) upd_same⟩
  · subst e
    exact q b H Same.rfl' hb
  · subst e
    exact q a H Same.rfl' (by rw [List.append_nil]; exact ha)
theorem fil_pos {α : Type} {l : List α} {x : α} {p : α → Bool} (h : p x = true) : (l ++ [x]).filter p = l.filter p ++ [x] := by rw [List.filter_append, List.filter_cons_of_pos h, List.filter_nil]
theorem fil_neg {α : Type} {l : List α} {x : α} {p : α → Bool} (h : p x = false) : (l ++ [x]).filter p = l.filter p := by rw [List.filter_append, List.filter_cons_of_neg (by rw [h]; exact Bool.false_ne_true), List.filter_nil, List.append_nil]
theorem own_but {H0 H : Hp} {p D : Addr} {o : HO} (b : But p H0 H) (n : H0 D = none) : But p H0 (upd H D o) := fun c x e ne => by
  rw [upd_ne (ne_of_none e n)]
  exact b c x e ne
theorem but_same {p : Addr} {H H1 H2 : Hp} (b : But p H H1) (s : Same H1 H2) : But p H H2 := fun c x e ne => s _ _ (b c x e ne)
/-! ### texts of one sign, joined -/
abbrev tls (x : Str) : List Nat := TL.tl x
def mkS (l : List Nat) : Str := ⟨l.toArray⟩
theorem tls_mk (l : List Nat) : tls (mkS l) = l := rfl
theorem len_mk (l : List Nat) : (mkS l).length = l.length := TL.len_tl (mkS l)
theorem mk_app (a b : List Nat) : mkS a ++ mkS b = mkS (a ++ b) := TL.ext_tl (by show tls _ = tls _; rw [show tls (mkS a ++ mkS b) = tls (mkS a) ++ tls (mkS b) from TL.tl_append _ _, tls_mk, tls_mk, tls_mk])
abbrev sgV (r : List Nat) : List V := r.map fun c => V.str ⟨#[c]⟩
theorem join_sg (r : List Nat) : Txt.join "" (r.map fun c => (⟨#[c]⟩ : Str)) = mkS r := by
  rw [TL.join_eq]
  induction r with
  | nil => rfl
  | cons x r ih =>
    cases r with
    | nil => rfl
    | cons y r =>
      show mkS [x] ++ mkS [] ++ Str.join "" ((y :: r).map fun c => (⟨#[c]⟩ : Str)) = _
      rw [ih, mk_app, mk_app]
      rfl
abbrev sgs (r : List Nat) : List Str := r.map fun c => (⟨#[c]⟩ : Str)
theorem sq_sg {K : PySem.W.Frag} {H : Hp} {D : Addr} {r : List Nat} (h : H D = some (.lst (sgV r))) : SqL K H D ((sgs r).map V.str) := SqL.of (by rw [h, List.map_map]; rfl)
theorem sz_sg {r : List Nat} (l : r.length ≤ 100000) : ((sgs r).map (·.length)).sum + (sgs r).length * (("" : Str)).length ≤ 16777216 := by
  have e : ∀ r : List Nat, ((sgs r).map (·.length)).sum = r.length := fun r => by
    induction r with
    | nil => rfl
    | cons c r ih =>
      show 1 + ((sgs r).map (·.length)).sum = _
      rw [ih, List.length_cons]
      omega
  rw [e, show (("" : Str)).length = 0 from rfl]
  omega
end LL

set_option Elab.async false
set_option linter.all false
set_option maxRecDepth 100000
set_option maxHeartbeats 2000000
/-! LLEq: data of None, ints, texts, lists and tuples: == is equality. -/
namespace LL
open PySem PySem.Spec PyProof.Rows L2
/-- such data, at most n deep -/
def Pn : Nat → PyData → Prop
  | _, .none => True
  | _, .int _ => True
  | _, .str x => PyData.strOk x = true
  | n + 1, .list xs => ∀ d ∈ xs, Pn n d
  | n + 1, .tuple xs => ∀ d ∈ xs, Pn n d
  | _, _ => False
theorem lay_all : ∀ {xs : List PyData}, (∀ d ∈ xs, d.canLay0 = true) → PyData.canLayAll0 xs = true
  | [], _ => by simp only [PyData.canLayAll0]
  | x :: xs, h => by
    simp only [PyData.canLayAll0]
    rw [h x (List.mem_cons_self ..), lay_all fun d hd => h d (List.mem_cons_of_mem _ hd)]
    rfl
theorem depth_all {n : Nat} : ∀ {xs : List PyData}, (∀ d ∈ xs, d.depth ≤ n) → PyData.depthAll xs ≤ n
  | [], _ => by simp only [PyData.depthAll]; exact Nat.zero_le _
  | x :: xs, h => by
    simp only [PyData.depthAll]
    exact Nat.max_le.mpr ⟨h x (List.mem_cons_self ..), depth_all fun d hd => h d (List.mem_cons_of_mem _ hd)⟩
theorem Pn.lay : ∀ {n : Nat} {d : PyData}, Pn n d → d.canLay0 = true ∧ d.depth ≤ n
  | n, .none, _ => ⟨by simp only [PyData.canLay0], by simp only [PyData.depth]; exact Nat.zero_le _⟩
  | n, .int _, _ => ⟨by simp only [PyData.canLay0], by simp only [PyData.depth]; exact Nat.zero_le _⟩
  | n, .str x, h => ⟨by simp only [PyData.canLay0]; cases n <;> exact h, by simp only [PyData.depth]; exact Nat.zero_le _⟩
  | n + 1, .list xs, h => ⟨by simp only [PyData.canLay0]; exact lay_all fun d hd => (Pn.lay (h d hd)).1, by simp only [PyData.depth]; exact Nat.succ_le_succ (depth_all fun d hd => (Pn.lay (h d hd)).2)⟩
  | n + 1, .tuple xs, h => ⟨by simp only [PyData.canLay0]; exact lay_all fun d hd => (Pn.lay (h d hd)).1, by simp only [PyData.depth]; exact Nat.succ_le_succ (depth_all fun d hd => (Pn.lay (h d hd)).2)⟩
  | 0, .list _, h => h.elim
  | 0, .tuple _, h => h.elim
  | 0, .bool _, h => h.elim
  | n + 1, .bool _, h => h.elim
  | 0, .dict _, h => h.elim
  | n + 1, .dict _, h => h.elim
theorem Pn.shp {n : Nat} {d : PyData} (h : Pn n d) (hn : n ≤ 60) : SeqAt.shaped d = true := by
  obtain ⟨a, b⟩ := h.lay
  unfold SeqAt.shaped
  rw [a, Bool.true_and]
  exact decide_eq_true (by omega)
theorem eqv_all : ∀ {xs ys : List PyData}, (∀ d ∈ xs, ∀ e ∈ ys, (PyData.eqv d e = true ↔ d = e)) → (PyData.eqvAll xs ys = true ↔ xs = ys)
  | [], [], _ => by simp [PyData.eqvAll]
  | [], _ :: _, _ => by simp [PyData.eqvAll]
  | _ :: _, [], _ => by simp [PyData.eqvAll]
  | x :: xs, y :: ys, h => by
    simp only [PyData.eqvAll, Bool.and_eq_true, List.cons.injEq]
    exact and_congr (h x (List.mem_cons_self ..) y (List.mem_cons_self ..)) (eqv_all fun d hd e he => h d (List.mem_cons_of_mem _ hd) e (List.mem_cons_of_mem _ he))
theorem Pn.no_bool {n : Nat} {b : Bool} : ¬ Pn n (.bool b) := by cases n <;> exact fun h => h
theorem Pn.no_dict {n : Nat} {b : List (PyData × PyData)} : ¬ Pn n (.dict b) := by cases n <;> exact fun h => h
theorem Pn.eqv : ∀ {n m : Nat} {d e : PyData}, Pn n d → Pn m e → (PyData.eqv d e = true ↔ d = e) := by
  intro n
  induction n with
  | zero =>
    intro m d e hd he
    cases d <;> cases e <;> first | exact hd.elim | exact absurd he Pn.no_bool | exact absurd he Pn.no_dict | simp [PyData.eqv]
  | succ n ih =>
    intro m d e hd he
    cases d with
    | list xs =>
      cases e with
      | list ys =>
        cases m with
        | zero => exact he.elim
        | succ m =>
          simp only [PyData.eqv, PyData.list.injEq]
          exact eqv_all fun d hd' e he' => ih (hd d hd') (he e he')
      | bool b => exact absurd he Pn.no_bool
      | dict b => exact absurd he Pn.no_dict
      | _ => simp [PyData.eqv]
    | tuple xs =>
      cases e with
      | tuple ys =>
        cases m with
        | zero => exact he.elim
        | succ m =>
          simp only [PyData.eqv, PyData.tuple.injEq]
          exact eqv_all fun d hd' e he' => ih (hd d hd') (he e he')
      | bool b => exact absurd he Pn.no_bool
      | dict b => exact absurd he Pn.no_dict
      | _ => simp [PyData.eqv]
    | bool b => exact hd.elim
    | dict b => exact hd.elim
    | _ => cases e <;> first | exact absurd he Pn.no_bool | exact absurd he Pn.no_dict | simp [PyData.eqv]
theorem dec_b {b : Bool} {p : Prop} (h : b = true ↔ p) : (p → b = true) ∧ (¬ p → b = false) := ⟨h.mpr, fun n => Bool.eq_false_iff.mpr fun z => n (h.mp z)⟩
section
variable {K : PySem.W.Frag} {H : Hp} {x y : V} {d e : PyData} {n m : Nat} {Q : VK}
theorem eq_pd (hx : Dp K H x d) (hy : Dp K H y e) (pd : Pn n d) (pe : Pn m e) (q : ∀ b, (b = true ↔ d = e) → Q (.bl b) H) (hn : n ≤ 60 := by decide) (hm : m ≤ 60 := by decide) : rEqD K x y H Q := ⟨d, e, hx, hy, pd.shp hn, pe.shp hm, q _ (pd.eqv pe)⟩
theorem ne_pd (hx : Dp K H x d) (hy : Dp K H y e) (pd : Pn n d) (pe : Pn m e) (q : ∀ b, (b = true ↔ d = e) → Q (.bl (!b)) H) (hn : n ≤ 60 := by decide) (hm : m ≤ 60 := by decide) : rNeD K x y H Q := ⟨d, e, hx, hy, pd.shp hn, pe.shp hm, q _ (pd.eqv pe)⟩
end
mutual
theorem Dp.same {K : PySem.W.Frag} {H H' : Hp} (s : Same H H') : ∀ {v : V} {d : PyData}, Dp K H v d → Dp K H' v d
  | _, _, .non => .non
  | _, _, .bl b => .bl b
  | _, _, .int i => .int i
  | _, _, .str x => .str x
  | _, _, .lst h a => .lst (sqL_same h s) (DpAll.same s a)
  | _, _, .tup h a => .tup (sqT_same h s) (DpAll.same s a)
theorem DpAll.same {K : PySem.W.Frag} {H H' : Hp} (s : Same H H') : ∀ {vs : List V} {ds : List PyData}, DpAll K H vs ds → DpAll K H' vs ds
  | _, _, .nil => .nil
  | _, _, .cons h a => .cons (Dp.same s h) (DpAll.same s a)
end
theorem dpa_map {K : PySem.W.Frag} {H : Hp} {α : Type} {f : α → V} {g : α → PyData} : ∀ {l : List α}, (∀ x ∈ l, Dp K H (f x) (g x)) → DpAll K H (l.map f) (l.map g)
  | [], _ => .nil
  | x :: l, h => .cons (h x (List.mem_cons_self ..)) (dpa_map fun y hy => h y (List.mem_cons_of_mem _ hy))
theorem dpa_at {K : PySem.W.Frag} {H : Hp} : ∀ {vs : List V} {ds : List PyData}, vs.length = ds.length → (∀ (i : Nat) v d, vs[i]? = some v → ds[i]? = some d → Dp K H v d) → DpAll K H vs ds
  | [], [], _, _ => .nil
  | v :: vs, d :: ds, hl, h => .cons (h 0 v d rfl rfl) (dpa_at (by simpa using hl) fun i v d h1 h2 => h (i + 1) v d h1 h2)
  | [], _ :: _, hl, _ => by cases hl
  | _ :: _, [], hl, _ => by cases hl
theorem pn_ints (l : List Int) : Pn 1 (.list (l.map PyData.int)) := fun d hd => by
  obtain ⟨i, _, rfl⟩ := List.mem_map.mp hd
  trivial
theorem dp_ints {K : PySem.W.Frag} {H : Hp} {a : Addr} {l : List Int} (h : H a = some (.lst (l.map V.int))) : Dp K H (.ref a) (.list (l.map PyData.int)) := .lst (SqL.of h) (dpa_map fun i _ => .int i)
theorem int_inj {a b : List Int} (h : a.map PyData.int = b.map PyData.int) : a = b := List.map_inj_right (fun x y e => PyData.int.inj e) |>.mp h
theorem Lt.keep {H H' : Hp} {a : Addr} {us : List V} (h : Lt H a us) (s : Same H H') : H' a = H a := by
  rcases h with h | h <;> rw [h, s _ _ h]
/-- a walk of a list or a tuple that stands -/
theorem seq_lt {K : PySem.W.Frag} {tl : TE} {σ : L2.St} {H : Hp} {a : Addr} {us : List V} {R : It → Hp → Prop} (h : Lt H a us) (hq : ∀ Q : VK, Q (.ref a) H → tl σ H Q) (k : ∀ J, Walk J us.length (fun H' => H' a = H a) (YAt us) → R J H) : iSeqA K tl σ H R := by
  rcases h with h | h
  · exact .inl (hq _ ⟨a, rfl, ⟨us, SqL.of h⟩, k _ ((walk_list (K := K)).mono (fun H' s => SqL.of (s.trans h)) fun _ _ _ _ _ _ y => y)⟩)
  · exact .inr (hq _ ⟨a, rfl, ⟨us, SqT.of h⟩, k _ ((walk_tup (K := K)).mono (fun H' s => SqT.of (s.trans h)) fun _ _ _ _ _ _ y => y)⟩)
theorem putK_len {κ : Type} [DecidableEq κ] (kvs : List (κ × V)) (k : κ) (v : V) : (putK kvs k v).length ≤ kvs.length + 1 := by
  unfold putK
  split
  · rw [List.length_map]
    exact Nat.le_succ _
  · rw [List.length_append]
    exact Nat.le_refl _
theorem all_dec {α : Type} (l : List α) (p : α → Bool) : ((l.map p).all id) = l.all p := by rw [List.all_map]; rfl
end LL

set_option Elab.async false
set_option linter.all false
set_option maxRecDepth 100000
set_option maxHeartbeats 2000000
/-! LLNest: rules for what stands within a comprehension; the scope of a comprehension in a text. -/
namespace LL
open PySem PySem.Spec PyProof.Rows L2
section
variable {X : Cx} {K : PySem.W.Frag} {tg l : Expr} {tl : TE}
theorem pi_listK (h : X.K = K) (hl : PE X l tl) : PI X tg l (iList K tl) := h ▸ pi_list hl
theorem op_eqDK (h : X.K = K) (hu : X.A.units + 64 < cLine) : OpR X (compareOp .Eq) (rEqD K) := h ▸ op_eqD hu
theorem op_neDK (h : X.K = K) (hu : X.A.units + 64 < cLine) : OpR X (compareOp .NotEq) (rNeD K) := h ▸ op_neD hu
theorem sl_listK (h : X.K = K) : SlR X (rSlL K) := h ▸ sl_list
end
def stIn (b : List Stmt) (i : Nat) : Stmt := b.getD i (.Pass ⟨0, 0, 0, 0⟩)
def forBody : Stmt → List Stmt
  | .For _ _ b _ _ => b
  | _ => []
def asgVal : Stmt → Expr
  | .Assign _ e _ => e
  | _ => .Name "" ⟨0, 0, 0, 0⟩
def compSc : Expr → Scope
  | .ListComp _ _ sc _ => sc
  | _ => defScope (.Pass ⟨0, 0, 0, 0⟩)
end LL

set_option Elab.async false
set_option linter.all false
set_option maxRecDepth 100000
set_option maxHeartbeats 2000000
/-! LLSlots: a def called in a try's body: what is raised is wished for at the slots that stand then. -/
namespace LL
open PySem PySem.Spec PyProof.Rows L2
section
variable {X : Cx} {CX : CXT} {k : Nat} {sp : Sp} {dvs : List V} {E : L2.St → XK} {x : Str} {p pos : Pos} {e : Expr} {es : List Expr} {t : TA}
theorem pe_fnS (G : Fnc X.prog X.w X.K X.mg X.base CX k x dvs sp) (hr : Rm k X.A) (hx : ∀ σ, PassesAt CX X σ (E σ)) (ha : PA X (e :: es) t) (hg : Gl X x := by rfl) (hdb : (x == ("__debug__" : Str)) = false := by decide)
    (he : starEach (e :: es) X.env = (false, eval e X.env) :: starEach es X.env := by rfl) (hpl : (backTo pos (starEach es X.env)).any (·.1) = false := by rfl) : PE X (.Call (.Name x p) (e :: es) [] pos) (tCallSD sp dvs E t) := by
  obtain ⟨f, fd, ps, ds, hm, hk, hb, hd, F⟩ := G.ex
  refine ⟨fun pins s σ H Q I h => wpAny_Call_Name_kw (ld_glob I hg hm (PySem.W.callWith_K (h₀ := X.base) I.ok.mod.kin hk (thn (ha.run pos pins s σ H _ I h) fun us s1 z => ?_) he hpl) hdb)⟩
  obtain ⟨vs, H1, I1, r, q⟩ := z
  have r2 : Vals (vs ++ dvs) (us ++ ds) := r.append hd
  have hl : (us ++ ds).length = ps.length := r2.length.symm.trans (F.len _ _ _ _ q)
  refine ⟨I1.kIn, wpAny_call (codeAny_mono (F.run X.A X.stack s1 H1 ⟨us, []⟩ (us ++ ds) (vs ++ dvs) Q (E σ) hr I1.env0 (hb s1 us I1.kIn hl) r2 q) fun r s' hq => ?_)⟩
  match r, hq with
  | .error er, hq => exact hx σ pins H1 s1 er s' I1 hq
  | .ok (.ret u), hq => exact I1.after hq
  | .ok .next, hq => exact False.elim hq
  | .ok .brk, hq => exact False.elim hq
  | .ok .cont, hq => exact False.elim hq
end
theorem look_f (f : Str) (v : V) : ([(f, v)] : List (Str × V)).lookup f = some v := by
  rw [show ([(f, v)] : List (Str × V)) = putF f v [] from rfl, lookup_putF, if_pos rfl]
section
variable {K : PySem.W.Frag}
theorem kNoneL : PySem.W.kitOne K (.type "NoneType") (.type "list") = some false := kit_ty (by decide +kernel)
theorem kNoneT : PySem.W.kitOne K (.type "NoneType") (.type "tuple") = some false := kit_ty (by decide +kernel)
theorem kIntL : PySem.W.kitOne K (.type "int") (.type "list") = some false := kit_ty (by decide +kernel)
theorem kIntT : PySem.W.kitOne K (.type "int") (.type "tuple") = some false := kit_ty (by decide +kernel)
theorem kStrL : PySem.W.kitOne K (.type "str") (.type "list") = some false := kit_ty (by decide +kernel)
theorem kStrT : PySem.W.kitOne K (.type "str") (.type "tuple") = some false := kit_ty (by decide +kernel)
theorem kDicL : PySem.W.kitOne K (.type "dict") (.type "list") = some false := kit_ty (by decide +kernel)
theorem kDicT : PySem.W.kitOne K (.type "dict") (.type "tuple") = some false := kit_ty (by decide +kernel)
end
end LL

set_option Elab.async false
set_option linter.all false
set_option maxRecDepth 100000
set_option maxHeartbeats 2000000
/-! LLKw: a class called with keywords; t[::-1] of a tuple; {x!r} of data. -/
namespace LL
open PySem PySem.Spec PyProof.Rows L2
section
variable (P : Program) (w : World) (K : PySem.W.Frag) (mg : Str → Option Value) (base : Heap) (CX : CXT) (k : Nat)
/-- C(e, .., k = v, ..): n values and the keywords ks; sp of all in the order in which they are written -/
structure Mkk (x : Str) (n : Nat) (ks : List Str) (sp : Sp) : Prop where
  ex : ∃ (C f : Addr) (fd : FuncData) (ps : List Str) (g : List Value → List Value → List Value) (gV : List V → List V → List V) (si : Sp), Mk K C f ∧ mg x = some (.ref C) ∧ KBn K fd ps (n + 1) ks g gV ∧ FnG P w K mg base CX k f fd ps si ∧
    ∀ vs zs H Q E, vs.length = n → zs.length = ks.length → sp (vs ++ zs) H Q E → ∀ a dx, H a = none → H dx = none → dx ≠ a → si (gV (.ref a :: vs) zs) (upd (upd H dx (.own a)) a (.ins C dx [])) (fun v H2 => v = .non ∧ Q (.ref a) H2) E
end
def tKw (n m : Nat) (sp : Sp) (E : XK) (t tk : TA) : TE := fun σ H Q => t σ H fun vs H1 => tk σ H1 fun zs H2 => vs.length = n ∧ zs.length = m ∧ sp (vs ++ zs) H2 Q E
section
variable {X : Cx} {CX : CXT} {k n : Nat} {f C : Addr} {fd : FuncData} {ps ks : List Str} {sp : Sp} {E : XK} {x : Str} {p pos : Pos} {e : Expr} {es : List Expr} {kws : List Keyword} {t tk : TA} {g : List Value → List Value → List Value} {gV : List V → List V → List V}
theorem run_makeW {pins : List (Addr × Obj)} {σ : L2.St} {H : Hp} {s : Shared} {Q : VK} {us ws : List Value} {vs zs : List V} (M : Mk X.K C f) (F : FnG X.prog X.w X.K X.mg X.base CX k f fd ps sp) (hr : Rm (k + 1) X.A) (hb : KBn X.K fd ps (n + 1) ks g gV)
    (hx : Passes CX X E) (I : Inv X pins σ H s) (r : Vals vs us) (rz : Vals zs ws) (l1 : vs.length = n) (l2 : zs.length = ks.length)
    (h : ∀ x dx, H x = none → H dx = none → dx ≠ x → sp (gV (.ref x :: vs) zs) (upd (upd H dx (.own x)) x (.ins C dx [])) (fun v H2 => v = .non ∧ Q (.ref x) H2) E) :
    wpAny (model X.prog X.w) X.A (call (.ref C) us (ks.zip ws)) (EP X pins σ Q) X.xe s := by
  have hq := h (s.heap.objs.size + 1) s.heap.objs.size (I.hok.fresh (Nat.le_succ _)) (I.hok.fresh (Nat.le_refl _)) (Nat.ne_of_lt (Nat.lt_succ_self _))
  have I2 := Inv.made (C := C) I
  have r1 : Vals (V.ref (s.heap.objs.size + 1) :: vs) (Value.ref (s.heap.objs.size + 1) :: us) := .cons rfl r
  have r2 := hb.rel r1 rz
  have e1 : (Value.ref (s.heap.objs.size + 1) :: us).length = n + 1 := r1.length.symm.trans (congrArg Nat.succ l1)
  have e2 : ws.length = ks.length := rz.length.symm.trans l2
  refine wpAny_call (make_map (f := f) I.kIn M.makes M.init (beq_iff_eq.mp M.fn) (codeAny_mono (F.run _ X.stack _ _ ⟨Value.ref (s.heap.objs.size + 1) :: us, ks.zip ws⟩ (g (Value.ref (s.heap.objs.size + 1) :: us) ws) _ _ E (hr.make C us (ks.zip ws))
    (I2.env0.make C us (ks.zip ws)) (hb.to _ (Value.ref (s.heap.objs.size + 1) :: us) ws I2.kIn e1 e2) r2 hq) fun r s' hq' => ?_))
  match r, hq' with
  | .error er, hq' => exact hx pins σ _ _ er s' I2 hq'
  | .ok (.ret u), hq' =>
    obtain ⟨v, H', I3, rv, rfl, q3⟩ := I2.after hq'
    exact ⟨rv, ⟨V.ref (s.heap.objs.size + 1), H', I3, rfl, q3⟩⟩
  | .ok .next, hq' => exact False.elim hq'
  | .ok .brk, hq' => exact False.elim hq'
  | .ok .cont, hq' => exact False.elim hq'
theorem pe_mkk (G : Mkk X.prog X.w X.K X.mg X.base CX k x n ks sp) (hr : Rm (k + 1) X.A) (hx : Passes CX X E) (ha : PA X (e :: es) t) (hkw : PK X kws tk) (hg : Gl X x := by rfl)
    (hall : (backToKw pos (keywordEach kws X.env)).all (·.1.isSome) = true := by rfl) (hks : (backToKw pos (keywordEach kws X.env)).filterMap (·.1) = ks := by rfl)
    (hdb : (x == ("__debug__" : Str)) = false := by decide) (he : starEach (e :: es) X.env = (false, eval e X.env) :: starEach es X.env := by rfl)
    (hpl : ((backTo pos (starEach (e :: es) X.env)).any (·.1) || (backToKw pos (keywordEach kws X.env)).any (·.1.isNone)) = false := by rfl) :
    PE X (.Call (.Name x p) (e :: es) kws pos) (tKw n ks.length sp E t tk) := by
  obtain ⟨C, f, fd, ps, g, gV, si, M, hm, hb, F, conv⟩ := G.ex
  refine ⟨fun pins s σ H Q I h => ?_⟩
  refine wpAny_Call_Name_kw (ld_glob I hg hm ?_ hdb)
  refine PySem.W.callWith_KW (h₀ := X.base) I.ok.mod.kin M.kp hall (thn (ha.run pos pins s σ H _ I h) fun us s1 z => ?_) hpl he
  obtain ⟨vs, H1, I1, r, q⟩ := z
  refine thn (hkw.run pos pins s1 σ H1 _ I1 q) fun ws s2 z => ?_
  obtain ⟨zs, H2, I2, rz, l1, l2, q2⟩ := z
  refine ⟨I2.kIn, ?_⟩
  rw [hks]
  exact run_makeW M F hr hb hx I2 r rz l1 l2 (conv vs zs H2 Q E l1 l2 q2)
theorem pe_mkk0 (G : Mkk X.prog X.w X.K X.mg X.base CX k x 0 ks sp) (hr : Rm (k + 1) X.A) (hx : Passes CX X E) (hkw : PK X kws tk) (hg : Gl X x := by rfl)
    (hall : (backToKw pos (keywordEach kws X.env)).all (·.1.isSome) = true := by rfl) (hks : (backToKw pos (keywordEach kws X.env)).filterMap (·.1) = ks := by rfl) (hdb : (x == ("__debug__" : Str)) = false := by decide)
    (hpl : ((backTo pos (starEach [] X.env)).any (·.1) || (backToKw pos (keywordEach kws X.env)).any (·.1.isNone)) = false := by rfl) :
    PE X (.Call (.Name x p) [] kws pos) (tKw 0 ks.length sp E tNil tk) := by
  obtain ⟨C, f, fd, ps, g, gV, si, M, hm, hb, F, conv⟩ := G.ex
  refine ⟨fun pins s σ H Q I h => ?_⟩
  refine wpAny_Call_Name_kw (ld_glob I hg hm ?_ hdb)
  refine PySem.W.callWith_KW0 (h₀ := X.base) I.ok.mod.kin M.kp hall ?_ hpl
  refine thn (hkw.run pos pins s σ H _ I h) fun ws s2 z => ?_
  obtain ⟨zs, H2, I2, rz, l1, l2, q2⟩ := z
  refine ⟨I2.kIn, ?_⟩
  rw [hks]
  exact run_makeW (us := []) (vs := []) M F hr hb hx I2 .nil rz rfl l2 (conv [] zs H2 Q E rfl l2 q2)
end
/-! ### t[::-1] -/
section
variable {prog : Program} {w : World} {A : Around} {E : Value → Shared → Prop} {s : Shared}
theorem adjust_rev (n : Nat) : Builtin.Slice.sliceAdjust none none (-1) (n : Int) = ((n : Int) - 1, -1) := rfl
theorem places_rev (n : Nat) : Builtin.Slice.slicePlaces ((n : Int) - 1) (-1) (-1) = n := by
  unfold Builtin.Slice.slicePlaces
  rw [if_neg (by decide)]
  have e : (-(-1) : Int) = 1 := rfl
  rw [e, Int.ediv_one]
  split <;> omega
theorem fm_congr {α β : Type} {f g : α → Option β} : ∀ {l : List α}, (∀ a ∈ l, f a = g a) → l.filterMap f = l.filterMap g
  | [], _ => rfl
  | a :: l, h => by rw [List.filterMap_cons, List.filterMap_cons, h a (List.mem_cons_self ..), fm_congr fun b hb => h b (List.mem_cons_of_mem _ hb)]
theorem pick_rev (xs : Array Value) : ((List.range xs.size).filterMap fun (m : Nat) => xs[((xs.size : Int) - 1 + (m : Int) * -1).toNat]?).toArray = xs.toList.reverse.toArray := by
  have e := HT.pick_gen xs.toList.reverse.toArray 0 xs.size
  rw [List.drop_zero, List.take_of_length_le (by rw [List.length_reverse, Array.length_toList]; exact Nat.le_refl _)] at e
  refine Eq.trans (congrArg List.toArray (fm_congr fun m hm => ?_)) e
  have hm := List.mem_range.mp hm
  have q : ((xs.size : Int) - 1 + (m : Int) * -1).toNat = xs.size - 1 - m := by omega
  have q2 : (((0 : Nat) : Int) + (m : Int) * 1).toNat = m := by omega
  rw [q, q2, show xs.toList.reverse.toArray[m]? = xs.toList.reverse[m]? from List.getElem?_toArray .., List.getElem?_reverse (by rw [Array.length_toList]; exact hm), Array.length_toList, Array.getElem?_toList]
theorem getItem_tuple_rev {t sl : Addr} {items : Array Value} {vl vu vs : Value} {Q : Value → Shared → Prop} (ht : IsTup s.heap t items) (hs : s.heap.IsSliceOf sl vl vu vs) (pl : IsPart vl none) (pu : IsPart vu none) (ps : IsPart vs (some (-1)))
    (h : Q (.ref s.heap.objs.size) { s with heap := s.heap.push { cls := .type "tuple", data := .seq items.toList.reverse.toArray } })
    (hsz : items.size ≤ sizeLine) : wpAny (model prog w) A (getItem (.ref t) (.ref sl)) Q E s := by
  have htake : sizeOk (.seq items.toList.reverse.toArray) := by
    show items.toList.reverse.toArray.size ≤ sizeLine
    rw [List.size_toArray, List.length_reverse, Array.length_toList]
    exact hsz
  obtain ⟨os, hos, hcs, hds⟩ := id hs
  have hTs : s.TypeIs (.ref sl) "slice" := ⟨os, hos, hcs⟩
  unfold getItem
  try with_reducible refine wpAny_holding ?_
  first | refine wpAny_bind (wpAny_pure ?_) | skip
  refine wpAny_bind (wpAny_sequenceKey ht.typeIs (by decide) ?_)
  refine wpAny_bind (wpAny_callSpecial?_slot (name := Str.ofString "__getitem__") ht.typeIs PyProof.Rows.slot_tuple_getitem
    (wpAny_call_entry PyProof.Rows.slot_tuple_getitem ht.typeIs entry_tuple_getitem ?_ (args_tuple_getitem _ _)))
  show wpAny _ _ (Builtin.Tuple.tupleItemsOf (.ref t) >>= _) _ _ s
  refine wpAny_bind (tupleItemsOf_ ht ?_)
  refine wpAny_bind (wpAny_typeOf hTs ?_)
  rw [if_pos (by decide)]
  have app : ∀ {A : Around} {Q : Int × Int × Nat → Shared → Prop}, Q ((items.size : Int) - 1, -1, items.size) s → wpAny (model prog w) A (Builtin.Slice.sliceApplied (.ref sl) (pure (items.size : Int))) Q E s := by
    intro A Q h
    unfold Builtin.Slice.sliceApplied Builtin.Slice.sliceFields
    refine wpAny_bind (wpAny_bind (wpAny_field hos hds (x := vl) rfl (wpAny_bind (wpAny_field hos hds (x := vu) rfl (wpAny_bind (wpAny_field hos hds (x := vs) rfl (wpAny_pure ?_)))))))
    refine wpAny_bind (HT.slicePart_ ps ?_)
    show wpAny _ _ (if ((-1 : Int) == 0) = true then _ else _) _ _ s
    rw [if_neg (by decide)]
    refine wpAny_bind (HT.slicePart_ pl (wpAny_bind (HT.slicePart_ pu (wpAny_bind (wpAny_pure ?_)))))
    show wpAny _ _ (match Builtin.Slice.sliceAdjust none none (-1) (items.size : Int) with | (lo, hi) => pure (lo, (-1 : Int), Builtin.Slice.slicePlaces lo hi (-1))) _ _ s
    rw [adjust_rev]
    show wpAny _ _ (pure ((items.size : Int) - 1, (-1 : Int), Builtin.Slice.slicePlaces ((items.size : Int) - 1) (-1) (-1))) _ _ s
    rw [places_rev]
    exact wpAny_pure h
  refine wpAny_bind (app ?_)
  have hno : ¬ ((((items.size : Int) - 1) == 0 && (-1 : Int) == 1 && items.size == items.size) = true) := by
    rw [show ((-1 : Int) == 1) = false from rfl, Bool.and_false, Bool.false_and]
    exact Bool.false_ne_true
  show wpAny _ _ (if (((items.size : Int) - 1) == 0 && (-1 : Int) == 1 && items.size == items.size) = true then _ else _) _ _ s
  rw [if_neg hno, pick_rev]
  first
    | exact wpAny_bind (m := Builtin.Tuple.tupleExact _) (wpAny_newObj_type (wpAny_pure ⟨_, rfl, wpAny_pure h⟩) htake)
    | exact wpAny_bind (m := Builtin.Tuple.tupleExact _) (wpAny_newObj_type (wpAny_bind (wpAny_pure (wpAny_pure ⟨_, rfl, wpAny_pure h⟩))) htake)
    | exact wpAny_bind (wpAny_bind (m := Builtin.Tuple.tupleExact _) (wpAny_newObj_type (wpAny_pure (wpAny_pure ⟨_, rfl, wpAny_pure h⟩)) htake))
    | exact wpAny_bind (wpAny_bind (m := Builtin.Tuple.tupleExact _) (wpAny_newObj_type (wpAny_pure ⟨_, rfl, wpAny_pure h⟩) htake))
end
section
variable {X : Cx}
def tRevT (K : PySem.W.Frag) (te : TE) : TE := fun σ H Q => te σ H fun x H1 => ∃ a xs, x = .ref a ∧ SqT K H1 a xs ∧ ∀ p, H1 p = none → Q (.ref p) (upd H1 p (.tup xs.reverse))
theorem pe_revT {e : Expr} {te : TE} {k : Nat} {p1 p2 p3 pos : Pos} (he : PE X e te) : PE X (.Subscript e (.Slice none none (some (.UnaryOp .USub (.Constant (.int 1) k p1) p2)) p3) pos) (tRevT X.K te) := by
  refine ⟨fun pins s σ H Q I h => ?_⟩
  refine Subscript_ (thn (he.run pins s σ H _ I h) fun v s1 z => ?_)
  obtain ⟨x, H1, I1, r1, q1⟩ := z
  obtain ⟨a, xs, ex, hx, q⟩ := q1
  subst ex
  cases r1
  have hst : PO X (some (.UnaryOp .USub (.Constant (.int 1) k p1) p2)) (tPart (tUn (rU fun i => .int (-i)) (tC (.int 1)))) := po_some (pe_un un_neg pe_int)
  refine wpAny_Slice (thn (po_none.run pins s1 σ H1 (fun o H2 => o = none ∧ H2 = H1) I1 ⟨rfl, rfl⟩) fun vl s2 z => ?_)
  obtain ⟨l, H2, I2, pl, el, e2⟩ := z
  subst el e2
  refine thn (po_none.run pins s2 σ H2 (fun o H3 => o = none ∧ H3 = H2) I2 ⟨rfl, rfl⟩) fun vu s3 z => ?_
  obtain ⟨u, H3, I3, pu, eu, e3⟩ := z
  subst eu e3
  refine thn (hst.run pins s3 σ H3 (fun o H4 => o = some (-1) ∧ H4 = H3) I3 ⟨1, rfl, -1, rfl, rfl, rfl⟩) fun vs s4 z => ?_
  obtain ⟨o, H4, I4, ps, eo, e4⟩ := z
  subst eo e4
  have I5 : Inv X pins σ H4 { s4 with heap := s4.heap.push { cls := .type "slice", data := .fields #[vl, vu, vs] } } := I4.kept (t' := s4.toks) fun b ob q => Heap.get?_push_of_some _ q
  obtain ⟨its, r, ht, hz⟩ := I5.tuple hx
  have hlen := r.length
  show wpAny (model X.prog X.w) X.A (subscriptTail e (.Slice none none (some (.UnaryOp .USub (.Constant (.int 1) k p1) p2)) p3) (.ref a) (.ref s4.heap.objs.size)) (EP X pins σ Q) X.xe { s4 with heap := s4.heap.push { cls := .type "slice", data := .fields #[vl, vu, vs] } }
  refine tail_any (ops := [.ref a, .ref s4.heap.objs.size]) ht.typeIs (PyProof.Rows.slot_tuple_getitem.lookup) ?_ (by with_unfolding_all rfl)
  refine getItem_tuple_rev ht (Heap.IsSliceOf.new _ vl vu vs) pl pu ps ?_ (by rw [List.size_toArray]; omega)
  refine ⟨.ref _, _, I5.laid (t' := s4.toks) (o := .tup xs.reverse) (fun b ob q => Heap.get?_push_of_some _ q) (Nat.le_refl _) ?_, rfl, q _ (I5.hok.fresh (Nat.le_refl _))⟩
  exact ⟨by rw [List.length_reverse]; exact hz, _, r.reverse, IsTup.new _ _⟩
end
/-! ### {x!r} of data -/
def tFmtRD (K : PySem.W.Frag) (te : TE) : TE := fun σ H Q => te σ H fun x H1 => ∃ a d, x = .ref a ∧ Dp K H1 (.ref a) d ∧ Shw d ∧ d.depth ≤ 40 ∧ cost d ≤ 1000000 ∧ Q (.str d.shown) H1
theorem pe_fmtRD {X : Cx} {k : Nat} {e : Expr} {te : TE} {pos : Pos} (hr : Rm k X.A) (he : PE X e te) : PE X (.FormattedValue e 114 none pos) (tFmtRD X.K te) := by
  refine ⟨fun pins s σ H Q I h => ?_⟩
  refine wpAny_FormattedValue_repr (thn (he.run pins s σ H _ I h) fun v s1 hv => ?_)
  obtain ⟨x, H1, I1, r1, a, d, rfl, hd, hs, hp, hc, q⟩ := hv
  obtain ⟨as, rd⟩ := Dp.reads I1 d _ _ hd r1
  cases (show v = Value.ref a from r1)
  have hu := hr.r.units
  obtain ⟨z1, z2, z3⟩ := hs.all
  have hz : d.shown.length ≤ sizeLine := Nat.le_trans (Nat.le_trans z1 hc) (by rw [sizeLine_eq]; decide)
  exact pyReprObj_of_reads rd z2 (fun z => by rw [z3] at z; cases z) hr.g (by omega) (fun _ _ e => e) (fun h' u tk hk => wpAny_formatField_str ⟨.str d.shown, H1, I1.kept hk, ⟨_, rfl⟩, q⟩ ⟨.str d.shown, H1, (I1.kept hk).tok _, ⟨_, rfl⟩, q⟩ hz) hz
/-- list(d) of a dict that may be walked -/
theorem listD_of {H : Hp} {p : Addr} {kvs : List (Key × V)} {Q : VK} (h : H p = some (.dK kvs)) (q : ∀ r H', Same H H' → H r = none → H' r = some (.lst (kvs.map fun kv => kV kv.1)) → Q (.ref r) H') : rListD [.ref p] H Q := ⟨p, kvs, rfl, h, fun r hr => q r _ (same_upd hr) hr upd_same⟩
section
variable {X : Cx} {K : PySem.W.Frag} {e : Expr} {f : Str} {pos : Pos} {ta : TE}
theorem pe_fldK (h : X.K = K) (he : PE X e ta) (hab : attributeBase e f X.env (eval e X.env) = eval e X.env := by rfl) : PE X (.Attribute e f pos) (tFld K ta f) := h ▸ pe_fld he hab
end
section
variable {X : Cx} {K : PySem.W.Frag} {o e : Expr} {es : List Expr} {to : TE} {t : TA} {name : Str} {apos cpos : Pos} {T id : String} {r : V → List V → Hp → VK → Prop}
theorem pe_bmN (hK : X.K = K) (pa : PlainAttrs T) (slot : Slot T name id) (hty : typeOf (.builtin id) = pure (.type "method_descriptor")) (hm : MtR X id r) (ho : PE X o to) (ha : PA X (e :: es) t)
    (hbase : attributeBase o name X.env (eval o X.env) = eval o X.env := by rfl)
    (hfew : ((backTo cpos (starEach (e :: es) X.env)).all (fun x => !x.1) && (backToKw cpos (keywordEach [] X.env)).all (fun x => x.1.isSome)
      && decide ((e :: es).length + ([] : List Keyword).length + (if ([] : List Keyword).isEmpty then 0 else 1) < 30)) = true := by rfl)
    (hline : (apos.endLine == cpos.line) = true := by rfl) (hs : starEach (e :: es) X.env = (false, eval e X.env) :: starEach es X.env := by rfl) (hplain : (backTo cpos (starEach es X.env)).any (·.1) = false := by rfl) :
    PE X (.Call (.Attribute o name apos) (e :: es) [] cpos) (tBM K T r to t) := hK ▸ pe_bm pa slot hty hm ho ha hbase hfew hline hs hplain
theorem call_len_seqK (hK : X.K = K) : CallR X (.builtin "len") (fun xs H Q => ∃ p ys, xs = [.ref p] ∧ (SqL K H p ys ∨ SqT K H p ys) ∧ Q (.int ys.length) H) := hK ▸ call_len_seq
end
/-! ### a default that is an empty tuple -/
/-- the first default of the def at adr -/
def d1A (adr : PySem.W.Frag → Addr) (K : PySem.W.Frag) : Addr := match fdAt K (adr K) with
  | some g => (match g.defaults with
    | .ref T => (match K.lookup T with
      | some ⟨_, _, .seq its _, _⟩ => (match its.toList with
        | .ref a :: _ => a
        | _ => 0)
      | _ => 0)
    | _ => 0)
  | none => 0
/-- the empty tuple lies at a -/
def fEmpT (ad : PySem.W.Frag → Addr) : Ft := fun K => match K.lookup (ad K) with
  | some ⟨c, _, .seq its _, _⟩ => (c == .type "tuple") && its.toList.isEmpty
  | _ => false
theorem fEmpT_ok {ad : PySem.W.Frag → Addr} {K : PySem.W.Frag} (h : fEmpT ad K = true) : ∃ (o : Obj) (its : Array Value) (n : Nat), K.lookup (ad K) = some o ∧ o.cls = .type "tuple" ∧ o.data = .seq its n ∧ its.size ≤ sizeLine ∧ Vals [] its.toList := by
  unfold fEmpT at h
  split at h
  · rename_i c d its n sl e
    obtain ⟨h1, h2⟩ := He.ba h
    refine ⟨_, its, n, e, beq_iff_eq.mp h1, rfl, ?_, ?_⟩
    · rw [← Array.length_toList, List.isEmpty_iff.mp h2]
      exact Nat.zero_le _
    · rw [List.isEmpty_iff.mp h2]
      exact .nil
  · cases h
end LL

set_option Elab.async false
set_option linter.all false
set_option maxRecDepth 100000
set_option maxHeartbeats 2000000
/-! LLExb: own error classes over LookupError, RuntimeError, ArithmeticError, with one field or two. -/
namespace LL
open PySem PySem.Spec PyProof.Rows L2
/-- what is known of a built-in error class -/
structure Bas (B nI iI : String) (tl : List Value) : Prop where
  eb : ExcBaseFacts B nI iI tl
  st : StoreFacts B tl "object.__setattr__" "object"
  ty : typeOf (.type B) = pure (.type "type")
  sb : Manifest.isStub B = false
  hi : PySem.W.handedIn (.builtin iI) = true
  bt : bootBuiltins (Str.ofString B) = some (.type B)
  n1 : Str.ofString B ≠ "__name__"
  n2 : (Str.ofString B == ("__debug__" : Str)) = false
theorem bas_L : Bas "LookupError" "LookupError.__new__" "LookupError.__init__" [.type "LookupError", .type "Exception", .type "BaseException", .type "object"] := ⟨F.excBase_LookupError, F.store_LookupError, by kernel_rfl, by decide +kernel, by decide +kernel, by decide +kernel, by decide +kernel, by decide +kernel⟩
theorem bas_R : Bas "RuntimeError" "RuntimeError.__new__" "RuntimeError.__init__" [.type "RuntimeError", .type "Exception", .type "BaseException", .type "object"] := ⟨F.excBase_RuntimeError, F.store_RuntimeError, by kernel_rfl, by decide +kernel, by decide +kernel, by decide +kernel, by decide +kernel, by decide +kernel⟩
theorem bas_A : Bas "ArithmeticError" "ArithmeticError.__new__" "ArithmeticError.__init__" [.type "ArithmeticError", .type "Exception", .type "BaseException", .type "object"] := ⟨F.excBase_ArithmeticError, F.store_ArithmeticError, by kernel_rfl, by decide +kernel, by decide +kernel, by decide +kernel, by decide +kernel, by decide +kernel⟩
/-- what the written part says of the own class at C -/
structure OexB (K : PySem.W.Frag) (C : Addr) (nI : String) (tl : List Value) : Prop where
  cls : PySem.W.excInitIn K C tl nI = true
  over : PySem.W.excOver K C tl = true
  hd : PySem.W.hasDictIn K C = true
  sa : PySem.W.findIn K (.ref C) "__setattr__" = some (some (.builtin "object.__setattr__"))
  exC : PySem.W.subIn K (.ref C) (.type "BaseException") = some true
  tyC : PySem.W.typeIn K (.ref C) = some (.type "type")
  kC : PySem.W.keepIn K (.ref C) = true
theorem taker_of {K : PySem.W.Frag} {C : Addr} {f : Str} (h : PySem.W.findIn K (.ref C) f = some none) : PySem.W.takerIn K C f = some none := by
  unfold PySem.W.takerIn
  rw [h]
  rfl
section
variable {X : Cx} {pins : List (Addr × Obj)} {σ : L2.St} {H : Hp} {s : Shared} {a C dx : Addr} {f : Str} {y : V} {u : Value} {fs : List (Str × V)} {Q : Unit → Shared → Prop} {E : Value → Shared → Prop} {A : Around} {B nI iI : String} {tl : List Value}
/-- the error has got its dict -/
theorem inv_dict {hp h' : Heap} {g : Array GenState} {d : Drawn} {t tk' : Nat} {os : OsState} {t1 : Addr} (I : Inv X pins σ H ⟨hp, g, d, t, os⟩) (e : H a = some (exo a C none)) (ry : RelV y u) (k : ∀ b o, b ≠ a → hp.get? b = some o → h'.get? b = some o) (dn : hp.objs.size ≤ dx)
    (hx : h'.get? a = some ({ cls := .ref C, dict := some dx, data := .fields #[.ref t1, .none, .none, .none, .bool false, .none] } : Obj)) (hn : h'.Ns1 dx fun y => if y = f then some u else none) :
    Inv X pins σ (upd (upd H dx (exd dx [(f, y)])) a (exo a C (some dx))) ⟨h', g, d, tk', os⟩ := by
  have free : H dx = none := I.hok.fresh dn
  have off : ∀ {b : Addr}, H b = none → b ≠ a := fun {b} n z => (by rw [z, e] at n; cases n)
  have low : ∀ {b : Addr} {o : Obj}, hp.get? b = some o → b ≠ dx := fun {b o} q => Nat.ne_of_lt (Nat.lt_of_lt_of_le (Heap.lt_size q) dn)
  have same : ∀ {b : Addr} {o : HO}, H b = some o → b ≠ a → upd (upd H dx (exd dx [(f, y)])) a (exo a C (some dx)) b = some o := fun {b o} q n => by rw [upd_ne n, upd_ne (ne_of_none q free)]; exact q
  refine I.un (t' := tk') ⟨fun b o q n _ _ => k b o (off n) q, fun b o q n _ _ => ⟨o.slots, k b o (off n) q⟩, fun b o q n _ => ?_, fun b o q _ => ?_, fun b xs q => same q (at_ne e q exo_tup), fun b o v q => same q (at_ne e q exo_frz), fun b ps q => ⟨#[], ?_⟩⟩ fun b o q => ?_
  · rw [upd_ne (off n), upd_ne (low q)]
    exact n
  · by_cases c : b = a
    · exact ⟨_, c ▸ hx⟩
    · exact ⟨o, k b o c q⟩
  · rw [same q (at_ne e q exo_tbl)]
    simp
  · by_cases c : b = a
    · subst c
      rw [upd_same] at q
      cases q
      exact exo_ok hx
    rw [upd_ne c] at q
    by_cases c2 : b = dx
    · subst c2
      rw [upd_same] at q
      cases q
      exact exd_ok hn (relO_put (fs := []) ry fun _ => trivial)
    rw [upd_ne c2] at q
    refine (I.hok b o q).stay (fun z v hz w => k z v ?_ w) (fun z hz => same hz (at_ne e hz exo_own)) fun z xs hz => same hz (at_ne e hz exo_tup)
    exact hz.elim (fun hz => hz ▸ c) fun hz => at_ne e hz exo_own
/-- self.f = y, the first one -/
theorem ostB_new (Z : Bas B nI iI tl) (T : OexB X.K C nI tl) (I : Inv X pins σ H s) (e : H a = some (exo a C none)) (hno : PySem.W.findIn X.K (.ref C) f = some none) (ry : RelV y u)
    (h : ∀ dx s', H dx = none → dx ≠ a → Inv X pins σ (upd (upd H dx (exd dx [(f, y)])) a (exo a C (some dx))) s' → Q () s') : wpAny (model X.prog X.w) A (setAttr (.ref a) f u) Q E s := by
  obtain ⟨t1, ho⟩ := exo_at I.hok e
  obtain ⟨hp, g, d, t, os⟩ := s
  have J : PySem.W.InstAt hp a { cls := .ref C, dict := none, data := .fields #[.ref t1, .none, .none, .none, .bool false, .none] } C none := ⟨ho, rfl, rfl, trivial⟩
  obtain ⟨cd, hc, hd'⟩ := PySem.W.any_some T.hd
  have as : a < hp.objs.size := Heap.lt_size ho
  refine PySem.W.set_plain I.kIn J T.sa (PySem.W.osa_openX (s := ⟨hp, g, d, t + 1, os⟩) Z.st I.kIn J T.over (taker_of hno) fun b => ?_)
  show wpAny _ _ (Builtin.ObjectAttr.storeInOwnDict (.ref a) (.ref C) (.str f t) f u b) _ _ _
  refine wpAny_bind (wpAny_pure (wpAny_bind (PySem.W.instanceDict_exc (t := t1) (c2 := .none) ho (PySem.W.looks_clsIn I.kIn hc) hd' ?_)))
  show wpAny _ _ (Builtin.ObjectAttr.storeInDict hp.objs.size (.str f t) f u) _ _ ⟨_, g, d, t + 1, os⟩
  have n0 : ((hp.push (PySem.W.dictOf [] 0)).update a fun o => { o with dict := some hp.objs.size }).Ns1 hp.objs.size fun _ => none :=
    ⟨_, #[], 0, (Heap.get?_update_ne _ _ _ _ (Nat.ne_of_gt as)).trans (Heap.get?_push_size _ rfl), rfl, fun e he => absurd he (by simp), List.Pairwise.nil, fun _ => rfl⟩
  refine PySem.OEX.store_in_old (ns := []) n0 (fun y hy => absurd rfl hy) (Nat.zero_le _) fun h' tk' hn' hs => ?_
  have ho1 : (hp.push (PySem.W.dictOf [] 0)).get? a = some { cls := .ref C, dict := none, data := .fields #[.ref t1, .none, .none, .none, .bool false, .none] } := Heap.get?_push_of_some _ ho
  refine h hp.objs.size _ (I.hok.fresh (Nat.le_refl _)) (Nat.ne_of_gt as) (inv_dict (t1 := t1) I e ry (fun b o nb q => ?_) (Nat.le_refl _) ?_ hn')
  · exact (hs.2 b (Nat.ne_of_lt (Heap.lt_size q))).trans ((Heap.get?_update_ne _ _ _ _ nb).trans (Heap.get?_push_of_some _ q))
  · exact (hs.2 a (Nat.ne_of_lt as)).trans (Heap.get?_update_self _ ho1 rfl)
/-- self.f = y, a further one -/
theorem ostB_old (Z : Bas B nI iI tl) (T : OexB X.K C nI tl) (I : Inv X pins σ H s) (e : H a = some (exo a C (some dx))) (ed : H dx = some (exd dx fs)) (hl : fs.length ≤ 900) (hno : PySem.W.findIn X.K (.ref C) f = some none) (ry : RelV y u)
    (h : ∀ s', Inv X pins σ (upd H dx (exd dx ((f, y) :: fs))) s' → Q () s') : wpAny (model X.prog X.w) A (setAttr (.ref a) f u) Q E s := by
  obtain ⟨t1, ho⟩ := exo_at I.hok e
  obtain ⟨mA, hns, rel⟩ := exd_at I.hok ed
  obtain ⟨hp, g, d, t, os⟩ := s
  obtain ⟨oD, _, _, hoD, _, _⟩ := hns.count (within_of rel)
  have J : PySem.W.InstAt hp a { cls := .ref C, dict := some dx, data := .fields #[.ref t1, .none, .none, .none, .bool false, .none] } C (some oD) := ⟨ho, rfl, rfl, hoD⟩
  obtain ⟨cd, hc, hd'⟩ := PySem.W.any_some T.hd
  have cl : PySem.W.Looks (model X.prog X.w) hp (classData C) cd := PySem.W.looks_clsIn I.kIn hc
  refine PySem.W.set_plain I.kIn J T.sa (PySem.W.osa_openX (s := ⟨hp, g, d, t + 1, os⟩) Z.st I.kIn J T.over (taker_of hno) fun b => ?_)
  show wpAny _ _ (Builtin.ObjectAttr.storeInOwnDict (.ref a) (.ref C) (.str f t) f u b) _ _ _
  have go : ∀ {Qf : Fin → Shared → Prop} {E' : Value → Shared → Prop}, (∀ s', Q () s' → Qf (.done (.ret .none)) s') → wpAny (model X.prog X.w) A.in1 (Builtin.ObjectAttr.storeInDict dx (.str f t) f u) Qf E' ⟨hp, g, d, t + 1, os⟩ := fun {Qf E'} hQ => by
    refine PySem.OEX.store_in_old hns (within_of rel) (by rw [List.length_map]; omega) fun h' tk' hn' hs => ?_
    have ex : ∃ o, h'.get? dx = some o := let ⟨o, _, _, e', _⟩ := hn'; ⟨o, e'⟩
    exact hQ _ (h _ (I.write (t' := tk') (x := dx) (e := dx) (o := exd dx ((f, y) :: fs)) (by rw [ed]; exact trivial) (.inl rfl) (fun b o nb q => (hs.2 b nb).trans q) ex (exd_ok hn' (relO_put ry rel))))
  refine wpAny_bind (wpAny_pure (wpAny_bind (show wpAny _ _ (instanceDict a true) _ _ _ from ?_)))
  unfold instanceDict
  refine wpAny_bind (wpAny_loadPart ho ?_)
  dsimp only
  refine wpAny_bind (cl.at ?_)
  rw [hd']
  first
    | exact wpAny_pure (by exact go fun _ z => z)
    | exact wpAny_bind (wpAny_pure (wpAny_pure (by exact go fun _ z => z)))
theorem oinitB {us : List Value} {Q : Value → Shared → Prop} (Z : Bas B nI iI tl) (T : OexB X.K C nI tl) (I : Inv X pins σ H s) (e : H a = some (exo a C none)) (hl : us.length ≤ sizeLine) (h : ∀ s', Inv X pins σ H s' → Q .none s') : wpAny (model X.prog X.w) A (call (.builtin iI) (.ref a :: us)) Q E s := by
  obtain ⟨nm, N, qn, bs, bm, hdct, sn, sub, ab, col, dd, k0, k1, k2, k3, k5, hC, hT⟩ := PySem.W.excInit_of I.kIn T.cls
  obtain ⟨t1, ho⟩ := exo_at I.hok e
  obtain ⟨hp, g, d, t, os⟩ := s
  refine wpAny_call (PySem.PX.init_base Z.eb hT hC ho hl fun h' t2 k hx => ?_)
  have J := I.write (t' := t) (x := a) (e := a) (o := exo a C none) (by rw [e]; exact trivial) (.inl rfl) k ⟨_, hx⟩ (exo_ok hx)
  have same : upd H a (exo a C none) = H := funext fun b => by
    by_cases c : b = a
    · rw [c, upd_same, e]
    · rw [upd_ne c]
  exact h _ (same ▸ J)
end
/-! ### readings -/
def tBeI (K : PySem.W.Frag) (nI : String) (tl : List Value) (ta : TA) : TE := fun σ H Q => ta σ H fun vs H1 => ∃ (a C : Addr) (ws : List V), vs = .ref a :: ws ∧ ws.length ≤ 1000 ∧ OexB K C nI tl ∧ H1 a = some (exo a C none) ∧ Q .non H1
def tOstB (K : PySem.W.Frag) (nI : String) (tl : List Value) (f : Str) (to te : TE) : TS := fun D σ H => te σ H fun y H1 => to σ H1 fun x H2 => ∃ a C : Addr, x = .ref a ∧ OexB K C nI tl ∧ PySem.W.findIn K (.ref C) f = some none ∧
  ((H2 a = some (exo a C none) ∧ ∀ dx, H2 dx = none → dx ≠ a → D.nx σ (upd (upd H2 dx (exd dx [(f, y)])) a (exo a C (some dx)))) ∨
    ∃ (dx : Addr) (fs : List (Str × V)), H2 a = some (exo a C (some dx)) ∧ H2 dx = some (exd dx fs) ∧ fs.length ≤ 900 ∧ D.nx σ (upd H2 dx (exd dx ((f, y) :: fs))))
section
variable {X : Cx} {o e : Expr} {es : List Expr} {to te : TE} {ta : TA} {f : Str} {p p' p1 p2 pos : Pos} {B nI iI : String} {tl : List Value}
/-- B.__init__(self, ..) -/
theorem pe_beinit {pl : Sem Bool} (Z : Bas B nI iI tl) (hm : X.mg (Str.ofString B) = none) (vV : PySem.W.findCls X.K (.type B) (.type "type") "__init__" = some (.val (.builtin iI))) (ha : PA X (e :: es) ta)
    (hg : Gl X (Str.ofString B) := by rfl) (ev : eval (.Call (.Attribute (.Name (Str.ofString B) p1) "__init__" p2) (e :: es) [] pos) X.env = (do
      let o ← eval (.Name (Str.ofString B) p1) X.env
      standAt p2.atName
      let (g, first) ← holding [o] (getMethod o "__init__" pl)
      callWith pos g first (backTo pos (starEach (e :: es) X.env)) (backToKw pos (keywordEach [] X.env))) := by rfl)
    (se : starEach (e :: es) X.env = (false, eval e X.env) :: starEach es X.env := by rfl) (sn : (backTo pos (starEach es X.env)).any (·.1) = false := by rfl) : PE X (.Call (.Attribute (.Name (Str.ofString B) p1) "__init__" p2) (e :: es) [] pos) (tBeI X.K nI tl ta) := by
  constructor
  intro pins s σ H Q I h
  obtain ⟨m, fr⟩ := I.fr
  refine PySem.W.methodCall_KW (ld_blt I hg hm Z.bt ?_ Z.n1 Z.n2) ev
  refine PySem.W.method_type fr I.ok.mod.kin Z.ty Z.sb vV Z.hi ?_
  show wpAny _ _ (callWith pos (Value.builtin iI) [] (backTo pos (starEach (e :: es) X.env)) []) _ _ _
  refine PyProof.Rows.callWith_method1 (thn (ha.run pos pins _ σ H _ (I.tok _) h) fun us s1 z => ?_) se sn
  obtain ⟨vs, H1, I1, r, a, C, ws, rfl, hl, T, ea, q⟩ := z
  cases r with
  | @cons _ u _ ur ru rr =>
    cases (show u = Value.ref a from ru)
    exact oinitB Z T I1 ea (Nat.le_trans (Nat.le_of_eq (Paired.length rr).symm) (Nat.le_trans hl (by rw [sizeLine_eq]; decide))) fun s2 J => ⟨.non, H1, J, rfl, q⟩
theorem ps_ostB (Z : Bas B nI iI tl) (ho : PE X o to) (he : PE X e te) (hs : swapsWith e (some (.Attribute o f p')) pos.line X.env = pure false := by rfl) : PS X (.Assign [.Attribute o f p'] e pos) (tOstB X.K nI tl f to te) := by
  constructor
  intro pins s σ H D I h
  refine plainObj_wpAny_Assign_Attribute (thn (he.run pins s σ H _ I h) fun v s1 z => ?_) hs
  obtain ⟨y, H1, I1, r1, q1⟩ := z
  refine thn (ho.run pins s1 σ H1 _ I1 q1) fun u s2 z => ?_
  obtain ⟨x, H2, I2, r2, a, C, rfl, T, hno, q⟩ := z
  cases (show u = Value.ref a from r2)
  rcases q with ⟨ea, q⟩ | ⟨dx, fs, ea, ed, hl, q⟩
  · exact ostB_new Z T I2 ea hno r1 fun dx s' n ne J => ⟨σ, _, J, q dx n ne⟩
  · exact ostB_old Z T I2 ea ed hl hno r1 fun s' J => ⟨σ, _, J, q⟩
theorem pmk_oexB {CX : CXT} {x : Str} {C fI : Addr} {k : Nat} {fd : FuncData} {ps : List Str} {sp : Sp} (Z : Bas B nI iI tl) (T : OexB X.K C nI tl) (iC : PySem.W.findIn X.K (.ref C) "__init__" = some (some (.ref fI))) (tI : PySem.W.typeIn X.K (.ref fI) = some (.type "function"))
    (F1 : FnOk X.prog X.w X.K X.mg X.base CX k fI fd ps sp) (hr : Room (k + 1) X.A) (hb : Binds X.K fd ps []) (hx : Passes CX X (fun _ _ _ => False)) (hg : Gl X x) (hm : X.mg x = some (.ref C)) (ha : PA X (e :: es) ta)
    (hdb : (x == ("__debug__" : Str)) = false := by decide) (he : starEach (e :: es) X.env = (false, eval e X.env) :: starEach es X.env := by rfl) (hpl : (backTo pos (starEach es X.env)).any (·.1) = false := by rfl) : PMk X (.Call (.Name x p) (e :: es) [] pos) (tMkO C sp [] ta) := by
  intro pins s σ H Q I h
  refine wpAny_Call_Name_kw (ld_glob I hg hm (PySem.W.callWith_K (h₀ := X.base) I.ok.mod.kin T.kC (thn (ha.run pos pins s σ H _ I h) fun us s1 z => ?_) he hpl) hdb)
  obtain ⟨vs, H1, I1, r1, hz, q1⟩ := z
  refine ⟨I1.kIn, show wpAny _ _ (call (.ref C) us) _ _ _ from ?_⟩
  obtain ⟨nm, N, qn, bs, bm, hdct, sn, sub, ab, col, dd, k0, k1, k2, k3, k5, hC, hT⟩ := PySem.W.excInit_of I1.kIn T.cls
  obtain ⟨hp, g, dr, tk, os⟩ := s1
  have up : hp.objs.size ≤ hp.objs.size + 1 := Nat.le_succ _
  have hq := q1 (hp.objs.size + 1) (I1.hok.fresh up)
  have kk : ∀ b o, hp.get? b = some o → ((hp.push (PySem.W.kdv_tup us)).push (PySem.PX.excO C hp.objs.size)).get? b = some o := fun b o e => Heap.get?_push_of_some _ (Heap.get?_push_of_some _ e)
  have got : ((hp.push (PySem.W.kdv_tup us)).push (PySem.PX.excO C hp.objs.size)).get? (hp.objs.size + 1) = some (PySem.PX.excO C hp.objs.size) := by heap_get
  have I2 : Inv X pins σ (upd H1 (hp.objs.size + 1) (exo (hp.objs.size + 1) C none)) ⟨(hp.push (PySem.W.kdv_tup us)).push (PySem.PX.excO C hp.objs.size), g, dr, tk, os⟩ := I1.laid (t' := tk) (o := exo (hp.objs.size + 1) C none) kk up (exo_ok got)
  have r2 : Vals (V.ref (hp.objs.size + 1) :: (vs ++ [])) (Value.ref (hp.objs.size + 1) :: (us ++ [])) := .cons rfl (r1.append .nil)
  have hl : (Value.ref (hp.objs.size + 1) :: us ++ []).length = ps.length := r2.length.symm.trans (F1.len _ _ _ _ hq)
  have hus : us.length ≤ sizeLine := Nat.le_trans (Nat.le_of_eq (Paired.length r1).symm) (Nat.le_trans hz (by rw [sizeLine_eq]; decide))
  have bd : BindsTo (⟨(hp.push (PySem.W.kdv_tup us)).push (PySem.PX.excO C hp.objs.size), g, dr, tk, os⟩ : Shared) fd ⟨Value.ref (hp.objs.size + 1) :: us, []⟩ (ps.zip (Value.ref (hp.objs.size + 1) :: (us ++ []))) := by
    have z := hb ⟨(hp.push (PySem.W.kdv_tup us)).push (PySem.PX.excO C hp.objs.size), g, dr, tk, os⟩ (Value.ref (hp.objs.size + 1) :: us) I2.kIn hl
    rw [List.cons_append] at z
    exact z
  refine wpAny_call (PySem.PX.call_own Z.eb hT hC (PySem.W.looks_findIn I1.kIn iC) (fun self => PySem.W.bind_fn I1.kIn self tI) hus (codeAny_mono (F1.run _ X.stack _ _ ⟨Value.ref (hp.objs.size + 1) :: us, []⟩ (Value.ref (hp.objs.size + 1) :: (us ++ [])) _ _ (fun _ _ _ => False) (hr.make C us []) (I2.env0.make C us []) bd r2 hq) fun r s' hq' => ?_))
  match r, hq' with
  | .error er, hq' => exact hx pins σ _ _ er s' I2 hq'
  | .ok (.ret u), hq' =>
    obtain ⟨v, H2, os2, bare2, un2, hok2, rv, rfl, d, fs, ea, ed, hd1, q2⟩ := hq'
    obtain ⟨h2, g2, d2, t2, os'⟩ := s'
    exact ⟨rv, mk_end (raises_own T.exC T.tyC) I1 up kk un2 hok2 os2 bare2 ea ed hd1 q2⟩
  | .ok .next, hq' => exact False.elim hq'
  | .ok .brk, hq' => exact False.elim hq'
  | .ok .cont, hq' => exact False.elim hq'
end
/-! ### the class as one fact -/
/-- an __init__ that keeps its arguments in the fields fs -/
def spXB (C : Addr) (fs : List Str) : Sp := fun vs H Q _ => ∃ a us, vs = .ref a :: us ∧ us.length = fs.length ∧ H a = some (exo a C none) ∧ ∀ dx, H dx = none → dx ≠ a → Q .non (upd (upd H dx (exd dx (fs.zip us).reverse)) a (exo a C (some dx)))
section
variable (P : Program) (w : World) (K : PySem.W.Frag) (mg : Str → Option Value) (base : Heap) (k : Nat)
structure XclB (x : Str) (C : Addr) (fs : List Str) : Prop where
  nf : ∀ f ∈ fs, PySem.W.findIn K (.ref C) f = some none
  mx : mg x = some (.ref C)
  ex : ∃ (B nI iI : String) (tl : List Value) (fI : Addr) (fd : FuncData) (ps : List Str), Bas B nI iI tl ∧ OexB K C nI tl ∧ PySem.W.findIn K (.ref C) "__init__" = some (some (.ref fI)) ∧ PySem.W.typeIn K (.ref fI) = some (.type "function") ∧ Binds K fd ps [] ∧ FnOk P w K mg base CX0 k fI fd ps (spXB C fs)
  xf : XfC K C
  ec : ExcC K C
end
section
variable {X : Cx} {k : Nat} {C : Addr} {x : Str} {fs : List Str} {W : WX} {e : Expr} {es : List Expr} {ta : TA} {p pos rpos : Pos}
theorem ps_raiseB (G : XclB X.prog X.w X.K X.mg X.base k x C fs) (hr : Room (k + 1) X.A) (tk : Takes X W) (ha : PA X (e :: es) ta) (hc : X.calm = true := by rfl) (hg : Gl X x := by rfl) (hdb : (x == ("__debug__" : Str)) = false := by decide)
    (se : starEach (e :: es) X.env = (false, eval e X.env) :: starEach es X.env := by rfl) (sn : (backTo pos (starEach es X.env)).any (·.1) = false := by rfl) :
    PS X (.Raise (some (.Call (.Name x p) (e :: es) [] pos)) none rpos) (fun _ σ H => tMkO C (spXB C fs) [] ta σ H fun cls d H' => W cls d σ H') := by
  obtain ⟨B, nI, iI, tl, fI, fd, ps, z, h0, h1, h2, h3, h4⟩ := G.ex
  exact ps_raise hc tk (pmk_oexB z h0 h1 h2 h4 hr h3 pass0 hg G.mx ha hdb se sn)
theorem raiseB_of {us : List V} {H : Hp} {Q : XK} (hl : us.length = fs.length) (h9 : us.length ≤ 1000) (h : ∀ d, H d = none → Q (.ref C) (some d) (upd H d (.xd (fs.zip us).reverse))) : us.length ≤ 1000 ∧ ∀ a, H a = none → spXB C fs (.ref a :: (us ++ [])) (upd H a (exo a C none))
    (fun z H2 => z = .non ∧ ∃ (d : Addr) (gs : List (Str × V)), H2 a = some (exo a C (some d)) ∧ H2 d = some (exd d gs) ∧ H d = none ∧ Q (.ref C) (some d) (upd (del H2 a) d (.xd gs))) (fun _ _ _ => False) := by
  refine ⟨h9, fun a ha => ⟨a, us, by rw [List.append_nil], hl, upd_same, fun dx hd ne => ⟨rfl, dx, (fs.zip us).reverse, upd_same, ?_, ?_, ?_⟩⟩⟩
  · rw [upd_ne ne, upd_same]
  · rw [upd_ne ne] at hd
    exact hd
  · rw [upd_ne ne] at hd
    have e : upd (del (upd (upd (upd H a (exo a C none)) dx (exd dx (fs.zip us).reverse)) a (exo a C (some dx))) a) dx (.xd (fs.zip us).reverse) = upd H dx (.xd (fs.zip us).reverse) := funext fun b => by
      by_cases h1 : b = dx
      · rw [h1, upd_same, upd_same]
      · rw [upd_ne h1, upd_ne h1]
        by_cases h2 : b = a
        · rw [h2, del_same, ha]
        · rw [del_ne h2, upd_ne h2, upd_ne h1, upd_ne h2]
    rw [e]
    exact h dx hd
end
/-! ### the __init__ with one field, with two -/
section
variable {P : Program} {w : World} {K : PySem.W.Frag} {mg : Str → Option Value} {base : Heap} {C f : Addr} {fd : FuncData} {nI iI : String} {tl : List Value}
theorem two_up {H : Hp} {a dx : Addr} {f1 f2 : Str} {v1 v2 : V} (ne : dx ≠ a) : upd (upd (upd H dx (exd dx [(f1, v1)])) a (exo a C (some dx))) dx (exd dx [(f2, v2), (f1, v1)]) = upd (upd H dx (exd dx [(f2, v2), (f1, v1)])) a (exo a C (some dx)) := funext fun b => by
  by_cases h1 : b = dx
  · rw [h1, upd_same, upd_ne ne, upd_same]
  · rw [upd_ne h1]
    by_cases h2 : b = a
    · rw [h2, upd_same, upd_same]
    · rw [upd_ne h2, upd_ne h2, upd_ne h1, upd_ne h1]
end
/-! ### tests -/
def oexBB (nI : String) (tl : List Value) (K : PySem.W.Frag) (C : Addr) : Bool := PySem.W.excInitIn K C tl nI && (PySem.W.excOver K C tl && (PySem.W.hasDictIn K C && (He.eqO (PySem.W.findIn K (.ref C) "__setattr__") (some (some (.builtin "object.__setattr__"))) && (decide (PySem.W.subIn K (.ref C) (.type "BaseException") = some true) && (decide (PySem.W.typeIn K (.ref C) = some (.type "type")) && PySem.W.keepIn K (.ref C))))))
theorem oexBB_ok {nI : String} {tl : List Value} {K : PySem.W.Frag} {C : Addr} (c : oexBB nI tl K C = true) : OexB K C nI tl := by
  obtain ⟨c1, c⟩ := He.ba c
  obtain ⟨c2, c⟩ := He.ba c
  obtain ⟨c3, c⟩ := He.ba c
  obtain ⟨c4, c⟩ := He.ba c
  obtain ⟨c5, c⟩ := He.ba c
  obtain ⟨c6, c7⟩ := He.ba c
  exact ⟨c1, c2, c3, He.eqO_ok c4, of_decide_eq_true c5, of_decide_eq_true c6, c7⟩
/-- all that is asked of an own error class x over the built-in with nI, tl; its fields are fs -/
def fXb (x : Str) (nI : String) (tl : List Value) (fs : List Str) : Ft := fun K => oexBB nI tl K (He.ga K x) && ((fs.all fun f => He.eqO (PySem.W.findIn K (.ref (He.ga K x)) f) (some none)) && (He.eqO (PySem.W.findIn K (.ref (He.ga K x)) "__init__") (some (some (.ref (mA x "__init__" K)))) && (decide (PySem.W.typeIn K (.ref (mA x "__init__" K)) = some (.type "function")) &&
  (xfB K (He.ga K x) && (He.eqO (PySem.W.findIn K (.ref (He.ga K x)) "__class__") (some (some (.builtin "object.__class__"))) && (He.eqO (PySem.W.specialIn K (.builtin "object.__class__") "__get__") (some (some (.builtin "getset_descriptor.__get__"))) && (decide (PySem.W.takesIn K (.builtin "object.__class__") = some true) && decide (PySem.W.mroIn K (He.ga K x) (.type "object") = some true))))))))
theorem fXb_pre {x : Str} {nI : String} {tl : List Value} {fs : List Str} {K : PySem.W.Frag} (c : fXb x nI tl fs K = true) : OexB K (He.ga K x) nI tl ∧ ∀ f ∈ fs, PySem.W.findIn K (.ref (He.ga K x)) f = some none := by
  obtain ⟨c1, c⟩ := He.ba c
  obtain ⟨c2, _⟩ := He.ba c
  exact ⟨oexBB_ok c1, fun f hf => He.eqO_ok (List.all_eq_true.mp c2 f hf)⟩
theorem fXb_ok {P : Program} {w : World} {K : PySem.W.Frag} {mg : Str → Option Value} {base : Heap} {k : Nat} {x : Str} {B nI iI : String} {tl : List Value} {fs : List Str} {fd : FuncData} {ps : List Str} (Z : Bas B nI iI tl) (c : fXb x nI tl fs K = true) (hm : mg x = some (.ref (He.ga K x))) (Bd : Binds K fd ps []) (F : FnOk P w K mg base CX0 k (mA x "__init__" K) fd ps (spXB (He.ga K x) fs)) :
    XclB P w K mg base k x (He.ga K x) fs := by
  obtain ⟨h1, h2⟩ := fXb_pre c
  obtain ⟨_, c⟩ := He.ba c
  obtain ⟨_, c⟩ := He.ba c
  obtain ⟨c3, c⟩ := He.ba c
  obtain ⟨c4, c⟩ := He.ba c
  obtain ⟨c5, c⟩ := He.ba c
  obtain ⟨c6, c⟩ := He.ba c
  obtain ⟨c7, c⟩ := He.ba c
  obtain ⟨c8, c9⟩ := He.ba c
  have xf := xfB_ok c5
  exact ⟨h2, hm, ⟨B, nI, iI, tl, _, fd, ps, Z, h1, He.eqO_ok c3, of_decide_eq_true c4, Bd, F⟩, xf, ⟨xf.ga, xf.gg, xf.exC, xf.hdC, He.eqO_ok c6, He.eqO_ok c7, of_decide_eq_true c8, of_decide_eq_true c9⟩⟩
/-- the built-in's __init__ -/
def fBi (B iI : String) : Ft := fun K => match PySem.W.findCls K (.type B) (.type "type") "__init__" with
  | some (.val (.builtin n)) => n == iI
  | _ => false
theorem fBi_ok {B iI : String} {K : PySem.W.Frag} (c : fBi B iI K = true) : PySem.W.findCls K (.type B) (.type "type") "__init__" = some (.val (.builtin iI)) := by
  unfold fBi at c
  split at c
  · rename_i n e
    rw [e, beq_iff_eq.mp c]
  · cases c
end LL

set_option Elab.async false
set_option linter.all false
set_option maxRecDepth 100000
set_option maxHeartbeats 2000000
/-! LLMeth: len of an own object; a class held by a local name; classmethods. -/
namespace LL
open PySem PySem.Spec PyProof.Rows L2
section
variable {X : Cx} {CX : CXT} {k : Nat} {C f : Addr} {fd : FuncData} {ps : List Str} {sp : Sp} {E : XK}
def rLenO (C : Addr) (sp : Sp) (E : XK) : List V → Hp → VK → Prop := fun xs H Q => ∃ a dx fs, xs = [.ref a] ∧ H a = some (.ins C dx fs) ∧ sp [.ref a] H (fun z H' => ∃ n : Nat, z = .int (n : Nat) ∧ n ≤ 100000 ∧ Q z H') E
theorem call_lenO (G : SpF X.prog X.w X.K X.mg X.base CX k C "__len__" sp) (hr : Rm (k + 1) X.A) (hx : Passes CX X E) : CallR X (.builtin "len") (rLenO C sp E) := by
  obtain ⟨f, fd, ps, hs, hf, hb, F⟩ := G.ex
  intro pins s σ H xs us Q I r h
  obtain ⟨a, dx, fs, rfl, ha, q⟩ := h
  obtain ⟨u, rfl, ru⟩ := r.one
  cases (show u = Value.ref a from ru)
  obtain ⟨od, J⟩ := inst_of I ha
  obtain ⟨m, hF⟩ := I.fr
  refine PySem.W.len_K hF I.ok.mod.kin J hs hf (thn (run_g (us := [.ref a]) (vs := [.ref a]) (dvs := []) F hr.in1 I.env0.in1 hb .nil hx I (.cons rfl .nil) q) fun w s' z => ?_)
  obtain ⟨z', H', I', rz, n, rfl, hn, qz⟩ := z
  obtain ⟨t, rfl⟩ := (show ∃ t, w = Value.int (n : Nat) t from rz)
  exact ⟨⟨by omega, by omega⟩, .int (n : Nat), H', I'.tok _, ⟨_, rfl⟩, qz⟩
/-- the class at C, made -/
structure MkC (P : Program) (w : World) (K : PySem.W.Frag) (mg : Str → Option Value) (base : Heap) (CX : CXT) (k : Nat) (C : Addr) (sp : Sp) : Prop where
  ex : ∃ (x : Str) (dvs : List V) (si : Sp), Mkr P w K mg base CX k x C dvs si ∧ ∀ vs H Q E, sp vs H Q E → ∀ a dx, H a = none → H dx = none → dx ≠ a → si (.ref a :: (vs ++ dvs)) (upd (upd H dx (.own a)) a (.ins C dx [])) (fun v H2 => v = .non ∧ Q (.ref a) H2) E
def tMkL (i : Nat) (C : Addr) (sp : Sp) (E : XK) (t : TA) : TE := fun σ H Q => σ[i]? = some (some (.ref C)) ∧ t σ H fun vs H1 => sp vs H1 Q E
theorem pe_mkL {i : Nat} {x : Str} {p pos : Pos} {e : Expr} {es : List Expr} {t : TA} (G : MkC X.prog X.w X.K X.mg X.base CX k C sp) (hr : Rm (k + 1) X.A) (hx : Passes CX X E) (hN : X.N[i]? = some x) (hv : Vis X.env.scope x) (ha : PA X (e :: es) t)
    (hdb : (x == ("__debug__" : Str)) = false := by decide) (hcd : (x == ("__classdict__" : Str)) = false := by decide)
    (he : starEach (e :: es) X.env = (false, eval e X.env) :: starEach es X.env := by rfl) (hpl : (backTo pos (starEach es X.env)).any (·.1) = false := by rfl) : PE X (.Call (.Name x p) (e :: es) [] pos) (tMkL i C sp E t) := by
  obtain ⟨y, dvs, si, ⟨f, fd, ps, ds, M, hm, hb, hd, F⟩, conv⟩ := G.ex
  refine ⟨fun pins s σ H Q I h => ?_⟩
  obtain ⟨hs, ht⟩ := h
  refine wpAny_Call_Name_kw (thn ((pe_var (pos := p) hN hv hdb hcd).run pins s σ H (fun v H1 => v = .ref C ∧ H1 = H) I ⟨.ref C, hs, rfl, rfl⟩) fun u s1 ⟨v, H1, I1, r1, q1⟩ => ?_)
  obtain ⟨rfl, rfl⟩ := q1
  cases r1
  refine PySem.W.callWith_K (h₀ := X.base) I.ok.mod.kin M.kp (thn (ha.run pos pins s1 σ _ _ I1 ht) fun us s2 ⟨vs, H2, I2, r, q⟩ => ⟨I2.kIn, ?_⟩) he hpl
  exact run_makeG M F hr hb hd hx I2 r (conv vs H2 Q E q)
/-- C.m is a classmethod -/
structure Cmt (P : Program) (w : World) (K : PySem.W.Frag) (mg : Str → Option Value) (base : Heap) (CX : CXT) (k : Nat) (C : Addr) (m : Str) (sp : Sp) : Prop where
  rd : ClX.CRead K C (.type "type")
  ex : ∃ (p g : Addr) (fd : FuncData) (ps : List Str), ClX.CMet K C (.type "type") m p g ∧ Binds K fd ps [] ∧ FnG P w K mg base CX k g fd ps sp
theorem run_gC {pins : List (Addr × Obj)} {σ : L2.St} {H : Hp} {s : Shared} {Q : VK} {us : List Value} {vs : List V} {A : Around} (F : FnG X.prog X.w X.K X.mg X.base CX k f fd ps sp) (hr : Rm k A) (e0 : Env0 X.prog X.w X.K X.mg X.base A X.stack s H) (hb : Binds X.K fd ps []) (hx : Passes CX X E)
    (I : Inv X pins σ H s) (r : Vals vs us) (h : sp vs H Q E) : codeAny (model X.prog X.w) A (.call (.ref f) ⟨us, []⟩) (fun r s' => match r with | .ok (.ret v) => EP X pins σ Q v s' | .ok _ => False | .error e => X.xe e s') s := by
  have hl : (us ++ []).length = ps.length := by
    rw [List.append_nil, ← F.len _ _ _ _ h]
    exact r.length.symm
  have b := hb s us I.kIn hl
  rw [List.append_nil] at b
  have go := F.run A X.stack s H ⟨us, []⟩ us vs Q E hr e0 b r h
  refine codeAny_mono go fun r s' hq => ?_
  match r, hq with
  | .error er, hq => exact hx pins σ H s er s' I hq
  | .ok (.ret u), hq => exact I.after hq
  | .ok .next, hq => exact False.elim hq
  | .ok .brk, hq => exact False.elim hq
  | .ok .cont, hq => exact False.elim hq
theorem pe_cm {o e : Expr} {es : List Expr} {m : Str} {pos apos : Pos} {ta : TE} {t : TA} {pl : Sem Bool} (he : PE X o ta) (G : Cmt X.prog X.w X.K X.mg X.base CX k C m sp) (hr : Rm k X.A) (hx : Passes CX X E) (ha : PA X (e :: es) t)
    (hst : starEach (e :: es) X.env = (false, eval e X.env) :: starEach es X.env := by rfl) (hpl : (backTo pos (starEach es X.env)).any (·.1) = false := by rfl)
    (ht : eval (.Call (.Attribute o m apos) (e :: es) [] pos) X.env = (do
      let ov ← eval o X.env
      standAt apos.atName
      let (f, first) ← holding [ov] (getMethod ov m pl)
      callWith pos f first (backTo pos (starEach (e :: es) X.env)) (backToKw pos (keywordEach [] X.env))) := by rfl) :
    PE X (.Call (.Attribute o m apos) (e :: es) [] pos) (ClX.tCMeth C sp E ta t) := by
  obtain ⟨p, g, fd, ps, c, hb, F⟩ := G.ex
  refine ⟨fun pins s σ H Q I h => ?_⟩
  refine PySem.W.methodCall_KW (pl := pl) (thn (he.run pins s σ H _ I h) fun u s1 ⟨x, H1, I1, rx, ex, q⟩ => ?_) ht
  subst ex
  obtain rfl : u = Value.ref C := rx
  refine ClX.getmethcm_ok I1 G.rd c fun s2 I2 => ?_
  refine ClX.callwith_cm I2 (ClX.base_none I1 (Nat.le_refl _)) c.fi (thn (ha.run pos _ s2 σ H1 _ I2 q) fun us s3 ⟨vs, H2, I3, rv, q2⟩ => ⟨⟨ClX.pin_at I3, I3.kIn⟩, ?_⟩) hst hpl
  refine thn (wpAny_call (PySem.W.method_call (ClX.pin_at I3) (run_gC (us := .ref C :: us) (vs := .ref C :: vs) F hr I3.env0 hb hx I3 (.cons rfl rv) q2))) fun _ _ y => ClX.unpinE y
end
end LL

set_option Elab.async false
set_option linter.all false
set_option maxRecDepth 100000
set_option maxHeartbeats 2000000
/-! M61: rows of a stretch, plainly. -/
namespace ST
open PySem PySem.Spec PyProof.Rows L2 LL
inductive Rw where
  | leaf (n : Int)
  | set (n : Int) (os : List Int)
  | use (os : List Int)
  | stop (l : Str) (os : List Int)
abbrev Rs := List Rw
namespace Rw
def val : Rw → List Int
  | leaf n => [n]
  | set n _ => [n]
  | _ => []
def need : Rw → List Int
  | set _ os => os
  | use os => os
  | _ => []
def ops : Rw → List Int
  | set _ os => os
  | use os => os
  | stop _ os => os
  | _ => []
def isStop : Rw → Bool
  | stop _ _ => true
  | _ => false
def lab : Rw → Str
  | stop l _ => l
  | _ => ""
def dat : Rw → PyData
  | leaf n => .tuple [.str "leaf", .int n]
  | set n os => .tuple [.str "set", .int n, .tuple (os.map PyData.int)]
  | use os => .tuple [.str "use", .tuple (os.map PyData.int)]
  | stop l os => .tuple [.str "stop", .str l, .tuple (os.map PyData.int)]
def opD : Rw → PyData
  | set _ os => .tuple (os.map PyData.int)
  | _ => .none
end Rw
def rw (rs : Rs) (i : Nat) : Rw := rs.getD i (.leaf 0)
theorem rw_of {rs : Rs} {i : Nat} {r : Rw} (h : rs[i]? = some r) : rw rs i = r := by
  unfold rw
  rw [List.getD_eq_getElem?_getD, h]
  rfl
theorem rw_at {rs : Rs} {i : Nat} (h : i < rs.length) : rs[i]? = some (rw rs i) := by
  rw [List.getElem?_eq_getElem h, rw_of (List.getElem?_eq_getElem h)]
def vls (rs : Rs) : Nat → List Int
  | 0 => []
  | i + 1 => vls rs i ++ (rw rs i).val
def plk (rs : Rs) : Nat → List (Key × V)
  | 0 => []
  | i + 1 => plk rs i ++ (rw rs i).val.map fun n => (Sum.inl n, V.int (i : Nat))
def stp (rs : Rs) : Nat → List Nat
  | 0 => []
  | i + 1 => stp rs i ++ if (rw rs i).isStop then [i] else []
def lbls (rs : Rs) : Nat → List Str
  | 0 => []
  | i + 1 => lbls rs i ++ if (rw rs i).isStop then [(rw rs i).lab] else []
def putAll (acc : List (Key × V)) (i : Nat) (os : List Int) : List (Key × V) := os.foldl (fun a v => putK a (Sum.inl v) (.int (i : Nat))) acc
def nk (rs : Rs) : Nat → List (Key × V)
  | 0 => []
  | i + 1 => putAll (nk rs i) i (rw rs i).need
def nkA (rs : Rs) (out : List Int) : List (Key × V) := putAll (nk rs rs.length) rs.length out
abbrev vlA (rs : Rs) : List Int := vls rs rs.length
abbrev plA (rs : Rs) : List (Key × V) := plk rs rs.length
abbrev stA (rs : Rs) : List Nat := stp rs rs.length
def RowOk (vs : List Int) : Rw → Prop
  | .leaf n => n ∉ vs
  | .set n os => n ∉ vs ∧ ∀ o ∈ os, o ∈ vs
  | .use os => ∀ o ∈ os, o ∈ vs
  | .stop _ os => ∀ o ∈ os, o ∈ vs
def IOk (n : Int) : Prop := 0 ≤ n ∧ n < 100000000000000000000000000000
/-- sizes of a row -/
structure RwZ (r : Rw) : Prop where
  val : ∀ n ∈ r.val, IOk n
  opl : r.ops.length ≤ 3
  op : ∀ n ∈ r.ops, IOk n
  lab : r.lab.length ≤ 20
  ok : PyData.strOk r.lab = true
structure RsOk (rs : Rs) : Prop where
  row : ∀ i, i < rs.length → RowOk (vls rs i) (rw rs i)
  z : ∀ i, i < rs.length → RwZ (rw rs i)
  len : rs.length ≤ 30
/-! ### what is set -/
theorem mem_vls {rs : Rs} {n : Int} : ∀ {i : Nat}, n ∈ vls rs i ↔ ∃ j, j < i ∧ n ∈ (rw rs j).val
  | 0 => by simp [vls]
  | i + 1 => by
    rw [vls, List.mem_append, mem_vls]
    constructor
    · rintro (⟨j, hj, h⟩ | h)
      · exact ⟨j, by omega, h⟩
      · exact ⟨i, by omega, h⟩
    · rintro ⟨j, hj, h⟩
      by_cases e : j = i
      · exact .inr (e ▸ h)
      · exact .inl ⟨j, by omega, h⟩
theorem vls_mono {rs : Rs} {n : Int} {i j : Nat} (h : n ∈ vls rs i) (hj : i ≤ j) : n ∈ vls rs j := by
  obtain ⟨l, hl, e⟩ := mem_vls.mp h
  exact mem_vls.mpr ⟨l, by omega, e⟩
theorem val_len (r : Rw) : r.val.length ≤ 1 := by cases r <;> simp [Rw.val]
theorem vls_len (rs : Rs) : ∀ i, (vls rs i).length ≤ i
  | 0 => Nat.le_refl _
  | i + 1 => by
    rw [vls, List.length_append]
    have := vls_len rs i
    have := val_len (rw rs i)
    omega
theorem plk_keys (rs : Rs) : ∀ i, (plk rs i).map (·.1) = (vls rs i).map Sum.inl
  | 0 => rfl
  | i + 1 => by
    rw [plk, vls, List.map_append, List.map_append, plk_keys rs i, List.map_map]
    rfl
theorem plk_len (rs : Rs) (i : Nat) : (plk rs i).length = (vls rs i).length := by
  have := congrArg List.length (plk_keys rs i)
  rwa [List.length_map, List.length_map] at this
theorem valV_none {kvs : List (Key × V)} {k : Key} (h : k ∉ kvs.map (·.1)) : valV kvs k = none := by
  induction kvs with
  | nil => rfl
  | cons p r ih =>
    rw [List.map_cons, List.mem_cons, not_or] at h
    rw [valV_neg fun e => h.1 e.symm]
    exact ih h.2
theorem plk_none {rs : Rs} {i : Nat} {n : Int} (h : n ∉ vls rs i) : valV (plk rs i) (Sum.inl n) = none := valV_none (by
  rw [plk_keys]
  intro z
  obtain ⟨m, hm, e⟩ := List.mem_map.mp z
  exact h (Sum.inl.inj e ▸ hm))
theorem val_app {a b : List (Key × V)} {k : Key} : valV (a ++ b) k = (valV a k).or (valV b k) := by
  unfold valV
  rw [List.find?_append]
  cases a.find? fun kv => decide (kv.1 = k) <;> rfl
theorem val_row {r : Rw} {n : Int} (h : n ∈ r.val) : r.val = [n] := by
  cases r <;> simp_all [Rw.val]
theorem plk_some {rs : Rs} {n : Int} : ∀ {i : Nat}, n ∈ vls rs i → ∃ j, j < i ∧ n ∈ (rw rs j).val ∧ valV (plk rs i) (Sum.inl n) = some (.int (j : Nat))
  | 0, h => by cases h
  | i + 1, h => by
    by_cases c : n ∈ vls rs i
    · obtain ⟨j, hj, hv, e⟩ := plk_some c
      refine ⟨j, by omega, hv, ?_⟩
      rw [plk, val_app, e]
      rfl
    · rw [vls, List.mem_append] at h
      have h := h.resolve_left c
      refine ⟨i, by omega, h, ?_⟩
      rw [plk, val_app, plk_none c, val_row h]
      show valV [(Sum.inl n, V.int (i : Nat))] (Sum.inl n) = _
      rw [valV_pos rfl]
theorem plk_is {rs : Rs} {n : Int} {i : Nat} : (valV (plk rs i) (Sum.inl n)).isSome = decide (n ∈ vls rs i) := by
  by_cases c : n ∈ vls rs i
  · obtain ⟨j, _, _, e⟩ := plk_some c
    rw [e, decide_eq_true c]
    rfl
  · rw [plk_none c, decide_eq_false c]
    rfl
theorem plk_put {rs : Rs} {i : Nat} {n : Int} (hn : n ∉ vls rs i) (hv : (rw rs i).val = [n]) : putK (plk rs i) (Sum.inl n) (.int (i : Nat)) = plk rs (i + 1) := by
  rw [putK_new _ (plk_none hn), plk, hv]
  rfl
theorem plk_no {rs : Rs} {i : Nat} (hv : (rw rs i).val = []) : plk rs (i + 1) = plk rs i := by
  rw [plk, hv]
  exact List.append_nil _
/-! ### stops -/
theorem stp_lt {rs : Rs} {s : Nat} : ∀ {i : Nat}, s ∈ stp rs i → s < i ∧ (rw rs s).isStop = true
  | 0, h => by cases h
  | i + 1, h => by
    rw [stp, List.mem_append] at h
    rcases h with h | h
    · have := stp_lt h
      exact ⟨by omega, this.2⟩
    · split at h
      · rename_i c
        cases List.mem_singleton.mp h
        exact ⟨by omega, c⟩
      · cases h
theorem stp_len (rs : Rs) : ∀ i, (stp rs i).length ≤ i
  | 0 => Nat.le_refl _
  | i + 1 => by
    rw [stp, List.length_append]
    have := stp_len rs i
    split
    · simp only [List.length_singleton]; omega
    · simp only [List.length_nil]; omega
theorem lbls_eq (rs : Rs) : ∀ i, lbls rs i = (stp rs i).map fun s => (rw rs s).lab
  | 0 => rfl
  | i + 1 => by
    rw [lbls, stp, List.map_append, lbls_eq rs i]
    split <;> rfl
/-! ### needs -/
theorem putAll_snoc (acc : List (Key × V)) (i : Nat) (os : List Int) (v : Int) : putAll acc i (os ++ [v]) = putK (putAll acc i os) (Sum.inl v) (.int (i : Nat)) := by
  unfold putAll
  rw [List.foldl_append]
  rfl
theorem putAll_len (i : Nat) (os : List Int) : ∀ acc : List (Key × V), (putAll acc i os).length ≤ acc.length + os.length := by
  induction os with
  | nil => exact fun acc => Nat.le_refl _
  | cons v os ih =>
    intro acc
    have := ih (putK acc (Sum.inl v) (.int (i : Nat)))
    have := length_putK acc (Sum.inl v) (.int (i : Nat))
    show (putAll (putK acc _ _) i os).length ≤ acc.length + (os.length + 1)
    omega
theorem need_le (r : Rw) : r.need.length ≤ r.ops.length := by cases r <;> simp [Rw.need, Rw.ops]
theorem nk_len {rs : Rs} (h : RsOk rs) : ∀ i, i ≤ rs.length → (nk rs i).length ≤ 3 * i
  | 0, _ => Nat.le_refl _
  | i + 1, hi => by
    rw [nk]
    have := putAll_len i (rw rs i).need (nk rs i)
    have := nk_len h i (by omega)
    have := need_le (rw rs i)
    have := (h.z i (by omega)).opl
    omega
def AllInt (kvs : List (Key × V)) : Prop := ∀ k v, valV kvs k = some v → ∃ j : Int, v = .int j
theorem putAll_int (i : Nat) (os : List Int) : ∀ {acc : List (Key × V)}, AllInt acc → AllInt (putAll acc i os) := by
  induction os with
  | nil => exact fun h => h
  | cons o os ih =>
    intro acc h
    refine ih (acc := putK acc (Sum.inl o) (.int (i : Nat))) fun k v e => ?_
    rw [valV_put] at e
    split at e
    · exact ⟨_, (Option.some.inj e).symm⟩
    · exact h k v e
theorem nk_int (rs : Rs) : ∀ i, AllInt (nk rs i)
  | 0 => fun k v e => by cases e
  | i + 1 => putAll_int _ _ (nk_int rs i)
theorem nkA_int (rs : Rs) (out : List Int) : AllInt (nkA rs out) := putAll_int _ _ (nk_int rs _)
/-! ### live -/
def iV : V → Int
  | .int j => j
  | _ => -1
def plc (rs : Rs) (n : Int) : Int := iV ((valV (plA rs) (Sum.inl n)).getD .non)
def nd (rs : Rs) (out : List Int) (n : Int) : Int := iV ((valV (nkA rs out) (Sum.inl n)).getD (.int (-1)))
theorem nd_eq (rs : Rs) (out : List Int) (n : Int) : (valV (nkA rs out) (Sum.inl n)).getD (.int (-1)) = .int (nd rs out n) := by
  unfold nd
  cases e : valV (nkA rs out) (Sum.inl n) with
  | none => rfl
  | some v =>
    obtain ⟨j, rfl⟩ := nkA_int rs out _ _ e
    rfl
theorem plc_eq {rs : Rs} {n : Int} (h : n ∈ vlA rs) : ∃ j : Nat, j < rs.length ∧ plc rs n = j ∧ n ∈ (rw rs j).val ∧ valV (plA rs) (Sum.inl n) = some (.int (plc rs n)) := by
  obtain ⟨j, hj, hv, e⟩ := plk_some h
  have p : plc rs n = j := by
    unfold plc plA
    rw [e]
    rfl
  exact ⟨j, hj, p, hv, by unfold plA; rw [p, e]⟩
def spt (rs : Rs) (k : Nat) : Nat := (stA rs).getD k 0
theorem spt_at {rs : Rs} {k : Nat} (h : k < (stA rs).length) : (stA rs)[k]? = some (spt rs k) := by
  unfold spt
  rw [List.getD_eq_getElem?_getD, List.getElem?_eq_getElem h]
  rfl
theorem spt_stop {rs : Rs} {k : Nat} (h : k < (stA rs).length) : spt rs k < rs.length ∧ (rw rs (spt rs k)).isStop = true := stp_lt (List.mem_of_getElem? (spt_at h))
def pres (rs : Rs) (n : Int) (k : Nat) : Bool := decide (plc rs n < (spt rs k : Int))
def live (rs : Rs) (out : List Int) (n : Int) (k : Nat) : Bool := pres rs n k && decide ((spt rs k : Int) < nd rs out n)
/-! ### values are different -/
theorem row_uniq {rs : Rs} (h : RsOk rs) {n : Int} : ∀ {i j : Nat}, i < rs.length → j < rs.length → n ∈ (rw rs i).val → n ∈ (rw rs j).val → i = j := by
  have key : ∀ {i j : Nat}, i < j → j < rs.length → n ∈ (rw rs i).val → ¬ n ∈ (rw rs j).val := by
    intro i j hij hj hi hn
    have hv : n ∈ vls rs j := mem_vls.mpr ⟨i, hij, hi⟩
    have ro := h.row j hj
    cases e : rw rs j with
    | leaf m =>
      rw [e] at ro hn
      cases List.mem_singleton.mp hn
      exact ro hv
    | set m os =>
      rw [e] at ro hn
      cases List.mem_singleton.mp hn
      exact ro.1 hv
    | use os => rw [e] at hn; cases hn
    | stop l os => rw [e] at hn; cases hn
  intro i j hi hj h1 h2
  rcases Nat.lt_trichotomy i j with c | c | c
  · exact absurd h2 (key c hj h1)
  · exact c
  · exact absurd h1 (key c hi h2)
theorem vls_nd {rs : Rs} (h : RsOk rs) : ∀ i, i ≤ rs.length → (vls rs i).Nodup
  | 0, _ => List.nodup_nil
  | i + 1, hi => by
    rw [vls]
    have ih := vls_nd h i (by omega)
    have ro := h.row i (by omega)
    cases e : rw rs i with
    | leaf m =>
      rw [e] at ro
      exact List.nodup_append.mpr ⟨ih, by simp [Rw.val], fun a ha b hb => by cases List.mem_singleton.mp hb; exact fun z => ro (z ▸ ha)⟩
    | set m os =>
      rw [e] at ro
      exact List.nodup_append.mpr ⟨ih, by simp [Rw.val], fun a ha b hb => by cases List.mem_singleton.mp hb; exact fun z => ro.1 (z ▸ ha)⟩
    | use os => simpa [Rw.val] using ih
    | stop l os => simpa [Rw.val] using ih
theorem vls_ok {rs : Rs} (h : RsOk rs) {n : Int} {i : Nat} (hi : i ≤ rs.length) (hn : n ∈ vls rs i) : IOk n := by
  obtain ⟨j, hj, e⟩ := mem_vls.mp hn
  exact (h.z j (by omega)).val n e
/-! ### other rows -/
theorem vls_congr {rs rs' : Rs} : ∀ {i : Nat}, (∀ j, j < i → (rw rs j).val = (rw rs' j).val) → vls rs i = vls rs' i
  | 0, _ => rfl
  | i + 1, h => by rw [vls, vls, vls_congr fun j hj => h j (by omega), h i (by omega)]
theorem RsOk.take {rs : Rs} (h : RsOk rs) (n : Nat) : RsOk (rs.take n) := by
  have e : ∀ i, i < (rs.take n).length → rw (rs.take n) i = rw rs i := fun i hi => by
    rw [List.length_take] at hi
    refine rw_of ?_
    rw [List.getElem?_take_of_lt (by omega)]
    exact rw_at (by omega)
  refine ⟨fun i hi => ?_, fun i hi => ?_, ?_⟩
  · rw [e i hi, vls_congr fun j hj => congrArg Rw.val (e j (by omega))]
    rw [List.length_take] at hi
    exact h.row i (by omega)
  · rw [e i hi]
    rw [List.length_take] at hi
    exact h.z i (by omega)
  · rw [List.length_take]
    have := h.len
    omega
theorem rw_app {rs : Rs} {r : Rw} {i : Nat} (hi : i < rs.length) : rw (rs ++ [r]) i = rw rs i := rw_of (by rw [List.getElem?_append_left hi]; exact rw_at hi)
theorem rw_last {rs : Rs} {r : Rw} : rw (rs ++ [r]) rs.length = r := rw_of (by rw [List.getElem?_append_right (Nat.le_refl _), Nat.sub_self]; rfl)
theorem vls_app {rs : Rs} {r : Rw} {i : Nat} (hi : i ≤ rs.length) : vls (rs ++ [r]) i = vls rs i := vls_congr fun j hj => congrArg Rw.val (rw_app (by omega))
theorem RsOk.snoc {rs : Rs} (h : RsOk rs) {r : Rw} (hr : RowOk (vlA rs) r) (hz : RwZ r) (hl : rs.length < 30) : RsOk (rs ++ [r]) := by
  refine ⟨fun i hi => ?_, fun i hi => ?_, ?_⟩
  · rw [List.length_append, List.length_singleton] at hi
    by_cases c : i = rs.length
    · subst c
      rw [rw_last, vls_app (Nat.le_refl _)]
      exact hr
    · rw [rw_app (by omega), vls_app (by omega)]
      exact h.row i (by omega)
  · rw [List.length_append, List.length_singleton] at hi
    by_cases c : i = rs.length
    · subst c
      rw [rw_last]
      exact hz
    · rw [rw_app (by omega)]
      exact h.z i (by omega)
  · rw [List.length_append, List.length_singleton]
    omega
theorem vlA_snoc {rs : Rs} {r : Rw} : vlA (rs ++ [r]) = vlA rs ++ r.val := by
  unfold vlA
  rw [List.length_append, List.length_singleton, vls, vls_app (Nat.le_refl _), rw_last]
theorem RsOk.set {rs : Rs} (h : RsOk rs) {a : Nat} (ha : a < rs.length) {r : Rw} (hv : r.val = (rw rs a).val) (hr : RowOk (vls rs a) r) (hz : RwZ r) : RsOk (rs.set a r) := by
  have e : ∀ i, rw (rs.set a r) i = if i = a then r else rw rs i := fun i => by
    by_cases c : i = a
    · subst c
      rw [if_pos rfl]
      exact rw_of (by rw [List.getElem?_set_self ha])
    · rw [if_neg c]
      unfold rw
      rw [List.getD_eq_getElem?_getD, List.getD_eq_getElem?_getD, List.getElem?_set_ne fun z => c z.symm]
  have ev : ∀ i, vls (rs.set a r) i = vls rs i := fun i => vls_congr fun j _ => by
    rw [e]
    split
    · rename_i c
      rw [c, hv]
    · rfl
  refine ⟨fun i hi => ?_, fun i hi => ?_, ?_⟩
  · rw [ev, e]
    rw [List.length_set] at hi
    split
    · rename_i c
      rw [c]
      exact hr
    · exact h.row i hi
  · rw [e]
    rw [List.length_set] at hi
    split
    · exact hz
    · exact h.z i hi
  · rw [List.length_set]
    exact h.len
theorem vlA_set {rs : Rs} {a : Nat} (ha : a < rs.length) {r : Rw} (hv : r.val = (rw rs a).val) : vlA (rs.set a r) = vlA rs := by
  unfold vlA
  rw [List.length_set]
  refine vls_congr fun j _ => ?_
  by_cases c : j = a
  · subst c
    rw [rw_of (by rw [List.getElem?_set_self ha]), hv]
  · unfold rw
    rw [List.getD_eq_getElem?_getD, List.getD_eq_getElem?_getD, List.getElem?_set_ne fun z => c z.symm]
theorem vlA_take {rs : Rs} {n : Nat} (hn : n ≤ rs.length) : vlA (rs.take n) = vls rs n := by
  unfold vlA
  rw [List.length_take, Nat.min_eq_left hn]
  refine vls_congr fun j hj => congrArg Rw.val (rw_of ?_)
  rw [List.getElem?_take_of_lt hj]
  exact rw_at (by omega)
def LabOk (rs : Rs) : Prop := ∀ r ∈ rs, r.lab.length ≤ 6
end ST

set_option Elab.async false
set_option linter.all false
set_option maxRecDepth 100000
set_option maxHeartbeats 2000000
/-! LLDeep: a pair of ints in a list or a tuple of such. -/
namespace LL
open PySem PySem.Spec PyProof.Rows L2
abbrev IP := Int × Int
def PrV (H : Hp) (v : V) (p : IP) : Prop := ∃ t, v = .ref t ∧ H t = some (.tup [.int p.1, .int p.2])
theorem PrV.same {H H' : Hp} {v : V} {p : IP} (h : PrV H v p) (s : Same H H') : PrV H' v p := let ⟨t, e, x⟩ := h; ⟨t, e, s _ _ x⟩
structure Prs (H : Hp) (vs : List V) (ps : List IP) : Prop where
  len : vs.length = ps.length
  at_ : ∀ (i : Nat) v p, vs[i]? = some v → ps[i]? = some p → PrV H v p
theorem Prs.same {H H' : Hp} {vs : List V} {ps : List IP} (h : Prs H vs ps) (s : Same H H') : Prs H' vs ps := ⟨h.len, fun i v p e1 e2 => (h.at_ i v p e1 e2).same s⟩
def PsAt (H : Hp) (a : Addr) (ps : List IP) : Prop := ∃ vs, Lt H a vs ∧ Prs H vs ps
theorem PsAt.same {H H' : Hp} {a : Addr} {ps : List IP} (h : PsAt H a ps) (s : Same H H') : PsAt H' a ps := let ⟨vs, l, r⟩ := h; ⟨vs, l.same s, r.same s⟩
def ipD (p : IP) : PyData := .tuple [.int p.1, .int p.2]
theorem ipD_inj {p q : IP} (h : ipD p = ipD q) : p = q := by
  unfold ipD at h
  simp only [PyData.tuple.injEq, List.cons.injEq, PyData.int.injEq, and_true] at h
  exact Prod.ext h.1 h.2
theorem pn_ip (p : IP) : Pn 1 (ipD p) := fun d hd => by
  rcases List.mem_cons.mp hd with rfl | hd
  · trivial
  · cases List.mem_singleton.mp hd
    trivial
theorem pn_ips (ps : List IP) : Pn 2 (.list (ps.map ipD)) := fun d hd => by
  obtain ⟨p, _, rfl⟩ := List.mem_map.mp hd
  exact pn_ip p
theorem pn_ipt (ps : List IP) : Pn 2 (.tuple (ps.map ipD)) := fun d hd => by
  obtain ⟨p, _, rfl⟩ := List.mem_map.mp hd
  exact pn_ip p
theorem ip_any (ps : List IP) (p : IP) : ((ps.map ipD).any fun z => PyData.eqv z (ipD p)) = decide (p ∈ ps) := by
  rw [List.any_map]
  have e : ∀ q : IP, ((fun z => PyData.eqv z (ipD p)) ∘ ipD) q = decide (q = p) := fun q => by
    show PyData.eqv (ipD q) (ipD p) = _
    by_cases h : q = p
    · rw [decide_eq_true h, (Pn.eqv (pn_ip q) (pn_ip p)).mpr (by rw [h])]
    · rw [decide_eq_false h]
      exact Bool.eq_false_iff.mpr fun z => h (ipD_inj ((Pn.eqv (pn_ip q) (pn_ip p)).mp z))
  rw [show ((fun z => PyData.eqv z (ipD p)) ∘ ipD) = fun q => decide (q = p) from funext e]
  by_cases h : p ∈ ps
  · rw [decide_eq_true h]
    exact List.any_eq_true.mpr ⟨p, h, decide_eq_true rfl⟩
  · rw [decide_eq_false h]
    exact List.any_eq_false.mpr fun q hq z => h (of_decide_eq_true z ▸ hq)
section
variable {K : PySem.W.Frag} {H : Hp}
theorem dp_ip {v : V} {p : IP} (h : PrV H v p) : Dp K H v (ipD p) := by
  obtain ⟨t, rfl, ht⟩ := h
  exact .tup (SqT.of ht) (.cons (.int _) (.cons (.int _) .nil))
theorem dp_ips {vs : List V} {ps : List IP} (h : Prs H vs ps) : DpAll K H vs (ps.map ipD) := dpa_at (by rw [List.length_map]; exact h.len) fun i v d e1 e2 => by
  rw [List.getElem?_map] at e2
  obtain ⟨p, hp, rfl⟩ := Option.map_eq_some_iff.mp e2
  exact dp_ip (h.at_ i v p e1 hp)
end
/-- p in ps -/
def rInP (neg : Bool) : R2 := fun x y H Q => ∃ (p : IP) (a : Addr) (ps : List IP), PrV H x p ∧ y = .ref a ∧ PsAt H a ps ∧ Q (.bl (if neg then !decide (p ∈ ps) else decide (p ∈ ps))) H
section
variable {X : Cx}
theorem op_inP (hu : X.A.units + 65 < cLine) : OpR X (compareOp .In) (rInP false) := by
  intro pins s σ H x y v u Q I rx ry h
  obtain ⟨p, a, ps, hx, rfl, ⟨vs, hl, pr⟩, q⟩ := h
  obtain ⟨as, r1⟩ := Dp.reads I _ x v (dp_ip (K := X.K) hx) rx
  have sd := (pn_ip p).shp (n := 1) (by decide)
  have q : Q (.bl ((ps.map ipD).any fun z => PyData.eqv z (ipD p))) H := by rw [ip_any]; exact q
  rcases hl with hl | hl
  · obtain ⟨bs, r2⟩ := Dp.reads I _ _ u (.lst (SqL.of (K := X.K) hl) (dp_ips pr)) ry
    exact SeqAt.in_list_reads r2 r1 (SeqAt.canLay_of_shaped ((pn_ips ps).shp (n := 2) (by decide))) (SeqAt.canLay_of_shaped sd) (room_in_shaped sd hu) ⟨.bl _, H, I, rfl, q⟩
  · obtain ⟨bs, r2⟩ := Dp.reads I _ _ u (.tup (SqT.of (K := X.K) hl) (dp_ips pr)) ry
    exact SeqAt.in_tuple_reads r2 r1 (SeqAt.canLay_of_shaped ((pn_ipt ps).shp (n := 2) (by decide))) (SeqAt.canLay_of_shaped sd) (room_in_shaped sd hu) ⟨.bl _, H, I, rfl, q⟩
theorem op_notInP (hu : X.A.units + 65 < cLine) : OpR X (compareOp .NotIn) (rInP true) := by
  intro pins s σ H x y v u Q I rx ry h
  obtain ⟨p, a, ps, hx, rfl, ⟨vs, hl, pr⟩, q⟩ := h
  obtain ⟨as, r1⟩ := Dp.reads I _ x v (dp_ip (K := X.K) hx) rx
  have sd := (pn_ip p).shp (n := 1) (by decide)
  have q : Q (.bl (!(ps.map ipD).any fun z => PyData.eqv z (ipD p))) H := by rw [ip_any]; exact q
  rcases hl with hl | hl
  · obtain ⟨bs, r2⟩ := Dp.reads I _ _ u (.lst (SqL.of (K := X.K) hl) (dp_ips pr)) ry
    exact SeqAt.notIn_list_reads r2 r1 (SeqAt.canLay_of_shaped ((pn_ips ps).shp (n := 2) (by decide))) (SeqAt.canLay_of_shaped sd) (room_in_shaped sd hu) ⟨.bl _, H, I, rfl, q⟩
  · obtain ⟨bs, r2⟩ := Dp.reads I _ _ u (.tup (SqT.of (K := X.K) hl) (dp_ips pr)) ry
    exact SeqAt.notIn_tuple_reads r2 r1 (SeqAt.canLay_of_shaped ((pn_ipt ps).shp (n := 2) (by decide))) (SeqAt.canLay_of_shaped sd) (room_in_shaped sd hu) ⟨.bl _, H, I, rfl, q⟩
end
theorem un65 {k : Nat} {A : Around} (hr : Rm k A) : A.units + 65 < cLine := by
  have := hr.r.un
  omega
/-! ### a slice of a list or a tuple -/
def rSlQ (K : PySem.W.Frag) : V → Option Int → Option Int → Hp → VK → Prop := fun x lo hi H Q => rSlL K x lo hi H Q ∨ rSlA K x lo hi H Q
theorem sl_seqA {X : Cx} : SlR X (rSlQ X.K) := sl_list.or sl_tupA
theorem cut_lt {K : PySem.W.Frag} {H : Hp} {a : Addr} {vs : List V} {n : Nat} {Q : VK} (h : Lt H a vs) (hn : n ≤ vs.length) (q : ∀ H' b, Same H H' → Lt H' b (vs.take n) → Q (.ref b) H') : rSlQ K (.ref a) none (some (n : Int)) H Q := by
  rcases h with h | h
  · refine .inl ⟨a, vs, rfl, SqL.of h, fun p hp => ?_⟩
    rw [cutV_to]
    exact q _ p (same_upd hp) (.inl upd_same)
  · have e1 : HT.sIx vs.length 0 none = 0 := rfl
    have e2 : HT.sIx vs.length vs.length (some (n : Int)) = n := by
      show (if (n : Int) < 0 then ((n : Int) + (vs.length : Int)).toNat else min (n : Int).toNat vs.length) = n
      rw [if_neg (by omega)]
      omega
    refine .inr ⟨a, vs, rfl, SqT.of h, fun w => ?_, fun w p hp => ?_⟩
    · rw [e2] at w
      refine q H a Same.rfl' (.inr ?_)
      rw [w.2, List.take_length]
      exact h
    · rw [cutV_to]
      exact q _ p (same_upd hp) (.inr upd_same)
end LL

set_option Elab.async false
set_option linter.all false
set_option maxRecDepth 100000
set_option maxHeartbeats 2000000
/-! M62: what is lost, what is known, plainly. -/
namespace ST
open PySem PySem.Spec PyProof.Rows L2 LL
@[elab_as_elim] theorem rev_ind {p : List Int → Prop} (h0 : p []) (hs : ∀ l a, p l → p (l ++ [a])) (l : List Int) : p l := by
  have key : ∀ r : List Int, p r.reverse := by
    intro r
    induction r with
    | nil => exact h0
    | cons a r ih =>
      rw [List.reverse_cons]
      exact hs _ _ ih
  have := key l.reverse
  rwa [List.reverse_reverse] at this
abbrev Kps := List (Int × Int)
/-- the row of a value -/
def rwv (rs : Rs) (n : Int) : Rw := rw rs (plc rs n).toNat
/-- nothing, or an operand that is lost, tells it -/
def opn (rs : Rs) (lo : List Int) (n : Int) : Bool := match rwv rs n with
  | .set _ os => os.any (· ∈ lo)
  | _ => true
def isLost (rs : Rs) (out : List Int) (kp : Kps) (prev : List Int) (k : Nat) (lo : List Int) (n : Int) : Bool := (opn rs lo n && !decide ((n, (k : Int)) ∈ kp) && !live rs out n k) || decide (n ∈ prev)
/-- what is lost at a stop, of the first values -/
def lostF (rs : Rs) (out : List Int) (kp : Kps) (prev : List Int) (k : Nat) : List Int → List Int
  | l => l.foldl (fun lo n => if isLost rs out kp prev k lo n then lo ++ [n] else lo) []
def prs (rs : Rs) (k : Nat) : List Int := (vlA rs).filter (pres rs · k)
def lostA (rs : Rs) (out : List Int) (kp : Kps) : Nat → List Int
  | 0 => lostF rs out kp [] 0 (prs rs 0)
  | k + 1 => lostF rs out kp (lostA rs out kp k) (k + 1) (prs rs (k + 1))
def prevL (rs : Rs) (out : List Int) (kp : Kps) : Nat → List Int
  | 0 => []
  | k + 1 => lostA rs out kp k
theorem lostA_eq (rs : Rs) (out : List Int) (kp : Kps) (k : Nat) : lostA rs out kp k = lostF rs out kp (prevL rs out kp k) k (prs rs k) := by cases k <;> rfl
theorem lostF_snoc (rs : Rs) (out : List Int) (kp : Kps) (prev : List Int) (k : Nat) (l : List Int) (n : Int) : lostF rs out kp prev k (l ++ [n]) = if isLost rs out kp prev k (lostF rs out kp prev k l) n then lostF rs out kp prev k l ++ [n] else lostF rs out kp prev k l := by
  unfold lostF
  rw [List.foldl_append]
  rfl
theorem lostF_sub {rs : Rs} {out : List Int} {kp : Kps} {prev : List Int} {k : Nat} {n : Int} : ∀ {l : List Int}, n ∈ lostF rs out kp prev k l → n ∈ l := by
  intro l
  induction l using rev_ind with
  | h0 => exact fun h => h
  | hs l m ih =>
    intro h
    rw [lostF_snoc] at h
    split at h
    · rcases List.mem_append.mp h with h | h
      · exact List.mem_append_left _ (ih h)
      · exact List.mem_append_right _ h
    · exact List.mem_append_left _ (ih h)
/-- each of them once: lost just by its own test -/
theorem lostF_mem {rs : Rs} {out : List Int} {kp : Kps} {prev : List Int} {k : Nat} : ∀ {l : List Int}, l.Nodup → ∀ {i : Nat} {n : Int}, l[i]? = some n → (n ∈ lostF rs out kp prev k l ↔ isLost rs out kp prev k (lostF rs out kp prev k (l.take i)) n = true) := by
  intro l
  induction l using rev_ind with
  | h0 => intro _ i n h; simp at h
  | hs l m ih =>
    intro nd i n h
    obtain ⟨nd1, _, nd3⟩ := List.nodup_append.mp nd
    have nm : m ∉ l := fun z => nd3 m z m (List.mem_singleton.mpr rfl) rfl
    by_cases c : i < l.length
    · rw [List.getElem?_append_left c] at h
      have hn : n ∈ l := List.mem_of_getElem? h
      have nnm : n ≠ m := fun z => nm (z ▸ hn)
      rw [List.take_append_of_le_length (by omega), ← ih nd1 h, lostF_snoc]
      split
      · rw [List.mem_append, List.mem_singleton]
        exact ⟨fun z => z.resolve_right nnm, .inl⟩
      · exact Iff.rfl
    · have hi := (List.getElem?_eq_some_iff.mp h).1
      rw [List.length_append, List.length_singleton] at hi
      have ei : i = l.length := by omega
      subst ei
      rw [List.getElem?_append_right (Nat.le_refl _), Nat.sub_self] at h
      cases h
      rw [List.take_left' rfl, lostF_snoc]
      by_cases q : isLost rs out kp prev k (lostF rs out kp prev k l) m = true
      · rw [if_pos q, List.mem_append]
        exact ⟨fun _ => q, fun _ => .inr (List.mem_singleton.mpr rfl)⟩
      · rw [if_neg q]
        exact ⟨fun z => absurd (lostF_sub z) nm, fun z => absurd z q⟩
/-! ### what is known -/
def isKnown (rs : Rs) (out : List Int) (kp : Kps) (k : Nat) (kn : List Int) (n : Int) : Bool := live rs out n k || decide ((n, (k : Int)) ∈ kp) || (match rwv rs n with
  | .set _ os => os.all (· ∈ kn)
  | _ => false)
def knF (rs : Rs) (out : List Int) (kp : Kps) (lost : List Int) (k : Nat) (l : List Int) : List Int := l.foldl (fun kn n => if !decide (n ∈ lost) && isKnown rs out kp k kn n then kn ++ [n] else kn) []
theorem knF_snoc (rs : Rs) (out : List Int) (kp : Kps) (lost : List Int) (k : Nat) (l : List Int) (n : Int) : knF rs out kp lost k (l ++ [n]) = if !decide (n ∈ lost) && isKnown rs out kp k (knF rs out kp lost k l) n then knF rs out kp lost k l ++ [n] else knF rs out kp lost k l := by
  unfold knF
  rw [List.foldl_append]
  rfl
def knA (rs : Rs) (out : List Int) (kp : Kps) : Nat → List Int
  | 0 => knF rs out kp [] 0 (prs rs 0)
  | k + 1 => knF rs out kp ((prs rs k).filter fun n => !decide (n ∈ knA rs out kp k)) (k + 1) (prs rs (k + 1))
def lstA (rs : Rs) (out : List Int) (kp : Kps) : Nat → List Int
  | 0 => []
  | k + 1 => (prs rs k).filter fun n => !decide (n ∈ knA rs out kp k)
theorem knA_eq (rs : Rs) (out : List Int) (kp : Kps) (k : Nat) : knA rs out kp k = knF rs out kp (lstA rs out kp k) k (prs rs k) := by cases k <;> rfl
/-! ### by rows -/
abbrev pj (rs : Rs) (k j : Nat) : List Int := (vls rs j).filter (pres rs · k)
theorem pj_snoc {rs : Rs} {k j : Nat} {n : Int} (hv : (rw rs j).val = [n]) : pj rs k (j + 1) = pj rs k j ++ if pres rs n k then [n] else [] := by
  unfold pj
  rw [vls, hv, List.filter_append]
  cases e : pres rs n k <;> simp [e]
theorem pj_no {rs : Rs} {k j : Nat} (hv : (rw rs j).val = []) : pj rs k (j + 1) = pj rs k j := by
  unfold pj
  rw [vls, hv, List.append_nil]
theorem val_cases (r : Rw) : r.val = [] ∨ ∃ n, r.val = [n] := by
  cases r with
  | leaf n => exact .inr ⟨n, rfl⟩
  | set n os => exact .inr ⟨n, rfl⟩
  | use os => exact .inl rfl
  | stop l os => exact .inl rfl
theorem plc_of {rs : Rs} (ok : RsOk rs) {n : Int} {j : Nat} (hj : j < rs.length) (hv : n ∈ (rw rs j).val) : plc rs n = j := by
  obtain ⟨j', hj', ep, hv', _⟩ := plc_eq (mem_vls.mpr ⟨j, hj, hv⟩)
  rw [ep, row_uniq ok hj' hj hv' hv]
theorem pres_of {rs : Rs} (ok : RsOk rs) {n o : Int} {k j : Nat} (hj : j < rs.length) (hv : n ∈ (rw rs j).val) (ho : o ∈ vls rs j) (hp : pres rs n k = true) : o ∈ pj rs k j := by
  refine List.mem_filter.mpr ⟨ho, ?_⟩
  obtain ⟨i, hi, hi'⟩ := mem_vls.mp ho
  unfold pres at hp ⊢
  have := of_decide_eq_true hp
  rw [plc_of ok hj hv] at this
  rw [plc_of ok (by omega) hi']
  exact decide_eq_true (by omega)
theorem row_ops {vs : List Int} {r : Rw} (h : RowOk vs r) : ∀ o ∈ r.ops, o ∈ vs := by
  cases r with
  | leaf n => exact fun o ho => by cases ho
  | set n os => exact h.2
  | use os => exact h
  | stop l os => exact h
theorem kn_rows {rs : Rs} (ok : RsOk rs) {out : List Int} {kp : Kps} {ls prev : List Int} {k : Nat} (he : ∀ n, n ∈ prs rs k → (n ∈ ls ↔ n ∈ prev)) : ∀ j, j ≤ rs.length → knF rs out kp ls k (pj rs k j) = (pj rs k j).filter fun n => !decide (n ∈ lostF rs out kp prev k (pj rs k j))
  | 0, _ => rfl
  | j + 1, hj => by
    have ih := kn_rows ok (out := out) (kp := kp) he j (by omega)
    rcases val_cases (rw rs j) with hv | ⟨n, hv⟩
    · rw [pj_no hv]
      exact ih
    · have hnv : n ∈ (rw rs j).val := by rw [hv]; exact List.mem_singleton.mpr rfl
      cases hp : pres rs n k with
      | false =>
        rw [pj_snoc hv, hp, if_neg Bool.false_ne_true, List.append_nil]
        exact ih
      | true =>
        rw [pj_snoc hv, hp, if_pos rfl, knF_snoc, lostF_snoc, ih]
        obtain ⟨l, el⟩ : ∃ l, l = pj rs k j := ⟨_, rfl⟩
        obtain ⟨L, eL⟩ : ∃ L, L = lostF rs out kp prev k (pj rs k j) := ⟨_, rfl⟩
        have nl : n ∉ l := fun z => by
          rw [el] at z
          have := (List.mem_filter.mp z).1
          obtain ⟨i, hi, hi'⟩ := mem_vls.mp this
          have := row_uniq ok (by omega) (by omega) hi' hnv
          omega
        have Ll : ∀ x ∈ L, x ∈ l := fun x hx => by
          rw [eL] at hx
          rw [el]
          exact lostF_sub hx
        have ops : ∀ o ∈ (rw rs j).ops, o ∈ l := fun o ho => by
          rw [el]
          exact pres_of ok (by omega) hnv (row_ops (ok.row j (by omega)) o ho) hp
        rw [← eL, ← el]
        have erw : rwv rs n = rw rs j := by
          unfold rwv
          rw [plc_of ok (by omega) hnv, Int.toNat_natCast]
        have key : (!decide (n ∈ ls) && isKnown rs out kp k (l.filter fun n => !decide (n ∈ L)) n) = !isLost rs out kp prev k L n := by
          unfold isKnown isLost opn
          rw [erw]
          have e1 : decide (n ∈ ls) = decide (n ∈ prev) := decide_eq_decide.mpr (he n (by
            have : n ∈ pj rs k rs.length := List.mem_filter.mpr ⟨mem_vls.mpr ⟨j, by omega, hnv⟩, hp⟩
            exact this))
          rw [e1]
          cases er : rw rs j with
          | set m os =>
            rw [er] at ops
            have e2 : (os.all fun x => decide (x ∈ l.filter fun n => !decide (n ∈ L))) = !(os.any fun x => decide (x ∈ L)) := by
              rw [Bool.eq_iff_iff, List.all_eq_true, Bool.not_eq_true', List.any_eq_false]
              refine forall_congr' fun x => forall_congr' fun hx => ?_
              rw [decide_eq_true_iff, List.mem_filter, decide_eq_true_iff, Bool.not_eq_true', decide_eq_false_iff_not]
              exact ⟨fun z => z.2, fun z => ⟨ops x hx, z⟩⟩
            simp only
            rw [e2]
            cases os.any (fun x => decide (x ∈ L)) <;> cases live rs out n k <;> cases decide ((n, (k : Int)) ∈ kp) <;> cases decide (n ∈ prev) <;> rfl
          | leaf m =>
            simp only
            cases live rs out n k <;> cases decide ((n, (k : Int)) ∈ kp) <;> cases decide (n ∈ prev) <;> rfl
          | use os => rw [er] at hnv; cases hnv
          | stop l os => rw [er] at hnv; cases hnv
        rw [key]
        cases q : isLost rs out kp prev k L n with
        | true =>
          rw [if_pos rfl, show (!true) = false from rfl, if_neg Bool.false_ne_true, List.filter_append]
          have e3 : ([n].filter fun x => !decide (x ∈ L ++ [n])) = [] := by
            rw [List.filter_cons_of_neg (by rw [decide_eq_true (List.mem_append_right _ (List.mem_singleton.mpr rfl))]; exact Bool.false_ne_true)]
            rfl
          rw [e3, List.append_nil]
          refine List.filter_congr fun x hx => ?_
          have xn : x ≠ n := fun z => nl (z ▸ hx)
          have : decide (x ∈ L ++ [n]) = decide (x ∈ L) := decide_eq_decide.mpr (by
            rw [List.mem_append, List.mem_singleton]
            exact ⟨fun z => z.resolve_right xn, .inl⟩)
          rw [this]
        | false =>
          rw [if_neg Bool.false_ne_true, show (!false) = true from rfl, if_pos rfl, List.filter_append]
          rw [List.filter_cons_of_pos (by rw [decide_eq_false fun z => nl (Ll n z)]; rfl)]
          rfl
theorem kn_is {rs : Rs} (ok : RsOk rs) (out : List Int) (kp : Kps) : ∀ k, knA rs out kp k = (prs rs k).filter fun n => !decide (n ∈ lostA rs out kp k)
  | 0 => kn_rows ok (ls := []) (prev := []) (fun n _ => Iff.rfl) rs.length (Nat.le_refl _)
  | k + 1 => by
    have ih := kn_is ok out kp k
    refine kn_rows ok (ls := (prs rs k).filter fun n => !decide (n ∈ knA rs out kp k)) (prev := lostA rs out kp k) (fun n _ => ?_) rs.length (Nat.le_refl _)
    rw [List.mem_filter, ih, Bool.not_eq_true', decide_eq_false_iff_not, List.mem_filter, Bool.not_eq_true', decide_eq_false_iff_not]
    constructor
    · rintro ⟨h1, h2⟩
      exact Decidable.byContradiction fun z => h2 ⟨h1, z⟩
    · intro h
      refine ⟨?_, fun z => z.2 h⟩
      rw [lostA_eq] at h
      exact lostF_sub h
theorem lost_sub {rs : Rs} {out : List Int} {kp : Kps} {k : Nat} {n : Int} (h : n ∈ lostA rs out kp k) : n ∈ prs rs k := by
  rw [lostA_eq] at h
  exact lostF_sub h
/-! ### more keeps -/
theorem lost_mono_rows {rs : Rs} {out : List Int} {kp kp' : Kps} {prev prev' : List Int} {k : Nat} (hk : ∀ p ∈ kp, p ∈ kp') (hp : ∀ n ∈ prev', n ∈ prev) : ∀ {l : List Int}, ∀ n ∈ lostF rs out kp' prev' k l, n ∈ lostF rs out kp prev k l := by
  intro l
  induction l using rev_ind with
  | h0 => exact fun n h => h
  | hs l m ih =>
    have hm : isLost rs out kp' prev' k (lostF rs out kp' prev' k l) m = true → isLost rs out kp prev k (lostF rs out kp prev k l) m = true := by
      unfold isLost
      rw [Bool.or_eq_true, Bool.or_eq_true, Bool.and_eq_true, Bool.and_eq_true, Bool.and_eq_true, Bool.and_eq_true, decide_eq_true_iff, decide_eq_true_iff]
      rintro (⟨⟨h1, h2⟩, h3⟩ | h)
      · refine .inl ⟨⟨?_, ?_⟩, h3⟩
        · unfold opn at h1 ⊢
          cases e : rwv rs m with
          | set m' os =>
            rw [e] at h1
            obtain ⟨o, ho, hl⟩ := List.any_eq_true.mp h1
            exact List.any_eq_true.mpr ⟨o, ho, decide_eq_true (ih o (of_decide_eq_true hl))⟩
          | leaf m' => rfl
          | use os => rfl
          | stop l os => rfl
        · rw [Bool.not_eq_true', decide_eq_false_iff_not] at h2 ⊢
          exact fun z => h2 (hk _ z)
      · exact .inr (hp m h)
    intro n h
    rw [lostF_snoc] at h ⊢
    by_cases c : isLost rs out kp' prev' k (lostF rs out kp' prev' k l) m = true
    · rw [if_pos c] at h
      rw [if_pos (hm c)]
      rcases List.mem_append.mp h with h | h
      · exact List.mem_append_left _ (ih n h)
      · exact List.mem_append_right _ h
    · rw [if_neg c] at h
      split
      · exact List.mem_append_left _ (ih n h)
      · exact ih n h
theorem lost_mono {rs : Rs} {out : List Int} {kp kp' : Kps} (hk : ∀ p ∈ kp, p ∈ kp') : ∀ k, ∀ n ∈ lostA rs out kp' k, n ∈ lostA rs out kp k
  | 0 => lost_mono_rows hk fun n h => by cases h
  | k + 1 => lost_mono_rows hk (lost_mono hk k)
/-! ### the first that is missing -/
def ask (rs : Rs) (k : Nat) : List Int := (rw rs (spt rs k)).ops
theorem ask_prs {rs : Rs} (ok : RsOk rs) {k : Nat} (hk : k < (stA rs).length) {n : Int} (h : n ∈ ask rs k) : n ∈ prs rs k := by
  obtain ⟨sl, ss⟩ := spt_stop hk
  have hn := row_ops (ok.row _ sl) n h
  obtain ⟨i, hi, hi'⟩ := mem_vls.mp hn
  refine List.mem_filter.mpr ⟨vls_mono hn (by omega), ?_⟩
  unfold pres
  rw [plc_of ok (by omega) hi']
  exact decide_eq_true (by omega)
structure FM (rs : Rs) (out : List Int) (kp : Kps) (k : Nat) (v : Int) : Prop where
  hk : k < (stA rs).length
  ha : v ∈ ask rs k
  hl : v ∈ lostA rs out kp k
  be : ∀ j, j < k → ∀ x ∈ ask rs j, x ∉ lostA rs out kp j
  le : ∀ x ∈ ask rs k, x ∈ lostA rs out kp k → v ≤ x
theorem FM.uniq {rs : Rs} {out : List Int} {kp : Kps} {k k' : Nat} {v v' : Int} (h : FM rs out kp k v) (h' : FM rs out kp k' v') : k = k' ∧ v = v' := by
  have e : k = k' := by
    rcases Nat.lt_trichotomy k k' with c | c | c
    · exact absurd h.hl (h'.be k c v h.ha)
    · exact c
    · exact absurd h'.hl (h.be k' c v' h'.ha)
  subst e
  exact ⟨rfl, Int.le_antisymm (h.le v' h'.ha h'.hl) (h'.le v h.ha h.hl)⟩
theorem FM.no {rs : Rs} {out : List Int} {kp : Kps} {k : Nat} {v : Int} (h : FM rs out kp k v) : ¬ ∀ j, j < (stA rs).length → ∀ x ∈ ask rs j, x ∉ lostA rs out kp j := fun z => z k h.hk v h.ha h.hl
end ST

set_option Elab.async false
set_option linter.all false
set_option maxRecDepth 100000
set_option maxHeartbeats 2000000
/-! O61: rows in the heap; what is a row; places, needs. -/
namespace K62
open PySem PySem.Spec PyProof.Rows L2 LL ST
def top (i : Nat) : Stmt := PySem.Challenge.pw_leastlog_k62_known_by_keeps.main.body.getD i (.Pass ⟨0, 0, 0, 0⟩)
abbrev s_is_integer : Stmt := top 22
abbrev n_is_integer : List Str := ["thing"]
theorem sc_is_integer : FnScope n_is_integer ["thing"] (defScope s_is_integer) := ⟨rfl, rfl, rfl, by decide +kernel, rfl, by decide +kernel, by decide +kernel⟩
abbrev s_is_new : Stmt := top 23
abbrev n_is_new : List Str := ["thing", "places"]
theorem sc_is_new : FnScope n_is_new ["thing", "places"] (defScope s_is_new) := ⟨rfl, rfl, rfl, by decide +kernel, rfl, by decide +kernel, by decide +kernel⟩
abbrev s_are_set : Stmt := top 24
abbrev n_are_set : List Str := ["things", "places", "thing"]
theorem sc_are_set : FnScope n_are_set ["things", "places"] (defScope s_are_set) := ⟨rfl, rfl, rfl, by decide +kernel, rfl, by decide +kernel, by decide +kernel⟩
abbrev s_is_row : Stmt := top 25
abbrev n_is_row : List Str := ["thing", "places"]
theorem sc_is_row : FnScope n_is_row ["thing", "places"] (defScope s_is_row) := ⟨rfl, rfl, rfl, by decide +kernel, rfl, by decide +kernel, by decide +kernel⟩
abbrev s_places_in : Stmt := top 26
abbrev n_places_in : List Str := ["rows", "places", "position", "row"]
theorem sc_places_in : FnScope n_places_in ["rows"] (defScope s_places_in) := ⟨rfl, rfl, rfl, by decide +kernel, rfl, by decide +kernel, by decide +kernel⟩
abbrev s_check_out : Stmt := top 27
abbrev n_check_out : List Str := ["out", "places", "position", "thing"]
theorem sc_check_out : FnScope n_check_out ["out", "places"] (defScope s_check_out) := ⟨rfl, rfl, rfl, by decide +kernel, rfl, by decide +kernel, by decide +kernel⟩
abbrev s_needed_by : Stmt := top 28
abbrev n_needed_by : List Str := ["row"]
theorem sc_needed_by : FnScope n_needed_by ["row"] (defScope s_needed_by) := ⟨rfl, rfl, rfl, by decide +kernel, rfl, by decide +kernel, by decide +kernel⟩
abbrev s_last_needs : Stmt := top 29
abbrev n_last_needs : List Str := ["rows", "out", "found", "position", "row", "value"]
theorem sc_last_needs : FnScope n_last_needs ["rows", "out"] (defScope s_last_needs) := ⟨rfl, rfl, rfl, by decide +kernel, rfl, by decide +kernel, by decide +kernel⟩
structure Tx (K : PySem.W.Frag) (mg : Str → Option Value) (C : Addr) : Prop where
  g_Stretch : mg "Stretch" = some (.ref C)
  g_LEAF : ∃ t, mg "LEAF" = some (.str "leaf" t)
  g_SET : ∃ t, mg "SET" = some (.str "set" t)
  g_USE : ∃ t, mg "USE" = some (.str "use" t)
  g_STOP : ∃ t, mg "STOP" = some (.str "stop" t)
  cl : Cls K C
  a1 : NoAttr K C "value_places"
  a2 : NoAttr K C "own_rows"
  a3 : NoAttr K C "own_out"
  a4 : NoAttr K C "stop_places"
  a5 : NoAttr K C "need_places"
  ca : PySem.W.findIn K (.ref C) "__class__" = some (some (.builtin "object.__class__"))
  cn : PySem.W.specialIn K (.builtin "object.__class__") "__get__" = some (some (.builtin "getset_descriptor.__get__"))
  ct : PySem.W.takesIn K (.builtin "object.__class__") = some true
  cm : PySem.W.mroIn K C (.type "object") = some true
  kC : PySem.W.kitOne K (.ref C) (.ref C) = some true
  kL : PySem.W.kitOne K (.type "list") (.ref C) = some false
  kI : PySem.W.kitOne K (.type "int") (.ref C) = some false
  kS : PySem.W.kitOne K (.type "str") (.ref C) = some false
  ne : PySem.W.findIn K (.ref C) "__ne__" = some (some (.builtin "object.__ne__"))
  fC : PySem.W.notFirst K C (.ref C) = true
  fL : PySem.W.notFirst K C (.type "list") = true
  fI : PySem.W.notFirst K C (.type "int") = true
  fS : PySem.W.notFirst K C (.type "str") = true
  n_isinstance : mg "isinstance" = none
  n_int : mg "int" = none
  n_bool : mg "bool" = none
  n_abs : mg "abs" = none
  n_str : mg "str" = none
  n_repr : mg "repr" = none
  n_range : mg "range" = none
  n_len : mg "len" = none
  n_max : mg "max" = none
  n_min : mg "min" = none
  n_divmod : mg "divmod" = none
  n_all : mg "all" = none
  n_list : mg "list" = none
  n_tuple : mg "tuple" = none
  n_sorted : mg "sorted" = none
  n_enumerate : mg "enumerate" = none
/-! ### rows in the heap -/
def OpT (H : Hp) (u : V) (os : List Int) : Prop := ∃ o, u = .ref o ∧ H o = some (.tup (os.map V.int))
theorem OpT.same {H H' : Hp} {u : V} {os : List Int} (h : OpT H u os) (s : Same H H') : OpT H' u os := let ⟨o, e, x⟩ := h; ⟨o, e, s _ _ x⟩
def RwAt (H : Hp) (v : V) : Rw → Prop
  | .leaf n => ∃ t, v = .ref t ∧ H t = some (.tup [.str "leaf", .int n])
  | .set n os => ∃ t u, v = .ref t ∧ H t = some (.tup [.str "set", .int n, u]) ∧ OpT H u os
  | .use os => ∃ t u, v = .ref t ∧ H t = some (.tup [.str "use", u]) ∧ OpT H u os
  | .stop l os => ∃ t u, v = .ref t ∧ H t = some (.tup [.str "stop", .str l, u]) ∧ OpT H u os
theorem RwAt.same {H H' : Hp} {v : V} {r : Rw} (h : RwAt H v r) (s : Same H H') : RwAt H' v r := by
  cases r with
  | leaf n => exact let ⟨t, e, x⟩ := h; ⟨t, e, s _ _ x⟩
  | set n os => exact let ⟨t, u, e, x, o⟩ := h; ⟨t, u, e, s _ _ x, o.same s⟩
  | use os => exact let ⟨t, u, e, x, o⟩ := h; ⟨t, u, e, s _ _ x, o.same s⟩
  | stop l os => exact let ⟨t, u, e, x, o⟩ := h; ⟨t, u, e, s _ _ x, o.same s⟩
structure Rws (H : Hp) (vs : List V) (rs : Rs) : Prop where
  len : vs.length = rs.length
  at_ : ∀ i v, vs[i]? = some v → RwAt H v (rw rs i)
theorem Rws.same {H H' : Hp} {vs : List V} {rs : Rs} (h : Rws H vs rs) (s : Same H H') : Rws H' vs rs := ⟨h.len, fun i v e => (h.at_ i v e).same s⟩
theorem Rws.get {H : Hp} {vs : List V} {rs : Rs} {i : Nat} (f : Rws H vs rs) (hi : i < rs.length) : ∃ v, atI vs (i : Int) = some v ∧ vs[i]? = some v ∧ RwAt H v (rw rs i) := by
  have hi' : i < vs.length := by rw [f.len]; exact hi
  exact ⟨vs[i], atI_nat (List.getElem?_eq_getElem hi'), List.getElem?_eq_getElem hi', f.at_ i _ (List.getElem?_eq_getElem hi')⟩
def RsAt (H : Hp) (a : Addr) (rs : Rs) : Prop := ∃ vs, Lt H a vs ∧ Rws H vs rs
theorem RsAt.same {H H' : Hp} {a : Addr} {rs : Rs} (h : RsAt H a rs) (s : Same H H') : RsAt H' a rs := let ⟨vs, l, g⟩ := h; ⟨vs, l.same s, g.same s⟩
theorem small {n : Nat} (h : n ≤ 100000) : n ≤ sizeLine := Nat.le_trans h (by rw [sizeLine_eq]; decide)
theorem kII {K : PySem.W.Frag} : PySem.W.kitOne K (.type "int") (.type "int") = some true := kit_ty (by decide +kernel)
theorem kIB {K : PySem.W.Frag} : PySem.W.kitOne K (.type "int") (.type "bool") = some false := kit_ty (by decide +kernel)
theorem kTT {K : PySem.W.Frag} : PySem.W.kitOne K (.type "tuple") (.type "tuple") = some true := kit_ty (by decide +kernel)
theorem kSS {K : PySem.W.Frag} : PySem.W.kitOne K (.type "str") (.type "str") = some true := kit_ty (by decide +kernel)
theorem kLL {K : PySem.W.Frag} : PySem.W.kitOne K (.type "list") (.type "list") = some true := kit_ty (by decide +kernel)
theorem sls : decide (V.str "leaf" = V.str "leaf") = true := by decide +kernel
theorem sl1 : decide (V.str "leaf" = V.str "set") = false := by decide +kernel
theorem sl2 : decide (V.str "leaf" = V.str "use") = false := by decide +kernel
theorem sl3 : decide (V.str "leaf" = V.str "stop") = false := by decide +kernel
theorem ss0 : decide (V.str "set" = V.str "leaf") = false := by decide +kernel
theorem ss1 : decide (V.str "set" = V.str "set") = true := by decide +kernel
theorem ss2 : decide (V.str "set" = V.str "use") = false := by decide +kernel
theorem ss3 : decide (V.str "set" = V.str "stop") = false := by decide +kernel
theorem su0 : decide (V.str "use" = V.str "leaf") = false := by decide +kernel
theorem su1 : decide (V.str "use" = V.str "set") = false := by decide +kernel
theorem su2 : decide (V.str "use" = V.str "use") = true := by decide +kernel
theorem su3 : decide (V.str "use" = V.str "stop") = false := by decide +kernel
theorem st0 : decide (V.str "stop" = V.str "leaf") = false := by decide +kernel
theorem st1 : decide (V.str "stop" = V.str "set") = false := by decide +kernel
theorem st2 : decide (V.str "stop" = V.str "use") = false := by decide +kernel
theorem st3 : decide (V.str "stop" = V.str "stop") = true := by decide +kernel
section
variable {P : Program} {w : World} {K : PySem.W.Frag} {mg : Str → Option Value} {base : Heap} {C : Addr} {f : Addr} {fd : FuncData}
abbrev FD (K : PySem.W.Frag) (x qual : Str) (st : Stmt) (dvs : List V) (f : Addr) (fd : FuncData) : Prop := FunD K x qual (defArgs st) (defBody st) (defScope st) dvs [] f fd
/-! ### is_integer, is_new -/
/-- a number that is at least 0, or none -/
def NoK (K : PySem.W.Frag) (T : String) (H : Hp) (v : V) : Prop := ∃ t, (∀ H', Same H H' → TyX K H' v t) ∧ PySem.W.kitOne K t (.type T) = some false
theorem NoK.same {K : PySem.W.Frag} {T : String} {H H' : Hp} {v : V} (h : NoK K T H v) (s : Same H H') : NoK K T H' v := let ⟨t, a, b⟩ := h; ⟨t, fun H2 s2 => a H2 (s.trans s2), b⟩
theorem kBI {K : PySem.W.Frag} : PySem.W.kitOne K (.type "bool") (.type "int") = some true := kit_ty (by decide +kernel)
theorem kBB {K : PySem.W.Frag} : PySem.W.kitOne K (.type "bool") (.type "bool") = some true := kit_ty (by decide +kernel)
inductive NumO (K : PySem.W.Frag) (H : Hp) : V → Option Int → Prop
  | int (i : Int) (h : 0 ≤ i) : NumO K H (.int i) (some i)
  | neg (i : Int) (h : ¬ 0 ≤ i) : NumO K H (.int i) none
  | bl (b : Bool) : NumO K H (.bl b) none
  | no {v : V} : NoK K "int" H v → NumO K H v none
theorem NumO.same {K : PySem.W.Frag} {H H' : Hp} {v : V} {o : Option Int} (h : NumO K H v o) (s : Same H H') : NumO K H' v o := by
  cases h with
  | int i h => exact .int i h
  | neg i h => exact .neg i h
  | bl b => exact .bl b
  | no h => exact .no (h.same s)
theorem NumO.some {K : PySem.W.Frag} {H : Hp} {v : V} {n : Int} (h : NumO K H v (Option.some n)) : v = .int n ∧ 0 ≤ n := by
  cases h with
  | int i h => exact ⟨rfl, h⟩
def spIntG (K : PySem.W.Frag) : Sp := fun vs H Q _ => ∃ v o, vs = [v] ∧ NumO K H v o ∧ Q (.bl o.isSome) H
theorem ok_is_integerG (T : Tx K mg C) (F : FD K "is_integer" "is_integer" s_is_integer [] f fd) : FnG P w K mg base CX0 1 f fd ["thing"] (spIntG K) := by
  refine ok0 F sc_is_integer (fun vs H Q E h => ?_) (fun cdv A outer s H vs Q E hr h => ?_)
  · obtain ⟨v, o, rfl, _⟩ := h
    rfl
  · obtain ⟨v, o, rfl, h, q⟩ := h
    refine ⟨_, (pss_one (ps_ret (pe_and (pe_callB call_isi (by rfl) T.n_isinstance (by decide +kernel) (pa_cons (pv 0) (pa_cons (pe_bltn (v := .ty "int") (by rfl) T.n_int (by decide +kernel) rfl) pa_nil))) (pe_and (pe_not (pe_callB call_isi (by rfl) T.n_isinstance (by decide +kernel) (pa_cons (pv 0) (pa_cons (pe_bltn (v := .ty "bool") (by rfl) T.n_bool (by decide +kernel) rfl) pa_nil)))) (pe_one (pe_cmpR op_ge (pv 0) pe_int (nomark _))))))), ?_⟩
    cases h with
    | int i h =>
      refine ⟨_, rfl, _, _, .type "int", _, _, rfl, .ty "int", .base (.int _), kII, _, rfl, iteT ⟨_, rfl, _, _, .type "int", _, _, rfl, .ty "bool", .base (.int _), kIB, _, rfl, _, rfl, iteT ⟨_, rfl, _, _, rfl, rfl, ?_⟩⟩⟩
      have e : decide ((0 : Int) ≤ i) = true := decide_eq_true h
      rw [← show (V.bl (decide ((0 : Int) ≤ i))) = V.bl (Option.some i).isSome by rw [e]; rfl] at q
      exact q
    | neg i h =>
      refine ⟨_, rfl, _, _, .type "int", _, _, rfl, .ty "int", .base (.int _), kII, _, rfl, iteT ⟨_, rfl, _, _, .type "int", _, _, rfl, .ty "bool", .base (.int _), kIB, _, rfl, _, rfl, iteT ⟨_, rfl, _, _, rfl, rfl, ?_⟩⟩⟩
      have e : decide ((0 : Int) ≤ i) = false := decide_eq_false h
      rw [← show (V.bl (decide ((0 : Int) ≤ i))) = V.bl (none : Option Int).isSome by rw [e]; rfl] at q
      exact q
    | bl b => exact ⟨_, rfl, _, _, .type "bool", _, _, rfl, .ty "int", .base (.bl _), kBI, _, rfl, iteT ⟨_, rfl, _, _, .type "bool", _, _, rfl, .ty "bool", .base (.bl _), kBB, _, rfl, _, rfl, iteF q⟩⟩
    | no h =>
      obtain ⟨t, ty, kt⟩ := h
      exact ⟨_, rfl, _, _, t, _, _, rfl, .ty "int", ty H Same.rfl', kt, _, rfl, iteF q⟩
def spInt : Sp := fun vs H Q _ => ∃ i : Int, vs = [.int i] ∧ Q (.bl (decide (0 ≤ i))) H
theorem ok_is_integer (T : Tx K mg C) (F : FD K "is_integer" "is_integer" s_is_integer [] f fd) : FnG P w K mg base CX0 1 f fd ["thing"] spInt := by
  refine ok0 F sc_is_integer (fun vs H Q E h => ?_) (fun cdv A outer s H vs Q E hr h => ?_)
  · obtain ⟨i, rfl, _⟩ := h
    rfl
  · obtain ⟨i, rfl, q⟩ := h
    refine ⟨_, (pss_one (ps_ret (pe_and (pe_callB call_isi (by rfl) T.n_isinstance (by decide +kernel) (pa_cons (pv 0) (pa_cons (pe_bltn (v := .ty "int") (by rfl) T.n_int (by decide +kernel) rfl) pa_nil))) (pe_and (pe_not (pe_callB call_isi (by rfl) T.n_isinstance (by decide +kernel) (pa_cons (pv 0) (pa_cons (pe_bltn (v := .ty "bool") (by rfl) T.n_bool (by decide +kernel) rfl) pa_nil)))) (pe_one (pe_cmpR op_ge (pv 0) pe_int (nomark _))))))), ?_⟩
    exact ⟨_, rfl, _, _, .type "int", _, _, rfl, .ty "int", .base (.int _), kII, _, rfl, iteT ⟨_, rfl, _, _, .type "int", _, _, rfl, .ty "bool", .base (.int _), kIB, _, rfl, _, rfl, iteT ⟨_, rfl, _, _, rfl, rfl, q⟩⟩⟩
def spNew : Sp := fun vs H Q _ => ∃ (i : Int) (d : Addr) (kvs : List (Key × V)), vs = [.int i, .ref d] ∧ Rd H d (.dK kvs) ∧ 0 ≤ i ∧ valV kvs (Sum.inl i) = none ∧ Q (.bl true) H
theorem ok_is_new (T : Tx K mg C) (G_is_integer : Fnc P w K mg base CX0 1 "is_integer" [] spInt) (F : FD K "is_new" "is_new" s_is_new [] f fd) : FnG P w K mg base CX0 2 f fd ["thing", "places"] spNew := by
  refine ok0 F sc_is_new (fun vs H Q E h => ?_) (fun cdv A outer s H vs Q E hr h => ?_)
  · obtain ⟨i, d, kvs, rfl, _⟩ := h
    rfl
  · obtain ⟨i, d, kvs, rfl, hd, h0, hv, q⟩ := h
    refine ⟨_, (pss_one (ps_ret (pe_and (pe_fn G_is_integer (hr.mono (by decide)) pass0 (pa_cons (pv 0) pa_nil)) (pe_one (pe_cmp (pc_dnotin (un1 hr.r.units) (pv 0) (pv 1)) rfl))))), ?_⟩
    refine ⟨_, rfl, i, rfl, _, rfl, iteY (decide_eq_true h0) ⟨_, rfl, _, rfl, d, _, rfl, .inl ⟨kvs, Sum.inl i, hd, rfl, rfl⟩, ?_⟩⟩
    rw [hv]
    exact q
/-! ### are_set -/
def spAre : Sp := fun vs H Q _ => ∃ (u : V) (os : List Int) (d : Addr) (kvs : List (Key × V)), vs = [u, .ref d] ∧ OpT H u os ∧ Rd H d (.dK kvs) ∧ os.length ≤ 1000 ∧ (∀ o ∈ os, 0 ≤ o ∧ (valV kvs (Sum.inl o)).isSome = true) ∧ ∀ H', Same H H' → Q (.bl true) H'
theorem rd_same {H H' : Hp} {d : Addr} {o : HO} (h : Rd H d o) (s : Same H H') : Rd H' d o := by
  rcases h with h | ⟨x, h⟩
  · exact .inl (s _ _ h)
  · exact .inr ⟨x, s _ _ h⟩
theorem ok_are_set (T : Tx K mg C) (G_is_integer : Fnc P w K mg base CX0 1 "is_integer" [] spInt) (F : FD K "are_set" "are_set" s_are_set [] f fd) : FnG P w K mg base CX0 2 f fd ["things", "places"] spAre := by
  refine ok0 F sc_are_set (fun vs H Q E h => ?_) (fun cdv A outer s H vs Q E hr h => ?_)
  · obtain ⟨u, os, d, kvs, rfl, _⟩ := h
    rfl
  · obtain ⟨u, os, d, kvs, rfl, ⟨o, rfl, ho⟩, hd, lo, hos, q⟩ := h
    refine ⟨_, (pss_one (ps_ret (pe_and (pe_callB call_isi (by rfl) T.n_isinstance (by decide +kernel) (pa_cons (pv 0) (pa_cons (pe_bltn (v := .ty "tuple") (by rfl) T.n_tuple (by decide +kernel) rfl) pa_nil))) (pe_one (pe_callB (cr_all rfl) (by rfl) T.n_all (by decide +kernel) (pa_cons (pe_lc (own := [("thing", 2)]) rfl sc_are_set.nd (pi_tup (pv 0)) (blkOk_by (own := [("thing", 2)]) (N := n_are_set) (sc := defScope s_are_set) (by decide +kernel)) (fun _ _ _ _ _ => (pg_name (i := 2) sc_are_set.nd rfl (by first | exact Or.inl rfl | exact Or.inr rfl))) (fun _ _ _ _ _ => pts_nil) (fun _ _ _ _ _ => (pe_and (pe_fn G_is_integer (hr.mono (by decide)) pass0 (pa_cons (pv 2) pa_nil)) (pe_one (pe_cmp (pc_din (un1 hr.r.units) (pv 2) (pv 1)) rfl))))) pa_nil)))))), ?_⟩
    refine ⟨_, rfl, _, _, .type "tuple", _, _, rfl, .ty "tuple", .base (.tup ho), kTT, _, rfl, iteT ?_⟩
    refine ⟨_, rfl, o, rfl, ⟨_, SqT.of ho⟩, fun D hD => ?_⟩
    refine lc_acc (walk_tup (K := K) (a := o) (xs := os.map V.int)) hD (fun j => (List.replicate j true).map V.bl) rfl (fun j hj => ?_) (fun H' s' => SqT.of (s' _ _ ho)) ?_ ?_
    · rw [List.length_map] at hj
      rw [List.length_map, List.length_replicate]
      omega
    · rintro j x H5 H6 hj s5 ⟨rfl, hx⟩ N S hN hS
      rw [List.getElem?_map] at hx
      obtain ⟨c, hc, rfl⟩ := Option.map_eq_some_iff.mp hx
      obtain ⟨c0, c1⟩ := hos c (List.mem_of_getElem? hc)
      refine ⟨rfl, _, rfl, c, rfl, _, rfl, iteY (decide_eq_true c0) ⟨_, rfl, _, rfl, d, _, rfl, .inl ⟨kvs, Sum.inl c, rd_same hd s5, rfl, rfl⟩, ?_⟩⟩
      rw [c1]
      exact hN _ _ Same.rfl' (rep_succ _)
    intro H5 s5 h5
    refine ⟨D, _, rfl, SqL.of h5, ?_⟩
    rw [rep_all]
    exact q _ s5
/-! ### is_row -/
def spRow : Sp := fun vs H Q _ => ∃ (v : V) (r : Rw) (d : Addr) (rs : Rs) (i : Nat), vs = [v, .ref d] ∧ RwAt H v r ∧ Rd H d (.dK (plk rs i)) ∧ RowOk (vls rs i) r ∧ RwZ r ∧ ∀ H', Same H H' → Q (.bl true) H'
theorem ok_is_row (T : Tx K mg C) (G_is_new : Fnc P w K mg base CX0 2 "is_new" [] spNew) (G_are_set : Fnc P w K mg base CX0 2 "are_set" [] spAre) (F : FD K "is_row" "is_row" s_is_row [] f fd) : FnG P w K mg base CX0 3 f fd ["thing", "places"] spRow := by
  refine ok0 F sc_is_row (fun vs H Q E h => ?_) (fun cdv A outer s H vs Q E hr h => ?_)
  · obtain ⟨v, r, d, rs, i, rfl, _⟩ := h
    rfl
  · obtain ⟨v, r, d, rs, i, rfl, hv, hd, ro, z, q⟩ := h
    refine ⟨_, (pss_cons (ps_if (PW.pt (pw_or (pt_not (pt_val (pe_callB call_isi (by rfl) T.n_isinstance (by decide +kernel) (pa_cons (pv 0) (pa_cons (pe_bltn (v := .ty "tuple") (by rfl) T.n_tuple (by decide +kernel) rfl) pa_nil))))) (pw_or (pt_cmpR op_lt (pe_callB call_len_seq (by rfl) T.n_len (by decide +kernel) (pa_cons (pv 0) pa_nil)) pe_int (nomark _)) (pw_or1 (pt_not (pt_val (pe_callB call_isi (by rfl) T.n_isinstance (by decide +kernel) (pa_cons (pe_ix ix_tup (pv 0) pe_int (fun _ _ => rfl)) (pa_cons (pe_bltn (v := .ty "str") (by rfl) T.n_str (by decide +kernel) rfl) pa_nil))))))))) (pss_one (ps_ret pe_bl)) pss_nil)
      (pss_cons (ps_if (pt_cmpR op_eq (pe_ix ix_tup (pv 0) pe_int (fun _ _ => rfl)) (pe_gS T.g_LEAF) (nomark _)) (pss_one (ps_ret (pe_and (pe_cmpR op_eq (pe_callB call_len_seq (by rfl) T.n_len (by decide +kernel) (pa_cons (pv 0) pa_nil)) pe_int (nomark _)) (pe_one (pe_fn G_is_new (hr.mono (by decide)) pass0 (pa_cons (pe_ix ix_tup (pv 0) pe_int (fun _ _ => rfl)) (pa_cons (pv 1) pa_nil))))))) pss_nil)
      (pss_cons (ps_if (pt_cmpR op_eq (pe_ix ix_tup (pv 0) pe_int (fun _ _ => rfl)) (pe_gS T.g_SET) (nomark _)) (pss_one (ps_ret (pe_and (pe_cmpR op_eq (pe_callB call_len_seq (by rfl) T.n_len (by decide +kernel) (pa_cons (pv 0) pa_nil)) pe_int (nomark _)) (pe_and (pe_fn G_is_new (hr.mono (by decide)) pass0 (pa_cons (pe_ix ix_tup (pv 0) pe_int (fun _ _ => rfl)) (pa_cons (pv 1) pa_nil))) (pe_one (pe_fn G_are_set (hr.mono (by decide)) pass0 (pa_cons (pe_ix ix_tup (pv 0) pe_int (fun _ _ => rfl)) (pa_cons (pv 1) pa_nil)))))))) pss_nil)
      (pss_cons (ps_if (pt_cmpR op_eq (pe_ix ix_tup (pv 0) pe_int (fun _ _ => rfl)) (pe_gS T.g_USE) (nomark _)) (pss_one (ps_ret (pe_and (pe_cmpR op_eq (pe_callB call_len_seq (by rfl) T.n_len (by decide +kernel) (pa_cons (pv 0) pa_nil)) pe_int (nomark _)) (pe_one (pe_fn G_are_set (hr.mono (by decide)) pass0 (pa_cons (pe_ix ix_tup (pv 0) pe_int (fun _ _ => rfl)) (pa_cons (pv 1) pa_nil))))))) pss_nil)
      (pss_one (ps_ret (pe_and (pe_cmpR op_eq (pe_ix ix_tup (pv 0) pe_int (fun _ _ => rfl)) (pe_gS T.g_STOP) (nomark _)) (pe_and (pe_cmpR op_eq (pe_callB call_len_seq (by rfl) T.n_len (by decide +kernel) (pa_cons (pv 0) pa_nil)) pe_int (nomark _)) (pe_and (pe_callB call_isi (by rfl) T.n_isinstance (by decide +kernel) (pa_cons (pe_ix ix_tup (pv 0) pe_int (fun _ _ => rfl)) (pa_cons (pe_bltn (v := .ty "str") (by rfl) T.n_str (by decide +kernel) rfl) pa_nil))) (pe_one (pe_fn G_are_set (hr.mono (by decide)) pass0 (pa_cons (pe_ix ix_tup (pv 0) pe_int (fun _ _ => rfl)) (pa_cons (pv 1) pa_nil))))))))))))), ?_⟩
    have opk : (∀ o ∈ r.ops, o ∈ vls rs i) → ∀ o ∈ r.ops, 0 ≤ o ∧ (valV (plk rs i) (Sum.inl o)).isSome = true := fun h o ho => ⟨(z.op o ho).1, by rw [plk_is, decide_eq_true (h o ho)]⟩
    have l3 := z.opl
    cases r with
    | leaf n =>
      obtain ⟨t, rfl, ht⟩ := hv
      refine ⟨_, rfl, _, _, .type "tuple", _, _, rfl, .ty "tuple", .base (.tup ht), kTT, _, rfl, iteF ?_⟩
      refine ⟨_, rfl, t, _, rfl, .inr (SqT.of ht), _, _, rfl, rfl, _, rfl, iteF ?_⟩
      refine ⟨_, rfl, t, _, _, _, rfl, rfl, SqT.of ht, atI_nat (j := 0) rfl, _, _, .type "str", _, _, rfl, .ty "str", .base (.str _), kSS, _, rfl, iteF ?_⟩
      refine ⟨_, rfl, t, _, _, _, rfl, rfl, SqT.of ht, atI_nat (j := 0) rfl, rfl, _, rfl, iteY sls ?_⟩
      refine ⟨_, rfl, t, _, rfl, .inr (SqT.of ht), rfl, _, rfl, iteT ?_⟩
      exact ⟨_, rfl, t, _, _, _, rfl, rfl, SqT.of ht, atI_nat (j := 1) rfl, _, rfl, n, d, _, rfl, hd, (z.val n (List.mem_singleton.mpr rfl)).1, plk_none ro, q _ Same.rfl'⟩
    | set n os =>
      obtain ⟨t, u, rfl, ht, hu⟩ := hv
      refine ⟨_, rfl, _, _, .type "tuple", _, _, rfl, .ty "tuple", .base (.tup ht), kTT, _, rfl, iteF ?_⟩
      refine ⟨_, rfl, t, _, rfl, .inr (SqT.of ht), _, _, rfl, rfl, _, rfl, iteF ?_⟩
      refine ⟨_, rfl, t, _, _, _, rfl, rfl, SqT.of ht, atI_nat (j := 0) rfl, _, _, .type "str", _, _, rfl, .ty "str", .base (.str _), kSS, _, rfl, iteF ?_⟩
      refine ⟨_, rfl, t, _, _, _, rfl, rfl, SqT.of ht, atI_nat (j := 0) rfl, rfl, _, rfl, iteN ss0 ?_⟩
      refine ⟨_, rfl, t, _, _, _, rfl, rfl, SqT.of ht, atI_nat (j := 0) rfl, rfl, _, rfl, iteY ss1 ?_⟩
      refine ⟨_, rfl, t, _, rfl, .inr (SqT.of ht), rfl, _, rfl, iteT ?_⟩
      refine ⟨_, rfl, t, _, _, _, rfl, rfl, SqT.of ht, atI_nat (j := 1) rfl, _, rfl, n, d, _, rfl, hd, (z.val n (List.mem_singleton.mpr rfl)).1, plk_none ro.1, _, rfl, iteT ?_⟩
      exact ⟨_, rfl, t, _, _, _, rfl, rfl, SqT.of ht, atI_nat (j := 2) rfl, _, rfl, u, os, d, _, rfl, hu, hd, by show os.length ≤ 1000; have : os.length ≤ 3 := l3; omega, opk ro.2, q⟩
    | use os =>
      obtain ⟨t, u, rfl, ht, hu⟩ := hv
      refine ⟨_, rfl, _, _, .type "tuple", _, _, rfl, .ty "tuple", .base (.tup ht), kTT, _, rfl, iteF ?_⟩
      refine ⟨_, rfl, t, _, rfl, .inr (SqT.of ht), _, _, rfl, rfl, _, rfl, iteF ?_⟩
      refine ⟨_, rfl, t, _, _, _, rfl, rfl, SqT.of ht, atI_nat (j := 0) rfl, _, _, .type "str", _, _, rfl, .ty "str", .base (.str _), kSS, _, rfl, iteF ?_⟩
      refine ⟨_, rfl, t, _, _, _, rfl, rfl, SqT.of ht, atI_nat (j := 0) rfl, rfl, _, rfl, iteN su0 ?_⟩
      refine ⟨_, rfl, t, _, _, _, rfl, rfl, SqT.of ht, atI_nat (j := 0) rfl, rfl, _, rfl, iteN su1 ?_⟩
      refine ⟨_, rfl, t, _, _, _, rfl, rfl, SqT.of ht, atI_nat (j := 0) rfl, rfl, _, rfl, iteY su2 ?_⟩
      refine ⟨_, rfl, t, _, rfl, .inr (SqT.of ht), rfl, _, rfl, iteT ?_⟩
      exact ⟨_, rfl, t, _, _, _, rfl, rfl, SqT.of ht, atI_nat (j := 1) rfl, _, rfl, u, os, d, _, rfl, hu, hd, by show os.length ≤ 1000; have : os.length ≤ 3 := l3; omega, opk ro, q⟩
    | stop l os =>
      obtain ⟨t, u, rfl, ht, hu⟩ := hv
      refine ⟨_, rfl, _, _, .type "tuple", _, _, rfl, .ty "tuple", .base (.tup ht), kTT, _, rfl, iteF ?_⟩
      refine ⟨_, rfl, t, _, rfl, .inr (SqT.of ht), _, _, rfl, rfl, _, rfl, iteF ?_⟩
      refine ⟨_, rfl, t, _, _, _, rfl, rfl, SqT.of ht, atI_nat (j := 0) rfl, _, _, .type "str", _, _, rfl, .ty "str", .base (.str _), kSS, _, rfl, iteF ?_⟩
      refine ⟨_, rfl, t, _, _, _, rfl, rfl, SqT.of ht, atI_nat (j := 0) rfl, rfl, _, rfl, iteN st0 ?_⟩
      refine ⟨_, rfl, t, _, _, _, rfl, rfl, SqT.of ht, atI_nat (j := 0) rfl, rfl, _, rfl, iteN st1 ?_⟩
      refine ⟨_, rfl, t, _, _, _, rfl, rfl, SqT.of ht, atI_nat (j := 0) rfl, rfl, _, rfl, iteN st2 ?_⟩
      refine ⟨_, rfl, t, _, _, _, rfl, rfl, SqT.of ht, atI_nat (j := 0) rfl, rfl, _, rfl, iteY st3 ?_⟩
      refine ⟨_, rfl, t, _, rfl, .inr (SqT.of ht), rfl, _, rfl, iteT ?_⟩
      refine ⟨_, rfl, t, _, _, _, rfl, rfl, SqT.of ht, atI_nat (j := 1) rfl, _, _, .type "str", _, _, rfl, .ty "str", .base (.str _), kSS, _, rfl, iteT ?_⟩
      exact ⟨_, rfl, t, _, _, _, rfl, rfl, SqT.of ht, atI_nat (j := 2) rfl, _, rfl, u, os, d, _, rfl, hu, hd, by show os.length ≤ 1000; have : os.length ≤ 3 := l3; omega, opk ro, q⟩
/-! ### places_in -/
theorem kLT {K : PySem.W.Frag} : PySem.W.kitOne K (.type "list") (.type "tuple") = some false := kit_ty (by decide +kernel)
theorem kTL {K : PySem.W.Frag} : PySem.W.kitOne K (.type "tuple") (.type "list") = some false := kit_ty (by decide +kernel)
theorem kitA {t : Value} {b c : Bool} (h1 : PySem.W.kitOne K t (.type "list") = some b) (h2 : PySem.W.kitOne K t (.type "tuple") = some c) : PySem.W.kitAny K t [.type "list", .type "tuple"] = some (b || c) := by
  cases b <;> cases c <;> simp [PySem.W.kitAny, h1, h2]
theorem ty_lt {H : Hp} {a : Addr} {vs : List V} (h : Lt H a vs) : ∃ t, TyX K H (.ref a) t ∧ PySem.W.kitAny K t [.type "list", .type "tuple"] = some true := by
  rcases h with h | h
  · exact ⟨.type "list", .base (.lst h), kitA kLL kLT⟩
  · exact ⟨.type "tuple", .base (.tup h), kitA kTL kTT⟩
def spPl : Sp := fun vs H Q _ => ∃ (a : Addr) (rs : Rs), vs = [.ref a] ∧ RsAt H a rs ∧ RsOk rs ∧ ∀ H' d, Same H H' → H d = none → H' d = some (.dK (plA rs)) → Q (.ref d) H'
theorem in2 {a b : Str} {c : Str} : inV (.str c) [.str a, .str b] = (decide (V.str a = V.str c) || decide (V.str b = V.str c)) := by
  have q : ∀ x y : Str, (x == y) = decide (V.str x = V.str y) := fun x y => by
    by_cases h : x = y
    · subst h
      rw [decide_eq_true rfl]
      exact beq_self_eq_true _
    · rw [decide_eq_false fun z => h (V.str.inj z)]
      exact beq_false_of_ne h
  show ((a == c) || ((b == c) || false)) = _
  rw [q, q, Bool.or_false]
theorem row_tup {H : Hp} {v : V} {r : Rw} (h : RwAt H v r) : ∃ t x xs, v = .ref t ∧ H t = some (.tup (.str x :: xs)) ∧ ((x = "leaf" ∧ ∃ n, r = .leaf n ∧ xs = [.int n]) ∨ (x = "set" ∧ ∃ n os u, r = .set n os ∧ xs = [.int n, u] ∧ OpT H u os) ∨ (x = "use" ∧ ∃ os u, r = .use os ∧ xs = [u] ∧ OpT H u os) ∨ (x = "stop" ∧ ∃ l os u, r = .stop l os ∧ xs = [.str l, u] ∧ OpT H u os)) := by
  cases r with
  | leaf n => obtain ⟨t, rfl, ht⟩ := h; exact ⟨t, _, _, rfl, ht, .inl ⟨rfl, n, rfl, rfl⟩⟩
  | set n os => obtain ⟨t, u, rfl, ht, hu⟩ := h; exact ⟨t, _, _, rfl, ht, .inr (.inl ⟨rfl, n, os, u, rfl, rfl, hu⟩)⟩
  | use os => obtain ⟨t, u, rfl, ht, hu⟩ := h; exact ⟨t, _, _, rfl, ht, .inr (.inr (.inl ⟨rfl, os, u, rfl, rfl, hu⟩))⟩
  | stop l os => obtain ⟨t, u, rfl, ht, hu⟩ := h; exact ⟨t, _, _, rfl, ht, .inr (.inr (.inr ⟨rfl, l, os, u, rfl, rfl, hu⟩))⟩
theorem ok_places_in (T : Tx K mg C) (G_is_row : Fnc P w K mg base CX0 3 "is_row" [] spRow) (F : FD K "places_in" "places_in" s_places_in [] f fd) : FnG P w K mg base CX0 4 f fd ["rows"] spPl := by
  refine ok0 F sc_places_in (fun vs H Q E h => ?_) (fun cdv A outer s H vs Q E hr h => ?_)
  · obtain ⟨a, rs, rfl, _⟩ := h
    rfl
  · obtain ⟨a, rs, rfl, ⟨ls, hl, rws⟩, ok, q⟩ := h
    refine ⟨_, (pss_cons (ps_if (pt_not (pt_val (pe_callB call_isiT (by rfl) T.n_isinstance (by decide +kernel) (pa_cons (pv 0) (pa_cons (pe_tup (pa_cons (pe_bltn (v := .ty "list") (by rfl) T.n_list (by decide +kernel) rfl) (pa_cons (pe_bltn (v := .ty "tuple") (by rfl) T.n_tuple (by decide +kernel) rfl) pa_nil))) pa_nil))))) (pss_one ps_never) pss_nil)
      (pss_cons (ps_set (i := 1) sc_places_in.nd rfl (by first | exact Or.inl rfl | exact Or.inr rfl) pe_dnewK)
      (pss_cons (ps_for PassesOwn.never rfl (pi_enumA (by rfl) T.n_enumerate (pa_cons (pv 0) pa_nil)) (pg_tup rfl (pgs_cons (pg_name (i := 2) sc_places_in.nd rfl (by first | exact Or.inl rfl | exact Or.inr rfl)) (pgs_cons (pg_name (i := 3) sc_places_in.nd rfl (by first | exact Or.inl rfl | exact Or.inr rfl)) pgs_nil))) (pss_cons (ps_if (pt_not (pt_val (pe_fn G_is_row (hr.mono (by decide)) pass0 (pa_cons (pv 3) (pa_cons (pv 1) pa_nil))))) (pss_one ps_never) pss_nil)
      (pss_one (ps_if (pt_cmpR op_in_seq (pe_ix ix_tup (pv 3) pe_int (fun _ _ => rfl)) (pe_tup (pa_cons (pe_gS T.g_LEAF) (pa_cons (pe_gS T.g_SET) pa_nil))) (by rfl)) (pss_one (ps_dput (un1 hr.r.units) (pv 1) (pe_ix ix_tup (pv 3) pe_int (fun _ _ => rfl)) (pv 2) rfl)) pss_nil))))
      (pss_one (ps_ret (pv 1)))))), ?_⟩
    refine ⟨_, rfl, (by show 2 ≤ sizeLine; decide), fun tp ntp => ?_⟩
    obtain ⟨G, e, s1, htp⟩ := mkO ntp (.tup [.ty "list", .ty "tuple"])
    rw [e]
    clear e
    obtain ⟨t, ty, kt⟩ := ty_lt (K := K) (hl.same s1)
    refine ⟨_, _, _, t, _, _, rfl, htp, .cons (.ty _) (.cons (.ty _) .nil), ty, kt, _, rfl, iteF ?_⟩
    refine fun d nd => ?_
    obtain ⟨G2, e, s2, hd⟩ := mkO nd (.dK [])
    rw [e]
    clear e
    have nd0 : H d = none := s1.free nd
    have s12 := s1.trans s2
    obtain ⟨k, hk⟩ := hl.k (K := K)
    refine ⟨_, rfl, k, a, ls, rfl, sqK_same hk s12, ?_⟩
    refine for_it (walk_enumK (K := K) (k := k) (a := a) (xs := ls)) (fun i σ H' => Same H H' ∧ H' d = some (.dK (plk rs i)) ∧ ∃ u v, σ = [some (.ref a), some (.ref d), u, v]) ⟨s12, hd, none, none, rfl⟩ (fun i σ H' _ h => sqK_same hk h.1) ?_ ?_
    · rintro i x σ H2 H3 hi ⟨s2, hd2, u, v, rfl⟩ ⟨t, y, z, rfl, nt, rfl, hy, hz⟩
      cases hy
      have il : i < rs.length := by rw [← rws.len]; exact hi
      have s3 := s2.trans (same_upd (o := .tup [.int (i : Nat), z]) nt)
      have hd3 := same_upd (o := .tup [.int (i : Nat), z]) nt _ _ hd2
      refine ⟨t, _, rfl, SqT.of upd_same, rfl, _, _, rfl, _, _, rfl, rfl, ?_⟩
      have ra := (rws.at_ i z hz).same s3
      refine ⟨_, rfl, _, rfl, z, rw rs i, d, rs, i, rfl, ra, .inl hd3, ok.row i il, ok.z i il, fun H4 s4 => ⟨_, rfl, iteF ?_⟩⟩
      have s04 := s3.trans s4
      have hd4 := s4 _ _ hd3
      obtain ⟨t', x', xs', rfl, ht, h⟩ := row_tup (ra.same s4)
      refine ⟨_, rfl, t', _, _, _, rfl, rfl, SqT.of ht, atI_nat (j := 0) rfl, (by show 2 ≤ sizeLine; decide), fun tq ntq => ?_⟩
      obtain ⟨G5, e5, s5, htq⟩ := mkO ntq (.tup [.str "leaf", .str "set"])
      rw [e5]
      clear e5
      have hd5 := s5 _ _ hd4
      have s05 := s04.trans s5
      refine ⟨tq, _, rfl, .inr (SqT.of htq), rfl, rfl, _, rfl, ?_⟩
      have hnn := ok.row i il
      rcases h with ⟨rfl, n, er, rfl⟩ | ⟨rfl, n, os, u, er, rfl, hu⟩ | ⟨rfl, os, u, er, rfl, hu⟩ | ⟨rfl, l, os, u, er, rfl, hu⟩
      · rw [er] at hnn
        refine iteY (by rw [in2, sls]; rfl) ?_
        refine ⟨_, rfl, _, rfl, _, rfl, t', _, _, _, rfl, rfl, SqT.of (s5 _ _ ht), atI_nat (j := 1) rfl, d, _, rfl, DPut.k (k := Sum.inl n) hd5 (Nat.lt_of_lt_of_le (show _ < 100000 by have := plk_len rs i; have := vls_len rs i; have := ok.len; omega) (small (Nat.le_refl _))), own_same s05 nd0, ?_, _, _, rfl⟩
        rw [upd_same, plk_put hnn (by rw [er]; rfl)]
      · rw [er] at hnn
        refine iteY (by rw [in2, ss1, Bool.or_true]; rfl) ?_
        refine ⟨_, rfl, _, rfl, _, rfl, t', _, _, _, rfl, rfl, SqT.of (s5 _ _ ht), atI_nat (j := 1) rfl, d, _, rfl, DPut.k (k := Sum.inl n) hd5 (Nat.lt_of_lt_of_le (show _ < 100000 by have := plk_len rs i; have := vls_len rs i; have := ok.len; omega) (small (Nat.le_refl _))), own_same s05 nd0, ?_, _, _, rfl⟩
        rw [upd_same, plk_put hnn.1 (by rw [er]; rfl)]
      · refine iteN (by rw [in2, sl2, ss2]; rfl) ⟨s05, ?_, _, _, rfl⟩
        rw [plk_no (by rw [er]; rfl)]
        exact hd5
      · refine iteN (by rw [in2, sl3, ss3]; rfl) ⟨s05, ?_, _, _, rfl⟩
        rw [plk_no (by rw [er]; rfl)]
        exact hd5
    · rintro σ H2 ⟨s2, hd2, u, v, rfl⟩
      rw [rws.len] at hd2
      exact ⟨_, rfl, q _ d s2 nd0 hd2⟩
/-! ### values handed on -/
def OutAt (K : PySem.W.Frag) (H : Hp) (b : Addr) (out : List Int) : Prop := Lt H b (out.map V.int) ∨ (out = [] ∧ ∃ (o : Obj) (its : Array Value) (n : Nat), K.lookup b = some o ∧ o.cls = .type "tuple" ∧ o.data = .seq its n ∧ its.size ≤ sizeLine ∧ Vals [] its.toList)
theorem OutAt.same {H H' : Hp} {b : Addr} {out : List Int} (h : OutAt K H b out) (s : Same H H') : OutAt K H' b out := h.imp (·.same s) id
theorem OutAt.k {H : Hp} {b : Addr} {out : List Int} (h : OutAt K H b out) : ∃ k, ∀ H', Same H H' → sqK k K H' b (out.map V.int) := by
  rcases h with h | ⟨rfl, h⟩
  · obtain ⟨k, hk⟩ := h.k (K := K)
    exact ⟨k, fun H' s => sqK_same hk s⟩
  · exact ⟨false, fun H' s => .inr h⟩
theorem OutAt.ty {H : Hp} {b : Addr} {out : List Int} (h : OutAt K H b out) : ∃ t, TyX K H (.ref b) t ∧ PySem.W.kitAny K t [.type "list", .type "tuple"] = some true := by
  rcases h with h | ⟨rfl, o, its, n, h1, h2, _⟩
  · exact ty_lt h
  · exact ⟨.type "tuple", .kTuple h1 h2, kitA kTL kTT⟩
theorem sq_of {k : Bool} {H : Hp} {b : Addr} {xs : List V} (h : sqK k K H b xs) : SqL K H b xs ∨ SqT K H b xs := by
  cases k with
  | true => exact .inl h
  | false => exact .inr h
theorem seq_out {tl : TE} {σ : L2.St} {H0 H : Hp} {b : Addr} {out : List Int} {R : It → Hp → Prop} (h : OutAt K H0 b out) (s : Same H0 H) (hq : ∀ Q : VK, Q (.ref b) H → tl σ H Q) (k : ∀ J, Walk J (out.map V.int).length (fun H' => Same H0 H') (YAt (out.map V.int)) → R J H) : iSeqA K tl σ H R := by
  obtain ⟨kb, hk⟩ := h.k
  cases kb with
  | true => exact .inl (hq _ ⟨b, rfl, ⟨_, hk _ s⟩, k _ ((walk_list (K := K)).mono (fun H' s => hk H' s) fun _ _ _ _ _ _ y => y)⟩)
  | false => exact .inr (hq _ ⟨b, rfl, ⟨_, hk _ s⟩, k _ ((walk_tup (K := K)).mono (fun H' s => hk H' s) fun _ _ _ _ _ _ y => y)⟩)
def spCO (K : PySem.W.Frag) : Sp := fun vs H Q _ => ∃ (b d : Addr) (out : List Int) (rs : Rs), vs = [.ref b, .ref d] ∧ OutAt K H b out ∧ H d = some (.dK (plA rs)) ∧ RsOk rs ∧ (∀ n ∈ out, n ∈ vlA rs) ∧ out.length ≤ 1000 ∧ ∀ H', Same H H' → Q .non H'
theorem ok_check_out (T : Tx K mg C) (G_is_integer : Fnc P w K mg base CX0 1 "is_integer" [] spInt) (F : FD K "check_out" "check_out" s_check_out [] f fd) : FnG P w K mg base CX0 2 f fd ["out", "places"] (spCO K) := by
  refine ok0 F sc_check_out (fun vs H Q E h => ?_) (fun cdv A outer s H vs Q E hr h => ?_)
  · obtain ⟨b, d, out, rs, rfl, _⟩ := h
    rfl
  · obtain ⟨b, d, out, rs, rfl, hb, hd, ok, ho, lo, q⟩ := h
    refine ⟨_, (pss_cons (ps_if (pt_not (pt_val (pe_callB call_isiT (by rfl) T.n_isinstance (by decide +kernel) (pa_cons (pv 0) (pa_cons (pe_tup (pa_cons (pe_bltn (v := .ty "list") (by rfl) T.n_list (by decide +kernel) rfl) (pa_cons (pe_bltn (v := .ty "tuple") (by rfl) T.n_tuple (by decide +kernel) rfl) pa_nil))) pa_nil))))) (pss_one ps_never) pss_nil)
      (pss_one (ps_for PassesOwn.never rfl (pi_enumA (by rfl) T.n_enumerate (pa_cons (pv 0) pa_nil)) (pg_tup rfl (pgs_cons (pg_name (i := 2) sc_check_out.nd rfl (by first | exact Or.inl rfl | exact Or.inr rfl)) (pgs_cons (pg_name (i := 3) sc_check_out.nd rfl (by first | exact Or.inl rfl | exact Or.inr rfl)) pgs_nil))) (pss_one (ps_if (PW.pt (pw_or (pt_not (pt_val (pe_fn G_is_integer (hr.mono (by decide)) pass0 (pa_cons (pv 3) pa_nil)))) (pw_or1 (pt_cmp (pc_dnotin (un1 hr.r.units) (pv 3) (pv 1)) rfl)))) (pss_one ps_never) pss_nil))))), ?_⟩
    refine ⟨_, rfl, (by show 2 ≤ sizeLine; decide), fun tp ntp => ?_⟩
    obtain ⟨G, e, s1, htp⟩ := mkO ntp (.tup [.ty "list", .ty "tuple"])
    rw [e]
    clear e
    obtain ⟨t, ty, kt⟩ := (hb.same s1).ty
    refine ⟨_, _, _, t, _, _, rfl, htp, .cons (.ty _) (.cons (.ty _) .nil), ty, kt, _, rfl, iteF ?_⟩
    obtain ⟨k, hk⟩ := hb.k
    refine ⟨_, rfl, k, b, _, rfl, hk _ s1, ?_⟩
    refine for_it (walk_enumK (K := K) (k := k) (a := b) (xs := out.map V.int)) (fun i σ H' => Same H H' ∧ ∃ u v, σ = [some (.ref b), some (.ref d), u, v]) ⟨s1, none, none, rfl⟩ (fun i σ H' _ h => hk _ h.1) ?_ ?_
    · rintro i x σ H2 H3 hi ⟨s2, u, v, rfl⟩ ⟨t, y, z, rfl, nt, rfl, hy, hz⟩
      cases hy
      have hz : (out.map V.int)[i]? = some z := hz
      rw [List.getElem?_map] at hz
      obtain ⟨n, hn, rfl⟩ := Option.map_eq_some_iff.mp hz
      have s3 := s2.trans (same_upd (o := .tup [.int (i : Nat), .int n]) nt)
      have hm := ho n (List.mem_of_getElem? hn)
      refine ⟨t, _, rfl, SqT.of upd_same, rfl, _, _, rfl, _, _, rfl, rfl, ?_⟩
      refine ⟨_, rfl, n, rfl, _, rfl, iteN (by rw [decide_eq_true (vls_ok ok (Nat.le_refl _) hm).1]; rfl) ⟨_, rfl, _, rfl, d, _, rfl, DGet.k (k := Sum.inl n) (s3 _ _ hd), ?_⟩⟩
      refine ⟨_, rfl, iteN (by unfold plA; rw [plk_is, decide_eq_true hm]; rfl) ⟨s3, _, _, rfl⟩⟩
    · rintro σ H2 ⟨s2, u, v, rfl⟩
      exact q _ s2
/-! ### needed_by, last_needs -/
def spNb : Sp := fun vs H Q _ => ∃ (v : V) (r : Rw), vs = [v] ∧ RwAt H v r ∧ ∀ H' u, Same H H' → OpT H' u r.need → Q u H'
theorem ok_needed_by (T : Tx K mg C) (F : FD K "needed_by" "needed_by" s_needed_by [] f fd) : FnG P w K mg base CX0 1 f fd ["row"] spNb := by
  refine ok0 F sc_needed_by (fun vs H Q E h => ?_) (fun cdv A outer s H vs Q E hr h => ?_)
  · obtain ⟨v, r, rfl, _⟩ := h
    rfl
  · obtain ⟨v, r, rfl, hv, q⟩ := h
    refine ⟨_, (pss_cons (ps_if (pt_cmpR op_eq (pe_ix ix_tup (pv 0) pe_int (fun _ _ => rfl)) (pe_gS T.g_SET) (nomark _)) (pss_one (ps_ret (pe_ix ix_tup (pv 0) pe_int (fun _ _ => rfl)))) pss_nil)
      (pss_one (ps_ret (pe_ifExp (pt_cmpR op_eq (pe_ix ix_tup (pv 0) pe_int (fun _ _ => rfl)) (pe_gS T.g_USE) (nomark _)) (pe_ix ix_tup (pv 0) pe_int (fun _ _ => rfl)) (pe_tup pa_nil))))), ?_⟩
    cases r with
    | leaf n =>
      obtain ⟨t, rfl, ht⟩ := hv
      refine ⟨_, rfl, t, _, _, _, rfl, rfl, SqT.of ht, atI_nat (j := 0) rfl, rfl, _, rfl, iteN sl1 ?_⟩
      refine ⟨_, rfl, t, _, _, _, rfl, rfl, SqT.of ht, atI_nat (j := 0) rfl, rfl, _, rfl, iteN sl2 ?_⟩
      exact ⟨(by show 0 ≤ sizeLine; decide), fun p hp => q _ _ (same_upd hp) ⟨p, rfl, upd_same⟩⟩
    | set n os =>
      obtain ⟨t, u, rfl, ht, hu⟩ := hv
      refine ⟨_, rfl, t, _, _, _, rfl, rfl, SqT.of ht, atI_nat (j := 0) rfl, rfl, _, rfl, iteY ss1 ?_⟩
      exact ⟨_, rfl, t, _, _, _, rfl, rfl, SqT.of ht, atI_nat (j := 2) rfl, q _ _ Same.rfl' hu⟩
    | use os =>
      obtain ⟨t, u, rfl, ht, hu⟩ := hv
      refine ⟨_, rfl, t, _, _, _, rfl, rfl, SqT.of ht, atI_nat (j := 0) rfl, rfl, _, rfl, iteN su1 ?_⟩
      refine ⟨_, rfl, t, _, _, _, rfl, rfl, SqT.of ht, atI_nat (j := 0) rfl, rfl, _, rfl, iteY su2 ?_⟩
      exact ⟨_, rfl, t, _, _, _, rfl, rfl, SqT.of ht, atI_nat (j := 1) rfl, q _ _ Same.rfl' hu⟩
    | stop l os =>
      obtain ⟨t, u, rfl, ht, hu⟩ := hv
      refine ⟨_, rfl, t, _, _, _, rfl, rfl, SqT.of ht, atI_nat (j := 0) rfl, rfl, _, rfl, iteN st1 ?_⟩
      refine ⟨_, rfl, t, _, _, _, rfl, rfl, SqT.of ht, atI_nat (j := 0) rfl, rfl, _, rfl, iteN st2 ?_⟩
      exact ⟨(by show 0 ≤ sizeLine; decide), fun p hp => q _ _ (same_upd hp) ⟨p, rfl, upd_same⟩⟩
def spLn (K : PySem.W.Frag) : Sp := fun vs H Q _ => ∃ (a b : Addr) (rs : Rs) (out : List Int), vs = [.ref a, .ref b] ∧ RsAt H a rs ∧ RsOk rs ∧ OutAt K H b out ∧ out.length ≤ 1000 ∧ ∀ H' d, Same H H' → H d = none → H' d = some (.dK (nkA rs out)) → Q (.ref d) H'
theorem ok_last_needs (T : Tx K mg C) (G_needed_by : Fnc P w K mg base CX0 1 "needed_by" [] spNb) (F : FD K "last_needs" "last_needs" s_last_needs [] f fd) : FnG P w K mg base CX0 2 f fd ["rows", "out"] (spLn K) := by
  refine ok0 F sc_last_needs (fun vs H Q E h => ?_) (fun cdv A outer s H vs Q E hr h => ?_)
  · obtain ⟨a, b, rs, out, rfl, _⟩ := h
    rfl
  · obtain ⟨a, b, rs, out, rfl, ⟨ls, hl, rws⟩, ok, hb, lo, q⟩ := h
    refine ⟨_, (pss_cons (ps_set (i := 2) sc_last_needs.nd rfl (by first | exact Or.inl rfl | exact Or.inr rfl) pe_dnewK)
      (pss_cons (ps_for PassesOwn.never rfl (pi_enumA (by rfl) T.n_enumerate (pa_cons (pv 0) pa_nil)) (pg_tup rfl (pgs_cons (pg_name (i := 3) sc_last_needs.nd rfl (by first | exact Or.inl rfl | exact Or.inr rfl)) (pgs_cons (pg_name (i := 4) sc_last_needs.nd rfl (by first | exact Or.inl rfl | exact Or.inr rfl)) pgs_nil))) (pss_one (ps_for PassesOwn.never rfl (pi_tup (pe_fn G_needed_by (hr.mono (by decide)) pass0 (pa_cons (pv 4) pa_nil))) (pg_name (i := 5) sc_last_needs.nd rfl (by first | exact Or.inl rfl | exact Or.inr rfl)) (pss_one (ps_dput (un1 hr.r.units) (pv 2) (pv 5) (pv 3) rfl)))))
      (pss_cons (ps_for PassesOwn.never rfl (pi_seqA (pv 1)) (pg_name (i := 5) sc_last_needs.nd rfl (by first | exact Or.inl rfl | exact Or.inr rfl)) (pss_one (ps_dput (un1 hr.r.units) (pv 2) (pv 5) (pe_callB call_len_seq (by rfl) T.n_len (by decide +kernel) (pa_cons (pv 0) pa_nil)) rfl)))
      (pss_one (ps_ret (pv 2)))))), ?_⟩
    refine fun d nd0 => ?_
    obtain ⟨G2, e, s12, hd⟩ := mkO nd0 (.dK [])
    rw [e]
    clear e
    have ll := ok.len
    obtain ⟨k, hk⟩ := hl.k (K := K)
    refine ⟨_, rfl, k, a, ls, rfl, sqK_same hk s12, ?_⟩
    refine for_it (walk_enumK (K := K) (k := k) (a := a) (xs := ls)) (fun i σ H' => Same H H' ∧ H' d = some (.dK (nk rs i)) ∧ ∃ u v x, σ = [some (.ref a), some (.ref b), some (.ref d), u, v, x]) ⟨s12, hd, none, none, none, rfl⟩ (fun i σ H' _ h => sqK_same hk h.1) ?_ ?_
    · rintro i x σ H2 H3 hi ⟨s2, hd2, u, v, x', rfl⟩ ⟨t, y, z, rfl, nt, rfl, hy, hz⟩
      cases hy
      have il : i < rs.length := by rw [← rws.len]; exact hi
      have s3 := s2.trans (same_upd (o := .tup [.int (i : Nat), z]) nt)
      have hd3 := same_upd (o := .tup [.int (i : Nat), z]) nt _ _ hd2
      refine ⟨t, _, rfl, SqT.of upd_same, rfl, _, _, rfl, _, _, rfl, rfl, ?_⟩
      refine ⟨_, rfl, z, rw rs i, rfl, (rws.at_ i z hz).same s3, fun H4 u4 s4 hu => ?_⟩
      obtain ⟨o, rfl, ho⟩ := hu
      have nl : ((rw rs i).need.map V.int).length ≤ 3 := by
        rw [List.length_map]
        exact Nat.le_trans (need_le _) (ok.z i il).opl
      have kl := nk_len ok i (by omega)
      refine ⟨o, rfl, ⟨_, SqT.of ho⟩, ?_⟩
      refine for_it (walk_tup (K := K) (a := o) (xs := (rw rs i).need.map V.int)) (fun j σ H' => Same H H' ∧ H' o = some (.tup ((rw rs i).need.map V.int)) ∧ H' d = some (.dK (putAll (nk rs i) i ((rw rs i).need.take j))) ∧ ∃ x, σ = [some (.ref a), some (.ref b), some (.ref d), some (.int (i : Nat)), some z, x]) ⟨s3.trans s4, ho, s4 _ _ hd3, _, rfl⟩ (fun j σ H' _ h => SqT.of h.2.1) ?_ ?_
      · rintro j x σ H5 H6 hj ⟨s5, ho5, hd5, x5, rfl⟩ ⟨rfl, hx⟩
        rw [List.getElem?_map] at hx
        obtain ⟨n, hn, rfl⟩ := Option.map_eq_some_iff.mp hx
        have pl := putAll_len i ((rw rs i).need.take j) (nk rs i)
        rw [List.length_take] at pl
        rw [List.length_map] at nl
        refine ⟨_, rfl, _, rfl, _, rfl, d, _, rfl, DPut.k (k := Sum.inl n) hd5 (Nat.lt_of_lt_of_le (show _ < 100000 by omega) (small (Nat.le_refl _))), own_same s5 nd0, ?_, ?_, _, rfl⟩
        · rw [upd_ne fun z => by rw [z, hd5] at ho5; cases ho5]
          exact ho5
        · rw [upd_same, List.take_add_one, hn, Option.toList_some, ST.putAll_snoc]
      · rintro σ H5 ⟨s5, ho5, hd5, x5, rfl⟩
        rw [List.length_map, List.take_length] at hd5
        exact ⟨s5, hd5, _, _, _, rfl⟩
    · rintro σ H2 ⟨s2, hd2, u, v, x, rfl⟩
      rw [rws.len] at hd2
      refine seq_out hb s2 (fun Q h => ⟨_, rfl, h⟩) fun J wk => ?_
      have kl := nk_len ok rs.length (Nat.le_refl _)
      refine for_it wk (fun j σ H' => Same H H' ∧ H' d = some (.dK (putAll (nk rs rs.length) rs.length (out.take j))) ∧ ∃ u v x, σ = [some (.ref a), some (.ref b), some (.ref d), u, v, x]) ⟨s2, hd2, u, v, x, rfl⟩ (fun j σ H' _ h => h.1) ?_ ?_
      · rintro j x σ H5 H6 hj ⟨s5, hd5, u5, v5, x5, rfl⟩ ⟨rfl, hx⟩
        rw [List.getElem?_map] at hx
        obtain ⟨n, hn, rfl⟩ := Option.map_eq_some_iff.mp hx
        have pl := putAll_len rs.length (out.take j) (nk rs rs.length)
        rw [List.length_take] at pl
        refine ⟨_, rfl, a, ls, rfl, (sq_of (sqK_same hk s5)), _, rfl, _, rfl, d, _, rfl, DPut.k (k := Sum.inl n) hd5 (Nat.lt_of_lt_of_le (show _ < 100000 by omega) (small (Nat.le_refl _))), own_same s5 nd0, ?_, _, _, _, rfl⟩
        rw [upd_same, List.take_add_one, hn, Option.toList_some, ST.putAll_snoc, rws.len]
      · rintro σ H5 ⟨s5, hd5, u5, v5, x5, rfl⟩
        rw [List.length_map, List.take_length] at hd5
        exact ⟨_, rfl, q _ d s5 nd0 hd5⟩
end
end K62

set_option Elab.async false
set_option linter.all false
set_option maxRecDepth 100000
set_option maxHeartbeats 2000000
/-! O61b: the class Stretch. -/
namespace K62
open PySem PySem.Spec PyProof.Rows L2 LL ST
abbrev s_Stretchinit : Stmt := inClass (top 30) 0
abbrev n_Stretchinit : List Str := ["self", "rows", "out", "position", "row"]
theorem sc_Stretchinit : FnScope n_Stretchinit ["self", "rows", "out"] (defScope s_Stretchinit) := ⟨rfl, rfl, rfl, by decide +kernel, rfl, by decide +kernel, by decide +kernel⟩
abbrev s_Stretch_stops : Stmt := inClass (top 30) 4
abbrev n_Stretch_stops : List Str := ["self", "place"]
theorem sc_Stretch_stops : FnScope n_Stretch_stops ["self"] (defScope s_Stretch_stops) := ⟨rfl, rfl, rfl, by decide +kernel, rfl, by decide +kernel, by decide +kernel⟩
abbrev s_Stretch_is_value : Stmt := inClass (top 30) 5
abbrev n_Stretch_is_value : List Str := ["self", "thing"]
theorem sc_Stretch_is_value : FnScope n_Stretch_is_value ["self", "thing"] (defScope s_Stretch_is_value) := ⟨rfl, rfl, rfl, by decide +kernel, rfl, by decide +kernel, by decide +kernel⟩
abbrev s_Stretch_is_stop : Stmt := inClass (top 30) 6
abbrev n_Stretch_is_stop : List Str := ["self", "thing"]
theorem sc_Stretch_is_stop : FnScope n_Stretch_is_stop ["self", "thing"] (defScope s_Stretch_is_stop) := ⟨rfl, rfl, rfl, by decide +kernel, rfl, by decide +kernel, by decide +kernel⟩
abbrev s_Stretch_check_value : Stmt := inClass (top 30) 7
abbrev n_Stretch_check_value : List Str := ["self", "thing"]
theorem sc_Stretch_check_value : FnScope n_Stretch_check_value ["self", "thing"] (defScope s_Stretch_check_value) := ⟨rfl, rfl, rfl, by decide +kernel, rfl, by decide +kernel, by decide +kernel⟩
abbrev s_Stretch_check_stop : Stmt := inClass (top 30) 8
abbrev n_Stretch_check_stop : List Str := ["self", "thing"]
theorem sc_Stretch_check_stop : FnScope n_Stretch_check_stop ["self", "thing"] (defScope s_Stretch_check_stop) := ⟨rfl, rfl, rfl, by decide +kernel, rfl, by decide +kernel, by decide +kernel⟩
abbrev s_Stretch_operands : Stmt := inClass (top 30) 9
abbrev n_Stretch_operands : List Str := ["self", "value", "row"]
theorem sc_Stretch_operands : FnScope n_Stretch_operands ["self", "value"] (defScope s_Stretch_operands) := ⟨rfl, rfl, rfl, by decide +kernel, rfl, by decide +kernel, by decide +kernel⟩
abbrev s_Stretch_asked : Stmt := inClass (top 30) 10
abbrev n_Stretch_asked : List Str := ["self", "stop"]
theorem sc_Stretch_asked : FnScope n_Stretch_asked ["self", "stop"] (defScope s_Stretch_asked) := ⟨rfl, rfl, rfl, by decide +kernel, rfl, by decide +kernel, by decide +kernel⟩
abbrev s_Stretch_is_present : Stmt := inClass (top 30) 11
abbrev n_Stretch_is_present : List Str := ["self", "value", "stop"]
theorem sc_Stretch_is_present : FnScope n_Stretch_is_present ["self", "value", "stop"] (defScope s_Stretch_is_present) := ⟨rfl, rfl, rfl, by decide +kernel, rfl, by decide +kernel, by decide +kernel⟩
abbrev s_Stretch_is_live : Stmt := inClass (top 30) 12
abbrev n_Stretch_is_live : List Str := ["self", "value", "stop"]
theorem sc_Stretch_is_live : FnScope n_Stretch_is_live ["self", "value", "stop"] (defScope s_Stretch_is_live) := ⟨rfl, rfl, rfl, by decide +kernel, rfl, by decide +kernel, by decide +kernel⟩
abbrev s_Stretch_present : Stmt := inClass (top 30) 13
abbrev n_Stretch_present : List Str := ["self", "stop", "value"]
theorem sc_Stretch_present : FnScope n_Stretch_present ["self", "stop"] (defScope s_Stretch_present) := ⟨rfl, rfl, rfl, by decide +kernel, rfl, by decide +kernel, by decide +kernel⟩
/-! ### all but instances stays -/
def KI (H G : Hp) : Prop := ∀ b o, H b = some o → (∀ C dx fs, o ≠ .ins C dx fs) → G b = some o
theorem KI.of {H G : Hp} (s : Same H G) : KI H G := fun b o e _ => s b o e
theorem KI.trans {H G J : Hp} (a : KI H G) (b : KI G J) : KI H J := fun x o e n => b x o (a x o e n) n
theorem ki_but {p C dx : Addr} {fs : List (Str × V)} {H G : Hp} (b : But p H G) (hp : H p = some (.ins C dx fs)) : KI H G := fun x o e n => b x o e fun z => by
  rw [z, hp] at e
  exact n _ _ _ (Option.some.inj e).symm
theorem OpT.ki {H H' : Hp} {u : V} {os : List Int} (h : OpT H u os) (s : KI H H') : OpT H' u os := let ⟨o, e, x⟩ := h; ⟨o, e, s _ _ x (fun _ _ _ z => nomatch z)⟩
theorem RwAt.ki {H H' : Hp} {v : V} {r : Rw} (h : RwAt H v r) (s : KI H H') : RwAt H' v r := by
  cases r with
  | leaf n => exact let ⟨t, e, x⟩ := h; ⟨t, e, s _ _ x (fun _ _ _ z => nomatch z)⟩
  | set n os => exact let ⟨t, u, e, x, o⟩ := h; ⟨t, u, e, s _ _ x (fun _ _ _ z => nomatch z), o.ki s⟩
  | use os => exact let ⟨t, u, e, x, o⟩ := h; ⟨t, u, e, s _ _ x (fun _ _ _ z => nomatch z), o.ki s⟩
  | stop l os => exact let ⟨t, u, e, x, o⟩ := h; ⟨t, u, e, s _ _ x (fun _ _ _ z => nomatch z), o.ki s⟩
theorem Rws.ki {H H' : Hp} {vs : List V} {rs : Rs} (h : Rws H vs rs) (s : KI H H') : Rws H' vs rs := ⟨h.len, fun i v e => (h.at_ i v e).ki s⟩
theorem lt_ki {H H' : Hp} {a : Addr} {vs : List V} (h : Lt H a vs) (s : KI H H') : Lt H' a vs := h.imp (fun h => s _ _ h (fun _ _ _ z => nomatch z)) fun h => s _ _ h (fun _ _ _ z => nomatch z)
theorem RsAt.ki {H H' : Hp} {a : Addr} {rs : Rs} (h : RsAt H a rs) (s : KI H H') : RsAt H' a rs := let ⟨vs, l, g⟩ := h; ⟨vs, lt_ki l s, g.ki s⟩
theorem OutAt.ki {K : PySem.W.Frag} {H H' : Hp} {b : Addr} {out : List Int} (h : OutAt K H b out) (s : KI H H') : OutAt K H' b out := h.imp (lt_ki · s) id
/-- beside p all stays, and what is free now was free -/
structure Bp (p : Addr) (H G : Hp) : Prop where
  but : But p H G
  fr : ∀ x, G x = none → H x = none
theorem bp_refl {p : Addr} {H : Hp} : Bp p H H := ⟨.refl, fun _ h => h⟩
theorem Bp.st {p : Addr} {H G : Hp} {o : HO} (b : Bp p H G) : Bp p H (upd G p o) := by
  refine ⟨fun c x e n => by rw [upd_ne n]; exact b.but c x e n, fun x hx => ?_⟩
  by_cases c : x = p
  · rw [c, upd_same] at hx
    cases hx
  · rw [upd_ne c] at hx
    exact b.fr x hx
theorem Bp.sm {p : Addr} {H G J : Hp} (b : Bp p H G) (s : Same G J) : Bp p H J := ⟨fun c x e n => s _ _ (b.but c x e n), fun x hx => b.fr x (s.free hx)⟩
/-! ### the object -/
structure StF (fs : List (Str × V)) (vp ow oo sp np : Addr) : Prop where
  v : fs.lookup ("value_places" : Str) = some (.ref vp)
  r : fs.lookup ("own_rows" : Str) = some (.ref ow)
  o : fs.lookup ("own_out" : Str) = some (.ref oo)
  s : fs.lookup ("stop_places" : Str) = some (.ref sp)
  n : fs.lookup ("need_places" : Str) = some (.ref np)
  no : ∀ m : Str, m ≠ "value_places" → m ≠ "own_rows" → m ≠ "own_out" → m ≠ "stop_places" → m ≠ "need_places" → fs.lookup m = none
  ne : vp ≠ np
abbrev sfs (vp ow oo sp np : Addr) : List (Str × V) := putF "need_places" (.ref np) (putF "stop_places" (.ref sp) (putF "own_out" (.ref oo) (putF "own_rows" (.ref ow) (putF "value_places" (.ref vp) []))))
theorem stf_new (vp ow oo sp np : Addr) (h : vp ≠ np) : StF (sfs vp ow oo sp np) vp ow oo sp np := by
  refine ⟨?_, ?_, ?_, ?_, ?_, fun m h1 h2 h3 h4 h5 => ?_, h⟩
  · repeat (first | rw [lookup_putF, if_neg (by decide +kernel)] | rw [lookup_putF, if_pos rfl])
  · repeat (first | rw [lookup_putF, if_neg (by decide +kernel)] | rw [lookup_putF, if_pos rfl])
  · repeat (first | rw [lookup_putF, if_neg (by decide +kernel)] | rw [lookup_putF, if_pos rfl])
  · repeat (first | rw [lookup_putF, if_neg (by decide +kernel)] | rw [lookup_putF, if_pos rfl])
  · rw [lookup_putF, if_pos rfl]
  · rw [lookup_putF, if_neg h5, lookup_putF, if_neg h4, lookup_putF, if_neg h3, lookup_putF, if_neg h2, lookup_putF, if_neg h1]
    rfl
abbrev nV (l : List Nat) : List V := l.map fun s => V.int (s : Nat)
/-- a stretch that may be walked -/
structure StW (C : Addr) (H : Hp) (p dx : Addr) (fs : List (Str × V)) (vp ow oo sp np : Addr) (ls : List V) (rs : Rs) (out : List Int) : Prop where
  h : H p = some (.ins C dx fs)
  f : StF fs vp ow oo sp np
  hv : Rd H vp (.dK (plA rs))
  hr : H ow = some (.lst ls)
  rw : Rws H ls rs
  ho : H oo = some (.lst (out.map V.int))
  hs : H sp = some (.lst (nV (stA rs)))
  hn : Rd H np (.dK (nkA rs out))
theorem StW.same {C : Addr} {H H' : Hp} {p dx vp ow oo sp np : Addr} {fs : List (Str × V)} {ls : List V} {rs : Rs} {out : List Int} (z : StW C H p dx fs vp ow oo sp np ls rs out) (s : Same H H') : StW C H' p dx fs vp ow oo sp np ls rs out :=
  ⟨s _ _ z.h, z.f, rd_same z.hv s, s _ _ z.hr, z.rw.same s, s _ _ z.ho, s _ _ z.hs, rd_same z.hn s⟩
def StV (C : Addr) (H : Hp) (p : Addr) (rs : Rs) (out : List Int) : Prop := ∃ dx fs vp ow oo sp np ls, StW C H p dx fs vp ow oo sp np ls rs out
theorem StV.same {C : Addr} {H H' : Hp} {p : Addr} {rs : Rs} {out : List Int} (z : StV C H p rs out) (s : Same H H') : StV C H' p rs out := let ⟨dx, fs, vp, ow, oo, sp, np, ls, z⟩ := z; ⟨dx, fs, vp, ow, oo, sp, np, ls, z.same s⟩
def StAt (C : Addr) (H : Hp) (p : Addr) (rs : Rs) (out : List Int) : Prop := ∃ dx fs vp ow oo sp np ls, StW C H p dx fs vp ow oo sp np ls rs out ∧ H vp = some (.dK (plA rs))
theorem StAt.same {C : Addr} {H H' : Hp} {p : Addr} {rs : Rs} {out : List Int} (z : StAt C H p rs out) (s : Same H H') : StAt C H' p rs out := let ⟨dx, fs, vp, ow, oo, sp, np, ls, z, h⟩ := z; ⟨dx, fs, vp, ow, oo, sp, np, ls, z.same s, s _ _ h⟩
theorem StAt.v {C : Addr} {H : Hp} {p : Addr} {rs : Rs} {out : List Int} (z : StAt C H p rs out) : StV C H p rs out := let ⟨dx, fs, vp, ow, oo, sp, np, ls, z, h⟩ := z; ⟨dx, fs, vp, ow, oo, sp, np, ls, z⟩
/-- .. of parts that are new in H0 -/
def StNw (C : Addr) (H0 H : Hp) (p : Addr) (rs : Rs) (out : List Int) : Prop := ∃ dx fs vp ow oo sp np ls, StW C H p dx fs vp ow oo sp np ls rs out ∧ H vp = some (.dK (plA rs)) ∧ H0 vp = none ∧ H0 ow = none ∧ H0 oo = none ∧ H0 sp = none ∧ H0 np = none
theorem StNw.at {C : Addr} {H0 H : Hp} {p : Addr} {rs : Rs} {out : List Int} (z : StNw C H0 H p rs out) : StAt C H p rs out := let ⟨dx, fs, vp, ow, oo, sp, np, ls, z, h, _⟩ := z; ⟨dx, fs, vp, ow, oo, sp, np, ls, z, h⟩
theorem StNw.same {C : Addr} {H0 H H' : Hp} {p : Addr} {rs : Rs} {out : List Int} (z : StNw C H0 H p rs out) (s : Same H H') : StNw C H0 H' p rs out := let ⟨dx, fs, vp, ow, oo, sp, np, ls, z, h, n⟩ := z; ⟨dx, fs, vp, ow, oo, sp, np, ls, z.same s, s _ _ h, n⟩
theorem StNw.lo {C : Addr} {H0 H1 H : Hp} {p : Addr} {rs : Rs} {out : List Int} (z : StNw C H1 H p rs out) (s : Same H0 H1) : StNw C H0 H p rs out := let ⟨dx, fs, vp, ow, oo, sp, np, ls, z, h, n1, n2, n3, n4, n5⟩ := z; ⟨dx, fs, vp, ow, oo, sp, np, ls, z, h, s.free n1, s.free n2, s.free n3, s.free n4, s.free n5⟩
theorem StNw.but {C : Addr} {H0 H H' : Hp} {p g : Addr} {rs : Rs} {out : List Int} {o0 : HO} {xs : List V} (z : StNw C H0 H p rs out) (h0 : H0 g = some o0) (hg : H g = some (.lst xs)) (b : But g H H') : StNw C H0 H' p rs out := by
  obtain ⟨dx, fs, vp, ow, oo, sp, np, ls, z, h, n1, n2, n3, n4, n5⟩ := z
  have nv : vp ≠ g := fun e => by rw [e, h0] at n1; cases n1
  have nw : ow ≠ g := fun e => by rw [e, h0] at n2; cases n2
  have no : oo ≠ g := fun e => by rw [e, h0] at n3; cases n3
  have ns : sp ≠ g := fun e => by rw [e, h0] at n4; cases n4
  have nn : np ≠ g := fun e => by rw [e, h0] at n5; cases n5
  have npp : p ≠ g := fun e => by
    have := z.h
    rw [e, hg] at this
    cases this
  have kt : ∀ t ys, H t = some (.tup ys) → H' t = some (.tup ys) := fun t ys e => b _ _ e fun c => by rw [c, hg] at e; cases e
  refine ⟨dx, fs, vp, ow, oo, sp, np, ls, ⟨b _ _ z.h npp, z.f, .inl (b _ _ h nv), b _ _ z.hr nw, ⟨z.rw.len, fun i v e => ?_⟩, b _ _ z.ho no, b _ _ z.hs ns, ?_⟩, b _ _ h nv, n1, n2, n3, n4, n5⟩
  · have ra := z.rw.at_ i v e
    cases er : ST.rw rs i with
    | leaf n =>
      rw [er] at ra
      obtain ⟨t, e, x⟩ := ra
      exact ⟨t, e, kt _ _ x⟩
    | set n os =>
      rw [er] at ra
      obtain ⟨t, u, e, x, y, ey, hy⟩ := ra
      exact ⟨t, u, e, kt _ _ x, y, ey, kt _ _ hy⟩
    | use os =>
      rw [er] at ra
      obtain ⟨t, u, e, x, y, ey, hy⟩ := ra
      exact ⟨t, u, e, kt _ _ x, y, ey, kt _ _ hy⟩
    | stop l os =>
      rw [er] at ra
      obtain ⟨t, u, e, x, y, ey, hy⟩ := ra
      exact ⟨t, u, e, kt _ _ x, y, ey, kt _ _ hy⟩
  · rcases z.hn with h | ⟨x, h⟩
    · exact .inl (b _ _ h nn)
    · exact .inr ⟨x, b _ _ h nn⟩
theorem StNw.upd {C : Addr} {H0 H : Hp} {p g : Addr} {rs : Rs} {out : List Int} {o o0 : HO} {xs : List V} (z : StNw C H0 H p rs out) (h0 : H0 g = some o0) (hg : H g = some (.lst xs)) : StNw C H0 (L2.upd H g o) p rs out := z.but h0 hg but_upd
theorem lt1000 {fs : List (Str × V)} {f : Str} {v : V} {k : Nat} (h : fs.length ≤ k) : (putF f v fs).length ≤ k + 1 := Nat.le_trans (length_putF f v fs) (Nat.add_le_add_right h 1)
section
variable {P : Program} {w : World} {K : PySem.W.Frag} {mg : Str → Option Value} {base : Heap} {C : Addr} {f : Addr} {fd : FuncData}
/-! ### __init__ -/
def spSI (K : PySem.W.Frag) (C : Addr) : Sp := fun vs H Q _ => ∃ (p dx a b : Addr) (rs : Rs) (out : List Int), vs = [.ref p, .ref a, .ref b] ∧ H p = some (.ins C dx []) ∧ RsAt H a rs ∧ RsOk rs ∧ OutAt K H b out ∧ (∀ n ∈ out, n ∈ vlA rs) ∧ out.length ≤ 100 ∧
  ∀ H', StNw C H H' p rs out → But p H H' → Q .non H'
theorem ok_sinit (T : Tx K mg C) (G_places_in : Fnc P w K mg base CX0 4 "places_in" [] spPl) (G_check_out : Fnc P w K mg base CX0 2 "check_out" [] (spCO K)) (G_last_needs : Fnc P w K mg base CX0 2 "last_needs" [] (spLn K)) {T0 : Addr}
    (F : FD K "__init__" "Stretch.__init__" s_Stretchinit [.ref T0] f fd) : FnG P w K mg base CX0 5 f fd ["self", "rows", "out"] (spSI K C) := by
  refine ok0 F sc_Stretchinit (fun vs H Q E h => ?_) (fun cdv A outer s H vs Q E hr h => ?_)
  · obtain ⟨p, dx, a, b, rs, out, rfl, _⟩ := h
    rfl
  · obtain ⟨p, dx, a, b, rs, out, rfl, hp, ha, ok, hb, ho, lo, q⟩ := h
    refine ⟨_, (pss_cons (ps_fld (pv 0) (pe_fn G_places_in (hr.mono (by decide)) pass0 (pa_cons (pv 1) pa_nil)) rfl)
      (pss_cons (ps_expr (pe_fn G_check_out (hr.mono (by decide)) pass0 (pa_cons (pv 2) (pa_cons (pe_fld (pv 0) rfl) pa_nil))))
      (pss_cons (ps_fld (pv 0) (pe_callTy call_list_of (by rfl) T.n_list (by decide +kernel) (pa_cons (pv 1) pa_nil)) rfl)
      (pss_cons (ps_fld (pv 0) (pe_callTy call_list_of (by rfl) T.n_list (by decide +kernel) (pa_cons (pv 2) pa_nil)) rfl)
      (pss_cons (ps_fld (pv 0) (pe_lc (g := (gTup K 2 (gCons (gName 3) (gCons (gName 4) gNil)))) (own := [("position", 3), ("row", 4)]) rfl sc_Stretchinit.nd (pi_enumA (by rfl) T.n_enumerate (pa_cons (pv 1) pa_nil)) (blkOk_by (own := [("position", 3), ("row", 4)]) (N := n_Stretchinit) (sc := defScope s_Stretchinit) (by decide +kernel)) (fun _ _ _ _ _ => (pg_tup rfl (pgs_cons (pg_name (i := 3) sc_Stretchinit.nd rfl (by first | exact Or.inl rfl | exact Or.inr rfl)) (pgs_cons (pg_name (i := 4) sc_Stretchinit.nd rfl (by first | exact Or.inl rfl | exact Or.inr rfl)) pgs_nil)))) (fun _ _ _ _ _ => (pts_one (pt_cmpR op_eq (pe_ix (ix_tupK (K := K) (by rfl)) (pv 4) pe_int (fun _ _ => rfl)) (pe_gS T.g_STOP) (nomark _)))) (fun _ _ _ _ _ => (pv 3))) rfl)
      (pss_one (ps_fld (pv 0) (pe_fn G_last_needs (hr.mono (by decide)) pass0 (pa_cons (pv 1) (pa_cons (pv 2) pa_nil))) rfl))))))), ?_⟩
    have lr := ok.len
    obtain ⟨ls, hl, rws⟩ := id ha
    refine ⟨_, rfl, a, rs, rfl, ha, ok, fun G1 vp s1 nvp hv1 => ?_⟩
    have hp1 := s1 _ _ hp
    have B1 : Bp p H G1 := bp_refl.sm s1
    refine ⟨_, rfl, p, C, dx, [], rfl, hp1, T.cl, T.a1, (by show 0 < 1000; decide), ?_⟩
    have k1 := lt1000 (f := "value_places") (v := .ref vp) (fs := []) (k := 0) (Nat.le_refl _)
    have nvp' : vp ≠ p := fun z => by rw [z, hp] at nvp; cases nvp
    have B2 := B1.st (o := .ins C dx (putF "value_places" (.ref vp) []))
    obtain ⟨G2, e2⟩ : ∃ G2, G2 = upd G1 p (.ins C dx (putF "value_places" (.ref vp) [])) := ⟨_, rfl⟩
    have hp2 : G2 p = some (.ins C dx (putF "value_places" (.ref vp) [])) := by rw [e2, upd_same]
    have hv2 : G2 vp = some (.dK (plA rs)) := by rw [e2, upd_ne nvp']; exact hv1
    rw [← e2] at B2 ⊢
    clear e2
    have ki2 := ki_but B2.but hp
    refine ⟨_, rfl, _, rfl, p, C, dx, _, _, rfl, hp2, T.cl, T.a1, (by rw [lookup_putF, if_pos rfl]), b, vp, out, rs, rfl, hb.ki ki2, hv2, ok, ho, by omega, fun G3 s3 => ?_⟩
    have B3 := B2.sm s3
    have hp3 := s3 _ _ hp2
    have ki3 := ki_but B3.but hp
    have hl3 := lt_ki hl ki3
    refine ⟨_, rfl, a, ls, rfl, hl3.sq, fun ow now => ?_⟩
    obtain ⟨G4, e4, s4, how⟩ := mkO now (.lst ls)
    rw [e4]
    clear e4
    have B4 := B3.sm s4
    have hp4 := s4 _ _ hp3
    refine ⟨_, rfl, p, C, dx, _, rfl, hp4, T.cl, T.a2, by omega, ?_⟩
    have k2 := lt1000 (f := "own_rows") (v := .ref ow) k1
    have nowp : ow ≠ p := fun z => by rw [z, hp4] at how; cases how
    have B5 := B4.st (o := .ins C dx (putF "own_rows" (.ref ow) (putF "value_places" (.ref vp) [])))
    obtain ⟨G5, e5⟩ : ∃ G5, G5 = upd G4 p (.ins C dx (putF "own_rows" (.ref ow) (putF "value_places" (.ref vp) []))) := ⟨_, rfl⟩
    have hp5 : G5 p = some (.ins C dx (putF "own_rows" (.ref ow) (putF "value_places" (.ref vp) []))) := by rw [e5, upd_same]
    have hv5 : G5 vp = some (.dK (plA rs)) := by rw [e5, upd_ne nvp']; exact s4 _ _ (s3 _ _ hv2)
    have how5 : G5 ow = some (.lst ls) := by rw [e5, upd_ne nowp]; exact how
    rw [← e5] at B5 ⊢
    clear e5
    have ki5 := ki_but B5.but hp
    obtain ⟨kb, hkb⟩ := (hb.ki ki5).k
    refine ⟨_, rfl, b, _, rfl, sq_of (hkb _ Same.rfl'), fun oo noo => ?_⟩
    obtain ⟨G6, e6, s6, hoo⟩ := mkO noo (.lst (out.map V.int))
    rw [e6]
    clear e6
    have B6 := B5.sm s6
    have hp6 := s6 _ _ hp5
    refine ⟨_, rfl, p, C, dx, _, rfl, hp6, T.cl, T.a3, by omega, ?_⟩
    have k3 := lt1000 (f := "own_out") (v := .ref oo) k2
    have noop : oo ≠ p := fun z => by rw [z, hp6] at hoo; cases hoo
    have B7 := B6.st (o := .ins C dx (putF "own_out" (.ref oo) (putF "own_rows" (.ref ow) (putF "value_places" (.ref vp) []))))
    obtain ⟨G7, e7⟩ : ∃ G7, G7 = upd G6 p (.ins C dx (putF "own_out" (.ref oo) (putF "own_rows" (.ref ow) (putF "value_places" (.ref vp) [])))) := ⟨_, rfl⟩
    have hp7 : G7 p = some (.ins C dx (putF "own_out" (.ref oo) (putF "own_rows" (.ref ow) (putF "value_places" (.ref vp) [])))) := by rw [e7, upd_same]
    have hv7 : G7 vp = some (.dK (plA rs)) := by rw [e7, upd_ne nvp']; exact s6 _ _ hv5
    have how7 : G7 ow = some (.lst ls) := by rw [e7, upd_ne nowp]; exact s6 _ _ how5
    have hoo7 : G7 oo = some (.lst (out.map V.int)) := by rw [e7, upd_ne noop]; exact hoo
    rw [← e7] at B7 ⊢
    clear e7
    have ki7 := ki_but B7.but hp
    have hl7 := lt_ki hl ki7
    have rw7 := rws.ki ki7
    obtain ⟨k, hk⟩ := hl7.k (K := K)
    refine ⟨_, rfl, k, a, ls, rfl, hk, fun D nD => ?_⟩
    refine lc_acc (walk_enumK (K := K) (k := k) (a := a) (xs := ls)) nD (fun j => nV (stp rs j)) rfl (fun j hj => ?_) (fun H' s' => sqK_same hk s') ?_ ?_
    · have := stp_len rs j
      rw [List.length_map]
      have := rw7.len
      omega
    · rintro i x H2 H3 hi s2 ⟨t, y, z, rfl, nt, rfl, hy, hz⟩ N S hN hS
      cases hy
      have ra := (rw7.at_ i z hz).same (s2.trans (same_upd (o := .tup [.int (i : Nat), z]) nt))
      obtain ⟨t', x', xs', rfl, ht, h⟩ := row_tup ra
      refine ⟨t, _, rfl, SqT.of upd_same, rfl, _, _, rfl, _, _, rfl, rfl, rfl, ?_⟩
      refine ⟨_, rfl, t', _, _, _, rfl, rfl, SqT.of ht, atI_nat (j := 0) rfl, rfl, ?_⟩
      rcases h with ⟨rfl, n, er, rfl⟩ | ⟨rfl, n, os, u, er, rfl, hu⟩ | ⟨rfl, os, u, er, rfl, hu⟩ | ⟨rfl, l, os, u, er, rfl, hu⟩
      · refine ⟨_, rfl, iteN sl3 (hS _ (same_upd nt) ?_)⟩
        rw [stp, er]
        simp [Rw.isStop]
      · refine ⟨_, rfl, iteN ss3 (hS _ (same_upd nt) ?_)⟩
        rw [stp, er]
        simp [Rw.isStop]
      · refine ⟨_, rfl, iteN su3 (hS _ (same_upd nt) ?_)⟩
        rw [stp, er]
        simp [Rw.isStop]
      · refine ⟨_, rfl, iteY st3 ⟨_, rfl, hN _ _ (same_upd nt) ?_⟩⟩
        rw [stp, er, show (Rw.stop l os).isStop = true from rfl, if_pos rfl]
        exact List.map_append ..
    intro G8 s8 hD
    rw [rw7.len] at hD
    have B8 := B7.sm s8
    have hp8 := s8 _ _ hp7
    refine ⟨_, rfl, p, C, dx, _, rfl, hp8, T.cl, T.a4, by omega, ?_⟩
    have k4 := lt1000 (f := "stop_places") (v := .ref D) k3
    have nDp : D ≠ p := fun z => by rw [z, hp8] at hD; cases hD
    have B9 := B8.st (o := .ins C dx (putF "stop_places" (.ref D) (putF "own_out" (.ref oo) (putF "own_rows" (.ref ow) (putF "value_places" (.ref vp) [])))))
    obtain ⟨G9, e9⟩ : ∃ G9, G9 = upd G8 p (.ins C dx (putF "stop_places" (.ref D) (putF "own_out" (.ref oo) (putF "own_rows" (.ref ow) (putF "value_places" (.ref vp) []))))) := ⟨_, rfl⟩
    have hp9 : G9 p = some (.ins C dx (putF "stop_places" (.ref D) (putF "own_out" (.ref oo) (putF "own_rows" (.ref ow) (putF "value_places" (.ref vp) []))))) := by rw [e9, upd_same]
    have hv9 : G9 vp = some (.dK (plA rs)) := by rw [e9, upd_ne nvp']; exact s8 _ _ hv7
    have how9 : G9 ow = some (.lst ls) := by rw [e9, upd_ne nowp]; exact s8 _ _ how7
    have hoo9 : G9 oo = some (.lst (out.map V.int)) := by rw [e9, upd_ne noop]; exact s8 _ _ hoo7
    have hD9 : G9 D = some (.lst (nV (stA rs))) := by rw [e9, upd_ne nDp]; exact hD
    rw [← e9] at B9 ⊢
    clear e9
    have ki9 := ki_but B9.but hp
    refine ⟨_, rfl, _, rfl, a, b, rs, out, rfl, ha.ki ki9, ok, hb.ki ki9, by omega, fun G10 np s10 nnp hn10 => ?_⟩
    have B10 := B9.sm s10
    have hp10 := s10 _ _ hp9
    refine ⟨_, rfl, p, C, dx, _, rfl, hp10, T.cl, T.a5, by omega, ?_⟩
    have nnpp : np ≠ p := fun z => by rw [z, hp10] at hn10; cases hn10
    have nvn : vp ≠ np := fun z => by rw [← z, hv9] at nnp; cases nnp
    refine q _ ⟨dx, _, vp, ow, oo, D, np, ls, ⟨upd_same, stf_new vp ow oo D np nvn, .inl (by rw [upd_ne nvp']; exact s10 _ _ hv9), by rw [upd_ne nowp]; exact s10 _ _ how9, ?_, by rw [upd_ne noop]; exact s10 _ _ hoo9, by rw [upd_ne nDp]; exact s10 _ _ hD9, .inl (by rw [upd_ne nnpp]; exact hn10)⟩, by rw [upd_ne nvp']; exact s10 _ _ hv9, nvp, B3.fr _ now, B5.fr _ noo, B7.fr _ nD, B9.fr _ nnp⟩ B10.st.but
    exact rws.ki (ki_but B10.st.but hp)
end
end K62

set_option Elab.async false
set_option linter.all false
set_option maxRecDepth 100000
set_option maxHeartbeats 2000000
/-! O61c: what a stretch is asked. -/
namespace K62
open PySem PySem.Spec PyProof.Rows L2 LL ST
section
variable {P : Program} {w : World} {K : PySem.W.Frag} {mg : Str → Option Value} {base : Heap} {C : Addr} {f : Addr} {fd : FuncData}
/-! ### the labels of the stops -/
def spSt (C : Addr) : Sp := fun vs H Q _ => ∃ p rs out, vs = [.ref p] ∧ StAt C H p rs out ∧ rs.length ≤ 100 ∧ ∀ H' r, Same H H' → H r = none → H' r = some (.lst ((lbls rs rs.length).map V.str)) → Q (.ref r) H'
theorem ok_stops (T : Tx K mg C) (F : FD K "stops" "Stretch.stops" s_Stretch_stops [] f fd) : FnG P w K mg base CX0 1 f fd ["self"] (spSt C) := by
  refine ok0 F sc_Stretch_stops (fun vs H Q E h => ?_) (fun cdv A outer s H vs Q E hr h => ?_)
  · obtain ⟨p, rs, out, rfl, _⟩ := h
    rfl
  · obtain ⟨p, rs, out, rfl, ⟨dx, fs, vp, ow, oo, sp, np, ls, z, hv⟩, lr, q⟩ := h
    refine ⟨_, (pss_one (ps_ret (pe_lc (own := [("place", 1)]) rfl sc_Stretch_stops.nd (pi_list (pe_fld (pv 0) rfl)) (blkOk_by (own := [("place", 1)]) (N := n_Stretch_stops) (sc := defScope s_Stretch_stops) (by decide +kernel)) (fun _ _ _ _ _ => (pg_name (i := 1) sc_Stretch_stops.nd rfl (by first | exact Or.inl rfl | exact Or.inr rfl))) (fun _ _ _ _ _ => pts_nil) (fun _ _ _ _ _ => (pe_ix (ix_tupK (K := K) (by rfl)) (pe_ix (ix_listK (K := K) (by rfl)) (pe_fldK (K := K) (by rfl) (pv 0) rfl) (pv 1) (fun _ _ => rfl)) pe_int (fun _ _ => rfl)))))), ?_⟩
    refine ⟨_, rfl, p, C, dx, _, _, rfl, z.h, T.cl, T.a4, z.f.s, sp, rfl, ⟨_, SqL.of z.hs⟩, fun D nD => ?_⟩
    have sl : (stA rs).length ≤ rs.length := stp_len rs rs.length
    refine lc_acc (walk_list (K := K) (a := sp) (xs := nV (stA rs))) nD (fun j => ((stA rs).take j).map fun s => V.str (rw rs s).lab) rfl (fun j hj => ?_) (fun H' s' => SqL.of (s' _ _ z.hs)) ?_ ?_
    · rw [List.length_map, List.length_take]
      omega
    · rintro j x H5 H6 hj s5 ⟨rfl, hx⟩ N S hN hS
      rw [List.getElem?_map] at hx
      obtain ⟨k, hk, rfl⟩ := Option.map_eq_some_iff.mp hx
      obtain ⟨kl, ks⟩ := stp_lt (List.mem_of_getElem? hk)
      have z5 := z.same s5
      obtain ⟨v, e1, _, ra⟩ := z5.rw.get kl
      refine ⟨rfl, _, rfl, p, C, dx, _, _, rfl, z5.h, T.cl, T.a2, z5.f.r, _, rfl, ow, ls, _, _, rfl, rfl, SqL.of z5.hr, e1, ?_⟩
      cases er : rw rs k with
      | stop l os =>
        rw [er] at ra
        obtain ⟨t, u, rfl, ht, hu⟩ := ra
        refine ⟨t, _, _, _, rfl, rfl, SqT.of ht, atI_nat (j := 1) rfl, hN _ _ Same.rfl' ?_⟩
        rw [take_map _ hk, er]
        rfl
      | leaf n => rw [er] at ks; cases ks
      | set n os => rw [er] at ks; cases ks
      | use os => rw [er] at ks; cases ks
    intro H5 s5 h5
    rw [List.length_map, List.take_length] at h5
    refine q _ D s5 nD ?_
    rw [h5, lbls_eq, List.map_map]
    rfl
/-! ### is it a value, a stop -/
def vIs (rs : Rs) : Option Int → Bool
  | some n => decide (n ∈ vlA rs)
  | none => false
def sIs (rs : Rs) : Option Int → Bool
  | some n => decide (n < ((stA rs).length : Nat))
  | none => false
def spIV (K : PySem.W.Frag) (C : Addr) : Sp := fun vs H Q _ => ∃ p rs out v o, vs = [.ref p, v] ∧ StV C H p rs out ∧ NumO K H v o ∧ Q (.bl (vIs rs o)) H
theorem ok_is_value (T : Tx K mg C) (G_is_integer : Fnc P w K mg base CX0 1 "is_integer" [] (spIntG K)) (F : FD K "is_value" "Stretch.is_value" s_Stretch_is_value [] f fd) : FnG P w K mg base CX0 2 f fd ["self", "thing"] (spIV K C) := by
  refine ok0 F sc_Stretch_is_value (fun vs H Q E h => ?_) (fun cdv A outer s H vs Q E hr h => ?_)
  · obtain ⟨p, rs, out, v, o, rfl, _⟩ := h
    rfl
  · obtain ⟨p, rs, out, v, o, rfl, ⟨dx, fs, vp, ow, oo, sp, np, ls, z⟩, ho, q⟩ := h
    refine ⟨_, (pss_one (ps_ret (pe_and (pe_fn G_is_integer (hr.mono (by decide)) pass0 (pa_cons (pv 1) pa_nil)) (pe_one (pe_cmp (pc_din (un1 hr.r.units) (pv 1) (pe_fld (pv 0) rfl)) rfl))))), ?_⟩
    refine ⟨_, rfl, v, o, rfl, ho, _, rfl, ?_⟩
    cases o with
    | none => exact iteF q
    | some n =>
      obtain ⟨rfl, _⟩ := ho.some
      refine iteT ⟨_, rfl, _, rfl, p, C, dx, _, _, rfl, z.h, T.cl, T.a1, z.f.v, vp, _, rfl, .inl ⟨_, Sum.inl n, z.hv, rfl, rfl⟩, ?_⟩
      unfold plA
      rw [plk_is]
      exact q
def spIS (K : PySem.W.Frag) (C : Addr) : Sp := fun vs H Q _ => ∃ p rs out v o, vs = [.ref p, v] ∧ StV C H p rs out ∧ NumO K H v o ∧ Q (.bl (sIs rs o)) H
theorem ok_is_stop (T : Tx K mg C) (G_is_integer : Fnc P w K mg base CX0 1 "is_integer" [] (spIntG K)) (F : FD K "is_stop" "Stretch.is_stop" s_Stretch_is_stop [] f fd) : FnG P w K mg base CX0 2 f fd ["self", "thing"] (spIS K C) := by
  refine ok0 F sc_Stretch_is_stop (fun vs H Q E h => ?_) (fun cdv A outer s H vs Q E hr h => ?_)
  · obtain ⟨p, rs, out, v, o, rfl, _⟩ := h
    rfl
  · obtain ⟨p, rs, out, v, o, rfl, ⟨dx, fs, vp, ow, oo, sp, np, ls, z⟩, ho, q⟩ := h
    refine ⟨_, (pss_one (ps_ret (pe_and (pe_fn G_is_integer (hr.mono (by decide)) pass0 (pa_cons (pv 1) pa_nil)) (pe_one (pe_cmpR op_lt (pv 1) (pe_callB call_len_seq (by rfl) T.n_len (by decide +kernel) (pa_cons (pe_fld (pv 0) rfl) pa_nil)) (nomark _)))))), ?_⟩
    refine ⟨_, rfl, v, o, rfl, ho, _, rfl, ?_⟩
    cases o with
    | none => exact iteF q
    | some n =>
      obtain ⟨rfl, _⟩ := ho.some
      refine iteT ⟨_, rfl, _, rfl, p, C, dx, _, _, rfl, z.h, T.cl, T.a4, z.f.s, sp, _, rfl, .inl (SqL.of z.hs), _, _, rfl, rfl, ?_⟩
      rw [List.length_map]
      exact q
def spCV (C : Addr) : Sp := fun vs H Q _ => ∃ p rs out, ∃ n : Int, vs = [.ref p, .int n] ∧ StV C H p rs out ∧ 0 ≤ n ∧ n ∈ vlA rs ∧ Q .non H
theorem ok_check_value (T : Tx K mg C) (M_is_value : Mth P w K mg base CX0 2 C "is_value" [] (spIV K C)) (F : FD K "check_value" "Stretch.check_value" s_Stretch_check_value [] f fd) : FnG P w K mg base CX0 3 f fd ["self", "thing"] (spCV C) := by
  refine ok0 F sc_Stretch_check_value (fun vs H Q E h => ?_) (fun cdv A outer s H vs Q E hr h => ?_)
  · obtain ⟨p, rs, out, n, rfl, _⟩ := h
    rfl
  · obtain ⟨p, rs, out, n, rfl, ⟨dx, fs, vp, ow, oo, sp, np, ls, z⟩, h0, hn, q⟩ := h
    refine ⟨_, (pss_one (ps_if (pt_not (pt_val (pe_mt M_is_value (hr.mono (by decide)) pass0 (pv 0) (pa_cons (pv 1) pa_nil)))) (pss_one ps_never) pss_nil)), ?_⟩
    exact ⟨_, rfl, p, dx, fs, rfl, z.h, z.f.no _ (by decide +kernel) (by decide +kernel) (by decide +kernel) (by decide +kernel) (by decide +kernel), _, rfl, p, rs, out, _, some n, rfl, ⟨dx, fs, vp, ow, oo, sp, np, ls, z⟩, .int n h0, _, rfl, iteN (by show (!decide (n ∈ vlA rs)) = false; rw [decide_eq_true hn]; rfl) q⟩
def spCS (C : Addr) : Sp := fun vs H Q _ => ∃ p rs out, ∃ k : Nat, vs = [.ref p, .int (k : Nat)] ∧ StV C H p rs out ∧ k < (stA rs).length ∧ Q .non H
theorem ok_check_stop (T : Tx K mg C) (M_is_stop : Mth P w K mg base CX0 2 C "is_stop" [] (spIS K C)) (F : FD K "check_stop" "Stretch.check_stop" s_Stretch_check_stop [] f fd) : FnG P w K mg base CX0 3 f fd ["self", "thing"] (spCS C) := by
  refine ok0 F sc_Stretch_check_stop (fun vs H Q E h => ?_) (fun cdv A outer s H vs Q E hr h => ?_)
  · obtain ⟨p, rs, out, n, rfl, _⟩ := h
    rfl
  · obtain ⟨p, rs, out, n, rfl, ⟨dx, fs, vp, ow, oo, sp, np, ls, z⟩, hn, q⟩ := h
    refine ⟨_, (pss_one (ps_if (pt_not (pt_val (pe_mt M_is_stop (hr.mono (by decide)) pass0 (pv 0) (pa_cons (pv 1) pa_nil)))) (pss_one ps_never) pss_nil)), ?_⟩
    exact ⟨_, rfl, p, dx, fs, rfl, z.h, z.f.no _ (by decide +kernel) (by decide +kernel) (by decide +kernel) (by decide +kernel) (by decide +kernel), _, rfl, p, rs, out, _, some (n : Int), rfl, ⟨dx, fs, vp, ow, oo, sp, np, ls, z⟩, .int _ (by omega), _, rfl, iteN (by show (!decide ((n : Int) < ((stA rs).length : Nat))) = false; rw [decide_eq_true (by omega)]; rfl) q⟩
/-! ### operands, asked -/
def OpV (H : Hp) (u : V) : Rw → Prop
  | .set _ os => OpT H u os
  | _ => u = .non
def spOps (C : Addr) : Sp := fun vs H Q _ => ∃ p rs out, ∃ n : Int, vs = [.ref p, .int n] ∧ StV C H p rs out ∧ 0 ≤ n ∧ n ∈ vlA rs ∧ ∀ (j : Nat) u, j < rs.length → n ∈ (rw rs j).val → OpV H u (rw rs j) → Q u H
theorem ok_operands (T : Tx K mg C) (M_check_value : Mth P w K mg base CX0 3 C "check_value" [] (spCV C)) (F : FD K "operands" "Stretch.operands" s_Stretch_operands [] f fd) : FnG P w K mg base CX0 4 f fd ["self", "value"] (spOps C) := by
  refine ok0 F sc_Stretch_operands (fun vs H Q E h => ?_) (fun cdv A outer s H vs Q E hr h => ?_)
  · obtain ⟨p, rs, out, n, rfl, _⟩ := h
    rfl
  · obtain ⟨p, rs, out, n, rfl, ⟨dx, fs, vp, ow, oo, sp, np, ls, z⟩, h0, hn, q⟩ := h
    refine ⟨_, (pss_cons (ps_expr (pe_mt M_check_value (hr.mono (by decide)) pass0 (pv 0) (pa_cons (pv 1) pa_nil)))
      (pss_cons (ps_set (i := 2) sc_Stretch_operands.nd rfl (by first | exact Or.inl rfl | exact Or.inr rfl) (pe_ix ix_list (pe_fld (pv 0) rfl) (pe_dget (un1 hr.r.units) (pe_fld (pv 0) rfl) (pv 1) (fun _ _ => rfl)) (fun _ _ => rfl)))
      (pss_one (ps_ret (pe_ifExp (pt_cmpR op_eq (pe_ix ix_tup (pv 2) pe_int (fun _ _ => rfl)) (pe_gS T.g_SET) (nomark _)) (pe_ix ix_tup (pv 2) pe_int (fun _ _ => rfl)) pe_non))))), ?_⟩
    refine ⟨_, rfl, p, dx, fs, rfl, z.h, z.f.no _ (by decide +kernel) (by decide +kernel) (by decide +kernel) (by decide +kernel) (by decide +kernel), _, rfl, p, rs, out, n, rfl, ⟨dx, fs, vp, ow, oo, sp, np, ls, z⟩, h0, hn, ?_⟩
    obtain ⟨j, hj, ep, hv, ev⟩ := plc_eq hn
    rw [ep] at ev
    obtain ⟨v, e1, _, ra⟩ := z.rw.get hj
    refine ⟨_, rfl, p, C, dx, _, _, rfl, z.h, T.cl, T.a2, z.f.r, _, rfl, p, C, dx, _, _, rfl, z.h, T.cl, T.a1, z.f.v, _, rfl, vp, _, rfl, .inl ⟨_, Sum.inl n, z.hv, rfl, ev.symm⟩, ow, ls, _, _, rfl, rfl, SqL.of z.hr, e1, ?_⟩
    have q' := fun u => q j u hj hv
    cases er : rw rs j with
    | leaf m =>
      rw [er] at ra q'
      obtain ⟨t, rfl, ht⟩ := ra
      exact ⟨_, rfl, t, _, _, _, rfl, rfl, SqT.of ht, atI_nat (j := 0) rfl, rfl, _, rfl, iteN sl1 (q' _ rfl)⟩
    | set m os =>
      rw [er] at ra q'
      obtain ⟨t, u, rfl, ht, hu⟩ := ra
      exact ⟨_, rfl, t, _, _, _, rfl, rfl, SqT.of ht, atI_nat (j := 0) rfl, rfl, _, rfl, iteY ss1 ⟨_, rfl, t, _, _, _, rfl, rfl, SqT.of ht, atI_nat (j := 2) rfl, q' _ hu⟩⟩
    | use os => rw [er] at hv; cases hv
    | stop l os => rw [er] at hv; cases hv
def spAsk (C : Addr) : Sp := fun vs H Q _ => ∃ p rs out, ∃ k : Nat, vs = [.ref p, .int (k : Nat)] ∧ StV C H p rs out ∧ k < (stA rs).length ∧ ∀ u, OpT H u (rw rs (spt rs k)).ops → Q u H
theorem at_nV {l : List Nat} {k s : Nat} (h : l[k]? = some s) : atI (nV l) (k : Int) = some (.int (s : Nat)) := atI_nat (by rw [List.getElem?_map, h]; rfl)
theorem ok_asked (T : Tx K mg C) (M_check_stop : Mth P w K mg base CX0 3 C "check_stop" [] (spCS C)) (F : FD K "asked" "Stretch.asked" s_Stretch_asked [] f fd) : FnG P w K mg base CX0 4 f fd ["self", "stop"] (spAsk C) := by
  refine ok0 F sc_Stretch_asked (fun vs H Q E h => ?_) (fun cdv A outer s H vs Q E hr h => ?_)
  · obtain ⟨p, rs, out, n, rfl, _⟩ := h
    rfl
  · obtain ⟨p, rs, out, k, rfl, ⟨dx, fs, vp, ow, oo, sp, np, ls, z⟩, hk, q⟩ := h
    refine ⟨_, (pss_cons (ps_expr (pe_mt M_check_stop (hr.mono (by decide)) pass0 (pv 0) (pa_cons (pv 1) pa_nil)))
      (pss_one (ps_ret (pe_ix ix_tup (pe_ix ix_list (pe_fld (pv 0) rfl) (pe_ix ix_list (pe_fld (pv 0) rfl) (pv 1) (fun _ _ => rfl)) (fun _ _ => rfl)) pe_int (fun _ _ => rfl))))), ?_⟩
    refine ⟨_, rfl, p, dx, fs, rfl, z.h, z.f.no _ (by decide +kernel) (by decide +kernel) (by decide +kernel) (by decide +kernel) (by decide +kernel), _, rfl, p, rs, out, k, rfl, ⟨dx, fs, vp, ow, oo, sp, np, ls, z⟩, hk, ?_⟩
    obtain ⟨sl, ss⟩ := spt_stop hk
    obtain ⟨v, e1, _, ra⟩ := z.rw.get sl
    refine ⟨_, rfl, p, C, dx, _, _, rfl, z.h, T.cl, T.a2, z.f.r, _, rfl, p, C, dx, _, _, rfl, z.h, T.cl, T.a4, z.f.s, _, rfl, sp, _, _, _, rfl, rfl, SqL.of z.hs, at_nV (spt_at hk), ow, ls, _, _, rfl, rfl, SqL.of z.hr, e1, ?_⟩
    cases er : rw rs (spt rs k) with
    | stop l os =>
      rw [er] at ra q
      obtain ⟨t, u, rfl, ht, hu⟩ := ra
      exact ⟨t, _, _, _, rfl, rfl, SqT.of ht, atI_nat (j := 2) rfl, q _ hu⟩
    | leaf n => rw [er] at ss; cases ss
    | set n os => rw [er] at ss; cases ss
    | use os => rw [er] at ss; cases ss
/-! ### present, live -/
def spPr (C : Addr) : Sp := fun vs H Q _ => ∃ p rs out, ∃ (n : Int) (k : Nat), vs = [.ref p, .int n, .int (k : Nat)] ∧ StV C H p rs out ∧ n ∈ vlA rs ∧ k < (stA rs).length ∧ Q (.bl (pres rs n k)) H
theorem ok_is_present (T : Tx K mg C) (F : FD K "is_present" "Stretch.is_present" s_Stretch_is_present [] f fd) : FnG P w K mg base CX0 1 f fd ["self", "value", "stop"] (spPr C) := by
  refine ok0 F sc_Stretch_is_present (fun vs H Q E h => ?_) (fun cdv A outer s H vs Q E hr h => ?_)
  · obtain ⟨p, rs, out, n, k, rfl, _⟩ := h
    rfl
  · obtain ⟨p, rs, out, n, k, rfl, ⟨dx, fs, vp, ow, oo, sp, np, ls, z⟩, hn, hk, q⟩ := h
    refine ⟨_, (pss_one (ps_ret (pe_cmpR op_lt (pe_dget (un1 hr.r.units) (pe_fld (pv 0) rfl) (pv 1) (fun _ _ => rfl)) (pe_ix ix_list (pe_fld (pv 0) rfl) (pv 2) (fun _ _ => rfl)) (nomark _)))), ?_⟩
    obtain ⟨j, hj, ep, hv, ev⟩ := plc_eq hn
    exact ⟨_, rfl, p, C, dx, _, _, rfl, z.h, T.cl, T.a1, z.f.v, _, rfl, vp, _, rfl, .inl ⟨_, Sum.inl n, z.hv, rfl, ev.symm⟩, _, rfl, p, C, dx, _, _, rfl, z.h, T.cl, T.a4, z.f.s, _, rfl, sp, _, _, _, rfl, rfl, SqL.of z.hs, at_nV (spt_at hk), _, _, rfl, rfl, q⟩
def spLv (C : Addr) : Sp := fun vs H Q _ => ∃ p rs out, ∃ (n : Int) (k : Nat), vs = [.ref p, .int n, .int (k : Nat)] ∧ StV C H p rs out ∧ n ∈ vlA rs ∧ k < (stA rs).length ∧ Q (.bl (live rs out n k)) H
theorem ok_is_live (T : Tx K mg C) (M_is_present : Mth P w K mg base CX0 1 C "is_present" [] (spPr C)) (F : FD K "is_live" "Stretch.is_live" s_Stretch_is_live [] f fd) : FnG P w K mg base CX0 2 f fd ["self", "value", "stop"] (spLv C) := by
  refine ok0 F sc_Stretch_is_live (fun vs H Q E h => ?_) (fun cdv A outer s H vs Q E hr h => ?_)
  · obtain ⟨p, rs, out, n, k, rfl, _⟩ := h
    rfl
  · obtain ⟨p, rs, out, n, k, rfl, ⟨dx, fs, vp, ow, oo, sp, np, ls, z⟩, hn, hk, q⟩ := h
    refine ⟨_, (pss_one (ps_ret (pe_and (pe_mt M_is_present (hr.mono (by decide)) pass0 (pv 0) (pa_cons (pv 1) (pa_cons (pv 2) pa_nil))) (pe_one (pe_cmpR op_gt (pe_dget2 (un1 hr.r.units) (pe_fld (pv 0) rfl) (pv 1) (pe_un un_neg pe_int) ⟨rfl, rfl, rfl, rfl⟩) (pe_ix ix_list (pe_fld (pv 0) rfl) (pv 2) (fun _ _ => rfl)) (nomark _)))))), ?_⟩
    refine ⟨_, rfl, p, dx, fs, rfl, z.h, z.f.no _ (by decide +kernel) (by decide +kernel) (by decide +kernel) (by decide +kernel) (by decide +kernel), _, rfl, _, rfl, p, rs, out, n, k, rfl, ⟨dx, fs, vp, ow, oo, sp, np, ls, z⟩, hn, hk, _, rfl, iteB (fun c => ?_) (fun c => ?_)⟩
    · refine ⟨_, rfl, p, C, dx, _, _, rfl, z.h, T.cl, T.a5, z.f.n, np, rfl, .inl ⟨_, z.hn⟩, _, rfl, _, rfl, _, .inl ⟨_, Sum.inl n, z.hn, rfl, rfl⟩, ?_⟩
      have e : (valV (nkA rs out) (Sum.inl n)).getD (.int (-1)) = .int (nd rs out n) := nd_eq rs out n
      unfold live at q
      rw [c, Bool.true_and] at q
      refine ⟨_, rfl, p, C, dx, _, _, rfl, z.h, T.cl, T.a4, z.f.s, _, rfl, sp, _, _, _, rfl, rfl, SqL.of z.hs, at_nV (spt_at hk), _, _, e, rfl, q⟩
    · unfold live at q
      rw [c, Bool.false_and] at q
      exact q
end
end K62

set_option Elab.async false
set_option linter.all false
set_option maxRecDepth 100000
set_option maxHeartbeats 2000000
/-! O61d: live values; ==, len, repr; a stretch made. -/
namespace K62
open PySem PySem.Spec PyProof.Rows L2 LL ST
section
variable {P : Program} {w : World} {K : PySem.W.Frag} {mg : Str → Option Value} {base : Heap} {C : Addr} {f : Addr} {fd : FuncData}
theorem same_lock {H H' : Hp} {d : Addr} {u : HO} {od : Obj} (h : H d = some u) (s : Same (upd H d (.frz od u)) H') : Same H (upd H' d u) := fun b o e => by
  by_cases c : b = d
  · subst c
    rw [upd_same, ← e, h]
  · rw [upd_ne c]
    exact s b o (by rw [upd_ne c]; exact e)
def spPrs (C : Addr) : Sp := fun vs H Q _ => ∃ p rs out, ∃ k : Nat, vs = [.ref p, .int (k : Nat)] ∧ StAt C H p rs out ∧ rs.length ≤ 60 ∧ k < (stA rs).length ∧
  ∀ H' r, Same H H' → H r = none → H' r = some (.lst ((prs rs k).map V.int)) → Q (.ref r) H'
theorem ok_present (T : Tx K mg C) (M_is_present : Mth P w K mg base CX0 1 C "is_present" [] (spPr C)) (F : FD K "present" "Stretch.present" s_Stretch_present [] f fd) : FnG P w K mg base CX0 2 f fd ["self", "stop"] (spPrs C) := by
  refine ok0 F sc_Stretch_present (fun vs H Q E h => ?_) (fun cdv A outer s H vs Q E hr h => ?_)
  · obtain ⟨p, rs, out, k, rfl, _⟩ := h
    rfl
  · obtain ⟨p, rs, out, k, rfl, ⟨dx, fs, vp, ow, oo, sp, np, ls, z, hv⟩, lr, hk, q⟩ := h
    refine ⟨_, (pss_one (ps_ret (pe_lock (pe_lc (own := [("value", 2)]) rfl sc_Stretch_present.nd (pi_keys (pe_fld (pv 0) rfl)) (blkOk_by (own := [("value", 2)]) (N := n_Stretch_present) (sc := defScope s_Stretch_present) (by decide +kernel)) (fun _ _ _ _ _ => (pg_name (i := 2) sc_Stretch_present.nd rfl (by first | exact Or.inl rfl | exact Or.inr rfl))) (fun _ _ _ _ _ => (pts_one (pt_val (pe_mt M_is_present (hr.mono (by decide)) pass0 (pv 0) (pa_cons (pv 2) (pa_cons (pv 1) pa_nil)))))) (fun _ _ _ _ _ => (pv 2)))))), ?_⟩
    refine ⟨vp, _, hv, trivial, fun od => ?_⟩
    have lv : (vlA rs).length ≤ rs.length := vls_len rs rs.length
    have ki : ∀ b o, H b = some o → (∀ kv, o ≠ .dK kv) → upd H vp (.frz od (.dK (plA rs))) b = some o := fun b o e n => by
      rw [upd_ne fun c => by rw [c, hv] at e; exact n _ (Option.some.inj e).symm]
      exact e
    have z1 : StW C (upd H vp (.frz od (.dK (plA rs)))) p dx fs vp ow oo sp np ls rs out := by
      refine ⟨ki _ _ z.h (fun _ e => nomatch e), z.f, .inr ⟨od, upd_same⟩, ki _ _ z.hr (fun _ e => nomatch e), ⟨z.rw.len, fun i v e => ?_⟩, ki _ _ z.ho (fun _ e => nomatch e), ki _ _ z.hs (fun _ e => nomatch e), ?_⟩
      · have ra := z.rw.at_ i v e
        cases er : rw rs i with
        | leaf n =>
          rw [er] at ra
          obtain ⟨t, e, x⟩ := ra
          exact ⟨t, e, ki _ _ x (fun _ e => nomatch e)⟩
        | set n os =>
          rw [er] at ra
          obtain ⟨t, u, e, x, o, eo, ho⟩ := ra
          exact ⟨t, u, e, ki _ _ x (fun _ e => nomatch e), o, eo, ki _ _ ho (fun _ e => nomatch e)⟩
        | use os =>
          rw [er] at ra
          obtain ⟨t, u, e, x, o, eo, ho⟩ := ra
          exact ⟨t, u, e, ki _ _ x (fun _ e => nomatch e), o, eo, ki _ _ ho (fun _ e => nomatch e)⟩
        | stop l os =>
          rw [er] at ra
          obtain ⟨t, u, e, x, o, eo, ho⟩ := ra
          exact ⟨t, u, e, ki _ _ x (fun _ e => nomatch e), o, eo, ki _ _ ho (fun _ e => nomatch e)⟩
      · rcases z.hn with h | ⟨x, h⟩
        · exact .inl (by rw [upd_ne z.f.ne.symm]; exact h)
        · exact .inr ⟨x, by rw [upd_ne z.f.ne.symm]; exact h⟩
    refine ⟨_, rfl, p, C, dx, _, _, rfl, z1.h, T.cl, T.a1, z1.f.v, vp, od, rfl, .inl ⟨_, upd_same, fun D nD => ?_⟩⟩
    refine lc_acc (walk_keys (d := vp) (o := od) (kvs := plA rs)) nD (fun j => (((vlA rs).take j).filter (pres rs · k)).map V.int) rfl (fun j hj => ?_) (fun H' s' => s' _ _ upd_same) ?_ ?_
    · rw [List.length_map]
      have := List.length_filter_le (pres rs · k) ((vlA rs).take j)
      rw [List.length_take] at this
      omega
    · rintro j x H5 H6 hj s5 ⟨rfl, key, v, hx, rfl⟩ N S hN hS
      have e1 : ((plA rs).map (·.1))[j]? = some key := by rw [List.getElem?_map, hx]; rfl
      unfold plA at e1
      rw [plk_keys, List.getElem?_map] at e1
      obtain ⟨n, hn, rfl⟩ := Option.map_eq_some_iff.mp e1
      have z5 := z1.same s5
      refine ⟨rfl, _, rfl, p, dx, fs, rfl, z5.h, z5.f.no _ (by decide +kernel) (by decide +kernel) (by decide +kernel) (by decide +kernel) (by decide +kernel), _, rfl, _, rfl, p, rs, out, n, k, rfl, ⟨dx, fs, vp, ow, oo, sp, np, ls, z5⟩, List.mem_of_getElem? hn, hk, _, rfl, ?_⟩
      have tf := take_fil (pres rs · k) hn
      refine iteB (fun c => ⟨_, rfl, hN _ _ Same.rfl' ?_⟩) (fun c => hS _ Same.rfl' ?_)
      · rw [tf, if_pos c, List.map_append]
        rfl
      · rw [tf, if_neg (by rw [c]; exact Bool.false_ne_true), List.append_nil]
    intro H5 s5 h5
    have el : (plA rs).length = (vlA rs).length := plk_len rs rs.length
    rw [el, List.take_length] at h5
    refine ⟨s5 _ _ upd_same, ?_⟩
    have sl := same_lock hv s5
    have nvD : D ≠ vp := fun c => by rw [c, s5 _ _ upd_same] at h5; cases h5
    have nD0 : H D = none := by rw [upd_ne nvD] at nD; exact nD
    exact q _ D sl nD0 (by rw [upd_ne nvD]; exact h5)
/-! ### a stretch made -/
def spMk (K : PySem.W.Frag) (C : Addr) : Sp := fun vs H Q _ => ∃ (a b : Addr) (rs : Rs) (out : List Int), vs = [.ref a, .ref b] ∧ RsAt H a rs ∧ RsOk rs ∧ OutAt K H b out ∧ (∀ n ∈ out, n ∈ vlA rs) ∧ out.length ≤ 100 ∧
  ∀ H' p, Same H H' → H p = none → StNw C H H' p rs out → Q (.ref p) H'
theorem mk_of {H : Hp} {Q : VK} {E : XK} {vs : List V} (h : spMk K C vs H Q E) : ∀ a dx, H a = none → H dx = none → dx ≠ a → spSI K C (.ref a :: vs) (upd (upd H dx (.own a)) a (.ins C dx [])) (fun v H2 => v = .non ∧ Q (.ref a) H2) E := by
  obtain ⟨a, b, rs, out, rfl, ha, ok, hb, ho, lo, q⟩ := h
  intro p dx np nd ne
  have s : Same H (upd (upd H dx (.own p)) p (.ins C dx [])) := fun b o e => by
    rw [upd_ne (ne_of_none e np), upd_ne (ne_of_none e nd)]
    exact e
  refine ⟨p, dx, a, b, rs, out, rfl, upd_same, ha.same s, ok, hb.same s, ho, lo, fun H' z B => ⟨rfl, q H' p (fun c o e => ?_) np (z.lo s)⟩⟩
  exact B c o (s c o e) (ne_of_none e np)
end
end K62

set_option Elab.async false
set_option linter.all false
set_option maxRecDepth 100000
set_option maxHeartbeats 2000000
/-! L61: draws; names, rows drawn. -/
namespace K62
open PySem PySem.Spec PyProof.Rows L2 LL ST
abbrev s_l_pot : Stmt := top 32
abbrev n_l_pot : List Str := ["_law_script", "_law_k", "_law_cell"]
theorem sc_l_pot : FnScope n_l_pot ["_law_script", "_law_k"] (defScope s_l_pot) := ⟨rfl, rfl, rfl, by decide +kernel, rfl, by decide +kernel, by decide +kernel⟩
abbrev s_l_draw : Stmt := top 33
abbrev n_l_draw : List Str := ["_law_pot_here", "_law_many", "_law_digit"]
theorem sc_l_draw : FnScope n_l_draw ["_law_pot_here", "_law_many"] (defScope s_l_draw) := ⟨rfl, rfl, rfl, by decide +kernel, rfl, by decide +kernel, by decide +kernel⟩
abbrev s_l_shuffled : Stmt := top 34
abbrev n_l_shuffled : List Str := ["_law_pot_here", "_law_things", "_law_pool", "_law_k"]
theorem sc_l_shuffled : FnScope n_l_shuffled ["_law_pot_here", "_law_things"] (defScope s_l_shuffled) := ⟨rfl, rfl, rfl, by decide +kernel, rfl, by decide +kernel, by decide +kernel⟩
abbrev s_l_names : Stmt := top 35
abbrev n_l_names : List Str := ["_law_pot_here", "_law_many", "_law_factor", "_law_more", "_law_number"]
theorem sc_l_names : FnScope n_l_names ["_law_pot_here", "_law_many"] (defScope s_l_names) := ⟨rfl, rfl, rfl, by decide +kernel, rfl, by decide +kernel, by decide +kernel⟩
abbrev s_l_some : Stmt := top 36
abbrev n_l_some : List Str := ["_law_pot_here", "_law_there", "_law_most", "_law_many", "_law_k"]
theorem sc_l_some : FnScope n_l_some ["_law_pot_here", "_law_there", "_law_most"] (defScope s_l_some) := ⟨rfl, rfl, rfl, by decide +kernel, rfl, by decide +kernel, by decide +kernel⟩
abbrev s_l_rows : Stmt := top 37
abbrev n_l_rows : List Str := ["_law_pot_here", "_law_values", "_law_stops", "_law_others", "_law_names_here", "_law_there", "_law_found", "_law_words", "_law_word", "_law_name"]
theorem sc_l_rows : FnScope n_l_rows ["_law_pot_here", "_law_values", "_law_stops", "_law_others"] (defScope s_l_rows) := ⟨rfl, rfl, rfl, by decide +kernel, rfl, by decide +kernel, by decide +kernel⟩
section
variable {P : Program} {w : World} {K : PySem.W.Frag} {mg : Str → Option Value} {base : Heap} {C : Addr} {f : Addr} {fd : FuncData}
def Pot (x y : Int) : Prop := 0 ≤ x ∧ 0 ≤ y ∧ y < 1099511627776
def PotAt (H : Hp) (p : Addr) : Prop := ∃ x y, H p = some (.lst [.int x, .int y]) ∧ Pot x y
theorem PotAt.ne {H : Hp} {p r : Addr} (h : PotAt H p) (n : H r = none) : r ≠ p := fun z => by
  obtain ⟨x, y, e, _⟩ := h
  rw [z, e] at n
  cases n
theorem PotAt.upd {H : Hp} {p r : Addr} {o : HO} (h : PotAt H p) (n : H r = none) : PotAt (L2.upd H r o) p := by
  obtain ⟨x, y, e, q⟩ := id h
  exact ⟨x, y, by rw [upd_ne (h.ne n).symm]; exact e, q⟩
theorem PotAt.same {H H' : Hp} {p : Addr} (h : PotAt H p) (b : Same H H') : PotAt H' p := let ⟨x, y, e, z⟩ := h; ⟨x, y, b _ _ e, z⟩
theorem PotAt.but {H H' : Hp} {p q : Addr} (h : PotAt H p) (b : But q H H') (n : p ≠ q) : PotAt H' p := let ⟨x, y, e, z⟩ := h; ⟨x, y, b _ _ e n, z⟩
/-! ### _law_pot -/
def spPot (K : PySem.W.Frag) : Sp := fun vs H Q _ => ∃ (a : Addr) (ns : List Int) (k : Nat), vs = [.ref a, .int k] ∧ SqL K H a (ns.map V.int) ∧ ns.length ≤ 63 ∧ k < 100 ∧ ∀ H' p, Same H H' → H p = none → PotAt H' p → Q (.ref p) H'
theorem at_map {ns : List Int} {k : Nat} (h : k < ns.length) : atI (ns.map V.int) (k : Int) = some (.int ns[k]) := atI_nat (by rw [List.getElem?_map, List.getElem?_eq_getElem h]; rfl)
theorem ok_l_pot (T : Tx K mg C) (F : FD K "_law_pot" "_law_pot" s_l_pot [] f fd) : FnG P w K mg base CX0 1 f fd ["_law_script", "_law_k"] (spPot K) := by
  refine ok0 F sc_l_pot (fun vs H Q E h => ?_) (fun cdv A outer s H vs Q E hr h => ?_)
  · obtain ⟨a, ns, k, rfl, _⟩ := h
    rfl
  · obtain ⟨a, ns, k, rfl, hS, hl, hk, q⟩ := h
    refine ⟨_, (pss_cons (ps_set (i := 2) sc_l_pot.nd rfl (by first | exact Or.inl rfl | exact Or.inr rfl) (pe_ifExp (pt_cmpR op_lt (pv 1) (pe_callB call_len_seq (by rfl) T.n_len (by decide +kernel) (pa_cons (pv 0) pa_nil)) (nomark _)) (pe_callB call_abs (by rfl) T.n_abs (by decide +kernel) (pa_cons (pe_ix ix_list (pv 0) (pv 1) (fun _ _ => rfl)) pa_nil)) pe_int))
      (pss_one (ps_ret (pe_lst (pa_cons (pe_callB (call_max2 rfl) (by rfl) T.n_max (by decide +kernel) (pa_cons pe_int (pa_cons (pe_op op_sub (pv 2) (pe_op op_pow pe_int pe_int)) pa_nil))) (pa_cons (pe_op op_add (pe_op op_mod (pe_callTy call_int1 (by rfl) T.n_int (by decide +kernel) (pa_cons (pe_op op_pow (pe_op op_add (pe_op op_add (pe_op op_mod (pe_callTy call_int1 (by rfl) T.n_int (by decide +kernel) (pa_cons (pv 2) pa_nil)) pe_int) (pe_op op_mulX pe_int (pv 1))) pe_int) pe_int) pa_nil)) pe_int) pe_int) pa_nil)))))), ?_⟩
    refine ex_cut (fun x H' => H' = H ∧ ∃ c : Int, 0 ≤ c ∧ x = .int c) (fun R hR => ?_) ?_
    · refine ⟨_, rfl, _, rfl, a, _, rfl, .inl hS, _, _, rfl, rfl, _, rfl, iteB (fun e => ?_) (fun e => ?_)⟩
      · have hkl : k < ns.length := by
          have := of_decide_eq_true e
          rw [List.length_map] at this
          omega
        refine ⟨_, rfl, _, rfl, a, _, _, _, rfl, rfl, hS, at_map hkl, _, rfl, hR _ _ ⟨rfl, _, ?_, rfl⟩⟩
        split <;> omega
      · exact hR _ _ ⟨rfl, 0, by decide, rfl⟩
    rintro x H' ⟨rfl, c, c0, rfl⟩
    refine nm_of ?_
    dsimp only
    refine ⟨_, rfl, _, _, rfl, rfl, ⟨by decide, by decide, by decide⟩, _, _, rfl, rfl, _, _, rfl, _, rfl, .inl ⟨_, rfl, _, _, rfl, rfl, (show (0 : Int) < 2147483543 by decide), ?_⟩⟩
    have m0 : 0 ≤ c % 2147483543 := Int.emod_nonneg _ (by decide)
    have m1 : c % 2147483543 < 2147483543 := Int.emod_lt_of_pos _ (by decide)
    refine ⟨_, rfl, _, _, rfl, rfl, mulx_ok (a := 7) (b := 7) (by decide) (by omega) (by decide), _, _, rfl, rfl, _, _, rfl, rfl, _, _, rfl, rfl, ⟨by decide, by decide, by omega⟩, .inl ⟨_, rfl, _, _, rfl, rfl, (show (0 : Int) < 2147483497 by decide), _, _, rfl, rfl, ?_⟩⟩
    refine ⟨(by show 2 ≤ sizeLine; decide), fun p hp => q _ p (same_upd hp) hp ⟨_, _, upd_same, ?_, ?_, ?_⟩⟩
    · split <;> omega
    · have := Int.emod_nonneg ((c % 2147483543 + 103 * (k : Int) + 19) ^ (2 : Int).toNat) (show (2147483497 : Int) ≠ 0 by decide)
      omega
    · have := Int.emod_lt_of_pos ((c % 2147483543 + 103 * (k : Int) + 19) ^ (2 : Int).toNat) (show (0 : Int) < 2147483497 by decide)
      omega
/-! ### _law_draw -/
def spTake : Sp := fun vs H Q _ => ∃ (p : Addr) (m : Int), vs = [.ref p, .int m] ∧ PotAt H p ∧ 0 < m ∧ m < 1000000 ∧ ∀ H' d, But p H H' → PotAt H' p → 0 ≤ d → d < m → Q (.int d) H'
theorem ok_l_draw (T : Tx K mg C) (F : FD K "_law_draw" "_law_draw" s_l_draw [] f fd) : FnG P w K mg base CX0 1 f fd ["_law_pot_here", "_law_many"] spTake := by
  refine ok0 F sc_l_draw (fun vs H Q E h => ?_) (fun cdv A outer s H vs Q E hr h => ?_)
  · obtain ⟨p, m, rfl, _⟩ := h
    rfl
  · obtain ⟨p, m, rfl, ⟨x, y, hp, hx, hy, hy2⟩, m0, m1, q⟩ := h
    refine ⟨_, (pss_cons (ps_if (pt_cmpR op_gt (pe_ix ix_list (pv 0) pe_int (fun _ _ => rfl)) pe_int (nomark _)) (pss_cons (ps_asg (pe_callB call_divmodW (by rfl) T.n_divmod (by decide +kernel) (pa_cons (pe_ix ix_list (pv 0) pe_int (fun _ _ => rfl)) (pa_cons (pv 1) pa_nil))) (pg_tup rfl (pgs_cons (pg_sub (pv 0) pe_int set_list) (pgs_cons (pg_name (i := 2) sc_l_draw.nd rfl (by first | exact Or.inl rfl | exact Or.inr rfl)) pgs_nil))))
      (pss_one (ps_ret (pv 2)))) pss_nil)
      (pss_cons (ps_asg (pe_op op_mod (pe_callTy call_int1 (by rfl) T.n_int (by decide +kernel) (pa_cons (pe_op op_add (pe_op op_mulX (pe_ix ix_list (pv 0) pe_int (fun _ _ => rfl)) pe_int) pe_int) pa_nil)) pe_int) (pg_sub (pv 0) pe_int set_list))
      (pss_one (ps_ret (pe_op op_mod (pe_callTy call_int1 (by rfl) T.n_int (by decide +kernel) (pa_cons (pe_op op_fdivZ (pe_op op_mod (pe_callTy call_int1 (by rfl) T.n_int (by decide +kernel) (pa_cons (pe_op op_mulX (pe_ix ix_list (pv 0) pe_int (fun _ _ => rfl)) (pe_ix ix_list (pv 0) pe_int (fun _ _ => rfl))) pa_nil)) pe_int) pe_int) pa_nil)) (pv 1)))))), ?_⟩
    refine ⟨_, rfl, p, _, _, _, rfl, rfl, SqL.of hp, atI_nat (j := 0) rfl, _, _, rfl, rfl, _, rfl, iteB (fun e => ?_) (fun e => ?_)⟩
    · have x0 : 0 < x := of_decide_eq_true e
      refine ⟨_, rfl, p, _, _, _, rfl, rfl, SqL.of hp, atI_nat (j := 0) rfl, _, rfl, _, _, rfl, ⟨m0, PyProof.noPylong_small (by omega)⟩, fun t ht => ?_⟩
      have npt : p ≠ t := ne_of_none hp ht
      refine ⟨t, _, rfl, SqT.of upd_same, rfl, _, _, rfl, _, rfl, p, _, _, 0, rfl, rfl, (by rw [upd_ne npt]; exact hp), rfl, ?_⟩
      refine ⟨_, _, rfl, rfl, _, rfl, ?_⟩
      refine q _ _ (fun b o e n => ?_) ⟨_, _, upd_same, Int.ediv_nonneg hx (by omega), hy, hy2⟩ (Int.emod_nonneg _ (by omega)) (Int.emod_lt_of_pos _ m0)
      rw [upd_ne n, upd_ne (ne_of_none e ht)]
      exact e
    · have z0 : 0 ≤ (y * 48271 + 10007) % 2147483587 := Int.emod_nonneg _ (by decide)
      have z1 : (y * 48271 + 10007) % 2147483587 < 2147483587 := Int.emod_lt_of_pos _ (by decide)
      refine ⟨_, rfl, p, _, _, _, rfl, rfl, SqL.of hp, atI_nat (j := 1) rfl, _, _, rfl, rfl, mulx_ok (a := 40) (b := 16) (by omega) (by decide) (by decide), _, _, rfl, rfl, .inl ⟨_, rfl, _, _, rfl, rfl, (show (0 : Int) < 2147483587 by decide), ?_⟩⟩
      refine ⟨_, rfl, p, _, _, 1, rfl, rfl, hp, rfl, ?_⟩
      refine ⟨_, rfl, p, _, _, _, rfl, rfl, SqL.of upd_same, atI_nat (j := 1) rfl, _, rfl, p, _, _, _, rfl, rfl, SqL.of upd_same, atI_nat (j := 1) rfl, _, _, rfl, rfl, mulx_ok (a := 32) (b := 32) (by omega) (by omega) (by decide), .inl ⟨_, rfl, _, _, rfl, rfl, (show (0 : Int) < 2147483549 by decide), _, _, rfl, rfl, ⟨by decide, by decide⟩, .inl ⟨_, rfl, _, rfl, _, _, rfl, rfl, m0, ?_⟩⟩⟩
      exact q _ _ but_upd ⟨_, _, upd_same, hx, z0, by omega⟩ (Int.emod_nonneg _ (by omega)) (Int.emod_lt_of_pos _ m0)
/-! ### _law_shuffled -/
theorem perm_erase {α : Type} {F L : List α} {k : Nat} (hk : k < L.length) : (F ++ [L[k]] ++ L.eraseIdx k).Perm (F ++ L) := by
  have e : L = L.take k ++ L[k] :: L.drop (k + 1) := by rw [List.getElem_cons_drop, List.take_append_drop]
  rw [List.eraseIdx_eq_take_drop_succ, List.append_assoc]
  refine List.Perm.append_left F ?_
  conv => rhs; rw [e]
  rw [List.singleton_append]
  exact (List.perm_middle).symm
theorem seq_ix {k n : Nat} (h : k < n) : seqIndex? (k : Int) n = some k := by
  unfold seqIndex?
  dsimp only
  rw [if_neg (show ¬ ((k : Int) < 0) by omega), if_pos (by rw [decide_eq_true (show (0 : Int) ≤ k by omega), decide_eq_true (show (k : Int) < n by omega)]; rfl), Int.toNat_natCast]
theorem map_erase {α : Type} (g : α → V) (L : List α) (k : Nat) : (L.map g).eraseIdx k = (L.eraseIdx k).map g := by
  rw [List.eraseIdx_eq_take_drop_succ, List.eraseIdx_eq_take_drop_succ, List.map_append, List.map_take, List.map_drop]
def spShuf : Sp := fun vs H Q _ => ∃ (p a : Addr) (α : Type) (g : α → V) (l : List α), vs = [.ref p, .ref a] ∧ PotAt H p ∧ H a = some (.lst (l.map g)) ∧ a ≠ p ∧ l.length ≤ 1000 ∧ ∀ H' q (l' : List α), But p H H' → PotAt H' p → H q = none → q ≠ p → H' q = some (.lst (l'.map g)) → l'.Perm l → Q (.ref q) H'
theorem ok_l_shuffled (T : Tx K mg C) (G_l_draw : Fnc P w K mg base CX0 1 "_law_draw" [] spTake) (F : FD K "_law_shuffled" "_law_shuffled" s_l_shuffled [] f fd) : FnG P w K mg base CX0 2 f fd ["_law_pot_here", "_law_things"] spShuf := by
  refine ok0 F sc_l_shuffled (fun vs H Q E h => ?_) (fun cdv A outer s H vs Q E hr h => ?_)
  · obtain ⟨p, a, α, g, l, rfl, _⟩ := h
    rfl
  · obtain ⟨p, a, α, g, l, rfl, hp, ha, nap, ll, q⟩ := h
    refine ⟨_, (pss_cons (ps_set (i := 2) sc_l_shuffled.nd rfl (by first | exact Or.inl rfl | exact Or.inr rfl) (pe_callTy call_list_of (by rfl) T.n_list (by decide +kernel) (pa_cons (pv 1) pa_nil)))
      (pss_one (ps_ret (pe_lc (own := [("_law_k", 3)]) rfl sc_l_shuffled.nd (pi_range1 (by rfl) T.n_range (pa_cons (pe_callB call_len_seq (by rfl) T.n_len (by decide +kernel) (pa_cons (pv 1) pa_nil)) pa_nil)) (blkOk_by (own := [("_law_k", 3)]) (N := n_l_shuffled) (sc := defScope s_l_shuffled) (by decide +kernel)) (fun _ _ _ _ _ => (pg_name (i := 3) sc_l_shuffled.nd rfl (by first | exact Or.inl rfl | exact Or.inr rfl))) (fun _ _ _ _ _ => pts_nil) (fun _ _ _ _ _ => (pe_bmN (K := K) (by rfl) PySem.F.plainAttrs_list PySem.F.slot_list_pop PySem.F.type_list_pop mt_popAt (pv 2) (pa_cons (pe_fn G_l_draw (hr.mono (by decide)) pass0 (pa_cons (pv 0) (pa_cons (pe_callB (call_len_seqK (K := K) (by rfl)) (by rfl) T.n_len (by decide +kernel) (pa_cons (pv 2) pa_nil)) pa_nil))) pa_nil))))))), ?_⟩
    refine ⟨_, rfl, a, _, rfl, .inl (SqL.of ha), fun lf nlf => ?_⟩
    obtain ⟨G1, e, s1, hlf⟩ := mkO nlf (.lst (l.map g))
    rw [e]
    clear e
    have hp1 := hp.same s1
    have lfp : lf ≠ p := hp.ne nlf
    refine nm_of ?_
    dsimp only
    refine ⟨_, rfl, a, _, rfl, .inl (SqL.of (s1 _ _ ha)), _, rfl, by rw [List.length_map]; omega, by rw [List.length_map]; omega, fun D nD => ?_⟩
    have nDp : D ≠ p := hp1.ne nD
    have nDl : D ≠ lf := fun z => by rw [z, hlf] at nD; cases nD
    have nD0 : H D = none := s1.free nD
    rw [Int.toNat_natCast, List.length_map]
    refine lc_inv (walk_range (lo := 0) (n := l.length)) (fun j acc H' => But p H H' ∧ PotAt H' p ∧ ∃ L F : List α, H' lf = some (.lst (L.map g)) ∧ acc = F.map g ∧ (F ++ L).Perm l ∧ F.length = j) (fun j acc H' xs z => ⟨own_but z.1 nD0, z.2.1.but but_upd nDp.symm, by
      obtain ⟨_, _, L, F, hL, z⟩ := z
      exact ⟨L, F, by rw [upd_ne nDl.symm]; exact hL, z⟩⟩) ⟨But.of s1, hp1, l, [], hlf, rfl, .refl _, rfl⟩ ?_ (fun _ _ _ _ _ => trivial) ?_ ?_
    · rintro j acc H' hj ⟨_, _, L, F, _, rfl, _, lF⟩
      rw [List.length_map, lF]
      exact Nat.lt_of_lt_of_le (show _ < 100000 by omega) (small (Nat.le_refl _))
    · rintro j x acc H3 H4 hj ⟨b3, hp3, L, F', hL, rfl, pm, lF⟩ hD3 ⟨rfl, rfl⟩ N S hN hS
      have lL : L.length = l.length - j := by
        have := pm.length_eq
        rw [List.length_append] at this
        omega
      refine ⟨rfl, _, rfl, .inl ⟨rfl, _, SqL.of hL⟩, _, rfl, _, rfl, lf, _, rfl, .inl (SqL.of hL), p, _, rfl, hp3, by rw [List.length_map]; omega, by rw [List.length_map]; omega, fun H5 d b5 hp5 d0 d1 => ?_⟩
      obtain ⟨k, rfl⟩ := Int.eq_ofNat_of_zero_le d0
      rw [List.length_map] at d1
      have hk : k < L.length := by omega
      have hL5 := b5 _ _ hL lfp
      refine ⟨lf, _, _, k, g L[k], rfl, rfl, hL5, by omega, by omega, ?_, ?_, ?_⟩
      · rw [List.length_map]
        exact seq_ix hk
      · rw [List.getElem?_map, List.getElem?_eq_getElem hk]
        rfl
      refine hN _ _ (by rw [upd_ne nDl]; exact b5 _ _ hD3 nDp) ⟨own_but (b3.trans b5) nlf, hp5.but but_upd lfp.symm, L.eraseIdx k, F' ++ [L[k]], by rw [upd_same, map_erase], by rw [List.map_append]; rfl, (perm_erase hk).trans pm, by rw [List.length_append, lF]; rfl⟩
    · rintro acc H3 hD3 ⟨b3, hp3, L, F', hL, rfl, pm, lF⟩
      have lL : L = [] := by
        have := pm.length_eq
        rw [List.length_append] at this
        exact List.length_eq_zero_iff.mp (by omega)
      rw [lL, List.append_nil] at pm
      exact q _ D F' b3 hp3 nD0 nDp hD3 pm
end
end K62

set_option Elab.async false
set_option linter.all false
set_option maxRecDepth 100000
set_option maxHeartbeats 2000000
/-! L61b: names, rows drawn. -/
namespace K62
open PySem PySem.Spec PyProof.Rows L2 LL ST
section
variable {P : Program} {w : World} {K : PySem.W.Frag} {mg : Str → Option Value} {base : Heap} {C : Addr} {f : Addr} {fd : FuncData}
theorem rg_nV (m : Nat) : rgV 0 (m : Int) = nV (List.range m) := by
  unfold rgV nV
  rw [show ((m : Int) - 0).toNat = m by omega]
  refine List.map_congr_left fun i _ => ?_
  rw [Int.zero_add]
/-! ### _law_names -/
def spNames : Sp := fun vs H Q _ => ∃ (p : Addr) (m : Nat), vs = [.ref p, .int (m : Nat)] ∧ PotAt H p ∧ m ≤ 20 ∧ ∀ H' q (ns : List Int), But p H H' → PotAt H' p → H q = none → q ≠ p → H' q = some (.lst (ns.map V.int)) → ns.Nodup → (∀ n ∈ ns, IOk n) → ns.length = m → Q (.ref q) H'
theorem ok_l_names (T : Tx K mg C) (G_l_draw : Fnc P w K mg base CX0 1 "_law_draw" [] spTake) (G_l_shuffled : Fnc P w K mg base CX0 2 "_law_shuffled" [] spShuf) (F : FD K "_law_names" "_law_names" s_l_names [] f fd) : FnG P w K mg base CX0 3 f fd ["_law_pot_here", "_law_many"] spNames := by
  refine ok0 F sc_l_names (fun vs H Q E h => ?_) (fun cdv A outer s H vs Q E hr h => ?_)
  · obtain ⟨p, m, rfl, _⟩ := h
    rfl
  · obtain ⟨p, m, rfl, hp, hm, q⟩ := h
    refine ⟨_, (pss_cons (ps_asg (pe_tup (pa_cons (pe_ix ix_list (pe_lst (pa_cons pe_int (pa_cons pe_int (pa_cons pe_int (pa_cons (pe_op op_pow pe_int pe_int) pa_nil))))) (pe_fn G_l_draw (hr.mono (by decide)) pass0 (pa_cons (pv 0) (pa_cons pe_int pa_nil))) (fun _ _ => rfl)) (pa_cons (pe_ix ix_list (pe_lst (pa_cons pe_int (pa_cons pe_int (pa_cons pe_int pa_nil)))) (pe_fn G_l_draw (hr.mono (by decide)) pass0 (pa_cons (pv 0) (pa_cons pe_int pa_nil))) (fun _ _ => rfl)) pa_nil))) (pg_tup rfl (pgs_cons (pg_name (i := 2) sc_l_names.nd rfl (by first | exact Or.inl rfl | exact Or.inr rfl)) (pgs_cons (pg_name (i := 3) sc_l_names.nd rfl (by first | exact Or.inl rfl | exact Or.inr rfl)) pgs_nil))))
      (pss_one (ps_ret (pe_lc (own := [("_law_number", 4)]) rfl sc_l_names.nd (pi_list (pe_fn G_l_shuffled (hr.mono (by decide)) pass0 (pa_cons (pv 0) (pa_cons (pe_listRg rfl (by rfl) T.n_list (prg_1 (by rfl) T.n_range (pv 1))) pa_nil)))) (blkOk_by (own := [("_law_number", 4)]) (N := n_l_names) (sc := defScope s_l_names) (by decide +kernel)) (fun _ _ _ _ _ => (pg_name (i := 4) sc_l_names.nd rfl (by first | exact Or.inl rfl | exact Or.inr rfl))) (fun _ _ _ _ _ => pts_nil) (fun _ _ _ _ _ => (pe_op op_add (pe_op op_mulX (pv 4) (pv 2)) (pv 3))))))), ?_⟩
    refine ⟨_, _, rfl, rfl, ⟨by decide, by decide, by decide⟩, (by show 4 ≤ sizeLine; decide), fun l1 n1 => ?_⟩
    obtain ⟨G1, e, s1, h1⟩ := mkO n1 (.lst [.int 1, .int 1, .int 3, .int (10 ^ (25 : Int).toNat)])
    rw [e]
    clear e
    refine ⟨_, rfl, p, _, rfl, hp.same s1, by decide, by decide, fun H2 d b2 hp2 d0 d1 => ?_⟩
    obtain ⟨k, rfl⟩ := Int.eq_ofNat_of_zero_le d0
    have n1p := hp.ne n1
    obtain ⟨fa, ef, fp⟩ : ∃ fa : Int, ([.int 1, .int 1, .int 3, .int (10 ^ (25 : Int).toNat)] : List V)[k]? = some (.int fa) ∧ (fa = 1 ∨ fa = 3 ∨ fa = 10 ^ 25) := by
      match k, d1 with
      | 0, _ => exact ⟨_, rfl, .inl rfl⟩
      | 1, _ => exact ⟨_, rfl, .inl rfl⟩
      | 2, _ => exact ⟨_, rfl, .inr (.inl rfl)⟩
      | 3, _ => exact ⟨_, rfl, .inr (.inr rfl)⟩
      | k + 4, h => omega
    refine ⟨l1, _, _, _, rfl, rfl, SqL.of (b2 _ _ h1 n1p), atI_nat ef, (by show 3 ≤ sizeLine; decide), fun l2 n2 => ?_⟩
    obtain ⟨G3, e, s3, h3⟩ := mkO n2 (.lst [.int 0, .int 0, .int 5])
    rw [e]
    clear e
    refine ⟨_, rfl, p, _, rfl, hp2.same s3, by decide, by decide, fun H4 d b4 hp4 d0 d1 => ?_⟩
    obtain ⟨k', rfl⟩ := Int.eq_ofNat_of_zero_le d0
    have n2p := hp2.ne n2
    obtain ⟨mo, em, mp⟩ : ∃ mo : Int, ([.int 0, .int 0, .int 5] : List V)[k']? = some (.int mo) ∧ (mo = 0 ∨ mo = 5) := by
      match k', d1 with
      | 0, _ => exact ⟨_, rfl, .inl rfl⟩
      | 1, _ => exact ⟨_, rfl, .inl rfl⟩
      | 2, _ => exact ⟨_, rfl, .inr rfl⟩
      | k + 3, h => omega
    refine ⟨l2, _, _, _, rfl, rfl, SqL.of (b4 _ _ h3 n2p), atI_nat em, (by show 2 ≤ sizeLine; decide), fun tt ntt => ⟨tt, _, rfl, SqT.of upd_same, rfl, _, _, rfl, _, _, rfl, rfl, ?_⟩⟩
    obtain ⟨G5, e, s5, h5⟩ := mkO ntt (.tup [.int fa, .int mo])
    rw [e]
    clear e
    have B5 : But p H G5 := ((But.of s1).trans (b2.trans ((But.of s3).trans b4))).trans (But.of s5)
    have hp5 := hp4.same s5
    refine ⟨_, rfl, _, rfl, _, rfl, RgOk.of_le (by decide) (by omega) (by decide) (by omega), fun lr nlr => ?_⟩
    rw [rg_nV]
    obtain ⟨G6, e, s6, h6⟩ := mkO nlr (.lst (nV (List.range m)))
    rw [e]
    clear e
    have nlp := hp5.ne nlr
    refine ⟨p, lr, Nat, (fun s => V.int (s : Nat)), List.range m, rfl, hp5.same s6, h6, nlp, by rw [List.length_range]; omega, fun H7 q7 l' b7 hp7 nq nqp hq pm => ?_⟩
    have B7 : But p H H7 := (B5.trans (But.of s6)).trans b7
    have ll : l'.length = m := by rw [pm.length_eq, List.length_range]
    refine ⟨q7, rfl, ⟨_, SqL.of hq⟩, fun D nD => ?_⟩
    refine lc_acc (walk_list (K := K) (a := q7) (xs := nV l')) nD (fun j => (l'.take j).map fun (i : Nat) => V.int ((i : Int) * fa + mo)) rfl (fun j hj => ?_) (fun H' s' => SqL.of (s' _ _ hq)) ?_ ?_
    · rw [List.length_map, List.length_take]
      omega
    · rintro j x H8 H9 hj s8 ⟨rfl, hx⟩ N S hN hS
      rw [List.getElem?_map] at hx
      obtain ⟨i, hi, rfl⟩ := Option.map_eq_some_iff.mp hx
      have im : i < m := List.mem_range.mp (pm.mem_iff.mp (List.mem_of_getElem? hi))
      refine ⟨rfl, _, rfl, _, rfl, _, _, rfl, rfl, mulx_ok (a := 10) (b := 100) (by omega) (by rcases fp with rfl | rfl | rfl <;> decide) (by decide), _, rfl, _, _, rfl, rfl, hN _ _ Same.rfl' ?_⟩
      rw [take_map _ hi]
    intro H8 s8 h8
    rw [List.length_map, List.take_length] at h8
    have nD0 : H D = none := B7.free (hp7.ne nD) nD
    refine q H8 D (l'.map fun (i : Nat) => (i : Int) * fa + mo) (but_same B7 s8) (hp7.same s8) nD0 (hp7.ne nD) ?_ ?_ ?_ ?_
    · rw [h8, List.map_map]
      rfl
    · refine List.Pairwise.map _ (fun a b (h : a ≠ b) => ?_) (pm.nodup_iff.mpr List.nodup_range)
      have f0 : fa ≠ 0 := by rcases fp with rfl | rfl | rfl <;> decide
      intro z
      have z : (a : Int) * fa = b * fa := by omega
      exact h (by have := Int.eq_of_mul_eq_mul_right f0 z; omega)
    · intro n hn
      obtain ⟨i, hi, rfl⟩ := List.mem_map.mp hn
      have im : i < m := List.mem_range.mp (pm.mem_iff.mp hi)
      unfold IOk
      rcases fp with rfl | rfl | rfl <;> rcases mp with rfl | rfl <;> constructor <;> omega
    · rw [List.length_map, ll]
/-! ### _law_some -/
def spSome : Sp := fun vs H Q _ => ∃ (p a : Addr) (ts : List Int) (m : Nat), vs = [.ref p, .ref a, .int (m : Nat)] ∧ PotAt H p ∧ H a = some (.lst (ts.map V.int)) ∧ a ≠ p ∧ ts.length ≤ 1000 ∧ m ≤ 20 ∧
  ∀ H' u (os : List Int), But p H H' → PotAt H' p → OpT H' u os → (∀ o ∈ os, o ∈ ts) → os.length ≤ m → Q u H'
theorem ok_l_some (T : Tx K mg C) (G_l_draw : Fnc P w K mg base CX0 1 "_law_draw" [] spTake) (F : FD K "_law_some" "_law_some" s_l_some [] f fd) : FnG P w K mg base CX0 2 f fd ["_law_pot_here", "_law_there", "_law_most"] spSome := by
  refine ok0 F sc_l_some (fun vs H Q E h => ?_) (fun cdv A outer s H vs Q E hr h => ?_)
  · obtain ⟨p, a, ts, m, rfl, _⟩ := h
    rfl
  · obtain ⟨p, a, ts, m, rfl, hp, ha, nap, lt, hm, q⟩ := h
    refine ⟨_, (pss_cons (ps_set (i := 3) sc_l_some.nd rfl (by first | exact Or.inl rfl | exact Or.inr rfl) (pe_fn G_l_draw (hr.mono (by decide)) pass0 (pa_cons (pv 0) (pa_cons (pe_op op_add (pv 2) pe_int) pa_nil))))
      (pss_one (ps_ret (pe_callTy call_tuple_of (by rfl) T.n_tuple (by decide +kernel) (pa_cons (pe_lc (own := [("_law_k", 4)]) rfl sc_l_some.nd (pi_range1 (by rfl) T.n_range (pa_cons (pe_op op_mulX (pv 3) (pe_callTy call_int1 (by rfl) T.n_int (by decide +kernel) (pa_cons (pe_cmpR (op_neD hr.r.units) (pv 1) (pe_lst pa_nil) (nomark _)) pa_nil))) pa_nil)) (blkOk_by (own := [("_law_k", 4)]) (N := n_l_some) (sc := defScope s_l_some) (by decide +kernel)) (fun _ _ _ _ _ => (pg_name (i := 4) sc_l_some.nd rfl (by first | exact Or.inl rfl | exact Or.inr rfl))) (fun _ _ _ _ _ => pts_nil) (fun _ _ _ _ _ => (pe_ix (ix_listK (K := K) (by rfl)) (pv 1) (pe_fn G_l_draw (hr.mono (by decide)) pass0 (pa_cons (pv 0) (pa_cons (pe_callB (call_len_seqK (K := K) (by rfl)) (by rfl) T.n_len (by decide +kernel) (pa_cons (pv 1) pa_nil)) pa_nil))) (fun _ _ => rfl)))) pa_nil))))), ?_⟩
    refine ⟨_, rfl, _, rfl, _, _, rfl, rfl, p, _, rfl, hp, by omega, by omega, fun H1 d b1 hp1 d0 d1 => ?_⟩
    obtain ⟨k, rfl⟩ := Int.eq_ofNat_of_zero_le d0
    have ha1 := b1 _ _ ha nap
    refine nm_of ?_
    dsimp only
    refine ⟨_, rfl, _, rfl, (by show 0 ≤ sizeLine; decide), fun l1 n1 => ?_⟩
    obtain ⟨G2, e, s2, h2⟩ := mkO n1 (.lst [])
    rw [e]
    clear e
    have ha2 := s2 _ _ ha1
    have hp2 := hp1.same s2
    refine ne_pd (dp_ints ha2) (dp_ints (l := []) h2) (pn_ints _) (pn_ints _) fun b hb => .inr ⟨_, rfl, ?_⟩
    refine ⟨_, _, rfl, rfl, mulx_ok (a := 10) (b := 2) (by omega) (by cases b <;> decide) (by decide), ?_⟩
    obtain ⟨n, en, hn, hts⟩ : ∃ n : Nat, (k : Int) * (if (!b) = true then 1 else 0) = (n : Nat) ∧ n ≤ k ∧ (0 < n → ts ≠ []) := by
      cases b with
      | true => exact ⟨0, by simp, Nat.zero_le _, fun z => absurd z (Nat.lt_irrefl _)⟩
      | false => exact ⟨k, by simp, Nat.le_refl _, fun _ z => by
          have := hb.mpr (by rw [z])
          cases this⟩
    refine ⟨((n : Nat) : Int), congrArg (fun z => [V.int z]) en, by omega, by omega, fun D nD => ?_⟩
    rw [Int.toNat_natCast]
    have nDp := hp2.ne nD
    have B2 : But p H G2 := but_same b1 s2
    have nD0 : H D = none := B2.free nDp nD
    have nDa : a ≠ D := ne_of_none ha2 nD
    refine lc_inv (walk_range (lo := 0) (n := n)) (fun j acc H' => But p H H' ∧ PotAt H' p ∧ ∃ os : List Int, acc = os.map V.int ∧ os.length = j ∧ ∀ o ∈ os, o ∈ ts) (fun j acc H' xs z => ⟨own_but z.1 nD0, z.2.1.but but_upd nDp.symm, z.2.2⟩) ⟨B2, hp2, [], rfl, rfl, fun c hc => by cases hc⟩ ?_ (fun _ _ _ _ _ => trivial) ?_ ?_
    · rintro j acc H' hj ⟨_, _, r, rfl, e, _⟩
      rw [List.length_map, e]
      exact Nat.lt_of_lt_of_le (show _ < 100000 by omega) (small (Nat.le_refl _))
    · rintro j x acc H3 H4 hj ⟨b3, hp3, os, rfl, lo, ho⟩ hD3 ⟨rfl, rfl⟩ N S hN hS
      have t0 : 0 < ts.length := List.length_pos_iff.mpr (hts (by omega))
      have ha3 := b3 _ _ ha nap
      refine ⟨rfl, _, rfl, _, rfl, _, rfl, a, _, rfl, .inl (SqL.of ha3), p, _, rfl, hp3, by rw [List.length_map]; omega, by rw [List.length_map]; omega, fun H5 d b5 hp5 d0 d1 => ?_⟩
      obtain ⟨i, rfl⟩ := Int.eq_ofNat_of_zero_le d0
      rw [List.length_map] at d1
      have hi : i < ts.length := by omega
      refine ⟨a, _, _, _, rfl, rfl, SqL.of (b5 _ _ ha3 nap), at_map hi, hN _ _ (b5 _ _ hD3 nDp) ⟨b3.trans b5, hp5, os ++ [ts[i]], by rw [List.map_append]; rfl, by rw [List.length_append, lo]; rfl, fun o ho' => ?_⟩⟩
      rcases List.mem_append.mp ho' with z | z
      · exact ho o z
      · rw [List.mem_singleton.mp z]
        exact List.getElem_mem hi
    · rintro acc H3 hD3 ⟨b3, hp3, os, rfl, lo, ho⟩
      refine ⟨D, _, rfl, .inl ⟨SqL.of hD3, fun tp ntp => q _ _ os (but_same b3 (same_upd ntp)) (hp3.same (same_upd ntp)) ⟨tp, rfl, upd_same⟩ ho (by omega)⟩⟩
end
end K62

set_option Elab.async false
set_option linter.all false
set_option maxRecDepth 100000
set_option maxHeartbeats 2000000
/-! L61c: rows drawn. -/
namespace K62
open PySem PySem.Spec PyProof.Rows L2 LL ST
theorem OpT.kp {H H' : Hp} {u : V} {os : List Int} (h : OpT H u os) (s : Kp H H') : OpT H' u os := let ⟨o, e, x⟩ := h; ⟨o, e, s _ _ x (fun _ z => nomatch z)⟩
theorem RwAt.kp {H H' : Hp} {v : V} {r : Rw} (h : RwAt H v r) (s : Kp H H') : RwAt H' v r := by
  cases r with
  | leaf n => exact let ⟨t, e, x⟩ := h; ⟨t, e, s _ _ x (fun _ z => nomatch z)⟩
  | set n os => exact let ⟨t, u, e, x, o⟩ := h; ⟨t, u, e, s _ _ x (fun _ z => nomatch z), o.kp s⟩
  | use os => exact let ⟨t, u, e, x, o⟩ := h; ⟨t, u, e, s _ _ x (fun _ z => nomatch z), o.kp s⟩
  | stop l os => exact let ⟨t, u, e, x, o⟩ := h; ⟨t, u, e, s _ _ x (fun _ z => nomatch z), o.kp s⟩
theorem Rws.kp {H H' : Hp} {vs : List V} {rs : Rs} (h : Rws H vs rs) (s : Kp H H') : Rws H' vs rs := ⟨h.len, fun i v e => (h.at_ i v e).kp s⟩
theorem PotAt.kp {H H' : Hp} {p : Addr} (h : PotAt H p) (b : But p H H') : Kp H H' := let ⟨_, _, e, _⟩ := h; b.kp e
theorem Rws.snoc {H : Hp} {vs : List V} {rs : Rs} {v : V} {r : Rw} (h : Rws H vs rs) (hr : RwAt H v r) : Rws H (vs ++ [v]) (rs ++ [r]) := by
  refine ⟨by rw [List.length_append, List.length_append, h.len]; rfl, fun i u e => ?_⟩
  by_cases c : i < vs.length
  · rw [List.getElem?_append_left c] at e
    rw [rw_app (by rw [← h.len]; exact c)]
    exact h.at_ i u e
  · have hi := (List.getElem?_eq_some_iff.mp e).1
    rw [List.length_append, List.length_singleton] at hi
    have ei : i = vs.length := by omega
    subst ei
    rw [List.getElem?_append_right (Nat.le_refl _), Nat.sub_self] at e
    cases e
    rw [h.len, rw_last]
    exact hr
theorem rws_nil {H : Hp} : Rws H [] [] := ⟨rfl, fun i v e => by simp at e⟩
theorem rsok_nil : RsOk [] := ⟨fun i h => absurd h (Nat.not_lt_zero _), fun i h => absurd h (Nat.not_lt_zero _), by decide⟩
theorem flat_rep (x : V) : ∀ n, (List.replicate n [x]).flatten = List.replicate n x
  | 0 => rfl
  | n + 1 => by rw [List.replicate_succ, List.flatten_cons, flat_rep x n, List.replicate_succ]; rfl
abbrev vS : Str := "value"
theorem sw : ("value" : Str) ≠ "stop" := by decide +kernel
theorem sw2 : ("value" : Str) ≠ "use" := by decide +kernel
theorem sw3 : ("stop" : Str) ≠ "use" := by decide +kernel
section
variable {P : Program} {w : World} {K : PySem.W.Frag} {mg : Str → Option Value} {base : Heap} {C : Addr} {f : Addr} {fd : FuncData}
def spRows : Sp := fun vs H Q _ => ∃ (p : Addr) (va sb oc : Nat), vs = [.ref p, .int (va : Nat), .int (sb : Nat), .int (oc : Nat)] ∧ 1 ≤ va ∧ va ≤ 14 ∧ sb ≤ 8 ∧ oc ≤ 6 ∧ PotAt H p ∧
  ∀ H' t fo lo rs ls (out : List Int), But p H H' → PotAt H' p → H' t = some (.tup [.ref fo, .ref lo]) → H' fo = some (.lst ls) → Rws H' ls rs → RsOk rs → LabOk rs → rs.length ≤ 28 → vlA rs ≠ [] → H' lo = some (.lst (out.map V.int)) → (∀ n ∈ out, n ∈ vlA rs) → out.length ≤ 2 → H fo = none → H lo = none → fo ≠ lo → fo ≠ p → lo ≠ p → Q (.ref t) H'
theorem ok_l_rows (T : Tx K mg C) (G_l_draw : Fnc P w K mg base CX0 1 "_law_draw" [] spTake) (G_l_shuffled : Fnc P w K mg base CX0 2 "_law_shuffled" [] spShuf) (G_l_names : Fnc P w K mg base CX0 3 "_law_names" [] spNames) (G_l_some : Fnc P w K mg base CX0 2 "_law_some" [] spSome)
    (F : FD K "_law_rows" "_law_rows" s_l_rows [] f fd) : FnG P w K mg base CX0 4 f fd ["_law_pot_here", "_law_values", "_law_stops", "_law_others"] spRows := by
  refine ok0 F sc_l_rows (fun vs H Q E h => ?_) (fun cdv A outer s H vs Q E hr h => ?_)
  · obtain ⟨p, va, sb, oc, rfl, _⟩ := h
    rfl
  · obtain ⟨p, va, sb, oc, rfl, va1, va2, sb2, oc2, hp, q⟩ := h
    refine ⟨_, (pss_cons (ps_par3 (i := 4) (j := 5) (l := 6) rfl sc_l_rows.nd rfl rfl rfl (by decide) (by decide) (by decide) rfl rfl rfl (pa_cons (pe_fn G_l_names (hr.mono (by decide)) pass0 (pa_cons (pv 0) (pa_cons (pe_op op_add pe_int (pe_fn G_l_draw (hr.mono (by decide)) pass0 (pa_cons (pv 0) (pa_cons (pv 1) pa_nil)))) pa_nil))) (pa_cons (pe_lst pa_nil) (pa_cons (pe_lst pa_nil) pa_nil))) (by rfl))
      (pss_cons (ps_set (i := 7) sc_l_rows.nd rfl (by first | exact Or.inl rfl | exact Or.inr rfl) (pe_op op_cat (pe_op op_cat (pe_op op_rep (pe_lst (pa_cons pe_str pa_nil)) (pe_callB call_len_seq (by rfl) T.n_len (by decide +kernel) (pa_cons (pv 4) pa_nil))) (pe_op op_rep (pe_lst (pa_cons pe_str pa_nil)) (pe_fn G_l_draw (hr.mono (by decide)) pass0 (pa_cons (pv 0) (pa_cons (pe_op op_add (pv 2) pe_int) pa_nil))))) (pe_op op_rep (pe_lst (pa_cons pe_str pa_nil)) (pe_fn G_l_draw (hr.mono (by decide)) pass0 (pa_cons (pv 0) (pa_cons (pe_op op_add (pv 3) pe_int) pa_nil))))))
      (pss_cons (ps_for PassesOwn.never rfl (pi_list (pe_fn G_l_shuffled (hr.mono (by decide)) pass0 (pa_cons (pv 0) (pa_cons (pv 7) pa_nil)))) (pg_name (i := 8) sc_l_rows.nd rfl (by first | exact Or.inl rfl | exact Or.inr rfl)) (pss_one (ps_if (pt_cmpR op_eq (pv 8) pe_str (nomark _)) (pss_one (ps_expr (pe_bm PySem.F.plainAttrs_list PySem.F.slot_list_append PySem.F.type_list_append mt_append (pv 6) (pa_cons (pe_tup (pa_cons pe_str (pa_cons (pe_ix ix_list (pe_lst (pa_cons pe_str (pa_cons pe_str (pa_cons pe_str (pa_cons pe_str pa_nil))))) (pe_fn G_l_draw (hr.mono (by decide)) pass0 (pa_cons (pv 0) (pa_cons pe_int pa_nil))) (fun _ _ => rfl)) (pa_cons (pe_fn G_l_some (hr.mono (by decide)) pass0 (pa_cons (pv 0) (pa_cons (pv 5) (pa_cons pe_int pa_nil)))) pa_nil)))) pa_nil)))) (pss_one (ps_if (pt_cmpR op_eq (pv 8) pe_str (nomark _)) (pss_one (ps_expr (pe_bm PySem.F.plainAttrs_list PySem.F.slot_list_append PySem.F.type_list_append mt_append (pv 6) (pa_cons (pe_tup (pa_cons pe_str (pa_cons (pe_fn G_l_some (hr.mono (by decide)) pass0 (pa_cons (pv 0) (pa_cons (pv 5) (pa_cons pe_int pa_nil)))) pa_nil))) pa_nil)))) (pss_cons (ps_set (i := 9) sc_l_rows.nd rfl (by first | exact Or.inl rfl | exact Or.inr rfl) (pe_ix ix_list (pv 4) (pe_callB call_len_seq (by rfl) T.n_len (by decide +kernel) (pa_cons (pv 5) pa_nil)) (fun _ _ => rfl)))
      (pss_cons (ps_expr (pe_bm PySem.F.plainAttrs_list PySem.F.slot_list_append PySem.F.type_list_append mt_append (pv 6) (pa_cons (pe_ifExp (pt_cmpR op_eq (pe_fn G_l_draw (hr.mono (by decide)) pass0 (pa_cons (pv 0) (pa_cons pe_int pa_nil))) pe_int (nomark _)) (pe_tup (pa_cons pe_str (pa_cons (pv 9) pa_nil))) (pe_tup (pa_cons pe_str (pa_cons (pv 9) (pa_cons (pe_fn G_l_some (hr.mono (by decide)) pass0 (pa_cons (pv 0) (pa_cons (pv 5) (pa_cons pe_int pa_nil)))) pa_nil))))) pa_nil)))
      (pss_one (ps_expr (pe_bm PySem.F.plainAttrs_list PySem.F.slot_list_append PySem.F.type_list_append mt_append (pv 5) (pa_cons (pv 9) pa_nil)))))))))))
      (pss_one (ps_ret (pe_tup (pa_cons (pv 6) (pa_cons (pe_callTy call_list_of (by rfl) T.n_list (by decide +kernel) (pa_cons (pe_fn G_l_some (hr.mono (by decide)) pass0 (pa_cons (pv 0) (pa_cons (pv 5) (pa_cons (pe_ix ix_list (pe_lst (pa_cons pe_int (pa_cons pe_int (pa_cons pe_int (pa_cons pe_int pa_nil))))) (pe_fn G_l_draw (hr.mono (by decide)) pass0 (pa_cons (pv 0) (pa_cons pe_int pa_nil))) (fun _ _ => rfl)) pa_nil)))) pa_nil)) pa_nil)))))))), ?_⟩
    refine ⟨_, rfl, _, rfl, _, rfl, p, _, rfl, hp, by omega, by omega, fun H1 d b1 hp1 d0 d1 => ?_⟩
    obtain ⟨k, rfl⟩ := Int.eq_ofNat_of_zero_le d0
    refine ⟨_, _, rfl, rfl, p, k + 1, ?_, hp1, by omega, fun H2 nl ns b2 hp2 nnl nlp hnl nod iok lns => ?_⟩
    · show [V.ref p, V.int (1 + (k : Int))] = _
      rw [show (1 : Int) + (k : Int) = ((k + 1 : Nat) : Int) by omega]
    have b02 := b1.trans b2
    have nl0 : H nl = none := b1.free nlp nnl
    refine ⟨(by show 0 ≤ sizeLine; decide), fun th nth => ⟨(by show 0 ≤ sizeLine; decide), fun fo nfo => ⟨_, _, _, rfl, ?_⟩⟩⟩
    have thp := hp2.ne nth
    have th0 := b02.free thp nth
    obtain ⟨G3, e, s3, hth⟩ := mkO nth (.lst [])
    rw [e] at nfo ⊢
    clear e
    have hp3 := hp2.same s3
    have fop := hp3.ne nfo
    have fo0 := b02.free fop (s3.free nfo)
    have fth : fo ≠ th := fun z => by rw [z, hth] at nfo; cases nfo
    obtain ⟨G4, e, s4, hfo⟩ := mkO nfo (.lst [])
    rw [e]
    clear e
    have b04 : But p H G4 := (b02.trans (But.of s3)).trans (But.of s4)
    have hp4 := hp3.same s4
    have hnl4 := s4 _ _ (s3 _ _ hnl)
    have hth4 := s4 _ _ hth
    have nlth : nl ≠ th := ne_of_none hnl nth
    have nlfo : nl ≠ fo := ne_of_none (s3 _ _ hnl) nfo
    -- the words
    refine ⟨(by show 1 ≤ sizeLine; decide), fun l1 n1 => ?_⟩
    obtain ⟨G5, e, s5, h5⟩ := mkO n1 (.lst [.str "value"])
    rw [e]
    clear e
    refine ⟨_, rfl, nl, _, rfl, .inl (SqL.of (s5 _ _ hnl4)), l1, _, _, rfl, rfl, h5, by omega, by rw [List.length_map]; omega, small (by rw [List.length_map, List.length_singleton]; omega), fun w1 nw1 => ?_⟩
    rw [flat_rep]
    obtain ⟨G6, e, s6, h6⟩ := mkO nw1 (.lst (List.replicate ((ns.map V.int).length : Int).toNat (.str "value")))
    rw [e]
    clear e
    refine ⟨(by show 1 ≤ sizeLine; decide), fun l2 n2 => ?_⟩
    obtain ⟨G7, e, s7, h7⟩ := mkO n2 (.lst [.str "stop"])
    rw [e]
    clear e
    have s47 := (s5.trans s6).trans s7
    have hp7 := hp4.same s47
    refine ⟨_, rfl, _, rfl, _, _, rfl, rfl, p, _, rfl, hp7, by omega, by omega, fun H8 d b8 hp8 d0 d2 => ?_⟩
    obtain ⟨k2, rfl⟩ := Int.eq_ofNat_of_zero_le d0
    have l2p := (hp4.same (s5.trans s6)).ne n2
    have w1p := (hp4.same s5).ne nw1
    refine ⟨l2, _, _, rfl, rfl, b8 _ _ h7 l2p, by omega, by omega, small (by rw [List.length_singleton]; omega), fun w2 nw2 => ?_⟩
    rw [flat_rep]
    obtain ⟨G9, e, s9, h9⟩ := mkO nw2 (.lst (List.replicate (k2 : Int).toNat (.str "stop")))
    rw [e]
    clear e
    refine ⟨w1, w2, _, _, rfl, rfl, s9 _ _ (b8 _ _ (s7 _ _ h6) w1p), h9, small (by rw [List.length_replicate, List.length_replicate, List.length_map]; omega), fun w3 nw3 => ?_⟩
    obtain ⟨G10, e, s10, h10⟩ := mkO nw3 (.lst (List.replicate ((ns.map V.int).length : Int).toNat (.str "value") ++ List.replicate (k2 : Int).toNat (.str "stop")))
    rw [e]
    clear e
    have w3p := (hp8.same s9).ne nw3
    refine ⟨(by show 1 ≤ sizeLine; decide), fun l3 n3 => ?_⟩
    have l3p := ((hp8.same s9).same s10).ne n3
    obtain ⟨G11, e, s11, h11⟩ := mkO n3 (.lst [.str "use"])
    rw [e]
    clear e
    have hp11 := ((hp8.same s9).same s10).same s11
    refine ⟨_, rfl, _, rfl, _, _, rfl, rfl, p, _, rfl, hp11, by omega, by omega, fun H12 d b12 hp12 d0 d3 => ?_⟩
    obtain ⟨k3, rfl⟩ := Int.eq_ofNat_of_zero_le d0
    refine ⟨l3, _, _, rfl, rfl, b12 _ _ h11 l3p, by omega, by omega, small (by rw [List.length_singleton]; omega), fun w4 nw4 => ?_⟩
    rw [flat_rep]
    obtain ⟨G13, e, s13, h13⟩ := mkO nw4 (.lst (List.replicate (k3 : Int).toNat (.str "use")))
    rw [e]
    clear e
    refine ⟨w3, w4, _, _, rfl, rfl, s13 _ _ (b12 _ _ (s11 _ _ h10) w3p), h13, small (by rw [List.length_append, List.length_replicate, List.length_replicate, List.length_replicate, List.length_map]; omega), fun w5 nw5 => ?_⟩
    obtain ⟨G14, e, s14, h14⟩ := mkO nw5 (.lst (List.replicate ((ns.map V.int).length : Int).toNat (.str "value") ++ List.replicate (k2 : Int).toNat (.str "stop") ++ List.replicate (k3 : Int).toNat (.str "use")))
    rw [e]
    clear e
    have w5p := (hp12.same s13).ne nw5
    rw [List.length_map, lns, Int.toNat_natCast, Int.toNat_natCast, Int.toNat_natCast] at h14
    obtain ⟨ws0, ew⟩ : ∃ ws0 : List Str, ws0 = List.replicate (k + 1) vS ++ List.replicate k2 ("stop" : Str) ++ List.replicate k3 ("use" : Str) := ⟨_, rfl⟩
    have h14 : G14 w5 = some (.lst (ws0.map V.str)) := by
      rw [h14, ew, List.map_append, List.map_append, List.map_replicate, List.map_replicate, List.map_replicate]
    have b414 : But p G4 G14 := (((((But.of s47).trans b8).trans (But.of ((s9.trans s10).trans s11))).trans b12).trans (But.of s13)).trans (But.of s14)
    have hp14 := (hp12.same s13).same s14
    have l0 : ws0.length ≤ 28 := by
      rw [ew, List.length_append, List.length_append, List.length_replicate, List.length_replicate, List.length_replicate]
      omega
    have c0 : ws0.count vS = k + 1 := by
      rw [ew, List.count_append, List.count_append, List.count_replicate_self, List.count_replicate, List.count_replicate, if_neg (by rw [beq_iff_eq]; exact fun z => sw z.symm), if_neg (by rw [beq_iff_eq]; exact fun z => sw2 z.symm)]
    have m0 : ∀ c ∈ ws0, c = "value" ∨ c = "stop" ∨ c = "use" := fun c hc => by
      rw [ew, List.mem_append, List.mem_append, List.mem_replicate, List.mem_replicate, List.mem_replicate] at hc
      rcases hc with (⟨_, h⟩ | ⟨_, h⟩) | ⟨_, h⟩
      · exact .inl h
      · exact .inr (.inl h)
      · exact .inr (.inr h)
    clear ew
    refine nm_of ?_
    dsimp only
    refine ⟨_, rfl, _, rfl, p, w5, Str, V.str, ws0, rfl, hp14, h14, w5p, by omega, fun H15 wl ws b15 hp15 nwl wlp hwl pm => ?_⟩
    have b415 := b414.trans b15
    have b015 := b04.trans b415
    have lw : ws.length = ws0.length := pm.length_eq
    have cw : ws.count vS = k + 1 := by rw [pm.count_eq, c0]
    have mw : ∀ c ∈ ws, c = "value" ∨ c = "stop" ∨ c = "use" := fun c hc => m0 c (pm.mem_iff.mp hc)
    have hnl15 := b415 _ _ hnl4 nlp
    have hth15 := b415 _ _ hth4 thp
    have hfo15 := b415 _ _ hfo fop
    have wln : wl ≠ nl := fun z => by rw [z, b414 _ _ hnl4 nlp] at nwl; cases nwl
    have wlt : wl ≠ th := fun z => by rw [z, b414 _ _ hth4 thp] at nwl; cases nwl
    have wlf : wl ≠ fo := fun z => by rw [z, b414 _ _ hfo fop] at nwl; cases nwl
    refine ⟨wl, rfl, ⟨_, SqL.of hwl⟩, ?_⟩
    refine for_it (walk_list (K := K) (a := wl) (xs := ws.map V.str)) (fun i σ H' => But p H H' ∧ PotAt H' p ∧ H' wl = some (.lst (ws.map V.str)) ∧ H' nl = some (.lst (ns.map V.int)) ∧ (∃ rs ls, H' fo = some (.lst ls) ∧ Rws H' ls rs ∧ RsOk rs ∧ LabOk rs ∧ rs.length = i ∧ H' th = some (.lst ((vlA rs).map V.int)) ∧ vlA rs = ns.take (vlA rs).length ∧ (vlA rs).length = (ws.take i).count vS) ∧
      ∃ u8 u9, σ = [some (.ref p), some (.int (va : Nat)), some (.int (sb : Nat)), some (.int (oc : Nat)), some (.ref nl), some (.ref th), some (.ref fo), some (.ref w5), u8, u9]) ⟨b015, hp15, hwl, hnl15, ⟨[], [], hfo15, rws_nil, rsok_nil, (fun r hr => by cases hr), rfl, hth15, rfl, rfl⟩, none, none, rfl⟩ (fun i σ H' _ h => SqL.of h.2.2.1) ?_ ?_
    · rintro i x σ H17 H16 hi ⟨b16, hp16, hwl16, hnl16, ⟨rs, ls, hfo16, rws, ok, lbo, lrs, hth16, tk, ct⟩, u8, u9, rfl⟩ ⟨rfl, hx⟩
      rw [List.getElem?_map] at hx
      obtain ⟨c, hc, rfl⟩ := Option.map_eq_some_iff.mp hx
      have il : i < ws.length := (List.getElem?_eq_some_iff.mp hc).1
      have lv := vls_len rs rs.length
      have lls := rws.len
      have tc : (ws.take (i + 1)).count vS = (ws.take i).count vS + [c].count vS := by rw [List.take_add_one, hc, Option.toList_some, List.count_append]
      have fin : ∀ (H18 : Hp) (v : V) (r : Rw) (u8 u9 : Option V), But p H H18 → PotAt H18 p → Kp H16 H18 → H18 wl = some (.lst (ws.map V.str)) → H18 nl = some (.lst (ns.map V.int)) → H18 fo = some (.lst (ls ++ [v])) → RwAt H18 v r → RowOk (vlA rs) r → RwZ r → r.lab.length ≤ 6 → H18 th = some (.lst ((vlA (rs ++ [r])).map V.int)) → vlA (rs ++ [r]) = ns.take (vlA (rs ++ [r])).length → (vlA (rs ++ [r])).length = (ws.take (i + 1)).count vS →
          But p H H18 ∧ PotAt H18 p ∧ H18 wl = some (.lst (ws.map V.str)) ∧ H18 nl = some (.lst (ns.map V.int)) ∧ (∃ rs ls, H18 fo = some (.lst ls) ∧ Rws H18 ls rs ∧ RsOk rs ∧ LabOk rs ∧ rs.length = i + 1 ∧ H18 th = some (.lst ((vlA rs).map V.int)) ∧ vlA rs = ns.take (vlA rs).length ∧ (vlA rs).length = (ws.take (i + 1)).count vS) ∧
          ∃ u8' u9', [some (.ref p), some (.int (va : Nat)), some (.int (sb : Nat)), some (.int (oc : Nat)), some (.ref nl), some (.ref th), some (.ref fo), some (.ref w5), u8, u9] = [some (.ref p), some (.int (va : Nat)), some (.int (sb : Nat)), some (.int (oc : Nat)), some (.ref nl), some (.ref th), some (.ref fo), some (.ref w5), u8', u9'] := by
        intro H18 v r u8 u9 b hp kp hw hn hf hr ro rz rl ht tk' ct'
        exact ⟨b, hp, hw, hn, ⟨rs ++ [r], ls ++ [v], hf, (rws.kp kp).snoc hr, ok.snoc ro rz (by omega), (fun x hx => (List.mem_append.mp hx).elim (lbo x) fun z => by rw [List.mem_singleton.mp z]; exact rl), by rw [List.length_append, lrs]; rfl, ht, tk', ct'⟩, u8, u9, rfl⟩
      have wlp' : wl ≠ p := wlp
      refine ⟨_, rfl, rfl, _, rfl, ?_⟩
      rcases mw c (List.mem_of_getElem? hc) with rfl | rfl | rfl
      · -- a value
        refine iteN (by decide +kernel) ⟨_, rfl, rfl, _, rfl, iteN (by decide +kernel) ?_⟩
        have tc' : (ws.take (i + 1)).count vS = (ws.take i).count vS + 1 := by rw [tc]; rfl
        have lt : (vlA rs).length < ns.length := by
          have : (ws.take (i + 1)).count vS ≤ ws.count vS := (List.take_sublist _ _).count_le _
          omega
        obtain ⟨n, en⟩ : ∃ n, n = ns[(vlA rs).length] := ⟨_, rfl⟩
        have hn : ns[(vlA rs).length]? = some n := by rw [en]; exact List.getElem?_eq_getElem lt
        have nn : n ∉ vlA rs := fun z => by
          rw [tk] at z
          obtain ⟨j, hj, e⟩ := List.getElem_of_mem z
          rw [List.length_take] at hj
          rw [List.getElem_take] at e
          exact List.pairwise_iff_getElem.mp nod j (vlA rs).length (by omega) lt (by omega) (e.trans en)
        have in_ : IOk n := iok n (List.mem_of_getElem? hn)
        have vl1 : ∀ r : Rw, r.val = [n] → vlA (rs ++ [r]) = ns.take (vlA (rs ++ [r])).length ∧ (vlA (rs ++ [r])).length = (ws.take (i + 1)).count vS := fun r hr => by
          rw [vlA_snoc, hr, List.length_append, List.length_singleton]
          refine ⟨?_, by rw [tc', ← ct]⟩
          rw [List.take_add_one, hn, Option.toList_some, ← tk]
        refine ⟨_, rfl, _, rfl, th, _, rfl, .inl (SqL.of hth16), nl, _, _, _, rfl, rfl, SqL.of hnl16, atI_nat (j := ((vlA rs).map V.int).length) (by rw [List.length_map, List.getElem?_map, hn]; rfl), ?_⟩
        refine nm_of ?_
        dsimp only
        refine ⟨_, rfl, .inl ⟨rfl, _, SqL.of hfo16⟩, _, rfl, p, 3, rfl, hp16, by decide, by decide, fun H18 d b18 hp18 d0 d1 => ⟨rfl, _, rfl, ?_⟩⟩
        have kp18 := hp16.kp b18
        have addv : ∀ (G : Hp) (v : V) (r : Rw) (u8 u9 : Option V), But p H G → PotAt G p → Kp H16 G → G wl = some (.lst (ws.map V.str)) → G nl = some (.lst (ns.map V.int)) → G fo = some (.lst ls) → G th = some (.lst ((vlA rs).map V.int)) → RwAt G v r → r.val = [n] → RowOk (vlA rs) r → RwZ r → r.lab.length ≤ 6 → _ :=
          fun G v r u8 u9 b hp kp hw hn' hf ht hr hv ro rz rl => fin (upd (upd G fo (.lst (ls ++ [v]))) th (.lst ((vlA rs).map V.int ++ [.int n]))) v r u8 u9 (own_but (own_but b fo0) th0) ((hp.but but_upd fop.symm).but but_upd thp.symm) ((kp.trans (kp_upd hf)).trans (kp_upd (by rw [upd_ne fth.symm]; exact ht)))
            (by rw [upd_ne wlt, upd_ne wlf]; exact hw) (by rw [upd_ne nlth, upd_ne nlfo]; exact hn') (by rw [upd_ne fth, upd_same]) (hr.kp ((kp_upd hf).trans (kp_upd (by rw [upd_ne fth.symm]; exact ht)))) ro rz rl (by rw [upd_same, vlA_snoc, hv, List.map_append]; rfl) (vl1 r hv).1 (vl1 r hv).2
        have rz0 : ∀ os : List Int, (∀ o ∈ os, o ∈ vlA rs) → os.length ≤ 3 → RwZ (.set n os) := fun os ho lo => ⟨fun m hm => by cases List.mem_singleton.mp hm; exact in_, lo, fun m hm => vls_ok ok (Nat.le_refl _) (ho m hm), by show 0 ≤ 20; decide, okt_of _⟩
        refine iteB (fun _ => ?_) (fun _ => ?_)
        · refine ⟨_, rfl, (by show 2 ≤ sizeLine; decide), fun tt ntt => ?_⟩
          obtain ⟨G19, e, s19, h19⟩ := mkO ntt (.tup [.str "leaf", .int n])
          rw [e]
          clear e
          have hfo19 := s19 _ _ (b18 _ _ hfo16 fop)
          have hth19 := s19 _ _ (b18 _ _ hth16 thp)
          refine ⟨fo, _, _, rfl, rfl, hfo19, Nat.lt_of_lt_of_le (show _ < 100000 by omega) (small (Nat.le_refl _)), ?_⟩
          refine ⟨_, rfl, .inl ⟨rfl, _, SqL.of (by rw [upd_ne fth.symm]; exact hth19)⟩, _, rfl, th, _, _, rfl, rfl, by rw [upd_ne fth.symm]; exact hth19, Nat.lt_of_lt_of_le (show _ < 100000 by rw [List.length_map]; omega) (small (Nat.le_refl _)), ?_⟩
          exact addv G19 _ (.leaf n) _ _ (but_same (b16.trans b18) s19) (hp18.same s19) (kp18.trans (Kp.of s19)) (s19 _ _ (b18 _ _ hwl16 wlp)) (s19 _ _ (b18 _ _ hnl16 nlp)) hfo19 hth19 ⟨tt, rfl, h19⟩ rfl nn ⟨fun m hm => by cases List.mem_singleton.mp hm; exact in_, by show 0 ≤ 3; decide, (fun m hm => by cases hm), by show 0 ≤ 20; decide, okt_of _⟩ (by show 0 ≤ 6; decide)
        · refine ⟨_, rfl, _, rfl, _, rfl, p, th, vlA rs, 3, rfl, hp18, b18 _ _ hth16 thp, thp, by have : (vlA rs).length ≤ rs.length := lv; omega, by decide, fun H19 u os b19 hp19 hu ho lo => ⟨(by show 3 ≤ sizeLine; decide), fun tt ntt => ?_⟩⟩
          obtain ⟨G20, e, s20, h20⟩ := mkO ntt (.tup [.str "set", .int n, u])
          rw [e]
          clear e
          have b1920 := b18.trans b19
          have hfo20 := s20 _ _ (b1920 _ _ hfo16 fop)
          have hth20 := s20 _ _ (b1920 _ _ hth16 thp)
          refine ⟨fo, _, _, rfl, rfl, hfo20, Nat.lt_of_lt_of_le (show _ < 100000 by omega) (small (Nat.le_refl _)), ?_⟩
          refine ⟨_, rfl, .inl ⟨rfl, _, SqL.of (by rw [upd_ne fth.symm]; exact hth20)⟩, _, rfl, th, _, _, rfl, rfl, by rw [upd_ne fth.symm]; exact hth20, Nat.lt_of_lt_of_le (show _ < 100000 by rw [List.length_map]; have : (vlA rs).length ≤ rs.length := lv; omega) (small (Nat.le_refl _)), ?_⟩
          exact addv G20 _ (.set n os) _ _ (but_same (b16.trans b1920) s20) (hp19.same s20) ((hp16.kp b1920).trans (Kp.of s20)) (s20 _ _ (b1920 _ _ hwl16 wlp)) (s20 _ _ (b1920 _ _ hnl16 nlp)) hfo20 hth20 ⟨tt, u, rfl, h20, hu.same s20⟩ rfl ⟨nn, ho⟩ (rz0 os ho lo) (by show 0 ≤ 6; decide)
      · -- a stop
        refine iteY (by decide +kernel) ?_
        have vl0 : ∀ r : Rw, r.val = [] → vlA (rs ++ [r]) = vlA rs := fun r hr => by rw [vlA_snoc, hr, List.append_nil]
        have tc' : (ws.take (i + 1)).count vS = (ws.take i).count vS := by rw [tc, List.count_singleton, if_neg (by rw [beq_iff_eq]; exact fun z => sw z.symm)]; rfl
        refine ⟨_, rfl, .inl ⟨rfl, _, SqL.of hfo16⟩, (by show 4 ≤ sizeLine; decide), fun l4 n4 => ?_⟩
        have l4p := hp16.ne n4
        obtain ⟨G18, e, s18, h18⟩ := mkO n4 (.lst [.str "a", .str "b", .str "", .str "stop 1"])
        rw [e]
        clear e
        refine ⟨_, rfl, p, 4, rfl, hp16.same s18, by decide, by decide, fun H19 d b19 hp19 d0 d1 => ?_⟩
        obtain ⟨k4, rfl⟩ := Int.eq_ofNat_of_zero_le d0
        obtain ⟨l, el, ll, lo'⟩ : ∃ l : Str, ([.str "a", .str "b", .str "", .str "stop 1"] : List V)[k4]? = some (.str l) ∧ l.length ≤ 6 ∧ PyData.strOk l = true := by
          match k4, d1 with
          | 0, _ => exact ⟨_, rfl, by decide +kernel, okt_of _⟩
          | 1, _ => exact ⟨_, rfl, by decide +kernel, okt_of _⟩
          | 2, _ => exact ⟨_, rfl, by decide +kernel, okt_of _⟩
          | 3, _ => exact ⟨_, rfl, by decide +kernel, okt_of _⟩
          | k + 4, h => omega
        have b1619 : But p H16 H19 := (But.of s18).trans b19
        refine ⟨l4, _, _, _, rfl, rfl, SqL.of (b19 _ _ h18 l4p), atI_nat el, _, rfl, _, rfl, p, th, vlA rs, 3, rfl, hp19, b1619 _ _ hth16 thp, thp, by have : (vlA rs).length ≤ rs.length := lv; omega, by decide, fun H20 u os b20 hp20 hu ho lo => ⟨(by show 3 ≤ sizeLine; decide), fun tt ntt => ?_⟩⟩
        obtain ⟨G21, e, s21, h21⟩ := mkO ntt (.tup [.str "stop", .str l, u])
        rw [e]
        clear e
        have b1620 := b1619.trans b20
        have hfo21 := s21 _ _ (b1620 _ _ hfo16 fop)
        refine ⟨fo, _, _, rfl, rfl, hfo21, Nat.lt_of_lt_of_le (show _ < 100000 by omega) (small (Nat.le_refl _)), ?_⟩
        have ev := vl0 (.stop l os) rfl
        exact fin _ _ (.stop l os) _ _ (own_but (but_same (b16.trans b1620) s21) fo0) ((hp20.same s21).but but_upd fop.symm) (((hp16.kp b1620).trans (Kp.of s21)).trans (kp_upd hfo21)) (by rw [upd_ne wlf]; exact s21 _ _ (b1620 _ _ hwl16 wlp)) (by rw [upd_ne nlfo]; exact s21 _ _ (b1620 _ _ hnl16 nlp)) upd_same
          (RwAt.kp (r := .stop l os) ⟨tt, u, rfl, h21, hu.same s21⟩ (kp_upd hfo21)) ho ⟨(fun m hm => by cases hm), lo, fun m hm => vls_ok ok (Nat.le_refl _) (ho m hm), by show l.length ≤ 20; omega, lo'⟩ ll (by rw [upd_ne fth.symm, ev]; exact s21 _ _ (b1620 _ _ hth16 thp)) (by rw [ev]; exact tk) (by rw [ev, tc']; exact ct)
      · refine iteN (by decide +kernel) ⟨_, rfl, rfl, _, rfl, iteY (by decide +kernel) ?_⟩
        have vl0 : ∀ r : Rw, r.val = [] → vlA (rs ++ [r]) = vlA rs := fun r hr => by rw [vlA_snoc, hr, List.append_nil]
        have tc' : (ws.take (i + 1)).count vS = (ws.take i).count vS := by rw [tc, List.count_singleton, if_neg (by rw [beq_iff_eq]; exact fun z => sw2 z.symm)]; rfl
        refine ⟨_, rfl, .inl ⟨rfl, _, SqL.of hfo16⟩, _, rfl, _, rfl, p, th, vlA rs, 2, rfl, hp16, hth16, thp, by have : (vlA rs).length ≤ rs.length := lv; omega, by decide, fun H20 u os b1620 hp20 hu ho lo => ⟨(by show 2 ≤ sizeLine; decide), fun tt ntt => ?_⟩⟩
        obtain ⟨G21, e, s21, h21⟩ := mkO ntt (.tup [.str "use", u])
        rw [e]
        clear e
        have hfo21 := s21 _ _ (b1620 _ _ hfo16 fop)
        refine ⟨fo, _, _, rfl, rfl, hfo21, Nat.lt_of_lt_of_le (show _ < 100000 by omega) (small (Nat.le_refl _)), ?_⟩
        have ev := vl0 (.use os) rfl
        exact fin _ _ (.use os) _ _ (own_but (but_same (b16.trans b1620) s21) fo0) ((hp20.same s21).but but_upd fop.symm) (((hp16.kp b1620).trans (Kp.of s21)).trans (kp_upd hfo21)) (by rw [upd_ne wlf]; exact s21 _ _ (b1620 _ _ hwl16 wlp)) (by rw [upd_ne nlfo]; exact s21 _ _ (b1620 _ _ hnl16 nlp)) upd_same
          (RwAt.kp (r := .use os) ⟨tt, u, rfl, h21, hu.same s21⟩ (kp_upd hfo21)) ho ⟨(fun m hm => by cases hm), by show os.length ≤ 3; omega, fun m hm => vls_ok ok (Nat.le_refl _) (ho m hm), by show 0 ≤ 20; decide, okt_of _⟩ (by show 0 ≤ 6; decide) (by rw [upd_ne fth.symm, ev]; exact s21 _ _ (b1620 _ _ hth16 thp)) (by rw [ev]; exact tk) (by rw [ev, tc']; exact ct)
    · rintro σ H16 ⟨b16, hp16, hwl16, hnl16, ⟨rs, ls, hfo16, rws, ok, lbo, lrs, hth16, tk, ct⟩, u8, u9, rfl⟩
      rw [List.length_map] at lrs ct
      rw [List.take_length, cw] at ct
      have lv : (vlA rs).length ≤ rs.length := vls_len rs rs.length
      refine ⟨_, rfl, _, rfl, _, rfl, (by show 4 ≤ sizeLine; decide), fun l4 n4 => ?_⟩
      have l4p := hp16.ne n4
      obtain ⟨G18, e, s18, h18⟩ := mkO n4 (.lst [.int 0, .int 0, .int 1, .int 2])
      rw [e]
      clear e
      refine ⟨_, rfl, p, 4, rfl, hp16.same s18, by decide, by decide, fun H19 d b19 hp19 d0 d1 => ?_⟩
      obtain ⟨k4, rfl⟩ := Int.eq_ofNat_of_zero_le d0
      obtain ⟨m, el, lm⟩ : ∃ m : Nat, ([.int 0, .int 0, .int 1, .int 2] : List V)[k4]? = some (.int (m : Nat)) ∧ m ≤ 2 := by
        match k4, d1 with
        | 0, _ => exact ⟨0, rfl, by decide⟩
        | 1, _ => exact ⟨0, rfl, by decide⟩
        | 2, _ => exact ⟨1, rfl, by decide⟩
        | 3, _ => exact ⟨2, rfl, by decide⟩
        | k + 4, h => omega
      have b1619 : But p H16 H19 := (But.of s18).trans b19
      refine ⟨l4, _, _, _, rfl, rfl, SqL.of (b19 _ _ h18 l4p), atI_nat el, p, th, vlA rs, m, rfl, hp19, b1619 _ _ hth16 thp, thp, by omega, by omega, fun H20 u out b20 hp20 hu ho lo => ?_⟩
      obtain ⟨o, rfl, hou⟩ := hu
      have b1620 := b1619.trans b20
      refine ⟨o, _, rfl, .inr (SqT.of hou), fun lo' nlo => ⟨(by show 2 ≤ sizeLine; decide), fun tt ntt => ?_⟩⟩
      obtain ⟨G21, e, s21, h21⟩ := mkO nlo (.lst (out.map V.int))
      rw [e] at ntt ⊢
      clear e
      obtain ⟨G22, e, s22, h22⟩ := mkO ntt (.tup [.ref fo, .ref lo'])
      rw [e]
      clear e
      have s2022 := s21.trans s22
      have hfo20 := b1620 _ _ hfo16 fop
      refine q G22 tt fo lo' rs ls out (but_same (b16.trans b1620) s2022) (hp20.same s2022) h22 (s2022 _ _ hfo20) ((rws.kp (hp16.kp b1620)).same s2022) ok lbo (by omega) (fun z => ?_) (s22 _ _ h21) ho (by omega) fo0 ((b16.trans b1620).free (hp20.ne nlo) nlo) (ne_of_none hfo20 nlo) fop (hp20.ne nlo)
      rw [z, List.length_nil] at ct
      omega
end
end K62

set_option Elab.async false
set_option linter.all false
set_option maxRecDepth 100000
set_option maxHeartbeats 2000000
/-! L61d: the law's own reading. -/
namespace K62
open PySem PySem.Spec PyProof.Rows L2 LL ST
abbrev s_l_book : Stmt := top 38
abbrev n_l_book : List Str := ["_law_rows_here", "_law_out", "_law_book_here", "_law_place", "_law_row", "_law_value"]
theorem sc_l_book : FnScope n_l_book ["_law_rows_here", "_law_out"] (defScope s_l_book) := ⟨rfl, rfl, rfl, by decide +kernel, rfl, by decide +kernel, by decide +kernel⟩
abbrev s_l_is_there : Stmt := top 39
abbrev n_l_is_there : List Str := ["_law_book_here", "_law_value", "_law_stop"]
theorem sc_l_is_there : FnScope n_l_is_there ["_law_book_here", "_law_value", "_law_stop"] (defScope s_l_is_there) := ⟨rfl, rfl, rfl, by decide +kernel, rfl, by decide +kernel, by decide +kernel⟩
abbrev s_l_is_live : Stmt := top 40
abbrev n_l_is_live : List Str := ["_law_book_here", "_law_value", "_law_stop"]
theorem sc_l_is_live : FnScope n_l_is_live ["_law_book_here", "_law_value", "_law_stop"] (defScope s_l_is_live) := ⟨rfl, rfl, rfl, by decide +kernel, rfl, by decide +kernel, by decide +kernel⟩
/-! ### tuples stay -/
def KT (H H' : Hp) : Prop := ∀ b xs, H b = some (.tup xs) → H' b = some (.tup xs)
theorem KT.of {H H' : Hp} (s : Same H H') : KT H H' := fun b xs e => s b _ e
theorem KT.trans {H H1 H2 : Hp} (a : KT H H1) (b : KT H1 H2) : KT H H2 := fun c xs e => b c xs (a c xs e)
theorem kt_upd {H : Hp} {p : Addr} {o : HO} (h : ∀ xs, H p ≠ some (.tup xs)) : KT H (upd H p o) := fun b xs e => by
  rw [upd_ne fun z => by rw [z] at e; exact h xs e]
  exact e
theorem OpT.kt {H H' : Hp} {u : V} {os : List Int} (h : OpT H u os) (s : KT H H') : OpT H' u os := let ⟨o, e, x⟩ := h; ⟨o, e, s _ _ x⟩
theorem RwAt.kt {H H' : Hp} {v : V} {r : Rw} (h : RwAt H v r) (s : KT H H') : RwAt H' v r := by
  cases r with
  | leaf n => exact let ⟨t, e, x⟩ := h; ⟨t, e, s _ _ x⟩
  | set n os => exact let ⟨t, u, e, x, o⟩ := h; ⟨t, u, e, s _ _ x, o.kt s⟩
  | use os => exact let ⟨t, u, e, x, o⟩ := h; ⟨t, u, e, s _ _ x, o.kt s⟩
  | stop l os => exact let ⟨t, u, e, x, o⟩ := h; ⟨t, u, e, s _ _ x, o.kt s⟩
theorem OpV.kt {H H' : Hp} {u : V} {r : Rw} (h : OpV H u r) (s : KT H H') : OpV H' u r := by
  cases r with
  | set n os => exact OpT.kt h s
  | leaf n => exact h
  | use os => exact h
  | stop l os => exact h
def AsAt (H : Hp) (avs : List V) (ss : List Nat) (rs : Rs) : Prop := avs.length = ss.length ∧ ∀ (k : Nat) v s, avs[k]? = some v → ss[k]? = some s → OpT H v (rw rs s).ops
theorem AsAt.kt {H H' : Hp} {avs : List V} {ss : List Nat} {rs : Rs} (h : AsAt H avs ss rs) (s : KT H H') : AsAt H' avs ss rs := ⟨h.1, fun k v x e1 e2 => (h.2 k v x e1 e2).kt s⟩
theorem AsAt.snoc {H : Hp} {avs : List V} {ss : List Nat} {rs : Rs} {v : V} {s : Nat} (h : AsAt H avs ss rs) (hv : OpT H v (rw rs s).ops) : AsAt H (avs ++ [v]) (ss ++ [s]) rs := by
  refine ⟨by rw [List.length_append, List.length_append, h.1]; rfl, fun k u x e1 e2 => ?_⟩
  by_cases c : k < avs.length
  · rw [List.getElem?_append_left c] at e1
    rw [List.getElem?_append_left (by rw [← h.1]; exact c)] at e2
    exact h.2 k u x e1 e2
  · have hk := (List.getElem?_eq_some_iff.mp e1).1
    rw [List.length_append, List.length_singleton] at hk
    have ek : k = avs.length := by omega
    subst ek
    rw [List.getElem?_append_right (Nat.le_refl _), Nat.sub_self] at e1
    rw [h.1, List.getElem?_append_right (Nat.le_refl _), Nat.sub_self] at e2
    cases e1
    cases e2
    exact hv
def OpAt (H : Hp) (kvs : List (Key × V)) (rs : Rs) (i : Nat) : Prop := ∀ j, j < i → ∀ n ∈ (rw rs j).val, ∃ u, valV kvs (Sum.inl n) = some u ∧ OpV H u (rw rs j)
theorem OpAt.kt {H H' : Hp} {kvs : List (Key × V)} {rs : Rs} {i : Nat} (h : OpAt H kvs rs i) (s : KT H H') : OpAt H' kvs rs i := fun j hj n hn => let ⟨u, e, z⟩ := h j hj n hn; ⟨u, e, z.kt s⟩
theorem OpAt.no {H : Hp} {kvs : List (Key × V)} {rs : Rs} {i : Nat} (h : OpAt H kvs rs i) (hv : (rw rs i).val = []) : OpAt H kvs rs (i + 1) := fun j hj n hn => by
  by_cases c : j = i
  · rw [c, hv] at hn
    cases hn
  · exact h j (by omega) n hn
theorem OpAt.put {H : Hp} {kvs : List (Key × V)} {rs : Rs} {i : Nat} {n : Int} {u : V} (h : OpAt H kvs rs i) (hn : n ∉ vls rs i) (hv : (rw rs i).val = [n]) (hu : OpV H u (rw rs i)) : OpAt H (putK kvs (Sum.inl n) u) rs (i + 1) := fun j hj m hm => by
  rw [valV_put]
  by_cases c : j = i
  · rw [c, hv] at hm
    rw [if_pos (by rw [List.mem_singleton.mp hm]), c]
    exact ⟨u, rfl, hu⟩
  · have hj' : j < i := by omega
    rw [if_neg fun z => hn (mem_vls.mpr ⟨j, hj', (Sum.inl.inj z : m = n) ▸ hm⟩)]
    exact h j hj' m hm
/-! ### the book -/
theorem vneg {a b : Str} {v : V} {r : List (Key × V)} (h : a ≠ b) : valV ((Sum.inr a, v) :: r) (Sum.inr b) = valV r (Sum.inr b) := valV_neg fun e => h (Sum.inr.inj e)
abbrev bkV (a b c d e g : V) : List (Key × V) := [(Sum.inr "order", a), (Sum.inr "operands", b), (Sum.inr "at", c), (Sum.inr "stops", d), (Sum.inr "asked", e), (Sum.inr "need", g)]
abbrev bkD (o op at_ st as_ ne : Addr) : List (Key × V) := bkV (.ref o) (.ref op) (.ref at_) (.ref st) (.ref as_) (.ref ne)
section
variable {o op at_ st as_ ne : Addr}
theorem bk1 : valV (bkD o op at_ st as_ ne) (Sum.inr "order") = some (.ref o) := by rw [valV_pos rfl]
theorem bk2 : valV (bkD o op at_ st as_ ne) (Sum.inr "operands") = some (.ref op) := by rw [vneg (by decide +kernel), valV_pos rfl]
theorem bk3 : valV (bkD o op at_ st as_ ne) (Sum.inr "at") = some (.ref at_) := by rw [vneg (by decide +kernel), vneg (by decide +kernel), valV_pos rfl]
theorem bk4 : valV (bkD o op at_ st as_ ne) (Sum.inr "stops") = some (.ref st) := by rw [vneg (by decide +kernel), vneg (by decide +kernel), vneg (by decide +kernel), valV_pos rfl]
theorem bk5 : valV (bkD o op at_ st as_ ne) (Sum.inr "asked") = some (.ref as_) := by rw [vneg (by decide +kernel), vneg (by decide +kernel), vneg (by decide +kernel), vneg (by decide +kernel), valV_pos rfl]
theorem bk6 : valV (bkD o op at_ st as_ ne) (Sum.inr "need") = some (.ref ne) := by rw [vneg (by decide +kernel), vneg (by decide +kernel), vneg (by decide +kernel), vneg (by decide +kernel), vneg (by decide +kernel), valV_pos rfl]
end
structure Ads where
  b : Addr
  o : Addr
  op : Addr
  at_ : Addr
  st : Addr
  as_ : Addr
  ne : Addr
abbrev Ads.d (A : Ads) : List (Key × V) := bkD A.o A.op A.at_ A.st A.as_ A.ne
structure Ads.Nd (A : Ads) : Prop where
  b1 : A.b ≠ A.o
  b2 : A.b ≠ A.op
  b3 : A.b ≠ A.at_
  b4 : A.b ≠ A.st
  b5 : A.b ≠ A.as_
  b6 : A.b ≠ A.ne
  o2 : A.o ≠ A.op
  o3 : A.o ≠ A.at_
  o4 : A.o ≠ A.st
  o5 : A.o ≠ A.as_
  o6 : A.o ≠ A.ne
  p3 : A.op ≠ A.at_
  p4 : A.op ≠ A.st
  p5 : A.op ≠ A.as_
  p6 : A.op ≠ A.ne
  a4 : A.at_ ≠ A.st
  a5 : A.at_ ≠ A.as_
  a6 : A.at_ ≠ A.ne
  s5 : A.st ≠ A.as_
  s6 : A.st ≠ A.ne
  k6 : A.as_ ≠ A.ne
structure BkS (H : Hp) (A : Ads) (ov : List Int) (okv ak : List (Key × V)) (sv : List Nat) (av : List V) (nv : List (Key × V)) : Prop where
  hb : H A.b = some (.dK A.d)
  ho : H A.o = some (.lst (ov.map V.int))
  hp : H A.op = some (.dK okv)
  ha : H A.at_ = some (.dK ak)
  hs : H A.st = some (.lst (nV sv))
  hk : H A.as_ = some (.lst av)
  hn : H A.ne = some (.dK nv)
section
variable {H H' : Hp} {A : Ads} {ov ov' : List Int} {okv okv' ak ak' nv nv' : List (Key × V)} {sv sv' : List Nat} {av av' : List V}
theorem BkS.same (z : BkS H A ov okv ak sv av nv) (s : Same H H') : BkS H' A ov okv ak sv av nv := ⟨s _ _ z.hb, s _ _ z.ho, s _ _ z.hp, s _ _ z.ha, s _ _ z.hs, s _ _ z.hk, s _ _ z.hn⟩
theorem BkS.uo (z : BkS H A ov okv ak sv av nv) (n : A.Nd) : BkS (upd H A.o (.lst (ov'.map V.int))) A ov' okv ak sv av nv :=
  ⟨by rw [upd_ne n.b1]; exact z.hb, upd_same, by rw [upd_ne n.o2.symm]; exact z.hp, by rw [upd_ne n.o3.symm]; exact z.ha, by rw [upd_ne n.o4.symm]; exact z.hs, by rw [upd_ne n.o5.symm]; exact z.hk, by rw [upd_ne n.o6.symm]; exact z.hn⟩
theorem BkS.up (z : BkS H A ov okv ak sv av nv) (n : A.Nd) : BkS (upd H A.op (.dK okv')) A ov okv' ak sv av nv :=
  ⟨by rw [upd_ne n.b2]; exact z.hb, by rw [upd_ne n.o2]; exact z.ho, upd_same, by rw [upd_ne n.p3.symm]; exact z.ha, by rw [upd_ne n.p4.symm]; exact z.hs, by rw [upd_ne n.p5.symm]; exact z.hk, by rw [upd_ne n.p6.symm]; exact z.hn⟩
theorem BkS.ua (z : BkS H A ov okv ak sv av nv) (n : A.Nd) : BkS (upd H A.at_ (.dK ak')) A ov okv ak' sv av nv :=
  ⟨by rw [upd_ne n.b3]; exact z.hb, by rw [upd_ne n.o3]; exact z.ho, by rw [upd_ne n.p3]; exact z.hp, upd_same, by rw [upd_ne n.a4.symm]; exact z.hs, by rw [upd_ne n.a5.symm]; exact z.hk, by rw [upd_ne n.a6.symm]; exact z.hn⟩
theorem BkS.us (z : BkS H A ov okv ak sv av nv) (n : A.Nd) : BkS (upd H A.st (.lst (nV sv'))) A ov okv ak sv' av nv :=
  ⟨by rw [upd_ne n.b4]; exact z.hb, by rw [upd_ne n.o4]; exact z.ho, by rw [upd_ne n.p4]; exact z.hp, by rw [upd_ne n.a4]; exact z.ha, upd_same, by rw [upd_ne n.s5.symm]; exact z.hk, by rw [upd_ne n.s6.symm]; exact z.hn⟩
theorem BkS.uk (z : BkS H A ov okv ak sv av nv) (n : A.Nd) : BkS (upd H A.as_ (.lst av')) A ov okv ak sv av' nv :=
  ⟨by rw [upd_ne n.b5]; exact z.hb, by rw [upd_ne n.o5]; exact z.ho, by rw [upd_ne n.p5]; exact z.hp, by rw [upd_ne n.a5]; exact z.ha, by rw [upd_ne n.s5]; exact z.hs, upd_same, by rw [upd_ne n.k6.symm]; exact z.hn⟩
theorem BkS.un (z : BkS H A ov okv ak sv av nv) (n : A.Nd) : BkS (upd H A.ne (.dK nv')) A ov okv ak sv av nv' :=
  ⟨by rw [upd_ne n.b6]; exact z.hb, by rw [upd_ne n.o6]; exact z.ho, by rw [upd_ne n.p6]; exact z.hp, by rw [upd_ne n.a6]; exact z.ha, by rw [upd_ne n.s6]; exact z.hs, by rw [upd_ne n.k6]; exact z.hk, upd_same⟩
end
/-- new in H -/
structure Ads.New (A : Ads) (H : Hp) : Prop where
  b : H A.b = none
  o : H A.o = none
  op : H A.op = none
  at_ : H A.at_ = none
  st : H A.st = none
  as_ : H A.as_ = none
  ne : H A.ne = none
def BookAt (H : Hp) (b : Addr) (rs : Rs) (out : List Int) : Prop := ∃ (A : Ads) (okv : List (Key × V)) (av : List V), A.b = b ∧ BkS H A (vlA rs) okv (plA rs) (stA rs) av (nkA rs out) ∧ OpAt H okv rs rs.length ∧ AsAt H av (stA rs) rs
theorem BookAt.same {H H' : Hp} {b : Addr} {rs : Rs} {out : List Int} (h : BookAt H b rs out) (s : Same H H') : BookAt H' b rs out := let ⟨A, okv, av, e, z, x, y⟩ := h; ⟨A, okv, av, e, z.same s, x.kt (.of s), y.kt (.of s)⟩
/-- .. of parts that are new in H0 -/
def BookNw (H0 H : Hp) (b : Addr) (rs : Rs) (out : List Int) : Prop := ∃ (A : Ads) (okv : List (Key × V)) (av : List V), A.b = b ∧ BkS H A (vlA rs) okv (plA rs) (stA rs) av (nkA rs out) ∧ OpAt H okv rs rs.length ∧ AsAt H av (stA rs) rs ∧ A.New H0
theorem BookNw.at {H0 H : Hp} {b : Addr} {rs : Rs} {out : List Int} (h : BookNw H0 H b rs out) : BookAt H b rs out := let ⟨A, okv, av, e, z, x, y, _⟩ := h; ⟨A, okv, av, e, z, x, y⟩
theorem BookNw.same {H0 H H' : Hp} {b : Addr} {rs : Rs} {out : List Int} (h : BookNw H0 H b rs out) (s : Same H H') : BookNw H0 H' b rs out := let ⟨A, okv, av, e, z, x, y, n⟩ := h; ⟨A, okv, av, e, z.same s, x.kt (.of s), y.kt (.of s), n⟩
theorem BookNw.but {H0 H H' : Hp} {b g : Addr} {rs : Rs} {out : List Int} {o0 : HO} {xs : List V} (h : BookNw H0 H b rs out) (h0 : H0 g = some o0) (hg : H g = some (.lst xs)) (bt : But g H H') : BookNw H0 H' b rs out := by
  obtain ⟨A, okv, av, e, z, x, y, n⟩ := h
  have ne : ∀ {a : Addr}, H0 a = none → a ≠ g := fun h e => by rw [e, h0] at h; cases h
  have kt : KT H H' := fun c ys e => bt _ _ e fun z => by rw [z, hg] at e; cases e
  exact ⟨A, okv, av, e, ⟨bt _ _ z.hb (ne n.b), bt _ _ z.ho (ne n.o), bt _ _ z.hp (ne n.op), bt _ _ z.ha (ne n.at_), bt _ _ z.hs (ne n.st), bt _ _ z.hk (ne n.as_), bt _ _ z.hn (ne n.ne)⟩, x.kt kt, y.kt kt, n⟩
theorem BookNw.upd {H0 H : Hp} {b g : Addr} {rs : Rs} {out : List Int} {o o0 : HO} {xs : List V} (h : BookNw H0 H b rs out) (h0 : H0 g = some o0) (hg : H g = some (.lst xs)) : BookNw H0 (L2.upd H g o) b rs out := h.but h0 hg but_upd
section
variable {P : Program} {w : World} {K : PySem.W.Frag} {mg : Str → Option Value} {base : Heap} {C : Addr} {f : Addr} {fd : FuncData}
def spBook : Sp := fun vs H Q _ => ∃ (a b : Addr) (ls : List V) (rs : Rs) (out : List Int), vs = [.ref a, .ref b] ∧ H a = some (.lst ls) ∧ Rws H ls rs ∧ RsOk rs ∧ H b = some (.lst (out.map V.int)) ∧ out.length ≤ 100 ∧ ∀ H' r, Same H H' → H r = none → BookNw H H' r rs out → Q (.ref r) H'
theorem merge_nd : ∀ (more kvs : List (Key × V)), (kvs.map (·.1) ++ more.map (·.1)).Nodup → mergeK kvs more = kvs ++ more
  | [], kvs, _ => (List.append_nil _).symm
  | p :: r, kvs, h => by
    have hp : p.1 ∉ kvs.map (·.1) := fun z => (List.nodup_append.mp h).2.2 _ z _ (List.mem_map.mpr ⟨p, List.mem_cons_self .., rfl⟩) rfl
    show mergeK (putK kvs p.1 p.2) r = _
    rw [putK_new _ (valV_none hp), merge_nd r (kvs ++ [p]) (by rw [List.map_append, List.append_assoc]; exact h), List.append_assoc]
    rfl
theorem merge6 (a b c d e g : V) : mergeK [] (bkV a b c d e g) = bkV a b c d e g := by
  rw [merge_nd]
  · rfl
  · show ([Sum.inr "order", Sum.inr "operands", Sum.inr "at", Sum.inr "stops", Sum.inr "asked", Sum.inr "need"] : List Key).Nodup
    decide +kernel
theorem row_val {H : Hp} {v : V} {r : Rw} (h : RwAt H v r) : (∃ t x n xs u, v = .ref t ∧ H t = some (.tup (.str x :: .int n :: xs)) ∧ inV (.str x) [.str "leaf", .str "set"] = true ∧ r.val = [n] ∧ ((V.str x :: V.int n :: xs) ++ [V.non])[2]? = some u ∧ OpV H u r ∧ xs.length ≤ 1) ∨
    ∃ t x xs, v = .ref t ∧ H t = some (.tup (.str x :: xs)) ∧ inV (.str x) [.str "leaf", .str "set"] = false ∧ r.val = [] := by
  cases r with
  | leaf n => obtain ⟨t, rfl, ht⟩ := h; exact .inl ⟨t, _, n, [], _, rfl, ht, by rw [in2, sls]; rfl, rfl, rfl, rfl, by decide⟩
  | set n os => obtain ⟨t, u, rfl, ht, hu⟩ := h; exact .inl ⟨t, _, n, [u], u, rfl, ht, by rw [in2, ss1, Bool.or_true], rfl, rfl, hu, by show 1 ≤ 1; decide⟩
  | use os => obtain ⟨t, u, rfl, ht, hu⟩ := h; exact .inr ⟨t, _, _, rfl, ht, by rw [in2, sl2, ss2]; rfl, rfl⟩
  | stop l os => obtain ⟨t, u, rfl, ht, hu⟩ := h; exact .inr ⟨t, _, _, rfl, ht, by rw [in2, sl3, ss3]; rfl, rfl⟩
theorem row_stop {H : Hp} {v : V} {r : Rw} (h : RwAt H v r) : (∃ t l u, v = .ref t ∧ H t = some (.tup [.str "stop", .str l, u]) ∧ OpT H u r.ops ∧ r.isStop = true ∧ r.lab = l) ∨ ∃ t x xs, v = .ref t ∧ H t = some (.tup (.str x :: xs)) ∧ decide (V.str x = V.str "stop") = false ∧ r.isStop = false := by
  cases r with
  | leaf n => obtain ⟨t, rfl, ht⟩ := h; exact .inr ⟨t, _, _, rfl, ht, sl3, rfl⟩
  | set n os => obtain ⟨t, u, rfl, ht, hu⟩ := h; exact .inr ⟨t, _, _, rfl, ht, ss3, rfl⟩
  | use os => obtain ⟨t, u, rfl, ht, hu⟩ := h; exact .inr ⟨t, _, _, rfl, ht, su3, rfl⟩
  | stop l os => obtain ⟨t, u, rfl, ht, hu⟩ := h; exact .inl ⟨t, l, u, rfl, ht, hu, rfl, rfl⟩
theorem row_need {H : Hp} {v : V} {r : Rw} (h : RwAt H v r) : (∃ t x xs u, v = .ref t ∧ H t = some (.tup (.str x :: xs)) ∧ inV (.str x) [.str "set", .str "use"] = true ∧ atI (V.str x :: xs) (-1) = some u ∧ OpT H u r.need) ∨ ∃ t x xs, v = .ref t ∧ H t = some (.tup (.str x :: xs)) ∧ inV (.str x) [.str "set", .str "use"] = false ∧ r.need = [] := by
  cases r with
  | leaf n => obtain ⟨t, rfl, ht⟩ := h; exact .inr ⟨t, _, _, rfl, ht, by rw [in2, ss0, su0]; rfl, rfl⟩
  | set n os => obtain ⟨t, u, rfl, ht, hu⟩ := h; exact .inl ⟨t, _, _, u, rfl, ht, by rw [in2, ss1]; rfl, rfl, hu⟩
  | use os => obtain ⟨t, u, rfl, ht, hu⟩ := h; exact .inl ⟨t, _, _, u, rfl, ht, by rw [in2, su2, Bool.or_true], rfl, hu⟩
  | stop l os => obtain ⟨t, u, rfl, ht, hu⟩ := h; exact .inr ⟨t, _, _, rfl, ht, by rw [in2, ss3, su3]; rfl, rfl⟩
theorem val_new {vs : List Int} {r : Rw} {n : Int} (ro : RowOk vs r) (hv : r.val = [n]) : n ∉ vs := by
  cases r with
  | leaf m => cases hv; exact ro
  | set m os => cases hv; exact ro.1
  | use os => cases hv
  | stop l os => cases hv
theorem ok_l_book (T : Tx K mg C) (F : FD K "_law_book" "_law_book" s_l_book [] f fd) : FnG P w K mg base CX0 1 f fd ["_law_rows_here", "_law_out"] spBook := by
  refine ok0 F sc_l_book (fun vs H Q E h => ?_) (fun cdv A outer s H vs Q E hr h => ?_)
  · obtain ⟨a, b, ls, rs, out, rfl, _⟩ := h
    rfl
  · obtain ⟨a, b, ls, rs, out, rfl, ha, rws, ok, hb, lo, q⟩ := h
    refine ⟨_, (pss_cons (ps_set (i := 2) sc_l_book.nd rfl (by first | exact Or.inl rfl | exact Or.inr rfl) (pe_disp (pps_cons pe_str (pe_lst pa_nil) (pps_cons pe_str pe_dnewK (pps_cons pe_str pe_dnewK (pps_cons pe_str (pe_lst pa_nil) (pps_cons pe_str (pe_lst pa_nil) (pps_cons pe_str pe_dnewK pps_nil)))))) rfl rfl (fun z => by cases z) (by decide)))
      (pss_cons (ps_for PassesOwn.never rfl (pi_enumA (by rfl) T.n_enumerate (pa_cons (pv 0) pa_nil)) (pg_tup rfl (pgs_cons (pg_name (i := 3) sc_l_book.nd rfl (by first | exact Or.inl rfl | exact Or.inr rfl)) (pgs_cons (pg_name (i := 4) sc_l_book.nd rfl (by first | exact Or.inl rfl | exact Or.inr rfl)) pgs_nil))) (pss_cons (ps_if (pt_cmpR op_in_seq (pe_ix ix_tup (pv 4) pe_int (fun _ _ => rfl)) (pe_tup (pa_cons pe_str (pa_cons pe_str pa_nil))) (by rfl)) (pss_cons (ps_expr (pe_bm PySem.F.plainAttrs_list PySem.F.slot_list_append PySem.F.type_list_append mt_append (pe_dget (un1 hr.r.units) (pv 2) pe_str (fun _ _ => rfl)) (pa_cons (pe_ix ix_tup (pv 4) pe_int (fun _ _ => rfl)) pa_nil)))
      (pss_one (ps_asg (pe_tup (pa_cons (pv 3) (pa_cons (pe_ix ix_tup (pe_op op_catA (pv 4) (pe_tup (pa_cons pe_non pa_nil))) pe_int (fun _ _ => rfl)) pa_nil))) (pg_tup rfl (pgs_cons (pg_sub (pe_dget (un1 hr.r.units) (pv 2) pe_str (fun _ _ => rfl)) (pe_ix ix_tup (pv 4) pe_int (fun _ _ => rfl)) (set_dict (un1 hr.r.units))) (pgs_cons (pg_sub (pe_dget (un1 hr.r.units) (pv 2) pe_str (fun _ _ => rfl)) (pe_ix ix_tup (pv 4) pe_int (fun _ _ => rfl)) (set_dict (un1 hr.r.units))) pgs_nil)))))) pss_nil)
      (pss_cons (ps_if (pt_cmpR op_eq (pe_ix ix_tup (pv 4) pe_int (fun _ _ => rfl)) pe_str (nomark _)) (pss_cons (ps_expr (pe_bm PySem.F.plainAttrs_list PySem.F.slot_list_append PySem.F.type_list_append mt_append (pe_dget (un1 hr.r.units) (pv 2) pe_str (fun _ _ => rfl)) (pa_cons (pv 3) pa_nil)))
      (pss_one (ps_expr (pe_bm PySem.F.plainAttrs_list PySem.F.slot_list_append PySem.F.type_list_append mt_append (pe_dget (un1 hr.r.units) (pv 2) pe_str (fun _ _ => rfl)) (pa_cons (pe_ix ix_tup (pv 4) pe_int (fun _ _ => rfl)) pa_nil))))) pss_nil)
      (pss_one (ps_if (pt_cmpR op_in_seq (pe_ix ix_tup (pv 4) pe_int (fun _ _ => rfl)) (pe_tup (pa_cons pe_str (pa_cons pe_str pa_nil))) (by rfl)) (pss_one (ps_for PassesOwn.never rfl (pi_tup (pe_ix ix_tup (pv 4) (pe_un un_neg pe_int) (fun _ _ => rfl))) (pg_name (i := 5) sc_l_book.nd rfl (by first | exact Or.inl rfl | exact Or.inr rfl)) (pss_one (ps_dput (un1 hr.r.units) (pe_dget (un1 hr.r.units) (pv 2) pe_str (fun _ _ => rfl)) (pv 5) (pv 3) rfl)))) pss_nil)))))
      (pss_cons (ps_for PassesOwn.never rfl (pi_list (pv 1)) (pg_name (i := 5) sc_l_book.nd rfl (by first | exact Or.inl rfl | exact Or.inr rfl)) (pss_one (ps_dput (un1 hr.r.units) (pe_dget (un1 hr.r.units) (pv 2) pe_str (fun _ _ => rfl)) (pv 5) (pe_callB call_len_seq (by rfl) T.n_len (by decide +kernel) (pa_cons (pv 0) pa_nil)) rfl)))
      (pss_one (ps_ret (pv 2)))))), ?_⟩
    refine fun bk nbk => ?_
    obtain ⟨G0, e, s0, hbk⟩ := mkO nbk (.dK [])
    rw [e]
    clear e
    refine ⟨(by show 0 ≤ sizeLine; decide), fun o no => ?_⟩
    obtain ⟨G1, e, s1, ho⟩ := mkO no (.lst [])
    rw [e]
    clear e
    refine fun op nop => ?_
    obtain ⟨G2, e, s2, hop⟩ := mkO nop (.dK [])
    rw [e]
    clear e
    refine fun at_ nat => ?_
    obtain ⟨G3, e, s3, hat⟩ := mkO nat (.dK [])
    rw [e]
    clear e
    refine ⟨(by show 0 ≤ sizeLine; decide), fun st nst => ?_⟩
    obtain ⟨G4, e, s4, hst⟩ := mkO nst (.lst [])
    rw [e]
    clear e
    refine ⟨(by show 0 ≤ sizeLine; decide), fun as_ nas => ?_⟩
    obtain ⟨G5, e, s5, has⟩ := mkO nas (.lst [])
    rw [e]
    clear e
    refine fun ne nne => ?_
    obtain ⟨G6, e, s6, hne⟩ := mkO nne (.dK [])
    rw [e]
    clear e
    have s56 := s5.trans s6
    have s46 := s4.trans s56
    have s36 := s3.trans s46
    have s26 := s2.trans s36
    have s16 := s1.trans s26
    refine ⟨s16 _ _ hbk, bkD o op at_ st as_ ne, rfl, (by show 6 ≤ 15; decide), ?_⟩
    rw [merge6]
    obtain ⟨A, eA⟩ : ∃ A : Ads, A = ⟨bk, o, op, at_, st, as_, ne⟩ := ⟨_, rfl⟩
    have nd : A.Nd := by
      rw [eA]
      have ib := hbk
      exact ⟨ne_of_none hbk no, ne_of_none (s1 _ _ hbk) nop, ne_of_none (s2 _ _ (s1 _ _ hbk)) nat, ne_of_none (s3 _ _ (s2 _ _ (s1 _ _ hbk))) nst, ne_of_none (s4 _ _ (s3 _ _ (s2 _ _ (s1 _ _ hbk)))) nas, ne_of_none (s5 _ _ (s4 _ _ (s3 _ _ (s2 _ _ (s1 _ _ hbk))))) nne,
        ne_of_none ho nop, ne_of_none (s2 _ _ ho) nat, ne_of_none (s3 _ _ (s2 _ _ ho)) nst, ne_of_none (s4 _ _ (s3 _ _ (s2 _ _ ho))) nas, ne_of_none (s5 _ _ (s4 _ _ (s3 _ _ (s2 _ _ ho)))) nne,
        ne_of_none hop nat, ne_of_none (s3 _ _ hop) nst, ne_of_none (s4 _ _ (s3 _ _ hop)) nas, ne_of_none (s5 _ _ (s4 _ _ (s3 _ _ hop))) nne,
        ne_of_none hat nst, ne_of_none (s4 _ _ hat) nas, ne_of_none (s5 _ _ (s4 _ _ hat)) nne, ne_of_none hst nas, ne_of_none (s5 _ _ hst) nne, ne_of_none has nne⟩
    have s01 := s0
    have nw : A.New H := by
      rw [eA]
      exact ⟨nbk, s0.free no, (s0.trans s1).free nop, ((s0.trans s1).trans s2).free nat, (((s0.trans s1).trans s2).trans s3).free nst, ((((s0.trans s1).trans s2).trans s3).trans s4).free nas, (((((s0.trans s1).trans s2).trans s3).trans s4).trans s5).free nne⟩
    have z0 : BkS (upd G6 bk (.dK (bkD o op at_ st as_ ne))) A [] [] [] [] [] [] := by
      have n := nd
      rw [eA] at n ⊢
      exact ⟨upd_same, by rw [upd_ne n.b1.symm]; exact s26 _ _ ho, by rw [upd_ne n.b2.symm]; exact s36 _ _ hop, by rw [upd_ne n.b3.symm]; exact s46 _ _ hat, by rw [upd_ne n.b4.symm]; exact s56 _ _ hst, by rw [upd_ne n.b5.symm]; exact s6 _ _ has, by rw [upd_ne n.b6.symm]; exact hne⟩
    have sg : Same H (upd G6 bk (.dK (bkD o op at_ st as_ ne))) := own_same (s0.trans s16) nbk
    obtain ⟨G, eG⟩ : ∃ G, G = upd G6 bk (.dK (bkD o op at_ st as_ ne)) := ⟨_, rfl⟩
    have eb : bk = A.b := by rw [eA]
    rw [← eG] at z0 sg ⊢
    rw [eb]
    clear eG eb eA s01 s0 hbk s1 ho s2 hop s3 hat s4 hst s5 has s6 hne s56 s46 s36 s26 s16 no nop nat nst nas nne
    refine nm_of ?_
    dsimp only
    refine ⟨_, rfl, true, a, ls, rfl, SqL.of (sg _ _ ha), ?_⟩
    refine for_it (walk_enumK (K := K) (k := true) (a := a) (xs := ls)) (fun i σ H' => Same H H' ∧ (∃ okv av, BkS H' A (vls rs i) okv (plk rs i) (stp rs i) av (nk rs i) ∧ okv.length ≤ i ∧ OpAt H' okv rs i ∧ AsAt H' av (stp rs i) rs) ∧ ∃ u3 u4 u5, σ = [some (.ref a), some (.ref b), some (.ref A.b), u3, u4, u5])
      ⟨sg, ⟨[], [], z0, Nat.le_refl _, fun j hj => absurd hj (Nat.not_lt_zero _), rfl, fun k v s e => by simp at e⟩, none, none, none, rfl⟩ (fun i σ H' _ h => SqL.of (h.1 _ _ ha)) ?_ ?_
    · rintro i x σ H2 H3 hi ⟨s2, ⟨okv, av, z, lk, opa, asa⟩, u3, u4, u5, rfl⟩ ⟨t, y, zz, rfl, nt, rfl, hy, hz⟩
      cases hy
      have il : i < rs.length := by rw [← rws.len]; exact hi
      have s3 := s2.trans (same_upd (o := .tup [.int (i : Nat), zz]) nt)
      have z3 := z.same (same_upd (o := .tup [.int (i : Nat), zz]) nt)
      refine ⟨t, _, rfl, SqT.of upd_same, rfl, _, _, rfl, _, _, rfl, rfl, ?_⟩
      have ra := (rws.at_ i zz hz).same s3
      have opa3 := opa.kt (.of (same_upd (o := .tup [.int (i : Nat), zz]) nt))
      have asa3 := asa.kt (.of (same_upd (o := .tup [.int (i : Nat), zz]) nt))
      obtain ⟨G3, e3⟩ : ∃ G3, G3 = upd H2 t (.tup [.int (i : Nat), zz]) := ⟨_, rfl⟩
      rw [← e3] at s3 z3 ra opa3 asa3 ⊢
      clear e3
      refine seq_cut (fun σ' H' => σ' = [some (.ref a), some (.ref b), some (.ref A.b), some (.int (i : Nat)), some zz, u5] ∧ Same H H' ∧ KT G3 H' ∧ ∃ okv, BkS H' A (vls rs (i + 1)) okv (plk rs (i + 1)) (stp rs i) av (nk rs i) ∧ okv.length ≤ i + 1 ∧ OpAt H' okv rs (i + 1)) (fun N hN => ?_) ?_
      · have rowv := row_val ra
        have lpv := plk_len rs i
        have lvv := vls_len rs i
        have ll := ok.len
        have lt5 : ∀ {n : Nat}, n < 100000 → n < sizeLine := fun h => Nat.lt_of_lt_of_le h (small (Nat.le_refl _))
        rcases rowv with ⟨t', x', n, xs', u, rfl, ht, inv, hv, eu, hu, lx⟩ | ⟨t', x', xs', rfl, ht, inv, hv⟩
        · refine ⟨_, rfl, t', _, _, _, rfl, rfl, SqT.of ht, atI_nat (j := 0) rfl, (by show 2 ≤ sizeLine; decide), fun tq ntq => ?_⟩
          obtain ⟨G5, e5, s5, htq⟩ := mkO ntq (.tup [.str "leaf", .str "set"])
          rw [e5]
          clear e5
          refine ⟨tq, _, rfl, .inr (SqT.of htq), rfl, rfl, _, rfl, iteY inv ?_⟩
          have z5 := z3.same s5
          have ht5 := s5 _ _ ht
          have nn := val_new (ok.row i il) hv
          have dg1 : DGet G5 A.b (.str "order") (some (.ref A.o)) := by
            have := DGet.k (k := Sum.inr "order") z5.hb
            rw [bk1] at this
            exact this
          refine ⟨_, rfl, A.b, _, rfl, dg1, .inl ⟨rfl, _, SqL.of z5.ho⟩, _, rfl, t', _, _, _, rfl, rfl, SqT.of ht5, atI_nat (j := 1) rfl, A.o, _, _, rfl, rfl, z5.ho, lt5 (by rw [List.length_map]; omega), ?_⟩
          have e1 : vls rs (i + 1) = vls rs i ++ [n] := by rw [vls, hv]
          have z6 : BkS (upd G5 A.o (.lst ((vls rs i).map V.int ++ [.int n]))) A (vls rs (i + 1)) okv (plk rs i) (stp rs i) av (nk rs i) := by
            have := z5.uo (ov' := vls rs (i + 1)) nd
            rw [e1, List.map_append] at this
            rw [e1]
            exact this
          have kt6 : KT G5 (upd G5 A.o (.lst ((vls rs i).map V.int ++ [.int n]))) := kt_upd fun xs e => by rw [z5.ho] at e; cases e
          have s6 : Same H (upd G5 A.o (.lst ((vls rs i).map V.int ++ [.int n]))) := own_same (s3.trans s5) nw.o
          obtain ⟨G6, e6⟩ : ∃ G6, G6 = upd G5 A.o (.lst ((vls rs i).map V.int ++ [.int n])) := ⟨_, rfl⟩
          rw [← e6] at z6 kt6 s6 ⊢
          clear e6
          have ht6 := kt6 _ _ ht5
          refine ⟨_, rfl, _, rfl, (by show 1 ≤ sizeLine; decide), fun tn ntn => ?_⟩
          obtain ⟨G7, e7, s7, htn⟩ := mkO ntn (.tup [.non])
          rw [e7]
          clear e7
          refine cat_of (s7 _ _ ht6) htn (by rw [List.length_cons, List.length_cons]; simp only [List.length_singleton]; omega) fun pc H8 s8 hpc => ?_
          refine ⟨pc, _, _, _, rfl, rfl, SqT.of hpc, atI_nat eu, (by show 2 ≤ sizeLine; decide), fun tt ntt => ?_⟩
          obtain ⟨G9, e9, s9, htt⟩ := mkO ntt (.tup [.int (i : Nat), u])
          rw [e9]
          clear e9
          have s69 := (s7.trans s8).trans s9
          have z9 := z6.same s69
          have ht9 := s69 _ _ ht6
          have dg3 : DGet G9 A.b (.str "at") (some (.ref A.at_)) := by
            have := DGet.k (k := Sum.inr "at") z9.hb
            rw [bk3] at this
            exact this
          refine ⟨tt, _, rfl, SqT.of htt, rfl, _, _, rfl, _, rfl, A.b, _, rfl, dg3, _, rfl, t', _, _, _, rfl, rfl, SqT.of ht9, atI_nat (j := 1) rfl, A.at_, _, rfl, DPut.k (k := Sum.inl n) z9.ha (lt5 (by omega)), ?_⟩
          rw [plk_put nn hv]
          have z10 := z9.ua (ak' := plk rs (i + 1)) nd
          have kt10 : KT G9 (upd G9 A.at_ (.dK (plk rs (i + 1)))) := kt_upd fun xs e => by rw [z9.ha] at e; cases e
          have s10 : Same H (upd G9 A.at_ (.dK (plk rs (i + 1)))) := own_same (s6.trans s69) nw.at_
          obtain ⟨G10, e10⟩ : ∃ G10, G10 = upd G9 A.at_ (.dK (plk rs (i + 1))) := ⟨_, rfl⟩
          rw [← e10] at z10 kt10 s10 ⊢
          clear e10
          have ht10 := kt10 _ _ ht9
          have dg2 : DGet G10 A.b (.str "operands") (some (.ref A.op)) := by
            have := DGet.k (k := Sum.inr "operands") z10.hb
            rw [bk2] at this
            exact this
          refine ⟨_, _, rfl, _, rfl, A.b, _, rfl, dg2, _, rfl, t', _, _, _, rfl, rfl, SqT.of ht10, atI_nat (j := 1) rfl, A.op, _, rfl, DPut.k (k := Sum.inl n) z10.hp (lt5 (by omega)), rfl, ?_⟩
          have kt11 : KT G10 (upd G10 A.op (.dK (putK okv (Sum.inl n) u))) := kt_upd fun xs e => by rw [z10.hp] at e; cases e
          have ktA : KT G3 (upd G10 A.op (.dK (putK okv (Sum.inl n) u))) := ((((KT.of s5).trans kt6).trans (KT.of s69)).trans kt10).trans kt11
          exact hN _ _ ⟨rfl, own_same s10 nw.op, ktA, _, z10.up nd, Nat.le_trans (putK_len _ _ _) (by omega), (opa3.put nn hv hu).kt ktA⟩
        · refine ⟨_, rfl, t', _, _, _, rfl, rfl, SqT.of ht, atI_nat (j := 0) rfl, (by show 2 ≤ sizeLine; decide), fun tq ntq => ?_⟩
          obtain ⟨G5, e5, s5, htq⟩ := mkO ntq (.tup [.str "leaf", .str "set"])
          rw [e5]
          clear e5
          refine ⟨tq, _, rfl, .inr (SqT.of htq), rfl, rfl, _, rfl, iteN inv (nx_of (hN _ _ ⟨rfl, s3.trans s5, .of s5, okv, ?_, by omega, (opa3.no hv).kt (.of s5)⟩))⟩
          have e1 : vls rs (i + 1) = vls rs i := by rw [vls, hv, List.append_nil]
          rw [e1, plk_no hv]
          exact z3.same s5
      · rintro σ4 H4 ⟨rfl, s4, kt4, okv4, z4, lk4, opa4⟩
        have ra4 := ra.kt kt4
        refine seq_cut (fun σ' H' => σ' = [some (.ref a), some (.ref b), some (.ref A.b), some (.int (i : Nat)), some zz, u5] ∧ Same H H' ∧ KT H4 H' ∧ ∃ av', BkS H' A (vls rs (i + 1)) okv4 (plk rs (i + 1)) (stp rs (i + 1)) av' (nk rs i) ∧ AsAt H' av' (stp rs (i + 1)) rs) (fun N hN => ?_) ?_
        · have lt5 : ∀ {n : Nat}, n < 100000 → n < sizeLine := fun h => Nat.lt_of_lt_of_le h (small (Nat.le_refl _))
          have sl := stp_len rs i
          have ll := ok.len
          rcases row_stop ra4 with ⟨t', l, u, rfl, ht, hu, is, _⟩ | ⟨t', x', xs', rfl, ht, ns, is⟩
          · refine ⟨_, rfl, t', _, _, _, rfl, rfl, SqT.of ht, atI_nat (j := 0) rfl, rfl, _, rfl, iteY st3 ?_⟩
            have dg4 : DGet H4 A.b (.str "stops") (some (.ref A.st)) := by
              have := DGet.k (k := Sum.inr "stops") z4.hb
              rw [bk4] at this
              exact this
            refine ⟨_, rfl, A.b, _, rfl, dg4, .inl ⟨rfl, _, SqL.of z4.hs⟩, _, rfl, A.st, _, _, rfl, rfl, z4.hs, lt5 (by rw [List.length_map]; omega), ?_⟩
            have e1 : stp rs (i + 1) = stp rs i ++ [i] := by rw [stp, is, if_pos rfl]
            have z5 : BkS (upd H4 A.st (.lst (nV (stp rs i) ++ [.int (i : Nat)]))) A (vls rs (i + 1)) okv4 (plk rs (i + 1)) (stp rs (i + 1)) av (nk rs i) := by
              have := z4.us (sv' := stp rs (i + 1)) nd
              rw [e1, nV, List.map_append] at this
              rw [e1]
              exact this
            have kt5 : KT H4 (upd H4 A.st (.lst (nV (stp rs i) ++ [.int (i : Nat)]))) := kt_upd fun xs e => by rw [z4.hs] at e; cases e
            have s5 : Same H (upd H4 A.st (.lst (nV (stp rs i) ++ [.int (i : Nat)]))) := own_same s4 nw.st
            obtain ⟨G5, e5⟩ : ∃ G5, G5 = upd H4 A.st (.lst (nV (stp rs i) ++ [.int (i : Nat)])) := ⟨_, rfl⟩
            rw [← e5] at z5 kt5 s5 ⊢
            clear e5
            have dg5 : DGet G5 A.b (.str "asked") (some (.ref A.as_)) := by
              have := DGet.k (k := Sum.inr "asked") z5.hb
              rw [bk5] at this
              exact this
            refine ⟨_, rfl, A.b, _, rfl, dg5, .inl ⟨rfl, _, SqL.of z5.hk⟩, _, rfl, t', _, _, _, rfl, rfl, SqT.of (kt5 _ _ ht), atI_nat (j := 2) rfl, A.as_, _, _, rfl, rfl, z5.hk, lt5 (by rw [asa3.1]; omega), ?_⟩
            have kt6 : KT G5 (upd G5 A.as_ (.lst (av ++ [u]))) := kt_upd fun xs e => by rw [z5.hk] at e; cases e
            refine hN _ _ ⟨rfl, own_same s5 nw.as_, kt5.trans kt6, av ++ [u], z5.uk nd, ?_⟩
            rw [e1]
            exact ((asa3.kt kt4).snoc hu).kt (kt5.trans kt6)
          · refine ⟨_, rfl, t', _, _, _, rfl, rfl, SqT.of ht, atI_nat (j := 0) rfl, rfl, _, rfl, iteN ns (nx_of (hN _ _ ⟨rfl, s4, fun _ _ e => e, av, ?_, ?_⟩))⟩
            · rw [stp, is, if_neg Bool.false_ne_true, List.append_nil]
              exact z4
            · rw [stp, is, if_neg Bool.false_ne_true, List.append_nil]
              exact asa3.kt kt4
        · rintro σ5 H5 ⟨rfl, s5, kt5, av5, z5, asa5⟩
          have ra5 := ra4.kt kt5
          have kl := nk_len ok i (by omega)
          have ll := ok.len
          have lt5 : ∀ {n : Nat}, n < 100000 → n < sizeLine := fun h => Nat.lt_of_lt_of_le h (small (Nat.le_refl _))
          have nl : (rw rs i).need.length ≤ 3 := Nat.le_trans (need_le _) (ok.z i il).opl
          rcases row_need ra5 with ⟨t', x', xs', u, rfl, ht, inv, eu, hu⟩ | ⟨t', x', xs', rfl, ht, inv, hn⟩
          · refine ⟨_, rfl, t', _, _, _, rfl, rfl, SqT.of ht, atI_nat (j := 0) rfl, (by show 2 ≤ sizeLine; decide), fun tq ntq => ?_⟩
            obtain ⟨G6, e6, s6, htq⟩ := mkO ntq (.tup [.str "set", .str "use"])
            rw [e6]
            clear e6
            refine ⟨tq, _, rfl, .inr (SqT.of htq), rfl, rfl, _, rfl, iteY inv ?_⟩
            obtain ⟨o, rfl, ho⟩ := hu.same s6
            refine ⟨_, rfl, _, rfl, t', _, _, _, rfl, rfl, SqT.of (s6 _ _ ht), eu, o, rfl, ⟨_, SqT.of ho⟩, ?_⟩
            refine for_it (walk_tup (K := K) (a := o) (xs := (rw rs i).need.map V.int)) (fun j σ H' => Same H H' ∧ KT G6 H' ∧ BkS H' A (vls rs (i + 1)) okv4 (plk rs (i + 1)) (stp rs (i + 1)) av5 (putAll (nk rs i) i ((rw rs i).need.take j)) ∧ ∃ x, σ = [some (.ref a), some (.ref b), some (.ref A.b), some (.int (i : Nat)), some (.ref t'), x]) ⟨s5.trans s6, fun _ _ e => e, z5.same s6, _, rfl⟩ (fun j σ H' _ h => SqT.of (h.2.1 _ _ ho)) ?_ ?_
            · rintro j x σ H8 H7 hj ⟨s7, kt7, z7, x5, rfl⟩ ⟨rfl, hx⟩
              rw [List.getElem?_map] at hx
              obtain ⟨n, hn, rfl⟩ := Option.map_eq_some_iff.mp hx
              have pl := putAll_len i ((rw rs i).need.take j) (nk rs i)
              rw [List.length_take] at pl
              have dg6 : DGet H7 A.b (.str "need") (some (.ref A.ne)) := by
                have := DGet.k (k := Sum.inr "need") z7.hb
                rw [bk6] at this
                exact this
              refine ⟨_, rfl, _, rfl, A.b, _, rfl, dg6, _, rfl, A.ne, _, rfl, DPut.k (k := Sum.inl n) z7.hn (lt5 (by omega)), own_same s7 nw.ne, kt7.trans (kt_upd fun xs e => by rw [z7.hn] at e; cases e), ?_, _, rfl⟩
              have := z7.un (nv' := putAll (nk rs i) i ((rw rs i).need.take (j + 1))) nd
              rw [List.take_add_one, hn, Option.toList_some, ST.putAll_snoc] at this
              rw [List.take_add_one, hn, Option.toList_some, ST.putAll_snoc]
              exact this
            · rintro σ H7 ⟨s7, kt7, z7, x5, rfl⟩
              rw [List.length_map, List.take_length] at z7
              have ktA := kt5.trans ((KT.of s6).trans kt7)
              exact ⟨s7, ⟨okv4, av5, z7, lk4, opa4.kt ktA, asa5.kt ((KT.of s6).trans kt7)⟩, _, _, _, rfl⟩
          · refine ⟨_, rfl, t', _, _, _, rfl, rfl, SqT.of ht, atI_nat (j := 0) rfl, (by show 2 ≤ sizeLine; decide), fun tq ntq => ?_⟩
            obtain ⟨G6, e6, s6, htq⟩ := mkO ntq (.tup [.str "set", .str "use"])
            rw [e6]
            clear e6
            refine ⟨tq, _, rfl, .inr (SqT.of htq), rfl, rfl, _, rfl, iteN inv ⟨s5.trans s6, ⟨okv4, av5, ?_, lk4, opa4.kt (kt5.trans (.of s6)), asa5.kt (.of s6)⟩, _, _, _, rfl⟩⟩
            have : nk rs (i + 1) = nk rs i := by
              rw [nk, hn]
              rfl
            rw [this]
            exact z5.same s6
    · rintro σ H2 ⟨s2, ⟨okv, av, z, lk, opa, asa⟩, u3, u4, u5, rfl⟩
      rw [rws.len] at z lk opa asa
      have kl := nk_len ok rs.length (Nat.le_refl _)
      have ll := ok.len
      have lt5 : ∀ {n : Nat}, n < 100000 → n < sizeLine := fun h => Nat.lt_of_lt_of_le h (small (Nat.le_refl _))
      refine ⟨_, rfl, b, rfl, ⟨_, SqL.of (s2 _ _ hb)⟩, ?_⟩
      refine for_it (walk_list (K := K) (a := b) (xs := out.map V.int)) (fun j σ H' => Same H H' ∧ KT H2 H' ∧ BkS H' A (vlA rs) okv (plA rs) (stA rs) av (putAll (nk rs rs.length) rs.length (out.take j)) ∧ ∃ u3 u4 u5, σ = [some (.ref a), some (.ref b), some (.ref A.b), u3, u4, u5]) ⟨s2, fun _ _ e => e, z, _, _, _, rfl⟩ (fun j σ H' _ h => SqL.of (h.1 _ _ hb)) ?_ ?_
      · rintro j x σ H8 H7 hj ⟨s7, kt7, z7, u3, u4, u5, rfl⟩ ⟨rfl, hx⟩
        rw [List.getElem?_map] at hx
        obtain ⟨n, hn, rfl⟩ := Option.map_eq_some_iff.mp hx
        have pl := putAll_len rs.length (out.take j) (nk rs rs.length)
        rw [List.length_take] at pl
        have dg6 : DGet H7 A.b (.str "need") (some (.ref A.ne)) := by
          have := DGet.k (k := Sum.inr "need") z7.hb
          rw [bk6] at this
          exact this
        refine ⟨_, rfl, a, ls, rfl, .inl (SqL.of (s7 _ _ ha)), _, rfl, A.b, _, rfl, dg6, _, rfl, A.ne, _, rfl, DPut.k (k := Sum.inl n) z7.hn (lt5 (by omega)), own_same s7 nw.ne, kt7.trans (kt_upd fun xs e => by rw [z7.hn] at e; cases e), ?_, _, _, _, rfl⟩
        have := z7.un (nv' := putAll (nk rs rs.length) rs.length (out.take (j + 1))) nd
        rw [List.take_add_one, hn, Option.toList_some, ST.putAll_snoc] at this
        rw [List.take_add_one, hn, Option.toList_some, ST.putAll_snoc, rws.len]
        exact this
      · rintro σ H7 ⟨s7, kt7, z7, u3, u4, u5, rfl⟩
        rw [List.length_map, List.take_length] at z7
        exact ⟨_, rfl, q _ A.b s7 nw.b ⟨A, okv, av, rfl, z7, opa.kt kt7, asa.kt kt7, nw⟩⟩
/-! ### there, live -/
def spTh : Sp := fun vs H Q _ => ∃ b rs out, ∃ (n : Int) (k : Nat), vs = [.ref b, .int n, .int (k : Nat)] ∧ BookAt H b rs out ∧ n ∈ vlA rs ∧ k < (stA rs).length ∧ Q (.bl (pres rs n k)) H
theorem ok_l_is_there (T : Tx K mg C) (F : FD K "_law_is_there" "_law_is_there" s_l_is_there [] f fd) : FnG P w K mg base CX0 1 f fd ["_law_book_here", "_law_value", "_law_stop"] spTh := by
  refine ok0 F sc_l_is_there (fun vs H Q E h => ?_) (fun cdv A outer s H vs Q E hr h => ?_)
  · obtain ⟨b, rs, out, n, k, rfl, _⟩ := h
    rfl
  · obtain ⟨b, rs, out, n, k, rfl, ⟨A, okv, av, rfl, z, _, _⟩, hn, hk, q⟩ := h
    refine ⟨_, (pss_one (ps_ret (pe_cmpR op_lt (pe_dget (un1 hr.r.units) (pe_dget (un1 hr.r.units) (pv 0) pe_str (fun _ _ => rfl)) (pv 1) (fun _ _ => rfl)) (pe_ix ix_list (pe_dget (un1 hr.r.units) (pv 0) pe_str (fun _ _ => rfl)) (pv 2) (fun _ _ => rfl)) (nomark _)))), ?_⟩
    have dg3 := DGet.k (k := Sum.inr "at") z.hb
    rw [bk3] at dg3
    have dg4 := DGet.k (k := Sum.inr "stops") z.hb
    rw [bk4] at dg4
    obtain ⟨j, hj, ep, hv, ev⟩ := plc_eq hn
    have dg := DGet.k (k := Sum.inl n) z.ha
    rw [ev] at dg
    exact ⟨_, rfl, A.b, _, rfl, dg3, _, rfl, A.at_, _, rfl, dg, _, rfl, A.b, _, rfl, dg4, _, rfl, A.st, _, _, _, rfl, rfl, SqL.of z.hs, at_nV (spt_at hk), _, _, rfl, rfl, q⟩
def spLL : Sp := fun vs H Q _ => ∃ b rs out, ∃ (n : Int) (k : Nat), vs = [.ref b, .int n, .int (k : Nat)] ∧ BookAt H b rs out ∧ n ∈ vlA rs ∧ k < (stA rs).length ∧ Q (.bl (live rs out n k)) H
theorem ok_l_is_live (T : Tx K mg C) (G_l_is_there : Fnc P w K mg base CX0 1 "_law_is_there" [] spTh) (F : FD K "_law_is_live" "_law_is_live" s_l_is_live [] f fd) : FnG P w K mg base CX0 2 f fd ["_law_book_here", "_law_value", "_law_stop"] spLL := by
  refine ok0 F sc_l_is_live (fun vs H Q E h => ?_) (fun cdv A outer s H vs Q E hr h => ?_)
  · obtain ⟨b, rs, out, n, k, rfl, _⟩ := h
    rfl
  · obtain ⟨b, rs, out, n, k, rfl, hb, hn, hk, q⟩ := h
    obtain ⟨A, okv, av, rfl, z, _, _⟩ := id hb
    refine ⟨_, (pss_one (ps_ret (pe_and (pe_fn G_l_is_there (hr.mono (by decide)) pass0 (pa_cons (pv 0) (pa_cons (pv 1) (pa_cons (pv 2) pa_nil)))) (pe_one (pe_cmpR op_gt (pe_dget2 (un1 hr.r.units) (pe_dget (un1 hr.r.units) (pv 0) pe_str (fun _ _ => rfl)) (pv 1) (pe_un un_neg pe_int) ⟨rfl, rfl, rfl, rfl⟩) (pe_ix ix_list (pe_dget (un1 hr.r.units) (pv 0) pe_str (fun _ _ => rfl)) (pv 2) (fun _ _ => rfl)) (nomark _)))))), ?_⟩
    have dg6 := DGet.k (k := Sum.inr "need") z.hb
    rw [bk6] at dg6
    have dg4 := DGet.k (k := Sum.inr "stops") z.hb
    rw [bk4] at dg4
    refine ⟨_, rfl, _, rfl, _, rfl, A.b, rs, out, n, k, rfl, hb, hn, hk, _, rfl, iteB (fun c => ?_) (fun c => ?_)⟩
    · have e : (valV (nkA rs out) (Sum.inl n)).getD (.int (-1)) = .int (nd rs out n) := nd_eq rs out n
      unfold live at q
      rw [c, Bool.true_and] at q
      exact ⟨_, rfl, A.b, _, rfl, dg6, A.ne, rfl, .inl ⟨_, .inl z.hn⟩, _, rfl, _, rfl, _, DGet.k (k := Sum.inl n) z.hn, _, rfl, A.b, _, rfl, dg4, _, rfl, A.st, _, _, _, rfl, rfl, SqL.of z.hs, at_nV (spt_at hk), _, _, e, rfl, q⟩
    · unfold live at q
      rw [c, Bool.false_and] at q
      exact q
end
end K62

set_option Elab.async false
set_option linter.all false
set_option maxRecDepth 100000
set_option maxHeartbeats 2000000
/-! O62e: keeps looked at. -/
namespace K62
open PySem PySem.Spec PyProof.Rows L2 LL ST
abbrev s_InvalidKeepsinit : Stmt := inClass (top 5) 0
abbrev n_InvalidKeepsinit : List Str := ["self", "position"]
theorem sc_InvalidKeepsinit : FnScope n_InvalidKeepsinit ["self", "position"] (defScope s_InvalidKeepsinit) := ⟨rfl, rfl, rfl, by decide +kernel, rfl, by decide +kernel, by decide +kernel⟩
abbrev s_UnknownStopinit : Stmt := inClass (top 16) 0
abbrev n_UnknownStopinit : List Str := ["self", "stop_number"]
theorem sc_UnknownStopinit : FnScope n_UnknownStopinit ["self", "stop_number"] (defScope s_UnknownStopinit) := ⟨rfl, rfl, rfl, by decide +kernel, rfl, by decide +kernel, by decide +kernel⟩
abbrev s_is_keep : Stmt := top 7
abbrev n_is_keep : List Str := ["stretch", "thing", "value", "stop"]
theorem sc_is_keep : FnScope n_is_keep ["stretch", "thing"] (defScope s_is_keep) := ⟨rfl, rfl, rfl, by decide +kernel, rfl, by decide +kernel, by decide +kernel⟩
abbrev s_check_keeps : Stmt := top 8
abbrev n_check_keeps : List Str := ["stretch", "keeps", "position", "thing"]
theorem sc_check_keeps : FnScope n_check_keeps ["stretch", "keeps"] (defScope s_check_keeps) := ⟨rfl, rfl, rfl, by decide +kernel, rfl, by decide +kernel, by decide +kernel⟩
structure Ty (K : PySem.W.Frag) (mg : Str → Option Value) (CE CK CS : Addr) : Prop where
  g_LeastlogError : mg "LeastlogError" = some (.ref CE)
  g_InvalidKeeps : mg "InvalidKeeps" = some (.ref CK)
  g_UnknownStop : mg "UnknownStop" = some (.ref CS)
  le : LeC K CE
  n_LookupError : mg "LookupError" = none
  vL : PySem.W.findCls K (.type "LookupError") (.type "type") "__init__" = some (.val (.builtin "LookupError.__init__"))
  xSS : PySem.W.exmOne K (.ref CS) (.ref CS) = some true
  xKS : PySem.W.exmOne K (.ref CK) (.ref CS) = some false
  xKK : PySem.W.exmOne K (.ref CK) (.ref CK) = some true
section
variable {P : Program} {w : World} {K : PySem.W.Frag} {mg : Str → Option Value} {base : Heap} {C CE CK CS : Addr} {f : Addr} {fd : FuncData}
theorem passF {X : Cx} : Passes (L2.CX X.prog X.w) X E0 := fun _ _ _ _ _ _ _ h => by
  obtain ⟨_, _, _, _, _, _, _, _, _, _, _, _, z⟩ := h
  exact z.elim
abbrev tL : List Value := [.type "LookupError", .type "Exception", .type "BaseException", .type "object"]
theorem ok_kinit (T : Ty K mg CE CK CS) (O : OexC K CK) (nf : PySem.W.findIn K (.ref CK) "position" = some none) (F : FD K "__init__" "InvalidKeeps.__init__" s_InvalidKeepsinit [] f fd) : FnOk P w K mg base CX0 1 f fd ["self", "position"] (spXI CK "position") := by
  refine F.ok sc_InvalidKeepsinit (fun vs H Q E h => ?_) (fun cdv A outer s H vs Q E hr h => ?_)
  · obtain ⟨a, v, rfl, _⟩ := h
    rfl
  · obtain ⟨a, v, rfl, ha, q⟩ := h
    refine ⟨_, PSs.nox (pss_cons (ps_expr (pe_leinit T.le (by rfl) T.g_LeastlogError (pa_cons (pv 0) (pa_cons pe_str pa_nil)))) (pss_one (ps_ost (pv 0) (pv 1)))), ?_⟩
    refine ⟨_, rfl, a, CK, _, rfl, (by show 1 ≤ 1000; decide), O, ha, _, rfl, _, rfl, a, CK, rfl, O, nf, .inl ⟨ha, fun dx hd ne => q dx hd ne⟩⟩
theorem ok_usinit (T : Ty K mg CE CK CS) (O : OexB K CS "LookupError.__new__" tL) (nf : PySem.W.findIn K (.ref CS) "stop_number" = some none) (F : FD K "__init__" "UnknownStop.__init__" s_UnknownStopinit [] f fd) : FnOk P w K mg base CX0 1 f fd ["self", "stop_number"] (spXB CS ["stop_number"]) := by
  refine F.ok sc_UnknownStopinit (fun vs H Q E h => ?_) (fun cdv A outer s H vs Q E hr h => ?_)
  · obtain ⟨a, us, rfl, e, _⟩ := h
    rw [List.length_cons, e]
    rfl
  · obtain ⟨a, us, rfl, e, ha, q⟩ := h
    match us, e with
    | [v], _ =>
    refine ⟨_, PSs.nox (pss_cons (ps_expr (pe_beinit bas_L T.n_LookupError T.vL (pa_cons (pv 0) (pa_cons pe_str pa_nil)))) (pss_one (ps_ostB bas_L (pv 0) (pv 1)))), ?_⟩
    refine ⟨_, rfl, a, CS, _, rfl, (by show 1 ≤ 1000; decide), O, ha, _, rfl, _, rfl, a, CS, rfl, O, nf, .inl ⟨ha, fun dx hd ne => q dx hd ne⟩⟩
/-! ### a stop looked at -/
def spCSX (K : PySem.W.Frag) (C CS : Addr) : Sp := fun vs H Q E => ∃ p rs out v o, vs = [.ref p, v] ∧ StV C H p rs out ∧ NumO K H v o ∧ ((sIs rs o = true ∧ Q .non H) ∨ (sIs rs o = false ∧ ErF CS "stop_number" H v E))
theorem ok_check_stopX (T : Tx K mg C) (X_UnknownStop : XclB P w K mg base 1 "UnknownStop" CS ["stop_number"]) (M_is_stop : Mth P w K mg base CX0 2 C "is_stop" [] (spIS K C)) (F : FD K "check_stop" "Stretch.check_stop" s_Stretch_check_stop [] f fd) : FnG P w K mg base (L2.CX P w) 3 f fd ["self", "thing"] (spCSX K C CS) := by
  refine okX F sc_Stretch_check_stop (fun vs H Q E h => ?_) (fun cdv A outer s H vs Q E hr h => ?_)
  · obtain ⟨p, rs, out, v, o, rfl, _⟩ := h
    rfl
  · obtain ⟨p, rs, out, v, o, rfl, ⟨dx, fs, vp, ow, oo, sp, np, ls, z⟩, ho, h⟩ := h
    refine ⟨_, (pss_one (ps_if (pt_not (pt_val (pe_mt M_is_stop (hr.mono (by decide)) pass0 (pv 0) (pa_cons (pv 1) pa_nil)))) (pss_one (ps_raiseB X_UnknownStop (hr.r.mono (by decide)) (takes_of rfl rfl rfl rfl) (pa_cons (pv 1) pa_nil))) pss_nil)), ?_⟩
    refine ⟨_, rfl, p, dx, fs, rfl, z.h, z.f.no _ (by decide +kernel) (by decide +kernel) (by decide +kernel) (by decide +kernel) (by decide +kernel), _, rfl, p, rs, out, v, o, rfl, ⟨dx, fs, vp, ow, oo, sp, np, ls, z⟩, ho, _, rfl, ?_⟩
    rcases h with ⟨e, q⟩ | ⟨e, er⟩
    · exact iteN (by rw [e]; rfl) q
    · exact iteY (by rw [e]; rfl) ⟨_, rfl, raiseB_of rfl (by show 1 ≤ 1000; decide) er.now⟩
/-! ### is it a keep? -/
def isKeep (rs : Rs) (out : List Int) (q : IP) : Bool := decide (q.1 ∈ vlA rs) && decide (q.2 < ((stA rs).length : Nat)) && (pres rs q.1 q.2.toNat && !live rs out q.1 q.2.toNat)
inductive Th (K : PySem.W.Frag) (H : Hp) : V → Option IP → Prop
  | pair {v : V} {q : IP} (h : PrV H v q) (h1 : 0 ≤ q.1) (h2 : 0 ≤ q.2) : Th K H v (some q)
  | no {v : V} (h : NoK K "tuple" H v) : Th K H v none
  | len {t : Addr} {xs : List V} (h : H t = some (.tup xs)) (hl : xs.length ≠ 2) (hz : xs.length ≤ 100) : Th K H (.ref t) none
  | bad {t : Addr} {x y : V} {ox oy : Option Int} (h : H t = some (.tup [x, y])) (hx : NumO K H x ox) (hy : NumO K H y oy) (hn : ox = none ∨ oy = none) : Th K H (.ref t) none
theorem Th.same {H H' : Hp} {v : V} {o : Option IP} (h : Th K H v o) (s : Same H H') : Th K H' v o := by
  cases h with
  | pair h h1 h2 => exact .pair (h.same s) h1 h2
  | no h => exact .no (h.same s)
  | len h hl hz => exact .len (s _ _ h) hl hz
  | bad h hx hy hn => exact .bad (s _ _ h) (hx.same s) (hy.same s) hn
def thB (rs : Rs) (out : List Int) : Option IP → Bool
  | some q => isKeep rs out q
  | none => false
def spKeep (K : PySem.W.Frag) (C : Addr) : Sp := fun vs H Q _ => ∃ p rs out v o, vs = [.ref p, v] ∧ StV C H p rs out ∧ Th K H v o ∧ Q (.bl (thB rs out o)) H
theorem ok_is_keep (T : Tx K mg C) (M_is_value : Mth P w K mg base CX0 2 C "is_value" [] (spIV K C)) (M_is_stop : Mth P w K mg base CX0 2 C "is_stop" [] (spIS K C)) (M_is_present : Mth P w K mg base CX0 1 C "is_present" [] (spPr C)) (M_is_live : Mth P w K mg base CX0 2 C "is_live" [] (spLv C))
    (F : FD K "is_keep" "is_keep" s_is_keep [] f fd) : FnG P w K mg base CX0 3 f fd ["stretch", "thing"] (spKeep K C) := by
  refine ok0 F sc_is_keep (fun vs H Q E h => ?_) (fun cdv A outer s H vs Q E hr h => ?_)
  · obtain ⟨p, rs, out, v, o, rfl, _⟩ := h
    rfl
  · obtain ⟨p, rs, out, v, o, rfl, hst, ho, q⟩ := h
    obtain ⟨dx, fs, vp, ow, oo, sp, np, ls, z⟩ := id hst
    have no : ∀ m : Str, m ≠ "value_places" → m ≠ "own_rows" → m ≠ "own_out" → m ≠ "stop_places" → m ≠ "need_places" → fs.lookup m = none := z.f.no
    refine ⟨_, (pss_cons (ps_if (PW.pt (pw_or (pt_not (pt_val (pe_callB call_isi (by rfl) T.n_isinstance (by decide +kernel) (pa_cons (pv 1) (pa_cons (pe_bltn (v := .ty "tuple") (by rfl) T.n_tuple (by decide +kernel) rfl) pa_nil))))) (pw_or1 (pt_cmpR op_ne (pe_callB call_len_seq (by rfl) T.n_len (by decide +kernel) (pa_cons (pv 1) pa_nil)) pe_int (nomark _))))) (pss_one (ps_ret pe_bl)) pss_nil)
      (pss_cons (ps_asg (pv 1) (pg_tup rfl (pgs_cons (pg_name (i := 2) sc_is_keep.nd rfl (by first | exact Or.inl rfl | exact Or.inr rfl)) (pgs_cons (pg_name (i := 3) sc_is_keep.nd rfl (by first | exact Or.inl rfl | exact Or.inr rfl)) pgs_nil))))
      (pss_cons (ps_if (PW.pt (pw_or (pt_not (pt_val (pe_mt M_is_value (hr.mono (by decide)) pass0 (pv 0) (pa_cons (pv 2) pa_nil)))) (pw_or1 (pt_not (pt_val (pe_mt M_is_stop (hr.mono (by decide)) pass0 (pv 0) (pa_cons (pv 3) pa_nil))))))) (pss_one (ps_ret pe_bl)) pss_nil)
      (pss_one (ps_ret (pe_and (pe_mt M_is_present (hr.mono (by decide)) pass0 (pv 0) (pa_cons (pv 2) (pa_cons (pv 3) pa_nil))) (pe_one (pe_not (pe_mt M_is_live (hr.mono (by decide)) pass0 (pv 0) (pa_cons (pv 2) (pa_cons (pv 3) pa_nil))))))))))), ?_⟩
    cases ho with
    | no h =>
      obtain ⟨t, ty, kt⟩ := h
      exact ⟨_, rfl, _, _, t, _, _, rfl, .ty "tuple", ty H Same.rfl', kt, _, rfl, iteT q⟩
    | @len t xs h hl hz =>
      exact ⟨_, rfl, _, _, .type "tuple", _, _, rfl, .ty "tuple", .base (.tup h), kTT, _, rfl, iteF ⟨_, rfl, t, xs, rfl, .inr (SqT.of h), rfl, _, rfl, iteY (by rw [dec_ne (by omega)]; rfl) q⟩⟩
    | @bad t x y ox oy h hx hy hn =>
      refine ⟨_, rfl, _, _, .type "tuple", _, _, rfl, .ty "tuple", .base (.tup h), kTT, _, rfl, iteF ⟨_, rfl, t, _, rfl, .inr (SqT.of h), rfl, _, rfl, iteN (by rw [dec_eq (by rfl)]; rfl) ?_⟩⟩
      refine ⟨_, rfl, t, _, rfl, SqT.of h, rfl, _, _, rfl, _, _, rfl, rfl, ?_⟩
      refine ⟨_, rfl, p, dx, fs, rfl, z.h, no _ (by decide +kernel) (by decide +kernel) (by decide +kernel) (by decide +kernel) (by decide +kernel), _, rfl, p, rs, out, x, ox, rfl, hst, hx, _, rfl, ?_⟩
      cases e1 : vIs rs ox with
      | false => exact iteT q
      | true =>
        have on : oy = none := by
          rcases hn with rfl | h
          · cases e1
          · exact h
        subst on
        exact iteF ⟨_, rfl, p, dx, fs, rfl, z.h, no _ (by decide +kernel) (by decide +kernel) (by decide +kernel) (by decide +kernel) (by decide +kernel), _, rfl, p, rs, out, y, none, rfl, hst, hy, _, rfl, iteT q⟩
    | @pair v qq h h1 h2 =>
      obtain ⟨t, rfl, ht⟩ := h
      refine ⟨_, rfl, _, _, .type "tuple", _, _, rfl, .ty "tuple", .base (.tup ht), kTT, _, rfl, iteF ⟨_, rfl, t, _, rfl, .inr (SqT.of ht), rfl, _, rfl, iteN (by rw [dec_eq (by rfl)]; rfl) ?_⟩⟩
      refine ⟨_, rfl, t, _, rfl, SqT.of ht, rfl, _, _, rfl, _, _, rfl, rfl, ?_⟩
      refine ⟨_, rfl, p, dx, fs, rfl, z.h, no _ (by decide +kernel) (by decide +kernel) (by decide +kernel) (by decide +kernel) (by decide +kernel), _, rfl, p, rs, out, _, some qq.1, rfl, hst, .int _ h1, _, rfl, ?_⟩
      have q : Q (.bl (isKeep rs out qq)) H := q
      unfold isKeep at q
      by_cases c1 : qq.1 ∈ vlA rs
      · rw [decide_eq_true c1, Bool.true_and] at q
        refine iteN (by show (!decide (qq.1 ∈ vlA rs)) = false; rw [decide_eq_true c1]; rfl) ⟨_, rfl, p, dx, fs, rfl, z.h, no _ (by decide +kernel) (by decide +kernel) (by decide +kernel) (by decide +kernel) (by decide +kernel), _, rfl, p, rs, out, _, some qq.2, rfl, hst, .int _ h2, _, rfl, ?_⟩
        by_cases c2 : qq.2 < ((stA rs).length : Nat)
        · rw [decide_eq_true c2, Bool.true_and] at q
          refine iteN (by show (!decide (qq.2 < ((stA rs).length : Nat))) = false; rw [decide_eq_true c2]; rfl) ?_
          obtain ⟨k, ek⟩ := Int.eq_ofNat_of_zero_le h2
          have ks : k < (stA rs).length := by omega
          rw [ek, Int.toNat_natCast] at q
          have e2 : V.int qq.2 = V.int (k : Nat) := by rw [ek]
          refine ⟨_, rfl, p, dx, fs, rfl, z.h, no _ (by decide +kernel) (by decide +kernel) (by decide +kernel) (by decide +kernel) (by decide +kernel), _, rfl, _, rfl, p, rs, out, qq.1, k, (by show [V.ref p, V.int qq.1, V.int qq.2] = _; rw [e2]), hst, c1, ks, _, rfl, iteB (fun c => ?_) (fun c => ?_)⟩
          · rw [c, Bool.true_and] at q
            exact ⟨_, rfl, p, dx, fs, rfl, z.h, no _ (by decide +kernel) (by decide +kernel) (by decide +kernel) (by decide +kernel) (by decide +kernel), _, rfl, _, rfl, p, rs, out, qq.1, k, (by show [V.ref p, V.int qq.1, V.int qq.2] = _; rw [e2]), hst, c1, ks, _, rfl, q⟩
          · rw [c, Bool.false_and] at q
            exact q
        · rw [decide_eq_false c2, Bool.false_and] at q
          exact iteY (by show (!decide (qq.2 < ((stA rs).length : Nat))) = true; rw [decide_eq_false c2]; rfl) q
      · rw [decide_eq_false c1, Bool.false_and, Bool.false_and] at q
        exact iteY (by show (!decide (qq.1 ∈ vlA rs)) = true; rw [decide_eq_false c1]; rfl) q
end
end K62

set_option Elab.async false
set_option linter.all false
set_option maxRecDepth 100000
set_option maxHeartbeats 2000000
/-! O62f: keeps checked; is it known. -/
namespace K62
open PySem PySem.Spec PyProof.Rows L2 LL ST
abbrev s_is_known : Stmt := top 9
abbrev n_is_known : List Str := ["stretch", "keeps", "value", "stop", "known", "operands", "operand"]
theorem sc_is_known : FnScope n_is_known ["stretch", "keeps", "value", "stop", "known"] (defScope s_is_known) := ⟨rfl, rfl, rfl, by decide +kernel, rfl, by decide +kernel, by decide +kernel⟩
structure Good (rs : Rs) (out : List Int) (ps : List IP) : Prop where
  kp : ∀ q ∈ ps, isKeep rs out q = true
  nd : ps.Nodup
  nn : ∀ q ∈ ps, 0 ≤ q.1 ∧ 0 ≤ q.2
theorem prs_take {H : Hp} {vs : List V} {ps : List IP} (h : Prs H vs ps) (n : Nat) : Prs H (vs.take n) (ps.take n) := by
  refine ⟨by rw [List.length_take, List.length_take, h.len], fun i v p e1 e2 => ?_⟩
  have hi : i < n := by
    have := (List.getElem?_eq_some_iff.mp e1).1
    rw [List.length_take] at this
    omega
  rw [List.getElem?_take_of_lt hi] at e1 e2
  exact h.at_ i v p e1 e2
section
variable {P : Program} {w : World} {K : PySem.W.Frag} {mg : Str → Option Value} {base : Heap} {C CE CK CS : Addr} {f : Addr} {fd : FuncData}
def NoLt (K : PySem.W.Frag) (H : Hp) (v : V) : Prop := ∃ t, (∀ H', Same H H' → TyX K H' v t) ∧ PySem.W.kitOne K t (.type "list") = some false ∧ PySem.W.kitOne K t (.type "tuple") = some false
theorem NoLt.same {H H' : Hp} {v : V} (h : NoLt K H v) (s : Same H H') : NoLt K H' v := let ⟨t, a, b⟩ := h; ⟨t, fun H2 s2 => a H2 (s.trans s2), b⟩
def BadK (K : PySem.W.Frag) (H : Hp) (rs : Rs) (out : List Int) (v : V) (j : Nat) : Prop := ∃ a vs u ps o, v = .ref a ∧ Lt H a vs ∧ vs[j]? = some u ∧ ps.length = j ∧ Prs H (vs.take j) ps ∧ Good rs out ps ∧ Th K H u o ∧ (thB rs out o = false ∨ ∃ q, o = some q ∧ q ∈ ps) ∧ vs.length ≤ 1000
theorem BadK.same {H H' : Hp} {rs : Rs} {out : List Int} {v : V} {j : Nat} (h : BadK K H rs out v j) (s : Same H H') : BadK K H' rs out v j := let ⟨a, vs, u, ps, o, e, l, e2, e3, pr, g, th, x⟩ := h; ⟨a, vs, u, ps, o, e, l.same s, e2, e3, pr.same s, g, th.same s, x⟩
/-- what is wrong with the keeps, and where -/
def KErr (K : PySem.W.Frag) (CK : Addr) (H : Hp) (rs : Rs) (out : List Int) (v : V) (E : XK) : Prop := (NoLt K H v ∧ ErF CK "position" H .non E) ∨ ∃ j : Nat, BadK K H rs out v j ∧ ErF CK "position" H (.int (j : Nat)) E
def spCk (K : PySem.W.Frag) (C CK : Addr) : Sp := fun vs H Q E => ∃ p rs out v, vs = [.ref p, v] ∧ StV C H p rs out ∧ ((∃ a ps, v = .ref a ∧ PsAt H a ps ∧ Good rs out ps ∧ ps.length ≤ 1000 ∧ ∀ H', Same H H' → Q .non H') ∨ KErr K CK H rs out v E)
theorem ok_check_keeps (T : Tx K mg C) (X_InvalidKeeps : Xcl P w K mg base 1 "InvalidKeeps" CK "position") (G_is_keep : Fnc P w K mg base CX0 3 "is_keep" [] (spKeep K C)) (F : FD K "check_keeps" "check_keeps" s_check_keeps [] f fd) : FnG P w K mg base (L2.CX P w) 4 f fd ["stretch", "keeps"] (spCk K C CK) := by
  refine okX F sc_check_keeps (fun vs H Q E h => ?_) (fun cdv A outer s H vs Q E hr h => ?_)
  · obtain ⟨p, rs, out, v, rfl, _⟩ := h
    rfl
  · obtain ⟨p, rs, out, v, rfl, hst, h⟩ := h
    refine ⟨_, (pss_cons (ps_if (pt_not (pt_val (pe_callB call_isiT (by rfl) T.n_isinstance (by decide +kernel) (pa_cons (pv 1) (pa_cons (pe_tup (pa_cons (pe_bltn (v := .ty "list") (by rfl) T.n_list (by decide +kernel) rfl) (pa_cons (pe_bltn (v := .ty "tuple") (by rfl) T.n_tuple (by decide +kernel) rfl) pa_nil))) pa_nil))))) (pss_one (ps_raiseX X_InvalidKeeps (hr.r.mono (by decide)) (takes_of rfl rfl rfl rfl) pe_non)) pss_nil)
      (pss_one (ps_for (passes_of rfl) rfl (pi_enumA (by rfl) T.n_enumerate (pa_cons (pv 1) pa_nil)) (pg_tup rfl (pgs_cons (pg_name (i := 2) sc_check_keeps.nd rfl (by first | exact Or.inl rfl | exact Or.inr rfl)) (pgs_cons (pg_name (i := 3) sc_check_keeps.nd rfl (by first | exact Or.inl rfl | exact Or.inr rfl)) pgs_nil))) (pss_one (ps_if (PW.pt (pw_or (pt_not (pt_val (pe_fn G_is_keep (hr.mono (by decide)) pass0 (pa_cons (pv 0) (pa_cons (pv 3) pa_nil))))) (pw_or1 (pt_cmpR (op_inP (un65 hr)) (pv 3) (pe_slice sl_seqA (pv 1) po_none (po_some (pv 2))) (by rfl))))) (pss_one (ps_raiseX X_InvalidKeeps (hr.r.mono (by decide)) (takes_of rfl rfl rfl rfl) (pv 2))) pss_nil))))), ?_⟩
    refine ⟨_, rfl, (by show 2 ≤ sizeLine; decide), fun tp ntp => ?_⟩
    obtain ⟨G, e, s1, htp⟩ := mkO ntp (.tup [.ty "list", .ty "tuple"])
    rw [e]
    clear e
    -- the walk up to some place
    have walk : ∀ (a : Addr) (ls : List V) (ps : List IP) (m : Nat), m ≤ ls.length → Lt H a ls → Prs H (ls.take m) ps → ps.length = m → Good rs out ps → ∀ (i : Nat) (z : V) (H3 : Hp), i < m → ls[i]? = some z → Same G H3 → ∃ q, ps[i]? = some q ∧ PrV H3 z q ∧ isKeep rs out q = true ∧ 0 ≤ q.1 ∧ 0 ≤ q.2 ∧ q ∉ ps.take i ∧ Lt H3 a ls ∧ Prs H3 (ls.take i) (ps.take i) := by
      intro a ls ps m hm hl pr lp gd i z H3 hi hz s3
      obtain ⟨q, hq⟩ : ∃ q, ps[i]? = some q := ⟨_, List.getElem?_eq_getElem (by omega)⟩
      have s13 := s1.trans s3
      refine ⟨q, hq, (pr.at_ i z q (by rw [List.getElem?_take_of_lt hi]; exact hz) hq).same s13, gd.kp q (List.mem_of_getElem? hq), (gd.nn q (List.mem_of_getElem? hq)).1, (gd.nn q (List.mem_of_getElem? hq)).2, fun c => ?_, hl.same s13, ?_⟩
      · obtain ⟨j, hj, e⟩ := List.getElem_of_mem c
        rw [List.length_take] at hj
        rw [List.getElem_take] at e
        have hq' : ps[i]'(by omega) = q := (List.getElem?_eq_some_iff.mp hq).2
        exact List.pairwise_iff_getElem.mp gd.nd j i (by omega) (by omega) (by omega) (e.trans hq'.symm)
      · have := (prs_take pr i).same s13
        rw [List.take_take, Nat.min_eq_left (by omega)] at this
        exact this
    rcases h with ⟨a, ps, rfl, ⟨ls, hl, pr⟩, gd, lp, q⟩ | ⟨⟨t, ty, k1, k2⟩, er⟩ | ⟨j, ⟨a, ls, u, ps, o, rfl, hl, hu, lp, pr, gd, th, bad, l1000⟩, er⟩
    · obtain ⟨t, ty, kt⟩ := ty_lt (K := K) (hl.same s1)
      refine ⟨_, _, _, t, _, _, rfl, htp, .cons (.ty _) (.cons (.ty _) .nil), ty, kt, _, rfl, iteF ?_⟩
      obtain ⟨k, hk⟩ := hl.k (K := K)
      refine ⟨_, rfl, k, a, ls, rfl, sqK_same hk s1, ?_⟩
      refine for_it (walk_enumK (K := K) (k := k) (a := a) (xs := ls)) (fun i σ H' => Same G H' ∧ ∃ u v, σ = [some (.ref p), some (.ref a), u, v]) ⟨Same.rfl', none, none, rfl⟩ (fun i σ H' _ h => sqK_same hk (s1.trans h.1)) ?_ ?_
      · rintro i x σ H2 H3 hi ⟨s2, u, v, rfl⟩ ⟨t, y, z, rfl, nt, rfl, hy, hz⟩
        cases hy
        have s3 := s2.trans (same_upd (o := .tup [.int (i : Nat), z]) nt)
        obtain ⟨q', hq', pv', ik, q1, q2, nin, hl3, pr3⟩ := walk a ls ps ls.length (Nat.le_refl _) hl (by rw [List.take_length]; exact pr) pr.len.symm gd i z _ hi hz s3
        refine ⟨t, _, rfl, SqT.of upd_same, rfl, _, _, rfl, _, _, rfl, rfl, ?_⟩
        refine ⟨_, rfl, _, rfl, p, rs, out, z, some q', rfl, hst.same (s1.trans s3), .pair pv' q1 q2, _, rfl, iteN (by show (!isKeep rs out q') = false; rw [ik]; rfl) ?_⟩
        refine ⟨_, rfl, _, rfl, _, rfl, _, rfl, cut_lt hl3 (by omega) fun H4 b s4 hb => ?_⟩
        refine ⟨q', b, ps.take i, pv'.same s4, rfl, ⟨_, hb, pr3.same s4⟩, _, rfl, iteN (by show decide (q' ∈ ps.take i) = false; exact decide_eq_false nin) ⟨s3.trans s4, _, _, rfl⟩⟩
      · rintro σ H2 ⟨s2, u, v, rfl⟩
        exact q _ (s1.trans s2)
    · refine ⟨_, _, _, t, _, _, rfl, htp, .cons (.ty _) (.cons (.ty _) .nil), ty _ s1, kitA k1 k2, _, rfl, iteT ?_⟩
      exact raise_of (er.same s1).now
    · obtain ⟨t, ty, kt⟩ := ty_lt (K := K) (hl.same s1)
      refine ⟨_, _, _, t, _, _, rfl, htp, .cons (.ty _) (.cons (.ty _) .nil), ty, kt, _, rfl, iteF ?_⟩
      obtain ⟨k, hk⟩ := hl.k (K := K)
      have jl : j < ls.length := (List.getElem?_eq_some_iff.mp hu).1
      refine ⟨_, rfl, k, a, ls, rfl, sqK_same hk s1, ?_⟩
      refine for_it (walk_enumK (K := K) (k := k) (a := a) (xs := ls)) (fun i σ H' => i ≤ j ∧ Same G H' ∧ ∃ u v, σ = [some (.ref p), some (.ref a), u, v]) ⟨Nat.zero_le _, Same.rfl', none, none, rfl⟩ (fun i σ H' _ h => sqK_same hk (s1.trans h.2.1)) ?_ ?_
      · rintro i x σ H2 H3 hi ⟨le, s2, u', v, rfl⟩ ⟨t, y, z, rfl, nt, rfl, hy, hz⟩
        cases hy
        have s3 := s2.trans (same_upd (o := .tup [.int (i : Nat), z]) nt)
        refine ⟨t, _, rfl, SqT.of upd_same, rfl, _, _, rfl, _, _, rfl, rfl, ?_⟩
        rcases Nat.lt_or_eq_of_le le with lt | eq
        · obtain ⟨q', hq', pv', ik, q1, q2, nin, hl3, pr3⟩ := walk a ls ps j (by omega) hl pr lp gd i z _ lt hz s3
          refine ⟨_, rfl, _, rfl, p, rs, out, z, some q', rfl, hst.same (s1.trans s3), .pair pv' q1 q2, _, rfl, iteN (by show (!isKeep rs out q') = false; rw [ik]; rfl) ?_⟩
          refine ⟨_, rfl, _, rfl, _, rfl, _, rfl, cut_lt hl3 (by omega) fun H4 b s4 hb => ?_⟩
          refine ⟨q', b, ps.take i, pv'.same s4, rfl, ⟨_, hb, pr3.same s4⟩, _, rfl, iteN (by show decide (q' ∈ ps.take i) = false; exact decide_eq_false nin) ⟨lt, s3.trans s4, _, _, rfl⟩⟩
        · subst eq
          have hz' : ls[i]? = some z := hz
          rw [hu] at hz'
          cases hz'
          have th3 := th.same (s1.trans s3)
          refine ⟨_, rfl, _, rfl, p, rs, out, _, o, rfl, hst.same (s1.trans s3), th3, _, rfl, ?_⟩
          cases eb : thB rs out o with
          | false => exact iteT ⟨_, rfl, raise_of (er.same (s1.trans s3)).now⟩
          | true =>
            refine iteF ?_
            obtain ⟨q', rfl, qin⟩ := bad.resolve_left (by rw [eb]; exact fun z => nomatch z)
            cases th3 with
            | pair pv' q1 q2 =>
              refine ⟨_, rfl, _, rfl, _, rfl, _, rfl, cut_lt (hl.same (s1.trans s3)) (by omega) fun H4 b s4 hb => ?_⟩
              exact ⟨q', b, ps, pv'.same s4, rfl, ⟨_, hb, pr.same ((s1.trans s3).trans s4)⟩, _, rfl, iteY (by show decide (q' ∈ ps) = true; exact decide_eq_true qin) ⟨_, rfl, raise_of (er.same ((s1.trans s3).trans s4)).now⟩⟩
      · rintro σ H2 ⟨le, s2, u, v, rfl⟩
        omega
/-! ### is it known -/
theorem rwv_of {rs : Rs} (ok : RsOk rs) {n : Int} {j : Nat} (hj : j < rs.length) (hv : n ∈ (rw rs j).val) : rwv rs n = rw rs j := by
  unfold rwv
  rw [plc_of ok hj hv, Int.toNat_natCast]
def spKnown (C : Addr) : Sp := fun vs H Q _ => ∃ (p a kl : Addr) (rs : Rs) (out : List Int) (kp : List IP) (n : Int) (k : Nat) (kn : List Int), vs = [.ref p, .ref a, .int n, .int (k : Nat), .ref kl] ∧ StV C H p rs out ∧ RsOk rs ∧ PsAt H a kp ∧ n ∈ vlA rs ∧ k < (stA rs).length ∧ H kl = some (.lst (kn.map V.int)) ∧ kn.length ≤ 1000 ∧
  ∀ H', Same H H' → Q (.bl (isKnown rs out kp k kn n)) H'
theorem ok_is_known (T : Tx K mg C) (M_is_live : Mth P w K mg base CX0 2 C "is_live" [] (spLv C)) (M_operands : Mth P w K mg base CX0 4 C "operands" [] (spOps C)) (F : FD K "is_known" "is_known" s_is_known [] f fd) : FnG P w K mg base CX0 5 f fd ["stretch", "keeps", "value", "stop", "known"] (spKnown C) := by
  refine ok0 F sc_is_known (fun vs H Q E h => ?_) (fun cdv A outer s H vs Q E hr h => ?_)
  · obtain ⟨p, a, kl, rs, out, kp, n, k, kn, rfl, _⟩ := h
    rfl
  · obtain ⟨p, a, kl, rs, out, kp, n, k, kn, rfl, hst, ok, ha, hn, hk, hkl, lk, q⟩ := h
    obtain ⟨dx, fs, vp, ow, oo, sp, np, ls, z⟩ := id hst
    have no : ∀ m : Str, m ≠ "value_places" → m ≠ "own_rows" → m ≠ "own_out" → m ≠ "stop_places" → m ≠ "need_places" → fs.lookup m = none := z.f.no
    have q0 : ∀ b H', Same H H' → isKnown rs out kp k kn n = b → Q (.bl b) H' := fun b H' s e => e ▸ q H' s
    unfold isKnown at q0
    refine ⟨_, (pss_cons (ps_if (PW.pt (pw_or (pt_val (pe_mt M_is_live (hr.mono (by decide)) pass0 (pv 0) (pa_cons (pv 2) (pa_cons (pv 3) pa_nil)))) (pw_or1 (pt_cmpR (op_inP (un65 hr)) (pe_tup (pa_cons (pv 2) (pa_cons (pv 3) pa_nil))) (pv 1) (by rfl))))) (pss_one (ps_ret pe_bl)) pss_nil)
      (pss_cons (ps_set (i := 5) sc_is_known.nd rfl (by first | exact Or.inl rfl | exact Or.inr rfl) (pe_mt M_operands (hr.mono (by decide)) pass0 (pv 0) (pa_cons (pv 2) pa_nil)))
      (pss_one (ps_ret (pe_and (pe_cmpR op_notN (pv 5) pe_non (nomark _)) (pe_one (pe_callB (cr_all rfl) (by rfl) T.n_all (by decide +kernel) (pa_cons (pe_lc (own := [("operand", 6)]) rfl sc_is_known.nd (pi_tup (pv 5)) (blkOk_by (own := [("operand", 6)]) (N := n_is_known) (sc := defScope s_is_known) (by decide +kernel)) (fun _ _ _ _ _ => (pg_name (i := 6) sc_is_known.nd rfl (by first | exact Or.inl rfl | exact Or.inr rfl))) (fun _ _ _ _ _ => pts_nil) (fun _ _ _ _ _ => (pe_cmpR (op_in_seqK (K := K) (by rfl)) (pv 6) (pv 4) (by rfl)))) pa_nil)))))))), ?_⟩
    refine ⟨_, rfl, p, dx, fs, rfl, z.h, no _ (by decide +kernel) (by decide +kernel) (by decide +kernel) (by decide +kernel) (by decide +kernel), _, rfl, _, rfl, p, rs, out, n, k, rfl, hst, hn, hk, _, rfl, ?_⟩
    cases e1 : live rs out n k with
    | true => exact iteT (q0 _ _ Same.rfl' (by rw [e1]; rfl))
    | false =>
      refine iteF ⟨_, rfl, _, rfl, (by show 2 ≤ sizeLine; decide), fun t nt => ?_⟩
      obtain ⟨G1, e, s1, ht⟩ := mkO nt (.tup [.int n, .int (k : Nat)])
      rw [e]
      clear e
      refine ⟨_, rfl, (n, (k : Int)), a, kp, ⟨t, rfl, ht⟩, rfl, ha.same s1, _, rfl, ?_⟩
      show if decide ((n, (k : Int)) ∈ kp) = true then _ else _
      by_cases c2 : (n, (k : Int)) ∈ kp
      · exact iteY (decide_eq_true c2) (q0 _ _ s1 (by rw [e1, decide_eq_true c2]; rfl))
      · refine iteN (decide_eq_false c2) ?_
        have hst1 := hst.same s1
        refine ⟨_, rfl, p, dx, fs, rfl, s1 _ _ z.h, no _ (by decide +kernel) (by decide +kernel) (by decide +kernel) (by decide +kernel) (by decide +kernel), _, rfl, p, rs, out, n, rfl, hst1, (vls_ok ok (Nat.le_refl _) hn).1, hn, fun j u hj hv hu => ?_⟩
        have erw := rwv_of ok hj hv
        refine nm_of ?_
        dsimp only
        cases er : rw rs j with
        | leaf m =>
          rw [er] at hu
          cases (show u = .non from hu)
          exact ⟨_, rfl, rfl, _, rfl, iteN (by decide +kernel) (q0 _ _ s1 (by rw [e1, decide_eq_false c2, erw, er]; rfl))⟩
        | set m os =>
          rw [er] at hu
          obtain ⟨o, rfl, ho⟩ := (show OpT G1 u os from hu)
          have lo : os.length ≤ 3 := by
            have := (ok.z j hj).opl
            rw [er] at this
            exact this
          refine ⟨_, rfl, rfl, _, rfl, iteY (by rw [decide_eq_false (fun z => nomatch z)]; rfl) ?_⟩
          refine ⟨_, rfl, o, rfl, ⟨_, SqT.of ho⟩, fun D nD => ?_⟩
          refine lc_acc (walk_tup (K := K) (a := o) (xs := os.map V.int)) nD (fun i => ((os.take i).map fun x => V.bl (decide (x ∈ kn)))) rfl (fun i hi => ?_) (fun H' s' => SqT.of (s' _ _ ho)) ?_ ?_
          · rw [List.length_map, List.length_take]
            omega
          · rintro i x H5 H6 hi s5 ⟨rfl, hx⟩ N S hN hS
            rw [List.getElem?_map] at hx
            obtain ⟨c, hc, rfl⟩ := Option.map_eq_some_iff.mp hx
            refine ⟨rfl, _, rfl, _, rfl, kl, _, rfl, .inl (SqL.of ((s1.trans s5) _ _ hkl)), rfl, flatI kn, ?_⟩
            rw [inV_int]
            exact hN _ _ Same.rfl' (take_map _ hc)
          intro H5 s5 h5
          rw [List.length_map, List.take_length] at h5
          refine ⟨D, os.map fun x => decide (x ∈ kn), rfl, SqL.of (by rw [h5, List.map_map]; rfl), ?_⟩
          refine q0 _ _ (s1.trans s5) ?_
          rw [e1, decide_eq_false c2, erw, er]
          show (false || false || os.all fun x => decide (x ∈ kn)) = _
          rw [List.all_map]
          rfl
        | use os => rw [er] at hv; cases hv
        | stop l os => rw [er] at hv; cases hv
end
end K62

set_option Elab.async false
set_option linter.all false
set_option maxRecDepth 100000
set_option maxHeartbeats 2000000
/-! O62g: what is known at the stops; the first that is missing. -/
namespace K62
open PySem PySem.Spec PyProof.Rows L2 LL ST
abbrev s_known_lists : Stmt := top 10
abbrev n_known_lists : List Str := ["stretch", "keeps", "found", "present", "known", "stop", "lost", "value"]
theorem sc_known_lists : FnScope n_known_lists ["stretch", "keeps"] (defScope s_known_lists) := ⟨rfl, rfl, rfl, by decide +kernel, rfl, by decide +kernel, by decide +kernel⟩
abbrev s_known : Stmt := top 11
abbrev n_known : List Str := ["stretch", "keeps", "stop"]
theorem sc_known : FnScope n_known ["stretch", "keeps", "stop"] (defScope s_known) := ⟨rfl, rfl, rfl, by decide +kernel, rfl, by decide +kernel, by decide +kernel⟩
abbrev s_first_missing : Stmt := top 12
abbrev n_first_missing : List Str := ["stretch", "lists", "stop", "known_values", "value"]
theorem sc_first_missing : FnScope n_first_missing ["stretch", "lists"] (defScope s_first_missing) := ⟨rfl, rfl, rfl, by decide +kernel, rfl, by decide +kernel, by decide +kernel⟩
abbrev s_missing : Stmt := top 13
abbrev n_missing : List Str := ["stretch", "keeps"]
theorem sc_missing : FnScope n_missing ["stretch", "keeps"] (defScope s_missing) := ⟨rfl, rfl, rfl, by decide +kernel, rfl, by decide +kernel, by decide +kernel⟩
theorem knF_len (rs : Rs) (out : List Int) (kp : Kps) (lo : List Int) (k : Nat) : ∀ l : List Int, (knF rs out kp lo k l).length ≤ l.length := by
  intro l
  induction l using rev_ind with
  | h0 => exact Nat.le_refl _
  | hs l m ih =>
    rw [knF_snoc]
    split
    · rw [List.length_append, List.length_append]
      exact Nat.add_le_add_right ih 1
    · rw [List.length_append]
      omega
theorem prs_len (rs : Rs) (k : Nat) : (prs rs k).length ≤ rs.length := Nat.le_trans (List.length_filter_le _ _) (vls_len rs rs.length)
theorem prs_mem {rs : Rs} {k : Nat} {n : Int} (h : n ∈ prs rs k) : n ∈ vlA rs := (List.mem_filter.mp h).1
theorem knA_len (rs : Rs) (out : List Int) (kp : Kps) (k : Nat) : (knA rs out kp k).length ≤ rs.length := by
  rw [knA_eq]
  exact Nat.le_trans (knF_len ..) (prs_len rs k)
/-- lists of what is known at the first stops -/
def KlAt (H : Hp) (vs : List V) (rs : Rs) (out : List Int) (kp : Kps) (m : Nat) : Prop := vs.length = m ∧ ∀ (k : Nat) v, vs[k]? = some v → ∃ q, v = .ref q ∧ H q = some (.lst ((knA rs out kp k).map V.int))
theorem KlAt.same {H H' : Hp} {vs : List V} {rs : Rs} {out : List Int} {kp : Kps} {m : Nat} (h : KlAt H vs rs out kp m) (s : Same H H') : KlAt H' vs rs out kp m := ⟨h.1, fun k v e => let ⟨q, e1, e2⟩ := h.2 k v e; ⟨q, e1, s _ _ e2⟩⟩
section
variable {P : Program} {w : World} {K : PySem.W.Frag} {mg : Str → Option Value} {base : Heap} {C CE CK CS : Addr} {f : Addr} {fd : FuncData}
def spKl (C : Addr) : Sp := fun vs H Q _ => ∃ (p a : Addr) (rs : Rs) (out : List Int) (kp : List IP), vs = [.ref p, .ref a] ∧ StAt C H p rs out ∧ RsOk rs ∧ PsAt H a kp ∧
  ∀ H' r vs', Same H H' → H r = none → H' r = some (.lst vs') → KlAt H' vs' rs out kp (stA rs).length → Q (.ref r) H'
theorem ok_known_lists (T : Tx K mg C) (M_stops : Mth P w K mg base CX0 1 C "stops" [] (spSt C)) (M_present : Mth P w K mg base CX0 2 C "present" [] (spPrs C)) (G_is_known : Fnc P w K mg base CX0 5 "is_known" [] (spKnown C)) (F : FD K "known_lists" "known_lists" s_known_lists [] f fd) : FnG P w K mg base CX0 6 f fd ["stretch", "keeps"] (spKl C) := by
  refine ok0 F sc_known_lists (fun vs H Q E h => ?_) (fun cdv A outer s H vs Q E hr h => ?_)
  · obtain ⟨p, a, rs, out, kp, rfl, _⟩ := h
    rfl
  · obtain ⟨p, a, rs, out, kp, rfl, hst, ok, ha, q⟩ := h
    obtain ⟨dx, fs, vp, ow, oo, sp, np, lz, z, _⟩ := id hst
    have no : ∀ m : Str, m ≠ "value_places" → m ≠ "own_rows" → m ≠ "own_out" → m ≠ "stop_places" → m ≠ "need_places" → fs.lookup m = none := z.f.no
    have ll := ok.len
    have lt5 : ∀ {n : Nat}, n < 100000 → n < sizeLine := fun h => Nat.lt_of_lt_of_le h (small (Nat.le_refl _))
    refine ⟨_, (pss_cons (ps_set (i := 2) sc_known_lists.nd rfl (by first | exact Or.inl rfl | exact Or.inr rfl) (pe_lst pa_nil))
      (pss_cons (ps_asg (pe_tup (pa_cons (pe_lst pa_nil) (pa_cons (pe_lst pa_nil) pa_nil))) (pg_tup rfl (pgs_cons (pg_name (i := 3) sc_known_lists.nd rfl (by first | exact Or.inl rfl | exact Or.inr rfl)) (pgs_cons (pg_name (i := 4) sc_known_lists.nd rfl (by first | exact Or.inl rfl | exact Or.inr rfl)) pgs_nil))))
      (pss_cons (ps_for PassesOwn.never rfl (pi_range1 (by rfl) T.n_range (pa_cons (pe_callB call_len_seq (by rfl) T.n_len (by decide +kernel) (pa_cons (pe_mt0 M_stops (hr.mono (by decide)) pass0 (pv 0)) pa_nil)) pa_nil)) (pg_name (i := 5) sc_known_lists.nd rfl (by first | exact Or.inl rfl | exact Or.inr rfl)) (pss_cons (ps_setLc (i := 6) (own := [("value", 7)]) rfl sc_known_lists.nd rfl rfl (sw_true rfl rfl rfl (by decide +kernel)) (pi_list (pv 3)) (blkOk_by (own := [("value", 7)]) (N := n_known_lists) (sc := defScope s_known_lists) (by decide +kernel)) (fun _ _ _ _ _ => (pg_name (i := 7) sc_known_lists.nd rfl (by first | exact Or.inl rfl | exact Or.inr rfl))) (fun _ _ _ _ _ => (pts_one (pt_cmpR (op_notIn_seqK (K := K) (by rfl)) (pv 7) (pv 4) (by rfl)))) (fun _ _ _ _ _ => (pv 7)))
      (pss_cons (ps_asg (pe_tup (pa_cons (pe_mt M_present (hr.mono (by decide)) pass0 (pv 0) (pa_cons (pv 5) pa_nil)) (pa_cons (pe_lst pa_nil) pa_nil))) (pg_tup rfl (pgs_cons (pg_name (i := 3) sc_known_lists.nd rfl (by first | exact Or.inl rfl | exact Or.inr rfl)) (pgs_cons (pg_name (i := 4) sc_known_lists.nd rfl (by first | exact Or.inl rfl | exact Or.inr rfl)) pgs_nil))))
      (pss_cons (ps_for PassesOwn.never rfl (pi_list (pv 3)) (pg_name (i := 7) sc_known_lists.nd rfl (by first | exact Or.inl rfl | exact Or.inr rfl)) (pss_one (ps_if (PW.pt (pw_and (pt_cmpR op_notIn_seq (pv 7) (pv 6) (by rfl)) (pw_and1 (pt_val (pe_fn G_is_known (hr.mono (by decide)) pass0 (pa_cons (pv 0) (pa_cons (pv 1) (pa_cons (pv 7) (pa_cons (pv 5) (pa_cons (pv 4) pa_nil)))))))))) (pss_one (ps_expr (pe_bm PySem.F.plainAttrs_list PySem.F.slot_list_append PySem.F.type_list_append mt_append (pv 4) (pa_cons (pv 7) pa_nil)))) pss_nil)))
      (pss_one (ps_expr (pe_bm PySem.F.plainAttrs_list PySem.F.slot_list_append PySem.F.type_list_append mt_append (pv 2) (pa_cons (pv 4) pa_nil))))))))
      (pss_one (ps_ret (pv 2)))))), ?_⟩
    refine ⟨(by show 0 ≤ sizeLine; decide), fun fo nfo => ?_⟩
    obtain ⟨G1, e, s1, hfo⟩ := mkO nfo (.lst [])
    rw [e]
    clear e
    refine nm_of ?_
    dsimp only
    refine ⟨(by show 0 ≤ sizeLine; decide), fun pr npr => ?_⟩
    obtain ⟨G2, e, s2, hpr⟩ := mkO npr (.lst [])
    rw [e]
    clear e
    refine ⟨(by show 0 ≤ sizeLine; decide), fun kn nkn => ?_⟩
    obtain ⟨G3, e, s3, hkn⟩ := mkO nkn (.lst [])
    rw [e]
    clear e
    refine ⟨(by show 2 ≤ sizeLine; decide), fun tt ntt => ⟨tt, _, rfl, SqT.of upd_same, rfl, _, _, rfl, _, _, rfl, rfl, ?_⟩⟩
    obtain ⟨G4, e, s4, htt⟩ := mkO ntt (.tup [.ref pr, .ref kn])
    rw [e]
    clear e
    have s14 := (s2.trans s3).trans s4
    have s04 := s1.trans s14
    refine ⟨_, rfl, p, dx, fs, rfl, s04 _ _ z.h, no _ (by decide +kernel) (by decide +kernel) (by decide +kernel) (by decide +kernel) (by decide +kernel), p, rs, out, rfl, hst.same s04, by omega, fun H5 ls5 s5 n5 h5 => ?_⟩
    have s05 := s04.trans s5
    have lb : (lbls rs rs.length).length = (stA rs).length := by rw [lbls_eq, List.length_map]
    refine ⟨ls5, _, rfl, .inl (SqL.of h5), _, rfl, by omega, by rw [List.length_map, lb]; have : (stA rs).length ≤ rs.length := stp_len rs rs.length; omega, ?_⟩
    rw [List.length_map, lb, Int.toNat_natCast]
    have fok : ∀ g : Addr, G1 g = none → g ≠ fo := fun g hg e => by rw [e, hfo] at hg; cases hg
    refine for_it (walk_range (lo := 0) (n := (stA rs).length)) (fun i σ H' => Same H H' ∧ (∃ vs', H' fo = some (.lst vs') ∧ KlAt H' vs' rs out kp i ∧ ∀ v ∈ vs', v ≠ .ref fo) ∧ (∃ pr kn, (∃ u5 u6 u7, σ = [some (.ref p), some (.ref a), some (.ref fo), some (.ref pr), some (.ref kn), u5, u6, u7]) ∧
      ∃ lp lk : List Int, H' pr = some (.lst (lp.map V.int)) ∧ H' kn = some (.lst (lk.map V.int)) ∧ lp.length ≤ 1000 ∧ lk.length ≤ 1000 ∧ (lp.filter fun n => !decide (n ∈ lk)) = lstA rs out kp i))
      ⟨s05, ⟨[], s5 _ _ (s14 _ _ hfo), ⟨rfl, fun k v e => by simp at e⟩, fun v hv => by cases hv⟩, pr, kn, ⟨_, _, _, rfl⟩, [], [], s5 _ _ (s4 _ _ (s3 _ _ hpr)), s5 _ _ (s4 _ _ hkn), by decide, by decide, rfl⟩ (fun _ _ _ _ _ => trivial) ?_ ?_
    · rintro i x σ H7 H6 hi ⟨s6, ⟨vs', hfo6, kl, nfv⟩, pr6, kn6, ⟨u5, u6, u7, rfl⟩, lp, lk, hpr6, hkn6, llp, llk, lst⟩ ⟨rfl, rfl⟩
      refine nm_of ?_
      dsimp only
      rw [Int.zero_add]
      refine ⟨_, rfl, pr6, rfl, ⟨_, SqL.of hpr6⟩, fun D nD => ?_⟩
      refine lc_acc (walk_list (K := K) (a := pr6) (xs := lp.map V.int)) nD (fun j => ((lp.take j).filter fun n => !decide (n ∈ lk)).map V.int) rfl (fun j hj => ?_) (fun H' s' => SqL.of (s' _ _ hpr6)) ?_ ?_
      · rw [List.length_map]
        have := List.length_filter_le (fun n => !decide (n ∈ lk)) (lp.take j)
        rw [List.length_take] at this
        omega
      · rintro j x H9 H8 hj s8 ⟨rfl, hx⟩ N S hN hS
        rw [List.getElem?_map] at hx
        obtain ⟨n, hn, rfl⟩ := Option.map_eq_some_iff.mp hx
        have tf := take_fil (fun n => !decide (n ∈ lk)) hn
        refine ⟨rfl, _, rfl, _, rfl, kn6, _, rfl, .inl (SqL.of (s8 _ _ hkn6)), rfl, flatI lk, _, rfl, ?_⟩
        show if (!inV (.int n) (lk.map V.int)) = true then _ else _
        rw [inV_int]
        refine iteB (fun c => ⟨_, rfl, hN _ _ Same.rfl' ?_⟩) (fun c => hS _ Same.rfl' ?_)
        · rw [tf, if_pos c, List.map_append]
          rfl
        · rw [tf, if_neg (by rw [c]; exact Bool.false_ne_true), List.append_nil]
      intro H8 s8 h8
      rw [List.length_map, List.take_length, lst] at h8
      have s08 := s6.trans s8
      refine ⟨_, rfl, p, dx, fs, rfl, s08 _ _ z.h, no _ (by decide +kernel) (by decide +kernel) (by decide +kernel) (by decide +kernel) (by decide +kernel), _, rfl, p, rs, out, i, rfl, hst.same s08, by omega, hi, fun H9 pr9 s9 n9 h9 => ⟨(by show 0 ≤ sizeLine; decide), fun kn9 nk9 => ?_⟩⟩
      obtain ⟨G10, e, s10, hk10⟩ := mkO nk9 (.lst [])
      rw [e]
      clear e
      refine ⟨(by show 2 ≤ sizeLine; decide), fun tt' ntt' => ⟨tt', _, rfl, SqT.of upd_same, rfl, _, _, rfl, _, _, rfl, rfl, ?_⟩⟩
      obtain ⟨G11, e, s11, _⟩ := mkO ntt' (.tup [.ref pr9, .ref kn9])
      rw [e]
      clear e
      have s611 := ((s8.trans s9).trans s10).trans s11
      have s011 := s6.trans s611
      have hpr11 := s11 _ _ (s10 _ _ h9)
      have hD11 := s11 _ _ (s10 _ _ (s9 _ _ h8))
      have kl11 := kl.same s611
      have hfo11 := s611 _ _ hfo6
      have nk0 : H kn9 = none := (s08.trans s9).free nk9
      have pk : pr9 ≠ kn9 := ne_of_none h9 nk9
      have Dk : D ≠ kn9 := ne_of_none (s9 _ _ h8) nk9
      have fk : fo ≠ kn9 := ne_of_none (s9 _ _ (s8 _ _ hfo6)) nk9
      have pl := prs_len rs i
      refine ⟨_, rfl, pr9, rfl, ⟨_, SqL.of hpr11⟩, ?_⟩
      refine for_it (walk_list (K := K) (a := pr9) (xs := (prs rs i).map V.int)) (fun j σ H' => Same H H' ∧ But kn9 G11 H' ∧ H' kn9 = some (.lst ((knF rs out kp (lstA rs out kp i) i ((prs rs i).take j)).map V.int)) ∧ ∃ u7, σ = [some (.ref p), some (.ref a), some (.ref fo), some (.ref pr9), some (.ref kn9), some (.int (i : Nat)), some (.ref D), u7])
        ⟨s011, .refl, s11 _ _ hk10, _, rfl⟩ (fun j σ H' _ h => SqL.of (h.2.1 _ _ hpr11 pk)) ?_ ?_
      · rintro j x σ H13 H12 hj ⟨s12, b12, hk12, u7', rfl⟩ ⟨rfl, hx⟩
        rw [List.getElem?_map] at hx
        obtain ⟨n, hn, rfl⟩ := Option.map_eq_some_iff.mp hx
        have hm := List.mem_of_getElem? hn
        have tk : (prs rs i).take (j + 1) = (prs rs i).take j ++ [n] := by rw [List.take_add_one, hn, Option.toList_some]
        have kfl := knF_len rs out kp (lstA rs out kp i) i ((prs rs i).take j)
        rw [List.length_take] at kfl
        refine ⟨_, rfl, _, rfl, D, _, rfl, .inl (SqL.of (b12 _ _ hD11 Dk)), rfl, flatI _, ?_⟩
        refine ⟨_, rfl, ?_⟩
        show if (!inV (.int n) ((lstA rs out kp i).map V.int)) = true then _ else _
        rw [inV_int]
        by_cases c : n ∈ lstA rs out kp i
        · refine iteN (by rw [decide_eq_true c]; rfl) ⟨s12, b12, ?_, _, rfl⟩
          rw [tk, knF_snoc, decide_eq_true c]
          exact hk12
        · refine iteY (by rw [decide_eq_false c]; rfl) ?_
          refine ⟨_, rfl, _, rfl, _, rfl, _, rfl, _, rfl, p, a, kn9, rs, out, kp, n, i, _, rfl, (hst.same s12).v, ok, ha.same s12, prs_mem hm, hi, hk12, by omega, fun H14 s14 => ⟨_, rfl, iteB (fun c2 => ?_) (fun c2 => ?_)⟩⟩
          · refine ⟨_, rfl, .inl ⟨rfl, _, SqL.of (s14 _ _ hk12)⟩, _, rfl, kn9, _, _, rfl, rfl, s14 _ _ hk12, lt5 (by rw [List.length_map]; omega), own_same (s12.trans s14) nk0, (but_same b12 s14).trans but_upd, ?_, _, rfl⟩
            rw [upd_same, tk, knF_snoc, decide_eq_false c, c2, show (!false && true) = true from rfl, if_pos rfl, List.map_append]
            rfl
          · refine ⟨s12.trans s14, but_same b12 s14, ?_, _, rfl⟩
            rw [tk, knF_snoc, decide_eq_false c, c2]
            exact s14 _ _ hk12
      · rintro σ H12 ⟨s12, b12, hk12, u7', rfl⟩
        rw [List.length_map, List.take_length, ← knA_eq] at hk12
        have hfo12 := b12 _ _ hfo11 fk
        have vl := kl.1
        refine ⟨_, rfl, .inl ⟨rfl, _, SqL.of hfo12⟩, _, rfl, fo, _, _, rfl, rfl, hfo12, lt5 (by have := stp_len rs rs.length; have : (stA rs).length ≤ rs.length := this; omega), own_same s12 nfo, ⟨vs' ++ [.ref kn9], upd_same, ⟨by rw [List.length_append, vl]; rfl, fun k v e => ?_⟩, fun v hv => ?_⟩, pr9, kn9, ⟨_, _, _, rfl⟩, prs rs i, knA rs out kp i, ?_, ?_, by omega, by have := knA_len rs out kp i; omega, rfl⟩
        · by_cases c : k < vs'.length
          · rw [List.getElem?_append_left c] at e
            obtain ⟨q', rfl, hq'⟩ := kl11.2 k v e
            have qk : q' ≠ kn9 := by
              obtain ⟨q2, e2, hq2⟩ := (kl.same (s8.trans s9)).2 k _ e
              cases e2
              exact ne_of_none hq2 nk9
            have qf : q' ≠ fo := fun z => nfv _ (List.mem_of_getElem? e) (by rw [z])
            exact ⟨q', rfl, by rw [upd_ne qf]; exact b12 _ _ hq' qk⟩
          · have hk := (List.getElem?_eq_some_iff.mp e).1
            rw [List.length_append, List.length_singleton] at hk
            have ek : k = vs'.length := by omega
            subst ek
            rw [List.getElem?_append_right (Nat.le_refl _), Nat.sub_self] at e
            cases e
            exact ⟨kn9, rfl, by rw [upd_ne fk.symm, vl]; exact hk12⟩
        · rcases List.mem_append.mp hv with z | z
          · exact nfv v z
          · rw [List.mem_singleton.mp z]
            exact fun z => fk.symm (V.ref.inj z)
        · rw [upd_ne (ne_of_none (s8 _ _ hfo6) n9).symm]
          exact b12 _ _ hpr11 pk
        · rw [upd_ne fk.symm]
          exact hk12
    · rintro σ H6 ⟨s6, ⟨vs', hfo6, kl, nfv⟩, pr6, kn6, ⟨u5, u6, u7, rfl⟩, _⟩
      exact ⟨_, rfl, q _ fo vs' s6 nfo hfo6 kl⟩
/-! ### known -/
def spKn (K : PySem.W.Frag) (C CK CS : Addr) : Sp := fun vs H Q E => ∃ p rs out v sv so, vs = [.ref p, v, sv] ∧ StAt C H p rs out ∧ RsOk rs ∧ NumO K H sv so ∧ (KErr K CK H rs out v E ∨ ∃ a kp, v = .ref a ∧ PsAt H a kp ∧ Good rs out kp ∧ kp.length ≤ 1000 ∧
  ((sIs rs so = false ∧ ErF CS "stop_number" H sv E) ∨ ∃ k : Nat, so = some (k : Int) ∧ k < (stA rs).length ∧ ∀ H' r (ns : List Int), Same H H' → H r = none → H' r = some (.lst (ns.map V.int)) → ns.Perm (knA rs out kp k) → ns.Pairwise (· ≤ ·) → Q (.ref r) H'))
theorem ok_known (T : Tx K mg C) (G_check_keeps : Fnc P w K mg base (L2.CX P w) 4 "check_keeps" [] (spCk K C CK)) (M_check_stopX : Mth P w K mg base (L2.CX P w) 3 C "check_stop" [] (spCSX K C CS)) (G_known_lists : Fnc P w K mg base CX0 6 "known_lists" [] (spKl C)) (F : FD K "known" "known" s_known [] f fd) : FnG P w K mg base (L2.CX P w) 7 f fd ["stretch", "keeps", "stop"] (spKn K C CK CS) := by
  refine okX F sc_known (fun vs H Q E h => ?_) (fun cdv A outer s H vs Q E hr h => ?_)
  · obtain ⟨p, rs, out, v, sv, so, rfl, _⟩ := h
    rfl
  · obtain ⟨p, rs, out, v, sv, so, rfl, hst, ok, hs, h⟩ := h
    obtain ⟨dx, fs, vp, ow, oo, sp, np, lz, z, _⟩ := id hst
    refine ⟨_, (pss_cons (ps_expr (pe_fn G_check_keeps (hr.mono (by decide)) (passes_call (takes_of rfl rfl rfl rfl) (fun _ _ _ _ h => h)) (pa_cons (pv 0) (pa_cons (pv 1) pa_nil))))
      (pss_cons (ps_expr (pe_mt M_check_stopX (hr.mono (by decide)) (passes_call (takes_of rfl rfl rfl rfl) (fun _ _ _ _ h => h)) (pv 0) (pa_cons (pv 2) pa_nil)))
      (pss_one (ps_ret (pe_callB cr_sorted (by rfl) T.n_sorted (by decide +kernel) (pa_cons (pe_ix ix_list (pe_fn G_known_lists (hr.mono (by decide)) pass0 (pa_cons (pv 0) (pa_cons (pv 1) pa_nil))) (pv 2) (fun _ _ => rfl)) pa_nil)))))), ?_⟩
    rcases h with er | ⟨a, kp, rfl, ha, gd, lk, h⟩
    · exact ⟨_, rfl, _, rfl, p, rs, out, v, rfl, hst.v, .inr er⟩
    · refine ⟨_, rfl, _, rfl, p, rs, out, _, rfl, hst.v, .inl ⟨a, kp, rfl, ha, gd, lk, fun H1 s1 => ?_⟩⟩
      refine ⟨_, rfl, p, dx, fs, rfl, s1 _ _ z.h, z.f.no _ (by decide +kernel) (by decide +kernel) (by decide +kernel) (by decide +kernel) (by decide +kernel), _, rfl, p, rs, out, sv, so, rfl, (hst.same s1).v, hs.same s1, ?_⟩
      rcases h with ⟨e, er⟩ | ⟨k, rfl, hk, q⟩
      · exact .inr ⟨e, er.same s1⟩
      · obtain ⟨rfl, _⟩ := hs.some
        refine .inl ⟨by show decide ((k : Int) < ((stA rs).length : Nat)) = true; exact decide_eq_true (by omega), ?_⟩
        refine ⟨_, rfl, _, rfl, p, a, rs, out, kp, rfl, hst.same s1, ok, ha.same s1, fun H2 r vs' s2 nr hr' kl => ?_⟩
        obtain ⟨v, hv⟩ : ∃ v, vs'[k]? = some v := ⟨_, List.getElem?_eq_getElem (by rw [kl.1]; exact hk)⟩
        obtain ⟨qq, rfl, hq⟩ := kl.2 k v hv
        refine ⟨_, rfl, r, vs', _, _, rfl, rfl, SqL.of hr', atI_nat hv, qq, _, rfl, SqL.of hq, by have := knA_len rs out kp k; have := ok.len; omega, fun ns r2 pm pw nr2 => ?_⟩
        have s02 := s1.trans s2
        exact q _ r2 ns (s02.trans (same_upd nr2)) (s02.free nr2) upd_same pm pw
/-! ### the first that is missing -/
def spFm (C : Addr) : Sp := fun vs H Q _ => ∃ (p l : Addr) (rs : Rs) (out : List Int) (kp : List IP) (vs' : List V), vs = [.ref p, .ref l] ∧ StV C H p rs out ∧ RsOk rs ∧ H l = some (.lst vs') ∧ KlAt H vs' rs out kp (stA rs).length ∧
  (∀ H' t (k : Nat) v, Same H H' → H' t = some (.tup [.int (k : Nat), .int v]) → FM rs out kp k v → Q (.ref t) H') ∧ ∀ H', Same H H' → (∀ j, j < (stA rs).length → ∀ x ∈ ask rs j, x ∉ lostA rs out kp j) → Q .non H'
theorem ok_first_missing (T : Tx K mg C) (M_asked : Mth P w K mg base CX0 4 C "asked" [] (spAsk C)) (F : FD K "first_missing" "first_missing" s_first_missing [] f fd) : FnG P w K mg base CX0 5 f fd ["stretch", "lists"] (spFm C) := by
  refine ok0 F sc_first_missing (fun vs H Q E h => ?_) (fun cdv A outer s H vs Q E hr h => ?_)
  · obtain ⟨p, l, rs, out, kp, vs', rfl, _⟩ := h
    rfl
  · obtain ⟨p, l, rs, out, kp, vs', rfl, hst, ok, hl, kl, q1, q2⟩ := h
    obtain ⟨dx, fs, vp, ow, oo, sp, np, lz, z⟩ := id hst
    have no : ∀ m : Str, m ≠ "value_places" → m ≠ "own_rows" → m ≠ "own_out" → m ≠ "stop_places" → m ≠ "need_places" → fs.lookup m = none := z.f.no
    refine ⟨_, (pss_cons (ps_for PassesOwn.never rfl (pi_enumA (by rfl) T.n_enumerate (pa_cons (pv 1) pa_nil)) (pg_tup rfl (pgs_cons (pg_name (i := 2) sc_first_missing.nd rfl (by first | exact Or.inl rfl | exact Or.inr rfl)) (pgs_cons (pg_name (i := 3) sc_first_missing.nd rfl (by first | exact Or.inl rfl | exact Or.inr rfl)) pgs_nil))) (pss_one (ps_for PassesOwn.never rfl (pi_list (pe_callB cr_sortedQ (by rfl) T.n_sorted (by decide +kernel) (pa_cons (pe_mt M_asked (hr.mono (by decide)) pass0 (pv 0) (pa_cons (pv 2) pa_nil)) pa_nil))) (pg_name (i := 4) sc_first_missing.nd rfl (by first | exact Or.inl rfl | exact Or.inr rfl)) (pss_one (ps_if (pt_cmpR op_notIn_seq (pv 4) (pv 3) (by rfl)) (pss_one (ps_ret (pe_tup (pa_cons (pv 2) (pa_cons (pv 4) pa_nil))))) pss_nil)))))
      (pss_one (ps_ret pe_non))), ?_⟩
    refine ⟨_, rfl, true, l, vs', rfl, SqL.of hl, ?_⟩
    refine for_it (walk_enumK (K := K) (k := true) (a := l) (xs := vs')) (fun i σ H' => Same H H' ∧ (∀ j, j < i → ∀ x ∈ ask rs j, x ∉ lostA rs out kp j) ∧ ∃ u v x, σ = [some (.ref p), some (.ref l), u, v, x]) ⟨Same.rfl', fun j hj => absurd hj (Nat.not_lt_zero _), _, _, _, rfl⟩ (fun i σ H' _ h => SqL.of (h.1 _ _ hl)) ?_ ?_
    · rintro i x σ H2 H3 hi ⟨s2, be, u, v, x', rfl⟩ ⟨t, y, zz, rfl, nt, rfl, hy, hz⟩
      cases hy
      obtain ⟨G3, e3, s3, ht3⟩ := mkO nt (.tup [.int (i : Nat), zz])
      rw [e3]
      have s03 := s2.trans s3
      refine ⟨t, _, rfl, SqT.of ht3, rfl, _, _, rfl, _, _, rfl, rfl, ?_⟩
      have il : i < (stA rs).length := by rw [← kl.1]; exact hi
      obtain ⟨qq, rfl, hq⟩ := kl.2 i zz hz
      refine ⟨_, rfl, p, dx, fs, rfl, s03 _ _ z.h, no _ (by decide +kernel) (by decide +kernel) (by decide +kernel) (by decide +kernel) (by decide +kernel), _, rfl, p, rs, out, i, rfl, hst.same s03, il, fun u hu => ?_⟩
      obtain ⟨o, rfl, ho⟩ := hu
      have lo : (ask rs i).length ≤ 3 := (ok.z _ (spt_stop il).1).opl
      refine ⟨o, ask rs i, rfl, .inr ho, by omega, fun ns r pm pw nr => ?_⟩
      obtain ⟨G4, e4, s4, hr4⟩ := mkO nr (.lst (ns.map V.int))
      rw [e4]
      have s04 := s03.trans s4
      have knl : ∀ x ∈ ask rs i, (x ∈ knA rs out kp i ↔ x ∉ lostA rs out kp i) := fun x hx => by
        rw [kn_is ok, List.mem_filter, Bool.not_eq_true', decide_eq_false_iff_not]
        exact ⟨fun z => z.2, fun z => ⟨ask_prs ok il hx, z⟩⟩
      refine ⟨r, rfl, ⟨_, SqL.of hr4⟩, ?_⟩
      refine for_it (walk_list (K := K) (a := r) (xs := ns.map V.int)) (fun j σ H' => Same G4 H' ∧ (∀ x ∈ ns.take j, x ∉ lostA rs out kp i) ∧ ∃ x, σ = [some (.ref p), some (.ref l), some (.int (i : Nat)), some (.ref qq), x]) ⟨Same.rfl', (fun x hx => by cases hx), _, rfl⟩ (fun j σ H' _ h => SqL.of (h.1 _ _ hr4)) ?_ ?_
      · rintro j x σ H6 H5 hj ⟨s5, nlo, x5, rfl⟩ ⟨rfl, hx⟩
        rw [List.getElem?_map] at hx
        obtain ⟨n, hn, rfl⟩ := Option.map_eq_some_iff.mp hx
        have hm : n ∈ ask rs i := pm.mem_iff.mp (List.mem_of_getElem? hn)
        refine ⟨_, rfl, _, rfl, qq, _, rfl, .inl (SqL.of ((s04.trans s5) _ _ hq)), rfl, flatI _, _, rfl, ?_⟩
        show if (!inV (.int n) ((knA rs out kp i).map V.int)) = true then _ else _
        rw [inV_int]
        by_cases c : n ∈ knA rs out kp i
        · refine iteN (by rw [decide_eq_true c]; rfl) ⟨s5, fun x hx => ?_, _, rfl⟩
          rw [List.take_add_one, hn, Option.toList_some] at hx
          rcases List.mem_append.mp hx with h | h
          · exact nlo x h
          · rw [List.mem_singleton.mp h]
            exact (knl n hm).mp c
        · refine iteY (by rw [decide_eq_false c]; rfl) ⟨_, rfl, _, rfl, (by show 2 ≤ sizeLine; decide), fun tt ntt => ?_⟩
          have nlost : n ∈ lostA rs out kp i := Decidable.byContradiction fun w => c ((knl n hm).mpr w)
          refine q1 _ tt i n ((s04.trans s5).trans (same_upd ntt)) upd_same ⟨il, hm, nlost, be, fun x hx hxl => ?_⟩
          obtain ⟨j', hj', e'⟩ := List.getElem_of_mem (pm.mem_iff.mpr hx)
          obtain ⟨hjn, ejn⟩ := List.getElem?_eq_some_iff.mp hn
          rcases Nat.lt_trichotomy j' j with h | h | h
          · exact absurd hxl (nlo x (by rw [← e']; exact List.mem_take_iff_getElem.mpr ⟨j', by omega, rfl⟩))
          · subst h
            rw [← ejn, e']
            exact Int.le_refl _
          · have := List.pairwise_iff_getElem.mp pw j j' hjn hj' h
            rw [ejn, e'] at this
            exact this
      · rintro σ H5 ⟨s5, nlo, x5, rfl⟩
        refine ⟨s04.trans s5, fun j hj x hx => ?_, _, _, _, rfl⟩
        by_cases c : j = i
        · subst c
          rw [List.length_map, List.take_length] at nlo
          exact nlo x (pm.mem_iff.mpr hx)
        · exact be j (by omega) x hx
    · rintro σ H2 ⟨s2, be, u, v, x', rfl⟩
      rw [kl.1] at be
      exact q2 _ s2 be
def spMs (K : PySem.W.Frag) (C CK : Addr) : Sp := fun vs H Q E => ∃ p rs out v, vs = [.ref p, v] ∧ StAt C H p rs out ∧ RsOk rs ∧ (KErr K CK H rs out v E ∨ ∃ a kp, v = .ref a ∧ PsAt H a kp ∧ Good rs out kp ∧ kp.length ≤ 1000 ∧
  (∀ H' t (k : Nat) v, Same H H' → H' t = some (.tup [.int (k : Nat), .int v]) → FM rs out kp k v → Q (.ref t) H') ∧ ∀ H', Same H H' → (∀ j, j < (stA rs).length → ∀ x ∈ ask rs j, x ∉ lostA rs out kp j) → Q .non H')
theorem ok_missing (T : Tx K mg C) (G_check_keeps : Fnc P w K mg base (L2.CX P w) 4 "check_keeps" [] (spCk K C CK)) (G_known_lists : Fnc P w K mg base CX0 6 "known_lists" [] (spKl C)) (G_first_missing : Fnc P w K mg base CX0 5 "first_missing" [] (spFm C)) (F : FD K "missing" "missing" s_missing [] f fd) : FnG P w K mg base (L2.CX P w) 7 f fd ["stretch", "keeps"] (spMs K C CK) := by
  refine okX F sc_missing (fun vs H Q E h => ?_) (fun cdv A outer s H vs Q E hr h => ?_)
  · obtain ⟨p, rs, out, v, rfl, _⟩ := h
    rfl
  · obtain ⟨p, rs, out, v, rfl, hst, ok, h⟩ := h
    refine ⟨_, (pss_cons (ps_expr (pe_fn G_check_keeps (hr.mono (by decide)) (passes_call (takes_of rfl rfl rfl rfl) (fun _ _ _ _ h => h)) (pa_cons (pv 0) (pa_cons (pv 1) pa_nil))))
      (pss_one (ps_ret (pe_fn G_first_missing (hr.mono (by decide)) pass0 (pa_cons (pv 0) (pa_cons (pe_fn G_known_lists (hr.mono (by decide)) pass0 (pa_cons (pv 0) (pa_cons (pv 1) pa_nil))) pa_nil)))))), ?_⟩
    rcases h with er | ⟨a, kp, rfl, ha, gd, lk, q1, q2⟩
    · exact ⟨_, rfl, _, rfl, p, rs, out, v, rfl, hst.v, .inr er⟩
    · refine ⟨_, rfl, _, rfl, p, rs, out, _, rfl, hst.v, .inl ⟨a, kp, rfl, ha, gd, lk, fun H1 s1 => ?_⟩⟩
      refine ⟨_, rfl, _, rfl, _, rfl, p, a, rs, out, kp, rfl, hst.same s1, ok, ha.same s1, fun H2 r vs' s2 nr hr' kl => ?_⟩
      have s02 := s1.trans s2
      exact ⟨p, r, rs, out, kp, vs', rfl, (hst.same s02).v, ok, hr', kl, fun H' t k v s' => q1 H' t k v (s02.trans s'), fun H' s' => q2 H' (s02.trans s')⟩
end
end K62

set_option Elab.async false
set_option linter.all false
set_option maxRecDepth 100000
set_option maxHeartbeats 2000000
/-! L62e: the law's own spreading of loss. -/
namespace K62
open PySem PySem.Spec PyProof.Rows L2 LL ST
abbrev s_l_lost : Stmt := top 41
abbrev n_l_lost : List Str := ["_law_book_here", "_law_kept", "_law_found", "_law_stop", "_law_value", "_law_parts", "_law_is_open", "_law_part"]
theorem sc_l_lost : FnScope n_l_lost ["_law_book_here", "_law_kept"] (defScope s_l_lost) := ⟨rfl, rfl, rfl, by decide +kernel, rfl, by decide +kernel, by decide +kernel⟩
abbrev s_l_candidates : Stmt := top 43
abbrev n_l_candidates : List Str := ["_law_book_here", "_law_found", "_law_value", "_law_stop"]
theorem sc_l_candidates : FnScope n_l_candidates ["_law_book_here"] (defScope s_l_candidates) := ⟨rfl, rfl, rfl, by decide +kernel, rfl, by decide +kernel, by decide +kernel⟩
abbrev s_l_left : Stmt := top 48
abbrev n_l_left : List Str := ["_law_book_here", "_law_gone", "_law_stop", "_law_there", "_law_value"]
theorem sc_l_left : FnScope n_l_left ["_law_book_here", "_law_gone", "_law_stop"] (defScope s_l_left) := ⟨rfl, rfl, rfl, by decide +kernel, rfl, by decide +kernel, by decide +kernel⟩
abbrev s_l_first_lost : Stmt := top 46
abbrev n_l_first_lost : List Str := ["_law_book_here", "_law_gone", "_law_stop", "_law_values", "_law_lost_here", "_law_value"]
theorem sc_l_first_lost : FnScope n_l_first_lost ["_law_book_here", "_law_gone"] (defScope s_l_first_lost) := ⟨rfl, rfl, rfl, by decide +kernel, rfl, by decide +kernel, by decide +kernel⟩
abbrev k2 (n k : Int) : List Key := [Sum.inl n, Sum.inl k]
theorem k2_inj {n k m j : Int} (h : k2 n k = k2 m j) : n = m ∧ k = j := by
  unfold k2 at h
  simp only [List.cons.injEq, Sum.inl.injEq, and_true] at h
  exact h
def GoneD (kvs : List (List Key × V)) (g : Int → Int → Prop) : Prop := ∀ n k : Int, (valV kvs (k2 n k)).isSome = true ↔ g n k
theorem GoneD.put {kvs : List (List Key × V)} {g : Int → Int → Prop} (h : GoneD kvs g) (n k : Int) : GoneD (putK kvs (k2 n k) (.bl true)) fun m j => (m = n ∧ j = k) ∨ g m j := fun m j => by
  rw [valV_put]
  by_cases c : k2 m j = k2 n k
  · rw [if_pos c]
    exact ⟨fun _ => .inl (k2_inj c), fun _ => rfl⟩
  · rw [if_neg c, h m j]
    exact ⟨.inr, fun z => z.resolve_left fun e => c (by rw [e.1, e.2])⟩
theorem GoneD.imp {kvs : List (List Key × V)} {g g' : Int → Int → Prop} (h : GoneD kvs g) (e : ∀ n k, g n k ↔ g' n k) : GoneD kvs g' := fun n k => (h n k).trans (e n k)
def goneP (rs : Rs) (out : List Int) (kp : Kps) (m : Nat) (n k : Int) : Prop := ∃ j : Nat, k = j ∧ j < m ∧ n ∈ lostA rs out kp j
def GoneAt (H : Hp) (d : Addr) (rs : Rs) (out : List Int) (kp : Kps) : Prop := ∃ kvs, H d = some (.dT kvs) ∧ GoneD kvs (goneP rs out kp (stA rs).length)
theorem GoneAt.same {H H' : Hp} {d : Addr} {rs : Rs} {out : List Int} {kp : Kps} (h : GoneAt H d rs out kp) (s : Same H H') : GoneAt H' d rs out kp := let ⟨kvs, e, g⟩ := h; ⟨kvs, s _ _ e, g⟩
theorem kvI {n k : Int} : ([V.int n, V.int k] : List V) = (k2 n k).map kV := rfl
section
variable {P : Program} {w : World} {K : PySem.W.Frag} {mg : Str → Option Value} {base : Heap} {C CE CK CS : Addr} {f : Addr} {fd : FuncData}
def spLost : Sp := fun vs H Q _ => ∃ (b a : Addr) (rs : Rs) (out : List Int) (kp : List IP), vs = [.ref b, .ref a] ∧ BookAt H b rs out ∧ RsOk rs ∧ PsAt H a kp ∧ ∀ H' d, Same H H' → H d = none → GoneAt H' d rs out kp → Q (.ref d) H'
theorem ok_l_lost (T : Tx K mg C) (G_l_is_there : Fnc P w K mg base CX0 1 "_law_is_there" [] spTh) (G_l_is_live : Fnc P w K mg base CX0 2 "_law_is_live" [] spLL) (F : FD K "_law_lost" "_law_lost" s_l_lost [] f fd) : FnG P w K mg base CX0 3 f fd ["_law_book_here", "_law_kept"] spLost := by
  refine ok0 F sc_l_lost (fun vs H Q E h => ?_) (fun cdv A outer s H vs Q E hr h => ?_)
  · obtain ⟨b, a, rs, out, kp, rfl, _⟩ := h
    rfl
  · obtain ⟨b, a, rs, out, kp, rfl, hbk, ok, ha, q⟩ := h
    refine ⟨_, (pss_cons (ps_set (i := 2) sc_l_lost.nd rfl (by first | exact Or.inl rfl | exact Or.inr rfl) pe_dnewT)
      (pss_cons (ps_for PassesOwn.never rfl (pi_range1 (by rfl) T.n_range (pa_cons (pe_callB call_len_seq (by rfl) T.n_len (by decide +kernel) (pa_cons (pe_dget (un1 hr.r.units) (pv 0) pe_str (fun _ _ => rfl)) pa_nil)) pa_nil)) (pg_name (i := 3) sc_l_lost.nd rfl (by first | exact Or.inl rfl | exact Or.inr rfl)) (pss_one (ps_for PassesOwn.never rfl (pi_list (pe_lc (own := [("_law_value", 4)]) rfl sc_l_lost.nd (pi_list (pe_dget (un1 hr.r.units) (pv 0) pe_str (fun _ _ => rfl))) (blkOk_by (own := [("_law_value", 4)]) (N := n_l_lost) (sc := defScope s_l_lost) (by decide +kernel)) (fun _ _ _ _ _ => (pg_name (i := 4) sc_l_lost.nd rfl (by first | exact Or.inl rfl | exact Or.inr rfl))) (fun _ _ _ _ _ => (pts_one (pt_val (pe_fn G_l_is_there (hr.mono (by decide)) pass0 (pa_cons (pv 0) (pa_cons (pv 4) (pa_cons (pv 3) pa_nil))))))) (fun _ _ _ _ _ => (pv 4)))) (pg_name (i := 4) sc_l_lost.nd rfl (by first | exact Or.inl rfl | exact Or.inr rfl)) (pss_cons (ps_set (i := 5) sc_l_lost.nd rfl (by first | exact Or.inl rfl | exact Or.inr rfl) (pe_dget (un1 hr.r.units) (pe_dget (un1 hr.r.units) (pv 0) pe_str (fun _ _ => rfl)) (pv 4) (fun _ _ => rfl)))
      (pss_cons (ps_set (i := 6) sc_l_lost.nd rfl (by first | exact Or.inl rfl | exact Or.inr rfl) (pe_or (pe_cmpR op_isN (pv 5) pe_non (nomark _)) (pe_one (pe_cmpR (op_neD hr.r.units) (pe_lc (own := [("_law_part", 7)]) rfl sc_l_lost.nd (pi_tup (pv 5)) (blkOk_by (own := [("_law_part", 7)]) (N := n_l_lost) (sc := defScope s_l_lost) (by decide +kernel)) (fun _ _ _ _ _ => (pg_name (i := 7) sc_l_lost.nd rfl (by first | exact Or.inl rfl | exact Or.inr rfl))) (fun _ _ _ _ _ => (pts_one (pt_cmp (pc_din (un1 hr.r.units) (pe_tup (pa_cons (pv 7) (pa_cons (pv 3) pa_nil))) (pv 2)) rfl))) (fun _ _ _ _ _ => (pv 7))) (pe_lst pa_nil) (nomark _)))))
      (pss_cons (ps_if (PW.pt (pw_and (pt_val (pv 6)) (pw_and (pt_cmpR (op_notInP (un65 hr)) (pe_tup (pa_cons (pv 4) (pa_cons (pv 3) pa_nil))) (pv 1) (by rfl)) (pw_and1 (pt_not (pt_val (pe_fn G_l_is_live (hr.mono (by decide)) pass0 (pa_cons (pv 0) (pa_cons (pv 4) (pa_cons (pv 3) pa_nil)))))))))) (pss_one (ps_dput (un1 hr.r.units) (pv 2) (pe_tup (pa_cons (pv 4) (pa_cons (pv 3) pa_nil))) pe_bl rfl)) pss_nil)
      (pss_one (ps_if (pt_cmp (pc_din (un1 hr.r.units) (pe_tup (pa_cons (pv 4) (pa_cons (pe_op op_sub (pv 3) pe_int) pa_nil))) (pv 2)) rfl) (pss_one (ps_dput (un1 hr.r.units) (pv 2) (pe_tup (pa_cons (pv 4) (pa_cons (pv 3) pa_nil))) pe_bl rfl)) pss_nil))))))))
      (pss_one (ps_ret (pv 2))))), ?_⟩
    obtain ⟨A, okv, av, rfl, bz, opa, asa⟩ := id hbk
    have ll := ok.len
    have lst : (stA rs).length ≤ rs.length := stp_len rs rs.length
    have lt5 : ∀ {n : Nat}, n < 100000 → n < sizeLine := fun h => Nat.lt_of_lt_of_le h (small (Nat.le_refl _))
    have dg1 : ∀ {H'}, Same H H' → DGet H' A.b (.str "order") (some (.ref A.o)) := fun s => by
      have := DGet.k (k := Sum.inr "order") (bz.same s).hb
      rw [bk1] at this
      exact this
    have dg2 : ∀ {H'}, Same H H' → DGet H' A.b (.str "operands") (some (.ref A.op)) := fun s => by
      have := DGet.k (k := Sum.inr "operands") (bz.same s).hb
      rw [bk2] at this
      exact this
    have dg4 : ∀ {H'}, Same H H' → DGet H' A.b (.str "stops") (some (.ref A.st)) := fun s => by
      have := DGet.k (k := Sum.inr "stops") (bz.same s).hb
      rw [bk4] at this
      exact this
    refine fun d nd => ?_
    obtain ⟨G1, e, s1, hd⟩ := mkO nd (.dT [])
    rw [e]
    clear e
    refine nm_of ?_
    dsimp only
    refine ⟨_, rfl, A.b, _, rfl, dg4 s1, A.st, _, rfl, .inl (SqL.of (bz.same s1).hs), _, rfl, by omega, by rw [List.length_map]; omega, ?_⟩
    rw [List.length_map, Int.toNat_natCast]
    refine for_it (walk_range (lo := 0) (n := (stA rs).length)) (fun i σ H' => Same H H' ∧ (∃ kvs, H' d = some (.dT kvs) ∧ kvs.length ≤ 100 * i ∧ GoneD kvs (goneP rs out kp i)) ∧ ∃ u3 u4 u5 u6 u7, σ = [some (.ref A.b), some (.ref a), some (.ref d), u3, u4, u5, u6, u7])
      ⟨s1, ⟨[], hd, Nat.le_refl _, fun n k => ⟨(fun z => by cases z), fun z => by obtain ⟨j, _, hj, _⟩ := z; omega⟩⟩, _, _, _, _, _, rfl⟩ (fun _ _ _ _ _ => trivial) ?_ ?_
    · rintro i x σ H3 H2 hi ⟨s2, ⟨kvs, hd2, lk, gd⟩, u3, u4, u5, u6, u7, rfl⟩ ⟨rfl, rfl⟩
      refine nm_of ?_
      dsimp only
      rw [Int.zero_add]
      refine ⟨_, rfl, A.b, _, rfl, dg1 s2, A.o, rfl, ⟨_, SqL.of (bz.same s2).ho⟩, fun D nD => ?_⟩
      refine lc_acc (walk_list (K := K) (a := A.o) (xs := (vlA rs).map V.int)) nD (fun j => (((vlA rs).take j).filter (pres rs · i)).map V.int) rfl (fun j hj => ?_) (fun H' s' => SqL.of (bz.same (s2.trans s')).ho) ?_ ?_
      · rw [List.length_map]
        have := List.length_filter_le (pres rs · i) ((vlA rs).take j)
        rw [List.length_take] at this
        have : (vlA rs).length ≤ rs.length := vls_len rs rs.length
        omega
      · rintro j x H5 H4 hj s4 ⟨rfl, hx⟩ N S hN hS
        rw [List.getElem?_map] at hx
        obtain ⟨n, hn, rfl⟩ := Option.map_eq_some_iff.mp hx
        have tf := take_fil (pres rs · i) hn
        refine ⟨rfl, _, rfl, _, rfl, _, rfl, A.b, rs, out, n, i, rfl, hbk.same (s2.trans s4), List.mem_of_getElem? hn, hi, _, rfl, iteB (fun c => ⟨_, rfl, hN _ _ Same.rfl' ?_⟩) (fun c => hS _ Same.rfl' ?_)⟩
        · rw [tf, if_pos c, List.map_append]
          rfl
        · rw [tf, if_neg (by rw [c]; exact Bool.false_ne_true), List.append_nil]
      intro H4 s4 h4
      rw [List.length_map, List.take_length] at h4
      have h4 : H4 D = some (.lst ((prs rs i).map V.int)) := h4
      have s04 := s2.trans s4
      have Dd : D ≠ d := fun z => by rw [z, s4 _ _ hd2] at h4; cases h4
      have pl : (prs rs i).length ≤ rs.length := prs_len rs i
      refine ⟨D, rfl, ⟨_, SqL.of h4⟩, ?_⟩
      refine for_it (walk_list (K := K) (a := D) (xs := (prs rs i).map V.int)) (fun j σ H' => Same H H' ∧ H' D = some (.lst ((prs rs i).map V.int)) ∧ (∃ kvs, H' d = some (.dT kvs) ∧ kvs.length ≤ 100 * i + 2 * j ∧ GoneD kvs (fun n k => goneP rs out kp i n k ∨ (k = i ∧ n ∈ lostF rs out kp (prevL rs out kp i) i ((prs rs i).take j)))) ∧ ∃ u4 u5 u6 u7, σ = [some (.ref A.b), some (.ref a), some (.ref d), some (.int (i : Nat)), u4, u5, u6, u7])
        ⟨s04, h4, ⟨kvs, s4 _ _ hd2, by omega, gd.imp fun n k => ⟨.inl, fun z => z.resolve_right fun z => by cases z.2⟩⟩, _, _, _, _, rfl⟩ (fun j σ H' _ h => SqL.of h.2.1) ?_ ?_
      · rintro j x σ H6 H5 hj ⟨s5, hD5, ⟨kvs5, hd5, lk5, gd5⟩, v4, v5, v6, v7, rfl⟩ ⟨rfl, hx⟩
        rw [List.getElem?_map] at hx
        obtain ⟨n, hn, rfl⟩ := Option.map_eq_some_iff.mp hx
        have hm := List.mem_of_getElem? hn
        have hv := prs_mem hm
        have jl : j < (prs rs i).length := (List.getElem?_eq_some_iff.mp hn).1
        obtain ⟨L, eL⟩ : ∃ L, L = lostF rs out kp (prevL rs out kp i) i ((prs rs i).take j) := ⟨_, rfl⟩
        rw [← eL] at gd5
        obtain ⟨i', hi', ep, hv', _⟩ := plc_eq hv
        obtain ⟨u, eu, hu⟩ := opa i' hi' n hv'
        have erw := rwv_of ok hi' hv'
        have dg := DGet.k (k := Sum.inl n) (bz.same s5).hp
        rw [eu] at dg
        refine nm_of ?_
        dsimp only
        refine ⟨_, rfl, A.b, _, rfl, dg2 s5, _, rfl, A.op, _, rfl, dg, ?_⟩
        refine nm_of ?_
        dsimp only
        -- is it open
        refine ex_cut (fun x H' => x = .bl (opn rs L n) ∧ Same H5 H') (fun R hR => ?_) ?_
        · unfold opn at hR
          rw [erw] at hR
          cases er : rw rs i' with
          | leaf m =>
            rw [er] at hu hR
            cases (show u = .non from hu)
            exact ⟨_, rfl, rfl, _, rfl, iteY (by decide +kernel) (hR _ _ ⟨rfl, Same.rfl'⟩)⟩
          | set m os =>
            rw [er] at hu hR
            obtain ⟨o, rfl, ho⟩ := ((show OpT H u os from hu).same s5)
            have lo : os.length ≤ 3 := by
              have := (ok.z i' hi').opl
              rw [er] at this
              exact this
            refine ⟨_, rfl, rfl, _, rfl, iteN (by rw [decide_eq_false (fun z => nomatch z)]) ?_⟩
            refine ⟨_, rfl, o, rfl, ⟨_, SqT.of ho⟩, fun D2 nD2 => ?_⟩
            refine lc_acc (walk_tup (K := K) (a := o) (xs := os.map V.int)) nD2 (fun y => ((os.take y).filter fun z => decide (z ∈ L)).map V.int) rfl (fun y hy => ?_) (fun H' s' => SqT.of (s' _ _ ho)) ?_ ?_
            · rw [List.length_map]
              have := List.length_filter_le (fun z => decide (z ∈ L)) (os.take y)
              rw [List.length_take] at this
              omega
            · rintro y x H8 H7 hy s7 ⟨rfl, hx⟩ N S hN hS
              rw [List.getElem?_map] at hx
              obtain ⟨c, hc, rfl⟩ := Option.map_eq_some_iff.mp hx
              have tf := take_fil (fun z => decide (z ∈ L)) hc
              refine ⟨rfl, _, rfl, _, rfl, (by show 2 ≤ sizeLine; decide), fun t2 nt2 => ?_⟩
              obtain ⟨G8, e8, s8, ht2⟩ := mkO nt2 (.tup [.int c, .int (i : Nat)])
              rw [e8]
              have hd8 := s8 _ _ (s7 _ _ hd5)
              refine ⟨_, rfl, d, _, rfl, DGet.t (k := k2 c (i : Nat)) hd8 ht2, _, rfl, ?_⟩
              have iff : (valV kvs5 (k2 c (i : Nat))).isSome = true ↔ c ∈ L := by
                rw [gd5 c (i : Nat)]
                constructor
                · rintro (⟨j', e, hj', _⟩ | ⟨_, h⟩)
                  · omega
                  · exact h
                · exact fun h => .inr ⟨rfl, h⟩
              refine iteB (fun c2 => ⟨_, rfl, hN _ _ s8 ?_⟩) (fun c2 => hS _ s8 ?_)
              · rw [tf, if_pos (decide_eq_true (iff.mp c2)), List.map_append]
                rfl
              · have nc : c ∉ L := fun z => by rw [iff.mpr z] at c2; cases c2
                rw [tf, if_neg (by rw [decide_eq_false nc]; exact Bool.false_ne_true), List.append_nil]
            intro H7 s7 h7
            rw [List.length_map, List.take_length] at h7
            refine ⟨(by show 0 ≤ sizeLine; decide), fun l0 nl0 => ?_⟩
            obtain ⟨G8, e8, s8, hl0⟩ := mkO nl0 (.lst [])
            rw [e8]
            refine ne_pd (dp_ints (s8 _ _ h7)) (dp_ints (l := []) hl0) (pn_ints _) (pn_ints _) fun b1 hb1 => hR _ _ ⟨?_, s7.trans s8⟩
            congr 1
            have : b1 = !(os.any fun z => decide (z ∈ L)) := by
              rw [Bool.eq_iff_iff, hb1, Bool.not_eq_true', List.any_eq_false]
              constructor
              · intro e z hz hl
                have e := int_inj (PyData.list.inj e)
                have : z ∈ os.filter fun z => decide (z ∈ L) := List.mem_filter.mpr ⟨hz, hl⟩
                rw [e] at this
                cases this
              · intro h
                rw [List.filter_eq_nil_iff.mpr fun z hz => h z hz]
            rw [this, Bool.not_not]
          | use os => rw [er] at hv'; cases hv'
          | stop l os => rw [er] at hv'; cases hv'
        rintro x H7 ⟨rfl, s7⟩
        refine nm_of ?_
        dsimp only
        have s07 := s5.trans s7
        have hd7 := s7 _ _ hd5
        have hD7 := s7 _ _ hD5
        obtain ⟨c1, ec1⟩ : ∃ c1, c1 = (opn rs L n && !decide ((n, (i : Int)) ∈ kp) && !live rs out n i) := ⟨_, rfl⟩
        refine seq_cut (fun σ' H' => (∃ v7', σ' = [some (.ref A.b), some (.ref a), some (.ref d), some (.int (i : Nat)), some (.int n), some u, some (.bl (opn rs L n)), v7']) ∧ Same H H' ∧ H' D = some (.lst ((prs rs i).map V.int)) ∧ ∃ kvs', H' d = some (.dT kvs') ∧ kvs'.length ≤ 100 * i + 2 * j + 1 ∧ GoneD kvs' (fun m k => (c1 = true ∧ m = n ∧ k = i) ∨ goneP rs out kp i m k ∨ (k = i ∧ m ∈ L))) (fun N hN => ?_) ?_
        · have stay : ∀ H', Same H7 H' → c1 = false → N [some (.ref A.b), some (.ref a), some (.ref d), some (.int (i : Nat)), some (.int n), some u, some (.bl (opn rs L n)), v7] H' := fun H' s' e => hN _ _ ⟨⟨_, rfl⟩, s07.trans s', s' _ _ hD7, kvs5, s' _ _ hd7, by omega, gd5.imp fun m k => ⟨.inr, fun z => z.resolve_left fun z => by rw [e] at z; cases z.1⟩⟩
          refine ⟨_, rfl, _, rfl, iteB (fun e1 => ?_) (fun e1 => ?_)⟩
          · refine ⟨_, rfl, _, rfl, (by show 2 ≤ sizeLine; decide), fun t2 nt2 => ?_⟩
            obtain ⟨G8, e8, s8, ht2⟩ := mkO nt2 (.tup [.int n, .int (i : Nat)])
            rw [e8]
            refine ⟨_, rfl, (n, (i : Int)), a, kp, ⟨t2, rfl, ht2⟩, rfl, (ha.same s07).same s8, _, rfl, ?_⟩
            show if (!decide ((n, (i : Int)) ∈ kp)) = true then _ else _
            refine iteB (fun e2 => ?_) (fun e2 => ?_)
            · refine ⟨_, rfl, _, rfl, _, rfl, A.b, rs, out, n, i, rfl, hbk.same (s07.trans s8), hv, hi, _, rfl, iteB (fun e3 => ?_) (fun e3 => ?_)⟩
              · refine ⟨_, rfl, _, rfl, _, rfl, (by show 2 ≤ sizeLine; decide), fun t3 nt3 => ?_⟩
                obtain ⟨G9, e9, s9, ht3⟩ := mkO nt3 (.tup [.int n, .int (i : Nat)])
                rw [e9]
                have s79 := s8.trans s9
                refine ⟨d, _, rfl, DPut.t (k := k2 n (i : Nat)) (s79 _ _ hd7) ht3 (lt5 (by omega)), ?_⟩
                refine hN _ _ ⟨⟨_, rfl⟩, own_same (s07.trans s79) nd, by rw [upd_ne Dd]; exact s79 _ _ hD7, _, upd_same, Nat.le_trans (putK_len _ _ _) (by omega), (gd5.put n (i : Nat)).imp fun m k => ?_⟩
                have ec : c1 = true := by rw [ec1, e1, e2, e3]; rfl
                rw [ec]
                exact ⟨fun z => z.imp (fun z => ⟨rfl, z⟩) id, fun z => z.imp (fun z => z.2) id⟩
              · exact stay _ s8 (by rw [ec1, e1, e2, e3]; rfl)
            · exact stay _ s8 (by rw [ec1, e1, e2]; rfl)
          · exact stay _ Same.rfl' (by rw [ec1, e1]; rfl)
        rintro σ8 H8 ⟨⟨v7', rfl⟩, s8, hD8, kvs8, hd8, lk8, gd8⟩
        refine ⟨_, rfl, _, rfl, _, _, rfl, rfl, (by show 2 ≤ sizeLine; decide), fun t2 nt2 => ?_⟩
        obtain ⟨G9, e9, s9, ht2⟩ := mkO nt2 (.tup [.int n, .int ((i : Int) - 1)])
        rw [e9]
        have s09 := s8.trans s9
        refine ⟨_, rfl, d, _, rfl, DGet.t (k := k2 n ((i : Int) - 1)) (s9 _ _ hd8) ht2, _, rfl, ?_⟩
        have iff : (valV kvs8 (k2 n ((i : Int) - 1))).isSome = true ↔ n ∈ prevL rs out kp i := by
          rw [gd8 n ((i : Int) - 1)]
          constructor
          · rintro (⟨_, _, e⟩ | ⟨j', e, hj', h⟩ | ⟨e, _⟩)
            · omega
            · obtain ⟨i2, rfl⟩ : ∃ i2, i = i2 + 1 := ⟨i - 1, by omega⟩
              have : j' = i2 := by omega
              subst this
              exact h
            · omega
          · intro h
            cases i with
            | zero => cases h
            | succ i2 => exact .inr (.inl ⟨i2, by omega, by omega, h⟩)
        have isl : isLost rs out kp (prevL rs out kp i) i L n = (c1 || decide (n ∈ prevL rs out kp i)) := by rw [ec1]; rfl
        have tk : (prs rs i).take (j + 1) = (prs rs i).take j ++ [n] := by rw [List.take_add_one, hn, Option.toList_some]
        have mem : ∀ m : Int, m ∈ lostF rs out kp (prevL rs out kp i) i ((prs rs i).take (j + 1)) ↔ ((c1 = true ∨ n ∈ prevL rs out kp i) ∧ m = n) ∨ m ∈ L := fun m => by
          rw [tk, lostF_snoc, ← eL, isl]
          by_cases c : (c1 || decide (n ∈ prevL rs out kp i)) = true
          · rw [if_pos c, List.mem_append, List.mem_singleton]
            rw [Bool.or_eq_true, decide_eq_true_iff] at c
            exact ⟨fun z => z.elim .inr fun z => .inl ⟨c, z⟩, fun z => z.elim (fun z => .inr z.2) .inl⟩
          · rw [if_neg c]
            rw [Bool.or_eq_true, decide_eq_true_iff] at c
            exact ⟨.inr, fun z => z.resolve_left fun z => c z.1⟩
        refine iteB (fun c2 => ?_) (fun c2 => ?_)
        · refine ⟨_, rfl, _, rfl, _, rfl, (by show 2 ≤ sizeLine; decide), fun t3 nt3 => ?_⟩
          obtain ⟨G10, e10, s10, ht3⟩ := mkO nt3 (.tup [.int n, .int (i : Nat)])
          rw [e10]
          have s810 := s9.trans s10
          refine ⟨d, _, rfl, DPut.t (k := k2 n (i : Nat)) (s810 _ _ hd8) ht3 (lt5 (by omega)), own_same (s8.trans s810) nd, by rw [upd_ne Dd]; exact s810 _ _ hD8, ⟨_, upd_same, Nat.le_trans (putK_len _ _ _) (by omega), (gd8.put n (i : Nat)).imp fun m k => ?_⟩, _, _, _, _, rfl⟩
          have pv := iff.mp c2
          rw [mem m]
          constructor
          · rintro (⟨e1, e2⟩ | ⟨_, e1, e2⟩ | z | ⟨e2, z⟩)
            · exact .inr ⟨e2, .inl ⟨.inr pv, e1⟩⟩
            · exact .inr ⟨e2, .inl ⟨.inr pv, e1⟩⟩
            · exact .inl z
            · exact .inr ⟨e2, .inr z⟩
          · rintro (z | ⟨e2, ⟨_, e1⟩ | z⟩)
            · exact .inr (.inr (.inl z))
            · exact .inl ⟨e1, e2⟩
            · exact .inr (.inr (.inr ⟨e2, z⟩))
        · have npv : n ∉ prevL rs out kp i := fun z => by rw [iff.mpr z] at c2; cases c2
          refine ⟨s09, s9 _ _ hD8, ⟨kvs8, s9 _ _ hd8, by omega, gd8.imp fun m k => ?_⟩, _, _, _, _, rfl⟩
          rw [mem m]
          constructor
          · rintro (⟨e0, e1, e2⟩ | z | ⟨e2, z⟩)
            · exact .inr ⟨e2, .inl ⟨.inl e0, e1⟩⟩
            · exact .inl z
            · exact .inr ⟨e2, .inr z⟩
          · rintro (z | ⟨e2, ⟨e0 | e0, e1⟩ | z⟩)
            · exact .inr (.inl z)
            · exact .inl ⟨e0, e1, e2⟩
            · exact absurd e0 npv
            · exact .inr (.inr ⟨e2, z⟩)
      · rintro σ H5 ⟨s5, hD5, ⟨kvs5, hd5, lk5, gd5⟩, v4, v5, v6, v7, rfl⟩
        rw [List.length_map, List.take_length, ← lostA_eq] at gd5
        rw [List.length_map] at lk5
        refine ⟨s5, ⟨kvs5, hd5, by omega, gd5.imp fun n k => ?_⟩, _, _, _, _, _, rfl⟩
        constructor
        · rintro (⟨j, e, hj, h⟩ | ⟨e, h⟩)
          · exact ⟨j, e, by omega, h⟩
          · exact ⟨i, e, by omega, h⟩
        · rintro ⟨j, e, hj, h⟩
          by_cases c : j = i
          · subst c
            exact .inr ⟨e, h⟩
          · exact .inl ⟨j, e, by omega, h⟩
    · rintro σ H2 ⟨s2, ⟨kvs, hd2, lk, gd⟩, u3, u4, u5, u6, u7, rfl⟩
      exact ⟨_, rfl, q _ d s2 nd ⟨kvs, hd2, gd⟩⟩
/-! ### what is left, the first that is lost -/
theorem gone_iff {kvs : List (List Key × V)} {rs : Rs} {out : List Int} {kp : Kps} (g : GoneD kvs (goneP rs out kp (stA rs).length)) {k : Nat} (hk : k < (stA rs).length) (n : Int) : (valV kvs (k2 n (k : Nat))).isSome = decide (n ∈ lostA rs out kp k) := by
  rw [Bool.eq_iff_iff, g n (k : Nat), decide_eq_true_iff]
  constructor
  · rintro ⟨j, e, _, h⟩
    have : k = j := by omega
    rw [this]
    exact h
  · exact fun h => ⟨k, rfl, hk, h⟩
def spLeft : Sp := fun vs H Q _ => ∃ (b d : Addr) (rs : Rs) (out : List Int) (kp : Kps) (k : Nat), vs = [.ref b, .ref d, .int (k : Nat)] ∧ BookAt H b rs out ∧ RsOk rs ∧ GoneAt H d rs out kp ∧ k < (stA rs).length ∧
  ∀ H' r (ns : List Int), Same H H' → H r = none → H' r = some (.lst (ns.map V.int)) → ns.Perm (knA rs out kp k) → ns.Pairwise (· ≤ ·) → Q (.ref r) H'
theorem ok_l_left (T : Tx K mg C) (G_l_is_there : Fnc P w K mg base CX0 1 "_law_is_there" [] spTh) (F : FD K "_law_left" "_law_left" s_l_left [] f fd) : FnG P w K mg base CX0 2 f fd ["_law_book_here", "_law_gone", "_law_stop"] spLeft := by
  refine ok0 F sc_l_left (fun vs H Q E h => ?_) (fun cdv A outer s H vs Q E hr h => ?_)
  · obtain ⟨b, d, rs, out, kp, k, rfl, _⟩ := h
    rfl
  · obtain ⟨b, d, rs, out, kp, k, rfl, hbk, ok, ⟨kvs, hd, gd⟩, hk, q⟩ := h
    refine ⟨_, (pss_cons (ps_setLc (i := 3) (own := [("_law_value", 4)]) rfl sc_l_left.nd rfl rfl (sw_true rfl rfl rfl (by decide +kernel)) (pi_list (pe_dget (un1 hr.r.units) (pv 0) pe_str (fun _ _ => rfl))) (blkOk_by (own := [("_law_value", 4)]) (N := n_l_left) (sc := defScope s_l_left) (by decide +kernel)) (fun _ _ _ _ _ => (pg_name (i := 4) sc_l_left.nd rfl (by first | exact Or.inl rfl | exact Or.inr rfl))) (fun _ _ _ _ _ => (pts_one (pt_val (pe_fn G_l_is_there (hr.mono (by decide)) pass0 (pa_cons (pv 0) (pa_cons (pv 4) (pa_cons (pv 2) pa_nil))))))) (fun _ _ _ _ _ => (pv 4)))
      (pss_one (ps_ret (pe_callB cr_sorted (by rfl) T.n_sorted (by decide +kernel) (pa_cons (pe_lc (own := [("_law_value", 4)]) rfl sc_l_left.nd (pi_list (pv 3)) (blkOk_by (own := [("_law_value", 4)]) (N := n_l_left) (sc := defScope s_l_left) (by decide +kernel)) (fun _ _ _ _ _ => (pg_name (i := 4) sc_l_left.nd rfl (by first | exact Or.inl rfl | exact Or.inr rfl))) (fun _ _ _ _ _ => (pts_one (pt_cmp (pc_dnotin (un1 hr.r.units) (pe_tup (pa_cons (pv 4) (pa_cons (pv 2) pa_nil))) (pv 1)) rfl))) (fun _ _ _ _ _ => (pv 4))) pa_nil))))), ?_⟩
    obtain ⟨A, okv, av, rfl, bz, opa, asa⟩ := id hbk
    have ll := ok.len
    have pl := prs_len rs k
    have vl : (vlA rs).length ≤ rs.length := vls_len rs rs.length
    have dg1 : ∀ {H'}, Same H H' → DGet H' A.b (.str "order") (some (.ref A.o)) := fun s => by
      have := DGet.k (k := Sum.inr "order") (bz.same s).hb
      rw [bk1] at this
      exact this
    refine ⟨_, rfl, A.b, _, rfl, dg1 Same.rfl', A.o, rfl, ⟨_, SqL.of bz.ho⟩, fun D nD => ?_⟩
    refine lc_acc (walk_list (K := K) (a := A.o) (xs := (vlA rs).map V.int)) nD (fun j => (((vlA rs).take j).filter (pres rs · k)).map V.int) rfl (fun j hj => ?_) (fun H' s' => SqL.of (bz.same s').ho) ?_ ?_
    · rw [List.length_map]
      have := List.length_filter_le (pres rs · k) ((vlA rs).take j)
      rw [List.length_take] at this
      omega
    · rintro j x H5 H4 hj s4 ⟨rfl, hx⟩ N S hN hS
      rw [List.getElem?_map] at hx
      obtain ⟨n, hn, rfl⟩ := Option.map_eq_some_iff.mp hx
      have tf := take_fil (pres rs · k) hn
      refine ⟨rfl, _, rfl, _, rfl, _, rfl, A.b, rs, out, n, k, rfl, hbk.same s4, List.mem_of_getElem? hn, hk, _, rfl, iteB (fun c => ⟨_, rfl, hN _ _ Same.rfl' ?_⟩) (fun c => hS _ Same.rfl' ?_)⟩
      · rw [tf, if_pos c, List.map_append]
        rfl
      · rw [tf, if_neg (by rw [c]; exact Bool.false_ne_true), List.append_nil]
    intro H4 s4 h4
    rw [List.length_map, List.take_length] at h4
    have h4 : H4 D = some (.lst ((prs rs k).map V.int)) := h4
    refine nm_of ?_
    dsimp only
    refine ⟨_, rfl, D, rfl, ⟨_, SqL.of h4⟩, fun D2 nD2 => ?_⟩
    refine lc_acc (walk_list (K := K) (a := D) (xs := (prs rs k).map V.int)) nD2 (fun j => (((prs rs k).take j).filter fun n => !decide (n ∈ lostA rs out kp k)).map V.int) rfl (fun j hj => ?_) (fun H' s' => SqL.of (s' _ _ h4)) ?_ ?_
    · rw [List.length_map]
      have := List.length_filter_le (fun n => !decide (n ∈ lostA rs out kp k)) ((prs rs k).take j)
      rw [List.length_take] at this
      omega
    · rintro j x H6 H5 hj s5 ⟨rfl, hx⟩ N S hN hS
      rw [List.getElem?_map] at hx
      obtain ⟨n, hn, rfl⟩ := Option.map_eq_some_iff.mp hx
      have tf := take_fil (fun n => !decide (n ∈ lostA rs out kp k)) hn
      refine ⟨rfl, _, rfl, _, rfl, (by show 2 ≤ sizeLine; decide), fun t2 nt2 => ?_⟩
      obtain ⟨G6, e6, s6, ht2⟩ := mkO nt2 (.tup [.int n, .int (k : Nat)])
      rw [e6]
      refine ⟨_, rfl, d, _, rfl, DGet.t (k := k2 n (k : Nat)) (((s4.trans s5).trans s6) _ _ hd) ht2, _, rfl, ?_⟩
      rw [gone_iff gd hk n]
      refine iteB (fun c => ⟨_, rfl, hN _ _ s6 ?_⟩) (fun c => hS _ s6 ?_)
      · rw [tf, if_pos c, List.map_append]
        rfl
      · rw [tf, if_neg (by rw [c]; exact Bool.false_ne_true), List.append_nil]
    intro H5 s5 h5
    rw [List.length_map, List.take_length, ← kn_is ok] at h5
    have s05 := s4.trans s5
    refine ⟨D2, _, rfl, SqL.of h5, by have := knA_len rs out kp k; omega, fun ns r pm pw nr => ?_⟩
    exact q _ r ns (s05.trans (same_upd nr)) (s05.free nr) upd_same pm pw
def spFl : Sp := fun vs H Q _ => ∃ (b d : Addr) (rs : Rs) (out : List Int) (kp : Kps), vs = [.ref b, .ref d] ∧ BookAt H b rs out ∧ RsOk rs ∧ GoneAt H d rs out kp ∧
  (∀ H' t (k : Nat) v, Same H H' → H' t = some (.tup [.int (k : Nat), .int v]) → FM rs out kp k v → Q (.ref t) H') ∧ ∀ H', Same H H' → (∀ j, j < (stA rs).length → ∀ x ∈ ask rs j, x ∉ lostA rs out kp j) → Q .non H'
theorem ok_l_first_lost (T : Tx K mg C) (F : FD K "_law_first_lost" "_law_first_lost" s_l_first_lost [] f fd) : FnG P w K mg base CX0 1 f fd ["_law_book_here", "_law_gone"] spFl := by
  refine ok0 F sc_l_first_lost (fun vs H Q E h => ?_) (fun cdv A outer s H vs Q E hr h => ?_)
  · obtain ⟨b, d, rs, out, kp, rfl, _⟩ := h
    rfl
  · obtain ⟨b, d, rs, out, kp, rfl, hbk, ok, ⟨kvs, hd, gd⟩, q1, q2⟩ := h
    refine ⟨_, (pss_cons (ps_for PassesOwn.never rfl (pi_enumA (by rfl) T.n_enumerate (pa_cons (pe_dget (un1 hr.r.units) (pv 0) pe_str (fun _ _ => rfl)) pa_nil)) (pg_tup rfl (pgs_cons (pg_name (i := 2) sc_l_first_lost.nd rfl (by first | exact Or.inl rfl | exact Or.inr rfl)) (pgs_cons (pg_name (i := 3) sc_l_first_lost.nd rfl (by first | exact Or.inl rfl | exact Or.inr rfl)) pgs_nil))) (pss_cons (ps_set (i := 4) sc_l_first_lost.nd rfl (by first | exact Or.inl rfl | exact Or.inr rfl) (pe_callB cr_sorted (by rfl) T.n_sorted (by decide +kernel) (pa_cons (pe_lc (own := [("_law_value", 5)]) rfl sc_l_first_lost.nd (pi_tup (pv 3)) (blkOk_by (own := [("_law_value", 5)]) (N := n_l_first_lost) (sc := defScope s_l_first_lost) (by decide +kernel)) (fun _ _ _ _ _ => (pg_name (i := 5) sc_l_first_lost.nd rfl (by first | exact Or.inl rfl | exact Or.inr rfl))) (fun _ _ _ _ _ => (pts_one (pt_cmp (pc_din (un1 hr.r.units) (pe_tup (pa_cons (pv 5) (pa_cons (pv 2) pa_nil))) (pv 1)) rfl))) (fun _ _ _ _ _ => (pv 5))) pa_nil)))
      (pss_one (ps_if (pt_cmpR (op_neD hr.r.units) (pv 4) (pe_lst pa_nil) (nomark _)) (pss_one (ps_ret (pe_tup (pa_cons (pv 2) (pa_cons (pe_ix ix_list (pv 4) pe_int (fun _ _ => rfl)) pa_nil))))) pss_nil))))
      (pss_one (ps_ret pe_non))), ?_⟩
    obtain ⟨A, okv, av, rfl, bz, opa, asa⟩ := id hbk
    have dg5 : ∀ {H'}, Same H H' → DGet H' A.b (.str "asked") (some (.ref A.as_)) := fun s => by
      have := DGet.k (k := Sum.inr "asked") (bz.same s).hb
      rw [bk5] at this
      exact this
    refine ⟨_, rfl, A.b, _, rfl, dg5 Same.rfl', true, A.as_, _, rfl, SqL.of bz.hk, ?_⟩
    refine for_it (walk_enumK (K := K) (k := true) (a := A.as_) (xs := av)) (fun i σ H' => Same H H' ∧ (∀ j, j < i → ∀ x ∈ ask rs j, x ∉ lostA rs out kp j) ∧ ∃ u1 u2 u3 u4, σ = [some (.ref A.b), some (.ref d), u1, u2, u3, u4]) ⟨Same.rfl', fun j hj => absurd hj (Nat.not_lt_zero _), _, _, _, _, rfl⟩ (fun i σ H' _ h => SqL.of ((bz.same h.1).hk)) ?_ ?_
    · rintro i x σ H2 H3 hi ⟨s2, be, u1, u2, u3, u4, rfl⟩ ⟨t, y, zz, rfl, nt, rfl, hy, hz⟩
      cases hy
      obtain ⟨G3, e3, s3, ht3⟩ := mkO nt (.tup [.int (i : Nat), zz])
      rw [e3]
      have s03 := s2.trans s3
      have il : i < (stA rs).length := by rw [← asa.1]; exact hi
      obtain ⟨o, rfl, ho⟩ := (asa.2 i zz (spt rs i) hz (spt_at il)).same s03
      have lo : (ask rs i).length ≤ 3 := (ok.z _ (spt_stop il).1).opl
      refine ⟨t, _, rfl, SqT.of ht3, rfl, _, _, rfl, _, _, rfl, rfl, ?_⟩
      refine ⟨_, rfl, o, rfl, ⟨_, SqT.of ho⟩, fun D nD => ?_⟩
      refine lc_acc (walk_tup (K := K) (a := o) (xs := (ask rs i).map V.int)) nD (fun j => (((ask rs i).take j).filter fun n => decide (n ∈ lostA rs out kp i)).map V.int) rfl (fun j hj => ?_) (fun H' s' => SqT.of (s' _ _ ho)) ?_ ?_
      · rw [List.length_map]
        have := List.length_filter_le (fun n => decide (n ∈ lostA rs out kp i)) ((ask rs i).take j)
        rw [List.length_take] at this
        omega
      · rintro j x H5 H4 hj s4 ⟨rfl, hx⟩ N S hN hS
        rw [List.getElem?_map] at hx
        obtain ⟨n, hn, rfl⟩ := Option.map_eq_some_iff.mp hx
        have tf := take_fil (fun n => decide (n ∈ lostA rs out kp i)) hn
        refine ⟨rfl, _, rfl, _, rfl, (by show 2 ≤ sizeLine; decide), fun t2 nt2 => ?_⟩
        obtain ⟨G6, e6, s6, ht2⟩ := mkO nt2 (.tup [.int n, .int (i : Nat)])
        rw [e6]
        refine ⟨_, rfl, d, _, rfl, DGet.t (k := k2 n (i : Nat)) (((s03.trans s4).trans s6) _ _ hd) ht2, _, rfl, ?_⟩
        rw [gone_iff gd il n]
        refine iteB (fun c => ⟨_, rfl, hN _ _ s6 ?_⟩) (fun c => hS _ s6 ?_)
        · rw [tf, if_pos c, List.map_append]
          rfl
        · rw [tf, if_neg (by rw [c]; exact Bool.false_ne_true), List.append_nil]
      intro H4 s4 h4
      rw [List.length_map, List.take_length] at h4
      obtain ⟨F, eF⟩ : ∃ F, F = (ask rs i).filter fun n => decide (n ∈ lostA rs out kp i) := ⟨_, rfl⟩
      rw [← eF] at h4
      have lF : F.length ≤ 3 := by rw [eF]; exact Nat.le_trans (List.length_filter_le _ _) lo
      have mF : ∀ x, x ∈ F ↔ x ∈ ask rs i ∧ x ∈ lostA rs out kp i := fun x => by rw [eF, List.mem_filter, decide_eq_true_iff]
      refine ⟨D, _, rfl, SqL.of h4, by omega, fun ns r pm pw nr => ?_⟩
      obtain ⟨G5, e5, s5, hr5⟩ := mkO nr (.lst (ns.map V.int))
      rw [e5]
      have s05 := (s03.trans s4).trans s5
      refine nm_of ?_
      dsimp only
      refine ⟨_, rfl, (by show 0 ≤ sizeLine; decide), fun l0 nl0 => ?_⟩
      obtain ⟨G6, e6, s6, hl0⟩ := mkO nl0 (.lst [])
      rw [e6]
      have s06 := s05.trans s6
      refine ne_pd (dp_ints (s6 _ _ hr5)) (dp_ints (l := []) hl0) (pn_ints _) (pn_ints _) fun b1 hb1 => ⟨_, rfl, iteB (fun c => ?_) (fun c => ?_)⟩
      · have nn : ns ≠ [] := fun z => by
          rw [z] at hb1
          rw [hb1.mpr rfl] at c
          cases c
        cases ns with
        | nil => exact absurd rfl nn
        | cons m ns =>
          refine ⟨_, rfl, _, rfl, r, _, _, _, rfl, rfl, SqL.of (s6 _ _ hr5), atI_nat (j := 0) rfl, (by show 2 ≤ sizeLine; decide), fun tt ntt => ?_⟩
          have mm := (mF m).mp (pm.mem_iff.mp (List.mem_cons_self ..))
          refine q1 _ tt i m (s06.trans (same_upd ntt)) upd_same ⟨il, mm.1, mm.2, be, fun x hx hxl => ?_⟩
          rcases List.mem_cons.mp (pm.mem_iff.mpr ((mF x).mpr ⟨hx, hxl⟩)) with rfl | h
          · exact Int.le_refl _
          · exact (List.pairwise_cons.mp pw).1 x h
      · have e1 : ns = [] := by
          have : b1 = true := by cases b1 <;> simp_all
          exact int_inj (PyData.list.inj (hb1.mp this))
        refine ⟨s06, fun j hj x hx hxl => ?_, _, _, _, _, rfl⟩
        by_cases cj : j = i
        · subst cj
          have := pm.mem_iff.mpr ((mF x).mpr ⟨hx, hxl⟩)
          rw [e1] at this
          cases this
        · exact be j (by omega) x hx hxl
    · rintro σ H2 ⟨s2, be, u1, u2, u3, u4, rfl⟩
      rw [asa.1] at be
      exact q2 _ s2 be
end
end K62

set_option Elab.async false
set_option linter.all false
set_option maxRecDepth 100000
set_option maxHeartbeats 2000000
/-! L62f: candidates; what is told or refused. -/
namespace K62
open PySem PySem.Spec PyProof.Rows L2 LL ST
abbrev s_l_known : Stmt := top 44
abbrev n_l_known : List Str := ["_law_stretch", "_law_pairs", "_law_stop", "e"]
theorem sc_l_known : FnScope n_l_known ["_law_stretch", "_law_pairs", "_law_stop"] (defScope s_l_known) := ⟨rfl, rfl, rfl, by decide +kernel, rfl, by decide +kernel, by decide +kernel⟩
abbrev s_l_missing : Stmt := top 45
abbrev n_l_missing : List Str := ["_law_stretch", "_law_pairs", "e"]
theorem sc_l_missing : FnScope n_l_missing ["_law_stretch", "_law_pairs"] (defScope s_l_missing) := ⟨rfl, rfl, rfl, by decide +kernel, rfl, by decide +kernel, by decide +kernel⟩
section
variable {P : Program} {w : World} {K : PySem.W.Frag} {mg : Str → Option Value} {base : Heap} {C CE CK CS : Addr} {f : Addr} {fd : FuncData}
theorem prs_snoc {H : Hp} {vs : List V} {ps : List IP} {v : V} {q : IP} (h : Prs H vs ps) (hv : PrV H v q) : Prs H (vs ++ [v]) (ps ++ [q]) := by
  refine ⟨by rw [List.length_append, List.length_append, h.len]; rfl, fun i u p e1 e2 => ?_⟩
  by_cases c : i < vs.length
  · rw [List.getElem?_append_left c] at e1
    rw [List.getElem?_append_left (by rw [← h.len]; exact c)] at e2
    exact h.at_ i u p e1 e2
  · have hi := (List.getElem?_eq_some_iff.mp e1).1
    rw [List.length_append, List.length_singleton] at hi
    have ei : i = vs.length := by omega
    subst ei
    rw [List.getElem?_append_right (Nat.le_refl _), Nat.sub_self] at e1
    rw [h.len, List.getElem?_append_right (Nat.le_refl _), Nat.sub_self] at e2
    cases e1
    cases e2
    exact hv
theorem prs_kt {H H' : Hp} {vs : List V} {ps : List IP} (h : Prs H vs ps) (s : KT H H') : Prs H' vs ps := ⟨h.len, fun i v p e1 e2 => let ⟨t, e, x⟩ := h.at_ i v p e1 e2; ⟨t, e, s _ _ x⟩⟩
def spCand : Sp := fun vs H Q _ => ∃ (b : Addr) (rs : Rs) (out : List Int), vs = [.ref b] ∧ BookAt H b rs out ∧ RsOk rs ∧ ∀ H' r vs' ps, Same H H' → H r = none → H' r = some (.lst vs') → Prs H' vs' ps → Good rs out ps → ps.length ≤ 900 → Q (.ref r) H'
theorem ok_l_candidates (T : Tx K mg C) (G_l_is_there : Fnc P w K mg base CX0 1 "_law_is_there" [] spTh) (G_l_is_live : Fnc P w K mg base CX0 2 "_law_is_live" [] spLL) (F : FD K "_law_candidates" "_law_candidates" s_l_candidates [] f fd) : FnG P w K mg base CX0 3 f fd ["_law_book_here"] spCand := by
  refine ok0 F sc_l_candidates (fun vs H Q E h => ?_) (fun cdv A outer s H vs Q E hr h => ?_)
  · obtain ⟨b, rs, out, rfl, _⟩ := h
    rfl
  · obtain ⟨b, rs, out, rfl, hbk, ok, q⟩ := h
    refine ⟨_, (pss_cons (ps_set (i := 1) sc_l_candidates.nd rfl (by first | exact Or.inl rfl | exact Or.inr rfl) (pe_lst pa_nil))
      (pss_cons (ps_for PassesOwn.never rfl (pi_list (pe_dget (un1 hr.r.units) (pv 0) pe_str (fun _ _ => rfl))) (pg_name (i := 2) sc_l_candidates.nd rfl (by first | exact Or.inl rfl | exact Or.inr rfl)) (pss_one (ps_for PassesOwn.never rfl (pi_range1 (by rfl) T.n_range (pa_cons (pe_callB call_len_seq (by rfl) T.n_len (by decide +kernel) (pa_cons (pe_dget (un1 hr.r.units) (pv 0) pe_str (fun _ _ => rfl)) pa_nil)) pa_nil)) (pg_name (i := 3) sc_l_candidates.nd rfl (by first | exact Or.inl rfl | exact Or.inr rfl)) (pss_one (ps_if (PW.pt (pw_and (pt_val (pe_fn G_l_is_there (hr.mono (by decide)) pass0 (pa_cons (pv 0) (pa_cons (pv 2) (pa_cons (pv 3) pa_nil))))) (pw_and1 (pt_not (pt_val (pe_fn G_l_is_live (hr.mono (by decide)) pass0 (pa_cons (pv 0) (pa_cons (pv 2) (pa_cons (pv 3) pa_nil))))))))) (pss_one (ps_expr (pe_bm PySem.F.plainAttrs_list PySem.F.slot_list_append PySem.F.type_list_append mt_append (pv 1) (pa_cons (pe_tup (pa_cons (pv 2) (pa_cons (pv 3) pa_nil))) pa_nil)))) pss_nil)))))
      (pss_one (ps_ret (pv 1))))), ?_⟩
    obtain ⟨A, okv, av, rfl, bz, opa, asa⟩ := id hbk
    have ll := ok.len
    have lst : (stA rs).length ≤ rs.length := stp_len rs rs.length
    have vl : (vlA rs).length ≤ rs.length := vls_len rs rs.length
    have lt5 : ∀ {n : Nat}, n < 100000 → n < sizeLine := fun h => Nat.lt_of_lt_of_le h (small (Nat.le_refl _))
    have dg1 : ∀ {H'}, Same H H' → DGet H' A.b (.str "order") (some (.ref A.o)) := fun s => by
      have := DGet.k (k := Sum.inr "order") (bz.same s).hb
      rw [bk1] at this
      exact this
    have dg4 : ∀ {H'}, Same H H' → DGet H' A.b (.str "stops") (some (.ref A.st)) := fun s => by
      have := DGet.k (k := Sum.inr "stops") (bz.same s).hb
      rw [bk4] at this
      exact this
    refine ⟨(by show 0 ≤ sizeLine; decide), fun fo nfo => ?_⟩
    obtain ⟨G1, e, s1, hfo⟩ := mkO nfo (.lst [])
    rw [e]
    clear e
    refine nm_of ?_
    dsimp only
    refine ⟨_, rfl, A.b, _, rfl, dg1 s1, A.o, rfl, ⟨_, SqL.of (bz.same s1).ho⟩, ?_⟩
    refine for_it (walk_list (K := K) (a := A.o) (xs := (vlA rs).map V.int)) (fun i σ H' => Same H H' ∧ (∃ vs' ps, H' fo = some (.lst vs') ∧ Prs H' vs' ps ∧ Good rs out ps ∧ ps.length ≤ 30 * i ∧ ∀ q ∈ ps, q.1 ∈ (vlA rs).take i) ∧ ∃ u2 u3, σ = [some (.ref A.b), some (.ref fo), u2, u3])
      ⟨s1, ⟨[], [], hfo, ⟨rfl, fun i v p e => by simp at e⟩, ⟨(fun q hq => by cases hq), List.nodup_nil, fun q hq => by cases hq⟩, Nat.le_refl _, fun q hq => by cases hq⟩, _, _, rfl⟩ (fun i σ H' _ h => SqL.of ((bz.same h.1).ho)) ?_ ?_
    · rintro i x σ H3 H2 hi ⟨s2, ⟨vs', ps, hfo2, pr, gd, lp, ti⟩, u2, u3, rfl⟩ ⟨rfl, hx⟩
      rw [List.getElem?_map] at hx
      obtain ⟨n, hn, rfl⟩ := Option.map_eq_some_iff.mp hx
      have hm := List.mem_of_getElem? hn
      have n0 := (vls_ok ok (Nat.le_refl _) hm).1
      have nti : n ∉ (vlA rs).take i := fun c => by
        obtain ⟨j, hj, e⟩ := List.getElem_of_mem c
        rw [List.length_take] at hj
        rw [List.getElem_take] at e
        obtain ⟨hi', e'⟩ := List.getElem?_eq_some_iff.mp hn
        have jl : j < (vlA rs).length := by omega
        exact List.pairwise_iff_getElem.mp (vls_nd ok rs.length (Nat.le_refl _)) j i jl hi' (by omega) (e.trans e'.symm)
      refine nm_of ?_
      dsimp only
      refine ⟨_, rfl, A.b, _, rfl, dg4 s2, A.st, _, rfl, .inl (SqL.of (bz.same s2).hs), _, rfl, by omega, by rw [List.length_map]; omega, ?_⟩
      rw [List.length_map, Int.toNat_natCast]
      refine for_it (walk_range (lo := 0) (n := (stA rs).length)) (fun j σ H' => Same H H' ∧ (∃ vs' ps, H' fo = some (.lst vs') ∧ Prs H' vs' ps ∧ Good rs out ps ∧ ps.length ≤ 30 * i + j ∧ ∀ q ∈ ps, q.1 ∈ (vlA rs).take i ∨ (q.1 = n ∧ q.2 < (j : Nat))) ∧ ∃ u3, σ = [some (.ref A.b), some (.ref fo), some (.int n), u3])
        ⟨s2, ⟨vs', ps, hfo2, pr, gd, by omega, fun q hq => .inl (ti q hq)⟩, _, rfl⟩ (fun _ _ _ _ _ => trivial) ?_ ?_
      · rintro j x σ H5 H4 hj ⟨s4, ⟨vs4, ps4, hfo4, pr4, gd4, lp4, ti4⟩, u3, rfl⟩ ⟨rfl, rfl⟩
        refine nm_of ?_
        dsimp only
        rw [Int.zero_add]
        have il : i < (vlA rs).length := (List.getElem?_eq_some_iff.mp hn).1
        have stay : Same H H4 ∧ (∃ vs' ps, H4 fo = some (.lst vs') ∧ Prs H4 vs' ps ∧ Good rs out ps ∧ ps.length ≤ 30 * i + (j + 1) ∧ ∀ q ∈ ps, q.1 ∈ (vlA rs).take i ∨ (q.1 = n ∧ q.2 < ((j + 1 : Nat) : Int))) ∧ ∃ u3, ([some (.ref A.b), some (.ref fo), some (.int n), some (.int (j : Nat))] : L2.St) = [some (.ref A.b), some (.ref fo), some (.int n), u3] := ⟨s4, ⟨vs4, ps4, hfo4, pr4, gd4, by omega, fun q hq => (ti4 q hq).imp id fun z => ⟨z.1, by omega⟩⟩, _, rfl⟩
        refine ⟨_, rfl, _, rfl, _, rfl, A.b, rs, out, n, j, rfl, hbk.same s4, hm, hj, _, rfl, iteB (fun c1 => ?_) (fun c1 => stay)⟩
        refine ⟨_, rfl, _, rfl, _, rfl, A.b, rs, out, n, j, rfl, hbk.same s4, hm, hj, _, rfl, iteB (fun c2 => ?_) (fun c2 => stay)⟩
        refine ⟨_, rfl, .inl ⟨rfl, _, SqL.of hfo4⟩, _, rfl, _, rfl, (by show 2 ≤ sizeLine; decide), fun t nt => ?_⟩
        obtain ⟨G5, e5, s5, ht⟩ := mkO nt (.tup [.int n, .int (j : Nat)])
        rw [e5]
        have hfo5 := s5 _ _ hfo4
        refine ⟨fo, _, _, rfl, rfl, hfo5, lt5 (by rw [pr4.len]; omega), own_same (s4.trans s5) nfo, ⟨vs4 ++ [.ref t], ps4 ++ [(n, (j : Int))], upd_same, ?_, ⟨fun q hq => ?_, ?_, fun q hq => ?_⟩, by rw [List.length_append, List.length_singleton]; omega, fun q hq => ?_⟩, _, rfl⟩
        · exact prs_kt (prs_snoc (pr4.same s5) ⟨t, rfl, ht⟩) (kt_upd fun xs e => by rw [hfo5] at e; cases e)
        · rcases List.mem_append.mp hq with h | h
          · exact gd4.kp q h
          · rw [List.mem_singleton.mp h]
            unfold isKeep
            have c2' : live rs out n j = false := by cases e : live rs out n j <;> simp_all
            show (decide (n ∈ vlA rs) && decide ((j : Int) < ((stA rs).length : Nat)) && (pres rs n (j : Int).toNat && !live rs out n (j : Int).toNat)) = true
            rw [decide_eq_true hm, decide_eq_true (by omega), Int.toNat_natCast, c1, c2']
            rfl
        · refine List.nodup_append.mpr ⟨gd4.nd, by simp, fun q hq r hr e => ?_⟩
          rw [List.mem_singleton.mp hr] at e
          rcases ti4 q hq with h | ⟨_, h⟩
          · rw [e] at h
            exact nti h
          · rw [e] at h
            have h : (j : Int) < (j : Nat) := h
            omega
        · rcases List.mem_append.mp hq with h | h
          · exact gd4.nn q h
          · rw [List.mem_singleton.mp h]
            exact ⟨n0, by show (0 : Int) ≤ (j : Int); omega⟩
        · rcases List.mem_append.mp hq with h | h
          · exact (ti4 q h).imp id fun z => ⟨z.1, by omega⟩
          · rw [List.mem_singleton.mp h]
            exact .inr ⟨rfl, by show (j : Int) < ((j + 1 : Nat) : Int); omega⟩
      · rintro σ H4 ⟨s4, ⟨vs4, ps4, hfo4, pr4, gd4, lp4, ti4⟩, u3, rfl⟩
        refine ⟨s4, ⟨vs4, ps4, hfo4, pr4, gd4, by omega, fun q hq => ?_⟩, _, _, rfl⟩
        rw [List.take_add_one, hn, Option.toList_some, List.mem_append]
        rcases ti4 q hq with h | ⟨h, _⟩
        · exact .inl h
        · exact .inr (by rw [h]; exact List.mem_singleton.mpr rfl)
    · rintro σ H2 ⟨s2, ⟨vs', ps, hfo2, pr, gd, lp, ti⟩, u2, u3, rfl⟩
      rw [List.length_map] at lp
      exact ⟨_, rfl, q _ fo vs' ps s2 nfo hfo2 pr gd (by omega)⟩
/-! ### what is told or refused -/
/-- what is wrong with the keeps: the position that is told -/
def KBad (K : PySem.W.Frag) (H : Hp) (rs : Rs) (out : List Int) (v pv : V) : Prop := (NoLt K H v ∧ pv = .non) ∨ ∃ j : Nat, BadK K H rs out v j ∧ pv = .int (j : Nat)
theorem KBad.err {H : Hp} {rs : Rs} {out : List Int} {v pv : V} {E : XK} (h : KBad K H rs out v pv) (e : ErF CK "position" H pv E) : KErr K CK H rs out v E := by
  rcases h with ⟨h, rfl⟩ | ⟨j, h, rfl⟩
  · exact .inl ⟨h, e⟩
  · exact .inr ⟨j, h, e⟩
theorem KBad.same {H H' : Hp} {rs : Rs} {out : List Int} {v pv : V} (h : KBad K H rs out v pv) (s : Same H H') : KBad K H' rs out v pv := h.imp (fun h => ⟨h.1.same s, h.2⟩) fun ⟨j, h, e⟩ => ⟨j, h.same s, e⟩
def spLKn (K : PySem.W.Frag) (C : Addr) : Sp := fun vs H Q _ => ∃ p rs out v sv so, vs = [.ref p, v, sv] ∧ StAt C H p rs out ∧ RsOk rs ∧ NumO K H sv so ∧ ((∃ pv, KBad K H rs out v pv ∧ ∀ H' r, Same H H' → H r = none → H' r = some (.lst [.str "keeps", pv]) → Q (.ref r) H') ∨
  ∃ a kp, v = .ref a ∧ PsAt H a kp ∧ Good rs out kp ∧ kp.length ≤ 1000 ∧ sIs rs so = false ∧ ∀ H' r, Same H H' → H r = none → H' r = some (.lst [.str "stop", sv]) → Q (.ref r) H')
theorem ok_l_known (T : Tx K mg C) (S : Ty K mg CE CK CS) (XK_ : Xcl P w K mg base 1 "InvalidKeeps" CK "position") (XS : XclB P w K mg base 1 "UnknownStop" CS ["stop_number"]) (G_known : Fnc P w K mg base (L2.CX P w) 7 "known" [] (spKn K C CK CS)) (F : FD K "_law_known" "_law_known" s_l_known [] f fd) : FnG P w K mg base CX0 8 f fd ["_law_stretch", "_law_pairs", "_law_stop"] (spLKn K C) := by
  refine ok0 F sc_l_known (fun vs H Q E h => ?_) (fun cdv A outer s H vs Q E hr h => ?_)
  · obtain ⟨p, rs, out, v, sv, so, rfl, _⟩ := h
    rfl
  · obtain ⟨p, rs, out, v, sv, so, rfl, hst, ok, hs, h⟩ := h
    refine ⟨_, pss_one (ps_tryRow (i := 3) (n := "e") (Wo := fun _ _ _ _ => False) rfl rfl sc_l_known.nd rfl rfl LamX.takes0 (fun W pn xe tk _ => pss_one (ps_ret (pe_fnS G_known (hr.mono (by decide)) (fun σ => passAt tk σ) (pa_cons (pv 0) (pa_cons (pv 1) (pa_cons (pv 2) pa_nil))))))
        (.cons (c := .ref CS) ⟨by rfl, by decide, .inl S.g_UnknownStop⟩ (fun e oe cls d pn hz hf => pss_one (ps_ret (pe_lst (pa_cons pe_str (pa_cons (pe_xf XS.xf (XS.nf "stop_number" (by simp)) hz hf (pv 3)) pa_nil)))))
        (.cons (c := .ref CK) ⟨by rfl, by decide, .inl S.g_InvalidKeeps⟩ (fun e oe cls d pn hz hf => pss_one (ps_ret (pe_lst (pa_cons pe_str (pa_cons (pe_xf XK_.xf XK_.nf hz hf (pv 3)) pa_nil))))) .nil))), ?_⟩
    rcases h with ⟨pv', bad, q⟩ | ⟨a, kp, rfl, ha, gd, lk, ns, q⟩
    · refine ⟨_, rfl, _, rfl, _, rfl, p, rs, out, v, sv, so, rfl, hst, ok, hs, .inl (bad.err fun H' d s' nd hd => ?_)⟩
      exact ⟨false, S.xKS, (fun z => nomatch z), fun _ => ⟨true, S.xKK, fun _ e he => ⟨_, rfl, rfl, rfl, d, _, pv', rfl, hd, look_f _ pv', (by show 2 ≤ sizeLine; decide), fun r nr => q _ r (s'.trans (same_upd nr)) (s'.free nr) upd_same⟩, fun z => nomatch z⟩⟩
    · refine ⟨_, rfl, _, rfl, _, rfl, p, rs, out, _, sv, so, rfl, hst, ok, hs, .inr ⟨a, kp, rfl, ha, gd, lk, .inl ⟨ns, fun H' d s' nd hd => ?_⟩⟩⟩
      exact ⟨true, S.xSS, fun _ e he => ⟨_, rfl, rfl, rfl, d, _, sv, rfl, hd, look_f _ sv, (by show 2 ≤ sizeLine; decide), fun r nr => q _ r (s'.trans (same_upd nr)) (s'.free nr) upd_same⟩, fun z => nomatch z⟩
def spLMs (K : PySem.W.Frag) (C : Addr) : Sp := fun vs H Q _ => ∃ p rs out v, vs = [.ref p, v] ∧ StAt C H p rs out ∧ RsOk rs ∧ ∃ pv, KBad K H rs out v pv ∧ ∀ H' r, Same H H' → H r = none → H' r = some (.lst [.str "keeps", pv]) → Q (.ref r) H'
theorem ok_l_missing (T : Tx K mg C) (S : Ty K mg CE CK CS) (XK_ : Xcl P w K mg base 1 "InvalidKeeps" CK "position") (G_missing : Fnc P w K mg base (L2.CX P w) 7 "missing" [] (spMs K C CK)) (F : FD K "_law_missing" "_law_missing" s_l_missing [] f fd) : FnG P w K mg base CX0 8 f fd ["_law_stretch", "_law_pairs"] (spLMs K C) := by
  refine ok0 F sc_l_missing (fun vs H Q E h => ?_) (fun cdv A outer s H vs Q E hr h => ?_)
  · obtain ⟨p, rs, out, v, rfl, _⟩ := h
    rfl
  · obtain ⟨p, rs, out, v, rfl, hst, ok, pv', bad, q⟩ := h
    refine ⟨_, pss_one (ps_tryRow (i := 2) (n := "e") (Wo := fun _ _ _ _ => False) rfl rfl sc_l_missing.nd rfl rfl LamX.takes0 (fun W pn xe tk _ => pss_one (ps_ret (pe_fnS G_missing (hr.mono (by decide)) (fun σ => passAt tk σ) (pa_cons (pv 0) (pa_cons (pv 1) pa_nil)))))
        (.cons (c := .ref CK) ⟨by rfl, by decide, .inl S.g_InvalidKeeps⟩ (fun e oe cls d pn hz hf => pss_one (ps_ret (pe_lst (pa_cons pe_str (pa_cons (pe_xf XK_.xf XK_.nf hz hf (pv 2)) pa_nil))))) .nil)), ?_⟩
    refine ⟨_, rfl, _, rfl, p, rs, out, v, rfl, hst, ok, .inl (bad.err fun H' d s' nd hd => ?_)⟩
    exact ⟨true, S.xKK, fun _ e he => ⟨_, rfl, rfl, rfl, d, _, pv', rfl, hd, look_f _ pv', (by show 2 ≤ sizeLine; decide), fun r nr => q _ r (s'.trans (same_upd nr)) (s'.free nr) upd_same⟩, fun z => nomatch z⟩
end
end K62

set_option Elab.async false
set_option linter.all false
set_option maxRecDepth 100000
set_option maxHeartbeats 2000000
/-! L62g: keeps that are wrong. -/
namespace K62
open PySem PySem.Spec PyProof.Rows L2 LL ST
abbrev s_l_refused_right : Stmt := top 47
abbrev n_l_refused_right : List Str := ["_law_pot_here", "_law_stretch", "_law_book_here", "_law_pairs", "_law_live", "_law_value", "_law_stop", "_law_odd", "_law_at", "_law_thing", "_law_wrong"]
theorem sc_l_refused_right : FnScope n_l_refused_right ["_law_pot_here", "_law_stretch", "_law_book_here", "_law_pairs"] (defScope s_l_refused_right) := ⟨rfl, rfl, rfl, by decide +kernel, rfl, by decide +kernel, by decide +kernel⟩
section
variable {P : Program} {w : World} {K : PySem.W.Frag} {mg : Str → Option Value} {base : Heap} {C CE CK CS : Addr} {f : Addr} {fd : FuncData}
/-- no keep, whatever becomes of the list at p -/
def Odd (K : PySem.W.Frag) (p : Addr) (G : Hp) (rs : Rs) (out : List Int) (v : V) : Prop := ∃ o, (∀ H', But p G H' → Th K H' v o) ∧ thB rs out o = false
theorem Odd.but {p : Addr} {G G' : Hp} {rs : Rs} {out : List Int} {v : V} (h : Odd K p G rs out v) (b : But p G G') : Odd K p G' rs out v := let ⟨o, t, e⟩ := h; ⟨o, fun H' b' => t H' (b.trans b'), e⟩
theorem but_tup {p t : Addr} {G H' : Hp} {xs ys : List V} (hp : G p = some (.lst ys)) (ht : G t = some (.tup xs)) (b : But p G H') : H' t = some (.tup xs) := b _ _ ht fun z => by rw [z, hp] at ht; cases ht
theorem kNT {K : PySem.W.Frag} : PySem.W.kitOne K (.type "NoneType") (.type "tuple") = some false := kit_ty (by decide +kernel)
theorem kIT {K : PySem.W.Frag} : PySem.W.kitOne K (.type "int") (.type "tuple") = some false := kit_ty (by decide +kernel)
theorem kDT {K : PySem.W.Frag} : PySem.W.kitOne K (.type "dict") (.type "tuple") = some false := kit_ty (by decide +kernel)
theorem kSI {K : PySem.W.Frag} : PySem.W.kitOne K (.type "str") (.type "int") = some false := kit_ty (by decide +kernel)
theorem kNI {K : PySem.W.Frag} : PySem.W.kitOne K (.type "NoneType") (.type "int") = some false := kit_ty (by decide +kernel)
section
variable {p t : Addr} {G : Hp} {rs : Rs} {out : List Int} {px py : V}
theorem odd_non : Odd K p G rs out .non := ⟨none, fun H' _ => .no ⟨_, fun _ _ => .base .non, kNT⟩, rfl⟩
theorem odd_int (i : Int) : Odd K p G rs out (.int i) := ⟨none, fun H' _ => .no ⟨_, fun _ _ => .base (.int i), kIT⟩, rfl⟩
theorem odd_lst {xs : List V} (ht : G t = some (.lst xs)) (n : t ≠ p) : Odd K p G rs out (.ref t) := ⟨none, fun H' b => .no ⟨_, fun _ s => .base (.lst (s _ _ (b _ _ ht n))), kLT⟩, rfl⟩
theorem odd_dic (hp : G p = some (.lst [px, py])) (ht : G t = some (.dK [])) : Odd K p G rs out (.ref t) := ⟨none, fun H' b => .no ⟨_, fun _ s => .base (.dK (s _ _ (b _ _ ht fun z => by rw [z, hp] at ht; cases ht))), kDT⟩, rfl⟩
theorem odd_len (hp : G p = some (.lst [px, py])) {xs : List V} (ht : G t = some (.tup xs)) (h : xs.length ≠ 2) (hz : xs.length ≤ 100) : Odd K p G rs out (.ref t) := ⟨none, fun H' b => .len (but_tup hp ht b) h hz, rfl⟩
theorem odd_bad (hp : G p = some (.lst [px, py])) {x y : V} {ox oy : Option Int} (ht : G t = some (.tup [x, y])) (hx : ∀ H', NumO K H' x ox) (hy : ∀ H', NumO K H' y oy) (h : ox = none ∨ oy = none) : Odd K p G rs out (.ref t) := ⟨none, fun H' b => .bad (but_tup hp ht b) (hx H') (hy H') h, rfl⟩
theorem odd_pair (hp : G p = some (.lst [px, py])) {q : IP} (ht : G t = some (.tup [.int q.1, .int q.2])) (h1 : 0 ≤ q.1) (h2 : 0 ≤ q.2) (h : isKeep rs out q = false) : Odd K p G rs out (.ref t) := ⟨some q, fun H' b => .pair ⟨t, rfl, but_tup hp ht b⟩ h1 h2, h⟩
end
theorem num_s (z : Str) (H : Hp) : NumO K H (.str z) none := .no ⟨_, fun _ _ => .base (.str z), kSI⟩
theorem num_n (H : Hp) : NumO K H .non none := .no ⟨_, fun _ _ => .base .non, kNI⟩
theorem num_0 (H : Hp) : NumO K H (.int 0) (some 0) := .int 0 (by decide)
theorem num_m (H : Hp) : NumO K H (.int (-1)) none := .neg (-1) (by decide)
def NKp (rs : Rs) (out : List Int) (H : Hp) (v : V) : Prop := ∃ q : IP, PrV H v q ∧ 0 ≤ q.1 ∧ 0 ≤ q.2 ∧ isKeep rs out q = false
theorem NKp.kt {rs : Rs} {out : List Int} {H H' : Hp} {v : V} (h : NKp rs out H v) (s : KT H H') : NKp rs out H' v := let ⟨q, ⟨t, e, x⟩, r⟩ := h; ⟨q, ⟨t, e, s _ _ x⟩, r⟩
theorem NKp.odd {rs : Rs} {out : List Int} {p : Addr} {px py : V} {H : Hp} {v : V} (h : NKp rs out H v) (hp : H p = some (.lst [px, py])) : Odd K p H rs out v := by
  obtain ⟨q, ⟨t, rfl, x⟩, h1, h2, h3⟩ := h
  exact odd_pair hp x h1 h2 h3
def kdD (d : PyData) : PyData := .list [.list [.str "keeps", d], .list [.str "keeps", d]]
/-- wrong keeps at wv, told as av, whatever becomes of the list at p -/
def KBp (K : PySem.W.Frag) (p : Addr) (H : Hp) (rs : Rs) (out : List Int) (wv av : V) : Prop := (∀ H', But p H H' → KBad K H' rs out wv av) ∧ ∃ d, (∀ H', Dp K H' av d) ∧ Shw d ∧ cost d ≤ 2000 ∧ d.depth ≤ 1
theorem KBp.but {p : Addr} {H G : Hp} {rs : Rs} {out : List Int} {wv av : V} (h : KBp K p H rs out wv av) (b : But p H G) : KBp K p G rs out wv av := ⟨fun H' b' => h.1 H' (b.trans b'), h.2⟩
theorem prs_but {p : Addr} {px py : V} {H H' : Hp} {vs : List V} {ps : List IP} (h : Prs H vs ps) (hp : H p = some (.lst [px, py])) (b : But p H H') : Prs H' vs ps := ⟨h.len, fun i v q e1 e2 => let ⟨t, e, x⟩ := h.at_ i v q e1 e2; ⟨t, e, but_tup hp x b⟩⟩
theorem Good.sub {rs : Rs} {out : List Int} {ps qs : List IP} (h : Good rs out ps) (s : qs.Sublist ps) : Good rs out qs := ⟨fun q hq => h.kp q (s.subset hq), h.nd.sublist s, fun q hq => h.nn q (s.subset hq)⟩
theorem kb_int (j : Nat) (hj : j ≤ 1000) : ∃ d, (∀ H', Dp K H' (.int (j : Nat)) d) ∧ Shw d ∧ cost d ≤ 2000 ∧ d.depth ≤ 1 := by
  have h1 : (((j : Nat) : Int).natAbs) < 2 ^ 20 := by
    have : (2 : Nat) ^ 20 = 1048576 := by decide
    omega
  have h2 := PySem.Flt.log2_lt_of (k := 20) (by decide) h1
  refine ⟨.int (j : Nat), fun _ => .int _, ?_, by simp only [cost]; decide, by simp only [PyData.depth]; decide⟩
  simp only [Shw]
  exact Nat.lt_of_lt_of_le h2 (by decide)
theorem kb_non : ∃ d, (∀ H', Dp K H' .non d) ∧ Shw d ∧ cost d ≤ 2000 ∧ d.depth ≤ 1 := ⟨.none, fun _ => .non, by simp only [Shw], by simp only [cost]; decide, by simp only [PyData.depth]; decide⟩
theorem kNL {K : PySem.W.Frag} : PySem.W.kitOne K (.type "NoneType") (.type "list") = some false := kit_ty (by decide +kernel)
theorem kIL {K : PySem.W.Frag} : PySem.W.kitOne K (.type "int") (.type "list") = some false := kit_ty (by decide +kernel)
theorem kSL {K : PySem.W.Frag} : PySem.W.kitOne K (.type "str") (.type "list") = some false := kit_ty (by decide +kernel)
theorem kST {K : PySem.W.Frag} : PySem.W.kitOne K (.type "str") (.type "tuple") = some false := kit_ty (by decide +kernel)
theorem kBL {K : PySem.W.Frag} : PySem.W.kitOne K (.type "bool") (.type "list") = some false := kit_ty (by decide +kernel)
theorem kBT {K : PySem.W.Frag} : PySem.W.kitOne K (.type "bool") (.type "tuple") = some false := kit_ty (by decide +kernel)
theorem kDL {K : PySem.W.Frag} : PySem.W.kitOne K (.type "dict") (.type "list") = some false := kit_ty (by decide +kernel)
def ipD (q : IP) : PyData := .tuple [.int q.1, .int q.2]
def prsD (ps : List IP) : PyData := .list (ps.map ipD)
theorem dpa_prs {H : Hp} {vs : List V} {ps : List IP} (h : Prs H vs ps) : DpAll K H vs (ps.map ipD) := dpa_at (by rw [List.length_map]; exact h.len) fun i v d e1 e2 => by
  rw [List.getElem?_map] at e2
  obtain ⟨q, e3, rfl⟩ := Option.map_eq_some_iff.mp e2
  obtain ⟨t, rfl, ht⟩ := h.at_ i v q e1 e3
  exact .tup (SqT.of ht) (.cons (.int _) (.cons (.int _) .nil))
theorem dp_prs {H : Hp} {a : Addr} {vs : List V} {ps : List IP} (ha : H a = some (.lst vs)) (h : Prs H vs ps) : Dp K H (.ref a) (prsD ps) := .lst (SqL.of ha) (dpa_prs h)
theorem pn_prs (ps : List IP) : Pn 2 (prsD ps) := fun d hd => by
  obtain ⟨q, _, rfl⟩ := List.mem_map.mp hd
  intro e he
  rcases List.mem_cons.mp he with rfl | he
  · trivial
  · rw [List.mem_singleton.mp he]
    trivial
/-- the answer of two refusals, and what is due -/
theorem dq_kd {H : Hp} {l r1 r2 : Addr} {av : V} {d : PyData} (hl : H l = some (.lst [.ref r1, .ref r2])) (h1 : H r1 = some (.lst [.str "keeps", av])) (h2 : H r2 = some (.lst [.str "keeps", av])) (hd : Dp K H av d) (sh : Shw d) (hc : cost d ≤ 2000) (hp : d.depth ≤ 1) : Dq K H (.ref l) (kdD d) := by
  refine dq_of (.lst (SqL.of hl) (.cons (.lst (SqL.of h1) (.cons (.str _) (.cons hd .nil))) (.cons (.lst (SqL.of h2) (.cons (.str _) (.cons hd .nil))) .nil))) ?_ ?_ ?_ <;> unfold kdD
  · simp only [Shw, ShwAll, and_true]
    exact ⟨⟨asc_of _, sh⟩, asc_of _, sh⟩
  · simp only [PyData.depth, PyData.depthAll]
    omega
  · simp only [cost, costAll]
    have : ((("keeps" : String) : Str)).length = 5 := rfl
    exact small (by omega)
def spRR (K : PySem.W.Frag) (C : Addr) : Sp := fun vs H Q _ => ∃ (p st b pl : Addr) (rs : Rs) (out : List Int) (ls : List V) (kp : List IP), vs = [.ref p, .ref st, .ref b, .ref pl] ∧ PotAt H p ∧ RsOk rs ∧ (∀ H', But p H H' → StAt C H' st rs out ∧ BookAt H' b rs out) ∧ H pl = some (.lst ls) ∧ pl ≠ p ∧ Prs H ls kp ∧ Good rs out kp ∧ kp.length ≤ 900 ∧
  ∀ H', But p H H' → PotAt H' p → Q (.bl true) H'
theorem ok_l_refused_right (T : Tx K mg C) (G_l_is_there : Fnc P w K mg base CX0 1 "_law_is_there" [] spTh) (G_l_is_live : Fnc P w K mg base CX0 2 "_law_is_live" [] spLL) (G_l_draw : Fnc P w K mg base CX0 1 "_law_draw" [] spTake) (G_l_known : Fnc P w K mg base CX0 8 "_law_known" [] (spLKn K C)) (G_l_missing : Fnc P w K mg base CX0 8 "_law_missing" [] (spLMs K C))
    (F : FD K "_law_refused_right" "_law_refused_right" s_l_refused_right [] f fd) : FnG P w K mg base CX0 9 f fd ["_law_pot_here", "_law_stretch", "_law_book_here", "_law_pairs"] (spRR K C) := by
  refine ok0 F sc_l_refused_right (fun vs H Q E h => ?_) (fun cdv A outer s H vs Q E hr h => ?_)
  · obtain ⟨p, st, b, pl, rs, out, ls, kp, rfl, _⟩ := h
    rfl
  · obtain ⟨p, st, b, pl, rs, out, ls, kp, rfl, hp, ok, hsb, hpl, plp, pr, gd, lk, q⟩ := h
    refine ⟨_, (pss_cons (ps_set (i := 4) sc_l_refused_right.nd rfl (by first | exact Or.inl rfl | exact Or.inr rfl) (pe_lst pa_nil))
      (pss_cons (ps_for PassesOwn.never rfl (pi_list (pe_dget (un1 hr.r.units) (pv 2) pe_str (fun _ _ => rfl))) (pg_name (i := 5) sc_l_refused_right.nd rfl (by first | exact Or.inl rfl | exact Or.inr rfl)) (pss_one (ps_for PassesOwn.never rfl (pi_range1 (by rfl) T.n_range (pa_cons (pe_callB call_len_seq (by rfl) T.n_len (by decide +kernel) (pa_cons (pe_dget (un1 hr.r.units) (pv 2) pe_str (fun _ _ => rfl)) pa_nil)) pa_nil)) (pg_name (i := 6) sc_l_refused_right.nd rfl (by first | exact Or.inl rfl | exact Or.inr rfl)) (pss_one (ps_if (PW.pt (pw_or (pt_not (pt_val (pe_fn G_l_is_there (hr.mono (by decide)) pass0 (pa_cons (pv 2) (pa_cons (pv 5) (pa_cons (pv 6) pa_nil)))))) (pw_or1 (pt_val (pe_fn G_l_is_live (hr.mono (by decide)) pass0 (pa_cons (pv 2) (pa_cons (pv 5) (pa_cons (pv 6) pa_nil)))))))) (pss_one (ps_expr (pe_bm PySem.F.plainAttrs_list PySem.F.slot_list_append PySem.F.type_list_append mt_append (pv 4) (pa_cons (pe_tup (pa_cons (pv 5) (pa_cons (pv 6) pa_nil))) pa_nil)))) pss_nil)))))
      (pss_cons (ps_set (i := 7) sc_l_refused_right.nd rfl (by first | exact Or.inl rfl | exact Or.inr rfl) (pe_lst (pa_cons pe_non (pa_cons pe_int (pa_cons (pe_tup (pa_cons pe_int pa_nil)) (pa_cons (pe_lst (pa_cons pe_int (pa_cons pe_int pa_nil))) (pa_cons (pe_tup (pa_cons pe_int (pa_cons pe_int (pa_cons pe_int pa_nil)))) (pa_cons (pe_tup (pa_cons pe_str (pa_cons pe_int pa_nil))) (pa_cons (pe_tup (pa_cons pe_int (pa_cons pe_non pa_nil))) (pa_cons (pe_tup (pa_cons (pe_un un_neg pe_int) (pa_cons pe_int pa_nil))) (pa_cons (pe_tup (pa_cons pe_int (pa_cons (pe_un un_neg pe_int) pa_nil))) (pa_cons (pe_tup (pa_cons pe_int (pa_cons (pe_callB call_len_seq (by rfl) T.n_len (by decide +kernel) (pa_cons (pe_dget (un1 hr.r.units) (pv 2) pe_str (fun _ _ => rfl)) pa_nil)) pa_nil))) (pa_cons (pe_tup pa_nil) pa_nil)))))))))))))
      (pss_cons (ps_set (i := 7) sc_l_refused_right.nd rfl (by first | exact Or.inl rfl | exact Or.inr rfl) (pe_op op_cat (pe_op op_cat (pv 7) (pe_lst (pa_cons (pe_tup (pa_cons (pe_op op_pow pe_int pe_int) (pa_cons pe_int pa_nil))) (pa_cons (pe_tup (pa_cons pe_bl (pa_cons pe_int pa_nil))) (pa_cons (pe_tup (pa_cons pe_int (pa_cons pe_bl pa_nil))) (pa_cons (pe_tup (pa_cons pe_int (pa_cons pe_bl pa_nil))) (pa_cons pe_dnewK pa_nil))))))) (pv 4)))
      (pss_cons (ps_par (i := 8) (j := 9) rfl sc_l_refused_right.nd rfl rfl (by decide) rfl rfl (pa_cons (pe_fn G_l_draw (hr.mono (by decide)) pass0 (pa_cons (pv 0) (pa_cons (pe_op op_add (pe_callB call_len_seq (by rfl) T.n_len (by decide +kernel) (pa_cons (pv 3) pa_nil)) pe_int) pa_nil))) (pa_cons (pe_ix ix_list (pv 7) (pe_fn G_l_draw (hr.mono (by decide)) pass0 (pa_cons (pv 0) (pa_cons (pe_callB call_len_seq (by rfl) T.n_len (by decide +kernel) (pa_cons (pv 7) pa_nil)) pa_nil))) (fun _ _ => rfl)) pa_nil)) (by rfl))
      (pss_cons (ps_set (i := 10) sc_l_refused_right.nd rfl (by first | exact Or.inl rfl | exact Or.inr rfl) (pe_op op_cat (pe_op op_cat (pe_slice sl_list (pv 3) po_none (po_some (pv 8))) (pe_lst (pa_cons (pv 9) pa_nil))) (pe_slice sl_list (pv 3) (po_some (pv 8)) po_none)))
      (pss_cons (ps_if (PW.pt (pw_and (pt_cmpR (op_neD hr.r.units) (pv 3) (pe_lst pa_nil) (nomark _)) (pw_and1 (pt_cmpR op_eq (pe_fn G_l_draw (hr.mono (by decide)) pass0 (pa_cons (pv 0) (pa_cons pe_int pa_nil))) pe_int (nomark _))))) (pss_one (ps_par (i := 8) (j := 10) rfl sc_l_refused_right.nd rfl rfl (by decide) rfl rfl (pa_cons (pe_callB call_len_seq (by rfl) T.n_len (by decide +kernel) (pa_cons (pv 3) pa_nil)) (pa_cons (pe_op op_cat (pv 3) (pe_lst (pa_cons (pe_ix ix_list (pv 3) (pe_fn G_l_draw (hr.mono (by decide)) pass0 (pa_cons (pv 0) (pa_cons (pe_callB call_len_seq (by rfl) T.n_len (by decide +kernel) (pa_cons (pv 3) pa_nil)) pa_nil))) (fun _ _ => rfl)) pa_nil))) pa_nil)) (by rfl))) pss_nil)
      (pss_cons (ps_if (pt_cmpR op_eq (pe_fn G_l_draw (hr.mono (by decide)) pass0 (pa_cons (pv 0) (pa_cons pe_int pa_nil))) pe_int (nomark _)) (pss_one (ps_par (i := 8) (j := 10) rfl sc_l_refused_right.nd rfl rfl (by decide) rfl rfl (pa_cons pe_non (pa_cons (pe_ix ix_list (pe_lst (pa_cons pe_non (pa_cons pe_int (pa_cons pe_str (pa_cons pe_dnewK (pa_cons pe_bl pa_nil)))))) (pe_fn G_l_draw (hr.mono (by decide)) pass0 (pa_cons (pv 0) (pa_cons pe_int pa_nil))) (fun _ _ => rfl)) pa_nil)) (by rfl))) pss_nil)
      (pss_one (ps_ret (pe_cmpR op_eq (pe_callB (call_reprV (K := K) (by rfl) hr.g hr.r.units) (by rfl) T.n_repr (by decide +kernel) (pa_cons (pe_lst (pa_cons (pe_fn G_l_missing (hr.mono (by decide)) pass0 (pa_cons (pv 1) (pa_cons (pv 10) pa_nil))) (pa_cons (pe_fn G_l_known (hr.mono (by decide)) pass0 (pa_cons (pv 1) (pa_cons (pv 10) (pa_cons (pe_op op_pow pe_int pe_int) pa_nil)))) pa_nil))) pa_nil)) (pe_callB (call_reprV (K := K) (by rfl) hr.g hr.r.units) (by rfl) T.n_repr (by decide +kernel) (pa_cons (pe_op op_rep (pe_lst (pa_cons (pe_lst (pa_cons pe_str (pa_cons (pv 8) pa_nil))) pa_nil)) pe_int) pa_nil)) (nomark _)))))))))))), ?_⟩
    have hbk := (hsb H .refl).2
    obtain ⟨A, okv, av, rfl, bz, opa, asa⟩ := id hbk
    have ll := ok.len
    have lst : (stA rs).length ≤ rs.length := stp_len rs rs.length
    have vl : (vlA rs).length ≤ rs.length := vls_len rs rs.length
    have lt5 : ∀ {n : Nat}, n < 100000 → n < sizeLine := fun h => Nat.lt_of_lt_of_le h (small (Nat.le_refl _))
    have dg1 : ∀ {H'}, Same H H' → DGet H' A.b (.str "order") (some (.ref A.o)) := fun s => by
      have := DGet.k (k := Sum.inr "order") (bz.same s).hb
      rw [bk1] at this
      exact this
    have dg4 : ∀ {H'}, Same H H' → DGet H' A.b (.str "stops") (some (.ref A.st)) := fun s => by
      have := DGet.k (k := Sum.inr "stops") (bz.same s).hb
      rw [bk4] at this
      exact this
    obtain ⟨px, py, hpp, _⟩ := id hp
    refine ⟨(by show 0 ≤ sizeLine; decide), fun fo nfo => ?_⟩
    have fop := hp.ne nfo
    obtain ⟨G1, e, s1, hfo⟩ := mkO nfo (.lst [])
    rw [e]
    clear e
    refine nm_of ?_
    dsimp only
    refine ⟨_, rfl, A.b, _, rfl, dg1 s1, A.o, rfl, ⟨_, SqL.of (bz.same s1).ho⟩, ?_⟩
    refine for_it (walk_list (K := K) (a := A.o) (xs := (vlA rs).map V.int)) (fun i σ H' => Same H H' ∧ (∃ vs', H' fo = some (.lst vs') ∧ vs'.length ≤ 30 * i ∧ ∀ v ∈ vs', NKp rs out H' v) ∧ ∃ u5 u6 u7 u8 u9 v1, σ = [some (.ref p), some (.ref st), some (.ref A.b), some (.ref pl), some (.ref fo), u5, u6, u7, u8, u9, v1])
      ⟨s1, ⟨[], hfo, Nat.le_refl _, fun v hv => by cases hv⟩, _, _, _, _, _, _, rfl⟩ (fun i σ H' _ h => SqL.of ((bz.same h.1).ho)) ?_ ?_
    · rintro i x σ H3 H2 hi ⟨s2, ⟨vs', hfo2, lp, od⟩, u5, u6, u7, u8, u9, v1, rfl⟩ ⟨rfl, hx⟩
      rw [List.getElem?_map] at hx
      obtain ⟨n, hn, rfl⟩ := Option.map_eq_some_iff.mp hx
      have hm := List.mem_of_getElem? hn
      have n0 := (vls_ok ok (Nat.le_refl _) hm).1
      have il : i < (vlA rs).length := (List.getElem?_eq_some_iff.mp hn).1
      refine nm_of ?_
      dsimp only
      refine ⟨_, rfl, A.b, _, rfl, dg4 s2, A.st, _, rfl, .inl (SqL.of (bz.same s2).hs), _, rfl, by omega, by rw [List.length_map]; omega, ?_⟩
      rw [List.length_map, Int.toNat_natCast]
      refine for_it (walk_range (lo := 0) (n := (stA rs).length)) (fun j σ H' => Same H H' ∧ (∃ vs', H' fo = some (.lst vs') ∧ vs'.length ≤ 30 * i + j ∧ ∀ v ∈ vs', NKp rs out H' v) ∧ ∃ u6 u7 u8 u9 v1, σ = [some (.ref p), some (.ref st), some (.ref A.b), some (.ref pl), some (.ref fo), some (.int n), u6, u7, u8, u9, v1])
        ⟨s2, ⟨vs', hfo2, by omega, od⟩, _, _, _, _, _, rfl⟩ (fun _ _ _ _ _ => trivial) ?_ ?_
      · rintro j x σ H5 H4 hj ⟨s4, ⟨vs4, hfo4, lp4, od4⟩, u6, u7, u8, u9, v1, rfl⟩ ⟨rfl, rfl⟩
        refine nm_of ?_
        dsimp only
        rw [Int.zero_add]
        obtain ⟨c, ec⟩ : ∃ c, c = (pres rs n j && !live rs out n j) := ⟨_, rfl⟩
        refine tt_cut (fun b H' => b = !c ∧ H' = H4) (fun R hR => ?_) ?_
        · refine ⟨_, rfl, _, rfl, _, rfl, A.b, rs, out, n, j, rfl, hbk.same s4, hm, hj, _, rfl, iteB (fun c1 => ?_) (fun c1 => ?_)⟩
          · exact hR _ _ ⟨by rw [ec]; cases e : pres rs n j <;> simp_all, rfl⟩
          · refine ⟨_, rfl, _, rfl, _, rfl, A.b, rs, out, n, j, rfl, hbk.same s4, hm, hj, _, rfl, hR _ _ ⟨?_, rfl⟩⟩
            rw [ec]
            have : pres rs n j = true := by cases e : pres rs n j <;> simp_all
            rw [this, Bool.true_and, Bool.not_not]
        rintro bb H' ⟨rfl, rfl⟩
        cases c with
        | true => exact iteF ⟨s4, ⟨vs4, hfo4, by omega, od4⟩, _, _, _, _, _, rfl⟩
        | false =>
          refine iteT ⟨_, rfl, .inl ⟨rfl, _, SqL.of hfo4⟩, _, rfl, _, rfl, (by show 2 ≤ sizeLine; decide), fun t nt => ?_⟩
          obtain ⟨G5, e5, s5, ht⟩ := mkO nt (.tup [.int n, .int (j : Nat)])
          rw [e5]
          have hfo5 := s5 _ _ hfo4
          have kt5 : KT G5 (upd G5 fo (.lst (vs4 ++ [.ref t]))) := kt_upd fun xs e => by rw [hfo5] at e; cases e
          refine ⟨fo, _, _, rfl, rfl, hfo5, lt5 (by omega), own_same (s4.trans s5) nfo, ⟨vs4 ++ [.ref t], upd_same, by rw [List.length_append, List.length_singleton]; omega, fun v hv => ?_⟩, _, _, _, _, _, rfl⟩
          rcases List.mem_append.mp hv with h | h
          · exact (od4 v h).kt ((KT.of s5).trans kt5)
          · rw [List.mem_singleton.mp h]
            refine ⟨(n, (j : Int)), ⟨t, rfl, kt5 _ _ ht⟩, n0, by show (0 : Int) ≤ (j : Int); omega, ?_⟩
            unfold isKeep
            show (decide (n ∈ vlA rs) && decide ((j : Int) < ((stA rs).length : Nat)) && (pres rs n (j : Int).toNat && !live rs out n (j : Int).toNat)) = false
            rw [Int.toNat_natCast, ← ec, Bool.and_false]
      · rintro σ H4 ⟨s4, ⟨vs4, hfo4, lp4, od4⟩, u6, u7, u8, u9, v1, rfl⟩
        exact ⟨s4, ⟨vs4, hfo4, by omega, od4⟩, _, _, _, _, _, _, rfl⟩
    · rintro σ H2 ⟨s2, ⟨vs', hfo2, lp, od⟩, u5, u6, u7, u8, u9, v1, rfl⟩
      rw [List.length_map] at lp
      have d2 : ∀ {n : Nat}, n ≤ 20 → n ≤ sizeLine := fun h => small (by omega)
      refine ⟨d2 (by show 1 ≤ 20; decide), fun t1 nt1 => ?_⟩
      obtain ⟨K1, e, y1, ht1⟩ := mkO nt1 (.tup [.int 0])
      rw [e]
      clear e
      have x1 := s2.trans y1
      refine ⟨d2 (by show 2 ≤ 20; decide), fun t2 nt2 => ?_⟩
      obtain ⟨K2, e, y2, ht2⟩ := mkO nt2 (.lst [.int 0, .int 0])
      rw [e]
      clear e
      have x2 := x1.trans y2
      refine ⟨d2 (by show 3 ≤ 20; decide), fun t3 nt3 => ?_⟩
      obtain ⟨K3, e, y3, ht3⟩ := mkO nt3 (.tup [.int 0, .int 0, .int 0])
      rw [e]
      clear e
      have x3 := x2.trans y3
      refine ⟨d2 (by show 2 ≤ 20; decide), fun t4 nt4 => ?_⟩
      obtain ⟨K4, e, y4, ht4⟩ := mkO nt4 (.tup [.str "0", .int 0])
      rw [e]
      clear e
      have x4 := x3.trans y4
      refine ⟨d2 (by show 2 ≤ 20; decide), fun t5 nt5 => ?_⟩
      obtain ⟨K5, e, y5, ht5⟩ := mkO nt5 (.tup [.int 0, .non])
      rw [e]
      clear e
      have x5 := x4.trans y5
      refine ⟨_, rfl, d2 (by show 2 ≤ 20; decide), fun t6 nt6 => ?_⟩
      obtain ⟨K6, e, y6, ht6⟩ := mkO nt6 (.tup [.int (-1), .int 0])
      rw [e]
      clear e
      have x6 := x5.trans y6
      refine ⟨_, rfl, d2 (by show 2 ≤ 20; decide), fun t7 nt7 => ?_⟩
      obtain ⟨K7, e, y7, ht7⟩ := mkO nt7 (.tup [.int 0, .int (-1)])
      rw [e]
      clear e
      have x7 := x6.trans y7
      refine ⟨_, rfl, A.b, _, rfl, dg4 (x7), A.st, _, rfl, .inl (SqL.of (bz.same (x7)).hs), d2 (by show 2 ≤ 20; decide), fun t8 nt8 => ?_⟩
      rw [List.length_map]
      obtain ⟨K8, e, y8, ht8⟩ := mkO nt8 (.tup [.int 0, .int (((stA rs).length : Nat) : Int)])
      rw [e]
      clear e
      have x8 := x7.trans y8
      refine ⟨d2 (by show 0 ≤ 20; decide), fun t9 nt9 => ?_⟩
      obtain ⟨K9, e, y9, ht9⟩ := mkO nt9 (.tup [])
      rw [e]
      clear e
      have x9 := x8.trans y9
      refine ⟨d2 (by show 11 ≤ 20; decide), fun la nla => ?_⟩
      obtain ⟨K10, e, y10, hla⟩ := mkO nla (.lst [.non, .int 7, .ref t1, .ref t2, .ref t3, .ref t4, .ref t5, .ref t6, .ref t7, .ref t8, .ref t9])
      rw [e]
      clear e
      have x10 := x9.trans y10
      refine nm_of ?_
      dsimp only
      refine ⟨_, rfl, _, _, rfl, rfl, ⟨by decide, by decide, by decide⟩, d2 (by show 2 ≤ 20; decide), fun t10 nt10 => ?_⟩
      obtain ⟨K11, e, y11, ht10⟩ := mkO nt10 (.tup [.int (10 ^ (29 : Int).toNat), .int 0])
      rw [e]
      clear e
      have x11 := x10.trans y11
      refine ⟨d2 (by show 2 ≤ 20; decide), fun t11 nt11 => ?_⟩
      obtain ⟨K12, e, y12, ht11⟩ := mkO nt11 (.tup [.bl true, .int 0])
      rw [e]
      clear e
      have x12 := x11.trans y12
      refine ⟨d2 (by show 2 ≤ 20; decide), fun t12 nt12 => ?_⟩
      obtain ⟨K13, e, y13, ht12⟩ := mkO nt12 (.tup [.int 0, .bl true])
      rw [e]
      clear e
      have x13 := x12.trans y13
      refine ⟨d2 (by show 2 ≤ 20; decide), fun t13 nt13 => ?_⟩
      obtain ⟨K14, e, y14, ht13⟩ := mkO nt13 (.tup [.int 0, .bl false])
      rw [e]
      clear e
      have x14 := x13.trans y14
      refine fun t14 nt14 => ?_
      obtain ⟨K15, e, y15, ht14⟩ := mkO nt14 (.dK [])
      rw [e]
      clear e
      have x15 := x14.trans y15
      refine ⟨d2 (by show 5 ≤ 20; decide), fun lb nlb => ?_⟩
      obtain ⟨K16, e, y16, hlb⟩ := mkO nlb (.lst [.ref t10, .ref t11, .ref t12, .ref t13, .ref t14])
      rw [e]
      clear e
      have x16 := x15.trans y16
      have z1016 := (((((y11.trans y12).trans y13).trans y14).trans y15).trans y16)
      refine ⟨la, lb, _, _, rfl, rfl, z1016 _ _ hla, hlb, d2 (by show 11 + 5 ≤ 20; decide), fun lc nlc => ?_⟩
      obtain ⟨K17, e, y17, hlc⟩ := mkO nlc (.lst ([V.non, V.int 7, V.ref t1, V.ref t2, V.ref t3, V.ref t4, V.ref t5, V.ref t6, V.ref t7, V.ref t8, V.ref t9] ++ [V.ref t10, V.ref t11, V.ref t12, V.ref t13, V.ref t14]))
      rw [e]
      clear e
      have x17 := x16.trans y17
      have z217 : Same H2 K17 := ((((((((((y1.trans y2).trans y3).trans y4).trans y5).trans y6).trans y7).trans y8).trans y9).trans y10).trans z1016).trans y17
      refine ⟨_, rfl, lc, fo, _, _, rfl, rfl, hlc, z217 _ _ hfo2, small (by show 11 + 5 + vs'.length ≤ _; omega), fun ld nld => ?_⟩
      obtain ⟨K18, e, y18, hld⟩ := mkO nld (.lst ([V.non, V.int 7, V.ref t1, V.ref t2, V.ref t3, V.ref t4, V.ref t5, V.ref t6, V.ref t7, V.ref t8, V.ref t9] ++ [V.ref t10, V.ref t11, V.ref t12, V.ref t13, V.ref t14] ++ vs'))
      rw [e]
      clear e
      have x18 := x17.trans y18
      have hpf := x18 _ _ hpp
      have hp18 := hp.same x18
      have ldp := (hp.same x17).ne nld
      have w17 := y17.trans y18
      have w16 := y16.trans w17
      have w15 := y15.trans w16
      have w14 := y14.trans w15
      have w13 := y13.trans w14
      have w12 := y12.trans w13
      have w11 := y11.trans w12
      have w10 := y10.trans w11
      have w9 := y9.trans w10
      have w8 := y8.trans w9
      have w7 := y7.trans w8
      have w6 := y6.trans w7
      have w5 := y5.trans w6
      have w4 := y4.trans w5
      have w3 := y3.trans w4
      have w2 := y2.trans w3
      have w1 := y1.trans w2
      have t2p : t2 ≠ p := (hp.same x1).ne nt2
      have allO : ∀ v ∈ [V.non, V.int 7, V.ref t1, V.ref t2, V.ref t3, V.ref t4, V.ref t5, V.ref t6, V.ref t7, V.ref t8, V.ref t9] ++ [V.ref t10, V.ref t11, V.ref t12, V.ref t13, V.ref t14] ++ vs', Odd K p K18 rs out v := by
        intro v hv
        rcases List.mem_append.mp hv with hv | hv
        · simp only [List.cons_append, List.nil_append, List.mem_cons, List.mem_nil_iff, or_false] at hv
          rcases hv with rfl | rfl | rfl | rfl | rfl | rfl | rfl | rfl | rfl | rfl | rfl | rfl | rfl | rfl | rfl | rfl
          · exact odd_non
          · exact odd_int 7
          · exact odd_len hpf (w2 _ _ ht1) (by decide) (by show 1 ≤ 100; decide)
          · exact odd_lst (w3 _ _ ht2) t2p
          · exact odd_len hpf (w4 _ _ ht3) (by decide) (by show 3 ≤ 100; decide)
          · exact odd_bad hpf (w5 _ _ ht4) (num_s _) num_0 (.inl rfl)
          · exact odd_bad hpf (w6 _ _ ht5) num_0 num_n (.inr rfl)
          · exact odd_bad hpf (w7 _ _ ht6) num_m num_0 (.inl rfl)
          · exact odd_bad hpf (w8 _ _ ht7) num_0 num_m (.inr rfl)
          · refine odd_pair (q := (0, (((stA rs).length : Nat) : Int))) hpf (w9 _ _ ht8) (Int.le_refl _) (by show (0 : Int) ≤ (((stA rs).length : Nat) : Int); omega) ?_
            unfold isKeep
            show (_ && decide ((((stA rs).length : Nat) : Int) < ((stA rs).length : Nat)) && _) = false
            rw [decide_eq_false (Int.lt_irrefl _), Bool.and_false, Bool.false_and]
          · exact odd_len hpf (w10 _ _ ht9) (by decide) (by show 0 ≤ 100; decide)
          · refine odd_pair (q := ((10 : Int) ^ (29 : Int).toNat, 0)) hpf (w12 _ _ ht10) (by decide) (Int.le_refl _) ?_
            unfold isKeep
            have : ((10 : Int) ^ (29 : Int).toNat) ∉ vlA rs := fun z => by
              have := (vls_ok ok (Nat.le_refl _) z).2
              revert this
              decide
            show (decide (((10 : Int) ^ (29 : Int).toNat) ∈ vlA rs) && _ && _) = false
            rw [decide_eq_false this, Bool.false_and, Bool.false_and]
          · exact odd_bad hpf (w13 _ _ ht11) (fun _ => .bl true) num_0 (.inl rfl)
          · exact odd_bad hpf (w14 _ _ ht12) num_0 (fun _ => .bl true) (.inr rfl)
          · exact odd_bad hpf (w15 _ _ ht13) num_0 (fun _ => .bl false) (.inr rfl)
          · exact odd_dic hpf (w16 _ _ ht14)
        · exact ((od v hv).kt (.of (z217.trans y18))).odd hpf
      obtain ⟨OD, eOD⟩ : ∃ OD, OD = [V.non, V.int 7, V.ref t1, V.ref t2, V.ref t3, V.ref t4, V.ref t5, V.ref t6, V.ref t7, V.ref t8, V.ref t9] ++ [V.ref t10, V.ref t11, V.ref t12, V.ref t13, V.ref t14] ++ vs' := ⟨_, rfl⟩
      have lOD : OD.length ≤ 1000 ∧ 0 < OD.length := by
        rw [eOD]
        simp only [List.length_append, List.length_cons, List.length_nil]
        omega
      rw [← eOD] at hld allO
      clear eOD
      refine nm_of ?_
      dsimp only
      have lls := pr.len
      have hpl18 := x18 _ _ hpl
      refine ⟨_, rfl, _, rfl, pl, _, rfl, .inl (SqL.of hpl18), _, _, rfl, rfl, p, _, rfl, hp18, by omega, by omega, fun H19 d b19 hp19 d0 d1 => ?_⟩
      obtain ⟨at_, rfl⟩ := Int.eq_ofNat_of_zero_le d0
      refine ⟨_, rfl, _, rfl, _, rfl, ld, _, rfl, .inl (SqL.of (b19 _ _ hld ldp)), p, _, rfl, hp19, by omega, by omega, fun H20 d b20 hp20 d0 d2' => ?_⟩
      obtain ⟨ix, rfl⟩ := Int.eq_ofNat_of_zero_le d0
      have ixl : ix < OD.length := by omega
      have b1820 := b19.trans b20
      refine ⟨ld, _, _, _, rfl, rfl, SqL.of (b1820 _ _ hld ldp), atI_nat (List.getElem?_eq_getElem ixl), _, _, rfl, ?_⟩
      obtain ⟨th, eth⟩ : ∃ th, th = OD[ix] := ⟨_, rfl⟩
      have oth : Odd K p K18 rs out th := by rw [eth]; exact allO _ (List.getElem_mem ixl)
      rw [← eth]
      have hpl20 := b1820 _ _ hpl18 plp
      have pr20 : Prs H20 ls kp := prs_but (pr.same x18) hpf b1820
      obtain ⟨px20, py20, hpp20, _⟩ := id hp20
      refine ⟨_, rfl, _, rfl, _, rfl, pl, _, rfl, SqL.of hpl20, fun l1 n1 => ?_⟩
      rw [cutV_to]
      obtain ⟨M1, e, m1, hl1⟩ := mkO n1 (.lst (ls.take at_))
      rw [e]
      clear e
      refine ⟨_, rfl, d2 (by show 1 ≤ 20; decide), fun l2 n2 => ?_⟩
      obtain ⟨M2, e, m2, hl2⟩ := mkO n2 (.lst [th])
      rw [e]
      clear e
      refine ⟨l1, l2, _, _, rfl, rfl, m2 _ _ hl1, hl2, small (by rw [List.length_take, List.length_singleton]; omega), fun l3 n3 => ?_⟩
      obtain ⟨M3, e, m3, hl3⟩ := mkO n3 (.lst (ls.take at_ ++ [th]))
      rw [e]
      clear e
      have m13 := (m1.trans m2).trans m3
      refine ⟨_, rfl, _, rfl, _, rfl, pl, _, rfl, SqL.of (m13 _ _ hpl20), fun l4 n4 => ?_⟩
      rw [cutV_from]
      obtain ⟨M4, e, m4, hl4⟩ := mkO n4 (.lst (ls.drop at_))
      rw [e]
      clear e
      refine ⟨l3, l4, _, _, rfl, rfl, m4 _ _ hl3, hl4, small (by rw [List.length_append, List.length_take, List.length_singleton, List.length_drop]; omega), fun wl nwl => ?_⟩
      have wlp := (hp20.same (m13.trans m4)).ne nwl
      obtain ⟨M5, e, m5, hwl⟩ := mkO nwl (.lst (ls.take at_ ++ [th] ++ ls.drop at_))
      rw [e]
      clear e
      have m15 := (m13.trans m4).trans m5
      have b05 : But p H M5 := ((But.of x18).trans b1820).trans (But.of m15)
      have hp5 := hp20.same m15
      have atl : at_ ≤ ls.length := by omega
      have kb1 : KBp K p M5 rs out (.ref wl) (.int (at_ : Nat)) := by
        refine ⟨fun H' b' => .inr ⟨at_, ?_, rfl⟩, kb_int at_ (by omega)⟩
        obtain ⟨o, hth, ho⟩ := oth
        refine ⟨wl, _, th, kp.take at_, o, rfl, .inl (b' _ _ hwl wlp), ?_, by rw [List.length_take]; omega, ?_, gd.sub (List.take_sublist _ _), hth H' (b1820.trans ((But.of m15).trans b')), .inl ho, by rw [List.length_append, List.length_append, List.length_take, List.length_drop, List.length_singleton]; omega⟩
        · rw [List.append_assoc, List.getElem?_append_right (by rw [List.length_take]; omega), List.length_take, Nat.min_eq_left atl, Nat.sub_self]
          rfl
        · rw [List.append_assoc, List.take_left' (by rw [List.length_take]; omega)]
          exact prs_but (prs_take (pr20.same m15) at_) (m15 _ _ hpp20) b'
      refine nm_of ?_
      dsimp only
      refine seq_cut (fun σ H' => ∃ wv av u5 u6 u7 u9, But p H H' ∧ PotAt H' p ∧ KBp K p H' rs out wv av ∧ σ = [some (.ref p), some (.ref st), some (.ref A.b), some (.ref pl), u5, u6, u7, u9, some av, some th, some wv]) (fun N hN => ?_) ?_
      · refine tt_cut (fun b H' => But p M5 H' ∧ PotAt H' p ∧ (b = true → kp ≠ [])) (fun R hR => ?_) ?_
        · refine ⟨_, rfl, (by show 0 ≤ sizeLine; decide), fun e1 ne1 => ?_⟩
          obtain ⟨N1, e, n1, he1⟩ := mkO ne1 (.lst [])
          rw [e]
          clear e
          refine ne_pd (dp_prs (n1 _ _ (m15 _ _ hpl20)) ((pr20.same m15).same n1)) (dp_ints (l := []) he1) (pn_prs kp) (pn_ints []) fun bb hbb => ⟨_, rfl, iteB (fun c1 => ?_) (fun c1 => ?_)⟩
          · refine ⟨_, rfl, p, _, rfl, hp5.same n1, by decide, by decide, fun H6 d b6 hp6 d0 d1 => ⟨rfl, _, rfl, hR _ _ ⟨(But.of n1).trans b6, hp6, fun _ z => ?_⟩⟩⟩
            rw [z] at hbb
            rw [hbb.mpr rfl] at c1
            cases c1
          · exact hR _ _ ⟨But.of n1, hp5.same n1, fun z => by cases z⟩
        rintro bb H6 ⟨b6, hp6, hne⟩
        cases bb with
        | false => exact iteF (hN _ _ ⟨_, _, _, _, _, _, b05.trans b6, hp6, kb1.but b6, rfl⟩)
        | true =>
          have ne := hne rfl
          have kpl : 0 < kp.length := List.length_pos_iff.mpr ne
          have hpl6 := b6 _ _ (m15 _ _ hpl20) plp
          refine iteT ⟨_, rfl, pl, _, rfl, .inl (SqL.of hpl6), _, rfl, _, rfl, _, rfl, _, rfl, pl, _, rfl, .inl (SqL.of hpl6), p, _, rfl, hp6, by omega, by omega, fun H7 d b7 hp7 d0 d1 => ?_⟩
          obtain ⟨iy, rfl⟩ := Int.eq_ofNat_of_zero_le d0
          have iyl : iy < ls.length := by omega
          have iyk : iy < kp.length := by omega
          have hpl7 := b7 _ _ hpl6 plp
          refine ⟨pl, _, _, _, rfl, rfl, SqL.of hpl7, atI_nat (List.getElem?_eq_getElem iyl), d2 (by show 1 ≤ 20; decide), fun l5 n5 => ?_⟩
          obtain ⟨N2, e, o2, hl5⟩ := mkO n5 (.lst [ls[iy]])
          rw [e]
          clear e
          refine ⟨pl, l5, _, _, rfl, rfl, o2 _ _ hpl7, hl5, small (by rw [List.length_singleton]; omega), fun w2 nw2 => ?_⟩
          have w2p := (hp7.same o2).ne nw2
          obtain ⟨N3, e, o3, hw2⟩ := mkO nw2 (.lst (ls ++ [ls[iy]]))
          rw [e]
          clear e
          have b57 : But p M5 N3 := (b6.trans b7).trans (But.of (o2.trans o3))
          refine ⟨_, _, rfl, hN _ _ ⟨_, _, _, _, _, _, b05.trans b57, hp7.same (o2.trans o3), ⟨fun H' b' => .inr ⟨ls.length, ?_, rfl⟩, kb_int ls.length (by omega)⟩, rfl⟩⟩
          have prF : Prs H' ls kp := prs_but (pr20.same m15) (m15 _ _ hpp20) (b57.trans b')
          refine ⟨w2, _, ls[iy], kp, some kp[iy], rfl, .inl (b' _ _ hw2 w2p), ?_, lls.symm, ?_, gd, .pair (prF.at_ iy _ _ (List.getElem?_eq_getElem iyl) (List.getElem?_eq_getElem iyk)) (gd.nn _ (List.getElem_mem iyk)).1 (gd.nn _ (List.getElem_mem iyk)).2, .inr ⟨_, rfl, List.getElem_mem iyk⟩, by rw [List.length_append, List.length_singleton]; omega⟩
          · rw [List.getElem?_append_right (Nat.le_refl _), Nat.sub_self]
            rfl
          · rw [List.take_left' rfl]
            exact prF
      rintro σ H6 ⟨wv, av, u5, u6, u7, u9, b6, hp6, kb6, rfl⟩
      refine seq_cut (fun σ H' => ∃ wv av u5 u6 u7 u9, But p H H' ∧ PotAt H' p ∧ KBp K p H' rs out wv av ∧ σ = [some (.ref p), some (.ref st), some (.ref A.b), some (.ref pl), u5, u6, u7, u9, some av, some th, some wv]) (fun N hN => ?_) ?_
      · refine ⟨_, rfl, p, _, rfl, hp6, by decide, by decide, fun H7 d b7 hp7 d0 d1 => ⟨rfl, _, rfl, iteB (fun c1 => ?_) (fun c1 => hN _ _ ⟨_, _, _, _, _, _, b6.trans b7, hp7, kb6.but b7, rfl⟩)⟩⟩
        refine fun t nt => ?_
        obtain ⟨N1, e, n1, ht⟩ := mkO nt (.dK [])
        rw [e]
        clear e
        refine ⟨d2 (by show 5 ≤ 20; decide), fun l nl => ?_⟩
        have lp := (hp7.same n1).ne nl
        obtain ⟨N2, e, n2, hl⟩ := mkO nl (.lst [.non, .int 7, .str "", .ref t, .bl true])
        rw [e]
        clear e
        have hp2 := hp7.same (n1.trans n2)
        refine ⟨_, rfl, p, _, rfl, hp2, by decide, by decide, fun H8 d b8 hp8 d0 d1 => ?_⟩
        obtain ⟨iy, rfl⟩ := Int.eq_ofNat_of_zero_le d0
        have iyl : iy < [V.non, .int 7, .str "", .ref t, .bl true].length := by show iy < 5; omega
        refine ⟨l, _, _, _, rfl, rfl, SqL.of (b8 _ _ hl lp), atI_nat (List.getElem?_eq_getElem iyl), _, _, rfl, hN _ _ ⟨_, _, _, _, _, _, (b6.trans b7).trans ((But.of (n1.trans n2)).trans b8), hp8, ⟨fun H' b' => .inl ⟨?_, rfl⟩, kb_non⟩, rfl⟩⟩
        have tp : t ≠ p := hp7.ne nt
        have ht' := b' _ _ (b8 _ _ (n2 _ _ ht) tp) tp
        have hm := List.getElem_mem iyl
        generalize [V.non, .int 7, .str "", .ref t, .bl true][iy] = u at hm ⊢
        simp only [List.mem_cons, List.mem_nil_iff, or_false] at hm
        rcases hm with rfl | rfl | rfl | rfl | rfl
        · exact ⟨_, fun _ _ => .base .non, kNL, kNT⟩
        · exact ⟨_, fun _ _ => .base (.int 7), kIL, kIT⟩
        · exact ⟨_, fun _ _ => .base (.str _), kSL, kST⟩
        · exact ⟨_, fun _ s => .base (.dK (s _ _ ht')), kDL, kDT⟩
        · exact ⟨_, fun _ _ => .base (.bl true), kBL, kBT⟩
      rintro σ H7 ⟨wv, av, u5, u6, u7, u9, b7, hp7, kb7, rfl⟩
      obtain ⟨kb, d, hd, sh, hc, hdp⟩ := kb7
      refine ⟨_, rfl, _, rfl, st, rs, out, wv, rfl, (hsb H7 b7).1, ok, av, kb H7 .refl, fun H8 r1 s8 n1 h1 => ?_⟩
      refine ⟨_, rfl, _, rfl, _, _, rfl, rfl, ⟨by decide, by decide, by decide⟩, st, rs, out, wv, _, _, rfl, (hsb H8 (b7.trans (But.of s8))).1, ok, .int _ (by decide), .inl ⟨av, (kb H7 .refl).same s8, fun H9 r2 s9 n2 h2 => ?_⟩⟩
      refine ⟨d2 (by show 2 ≤ 20; decide), fun l nl => ?_⟩
      obtain ⟨N1, e, n1', hl⟩ := mkO nl (.lst [.ref r1, .ref r2])
      rw [e]
      clear e
      refine ⟨_, _, rfl, dq_kd hl (n1' _ _ (s9 _ _ h1)) (n1' _ _ h2) (hd _) sh hc hdp, ?_⟩
      refine ⟨_, rfl, d2 (by show 2 ≤ 20; decide), fun r3 n3 => ?_⟩
      obtain ⟨N2, e, n2', h3⟩ := mkO n3 (.lst [.str "keeps", av])
      rw [e]
      clear e
      refine ⟨d2 (by show 1 ≤ 20; decide), fun l3 nl3 => ?_⟩
      obtain ⟨N3, e, n3', hl3⟩ := mkO nl3 (.lst [.ref r3])
      rw [e]
      clear e
      refine ⟨l3, 2, _, rfl, rfl, hl3, by decide, by decide, d2 (by show 1 * 2 ≤ 20; decide), fun l4 nl4 => ?_⟩
      obtain ⟨N4, e, n4', hl4⟩ := mkO nl4 (.lst [.ref r3, .ref r3])
      rw [show (List.replicate (2 : Int).toNat [V.ref r3]).flatten = [.ref r3, .ref r3] from rfl, e]
      clear e
      refine ⟨_, _, rfl, dq_kd hl4 (n4' _ _ (n3' _ _ h3)) (n4' _ _ (n3' _ _ h3)) (hd _) sh hc hdp, rfl, ?_⟩
      rw [decide_eq_true rfl]
      have sE : Same H7 N4 := ((((s8.trans s9).trans n1').trans n2').trans n3').trans n4'
      exact q _ (b7.trans (But.of sE)) (hp7.same sE)
end
end K62

set_option Elab.async false
set_option linter.all false
set_option maxRecDepth 100000
set_option maxHeartbeats 2000000
/-! L62h: fewer keeps. -/
namespace K62
open PySem PySem.Spec PyProof.Rows L2 LL ST
abbrev s_l_fewer_right : Stmt := top 49
abbrev n_l_fewer_right : List Str := ["_law_pot_here", "_law_stretch", "_law_book_here", "_law_pairs", "_law_gone", "_law_stop"]
theorem sc_l_fewer_right : FnScope n_l_fewer_right ["_law_pot_here", "_law_stretch", "_law_book_here", "_law_pairs"] (defScope s_l_fewer_right) := ⟨rfl, rfl, rfl, by decide +kernel, rfl, by decide +kernel, by decide +kernel⟩
section
variable {P : Program} {w : World} {K : PySem.W.Frag} {mg : Str → Option Value} {base : Heap} {C CE CK CS : Addr} {f : Addr} {fd : FuncData}
def But2 (p l : Addr) (H H' : Hp) : Prop := ∀ a o, H a = some o → a ≠ p → a ≠ l → H' a = some o
theorem But2.of {p l : Addr} {H H' : Hp} (s : Same H H') : But2 p l H H' := fun a o h _ _ => s a o h
theorem But2.b {p l : Addr} {H H' : Hp} (s : But p H H') : But2 p l H H' := fun a o h n _ => s a o h n
theorem But2.trans {p l : Addr} {H H' H'' : Hp} (s : But2 p l H H') (t : But2 p l H' H'') : But2 p l H H'' := fun a o h n m => t a o (s a o h n m) n m
/-- what is told of a sorted list -/
theorem srt_eq {a b c : List Int} (h1 : a.Perm c) (s1 : a.Pairwise (· ≤ ·)) (h2 : b.Perm c) (s2 : b.Pairwise (· ≤ ·)) : a = b := by
  refine List.Perm.eq_of_pairwise (le := (· ≤ ·)) (fun x y _ _ h h' => Int.le_antisymm h h') s1 s2 (h1.trans h2.symm)
theorem iok_log {n : Int} (h : IOk n) : n.natAbs.log2 < 1920 := Nat.lt_of_lt_of_le (PySem.Flt.log2_lt_of (k := 100) (by decide) (by have := h.1; have := h.2; omega)) (by decide)
theorem shw_ints {l : List Int} (h : ∀ n ∈ l, IOk n) : ShwAll (l.map PyData.int) ∧ costAll (l.map PyData.int) = 1932 * l.length ∧ PyData.depthAll (l.map PyData.int) = 0 := by
  induction l with
  | nil => exact ⟨trivial, rfl, rfl⟩
  | cons n l ih =>
    obtain ⟨a, b, c⟩ := ih fun m hm => h m (List.mem_cons_of_mem _ hm)
    refine ⟨⟨iok_log (h n (List.mem_cons_self ..)), a⟩, ?_, ?_⟩
    · rw [List.map_cons, List.length_cons]
      simp only [costAll, cost]
      omega
    · rw [List.map_cons]
      simp only [PyData.depthAll, PyData.depth, c]
      rfl
theorem shw_all {l : List PyData} {c n : Nat} (h : ∀ d ∈ l, Shw d ∧ cost d ≤ c ∧ d.depth ≤ n) : ShwAll l ∧ costAll l ≤ (c + 2) * l.length ∧ PyData.depthAll l ≤ n := by
  induction l with
  | nil => exact ⟨trivial, Nat.zero_le _, by simp only [PyData.depthAll]; exact Nat.zero_le _⟩
  | cons d l ih =>
    obtain ⟨a, b, e⟩ := ih fun m hm => h m (List.mem_cons_of_mem _ hm)
    obtain ⟨a1, b1, e1⟩ := h d (List.mem_cons_self ..)
    refine ⟨⟨a1, a⟩, ?_, ?_⟩
    · simp only [costAll]
      rw [List.length_cons, Nat.mul_add, Nat.mul_one]
      omega
    · simp only [PyData.depthAll]
      exact Nat.max_le.mpr ⟨e1, e⟩
/-- data that repr can show -/
structure Tel (K : PySem.W.Frag) (H : Hp) (x : V) (d : PyData) : Prop where
  dp : Dp K H x d
  sh : Shw d
  c : cost d ≤ 4000000
  dep : d.depth ≤ 30
theorem Tel.dq {H : Hp} {x : V} {d : PyData} (h : Tel K H x d) : Dq K H x d := dq_of h.dp h.sh (Nat.le_trans h.dep (by decide)) (Nat.le_trans h.c (by rw [sizeLine_eq]; decide))
theorem Tel.same {H H' : Hp} {x : V} {d : PyData} (h : Tel K H x d) (s : Same H H') : Tel K H' x d := ⟨Dp.same s h.dp, h.sh, h.c, h.dep⟩
theorem tel_ints {H : Hp} {a : Addr} {ns : List Int} (ha : H a = some (.lst (ns.map V.int))) (h : ∀ n ∈ ns, IOk n) (hl : ns.length ≤ 100) : Tel K H (.ref a) (.list (ns.map PyData.int)) := by
  obtain ⟨h1, h2, h3⟩ := shw_ints h
  refine ⟨dp_ints ha, h1, ?_, ?_⟩
  · simp only [cost]
    omega
  · simp only [PyData.depth]
    omega
theorem tel_prs {H : Hp} {a : Addr} {vs : List V} {ps : List IP} (ha : H a = some (.lst vs)) (h : Prs H vs ps) (ho : ∀ q ∈ ps, IOk q.1 ∧ IOk q.2) (hl : ps.length ≤ 900) : Tel K H (.ref a) (prsD ps) := by
  obtain ⟨h1, h2, h3⟩ := shw_all (l := ps.map ipD) (c := 4000) (n := 1) fun d hd => by
    obtain ⟨q, hq, rfl⟩ := List.mem_map.mp hd
    obtain ⟨o1, o2⟩ := ho q hq
    unfold ipD
    refine ⟨?_, ?_, ?_⟩
    · simp only [Shw, ShwAll, and_true]
      exact ⟨iok_log o1, iok_log o2⟩
    · simp only [cost, costAll]
      decide
    · simp only [PyData.depth, PyData.depthAll]
      decide
  rw [List.length_map] at h2
  refine ⟨dp_prs ha h, h1, ?_, ?_⟩
  · unfold prsD
    simp only [cost]
    omega
  · unfold prsD
    simp only [PyData.depth]
    omega
theorem good_iok {rs : Rs} {out : List Int} {ps : List IP} (ok : RsOk rs) (h : Good rs out ps) : ∀ q ∈ ps, IOk q.1 ∧ IOk q.2 := fun q hq => by
  have k := h.kp q hq
  have n := h.nn q hq
  unfold isKeep at k
  simp only [Bool.and_eq_true, decide_eq_true_eq] at k
  have lst : (stA rs).length ≤ rs.length := stp_len rs rs.length
  have ll := ok.len
  have := k.1.2
  exact ⟨vls_ok ok (Nat.le_refl _) k.1.1, n.2, by omega⟩
theorem kn_iok {rs : Rs} {out : List Int} {kp : Kps} {k : Nat} (ok : RsOk rs) {ns : List Int} (h : ns.Perm (knA rs out kp k)) : (∀ n ∈ ns, IOk n) ∧ ns.length ≤ 100 := by
  have ll := ok.len
  have e := kn_is ok out kp k
  refine ⟨fun n hn => ?_, ?_⟩
  · have := h.mem_iff.mp hn
    rw [e] at this
    exact vls_ok ok (Nat.le_refl _) (prs_mem (List.mem_filter.mp this).1)
  · have := knA_len rs out kp k
    rw [h.length_eq]
    omega
/-- what is told of the first loss -/
def MsD (rs : Rs) (out : List Int) (kp : Kps) (d : PyData) : Prop := (d = .none ∧ ∀ j, j < (stA rs).length → ∀ x ∈ ask rs j, x ∉ lostA rs out kp j) ∨ ∃ (k : Nat) (v : Int), d = .tuple [.int (k : Nat), .int v] ∧ FM rs out kp k v
theorem MsD.uniq {rs : Rs} {out : List Int} {kp : Kps} {d e : PyData} (h : MsD rs out kp d) (h' : MsD rs out kp e) : d = e := by
  rcases h with ⟨rfl, h⟩ | ⟨k, v, rfl, h⟩
  · rcases h' with ⟨rfl, _⟩ | ⟨k, v, rfl, h'⟩
    · rfl
    · exact (h'.no h).elim
  · rcases h' with ⟨rfl, h'⟩ | ⟨k', v', rfl, h'⟩
    · exact (h.no h').elim
    · obtain ⟨rfl, rfl⟩ := h.uniq h'
      rfl
theorem tel_none {H : Hp} : Tel K H .non .none := ⟨.non, by simp only [Shw], by simp only [cost]; decide, by simp only [PyData.depth]; decide⟩
theorem tel_fm {H : Hp} {t : Addr} {rs : Rs} {out : List Int} {kp : Kps} {k : Nat} {v : Int} (ok : RsOk rs) (ht : H t = some (.tup [.int (k : Nat), .int v])) (h : FM rs out kp k v) : Tel K H (.ref t) (.tuple [.int (k : Nat), .int v]) := by
  have lst : (stA rs).length ≤ rs.length := stp_len rs rs.length
  have ll := ok.len
  have hk := h.hk
  have o1 : IOk (k : Nat) := ⟨by omega, by omega⟩
  have o2 : IOk v := vls_ok ok (Nat.le_refl _) (prs_mem (ask_prs ok h.hk h.ha))
  refine ⟨.tup (SqT.of ht) (.cons (.int _) (.cons (.int _) .nil)), ?_, ?_, ?_⟩
  · simp only [Shw, ShwAll, and_true]
    exact ⟨iok_log o1, iok_log o2⟩
  · simp only [cost, costAll]
    decide
  · simp only [PyData.depth, PyData.depthAll]
    decide
theorem ms_call {H : Hp} {st a : Addr} {rs : Rs} {out : List Int} {kp : List IP} {Q : VK} {E : XK} (hst : StAt C H st rs out) (ok : RsOk rs) (ha : PsAt H a kp) (gd : Good rs out kp) (lk : kp.length ≤ 1000) (q : ∀ H' x d, Same H H' → Tel K H' x d → MsD rs out kp d → Q x H') : spMs K C CK [.ref st, .ref a] H Q E :=
  ⟨st, rs, out, _, rfl, hst, ok, .inr ⟨a, kp, rfl, ha, gd, lk, fun H' t k v s ht fm => q H' _ _ s (tel_fm ok ht fm) (.inr ⟨k, v, rfl, fm⟩), fun H' s no => q H' _ _ s tel_none (.inl ⟨rfl, no⟩)⟩⟩
theorem fl_call {H : Hp} {b d : Addr} {rs : Rs} {out : List Int} {kp : List IP} {Q : VK} {E : XK} (hb : BookAt H b rs out) (ok : RsOk rs) (gn : GoneAt H d rs out kp) (q : ∀ H' x d, Same H H' → Tel K H' x d → MsD rs out kp d → Q x H') : spFl [.ref b, .ref d] H Q E :=
  ⟨b, d, rs, out, kp, rfl, hb, ok, gn, fun H' t k v s ht fm => q H' _ _ s (tel_fm ok ht fm) (.inr ⟨k, v, rfl, fm⟩), fun H' s no => q H' _ _ s tel_none (.inl ⟨rfl, no⟩)⟩
/-- the sorted list of what is known at k -/
def KnL (rs : Rs) (out : List Int) (kp : Kps) (k : Nat) (ns : List Int) : Prop := ns.Perm (knA rs out kp k) ∧ ns.Pairwise (· ≤ ·)
theorem KnL.uniq {rs : Rs} {out : List Int} {kp : Kps} {k : Nat} {a b : List Int} (h : KnL rs out kp k a) (h' : KnL rs out kp k b) : a = b := srt_eq h.1 h.2 h'.1 h'.2
theorem kn_call {H : Hp} {st a : Addr} {rs : Rs} {out : List Int} {kp : List IP} {k : Nat} {Q : VK} {E : XK} (hst : StAt C H st rs out) (ok : RsOk rs) (ha : PsAt H a kp) (gd : Good rs out kp) (lk : kp.length ≤ 1000) (hk : k < (stA rs).length) (q : ∀ H' r ns, Same H H' → H r = none → H' r = some (.lst (ns.map V.int)) → KnL rs out kp k ns → Tel K H' (.ref r) (.list (ns.map PyData.int)) → Q (.ref r) H') : spKn K C CK CS [.ref st, .ref a, .int (k : Nat)] H Q E :=
  ⟨st, rs, out, _, _, some (k : Int), rfl, hst, ok, .int _ (by omega), .inr ⟨a, kp, rfl, ha, gd, lk, .inr ⟨k, rfl, hk, fun H' r ns s nr hr pm so => q H' r ns s nr hr ⟨pm, so⟩ (tel_ints hr (kn_iok ok pm).1 (kn_iok ok pm).2)⟩⟩⟩
theorem left_call {H : Hp} {b d : Addr} {rs : Rs} {out : List Int} {kp : List IP} {k : Nat} {Q : VK} {E : XK} (hb : BookAt H b rs out) (ok : RsOk rs) (gn : GoneAt H d rs out kp) (hk : k < (stA rs).length) (q : ∀ H' r ns, Same H H' → H r = none → H' r = some (.lst (ns.map V.int)) → KnL rs out kp k ns → Tel K H' (.ref r) (.list (ns.map PyData.int)) → Q (.ref r) H') : spLeft [.ref b, .ref d, .int (k : Nat)] H Q E :=
  ⟨b, d, rs, out, kp, k, rfl, hb, ok, gn, hk, fun H' r ns s nr hr pm so => q H' r ns s nr hr ⟨pm, so⟩ (tel_ints hr (kn_iok ok pm).1 (kn_iok ok pm).2)⟩
theorem prs_erase {H : Hp} {vs : List V} {ps : List IP} (h : Prs H vs ps) (n : Nat) : Prs H (vs.eraseIdx n) (ps.eraseIdx n) := by
  refine ⟨by rw [List.length_eraseIdx, List.length_eraseIdx, h.len], fun i v q e1 e2 => ?_⟩
  rw [List.getElem?_eraseIdx] at e1 e2
  split at e1
  · exact h.at_ _ _ _ e1 (by rwa [if_pos (by assumption)] at e2)
  · exact h.at_ _ _ _ e1 (by rwa [if_neg (by assumption)] at e2)
def spFw (C : Addr) : Sp := fun vs H Q _ => ∃ (p st b pl : Addr) (rs : Rs) (out : List Int) (ls : List V) (kp : List IP), vs = [.ref p, .ref st, .ref b, .ref pl] ∧ PotAt H p ∧ RsOk rs ∧ (∀ H', But2 p pl H H' → StAt C H' st rs out ∧ BookAt H' b rs out) ∧ H pl = some (.lst ls) ∧ pl ≠ p ∧ Prs H ls kp ∧ Good rs out kp ∧ kp.length ≤ 900 ∧ 0 < kp.length ∧
  ∀ H', But2 p pl H H' → PotAt H' p → Q (.bl true) H'
theorem ok_l_fewer_right (T : Tx K mg C) (G_l_draw : Fnc P w K mg base CX0 1 "_law_draw" [] spTake) (G_l_lost : Fnc P w K mg base CX0 3 "_law_lost" [] spLost) (G_l_left : Fnc P w K mg base CX0 2 "_law_left" [] spLeft) (G_l_first_lost : Fnc P w K mg base CX0 1 "_law_first_lost" [] spFl) (G_known : Fnc P w K mg base (L2.CX P w) 7 "known" [] (spKn K C CK CS)) (G_missing : Fnc P w K mg base (L2.CX P w) 7 "missing" [] (spMs K C CK))
    (F : FD K "_law_fewer_right" "_law_fewer_right" s_l_fewer_right [] f fd) : FnG P w K mg base CX0 8 f fd ["_law_pot_here", "_law_stretch", "_law_book_here", "_law_pairs"] (spFw C) := by
  refine ok0 F sc_l_fewer_right (fun vs H Q E h => ?_) (fun cdv A outer s H vs Q E hr h => ?_)
  · obtain ⟨p, st, b, pl, rs, out, ls, kp, rfl, _⟩ := h
    rfl
  · obtain ⟨p, st, b, pl, rs, out, ls, kp, rfl, hp, ok, hsb, hpl, plp, pr, gd, lk, l0, q⟩ := h
    refine ⟨_, (pss_cons (ps_expr (pe_bm PySem.F.plainAttrs_list PySem.F.slot_list_pop PySem.F.type_list_pop mt_popAt (pv 3) (pa_cons (pe_fn G_l_draw (hr.mono (by decide)) pass0 (pa_cons (pv 0) (pa_cons (pe_callB call_len_seq (by rfl) T.n_len (by decide +kernel) (pa_cons (pv 3) pa_nil)) pa_nil))) pa_nil)))
      (pss_cons (ps_set (i := 4) sc_l_fewer_right.nd rfl (by first | exact Or.inl rfl | exact Or.inr rfl) (pe_fn G_l_lost (hr.mono (by decide)) pass0 (pa_cons (pv 2) (pa_cons (pv 3) pa_nil))))
      (pss_cons (ps_for PassesOwn.never rfl (pi_range1 (by rfl) T.n_range (pa_cons (pe_callB call_len_seq (by rfl) T.n_len (by decide +kernel) (pa_cons (pe_dget (un1 hr.r.units) (pv 2) pe_str (fun _ _ => rfl)) pa_nil)) pa_nil)) (pg_name (i := 5) sc_l_fewer_right.nd rfl (by first | exact Or.inl rfl | exact Or.inr rfl)) (pss_one (ps_if (pt_cmpR op_ne (pe_callB (call_reprV (K := K) (by rfl) hr.g hr.r.units) (by rfl) T.n_repr (by decide +kernel) (pa_cons (pe_fn G_known (hr.mono (by decide)) passF (pa_cons (pv 1) (pa_cons (pv 3) (pa_cons (pv 5) pa_nil)))) pa_nil)) (pe_callB (call_reprV (K := K) (by rfl) hr.g hr.r.units) (by rfl) T.n_repr (by decide +kernel) (pa_cons (pe_fn G_l_left (hr.mono (by decide)) pass0 (pa_cons (pv 2) (pa_cons (pv 4) (pa_cons (pv 5) pa_nil)))) pa_nil)) (nomark _)) (pss_one (ps_ret pe_bl)) pss_nil)))
      (pss_one (ps_ret (pe_cmpR op_eq (pe_callB (call_reprV (K := K) (by rfl) hr.g hr.r.units) (by rfl) T.n_repr (by decide +kernel) (pa_cons (pe_fn G_missing (hr.mono (by decide)) passF (pa_cons (pv 1) (pa_cons (pv 3) pa_nil))) pa_nil)) (pe_callB (call_reprV (K := K) (by rfl) hr.g hr.r.units) (by rfl) T.n_repr (by decide +kernel) (pa_cons (pe_fn G_l_first_lost (hr.mono (by decide)) pass0 (pa_cons (pv 2) (pa_cons (pv 4) pa_nil))) pa_nil)) (nomark _))))))), ?_⟩
    have lls := pr.len
    have ll := ok.len
    have lst : (stA rs).length ≤ rs.length := stp_len rs rs.length
    refine ⟨_, rfl, .inl ⟨rfl, _, SqL.of hpl⟩, _, rfl, _, rfl, pl, _, rfl, .inl (SqL.of hpl), p, _, rfl, hp, by omega, by omega, fun H1 d b1 hp1 d0 d1 => ?_⟩
    obtain ⟨ix, rfl⟩ := Int.eq_ofNat_of_zero_le d0
    have ixl : ix < ls.length := by omega
    have hpl1 := b1 _ _ hpl plp
    obtain ⟨px, py, hpp, pok⟩ := id hp1
    obtain ⟨opx, opy, hopp, _⟩ := id hp
    refine ⟨pl, ls, _, ix, ls[ix], rfl, rfl, hpl1, by omega, by omega, seq_ix ixl, List.getElem?_eq_getElem ixl, ?_⟩
    obtain ⟨G, eG⟩ : ∃ G, G = upd H1 pl (.lst (ls.eraseIdx ix)) := ⟨_, rfl⟩
    have hG : G pl = some (.lst (ls.eraseIdx ix)) := by rw [eG]; exact upd_same
    have oG : ∀ a o, H1 a = some o → a ≠ pl → G a = some o := fun a o h n => by rw [eG]; unfold upd; rw [if_neg n]; exact h
    rw [← eG]
    clear eG
    have bG : But2 p pl H G := (But2.b b1).trans fun a o h _ n => oG a o h n
    have hpG : PotAt G p := ⟨px, py, oG _ _ hpp (Ne.symm plp), pok⟩
    obtain ⟨hst, hbk⟩ := hsb G bG
    have prG : Prs G (ls.eraseIdx ix) (kp.eraseIdx ix) := prs_kt (prs_erase (prs_but pr hopp b1) ix) fun a xs h => oG a _ h fun z => by rw [z, hpl1] at h; cases h
    have gdG : Good rs out (kp.eraseIdx ix) := gd.sub (List.eraseIdx_sublist _ _)
    have lkG : (kp.eraseIdx ix).length ≤ 1000 := Nat.le_trans (List.eraseIdx_sublist _ _).length_le (by omega)
    obtain ⟨kq, ekq⟩ : ∃ kq, kq = kp.eraseIdx ix := ⟨_, rfl⟩
    rw [← ekq] at prG gdG lkG
    clear ekq
    have psG : PsAt G pl kq := ⟨_, .inl hG, prG⟩
    obtain ⟨A, okv, av, rfl, bz, opa, asa⟩ := id hbk
    have dg4 : ∀ {H'}, Same G H' → DGet H' A.b (.str "stops") (some (.ref A.st)) := fun s => by
      have := DGet.k (k := Sum.inr "stops") (bz.same s).hb
      rw [bk4] at this
      exact this
    dsimp only
    refine ⟨_, rfl, _, rfl, A.b, pl, rs, out, kq, rfl, hbk, ok, psG, fun H2 d s2 nd gn => ?_⟩
    refine nm_of ?_
    dsimp only
    refine ⟨_, rfl, A.b, _, rfl, dg4 s2, A.st, _, rfl, .inl (SqL.of (bz.same s2).hs), _, rfl, by omega, by rw [List.length_map]; omega, ?_⟩
    rw [List.length_map, Int.toNat_natCast]
    refine for_it (walk_range (lo := 0) (n := (stA rs).length)) (fun i σ H' => Same G H' ∧ GoneAt H' d rs out kq ∧ ∃ u5, σ = [some (.ref p), some (.ref st), some (.ref A.b), some (.ref pl), some (.ref d), u5]) ⟨s2, gn, _, rfl⟩ (fun _ _ _ _ _ => trivial) ?_ ?_
    · rintro k x σ H4 H3 hk ⟨s3, gn3, u5, rfl⟩ ⟨rfl, rfl⟩
      refine nm_of ?_
      dsimp only
      rw [Int.zero_add]
      refine ⟨_, rfl, _, rfl, _, rfl, ?_⟩
      try unfold tNil
      refine kn_call (hst.same s3) ok (psG.same s3) gdG lkG hk fun H5 r1 n1 s5 nr1 hr1 kn1 t1 => ?_
      refine ⟨_, _, rfl, t1.dq, ?_⟩
      refine ⟨_, rfl, _, rfl, _, rfl, ?_⟩
      try unfold tNil
      refine left_call (K := K) (hbk.same (s3.trans s5)) ok (gn3.same s5) hk fun H6 r2 n2 s6 nr2 hr2 kn2 t2 => ?_
      refine ⟨_, _, rfl, t2.dq, ?_⟩
      rw [kn1.uniq kn2]
      refine ⟨rfl, _, rfl, iteN (by rw [decide_eq_true rfl]; rfl) ⟨(s3.trans s5).trans s6, (gn3.same s5).same s6, _, rfl⟩⟩
    · rintro σ H3 ⟨s3, gn3, u5, rfl⟩
      refine ⟨_, rfl, _, rfl, ?_⟩
      try unfold tNil
      refine ms_call (hst.same s3) ok (psG.same s3) gdG lkG fun H5 x d1 s5 t1 m1 => ?_
      refine ⟨_, _, rfl, t1.dq, ?_⟩
      refine ⟨_, rfl, _, rfl, ?_⟩
      try unfold tNil
      refine fl_call (K := K) (hbk.same (s3.trans s5)) ok (gn3.same s5) fun H6 y d2 s6 t2 m2 => ?_
      refine ⟨_, _, rfl, t2.dq, rfl, ?_⟩
      rw [m1.uniq m2, decide_eq_true rfl]
      have sE := (s3.trans s5).trans s6
      exact q _ (bG.trans (But2.of sE)) (hpG.same sE)
end
end K62

set_option Elab.async false
set_option linter.all false
set_option maxRecDepth 100000
set_option maxHeartbeats 2000000
/-! L62i: the law for one pot. -/
namespace K62
open PySem PySem.Spec PyProof.Rows L2 LL ST
abbrev s_l_right : Stmt := top 50
abbrev n_l_right : List Str := ["_law_pot_here", "_law_rows_here", "_law_out", "_law_stretch", "_law_book_here", "_law_odds", "_law_able", "_law_pairs", "_law_one", "_law_gone", "_law_shown", "_law_more", "_law_stop", "_law_due", "_law_told", "_law_value", "_law_first"]
theorem sc_l_right : FnScope n_l_right ["_law_pot_here"] (defScope s_l_right) := ⟨rfl, rfl, rfl, by decide +kernel, rfl, by decide +kernel, by decide +kernel⟩
section
variable {P : Program} {w : World} {K : PySem.W.Frag} {mg : Str → Option Value} {base : Heap} {C CE CK CS : Addr} {f : Addr} {fd : FuncData}
/-! ### keeps in another order -/
theorem lost_iff {rs : Rs} {out : List Int} {kp kp' : Kps} (h : ∀ q, q ∈ kp ↔ q ∈ kp') (k : Nat) (n : Int) : n ∈ lostA rs out kp k ↔ n ∈ lostA rs out kp' k := ⟨lost_mono (fun q hq => (h q).mpr hq) k n, lost_mono (fun q hq => (h q).mp hq) k n⟩
theorem kn_iff {rs : Rs} (ok : RsOk rs) {out : List Int} {kp kp' : Kps} (h : ∀ q, q ∈ kp ↔ q ∈ kp') (k : Nat) : knA rs out kp k = knA rs out kp' k := by
  rw [kn_is ok, kn_is ok]
  congr 1
  funext n
  rw [decide_eq_decide.mpr (lost_iff h k n)]
theorem KnL.iff {rs : Rs} (ok : RsOk rs) {out : List Int} {kp kp' : Kps} {k : Nat} {ns : List Int} (h : ∀ q, q ∈ kp ↔ q ∈ kp') (z : KnL rs out kp k ns) : KnL rs out kp' k ns := ⟨by rw [← kn_iff ok h]; exact z.1, z.2⟩
theorem MsD.iff {rs : Rs} {out : List Int} {kp kp' : Kps} {d : PyData} (h : ∀ q, q ∈ kp ↔ q ∈ kp') (z : MsD rs out kp d) : MsD rs out kp' d := by
  rcases z with ⟨e, z⟩ | ⟨k, v, e, z⟩
  · exact .inl ⟨e, fun j hj x hx hl => z j hj x hx ((lost_iff h j x).mpr hl)⟩
  · exact .inr ⟨k, v, e, z.hk, z.ha, (lost_iff h k v).mp z.hl, fun j hj x hx hl => z.be j hj x hx ((lost_iff h j x).mpr hl), fun x hx hl => z.le x hx ((lost_iff h k x).mpr hl)⟩
theorem kn_more {rs : Rs} (ok : RsOk rs) {out : List Int} {kp kp' : Kps} {k : Nat} {ns ms : List Int} (h : ∀ q ∈ kp, q ∈ kp') (z : KnL rs out kp k ns) (y : KnL rs out kp' k ms) : ∀ n ∈ ns, n ∈ ms := fun n hn => by
  have h1 := z.1.mem_iff.mp hn
  rw [kn_is ok] at h1
  obtain ⟨a, b⟩ := List.mem_filter.mp h1
  refine y.1.mem_iff.mpr ?_
  rw [kn_is ok]
  refine List.mem_filter.mpr ⟨a, ?_⟩
  have : n ∉ lostA rs out kp' k := fun c => by
    rw [decide_eq_true (lost_mono h k n c)] at b
    cases b
  rw [decide_eq_false this]
  rfl
/-- pairs with the values that hold them -/
def AllP (H : Hp) (L : List (V × IP)) : Prop := ∀ x ∈ L, PrV H x.1 x.2
theorem AllP.same {H H' : Hp} {L : List (V × IP)} (h : AllP H L) (s : Same H H') : AllP H' L := fun x hx => (h x hx).same s
theorem AllP.but {H H' : Hp} {p : Addr} {px py : V} {L : List (V × IP)} (h : AllP H L) (hp : H p = some (.lst [px, py])) (b : But p H H') : AllP H' L := fun x hx => let ⟨t, e, z⟩ := h x hx; ⟨t, e, but_tup hp z b⟩
theorem AllP.prs {H : Hp} {L : List (V × IP)} (h : AllP H L) : Prs H (L.map Prod.fst) (L.map Prod.snd) := ⟨by rw [List.length_map, List.length_map], fun i v q e1 e2 => by
  rw [List.getElem?_map] at e1 e2
  obtain ⟨x, ex, rfl⟩ := Option.map_eq_some_iff.mp e1
  rw [ex] at e2
  cases e2
  exact h x (List.mem_of_getElem? ex)⟩
theorem allp_zip {H : Hp} {vs : List V} {ps : List IP} (h : Prs H vs ps) : AllP H (vs.zip ps) := fun x hx => by
  obtain ⟨i, hi, e⟩ := List.getElem_of_mem hx
  rw [List.getElem_zip] at e
  rw [List.length_zip] at hi
  have h1 : i < vs.length := by omega
  have h2 : i < ps.length := by omega
  rw [← e]
  exact h.at_ i _ _ (List.getElem?_eq_getElem h1) (List.getElem?_eq_getElem h2)
theorem good_perm {rs : Rs} {out : List Int} {ps qs : List IP} (h : Good rs out ps) (p : qs.Perm ps) : Good rs out qs := ⟨fun q hq => h.kp q (p.mem_iff.mp hq), p.nodup_iff.mpr h.nd, fun q hq => h.nn q (p.mem_iff.mp hq)⟩
/-! ### odd stops -/
def OSt (K : PySem.W.Frag) (H : Hp) (rs : Rs) (v : V) : Prop := ∃ so d, NumO K H v so ∧ sIs rs so = false ∧ Dp K H v d ∧ Shw d ∧ cost d ≤ 2000 ∧ d.depth ≤ 2
theorem OSt.same {H H' : Hp} {rs : Rs} {v : V} (h : OSt K H rs v) (s : Same H H') : OSt K H' rs v := let ⟨so, d, n, i, dp, r⟩ := h; ⟨so, d, n.same s, i, Dp.same s dp, r⟩
theorem kLI {K : PySem.W.Frag} : PySem.W.kitOne K (.type "list") (.type "int") = some false := kit_ty (by decide +kernel)
theorem kTI {K : PySem.W.Frag} : PySem.W.kitOne K (.type "tuple") (.type "int") = some false := kit_ty (by decide +kernel)
theorem os_int {H : Hp} {rs : Rs} {i : Int} (h : i < 0 ∨ ((stA rs).length : Nat) ≤ i) (hl : i.natAbs.log2 < 1920) : OSt K H rs (.int i) := by
  by_cases c : 0 ≤ i
  · exact ⟨some i, .int i, .int i c, decide_eq_false (by omega), .int i, by simp only [Shw]; exact hl, by simp only [cost]; decide, by simp only [PyData.depth]; decide⟩
  · exact ⟨none, .int i, .neg i c, rfl, .int i, by simp only [Shw]; exact hl, by simp only [cost]; decide, by simp only [PyData.depth]; decide⟩
theorem os_non {H : Hp} {rs : Rs} : OSt K H rs .non := ⟨none, .none, num_n H, rfl, .non, by simp only [Shw], by simp only [cost]; decide, by simp only [PyData.depth]; decide⟩
theorem os_bl {H : Hp} {rs : Rs} : OSt K H rs (.bl true) := ⟨none, .bool true, .bl true, rfl, .bl true, by simp only [Shw], by simp only [cost]; decide, by simp only [PyData.depth]; decide⟩
theorem os_str {H : Hp} {rs : Rs} : OSt K H rs (.str "0") := ⟨none, .str "0", num_s _ H, rfl, .str _, by simp only [Shw]; exact asc_of _, by simp only [cost]; decide, by simp only [PyData.depth]; decide⟩
theorem os_tup {H : Hp} {rs : Rs} {t : Addr} (ht : H t = some (.tup [.int 0])) : OSt K H rs (.ref t) := ⟨none, .tuple [.int 0], .no ⟨_, fun _ s => .base (.tup (s _ _ ht)), kTI⟩, rfl, .tup (SqT.of ht) (.cons (.int _) .nil), by simp only [Shw, ShwAll, and_true]; decide, by simp only [cost, costAll]; decide, by simp only [PyData.depth, PyData.depthAll]; decide⟩
theorem os_lst {H : Hp} {rs : Rs} {t : Addr} (ht : H t = some (.lst [])) : OSt K H rs (.ref t) := ⟨none, .list [], .no ⟨_, fun _ s => .base (.lst (s _ _ ht)), kLI⟩, rfl, .lst (SqL.of ht) .nil, by simp only [Shw, ShwAll], by simp only [cost, costAll]; decide, by simp only [PyData.depth, PyData.depthAll]; decide⟩
theorem dq_st {H : Hp} {l : Addr} {v : V} {d : PyData} (hl : H l = some (.lst [.str "stop", v])) (hd : Dp K H v d) (sh : Shw d) (hc : cost d ≤ 2000) (hp : d.depth ≤ 2) : Dq K H (.ref l) (.list [.str "stop", d]) := by
  refine dq_of (.lst (SqL.of hl) (.cons (.str _) (.cons hd .nil))) ?_ ?_ ?_
  · simp only [Shw, ShwAll, and_true]
    exact ⟨asc_of _, sh⟩
  · simp only [PyData.depth, PyData.depthAll]
    omega
  · simp only [cost, costAll]
    have : ((("stop" : String) : Str)).length = 4 := rfl
    exact small (by omega)
theorem ifs_cut {tt : TT} {a b u : TS} {D : Ends} {σ : L2.St} {H : Hp} (I : Bool → Hp → Prop) (h1 : ∀ R : Bool → Hp → Prop, (∀ x H', I x H' → R x H') → tt σ H R) (h2 : ∀ x H', I x H' → if x = true then a { D with nx := u D } σ H' else b { D with nx := u D } σ H') : tSeq (tIfS tt a b) u D σ H := h1 _ h2
def spRt : Sp := fun vs H Q _ => ∃ (p : Addr), vs = [.ref p] ∧ PotAt H p ∧ ∀ H', But p H H' → PotAt H' p → Q (.bl true) H'
theorem ok_l_right (T : Tx K mg C) (G_l_draw : Fnc P w K mg base CX0 1 "_law_draw" [] spTake) (G_l_rows : Fnc P w K mg base CX0 4 "_law_rows" [] spRows) (K_Stretch2 : Mkf P w K mg base CX0 5 "Stretch" (spMk K C)) (G_l_book : Fnc P w K mg base CX0 1 "_law_book" [] spBook) (G_l_shuffled : Fnc P w K mg base CX0 2 "_law_shuffled" [] spShuf) (G_l_candidates : Fnc P w K mg base CX0 3 "_law_candidates" [] spCand)
    (G_l_lost : Fnc P w K mg base CX0 3 "_law_lost" [] spLost) (G_l_left : Fnc P w K mg base CX0 2 "_law_left" [] spLeft) (G_l_first_lost : Fnc P w K mg base CX0 1 "_law_first_lost" [] spFl) (G_known : Fnc P w K mg base (L2.CX P w) 7 "known" [] (spKn K C CK CS)) (G_missing : Fnc P w K mg base (L2.CX P w) 7 "missing" [] (spMs K C CK))
    (G_l_known : Fnc P w K mg base CX0 8 "_law_known" [] (spLKn K C)) (G_l_refused_right : Fnc P w K mg base CX0 9 "_law_refused_right" [] (spRR K C)) (G_l_fewer_right : Fnc P w K mg base CX0 8 "_law_fewer_right" [] (spFw C))
    (F : FD K "_law_right" "_law_right" s_l_right [] f fd) : FnG P w K mg base CX0 10 f fd ["_law_pot_here"] spRt := by
  refine ok0 F sc_l_right (fun vs H Q E h => ?_) (fun cdv A outer s H vs Q E hr h => ?_)
  · obtain ⟨p, rfl, _⟩ := h
    rfl
  · obtain ⟨p, rfl, hp, q⟩ := h
    refine ⟨_, (pss_cons (ps_asg (pe_fn G_l_rows (hr.mono (by decide)) pass0 (pa_cons (pv 0) (pa_cons (pe_ix ix_list (pe_lst (pa_cons pe_int (pa_cons pe_int pa_nil))) (pe_fn G_l_draw (hr.mono (by decide)) pass0 (pa_cons (pv 0) (pa_cons pe_int pa_nil))) (fun _ _ => rfl)) (pa_cons (pe_ix ix_list (pe_lst (pa_cons pe_int (pa_cons pe_int pa_nil))) (pe_fn G_l_draw (hr.mono (by decide)) pass0 (pa_cons (pv 0) (pa_cons pe_int pa_nil))) (fun _ _ => rfl)) (pa_cons pe_int pa_nil))))) (pg_tup rfl (pgs_cons (pg_name (i := 1) sc_l_right.nd rfl (by first | exact Or.inl rfl | exact Or.inr rfl)) (pgs_cons (pg_name (i := 2) sc_l_right.nd rfl (by first | exact Or.inl rfl | exact Or.inr rfl)) pgs_nil))))
      (pss_cons (ps_asg (pe_tup (pa_cons (pe_mf K_Stretch2 (hr.mono (by decide)) pass0 (pa_cons (pv 1) (pa_cons (pv 2) pa_nil))) (pa_cons (pe_fn G_l_book (hr.mono (by decide)) pass0 (pa_cons (pv 1) (pa_cons (pv 2) pa_nil))) (pa_cons (pe_op op_add pe_int (pe_fn G_l_draw (hr.mono (by decide)) pass0 (pa_cons (pv 0) (pa_cons pe_int pa_nil)))) pa_nil)))) (pg_tup rfl (pgs_cons (pg_name (i := 3) sc_l_right.nd rfl (by first | exact Or.inl rfl | exact Or.inr rfl)) (pgs_cons (pg_name (i := 4) sc_l_right.nd rfl (by first | exact Or.inl rfl | exact Or.inr rfl)) (pgs_cons (pg_name (i := 5) sc_l_right.nd rfl (by first | exact Or.inl rfl | exact Or.inr rfl)) pgs_nil)))))
      (pss_cons (ps_set (i := 6) sc_l_right.nd rfl (by first | exact Or.inl rfl | exact Or.inr rfl) (pe_fn G_l_shuffled (hr.mono (by decide)) pass0 (pa_cons (pv 0) (pa_cons (pe_fn G_l_candidates (hr.mono (by decide)) pass0 (pa_cons (pv 4) pa_nil)) pa_nil))))
      (pss_cons (ps_setLc (i := 7) (own := [("_law_one", 8)]) rfl sc_l_right.nd rfl rfl (sw_true rfl rfl rfl (by decide +kernel)) (pi_list (pv 6)) (blkOk_by (own := [("_law_one", 8)]) (N := n_l_right) (sc := defScope s_l_right) (by decide +kernel)) (fun _ _ _ _ _ => (pg_name (i := 8) sc_l_right.nd rfl (by first | exact Or.inl rfl | exact Or.inr rfl))) (fun _ _ _ _ _ => (pts_one (pt_cmpR op_eq (pe_fn G_l_draw (hr.mono (by decide)) pass0 (pa_cons (pv 0) (pa_cons (pv 5) pa_nil))) pe_int (nomark _)))) (fun _ _ _ _ _ => (pv 8)))
      (pss_cons (ps_par3 (i := 9) (j := 10) (l := 11) rfl sc_l_right.nd rfl rfl rfl (by decide) (by decide) (by decide) rfl rfl rfl (pa_cons (pe_fn G_l_lost (hr.mono (by decide)) pass0 (pa_cons (pv 4) (pa_cons (pv 7) pa_nil))) (pa_cons (pe_callB (call_reprV (K := K) (by rfl) hr.g hr.r.units) (by rfl) T.n_repr (by decide +kernel) (pa_cons (pv 7) pa_nil)) (pa_cons (pe_lst pa_nil) pa_nil))) (by rfl))
      (pss_cons (ps_for PassesOwn.never rfl (pi_range1 (by rfl) T.n_range (pa_cons (pe_callB call_len_seq (by rfl) T.n_len (by decide +kernel) (pa_cons (pe_dget (un1 hr.r.units) (pv 4) pe_str (fun _ _ => rfl)) pa_nil)) pa_nil)) (pg_name (i := 12) sc_l_right.nd rfl (by first | exact Or.inl rfl | exact Or.inr rfl)) (pss_cons (ps_set (i := 13) sc_l_right.nd rfl (by first | exact Or.inl rfl | exact Or.inr rfl) (pe_fn G_l_left (hr.mono (by decide)) pass0 (pa_cons (pv 4) (pa_cons (pv 9) (pa_cons (pv 12) pa_nil)))))
      (pss_cons (ps_set (i := 14) sc_l_right.nd rfl (by first | exact Or.inl rfl | exact Or.inr rfl) (pe_fn G_known (hr.mono (by decide)) passF (pa_cons (pv 3) (pa_cons (pv 7) (pa_cons (pv 12) pa_nil)))))
      (pss_cons (ps_if (pt_cmpR op_ne (pe_callB (call_reprV (K := K) (by rfl) hr.g hr.r.units) (by rfl) T.n_repr (by decide +kernel) (pa_cons (pv 14) pa_nil)) (pe_callB (call_reprV (K := K) (by rfl) hr.g hr.r.units) (by rfl) T.n_repr (by decide +kernel) (pa_cons (pv 13) pa_nil)) (nomark _)) (pss_one (ps_ret pe_bl)) pss_nil)
      (pss_cons (ps_expr (pe_bm PySem.F.plainAttrs_list PySem.F.slot_list_append PySem.F.type_list_append mt_append (pv 14) (pa_cons (pe_un un_neg pe_int) pa_nil)))
      (pss_cons (ps_if (PW.pt (pw_or (pt_cmpR op_ne (pe_callB (call_reprV (K := K) (by rfl) hr.g hr.r.units) (by rfl) T.n_repr (by decide +kernel) (pa_cons (pe_fn G_known (hr.mono (by decide)) passF (pa_cons (pv 3) (pa_cons (pe_callTy call_tuple_of (by rfl) T.n_tuple (by decide +kernel) (pa_cons (pe_revL (pv 7)) pa_nil)) (pa_cons (pv 12) pa_nil)))) pa_nil)) (pe_callB (call_reprV (K := K) (by rfl) hr.g hr.r.units) (by rfl) T.n_repr (by decide +kernel) (pa_cons (pv 13) pa_nil)) (nomark _)) (pw_or1 (pt_cmpR op_ne (pe_callB (call_reprV (K := K) (by rfl) hr.g hr.r.units) (by rfl) T.n_repr (by decide +kernel) (pa_cons (pv 7) pa_nil)) (pv 10) (nomark _))))) (pss_one (ps_ret pe_bl)) pss_nil)
      (pss_one (ps_set (i := 11) sc_l_right.nd rfl (by first | exact Or.inl rfl | exact Or.inr rfl) (pe_op op_cat (pv 11) (pe_lc (own := [("_law_value", 15)]) rfl sc_l_right.nd (pi_list (pv 13)) (blkOk_by (own := [("_law_value", 15)]) (N := n_l_right) (sc := defScope s_l_right) (by decide +kernel)) (fun _ _ _ _ _ => (pg_name (i := 15) sc_l_right.nd rfl (by first | exact Or.inl rfl | exact Or.inr rfl))) (fun _ _ _ _ _ => (pts_one (pt_cmpR (op_notIn_seqK (K := K) (by rfl)) (pv 15) (pe_fn G_known (hr.mono (by decide)) passF (pa_cons (pv 3) (pa_cons (pv 6) (pa_cons (pv 12) pa_nil)))) (by rfl)))) (fun _ _ _ _ _ => (pv 15))))))))))))
      (pss_cons (ps_set (i := 16) sc_l_right.nd rfl (by first | exact Or.inl rfl | exact Or.inr rfl) (pe_fn G_l_first_lost (hr.mono (by decide)) pass0 (pa_cons (pv 4) (pa_cons (pv 9) pa_nil))))
      (pss_cons (ps_if (PW.pt (pw_or (pt_cmpR op_ne (pe_callB (call_reprV (K := K) (by rfl) hr.g hr.r.units) (by rfl) T.n_repr (by decide +kernel) (pa_cons (pe_fn G_missing (hr.mono (by decide)) passF (pa_cons (pv 3) (pa_cons (pv 7) pa_nil))) pa_nil)) (pe_callB (call_reprV (K := K) (by rfl) hr.g hr.r.units) (by rfl) T.n_repr (by decide +kernel) (pa_cons (pv 16) pa_nil)) (nomark _)) (pw_or1 (pt_cmpR op_ne (pe_callB (call_reprV (K := K) (by rfl) hr.g hr.r.units) (by rfl) T.n_repr (by decide +kernel) (pa_cons (pe_fn G_missing (hr.mono (by decide)) passF (pa_cons (pv 3) (pa_cons (pe_callTy call_tuple_of (by rfl) T.n_tuple (by decide +kernel) (pa_cons (pe_revL (pv 7)) pa_nil)) pa_nil))) pa_nil)) (pe_callB (call_reprV (K := K) (by rfl) hr.g hr.r.units) (by rfl) T.n_repr (by decide +kernel) (pa_cons (pv 16) pa_nil)) (nomark _))))) (pss_one (ps_ret pe_bl)) pss_nil)
      (pss_cons (ps_for PassesOwn.never rfl (pi_list (pe_lst (pa_cons (pe_un un_neg pe_int) (pa_cons (pe_callB call_len_seq (by rfl) T.n_len (by decide +kernel) (pa_cons (pe_dget (un1 hr.r.units) (pv 4) pe_str (fun _ _ => rfl)) pa_nil)) (pa_cons (pe_op op_pow pe_int pe_int) (pa_cons pe_non (pa_cons pe_bl (pa_cons pe_str (pa_cons (pe_tup (pa_cons pe_int pa_nil)) (pa_cons (pe_lst pa_nil) pa_nil)))))))))) (pg_name (i := 12) sc_l_right.nd rfl (by first | exact Or.inl rfl | exact Or.inr rfl)) (pss_one (ps_if (pt_cmpR op_ne (pe_callB (call_reprV (K := K) (by rfl) hr.g hr.r.units) (by rfl) T.n_repr (by decide +kernel) (pa_cons (pe_fn G_l_known (hr.mono (by decide)) pass0 (pa_cons (pv 3) (pa_cons (pv 7) (pa_cons (pv 12) pa_nil)))) pa_nil)) (pe_callB (call_reprV (K := K) (by rfl) hr.g hr.r.units) (by rfl) T.n_repr (by decide +kernel) (pa_cons (pe_lst (pa_cons pe_str (pa_cons (pv 12) pa_nil))) pa_nil)) (nomark _)) (pss_one (ps_ret pe_bl)) pss_nil)))
      (pss_cons (ps_if (PW.pt (pw_or (pt_cmpR (op_neD hr.r.units) (pv 11) (pe_lst pa_nil) (nomark _)) (pw_or1 (pt_not (pt_val (pe_fn G_l_refused_right (hr.mono (by decide)) pass0 (pa_cons (pv 0) (pa_cons (pv 3) (pa_cons (pv 4) (pa_cons (pv 7) pa_nil)))))))))) (pss_one (ps_ret pe_bl)) pss_nil)
      (pss_one (ps_ret (pe_or (pe_cmpR (op_eqD hr.r.units) (pv 7) (pe_lst pa_nil) (nomark _)) (pe_one (pe_fn G_l_fewer_right (hr.mono (by decide)) pass0 (pa_cons (pv 0) (pa_cons (pv 3) (pa_cons (pv 4) (pa_cons (pv 7) pa_nil))))))))))))))))))), ?_⟩
    have lt5 : ∀ {n : Nat}, n < 100000 → n < sizeLine := fun h => Nat.lt_of_lt_of_le h (small (Nat.le_refl _))
    have d2 : ∀ {n : Nat}, n ≤ 20 → n ≤ sizeLine := fun h => small (by omega)
    refine ⟨_, rfl, d2 (by show 2 ≤ 20; decide), fun la nla => ?_⟩
    have lap := hp.ne nla
    obtain ⟨G1, e, s1, hla⟩ := mkO nla (.lst [.int 5, .int 14])
    rw [e]
    clear e
    refine ⟨_, rfl, p, _, rfl, hp.same s1, by decide, by decide, fun H1 d b1 hp1 d0 d1 => ?_⟩
    obtain ⟨va, eva, va1, va2⟩ : ∃ va : Nat, atI [V.int 5, V.int 14] d = some (.int (va : Nat)) ∧ 1 ≤ va ∧ va ≤ 14 := by
      rcases (show d = 0 ∨ d = 1 by omega) with rfl | rfl
      · exact ⟨5, rfl, by decide, by decide⟩
      · exact ⟨14, rfl, by decide, by decide⟩
    refine ⟨la, _, _, _, rfl, rfl, SqL.of (b1 _ _ hla lap), eva, ?_⟩
    refine ⟨d2 (by show 2 ≤ 20; decide), fun lb nlb => ?_⟩
    have lbp := hp1.ne nlb
    obtain ⟨G2, e, s2, hlb⟩ := mkO nlb (.lst [.int 3, .int 8])
    rw [e]
    clear e
    refine ⟨_, rfl, p, _, rfl, hp1.same s2, by decide, by decide, fun H2 d' b2 hp2 d0' d1' => ?_⟩
    obtain ⟨sb, esb, sb1⟩ : ∃ sb : Nat, atI [V.int 3, V.int 8] d' = some (.int (sb : Nat)) ∧ sb ≤ 8 := by
      rcases (show d' = 0 ∨ d' = 1 by omega) with rfl | rfl
      · exact ⟨3, rfl, by decide⟩
      · exact ⟨8, rfl, by decide⟩
    refine ⟨lb, _, _, _, rfl, rfl, SqL.of (b2 _ _ hlb lbp), esb, ?_⟩
    have b02 : But p H H2 := ((But.of s1).trans b1).trans ((But.of s2).trans b2)
    refine ⟨p, va, sb, 6, rfl, va1, va2, sb1, by decide, hp2, fun H3 tt fo lo rs ls out b3 hp3 htt hfo rws ok lbo l28 vne hlo ho l2 nfo nlo fol fop lop => ?_⟩
    refine ⟨tt, _, rfl, SqT.of htt, rfl, _, _, rfl, _, _, rfl, rfl, ?_⟩
    refine ⟨_, rfl, _, rfl, fo, lo, rs, out, rfl, ⟨ls, .inl hfo, rws⟩, ok, .inl (.inl hlo), ho, by omega, fun H4 st s4 nst hst => ?_⟩
    refine ⟨_, rfl, _, rfl, fo, lo, ls, rs, out, rfl, s4 _ _ hfo, rws.same s4, ok, s4 _ _ hlo, by omega, fun H5 bk s5 nbk hbk => ?_⟩
    have s35 := s4.trans s5
    have hp5 := hp3.same s35
    have hG : ∀ H', But p H5 H' → StAt C H' st rs out ∧ BookAt H' bk rs out := fun H' b => by
      obtain ⟨x3, y3, h3, _⟩ := id hp3
      exact ⟨((hst.same s5).but h3 (s35 _ _ h3) b).at, (hbk.but (s4 _ _ h3) (s35 _ _ h3) b).at⟩
    have b05 : But p H H5 := (b02.trans b3).trans (But.of s35)
    have ll := ok.len
    have lst : (stA rs).length ≤ rs.length := stp_len rs rs.length
    refine ⟨_, rfl, p, _, rfl, hp5, by decide, by decide, fun H6 dd b6 hp6 d0'' d1'' => ?_⟩
    refine ⟨_, _, rfl, rfl, d2 (by show 3 ≤ 20; decide), fun t6 nt6 => ?_⟩
    obtain ⟨od, eod⟩ : ∃ od : Int, od = 1 + dd := ⟨_, rfl⟩
    dsimp only
    rw [← eod]
    have od1 : 0 < od := by omega
    have od2 : od < 100 := by omega
    obtain ⟨G7, e, s7, ht6⟩ := mkO nt6 (.tup [.ref st, .ref bk, .int od])
    rw [e]
    clear e eod
    refine ⟨t6, _, rfl, SqT.of ht6, rfl, _, _, rfl, _, _, rfl, _, _, rfl, rfl, ?_⟩
    have b57 : But p H5 G7 := b6.trans (But.of s7)
    have hp7 := hp6.same s7
    refine ⟨_, rfl, _, rfl, bk, rs, out, rfl, (hG G7 b57).2, ok, fun H8 cl vs0 ps0 s8 ncl hcl pr0 gd0 lp0 => ?_⟩
    have lz := pr0.len
    have hp8 := hp7.same s8
    refine ⟨p, cl, V × IP, Prod.fst, vs0.zip ps0, rfl, hp8, by rw [List.map_fst_zip (by omega)]; exact hcl, hp7.ne ncl, by rw [List.length_zip]; omega, fun H9 ab L b9 hp9 nab abp hab pm => ?_⟩
    have b59 : But p H5 H9 := (b57.trans (But.of s8)).trans b9
    obtain ⟨x8, y8, h8, _⟩ := id hp8
    have al9 : AllP H9 L := fun x hx => ((allp_zip pr0).but h8 b9) x (pm.mem_iff.mp hx)
    have gdL : Good rs out (L.map Prod.snd) := good_perm gd0 (by
      have := pm.map Prod.snd
      rwa [List.map_snd_zip (by omega)] at this)
    have lL : L.length ≤ 900 := by
      rw [pm.length_eq, List.length_zip]
      omega
    refine nm_of ?_
    dsimp only
    refine ⟨_, rfl, ab, rfl, ⟨_, SqL.of hab⟩, fun D nD => ?_⟩
    have Dp' := hp9.ne nD
    have abD : ab ≠ D := ne_of_none hab nD
    refine lc_inv (walk_list (K := K) (a := ab) (xs := L.map Prod.fst)) (fun j acc H' => But p H9 H' ∧ PotAt H' p ∧ ∃ M : List (V × IP), acc = M.map Prod.fst ∧ M.Sublist (L.take j)) (fun j acc H' xs z => ⟨own_but z.1 nD, z.2.1.but but_upd Dp'.symm, z.2.2⟩) ⟨But.refl, hp9, [], rfl, List.nil_sublist _⟩ ?_ (fun j acc H' _ z => SqL.of (z.1 _ _ hab abp)) ?_ ?_
    · rintro j acc H' hj ⟨_, _, M, rfl, sl⟩
      have := sl.length_le
      rw [List.length_take] at this
      rw [List.length_map]
      exact lt5 (by omega)
    · rintro j x acc H10 H10' hj ⟨b10, hp10, M, rfl, sl⟩ hD10 ⟨rfl, hx⟩ N S hN hS
      rw [List.getElem?_map] at hx
      obtain ⟨u, hu, rfl⟩ := Option.map_eq_some_iff.mp hx
      have tk : L.take (j + 1) = L.take j ++ [u] := by rw [List.take_add_one, hu, Option.toList_some]
      refine ⟨rfl, _, rfl, _, rfl, p, _, rfl, hp10, by omega, by omega, fun H11 d'' b11 hp11 e0 e1 => ⟨rfl, _, rfl, iteB (fun c => ⟨_, rfl, hN _ _ (b11 _ _ hD10 Dp') ⟨b10.trans b11, hp11, M ++ [u], by rw [List.map_append]; rfl, by rw [tk]; exact sl.append (List.Sublist.refl _)⟩⟩) (fun c => hS _ (b11 _ _ hD10 Dp') ⟨b10.trans b11, hp11, M, rfl, by rw [tk]; exact sl.trans (List.sublist_append_left _ _)⟩)⟩⟩
    rintro acc H10 hD ⟨b10, hp10, M, rfl, sl⟩
    rw [List.length_map, List.take_length] at sl
    obtain ⟨x9, y9, h9, _⟩ := id hp9
    have al10 : AllP H10 L := al9.but h9 b10
    have am10 : AllP H10 M := fun x hx => al10 x (sl.subset hx)
    have gdM : Good rs out (M.map Prod.snd) := gdL.sub (sl.map _)
    have lM : M.length ≤ 900 := Nat.le_trans sl.length_le lL
    have b510 : But p H5 H10 := b59.trans b10
    have hab10 := b10 _ _ hab abp
    have sub : ∀ q ∈ M.map Prod.snd, q ∈ L.map Prod.snd := fun q hq => (sl.map Prod.snd).subset hq
    obtain ⟨kp, ekp⟩ : ∃ kp, kp = M.map Prod.snd := ⟨_, rfl⟩
    have lkp : kp.length = M.length := by rw [ekp, List.length_map]
    have ps10 : PsAt H10 D kp := ⟨_, .inl hD, by rw [ekp]; exact am10.prs⟩
    have pa10 : PsAt H10 ab (L.map Prod.snd) := ⟨_, .inl hab10, al10.prs⟩
    have pr10 : Prs H10 (M.map Prod.fst) kp := by rw [ekp]; exact am10.prs
    have tel10 : Tel K H10 (.ref D) (prsD kp) := tel_prs hD pr10 (good_iok ok (by rw [ekp]; exact gdM)) (by omega)
    rw [← ekp] at gdM sub
    have rv : ∀ {H' : Hp} {tl : Addr}, Same H10 H' → H' tl = some (.tup (M.map Prod.fst).reverse) → PsAt H' tl kp.reverse := fun {H' tl} s' h' => ⟨_, .inr h', by
      rw [ekp, ← List.map_reverse, ← List.map_reverse]
      exact AllP.prs fun x hx => (am10.same s') x (List.mem_reverse.mp hx)⟩
    have gdR : Good rs out kp.reverse := good_perm gdM (List.reverse_perm _)
    have lkR : kp.reverse.length ≤ 1000 := by rw [List.length_reverse]; omega
    have iff : ∀ q, q ∈ kp.reverse ↔ q ∈ kp := fun q => List.mem_reverse
    obtain ⟨lsM, elsM⟩ : ∃ lsM, lsM = M.map Prod.fst := ⟨_, rfl⟩
    have lsl : lsM.length ≤ 900 := by rw [elsM, List.length_map]; omega
    rw [← elsM] at hD pr10 rv
    clear ekp elsM
    obtain ⟨hst10, hbk10⟩ := hG H10 b510
    obtain ⟨A, okv, av, rfl, bz, opa, asa⟩ := id hbk10
    have dg4 : ∀ {H'}, Same H10 H' → DGet H' A.b (.str "stops") (some (.ref A.st)) := fun s => by
      have := DGet.k (k := Sum.inr "stops") (bz.same s).hb
      rw [bk4] at this
      exact this
    have nDH5 : H5 D = none := b59.free Dp' nD
    refine nm_of ?_
    dsimp only
    refine ⟨_, rfl, _, rfl, A.b, D, rs, out, kp, rfl, hbk10, ok, ps10, fun H11 gn s11 ngn hgn => ?_⟩
    refine ⟨_, rfl, _, _, rfl, (tel10.same s11).dq, d2 (by show 0 ≤ 20; decide), fun m0 nm0 => ?_⟩
    obtain ⟨G12, e, s12, hm0⟩ := mkO nm0 (.lst [])
    rw [e]
    clear e
    refine ⟨_, _, _, rfl, ?_⟩
    have s1012 := s11.trans s12
    have hgn12 := hgn.same s12
    refine ⟨_, rfl, A.b, _, rfl, dg4 s1012, A.st, _, rfl, .inl (SqL.of (bz.same s1012).hs), _, rfl, by omega, by rw [List.length_map]; omega, ?_⟩
    rw [List.length_map, Int.toNat_natCast]
    obtain ⟨sh, esh⟩ : ∃ sh, sh = (prsD kp).shown := ⟨_, rfl⟩
    rw [← esh]
    refine for_it (walk_range (lo := 0) (n := (stA rs).length)) (fun i σ H' => Same H10 H' ∧ GoneAt H' gn rs out kp ∧ ∃ m u8 v2 v3 v4 v5, H' m = some (.lst []) ∧ σ = [some (.ref p), some (.ref fo), some (.ref lo), some (.ref st), some (.ref A.b), some (.int od), some (.ref ab), some (.ref D), u8, some (.ref gn), some (.str sh), some (.ref m), v2, v3, v4, v5, none]) ⟨s1012, hgn12, m0, _, _, _, _, _, hm0, rfl⟩ (fun _ _ _ _ _ => trivial) ?_ ?_
    · rintro k x σ Hx H13 hk ⟨s13, gn13, m, u8, v2, v3, v4, v5, hm, rfl⟩ ⟨rfl, rfl⟩
      refine nm_of ?_
      dsimp only
      rw [Int.zero_add]
      refine ⟨_, rfl, _, rfl, _, rfl, ?_⟩
      try unfold tNil
      refine left_call (K := K) (hbk10.same s13) ok gn13 hk fun H14 r1 n1 s14 nr1 hr1 kn1 t1 => ?_
      refine nm_of ?_
      dsimp only
      refine ⟨_, rfl, _, rfl, _, rfl, ?_⟩
      try unfold tNil
      refine kn_call (hst10.same (s13.trans s14)) ok (ps10.same (s13.trans s14)) gdM (by omega) hk fun H15 r2 n2 s15 nr2 hr2 kn2 t2 => ?_
      refine nm_of ?_
      dsimp only
      refine ⟨_, rfl, _, _, rfl, t2.dq, _, rfl, _, _, rfl, (t1.same s15).dq, ?_⟩
      rw [kn2.uniq kn1]
      refine ⟨rfl, _, rfl, iteN (by rw [decide_eq_true rfl]; rfl) ?_⟩
      refine ⟨_, rfl, .inl ⟨rfl, _, SqL.of hr2⟩, _, rfl, r2, _, _, rfl, rfl, hr2, lt5 (by rw [List.length_map]; have := (kn_iok ok kn2.1).2; omega), ?_⟩
      have s1416 : Same H14 (upd H15 r2 (.lst (n2.map V.int ++ [.int (-1)]))) := own_same s15 nr2
      obtain ⟨G16, e16⟩ : ∃ G16, G16 = upd H15 r2 (.lst (n2.map V.int ++ [.int (-1)])) := ⟨_, rfl⟩
      rw [← e16] at s1416 ⊢
      clear e16
      dsimp only
      have s16 := (s13.trans s14).trans s1416
      have hr1' := s1416 _ _ hr1
      have hm16 := s1416 _ _ (s14 _ _ hm)
      refine ifs_cut (fun b H' => b = false ∧ Same G16 H') (fun R hR => ?_) ?_
      · refine ⟨_, rfl, _, rfl, D, _, rfl, SqL.of (s16 _ _ hD), fun lr nlr => ?_⟩
        obtain ⟨N1, e, o1, hlr⟩ := mkO nlr (.lst lsM.reverse)
        rw [e]
        clear e
        refine ⟨lr, _, rfl, .inl ⟨SqL.of hlr, fun tl ntl => ?_⟩⟩
        obtain ⟨N2, e, o2, htl⟩ := mkO ntl (.tup lsM.reverse)
        rw [e]
        clear e
        have o12 := o1.trans o2
        refine ⟨_, rfl, ?_⟩
        try unfold tNil
        try dsimp only
        refine kn_call (hst10.same (s16.trans o12)) ok (rv (s16.trans o12) htl) gdR lkR hk fun N3 r3 n3 o3 nr3 hr3 kn3 t3 => ?_
        refine ⟨_, _, rfl, t3.dq, _, rfl, _, _, rfl, ((t1.same s1416).same (o12.trans o3)).dq, ?_⟩
        rw [(kn3.iff ok iff).uniq kn1]
        refine ⟨rfl, _, rfl, iteN (by rw [decide_eq_true rfl]; rfl) ?_⟩
        have o13 := o12.trans o3
        refine ⟨_, rfl, _, _, rfl, (tel10.same (s16.trans o13)).dq, _, rfl, rfl, _, rfl, hR _ _ ⟨?_, o13⟩⟩
        rw [← esh, decide_eq_true rfl]
        rfl
      rintro bb H17 ⟨rfl, s17⟩
      refine iteF ?_
      have s1017 := s16.trans s17
      have hr17 := s17 _ _ hr1'
      refine ⟨_, rfl, _, rfl, r1, rfl, ⟨_, SqL.of hr17⟩, fun D2 nD2 => ?_⟩
      refine lc_acc (walk_list (K := K) (a := r1) (xs := n1.map V.int)) nD2 (fun _ => []) rfl (fun j hj => Nat.zero_le _) (fun H' s' => SqL.of (s' _ _ hr17)) ?_ ?_
      · rintro j x Hb Ha hj sj ⟨rfl, hx⟩ N S hN hS
        rw [List.getElem?_map] at hx
        obtain ⟨n, hn, rfl⟩ := Option.map_eq_some_iff.mp hx
        have sa := s1017.trans sj
        refine ⟨rfl, _, rfl, _, rfl, _, rfl, _, rfl, ?_⟩
        try unfold tNil
        try dsimp only
        refine kn_call (hst10.same sa) ok (pa10.same sa) gdL (by rw [List.length_map]; omega) hk fun N4 r4 n4 o4 nr4 hr4 kn4 t4 => ?_
        refine ⟨r4, _, rfl, .inl (SqL.of hr4), rfl, flatI n4, _, rfl, ?_⟩
        show if (!inV (.int n) (n4.map V.int)) = true then _ else _
        rw [inV_int, decide_eq_true (kn_more ok sub kn1 kn4 n (List.mem_of_getElem? hn))]
        exact hS _ o4 rfl
      · intro H18 s18 h18
        have hm18 := s18 _ _ (s17 _ _ hm16)
        refine ⟨m, D2, _, _, rfl, rfl, hm18, h18, d2 (by show 0 + 0 ≤ 20; decide), fun m' nm' => ?_⟩
        obtain ⟨G19, e, s19, hm19⟩ := mkO nm' (.lst [])
        rw [show ([] : List V) ++ [] = [] from rfl, e]
        clear e
        refine nm_of ?_
        dsimp only
        refine ⟨(s1017.trans s18).trans s19, ((((gn13.same s14).same s1416).same s17).same s18).same s19, m', _, _, _, _, _, hm19, rfl⟩
    · rintro σ H13 ⟨s13, gn13, m, u8, v2, v3, v4, v5, hm, rfl⟩
      refine ⟨_, rfl, _, rfl, ?_⟩
      try unfold tNil
      try dsimp only
      refine fl_call (K := K) (hbk10.same s13) ok gn13 fun H14 fv fd' s14 t1 m1 => ?_
      refine nm_of ?_
      have s1014 := s13.trans s14
      refine ifs_cut (fun b H' => b = false ∧ Same H14 H') (fun R hR => ?_) ?_
      · refine ⟨_, rfl, _, rfl, ?_⟩
        try unfold tNil
        try dsimp only
        refine ms_call (hst10.same s1014) ok (ps10.same s1014) gdM (by omega) fun N1 y d1' o1 t2 m2 => ?_
        refine ⟨_, _, rfl, t2.dq, _, rfl, _, _, rfl, (t1.same o1).dq, ?_⟩
        rw [m2.uniq m1]
        refine ⟨rfl, _, rfl, iteN (by rw [decide_eq_true rfl]; rfl) ?_⟩
        refine ⟨_, rfl, _, rfl, D, _, rfl, SqL.of ((s1014.trans o1) _ _ hD), fun lr nlr => ?_⟩
        obtain ⟨N2, e, o2, hlr⟩ := mkO nlr (.lst lsM.reverse)
        rw [e]
        clear e
        refine ⟨lr, _, rfl, .inl ⟨SqL.of hlr, fun tl ntl => ?_⟩⟩
        obtain ⟨N3, e, o3, htl⟩ := mkO ntl (.tup lsM.reverse)
        rw [e]
        clear e
        have o13 := (o1.trans o2).trans o3
        try unfold tNil
        try dsimp only
        refine ms_call (hst10.same (s1014.trans o13)) ok (rv (s1014.trans o13) htl) gdR lkR fun N4 y d2' o4 t3 m3 => ?_
        refine ⟨_, _, rfl, t3.dq, _, rfl, _, _, rfl, (t1.same (o13.trans o4)).dq, ?_⟩
        rw [(m3.iff iff).uniq m1]
        refine ⟨rfl, _, rfl, hR _ _ ⟨?_, o13.trans o4⟩⟩
        rw [decide_eq_true rfl]
        rfl
      rintro bb H15 ⟨rfl, s15⟩
      refine iteF ?_
      have s1015 := s1014.trans s15
      have hm15 := s15 _ _ (s14 _ _ hm)
      -- odd stops
      refine ⟨_, rfl, _, rfl, A.b, _, rfl, dg4 s1015, A.st, _, rfl, .inl (SqL.of (bz.same s1015).hs), ?_⟩
      refine ⟨_, _, rfl, rfl, ⟨by decide, by decide, by decide⟩, d2 (by show 1 ≤ 20; decide), fun t7 nt7 => ?_⟩
      obtain ⟨G16, e, s16, ht7⟩ := mkO nt7 (.tup [.int 0])
      rw [e]
      clear e
      refine ⟨d2 (by show 0 ≤ 20; decide), fun l7 nl7 => ?_⟩
      obtain ⟨G17, e, s17, hl7⟩ := mkO nl7 (.lst [])
      rw [e]
      clear e
      refine ⟨d2 (by show 8 ≤ 20; decide), fun l8 nl8 => ?_⟩
      rw [List.length_map]
      obtain ⟨OD, eOD⟩ : ∃ OD, OD = [V.int (-1), .int (((stA rs).length : Nat) : Int), .int (10 ^ (20 : Int).toNat), .non, .bl true, .str "0", .ref t7, .ref l7] := ⟨_, rfl⟩
      obtain ⟨G18, e, s18, hl8⟩ := mkO nl8 (.lst [V.int (-1), .int (((stA rs).length : Nat) : Int), .int (10 ^ (20 : Int).toNat), .non, .bl true, .str "0", .ref t7, .ref l7])
      rw [e]
      clear e
      have s1018 := ((s1015.trans s16).trans s17).trans s18
      have allO : ∀ v ∈ OD, OSt K G18 rs v := by
        intro v hv
        rw [eOD] at hv
        simp only [List.mem_cons, List.mem_nil_iff, or_false] at hv
        rcases hv with rfl | rfl | rfl | rfl | rfl | rfl | rfl | rfl
        · exact os_int (.inl (by decide)) (by decide)
        · refine os_int (.inr (Int.le_refl _)) (iok_log ⟨by omega, by omega⟩)
        · refine os_int (.inr ?_) (by decide)
          have : (10 : Int) ^ (20 : Int).toNat = 100000000000000000000 := by decide
          omega
        · exact os_non
        · exact os_bl
        · exact os_str
        · exact os_tup (s18 _ _ (s17 _ _ ht7))
        · exact os_lst (s18 _ _ hl7)
      rw [← eOD] at hl8
      have lOD : OD.length = 8 := by rw [eOD]; rfl
      clear eOD
      have hm18 := s18 _ _ (s17 _ _ (s16 _ _ hm15))
      refine ⟨l8, rfl, ⟨_, SqL.of hl8⟩, ?_⟩
      refine for_it (walk_list (K := K) (a := l8) (xs := OD)) (fun _ σ H' => Same G18 H' ∧ ∃ u8 v2 v3 v4 v5 v6, σ = [some (.ref p), some (.ref fo), some (.ref lo), some (.ref st), some (.ref A.b), some (.int od), some (.ref ab), some (.ref D), u8, some (.ref gn), some (.str sh), some (.ref m), v2, v3, v4, v5, v6]) ⟨Same.rfl', _, _, _, _, _, _, rfl⟩ (fun j σ H' _ h => SqL.of (h.1 _ _ hl8)) ?_ ?_
      · rintro j x σ Hx H19 hj ⟨s19, u8, v2, v3, v4, v5, v6, rfl⟩ ⟨rfl, hx⟩
        obtain ⟨so, d, hn, hso, hdp, hsh, hco, hde⟩ := (allO x (List.mem_of_getElem? hx)).same s19
        have s1019 := s1018.trans s19
        refine nm_of ?_
        dsimp only
        refine ⟨_, rfl, _, rfl, _, rfl, st, rs, out, _, x, so, rfl, hst10.same s1019, ok, hn, .inr ⟨D, kp, rfl, ps10.same s1019, gdM, by omega, hso, fun H20 r s20 nr hr => ?_⟩⟩
        refine ⟨_, _, rfl, dq_st hr (Dp.same s20 hdp) hsh hco hde, ?_⟩
        refine ⟨_, rfl, d2 (by show 2 ≤ 20; decide), fun l9 nl9 => ?_⟩
        obtain ⟨G21, e, s21, hl9⟩ := mkO nl9 (.lst [.str "stop", x])
        rw [e]
        clear e
        refine ⟨_, _, rfl, dq_st hl9 (Dp.same s21 (Dp.same s20 hdp)) hsh hco hde, rfl, _, rfl, iteN (by rw [decide_eq_true rfl]; rfl) ?_⟩
        exact ⟨(s19.trans s20).trans s21, _, _, _, _, _, _, rfl⟩
      rintro σ H19 ⟨s19, u8, v2, v3, v4, v5, v6, rfl⟩
      have s1019 := s1018.trans s19
      have hp19 := hp10.same s1019
      have hD19 := s1019 _ _ hD
      have b519 : But p H5 H19 := b510.trans (But.of s1019)
      dsimp only
      refine ifs_cut (fun b H' => b = false ∧ But p H19 H' ∧ PotAt H' p) (fun R hR => ?_) ?_
      · refine ⟨_, rfl, d2 (by show 0 ≤ 20; decide), fun l9 nl9 => ?_⟩
        obtain ⟨N1, e, o1, hl9⟩ := mkO nl9 (.lst [])
        rw [e]
        clear e
        refine ne_pd (dp_ints (l := []) (o1 _ _ (s19 _ _ hm18))) (dp_ints (l := []) hl9) (pn_ints []) (pn_ints []) fun bb hbb => ⟨_, rfl, iteN (by rw [hbb.mpr rfl]; rfl) ?_⟩
        have b5N : But p H5 N1 := b519.trans (But.of o1)
        refine ⟨_, rfl, _, rfl, _, rfl, _, rfl, p, st, A.b, D, rs, out, lsM, kp, rfl, hp19.same o1, ok, fun H' b' => hG H' (b5N.trans b'), o1 _ _ hD19, Dp', (pr10.same s1019).same o1, gdM, by omega, fun H' b' hp' => ⟨_, rfl, hR _ _ ⟨rfl, (But.of o1).trans b', hp'⟩⟩⟩
      rintro bb H20 ⟨rfl, b20, hp20⟩
      refine iteF ?_
      have b520 : But p H5 H20 := b519.trans b20
      obtain ⟨x19, y19, h19, _⟩ := id hp19
      have pr20 : Prs H20 lsM kp := prs_but (pr10.same s1019) h19 b20
      have hD20 := b20 _ _ hD19 Dp'
      refine ⟨_, rfl, d2 (by show 0 ≤ 20; decide), fun l9 nl9 => ?_⟩
      obtain ⟨N1, e, o1, hl9⟩ := mkO nl9 (.lst [])
      rw [e]
      clear e
      have b5N : But p H5 N1 := b520.trans (But.of o1)
      have bHN : But p H N1 := b05.trans b5N
      refine eq_pd (dp_prs (o1 _ _ hD20) (pr20.same o1)) (dp_ints (l := []) hl9) (pn_prs kp) (pn_ints []) fun bb hbb => ⟨_, rfl, iteB (fun c => ?_) (fun c => ?_)⟩
      · exact q _ bHN (hp20.same o1)
      · have k0 : 0 < kp.length := by
          rcases Nat.eq_zero_or_pos kp.length with z | z
          · have := hbb.mpr (by rw [List.eq_nil_of_length_eq_zero z]; rfl)
            rw [this] at c
            cases c
          · exact z
        have to5 : ∀ {H'}, But2 p D N1 H' → But p H5 H' := fun {H'} b' a o h n => b' a o (b5N a o h n) n fun z => by rw [z, nDH5] at h; cases h
        refine ⟨_, rfl, _, rfl, _, rfl, _, rfl, p, st, A.b, D, rs, out, lsM, kp, rfl, hp20.same o1, ok, fun H' b' => hG H' (to5 b'), o1 _ _ hD20, Dp', pr20.same o1, gdM, by omega, k0, fun H' b' hp' => ?_⟩
        exact q _ (b05.trans (to5 b')) hp'
end
end K62

set_option Elab.async false
set_option linter.all false
set_option maxRecDepth 100000
set_option maxHeartbeats 2000000
/-! L62j: the law. -/
namespace K62
open PySem PySem.Spec PyProof.Rows L2 LL ST
abbrev s_law : Stmt := top 51
abbrev n_law : List Str := ["_law_script", "_law_k"]
theorem sc_law : FnScope n_law ["_law_script"] (defScope s_law) := ⟨rfl, rfl, rfl, by decide +kernel, rfl, by decide +kernel, by decide +kernel⟩
section
variable {P : Program} {w : World} {K : PySem.W.Frag} {mg : Str → Option Value} {base : Heap} {C CE CK CS : Addr} {f : Addr} {fd : FuncData}
def spLaw (K : PySem.W.Frag) : Sp := fun vs H Q _ => ∃ (a : Addr) (ns : List Int), vs = [.ref a] ∧ SqL K H a (ns.map V.int) ∧ ns.length ≤ 63 ∧ ∀ H', Q (.bl true) H'
theorem ok_law (T : Tx K mg C) (G_l_pot : Fnc P w K mg base CX0 1 "_law_pot" [] (spPot K)) (G_l_right : Fnc P w K mg base CX0 10 "_law_right" [] spRt)
    (F : FD K "law" "law" s_law [] f fd) : FnG P w K mg base CX0 11 f fd ["_law_script"] (spLaw K) := by
  refine ok0 F sc_law (fun vs H Q E h => ?_) (fun cdv A outer s H vs Q E hr h => ?_)
  · obtain ⟨a, ns, rfl, _⟩ := h
    rfl
  · obtain ⟨a, ns, rfl, hS, hl, q⟩ := h
    refine ⟨_, (pss_one (ps_ret (pe_callB (cr_all rfl) (by rfl) T.n_all (by decide +kernel) (pa_cons (pe_lc (own := [("_law_k", 1)]) rfl sc_law.nd (pi_range1 (by rfl) T.n_range (pa_cons (pe_callB (call_max2 rfl) (by rfl) T.n_max (by decide +kernel) (pa_cons pe_int (pa_cons (pe_callB (call_min2 rfl) (by rfl) T.n_min (by decide +kernel) (pa_cons pe_int (pa_cons (pe_callB call_len_seq (by rfl) T.n_len (by decide +kernel) (pa_cons (pv 0) pa_nil)) pa_nil))) pa_nil))) pa_nil)) (blkOk_by (own := [("_law_k", 1)]) (N := n_law) (sc := defScope s_law) (by decide +kernel)) (fun _ _ _ _ _ => (pg_name (i := 1) sc_law.nd rfl (by first | exact Or.inl rfl | exact Or.inr rfl))) (fun _ _ _ _ _ => pts_nil) (fun _ _ _ _ _ => (pe_fn G_l_right (hr.mono (by decide)) pass0 (pa_cons (pe_fn G_l_pot (hr.mono (by decide)) pass0 (pa_cons (pv 0) (pa_cons (pv 1) pa_nil))) pa_nil)))) pa_nil)))), ?_⟩
    refine ⟨_, rfl, a, _, rfl, .inl hS, _, _, rfl, _, _, rfl, ?_⟩
    obtain ⟨m, em, lm⟩ : ∃ m : Nat, (if (if (((ns.map V.int).length : Nat) : Int) < 4 then (((ns.map V.int).length : Nat) : Int) else 4) > 1 then (if (((ns.map V.int).length : Nat) : Int) < 4 then (((ns.map V.int).length : Nat) : Int) else 4) else 1) = (m : Nat) ∧ m ≤ 4 := by
      by_cases c : (((ns.map V.int).length : Nat) : Int) < 4
      · rw [if_pos c]
        by_cases c1 : (((ns.map V.int).length : Nat) : Int) > 1
        · exact ⟨(ns.map V.int).length, by rw [if_pos c1], by omega⟩
        · exact ⟨1, by rw [if_neg c1]; rfl, by decide⟩
      · rw [if_neg c]
        exact ⟨4, by decide, by decide⟩
    refine ⟨((m : Nat) : Int), congrArg (fun z => [V.int z]) em, by omega, by omega, fun D nD => ?_⟩
    rw [Int.toNat_natCast]
    refine lc_inv (walk_range (lo := 0) (n := m)) (fun j acc H' => Same H H' ∧ acc = List.replicate j (V.bl true)) (fun j acc H' xs z => ⟨own_same z.1 nD, z.2⟩) ⟨Same.rfl', rfl⟩ ?_ (fun _ _ _ _ _ => trivial) ?_ ?_
    · rintro j acc H' hj ⟨_, rfl⟩
      rw [List.length_replicate]
      exact Nat.lt_of_lt_of_le (show _ < 100000 by omega) (small (Nat.le_refl _))
    · rintro j x acc H1 H1' hj ⟨s1, rfl⟩ hD1 ⟨rfl, rfl⟩ N S hN hSk
      dsimp only
      rw [Int.zero_add]
      refine ⟨rfl, _, rfl, _, rfl, a, ns, j, rfl, sqL_same hS s1, hl, by omega, fun H2 p s2 np hp2 => ?_⟩
      have np0 : H p = none := s1.free np
      refine ⟨p, rfl, hp2, fun H3 b3 hp3 => hN _ _ (b3 _ _ (s2 _ _ hD1) (ne_of_none hD1 np)) ⟨(But.trans (But.of (s1.trans s2)) b3).same np0, ?_⟩⟩
      exact (List.replicate_succ' ..).symm
    · rintro acc H1 hD ⟨s1, rfl⟩
      refine ⟨D, List.replicate m true, rfl, SqL.of (by rw [List.map_replicate]; exact hD), ?_⟩
      have : (List.replicate m true).all id = true := List.all_eq_true.mpr fun b hb => List.eq_of_mem_replicate hb
      rw [this]
      exact q _
/-! ### the maker -/
theorem mkf2 (K2 : Mkr P w K mg base CX0 5 "Stretch" C [] (spSI K C)) : Mkf P w K mg base CX0 5 "Stretch" (spMk K C) := ⟨C, [], _, K2, fun vs H Q E h a dx n1 n2 ne => by rw [List.append_nil]; exact mk_of h a dx n1 n2 ne⟩
end
end K62

set_option Elab.async false
set_option linter.all false
set_option maxRecDepth 100000
set_option maxHeartbeats 0
/-! the head, the end. -/
namespace K62
open PySem PySem.Spec PyProof.Rows L2 LL
def d_is_integer : DefX := dX (gA "is_integer") "is_integer" "is_integer" s_is_integer
def d_is_new : DefX := dX (gA "is_new") "is_new" "is_new" s_is_new
def d_are_set : DefX := dX (gA "are_set") "are_set" "are_set" s_are_set
def d_is_row : DefX := dX (gA "is_row") "is_row" "is_row" s_is_row
def d_places_in : DefX := dX (gA "places_in") "places_in" "places_in" s_places_in
def d_check_out : DefX := dX (gA "check_out") "check_out" "check_out" s_check_out
def d_needed_by : DefX := dX (gA "needed_by") "needed_by" "needed_by" s_needed_by
def d_last_needs : DefX := dX (gA "last_needs") "last_needs" "last_needs" s_last_needs
def d_is_keep : DefX := dX (gA "is_keep") "is_keep" "is_keep" s_is_keep
def d_check_keeps : DefX := dX (gA "check_keeps") "check_keeps" "check_keeps" s_check_keeps
def d_is_known : DefX := dX (gA "is_known") "is_known" "is_known" s_is_known
def d_known_lists : DefX := dX (gA "known_lists") "known_lists" "known_lists" s_known_lists
def d_known : DefX := dX (gA "known") "known" "known" s_known
def d_first_missing : DefX := dX (gA "first_missing") "first_missing" "first_missing" s_first_missing
def d_missing : DefX := dX (gA "missing") "missing" "missing" s_missing
def d_l_pot : DefX := dX (gA "_law_pot") "_law_pot" "_law_pot" s_l_pot
def d_l_draw : DefX := dX (gA "_law_draw") "_law_draw" "_law_draw" s_l_draw
def d_l_shuffled : DefX := dX (gA "_law_shuffled") "_law_shuffled" "_law_shuffled" s_l_shuffled
def d_l_names : DefX := dX (gA "_law_names") "_law_names" "_law_names" s_l_names
def d_l_some : DefX := dX (gA "_law_some") "_law_some" "_law_some" s_l_some
def d_l_rows : DefX := dX (gA "_law_rows") "_law_rows" "_law_rows" s_l_rows
def d_l_book : DefX := dX (gA "_law_book") "_law_book" "_law_book" s_l_book
def d_l_is_there : DefX := dX (gA "_law_is_there") "_law_is_there" "_law_is_there" s_l_is_there
def d_l_is_live : DefX := dX (gA "_law_is_live") "_law_is_live" "_law_is_live" s_l_is_live
def d_l_lost : DefX := dX (gA "_law_lost") "_law_lost" "_law_lost" s_l_lost
def d_l_candidates : DefX := dX (gA "_law_candidates") "_law_candidates" "_law_candidates" s_l_candidates
def d_l_known : DefX := dX (gA "_law_known") "_law_known" "_law_known" s_l_known
def d_l_missing : DefX := dX (gA "_law_missing") "_law_missing" "_law_missing" s_l_missing
def d_l_first_lost : DefX := dX (gA "_law_first_lost") "_law_first_lost" "_law_first_lost" s_l_first_lost
def d_l_refused_right : DefX := dX (gA "_law_refused_right") "_law_refused_right" "_law_refused_right" s_l_refused_right
def d_l_left : DefX := dX (gA "_law_left") "_law_left" "_law_left" s_l_left
def d_l_fewer_right : DefX := dX (gA "_law_fewer_right") "_law_fewer_right" "_law_fewer_right" s_l_fewer_right
def d_l_right : DefX := dX (gA "_law_right") "_law_right" "_law_right" s_l_right
def d_law : DefX := dX (gA "law") "law" "law" s_law
def d_Stretch_stops : DefX := dX (mA "Stretch" "stops") "stops" "Stretch.stops" s_Stretch_stops
def d_Stretch_is_value : DefX := dX (mA "Stretch" "is_value") "is_value" "Stretch.is_value" s_Stretch_is_value
def d_Stretch_is_stop : DefX := dX (mA "Stretch" "is_stop") "is_stop" "Stretch.is_stop" s_Stretch_is_stop
def d_Stretch_check_value : DefX := dX (mA "Stretch" "check_value") "check_value" "Stretch.check_value" s_Stretch_check_value
def d_Stretch_check_stop : DefX := dX (mA "Stretch" "check_stop") "check_stop" "Stretch.check_stop" s_Stretch_check_stop
def d_Stretch_operands : DefX := dX (mA "Stretch" "operands") "operands" "Stretch.operands" s_Stretch_operands
def d_Stretch_asked : DefX := dX (mA "Stretch" "asked") "asked" "Stretch.asked" s_Stretch_asked
def d_Stretch_is_present : DefX := dX (mA "Stretch" "is_present") "is_present" "Stretch.is_present" s_Stretch_is_present
def d_Stretch_is_live : DefX := dX (mA "Stretch" "is_live") "is_live" "Stretch.is_live" s_Stretch_is_live
def d_Stretch_present : DefX := dX (mA "Stretch" "present") "present" "Stretch.present" s_Stretch_present
def d_Stretchinit : DefX := dXK (mA "Stretch" "__init__") "__init__" "Stretch.__init__" s_Stretchinit (fun K => [.ref (d1A (mA "Stretch" "__init__") K)])
def d_InvalidKeepsinit : DefX := dX (mA "InvalidKeeps" "__init__") "__init__" "InvalidKeeps.__init__" s_InvalidKeepsinit
def d_UnknownStopinit : DefX := dX (mA "UnknownStop" "__init__") "__init__" "UnknownStop.__init__" s_UnknownStopinit
def fn : List DefX := [d_is_integer, d_is_new, d_are_set, d_is_row, d_places_in, d_check_out, d_needed_by, d_last_needs, d_is_keep, d_check_keeps, d_is_known, d_known_lists, d_known, d_first_missing, d_missing, d_l_pot, d_l_draw, d_l_shuffled, d_l_names, d_l_some, d_l_rows, d_l_book, d_l_is_there, d_l_is_live, d_l_lost, d_l_candidates, d_l_known, d_l_missing, d_l_first_lost, d_l_refused_right, d_l_left, d_l_fewer_right, d_l_right, d_law, d_Stretch_stops, d_Stretch_is_value, d_Stretch_is_stop, d_Stretch_check_value, d_Stretch_check_stop, d_Stretch_operands, d_Stretch_asked, d_Stretch_is_present, d_Stretch_is_live, d_Stretch_present, d_Stretchinit, d_InvalidKeepsinit, d_UnknownStopinit]
def t0 : Ft := fGlo "is_integer"
def t1 : Ft := fGlo "is_new"
def t2 : Ft := fGlo "are_set"
def t3 : Ft := fGlo "is_row"
def t4 : Ft := fGlo "places_in"
def t5 : Ft := fGlo "check_out"
def t6 : Ft := fGlo "needed_by"
def t7 : Ft := fGlo "last_needs"
def t8 : Ft := fGlo "is_keep"
def t9 : Ft := fGlo "check_keeps"
def t10 : Ft := fGlo "is_known"
def t11 : Ft := fGlo "known_lists"
def t12 : Ft := fGlo "known"
def t13 : Ft := fGlo "first_missing"
def t14 : Ft := fGlo "missing"
def t15 : Ft := fGlo "_law_pot"
def t16 : Ft := fGlo "_law_draw"
def t17 : Ft := fGlo "_law_shuffled"
def t18 : Ft := fGlo "_law_names"
def t19 : Ft := fGlo "_law_some"
def t20 : Ft := fGlo "_law_rows"
def t21 : Ft := fGlo "_law_book"
def t22 : Ft := fGlo "_law_is_there"
def t23 : Ft := fGlo "_law_is_live"
def t24 : Ft := fGlo "_law_lost"
def t25 : Ft := fGlo "_law_candidates"
def t26 : Ft := fGlo "_law_known"
def t27 : Ft := fGlo "_law_missing"
def t28 : Ft := fGlo "_law_first_lost"
def t29 : Ft := fGlo "_law_refused_right"
def t30 : Ft := fGlo "_law_left"
def t31 : Ft := fGlo "_law_fewer_right"
def t32 : Ft := fGlo "_law_right"
def t33 : Ft := fGlo "law"
def t34 : Ft := fMeth "Stretch" "stops"
def t35 : Ft := fMeth "Stretch" "is_value"
def t36 : Ft := fMeth "Stretch" "is_stop"
def t37 : Ft := fMeth "Stretch" "check_value"
def t38 : Ft := fMeth "Stretch" "check_stop"
def t39 : Ft := fMeth "Stretch" "operands"
def t40 : Ft := fMeth "Stretch" "asked"
def t41 : Ft := fMeth "Stretch" "is_present"
def t42 : Ft := fMeth "Stretch" "is_live"
def t43 : Ft := fMeth "Stretch" "present"
def t44 : Ft := fGlo "Stretch"
def t45 : Ft := fMkr "Stretch"
def t46 : Ft := fCls "Stretch"
def t47 : Ft := fNo "Stretch" "value_places"
def t48 : Ft := fNo "Stretch" "own_rows"
def t49 : Ft := fNo "Stretch" "own_out"
def t50 : Ft := fNo "Stretch" "stop_places"
def t51 : Ft := fNo "Stretch" "need_places"
def t52 : Ft := fSame (fun K => PySem.W.findIn K (.ref (He.ga K "Stretch")) "__class__") (fun _ => some (some (.builtin "object.__class__")))
def t53 : Ft := fSame (fun K => PySem.W.specialIn K (.builtin "object.__class__") "__get__") (fun _ => some (some (.builtin "getset_descriptor.__get__")))
def t54 : Ft := fBool (fun K => PySem.W.takesIn K (.builtin "object.__class__")) true
def t55 : Ft := fBool (fun K => PySem.W.mroIn K (He.ga K "Stretch") (.type "object")) true
def t56 : Ft := fBool (fun K => PySem.W.kitOne K (.ref (He.ga K "Stretch")) (.ref (He.ga K "Stretch"))) true
def t57 : Ft := (fun K => PySem.W.notFirst K (He.ga K "Stretch") (.ref (He.ga K "Stretch")))
def t58 : Ft := fBool (fun K => PySem.W.kitOne K (.type "list") (.ref (He.ga K "Stretch"))) false
def t59 : Ft := (fun K => PySem.W.notFirst K (He.ga K "Stretch") (.type "list"))
def t60 : Ft := fBool (fun K => PySem.W.kitOne K (.type "int") (.ref (He.ga K "Stretch"))) false
def t61 : Ft := (fun K => PySem.W.notFirst K (He.ga K "Stretch") (.type "int"))
def t62 : Ft := fBool (fun K => PySem.W.kitOne K (.type "str") (.ref (He.ga K "Stretch"))) false
def t63 : Ft := (fun K => PySem.W.notFirst K (He.ga K "Stretch") (.type "str"))
def t64 : Ft := fSame (fun K => PySem.W.findIn K (.ref (He.ga K "Stretch")) "__ne__") (fun _ => some (some (.builtin "object.__ne__")))
def t65 : Ft := fStr "LEAF" "leaf"
def t66 : Ft := fStr "SET" "set"
def t67 : Ft := fStr "USE" "use"
def t68 : Ft := fStr "STOP" "stop"
def t69 : Ft := fFree "isinstance"
def t70 : Ft := fFree "int"
def t71 : Ft := fFree "bool"
def t72 : Ft := fFree "abs"
def t73 : Ft := fFree "str"
def t74 : Ft := fFree "repr"
def t75 : Ft := fFree "range"
def t76 : Ft := fFree "len"
def t77 : Ft := fFree "max"
def t78 : Ft := fFree "min"
def t79 : Ft := fFree "divmod"
def t80 : Ft := fFree "all"
def t81 : Ft := fFree "list"
def t82 : Ft := fFree "tuple"
def t83 : Ft := fFree "sorted"
def t84 : Ft := fFree "enumerate"
def t85 : Ft := fFree "LookupError"
def t86 : Ft := fXcl "InvalidKeeps" "position"
def t87 : Ft := fXb "UnknownStop" "LookupError.__new__" tL ["stop_number"]
def t88 : Ft := fBi "LookupError" "LookupError.__init__"
def t89 : Ft := fGlo "LeastlogError"
def t90 : Ft := fGlo "InvalidKeeps"
def t91 : Ft := fGlo "UnknownStop"
def t92 : Ft := fLe "LeastlogError"
def t93 : Ft := fBool (fun K => PySem.W.exmOne K (.ref (He.ga K "UnknownStop")) (.ref (He.ga K "UnknownStop"))) true
def t94 : Ft := fBool (fun K => PySem.W.exmOne K (.ref (He.ga K "InvalidKeeps")) (.ref (He.ga K "UnknownStop"))) false
def t95 : Ft := fBool (fun K => PySem.W.exmOne K (.ref (He.ga K "InvalidKeeps")) (.ref (He.ga K "InvalidKeeps"))) true
def ft0 : List Ft := [t0, t1, t2, t3, t4, t5, t6, t7, t8, t9, t10, t11, t12, t13, t14, t15, t16, t17, t18, t19, t20, t21, t22, t23, t24, t25, t26, t27, t28, t29]
def ft1 : List Ft := [t30, t31, t32, t33, t34, t35, t36, t37, t38, t39, t40, t41, t42, t43, t44, t45, t46, t47, t48, t49, t50, t51, t52, t53, t54, t55, t56, t57, t58, t59]
def ft2 : List Ft := [t60, t61, t62, t63, t64, t65, t66, t67, t68, t69, t70, t71, t72, t73, t74, t75, t76, t77, t78, t79, t80, t81, t82, t83, t84, t85, t86, t87, t88, t89]
def ft3 : List Ft := [t90, t91, t92, t93, t94, t95]
def ft : List Ft := ft0 ++ ft1 ++ ft2 ++ ft3
def tf : List (PySem.W.Frag → Addr) := []
def loose0 : List PySem.Str := ["_wall", "LeastlogError", "InvalidStretch", "InvalidOut", "InvalidKeeps", "is_keep", "check_keeps", "is_known", "known_lists", "known", "first_missing", "missing", "UnknownValue", "UnknownStop", "LEAF", "SET", "USE", "STOP", "is_integer", "is_new", "are_set", "is_row", "places_in", "check_out", "needed_by", "last_needs", "Stretch", "_law_pot", "_law_draw", "_law_shuffled"]
def loose1 : List PySem.Str := ["_law_names", "_law_some", "_law_rows", "_law_book", "_law_is_there", "_law_is_live", "_law_lost", "_law_is_enough", "_law_candidates", "_law_known", "_law_missing", "_law_first_lost", "_law_refused_right", "_law_left", "_law_fewer_right", "_law_right"]
def loose : List PySem.Str := loose0 ++ loose1
abbrev R : PySem.W.OpenRow := PySem.W.OpenLaw.row PySem.Challenge.rw_leastlog_k62_known_by_keeps
abbrev hk : PySem.W.Hook := hookT 7 ft fn tf
def ob (s : PySem.W.SharedT) : LL.AlT := LL.obsTG 7 ft fn tf (HandSHeadRun.getT s)
theorem ob_eq (s : PySem.W.SharedT) : ob s = hk.obs s.abs := LL.obsTG_eq (HandSHeadRun.getT_eq s)
theorem run (w : World) : HandSHeadRun.RunEq R (PySem.W.view R.prog [51]) hk ob 8000 loose w := by
  intro os
  kernel_rfl
def csOf (K : PySem.W.Frag) : List (Addr × Addr) := tf.map fun a => (cOf K (a K), tOf K (a K))
section
variable {P : Program} {w : World} {K : PySem.W.Frag} {h : Heap} {mg : Str → Option Value} {fa : Addr}
theorem facts (X : K.In h) (G : h.Ns mainGlobals mg) (hfa : mg ("law" : Str) = some (.ref fa)) (c : SaysY ft fn K) :
    ∃ fd : FuncData, (∀ (s : Shared) (v : Value), BindsTo s fd ⟨[v], []⟩ [("_law_script", v)]) ∧ ∀ base : Heap, K.In base → base.Ns mainGlobals mg → (∀ p ∈ csOf K, LamX.TabB base mg p.1 p.2) → FnG P w K mg base CX0 11 fa fd ["_law_script"] (spLaw K) := by
  obtain ⟨fd_is_integer, F_is_integer⟩ := c.fn_ 0
  obtain ⟨fd_is_new, F_is_new⟩ := c.fn_ 1
  obtain ⟨fd_are_set, F_are_set⟩ := c.fn_ 2
  obtain ⟨fd_is_row, F_is_row⟩ := c.fn_ 3
  obtain ⟨fd_places_in, F_places_in⟩ := c.fn_ 4
  obtain ⟨fd_check_out, F_check_out⟩ := c.fn_ 5
  obtain ⟨fd_needed_by, F_needed_by⟩ := c.fn_ 6
  obtain ⟨fd_last_needs, F_last_needs⟩ := c.fn_ 7
  obtain ⟨fd_is_keep, F_is_keep⟩ := c.fn_ 8
  obtain ⟨fd_check_keeps, F_check_keeps⟩ := c.fn_ 9
  obtain ⟨fd_is_known, F_is_known⟩ := c.fn_ 10
  obtain ⟨fd_known_lists, F_known_lists⟩ := c.fn_ 11
  obtain ⟨fd_known, F_known⟩ := c.fn_ 12
  obtain ⟨fd_first_missing, F_first_missing⟩ := c.fn_ 13
  obtain ⟨fd_missing, F_missing⟩ := c.fn_ 14
  obtain ⟨fd_l_pot, F_l_pot⟩ := c.fn_ 15
  obtain ⟨fd_l_draw, F_l_draw⟩ := c.fn_ 16
  obtain ⟨fd_l_shuffled, F_l_shuffled⟩ := c.fn_ 17
  obtain ⟨fd_l_names, F_l_names⟩ := c.fn_ 18
  obtain ⟨fd_l_some, F_l_some⟩ := c.fn_ 19
  obtain ⟨fd_l_rows, F_l_rows⟩ := c.fn_ 20
  obtain ⟨fd_l_book, F_l_book⟩ := c.fn_ 21
  obtain ⟨fd_l_is_there, F_l_is_there⟩ := c.fn_ 22
  obtain ⟨fd_l_is_live, F_l_is_live⟩ := c.fn_ 23
  obtain ⟨fd_l_lost, F_l_lost⟩ := c.fn_ 24
  obtain ⟨fd_l_candidates, F_l_candidates⟩ := c.fn_ 25
  obtain ⟨fd_l_known, F_l_known⟩ := c.fn_ 26
  obtain ⟨fd_l_missing, F_l_missing⟩ := c.fn_ 27
  obtain ⟨fd_l_first_lost, F_l_first_lost⟩ := c.fn_ 28
  obtain ⟨fd_l_refused_right, F_l_refused_right⟩ := c.fn_ 29
  obtain ⟨fd_l_left, F_l_left⟩ := c.fn_ 30
  obtain ⟨fd_l_fewer_right, F_l_fewer_right⟩ := c.fn_ 31
  obtain ⟨fd_l_right, F_l_right⟩ := c.fn_ 32
  obtain ⟨fd_law, F_law⟩ := c.fn_ 33
  obtain ⟨fd_Stretch_stops, F_Stretch_stops⟩ := c.fn_ 34
  obtain ⟨fd_Stretch_is_value, F_Stretch_is_value⟩ := c.fn_ 35
  obtain ⟨fd_Stretch_is_stop, F_Stretch_is_stop⟩ := c.fn_ 36
  obtain ⟨fd_Stretch_check_value, F_Stretch_check_value⟩ := c.fn_ 37
  obtain ⟨fd_Stretch_check_stop, F_Stretch_check_stop⟩ := c.fn_ 38
  obtain ⟨fd_Stretch_operands, F_Stretch_operands⟩ := c.fn_ 39
  obtain ⟨fd_Stretch_asked, F_Stretch_asked⟩ := c.fn_ 40
  obtain ⟨fd_Stretch_is_present, F_Stretch_is_present⟩ := c.fn_ 41
  obtain ⟨fd_Stretch_is_live, F_Stretch_is_live⟩ := c.fn_ 42
  obtain ⟨fd_Stretch_present, F_Stretch_present⟩ := c.fn_ 43
  obtain ⟨fd_Stretchinit, F_Stretchinit⟩ := c.fn_ 44
  obtain ⟨fd_InvalidKeepsinit, F_InvalidKeepsinit⟩ := c.fn_ 45
  obtain ⟨fd_UnknownStopinit, F_UnknownStopinit⟩ := c.fn_ 46
  have T : Tx K mg (He.ga K "Stretch") := {
    g_Stretch := He.glo_ok X G (c.fact 44)
    cl := He.cls_ok (c.fact 46)
    a1 := He.noat_ok (c.fact 47)
    a2 := He.noat_ok (c.fact 48)
    a3 := He.noat_ok (c.fact 49)
    a4 := He.noat_ok (c.fact 50)
    a5 := He.noat_ok (c.fact 51)
    ca := He.eqO_ok (c.fact 52)
    cn := He.eqO_ok (c.fact 53)
    ne := He.eqO_ok (c.fact 64)
    ct := of_decide_eq_true (c.fact 54)
    cm := of_decide_eq_true (c.fact 55)
    kC := of_decide_eq_true (c.fact 56)
    kL := of_decide_eq_true (c.fact 58)
    kI := of_decide_eq_true (c.fact 60)
    kS := of_decide_eq_true (c.fact 62)
    fC := (c.fact 57)
    fL := (c.fact 59)
    fI := (c.fact 61)
    fS := (c.fact 63)
    g_LEAF := He.str_ok X G (c.fact 65)
    g_SET := He.str_ok X G (c.fact 66)
    g_USE := He.str_ok X G (c.fact 67)
    g_STOP := He.str_ok X G (c.fact 68)
    n_isinstance := He.free_ok X G (c.fact 69)
    n_int := He.free_ok X G (c.fact 70)
    n_bool := He.free_ok X G (c.fact 71)
    n_abs := He.free_ok X G (c.fact 72)
    n_str := He.free_ok X G (c.fact 73)
    n_repr := He.free_ok X G (c.fact 74)
    n_range := He.free_ok X G (c.fact 75)
    n_len := He.free_ok X G (c.fact 76)
    n_max := He.free_ok X G (c.fact 77)
    n_min := He.free_ok X G (c.fact 78)
    n_divmod := He.free_ok X G (c.fact 79)
    n_all := He.free_ok X G (c.fact 80)
    n_list := He.free_ok X G (c.fact 81)
    n_tuple := He.free_ok X G (c.fact 82)
    n_sorted := He.free_ok X G (c.fact 83)
    n_enumerate := He.free_ok X G (c.fact 84)
  }
  have S : Ty K mg (He.ga K "LeastlogError") (He.ga K "InvalidKeeps") (He.ga K "UnknownStop") := {
    g_LeastlogError := He.glo_ok X G (c.fact 89)
    g_InvalidKeeps := He.glo_ok X G (c.fact 90)
    g_UnknownStop := He.glo_ok X G (c.fact 91)
    le := fLe_ok (c.fact 92)
    n_LookupError := He.free_ok X G (c.fact 85)
    vL := fBi_ok (c.fact 88)
    xSS := of_decide_eq_true (c.fact 93)
    xKS := of_decide_eq_true (c.fact 94)
    xKK := of_decide_eq_true (c.fact 95)
  }
  have B_is_integer : Binds K fd_is_integer ["thing"] [] := F_is_integer.bindsN fun _ _ _ _ _ _ us hl => match us, hl with | [_], _ => rfl
  have B_is_new : Binds K fd_is_new ["thing", "places"] [] := F_is_new.bindsN fun _ _ _ _ _ _ us hl => match us, hl with | [_, _], _ => rfl
  have B_are_set : Binds K fd_are_set ["things", "places"] [] := F_are_set.bindsN fun _ _ _ _ _ _ us hl => match us, hl with | [_, _], _ => rfl
  have B_is_row : Binds K fd_is_row ["thing", "places"] [] := F_is_row.bindsN fun _ _ _ _ _ _ us hl => match us, hl with | [_, _], _ => rfl
  have B_places_in : Binds K fd_places_in ["rows"] [] := F_places_in.bindsN fun _ _ _ _ _ _ us hl => match us, hl with | [_], _ => rfl
  have B_check_out : Binds K fd_check_out ["out", "places"] [] := F_check_out.bindsN fun _ _ _ _ _ _ us hl => match us, hl with | [_, _], _ => rfl
  have B_needed_by : Binds K fd_needed_by ["row"] [] := F_needed_by.bindsN fun _ _ _ _ _ _ us hl => match us, hl with | [_], _ => rfl
  have B_last_needs : Binds K fd_last_needs ["rows", "out"] [] := F_last_needs.bindsN fun _ _ _ _ _ _ us hl => match us, hl with | [_, _], _ => rfl
  have B_is_keep : Binds K fd_is_keep ["stretch", "thing"] [] := F_is_keep.bindsN fun _ _ _ _ _ _ us hl => match us, hl with | [_, _], _ => rfl
  have B_check_keeps : Binds K fd_check_keeps ["stretch", "keeps"] [] := F_check_keeps.bindsN fun _ _ _ _ _ _ us hl => match us, hl with | [_, _], _ => rfl
  have B_is_known : Binds K fd_is_known ["stretch", "keeps", "value", "stop", "known"] [] := F_is_known.bindsN fun _ _ _ _ _ _ us hl => match us, hl with | [_, _, _, _, _], _ => rfl
  have B_known_lists : Binds K fd_known_lists ["stretch", "keeps"] [] := F_known_lists.bindsN fun _ _ _ _ _ _ us hl => match us, hl with | [_, _], _ => rfl
  have B_known : Binds K fd_known ["stretch", "keeps", "stop"] [] := F_known.bindsN fun _ _ _ _ _ _ us hl => match us, hl with | [_, _, _], _ => rfl
  have B_first_missing : Binds K fd_first_missing ["stretch", "lists"] [] := F_first_missing.bindsN fun _ _ _ _ _ _ us hl => match us, hl with | [_, _], _ => rfl
  have B_missing : Binds K fd_missing ["stretch", "keeps"] [] := F_missing.bindsN fun _ _ _ _ _ _ us hl => match us, hl with | [_, _], _ => rfl
  have B_l_pot : Binds K fd_l_pot ["_law_script", "_law_k"] [] := F_l_pot.bindsN fun _ _ _ _ _ _ us hl => match us, hl with | [_, _], _ => rfl
  have B_l_draw : Binds K fd_l_draw ["_law_pot_here", "_law_many"] [] := F_l_draw.bindsN fun _ _ _ _ _ _ us hl => match us, hl with | [_, _], _ => rfl
  have B_l_shuffled : Binds K fd_l_shuffled ["_law_pot_here", "_law_things"] [] := F_l_shuffled.bindsN fun _ _ _ _ _ _ us hl => match us, hl with | [_, _], _ => rfl
  have B_l_names : Binds K fd_l_names ["_law_pot_here", "_law_many"] [] := F_l_names.bindsN fun _ _ _ _ _ _ us hl => match us, hl with | [_, _], _ => rfl
  have B_l_some : Binds K fd_l_some ["_law_pot_here", "_law_there", "_law_most"] [] := F_l_some.bindsN fun _ _ _ _ _ _ us hl => match us, hl with | [_, _, _], _ => rfl
  have B_l_rows : Binds K fd_l_rows ["_law_pot_here", "_law_values", "_law_stops", "_law_others"] [] := F_l_rows.bindsN fun _ _ _ _ _ _ us hl => match us, hl with | [_, _, _, _], _ => rfl
  have B_l_book : Binds K fd_l_book ["_law_rows_here", "_law_out"] [] := F_l_book.bindsN fun _ _ _ _ _ _ us hl => match us, hl with | [_, _], _ => rfl
  have B_l_is_there : Binds K fd_l_is_there ["_law_book_here", "_law_value", "_law_stop"] [] := F_l_is_there.bindsN fun _ _ _ _ _ _ us hl => match us, hl with | [_, _, _], _ => rfl
  have B_l_is_live : Binds K fd_l_is_live ["_law_book_here", "_law_value", "_law_stop"] [] := F_l_is_live.bindsN fun _ _ _ _ _ _ us hl => match us, hl with | [_, _, _], _ => rfl
  have B_l_lost : Binds K fd_l_lost ["_law_book_here", "_law_kept"] [] := F_l_lost.bindsN fun _ _ _ _ _ _ us hl => match us, hl with | [_, _], _ => rfl
  have B_l_candidates : Binds K fd_l_candidates ["_law_book_here"] [] := F_l_candidates.bindsN fun _ _ _ _ _ _ us hl => match us, hl with | [_], _ => rfl
  have B_l_known : Binds K fd_l_known ["_law_stretch", "_law_pairs", "_law_stop"] [] := F_l_known.bindsN fun _ _ _ _ _ _ us hl => match us, hl with | [_, _, _], _ => rfl
  have B_l_missing : Binds K fd_l_missing ["_law_stretch", "_law_pairs"] [] := F_l_missing.bindsN fun _ _ _ _ _ _ us hl => match us, hl with | [_, _], _ => rfl
  have B_l_first_lost : Binds K fd_l_first_lost ["_law_book_here", "_law_gone"] [] := F_l_first_lost.bindsN fun _ _ _ _ _ _ us hl => match us, hl with | [_, _], _ => rfl
  have B_l_refused_right : Binds K fd_l_refused_right ["_law_pot_here", "_law_stretch", "_law_book_here", "_law_pairs"] [] := F_l_refused_right.bindsN fun _ _ _ _ _ _ us hl => match us, hl with | [_, _, _, _], _ => rfl
  have B_l_left : Binds K fd_l_left ["_law_book_here", "_law_gone", "_law_stop"] [] := F_l_left.bindsN fun _ _ _ _ _ _ us hl => match us, hl with | [_, _, _], _ => rfl
  have B_l_fewer_right : Binds K fd_l_fewer_right ["_law_pot_here", "_law_stretch", "_law_book_here", "_law_pairs"] [] := F_l_fewer_right.bindsN fun _ _ _ _ _ _ us hl => match us, hl with | [_, _, _, _], _ => rfl
  have B_l_right : Binds K fd_l_right ["_law_pot_here"] [] := F_l_right.bindsN fun _ _ _ _ _ _ us hl => match us, hl with | [_], _ => rfl
  have B_law : Binds K fd_law ["_law_script"] [] := F_law.bindsN fun _ _ _ _ _ _ us hl => match us, hl with | [_], _ => rfl
  have B_Stretch_stops : Binds K fd_Stretch_stops ["self"] [] := F_Stretch_stops.bindsN fun _ _ _ _ _ _ us hl => match us, hl with | [_], _ => rfl
  have B_Stretch_is_value : Binds K fd_Stretch_is_value ["self", "thing"] [] := F_Stretch_is_value.bindsN fun _ _ _ _ _ _ us hl => match us, hl with | [_, _], _ => rfl
  have B_Stretch_is_stop : Binds K fd_Stretch_is_stop ["self", "thing"] [] := F_Stretch_is_stop.bindsN fun _ _ _ _ _ _ us hl => match us, hl with | [_, _], _ => rfl
  have B_Stretch_check_value : Binds K fd_Stretch_check_value ["self", "thing"] [] := F_Stretch_check_value.bindsN fun _ _ _ _ _ _ us hl => match us, hl with | [_, _], _ => rfl
  have B_Stretch_check_stop : Binds K fd_Stretch_check_stop ["self", "thing"] [] := F_Stretch_check_stop.bindsN fun _ _ _ _ _ _ us hl => match us, hl with | [_, _], _ => rfl
  have B_Stretch_operands : Binds K fd_Stretch_operands ["self", "value"] [] := F_Stretch_operands.bindsN fun _ _ _ _ _ _ us hl => match us, hl with | [_, _], _ => rfl
  have B_Stretch_asked : Binds K fd_Stretch_asked ["self", "stop"] [] := F_Stretch_asked.bindsN fun _ _ _ _ _ _ us hl => match us, hl with | [_, _], _ => rfl
  have B_Stretch_is_present : Binds K fd_Stretch_is_present ["self", "value", "stop"] [] := F_Stretch_is_present.bindsN fun _ _ _ _ _ _ us hl => match us, hl with | [_, _, _], _ => rfl
  have B_Stretch_is_live : Binds K fd_Stretch_is_live ["self", "value", "stop"] [] := F_Stretch_is_live.bindsN fun _ _ _ _ _ _ us hl => match us, hl with | [_, _, _], _ => rfl
  have B_Stretch_present : Binds K fd_Stretch_present ["self", "stop"] [] := F_Stretch_present.bindsN fun _ _ _ _ _ _ us hl => match us, hl with | [_, _], _ => rfl
  have B_InvalidKeepsinit : Binds K fd_InvalidKeepsinit ["self", "position"] [] := F_InvalidKeepsinit.bindsN fun _ _ _ _ _ _ us hl => match us, hl with | [_, _], _ => rfl
  have B_UnknownStopinit : Binds K fd_UnknownStopinit ["self", "stop_number"] [] := F_UnknownStopinit.bindsN fun _ _ _ _ _ _ us hl => match us, hl with | [_, _], _ => rfl
  obtain ⟨ds2, v2, B2⟩ := FunD.binds1 (ps := ["self", "rows", "out"]) F_Stretchinit 3 1 (List.cons_ne_nil _ _) rfl fun _ _ _ _ _ _ _ us its hl hi => match us, its, hl, hi with | [_, _, _], [_], _, _ => ⟨_, rfl, rfl⟩
  have e := hfa.symm.trans (He.glo_ok X G (c.fact 33))
  cases e
  have b := FunD.bindsA (ps := ["_law_script"]) F_law fun _ _ _ _ _ _ us hl => match us, hl with | [_], _ => rfl
  refine ⟨fd_law, fun s v => b s [v] rfl, fun base kb nb tbs => ?_⟩
  have O_InvalidKeeps : OexC K (He.ga K "InvalidKeeps") ∧ PySem.W.findIn K (.ref (He.ga K "InvalidKeeps")) "position" = some none := by
    have q := (c.fact 86)
    exact fXcl_pre q
  have X_InvalidKeeps : Xcl P w K mg base 1 "InvalidKeeps" (He.ga K "InvalidKeeps") "position" := fXcl_ok (c.fact 86) (He.glo_ok X G (c.fact 90)) B_InvalidKeepsinit (ok_kinit S O_InvalidKeeps.1 O_InvalidKeeps.2 F_InvalidKeepsinit)
  have O_UnknownStop := fXb_pre (c.fact 87)
  have X_UnknownStop : XclB P w K mg base 1 "UnknownStop" (He.ga K "UnknownStop") ["stop_number"] := fXb_ok bas_L (c.fact 87) (He.glo_ok X G (c.fact 91)) B_UnknownStopinit (ok_usinit S O_UnknownStop.1 (O_UnknownStop.2 _ (List.mem_singleton.mpr rfl)) F_UnknownStopinit)
  have G_is_integer : Fnc P w K mg base CX0 1 "is_integer" [] spInt := ⟨_, _, _, [], He.glo_ok X G (c.fact 0), F_is_integer.kp, B_is_integer, .nil, ok_is_integer T F_is_integer⟩
  have G_is_integerG : Fnc P w K mg base CX0 1 "is_integer" [] (spIntG K) := ⟨_, _, _, [], He.glo_ok X G (c.fact 0), F_is_integer.kp, B_is_integer, .nil, ok_is_integerG T F_is_integer⟩
  have G_is_new : Fnc P w K mg base CX0 2 "is_new" [] spNew := ⟨_, _, _, [], He.glo_ok X G (c.fact 1), F_is_new.kp, B_is_new, .nil, ok_is_new T G_is_integer F_is_new⟩
  have G_are_set : Fnc P w K mg base CX0 2 "are_set" [] spAre := ⟨_, _, _, [], He.glo_ok X G (c.fact 2), F_are_set.kp, B_are_set, .nil, ok_are_set T G_is_integer F_are_set⟩
  have G_is_row : Fnc P w K mg base CX0 3 "is_row" [] spRow := ⟨_, _, _, [], He.glo_ok X G (c.fact 3), F_is_row.kp, B_is_row, .nil, ok_is_row T G_is_new G_are_set F_is_row⟩
  have G_places_in : Fnc P w K mg base CX0 4 "places_in" [] spPl := ⟨_, _, _, [], He.glo_ok X G (c.fact 4), F_places_in.kp, B_places_in, .nil, ok_places_in T G_is_row F_places_in⟩
  have G_check_out : Fnc P w K mg base CX0 2 "check_out" [] (spCO K) := ⟨_, _, _, [], He.glo_ok X G (c.fact 5), F_check_out.kp, B_check_out, .nil, ok_check_out T G_is_integer F_check_out⟩
  have G_needed_by : Fnc P w K mg base CX0 1 "needed_by" [] spNb := ⟨_, _, _, [], He.glo_ok X G (c.fact 6), F_needed_by.kp, B_needed_by, .nil, ok_needed_by T F_needed_by⟩
  have G_last_needs : Fnc P w K mg base CX0 2 "last_needs" [] (spLn K) := ⟨_, _, _, [], He.glo_ok X G (c.fact 7), F_last_needs.kp, B_last_needs, .nil, ok_last_needs T G_needed_by F_last_needs⟩
  have init := ok_sinit (P := P) (w := w) (base := base) T G_places_in G_check_out G_last_needs F_Stretchinit
  have K2 : Mkr P w K mg base CX0 5 "Stretch" (He.ga K "Stretch") [] (spSI K (He.ga K "Stretch")) := ⟨_, _, _, _, He.mkr_ok (c.fact 45), T.g_Stretch, B2, v2, init⟩
  have K_Stretch2 := mkf2 K2
  have M_stops : Mth P w K mg base CX0 1 (He.ga K "Stretch") "stops" [] (spSt (He.ga K "Stretch")) := ⟨T.cl, _, _, _, [], He.meth_ok (c.fact 34), B_Stretch_stops, .nil, ok_stops T F_Stretch_stops⟩
  have M_is_value : Mth P w K mg base CX0 2 (He.ga K "Stretch") "is_value" [] (spIV K (He.ga K "Stretch")) := ⟨T.cl, _, _, _, [], He.meth_ok (c.fact 35), B_Stretch_is_value, .nil, ok_is_value T G_is_integerG F_Stretch_is_value⟩
  have M_is_stop : Mth P w K mg base CX0 2 (He.ga K "Stretch") "is_stop" [] (spIS K (He.ga K "Stretch")) := ⟨T.cl, _, _, _, [], He.meth_ok (c.fact 36), B_Stretch_is_stop, .nil, ok_is_stop T G_is_integerG F_Stretch_is_stop⟩
  have M_check_value : Mth P w K mg base CX0 3 (He.ga K "Stretch") "check_value" [] (spCV (He.ga K "Stretch")) := ⟨T.cl, _, _, _, [], He.meth_ok (c.fact 37), B_Stretch_check_value, .nil, ok_check_value T M_is_value F_Stretch_check_value⟩
  have M_check_stop : Mth P w K mg base (L2.CX P w) 3 (He.ga K "Stretch") "check_stop" [] (spCSX K (He.ga K "Stretch") (He.ga K "UnknownStop")) := ⟨T.cl, _, _, _, [], He.meth_ok (c.fact 38), B_Stretch_check_stop, .nil, ok_check_stopX T X_UnknownStop M_is_stop F_Stretch_check_stop⟩
  have M_check_stopX := M_check_stop
  have M_check_stop : Mth P w K mg base CX0 3 (He.ga K "Stretch") "check_stop" [] (spCS (He.ga K "Stretch")) := ⟨T.cl, _, _, _, [], He.meth_ok (c.fact 38), B_Stretch_check_stop, .nil, ok_check_stop T M_is_stop F_Stretch_check_stop⟩
  have M_operands : Mth P w K mg base CX0 4 (He.ga K "Stretch") "operands" [] (spOps (He.ga K "Stretch")) := ⟨T.cl, _, _, _, [], He.meth_ok (c.fact 39), B_Stretch_operands, .nil, ok_operands T M_check_value F_Stretch_operands⟩
  have M_asked : Mth P w K mg base CX0 4 (He.ga K "Stretch") "asked" [] (spAsk (He.ga K "Stretch")) := ⟨T.cl, _, _, _, [], He.meth_ok (c.fact 40), B_Stretch_asked, .nil, ok_asked T M_check_stop F_Stretch_asked⟩
  have M_is_present : Mth P w K mg base CX0 1 (He.ga K "Stretch") "is_present" [] (spPr (He.ga K "Stretch")) := ⟨T.cl, _, _, _, [], He.meth_ok (c.fact 41), B_Stretch_is_present, .nil, ok_is_present T F_Stretch_is_present⟩
  have M_is_live : Mth P w K mg base CX0 2 (He.ga K "Stretch") "is_live" [] (spLv (He.ga K "Stretch")) := ⟨T.cl, _, _, _, [], He.meth_ok (c.fact 42), B_Stretch_is_live, .nil, ok_is_live T M_is_present F_Stretch_is_live⟩
  have M_present : Mth P w K mg base CX0 2 (He.ga K "Stretch") "present" [] (spPrs (He.ga K "Stretch")) := ⟨T.cl, _, _, _, [], He.meth_ok (c.fact 43), B_Stretch_present, .nil, ok_present T M_is_present F_Stretch_present⟩
  have G_is_keep : Fnc P w K mg base CX0 3 "is_keep" [] (spKeep K (He.ga K "Stretch")) := ⟨_, _, _, [], He.glo_ok X G (c.fact 8), F_is_keep.kp, B_is_keep, .nil, ok_is_keep T M_is_value M_is_stop M_is_present M_is_live F_is_keep⟩
  have G_check_keeps : Fnc P w K mg base (L2.CX P w) 4 "check_keeps" [] (spCk K (He.ga K "Stretch") (He.ga K "InvalidKeeps")) := ⟨_, _, _, [], He.glo_ok X G (c.fact 9), F_check_keeps.kp, B_check_keeps, .nil, ok_check_keeps T X_InvalidKeeps G_is_keep F_check_keeps⟩
  have G_is_known : Fnc P w K mg base CX0 5 "is_known" [] (spKnown (He.ga K "Stretch")) := ⟨_, _, _, [], He.glo_ok X G (c.fact 10), F_is_known.kp, B_is_known, .nil, ok_is_known T M_is_live M_operands F_is_known⟩
  have G_known_lists : Fnc P w K mg base CX0 6 "known_lists" [] (spKl (He.ga K "Stretch")) := ⟨_, _, _, [], He.glo_ok X G (c.fact 11), F_known_lists.kp, B_known_lists, .nil, ok_known_lists T M_stops M_present G_is_known F_known_lists⟩
  have G_known : Fnc P w K mg base (L2.CX P w) 7 "known" [] (spKn K (He.ga K "Stretch") (He.ga K "InvalidKeeps") (He.ga K "UnknownStop")) := ⟨_, _, _, [], He.glo_ok X G (c.fact 12), F_known.kp, B_known, .nil, ok_known T G_check_keeps M_check_stopX G_known_lists F_known⟩
  have G_first_missing : Fnc P w K mg base CX0 5 "first_missing" [] (spFm (He.ga K "Stretch")) := ⟨_, _, _, [], He.glo_ok X G (c.fact 13), F_first_missing.kp, B_first_missing, .nil, ok_first_missing T M_asked F_first_missing⟩
  have G_missing : Fnc P w K mg base (L2.CX P w) 7 "missing" [] (spMs K (He.ga K "Stretch") (He.ga K "InvalidKeeps")) := ⟨_, _, _, [], He.glo_ok X G (c.fact 14), F_missing.kp, B_missing, .nil, ok_missing T G_check_keeps G_known_lists G_first_missing F_missing⟩
  have G_l_pot : Fnc P w K mg base CX0 1 "_law_pot" [] (spPot K) := ⟨_, _, _, [], He.glo_ok X G (c.fact 15), F_l_pot.kp, B_l_pot, .nil, ok_l_pot T F_l_pot⟩
  have G_l_draw : Fnc P w K mg base CX0 1 "_law_draw" [] spTake := ⟨_, _, _, [], He.glo_ok X G (c.fact 16), F_l_draw.kp, B_l_draw, .nil, ok_l_draw T F_l_draw⟩
  have G_l_shuffled : Fnc P w K mg base CX0 2 "_law_shuffled" [] spShuf := ⟨_, _, _, [], He.glo_ok X G (c.fact 17), F_l_shuffled.kp, B_l_shuffled, .nil, ok_l_shuffled T G_l_draw F_l_shuffled⟩
  have G_l_names : Fnc P w K mg base CX0 3 "_law_names" [] spNames := ⟨_, _, _, [], He.glo_ok X G (c.fact 18), F_l_names.kp, B_l_names, .nil, ok_l_names T G_l_draw G_l_shuffled F_l_names⟩
  have G_l_some : Fnc P w K mg base CX0 2 "_law_some" [] spSome := ⟨_, _, _, [], He.glo_ok X G (c.fact 19), F_l_some.kp, B_l_some, .nil, ok_l_some T G_l_draw F_l_some⟩
  have G_l_rows : Fnc P w K mg base CX0 4 "_law_rows" [] spRows := ⟨_, _, _, [], He.glo_ok X G (c.fact 20), F_l_rows.kp, B_l_rows, .nil, ok_l_rows T G_l_draw G_l_shuffled G_l_names G_l_some F_l_rows⟩
  have G_l_book : Fnc P w K mg base CX0 1 "_law_book" [] spBook := ⟨_, _, _, [], He.glo_ok X G (c.fact 21), F_l_book.kp, B_l_book, .nil, ok_l_book T F_l_book⟩
  have G_l_is_there : Fnc P w K mg base CX0 1 "_law_is_there" [] spTh := ⟨_, _, _, [], He.glo_ok X G (c.fact 22), F_l_is_there.kp, B_l_is_there, .nil, ok_l_is_there T F_l_is_there⟩
  have G_l_is_live : Fnc P w K mg base CX0 2 "_law_is_live" [] spLL := ⟨_, _, _, [], He.glo_ok X G (c.fact 23), F_l_is_live.kp, B_l_is_live, .nil, ok_l_is_live T G_l_is_there F_l_is_live⟩
  have G_l_lost : Fnc P w K mg base CX0 3 "_law_lost" [] spLost := ⟨_, _, _, [], He.glo_ok X G (c.fact 24), F_l_lost.kp, B_l_lost, .nil, ok_l_lost T G_l_is_there G_l_is_live F_l_lost⟩
  have G_l_left : Fnc P w K mg base CX0 2 "_law_left" [] spLeft := ⟨_, _, _, [], He.glo_ok X G (c.fact 30), F_l_left.kp, B_l_left, .nil, ok_l_left T G_l_is_there F_l_left⟩
  have G_l_first_lost : Fnc P w K mg base CX0 1 "_law_first_lost" [] spFl := ⟨_, _, _, [], He.glo_ok X G (c.fact 28), F_l_first_lost.kp, B_l_first_lost, .nil, ok_l_first_lost T F_l_first_lost⟩
  have G_l_candidates : Fnc P w K mg base CX0 3 "_law_candidates" [] spCand := ⟨_, _, _, [], He.glo_ok X G (c.fact 25), F_l_candidates.kp, B_l_candidates, .nil, ok_l_candidates T G_l_is_there G_l_is_live F_l_candidates⟩
  have G_l_known : Fnc P w K mg base CX0 8 "_law_known" [] (spLKn K (He.ga K "Stretch")) := ⟨_, _, _, [], He.glo_ok X G (c.fact 26), F_l_known.kp, B_l_known, .nil, ok_l_known T S X_InvalidKeeps X_UnknownStop G_known F_l_known⟩
  have G_l_missing : Fnc P w K mg base CX0 8 "_law_missing" [] (spLMs K (He.ga K "Stretch")) := ⟨_, _, _, [], He.glo_ok X G (c.fact 27), F_l_missing.kp, B_l_missing, .nil, ok_l_missing T S X_InvalidKeeps G_missing F_l_missing⟩
  have G_l_refused_right : Fnc P w K mg base CX0 9 "_law_refused_right" [] (spRR K (He.ga K "Stretch")) := ⟨_, _, _, [], He.glo_ok X G (c.fact 29), F_l_refused_right.kp, B_l_refused_right, .nil, ok_l_refused_right T G_l_is_there G_l_is_live G_l_draw G_l_known G_l_missing F_l_refused_right⟩
  have G_l_fewer_right : Fnc P w K mg base CX0 8 "_law_fewer_right" [] (spFw (He.ga K "Stretch")) := ⟨_, _, _, [], He.glo_ok X G (c.fact 31), F_l_fewer_right.kp, B_l_fewer_right, .nil, ok_l_fewer_right T G_l_draw G_l_lost G_l_left G_l_first_lost G_known G_missing F_l_fewer_right⟩
  have G_l_right : Fnc P w K mg base CX0 10 "_law_right" [] spRt := ⟨_, _, _, [], He.glo_ok X G (c.fact 32), F_l_right.kp, B_l_right, .nil, ok_l_right T G_l_draw G_l_rows K_Stretch2 G_l_book G_l_shuffled G_l_candidates G_l_lost G_l_left G_l_first_lost G_known G_missing G_l_known G_l_refused_right G_l_fewer_right F_l_right⟩
  exact ok_law T G_l_pot G_l_right F_law
end
end K62
open PySem PySem.W PySem.Calls PyProof.Rows
theorem PySem.Challenge.cw_leastlog_k62_known_by_keeps_holds : PySem.Challenge.rw_leastlog_k62_known_by_keeps.Holds := by
  w_on; o_law
  refine HandSHeadRun.head_any (r := OpenLaw.row PySem.Challenge.rw_leastlog_k62_known_by_keeps) (q := view (OpenLaw.row PySem.Challenge.rw_leastlog_k62_known_by_keeps).prog [51]) (H := K62.hk) (ob := K62.ob) (M := 8000) (loose := K62.loose) (d := HandSHeadRun.topDef (OpenLaw.row PySem.Challenge.rw_leastlog_k62_known_by_keeps).prog 51) (kwd := []) K62.ob_eq
    (by kernel_rfl) (fun s => by kernel_rfl) K62.run (by kernel_rfl) (by kernel_rfl) (by kernel_rfl) (by rfl) (by first | assumption | decide +kernel) (by decide +kernel) ⟨rfl, rfl, rfl, rfl, rfl, by decide +kernel⟩ ?hw ?hc
  case hw => w_witness2
  case hc =>
    refine LL.walkT (l := PySem.Challenge.rw_leastlog_k62_known_by_keeps) (n := 63) (k := 11) (x := "_law_script") (CX := L2.CX0) rfl (by decide) (by kernel_rfl) ⟨⟨rfl, by decide, by decide⟩, rfl⟩ ?F (fun _ _ _ _ z => z)
    intro w mg fa h Y G hmg0
    obtain ⟨K, KX, c⟩ := Y
    have hmg : mg ("law" : PySem.Str) = some (.ref fa) := by
      have e : (HandSHeadRun.topDef (OpenLaw.row PySem.Challenge.rw_leastlog_k62_known_by_keeps).prog 51).name = ("law" : PySem.Str) := by kernel_rfl
      rw [← e]
      exact hmg0
    obtain ⟨fd, hb, hF⟩ := K62.facts (P := (PySem.Challenge.rw_leastlog_k62_known_by_keeps).prog) (w := w) KX G hmg c.y
    have mem : ∀ p ∈ K62.csOf K, ∃ a ∈ K62.tf, p = (LL.cOf K (a K), LL.tOf K (a K)) := fun p hp => by
      obtain ⟨a, ha, e⟩ := List.mem_map.mp hp
      exact ⟨a, ha, e.symm⟩
    refine ⟨K, fd, K62.spLaw K, K62.csOf K, KX, fun p hp => ?_, fun p hp => ?_, fun p hp => ?_, hb, fun H a ns hl _ hT hS => ⟨a, ns, rfl, hS, hl, fun _ => rfl⟩, hF⟩
    · obtain ⟨a, ha, rfl⟩ := mem p hp
      exact c.emp a ha
    · obtain ⟨a, ha, rfl⟩ := mem p hp
      exact c.out a ha
    · obtain ⟨a, ha, rfl⟩ := mem p hp
      exact c.hd a ha
