import PyProof.Rows.All
import Wide.All
import OpenK.AllK
import Wide.FinOn
import KE.KOpsOwn
import KE.KCallOwn
import KE.KFmtOwn
import PyProof.ReprRoads
import HandS.ForMost
import HandS.Exc
import HandS.Lambda
import HandS.Defaults
import HandS.Property
import HandS.IsInst
import HandS.FStr
import HandS.WideBits
import HandS.EndTab
import HandS.SlotsOwn
import HandS.FStrTup
import HandS.RaiseMore
import HandS.Head0
import HandS.Head1
import HandS.Head2
import HandS.HeadEnd
import HandS.HeadHook1
import HandS.HeadHook2
import HandS.EndBits
import HandS.TryOnly
import HandS.TryMany
import HandS.ExcInit
import HandS.ExcField
import HandS.ExcIs
import HandS.HeadHook4
import HandS.Walk
import PySem.Challenge.RW_leastlog_k76_disks
set_option Elab.async false
set_option linter.all false
set_option maxRecDepth 100000
set_option maxHeartbeats 2000000
/-! LLBase: the layer with one fact more: no repr is under way where a def is called. -/
namespace LL
open PySem PySem.Spec PyProof.Rows L2

/-- room for k calls, and no container's repr is under way -/
structure Rm (k : Nat) (A : Around) : Prop where
  r : Room k A
  g : A.guards = some []
theorem Rm.mono {j k : Nat} {A : Around} (h : Rm k A) (q : j ≤ k) : Rm j A := ⟨h.r.mono q, h.g⟩
theorem Rm.deeper {k : Nat} {A : Around} (h : Rm (k + 1) A) (env : Env) : Rm k (A.deeper env) := ⟨h.r.deeper env, h.g⟩
theorem Rm.in1 {k : Nat} {A : Around} (h : Rm (k + 1) A) : Rm k A.in1 := ⟨h.r.in1, h.g⟩
theorem Rm.make {k : Nat} {A : Around} (h : Rm (k + 1) A) (C : Addr) (us : List Value) (kw : List (Str × Value)) : Rm k (A.under (.builtin "type.__call__" ⟨.ref C :: us, kw⟩)) :=
  ⟨h.r.make C us kw, by
    have e : (Code.builtin "type.__call__" ⟨.ref C :: us, kw⟩).guards = [] := by
      first | rfl | simp [Code.guards, Code.isGuard, guardIds]
    unfold Around.under
    rw [e, h.g]
    rfl⟩

/-- a def keeps its promise wherever there is room and no repr is under way -/
structure FnG (P : Program) (w : World) (K : PySem.W.Frag) (mg : Str → Option Value) (base : Heap) (CX : CXT) (k : Nat) (f : Addr) (fd : FuncData) (ps : List Str) (sp : Sp) : Prop where
  len : ∀ vs H Q E, sp vs H Q E → vs.length = ps.length
  run : ∀ (A : Around) (outer : List Env) (s : Shared) (H : Hp) (args : Args) (us : List Value) (vs : List V) (Q : VK) (E : XK), Rm k A → Env0 P w K mg base A outer s H → BindsTo s fd args (ps.zip us) → Vals vs us → sp vs H Q E →
    codeAny (model P w) A (.call (.ref f) args) (CR CX outer P w H s Q E) s
section
variable {P : Program} {w : World} {K : PySem.W.Frag} {mg : Str → Option Value} {base : Heap} {CX : CXT} {k : Nat} {f : Addr} {fd : FuncData} {ps : List Str} {sp sp' : Sp}
theorem FnG.mono {j : Nat} (F : FnG P w K mg base CX j f fd ps sp) (h : j ≤ k) : FnG P w K mg base CX k f fd ps sp :=
  ⟨F.len, fun A outer s H args us vs Q E hr => F.run A outer s H args us vs Q E (hr.mono h)⟩
theorem FnG.imp (F : FnG P w K mg base CX k f fd ps sp) (h : ∀ vs H Q E, sp' vs H Q E → sp vs H Q E) : FnG P w K mg base CX k f fd ps sp' :=
  ⟨fun vs H Q E q => F.len vs H Q E (h _ _ _ _ q), fun A outer s H args us vs Q E hr he hb hv hs => F.run A outer s H args us vs Q E hr he hb hv (h _ _ _ _ hs)⟩
/-- a def by its body: it may raise -/
theorem okX {x qual : Str} {params : Arguments} {body : List Stmt} {scope : Scope} {dvs : List V} {kws : List (Str × V)} {N : List Str} (F : FunD K x qual params body scope dvs kws f fd) (S : FnScope N ps scope) (len : ∀ vs H Q E, sp vs H Q E → vs.length = ps.length)
    (hbody : ∀ (cdv : Value) (A : Around) (outer : List Env) (s : Shared) (H : Hp) (vs : List V) (Q : VK) (E : XK), Rm k (A.deeper (envOfC qual scope s.heap.objs.size f cdv)) → sp vs H Q E →
      ∃ t, PSs (cxOf CX P w K mg base N qual scope f cdv A outer s H E) body t ∧ t { nx := fun _ H' => Q .non H', rt := Q } (L2.start N vs) H) : FnG P w K mg base CX (k + 1) f fd ps sp := by
  obtain ⟨oc, od, dV, kV, doc, pm, an, cdv, ct, osl, rfl, lk, hcd, _, _⟩ := F.ex
  refine ⟨len, fun A outer s H args us vs Q E hr e0 hb r hsp => ?_⟩
  exact LamX.run_ofS (CX := CX) lk hcd S hr.r e0 hb r (len _ _ _ _ hsp) fun _ => hbody cdv A outer s H vs Q E (hr.deeper _) hsp
/-- a def by its body: nothing leaves it -/
theorem ok0 {x qual : Str} {params : Arguments} {body : List Stmt} {scope : Scope} {dvs : List V} {kws : List (Str × V)} {N : List Str} (F : FunD K x qual params body scope dvs kws f fd) (S : FnScope N ps scope) (len : ∀ vs H Q E, sp vs H Q E → vs.length = ps.length)
    (hbody : ∀ (cdv : Value) (A : Around) (outer : List Env) (s : Shared) (H : Hp) (vs : List V) (Q : VK) (E : XK), Rm k (A.deeper (envOfC qual scope s.heap.objs.size f cdv)) → sp vs H Q E →
      ∃ t, PSs (cxOf CX0 P w K mg base N qual scope f cdv A outer s H E).nox body t ∧ t { nx := fun _ H' => Q .non H', rt := Q } (L2.start N vs) H) : FnG P w K mg base CX0 (k + 1) f fd ps sp :=
  okX F S len fun cdv A outer s H vs Q E hr h => by
    obtain ⟨t, ht, q⟩ := hbody cdv A outer s H vs Q E hr h
    exact ⟨t, ht.nox, q⟩
end

section
variable {X : Cx} {CX : CXT} {k : Nat} {f C : Addr} {fd : FuncData} {ps : List Str} {sp : Sp} {dvs : List V} {ds : List Value} {E : XK} {x m : Str} {p pos apos : Pos} {e o : Expr} {es : List Expr} {ta : TE} {t : TA}
/-- the callee runs, at any place that stands for this body's -/
theorem run_g {pins : List (Addr × Obj)} {σ : L2.St} {H : Hp} {s : Shared} {Q : VK} {us : List Value} {vs : List V} {A : Around} (F : FnG X.prog X.w X.K X.mg X.base CX k f fd ps sp) (hr : Rm k A) (e0 : Env0 X.prog X.w X.K X.mg X.base A X.stack s H) (hb : Binds X.K fd ps ds) (hd : Vals dvs ds) (hx : Passes CX X E)
    (I : Inv X pins σ H s) (r : Vals vs us) (h : sp (vs ++ dvs) H Q E) : wpAny (model X.prog X.w) A (call (.ref f) us) (EP X pins σ Q) X.xe s := by
  have r2 : Vals (vs ++ dvs) (us ++ ds) := r.append hd
  have hl : (us ++ ds).length = ps.length := by
    have := F.len _ _ _ _ h
    rw [← this]
    exact r2.length.symm
  have go := F.run A X.stack s H ⟨us, []⟩ (us ++ ds) (vs ++ dvs) Q E hr e0 (hb s us I.kIn hl) r2 h
  refine wpAny_call (codeAny_mono go fun r s' hq => ?_)
  match r, hq with
  | .error er, hq => exact hx pins σ H s er s' I hq
  | .ok (.ret u), hq => exact I.after hq
  | .ok .next, hq => exact False.elim hq
  | .ok .brk, hq => exact False.elim hq
  | .ok .cont, hq => exact False.elim hq
/-- f(e, ..) -/
theorem pe_callG (F : FnG X.prog X.w X.K X.mg X.base CX k f fd ps sp) (hr : Rm k X.A) (hg : Gl X x) (hm : X.mg x = some (.ref f)) (hk : PySem.W.keepIn X.K (.ref f) = true) (hb : Binds X.K fd ps ds) (hd : Vals dvs ds) (hx : Passes CX X E)
    (ha : PA X (e :: es) t) (hdb : (x == ("__debug__" : Str)) = false := by decide) (he : starEach (e :: es) X.env = (false, eval e X.env) :: starEach es X.env := by rfl) (hpl : (backTo pos (starEach es X.env)).any (·.1) = false := by rfl) :
    PE X (.Call (.Name x p) (e :: es) [] pos) (tCall sp dvs E t) :=
  ⟨fun pins s σ H Q I h => wpAny_Call_Name_kw (ld_glob I hg hm (PySem.W.callWith_K (h₀ := X.base) I.ok.mod.kin hk (thn (ha.run pos pins s σ H _ I h) fun us s1 ⟨vs, H1, I1, r, q⟩ => ⟨I1.kIn, run_g F hr I1.env0 hb hd hx I1 r q⟩) he hpl) hdb)⟩
theorem pe_call0G (F : FnG X.prog X.w X.K X.mg X.base CX k f fd ps sp) (hr : Rm k X.A) (hg : Gl X x) (hm : X.mg x = some (.ref f)) (hk : PySem.W.keepIn X.K (.ref f) = true) (hb : Binds X.K fd ps ds) (hd : Vals dvs ds) (hx : Passes CX X E)
    (hdb : (x == ("__debug__" : Str)) = false := by decide) : PE X (.Call (.Name x p) [] [] pos) (tCall sp dvs E tNil) :=
  ⟨fun pins s σ H Q I h => wpAny_Call_Name_kw (ld_glob I hg hm (PySem.W.callWith_K0 I.kIn hk (run_g (us := []) F hr I.env0 hb hd hx I .nil h)) hdb)⟩
/-- o.m(e, ..) -/
theorem pe_methG {pl : Sem Bool} (he : PE X o ta) (c : Cls X.K C) (hm : Meth X.K C m f) (F : FnG X.prog X.w X.K X.mg X.base CX k f fd ps sp) (hr : Rm k X.A) (hb : Binds X.K fd ps ds) (hd : Vals dvs ds) (hx : Passes CX X E) (ha : PA X (e :: es) t)
    (hst : starEach (e :: es) X.env = (false, eval e X.env) :: starEach es X.env := by rfl) (hpl : (backTo pos (starEach es X.env)).any (·.1) = false := by rfl)
    (ht : eval (.Call (.Attribute o m apos) (e :: es) [] pos) X.env = (do
      let ov ← eval o X.env
      standAt apos.atName
      let (f, first) ← holding [ov] (getMethod ov m pl)
      callWith pos f first (backTo pos (starEach (e :: es) X.env)) (backToKw pos (keywordEach [] X.env))) := by rfl) :
    PE X (.Call (.Attribute o m apos) (e :: es) [] pos) (tMeth C m sp dvs E ta t) := by
  refine ⟨fun pins s σ H Q I h => PySem.W.methodCall_KW (pl := pl) (thn (he.run pins s σ H _ I h) fun u s1 hh => ?_) ht⟩
  obtain ⟨x, H1, I1, rx, a, dx, fs, rfl, ea, l, q⟩ := hh
  obtain rfl : u = Value.ref a := rx
  exact getmeth_ok I1 ea c hm l (PySem.W.callWith_K (first := [.ref a]) (h₀ := X.base) I.ok.mod.kin hm.kp (thn (ha.run pos pins s1 σ H1 _ I1 q) fun us s2 ⟨vs, H2, I2, r, q2⟩ =>
    ⟨I2.kIn, run_g (us := .ref a :: us) (vs := .ref a :: vs) F hr I2.env0 hb hd hx I2 (.cons rfl r) q2⟩) hst hpl)
theorem pe_meth0G {pl : Sem Bool} (he : PE X o ta) (c : Cls X.K C) (hm : Meth X.K C m f) (F : FnG X.prog X.w X.K X.mg X.base CX k f fd ps sp) (hr : Rm k X.A) (hb : Binds X.K fd ps ds) (hd : Vals dvs ds) (hx : Passes CX X E)
    (ht : eval (.Call (.Attribute o m apos) [] [] pos) X.env = (do
      let ov ← eval o X.env
      standAt apos.atName
      let (f, first) ← holding [ov] (getMethod ov m pl)
      callWith pos f first (backTo pos (starEach [] X.env)) (backToKw pos (keywordEach [] X.env))) := by rfl) :
    PE X (.Call (.Attribute o m apos) [] [] pos) (tMeth C m sp dvs E ta tNil) := by
  refine ⟨fun pins s σ H Q I h => PySem.W.methodCall_KW (pl := pl) (thn (he.run pins s σ H _ I h) fun u s1 hh => ?_) ht⟩
  obtain ⟨x, H1, I1, rx, a, dx, fs, rfl, ea, l, q⟩ := hh
  obtain rfl : u = Value.ref a := rx
  exact getmeth_ok I1 ea c hm l (PySem.W.callWith_K0 (first := [.ref a]) I1.kIn hm.kp (run_g (us := [.ref a]) (vs := [.ref a]) F hr I1.env0 hb hd hx I1 (.cons rfl .nil) q))
/-- C(e, ..): a new instance, then its __init__ -/
theorem run_makeG {pins : List (Addr × Obj)} {σ : L2.St} {H : Hp} {s : Shared} {Q : VK} {us : List Value} {vs : List V} (M : Mk X.K C f) (F : FnG X.prog X.w X.K X.mg X.base CX k f fd ps sp) (hr : Rm (k + 1) X.A) (hb : Binds X.K fd ps ds) (hd : Vals dvs ds)
    (hx : Passes CX X E) (I : Inv X pins σ H s) (r : Vals vs us)
    (h : ∀ x dx, H x = none → H dx = none → dx ≠ x → sp (.ref x :: (vs ++ dvs)) (upd (upd H dx (.own x)) x (.ins C dx [])) (fun v H2 => v = .non ∧ Q (.ref x) H2) E) :
    wpAny (model X.prog X.w) X.A (call (.ref C) us) (EP X pins σ Q) X.xe s := by
  have n1 : H (s.heap.objs.size + 1) = none := I.hok.fresh (Nat.le_succ _)
  have n0 : H s.heap.objs.size = none := I.hok.fresh (Nat.le_refl _)
  have hq := h (s.heap.objs.size + 1) s.heap.objs.size n1 n0 (Nat.ne_of_lt (Nat.lt_succ_self _))
  have I2 := Inv.made (C := C) I
  have r2 : Vals (V.ref (s.heap.objs.size + 1) :: (vs ++ dvs)) (Value.ref (s.heap.objs.size + 1) :: (us ++ ds)) := .cons rfl (r.append hd)
  have hl : (Value.ref (s.heap.objs.size + 1) :: us ++ ds).length = ps.length := r2.length.symm.trans (F.len _ _ _ _ hq)
  have go := F.run (X.A.under (.builtin "type.__call__" ⟨.ref C :: us, []⟩)) X.stack _ _ ⟨Value.ref (s.heap.objs.size + 1) :: us, []⟩ (Value.ref (s.heap.objs.size + 1) :: (us ++ ds)) _ _ E (hr.make C us [])
    (I2.env0.make C us []) (hb _ (Value.ref (s.heap.objs.size + 1) :: us) I2.kIn hl) r2 hq
  refine wpAny_call (make_map (f := f) I.kIn M.makes M.init (beq_iff_eq.mp M.fn) (codeAny_mono go fun r s' hq' => ?_))
  match r, hq' with
  | .error er, hq' => exact hx pins σ _ _ er s' I2 hq'
  | .ok (.ret u), hq' =>
    obtain ⟨v, H', I3, rv, rfl, q3⟩ := I2.after hq'
    exact ⟨rv, ⟨V.ref (s.heap.objs.size + 1), H', I3, rfl, q3⟩⟩
  | .ok .next, hq' => exact False.elim hq'
  | .ok .brk, hq' => exact False.elim hq'
  | .ok .cont, hq' => exact False.elim hq'
theorem pe_makeG (M : Mk X.K C f) (F : FnG X.prog X.w X.K X.mg X.base CX k f fd ps sp) (hr : Rm (k + 1) X.A) (hg : Gl X x) (hm : X.mg x = some (.ref C)) (hb : Binds X.K fd ps ds) (hd : Vals dvs ds) (hx : Passes CX X E)
    (ha : PA X (e :: es) t) (hdb : (x == ("__debug__" : Str)) = false := by decide) (he : starEach (e :: es) X.env = (false, eval e X.env) :: starEach es X.env := by rfl) (hpl : (backTo pos (starEach es X.env)).any (·.1) = false := by rfl) :
    PE X (.Call (.Name x p) (e :: es) [] pos) (tMake C sp dvs E t) :=
  ⟨fun pins s σ H Q I h => wpAny_Call_Name_kw (ld_glob I hg hm (PySem.W.callWith_K (h₀ := X.base) I.ok.mod.kin M.kp (thn (ha.run pos pins s σ H _ I h) fun us s1 ⟨vs, H1, I1, r, q⟩ => ⟨I1.kIn, run_makeG M F hr hb hd hx I1 r q⟩) he hpl) hdb)⟩
theorem pe_make0G (M : Mk X.K C f) (F : FnG X.prog X.w X.K X.mg X.base CX k f fd ps sp) (hr : Rm (k + 1) X.A) (hg : Gl X x) (hm : X.mg x = some (.ref C)) (hb : Binds X.K fd ps ds) (hd : Vals dvs ds) (hx : Passes CX X E)
    (hdb : (x == ("__debug__" : Str)) = false := by decide) : PE X (.Call (.Name x p) [] [] pos) (tMake C sp dvs E tNil) :=
  ⟨fun pins s σ H Q I h => wpAny_Call_Name_kw (ld_glob I hg hm (PySem.W.callWith_K0 I.kIn M.kp (run_makeG (us := []) M F hr hb hd hx I .nil h)) hdb)⟩
end
end LL

set_option Elab.async false
set_option linter.all false
set_option maxRecDepth 100000
set_option maxHeartbeats 2000000
/-! LLOwn: operators, ==, !=, str, repr of instances of own classes; repr of data. -/
namespace LL
open PySem PySem.Spec PyProof.Rows L2
/-! ### != by an own __eq__ -/
section
variable {prog : Program} {w : World} {A : Around} {E : Value → Shared → Prop} {s : Shared} {K : PySem.W.Frag} {x C f : Addr} {ox : Obj} {od : Option Obj} {b tb : Value}
/-- a special method that is a built-in's, bound if it can be -/
theorem ifBound_b {M : Model} {name : Str} {id : String} {args : List Value} {Q : Option Value → Shared → Prop} (X : K.In s.heap) (I : PySem.W.InstAt s.heap x ox C od) (hs : PySem.W.findIn K (.ref C) name = some (some (.builtin id)))
    (hb : ∀ self, bindSpecial (.builtin id) self = pure (.builtin id, [self])) (h : wpAny M A (call (.builtin id) (.ref x :: args)) (fun v => Q (some v)) E s) : wpAny M A (callSpecialIfBound? (.ref x) name args) Q E s := by
  have fin : wpAny M A (call (.builtin id) ([.ref x] ++ args) >>= fun v => pure (some v)) Q E s := wpAny_bind (thn h fun _ _ z => wpAny_pure z)
  have bnd : PySem.W.Looks M s.heap (bindSpecial (.builtin id) (.ref x)) (.builtin id, [.ref x]) := PySem.W.Looks.of_pure (hb _)
  unfold callSpecialIfBound? bindSpecialIfBound?
  refine wpAny_holding (wpAny_bind (wpAny_bind (wpAny_bind (I.type.here ((PySem.W.looks_findIn X hs).here ?_)))))
  refine wpAny_bind (wpAny_askSetting (wpAny_ite ?_))
  split
  · exact wpAny_bind (bnd.here (wpAny_pure (by exact fin)))
  · exact wpAny_tryCatch (wpAny_bind (bnd.here (wpAny_pure (by exact fin))))
open Builtin in
theorem ne_own {Q : Value → Shared → Prop} (hu : A.units + 1 < cLine) (X : K.In s.heap) (I : PySem.W.InstAt s.heap x ox C od) (hb : PySem.W.Looks (model prog w) s.heap (typeOf b) tb) (hn : PySem.W.notFirst K C tb = true) (hm : PySem.W.mroIn K C (.type "object") = some true)
    (hs : PySem.W.findIn K (.ref C) "__eq__" = some (some (.ref f))) (hf : PySem.W.isFn K (.ref f) = true) (hne : PySem.W.findIn K (.ref C) "__ne__" = some (some (.builtin "object.__ne__")))
    (h : wpAny (model prog w) A.in1 (call (.ref f) [.ref x, b]) (fun v s' => ∃ c, v = .bool c ∧ Q (.bool (!c)) s') E s) : wpAny (model prog w) A (richCompare .NotEq (.ref x) b) Q E s := by
  have one : wpAny (model prog w) A (tryCompare (.ref x) (cmpInfo .NotEq).2.1 b) (fun r s' => ∃ v, r = some v ∧ Q v s') E s := by
    unfold tryCompare
    refine wpAny_bind (ifBound_b (name := "__ne__") X I hne PySem.F.slot_tuple_iterator_ne.bind ?_)
    refine wpAny_call (codeAny_call_builtin PySem.F.slot_tuple_iterator_ne.plain PySem.F.cmpEntry_ne (PySem.W.check_slot PySem.F.cmpKind_ne PySem.F.cmpSplit_ne (I.type.andThen (PySem.W.looks_mroIn X hm)) (PySem.F.cmpArgs_ne _ _) ?_))
    unfold Builtin.«object.__ne__»
    refine wpAny_bind (m := slotArgs "__ne__" 1 _) (wpAny_pure ?_)
    refine wpAny_bind (m := cRoomFor _ _) (wpAny_cRoomFor hu ?_)
    refine wpAny_bind (m := callSpecialIfBound? (.ref x) (Str.ofString "__eq__") _) (PySem.W.ifBound_K X I hs hf (thn h fun r s' hr => ?_))
    obtain ⟨c, rfl, hq⟩ := hr
    refine wpAny_bind (wpAny_truthy_bool (wpAny_pure ?_))
    exact wpAny_pure ⟨_, rfl, hq⟩
  unfold richCompare
  simp only [oneThing_ref]
  refine wpAny_holding (wpAny_bind (wpAny_cRoomFor (by omega) ?_))
  refine wpAny_bind (I.type.here (wpAny_bind (hb.here ?_)))
  split
  · rename_i q
    have e : PySem.W.subIn K tb (.ref C) = some false := by
      rcases Bool.or_eq_true_iff.mp hn with e | e
      · rw [beq_iff_eq.mp e] at q
        simp at q
      · exact beq_iff_eq.mp e
    refine wpAny_bind ((PySem.W.looks_subIn X e).here ?_)
    simp only [Bool.false_eq_true, if_false]
    refine wpAny_bind (thn one fun r s' z => ?_)
    obtain ⟨v, rfl, hq⟩ := z
    exact wpAny_pure hq
  · refine wpAny_bind (wpAny_pure ?_)
    simp only [Bool.false_eq_true, if_false]
    refine wpAny_bind (thn one fun r s' z => ?_)
    obtain ⟨v, rfl, hq⟩ := z
    exact wpAny_pure hq
end
/-! ### rules -/
section
variable {X : Cx} {CX : CXT} {k : Nat} {f C : Addr} {fd : FuncData} {ps : List Str} {sp : Sp} {E : XK}
/-- the object's own record -/
theorem inst_of {pins : List (Addr × Obj)} {σ : L2.St} {H : Hp} {s : Shared} {a dx : Addr} {fs : List (Str × V)} (I : Inv X pins σ H s) (e : H a = some (.ins C dx fs)) : ∃ od, PySem.W.InstAt s.heap a (PySem.W.instObj C dx) C (some od) := by
  obtain ⟨mA, O, _⟩ := ins_get I.hok e
  obtain ⟨od, J, _⟩ := O.look
  exact ⟨od, J⟩
/-- a number's operator that the class at C has as a def -/
structure OpAt (K : PySem.W.Frag) (C : Addr) (op : Operator) (f : Addr) : Prop where
  first : PySem.W.selfFirst K C = true
  at_ : PySem.W.findIn K (.ref C) (PySem.dunder op.info.2) = some (some (.ref f))
  fn : PySem.W.isFn K (.ref f) = true
/-- .. asked with an int at the right -/
structure OpInt (K : PySem.W.Frag) (C : Addr) (op : Operator) : Prop where
  back : PySem.W.findIn K (.ref C) (PySem.dunderR op.info.2) = some none
  io : ∃ fo, PySem.W.findIn K (.type "int") (PySem.dunder op.info.2) = some fo
  ir : ∃ ro, PySem.W.findIn K (.type "int") (PySem.dunderR op.info.2) = some ro
  sub : PySem.W.subIn K (.type "int") (.ref C) = some false
/-- x op y: both of the class at C; or y an int -/
def rBin (C : Addr) (sp : Sp) (E : XK) : R2 := fun x y H Q => ∃ a dx fs, x = .ref a ∧ H a = some (.ins C dx fs) ∧ ((∃ b dy gs, y = .ref b ∧ H b = some (.ins C dy gs)) ∨ ∃ i, y = .int i) ∧ sp [x, y] H Q E
theorem op_bin {op : Operator} (O : OpAt X.K C op f) (OI : OpInt X.K C op) (F : FnG X.prog X.w X.K X.mg X.base CX k f fd ps sp) (hr : Rm k X.A) (hb : Binds X.K fd ps []) (hx : Passes CX X E) : OpR X (binaryOp op) (rBin C sp E) := by
  intro pins s σ H x y v u Q I rx ry h
  obtain ⟨a, dx, fs, rfl, ha, hy, q⟩ := h
  cases (show v = Value.ref a from rx)
  obtain ⟨od, J⟩ := inst_of I ha
  obtain ⟨m, hF⟩ := I.fr
  have go : wpAny (model X.prog X.w) X.A (call (.ref f) [.ref a, u]) (PySem.W.CmpBack (EP X pins σ Q)) X.xe s := by
    refine thn (run_g (us := [.ref a, u]) (vs := [.ref a, y]) (dvs := []) F hr I.env0 hb .nil hx I (.cons rfl (.cons ry .nil)) q) fun w s' z => ?_
    obtain ⟨z', H', I', rz, qz⟩ := z
    exact SlX.cmpback rz ⟨z', H', I', rz, qz⟩
  rcases hy with ⟨b, dy, gs, rfl, hb⟩ | ⟨i, rfl⟩
  · cases (show u = Value.ref b from ry)
    obtain ⟨od', J'⟩ := inst_of I hb
    exact PySem.W.binop_K hF I.ok.mod.kin J J'.type O.first O.at_ O.fn go
  · obtain ⟨t, rfl⟩ := (show ∃ t, u = Value.int i t from ry)
    obtain ⟨fo, h1⟩ := OI.io
    obtain ⟨ro, h2⟩ := OI.ir
    exact PySem.W.ksp_binT (T := "int") hF I.ok.mod.kin J (by rfl) O.first O.at_ O.fn OI.back (.inl rfl) h1 h2 OI.sub go
/-- -x -/
def rNeg (C : Addr) (sp : Sp) (E : XK) : V → Hp → VK → Prop := fun x H Q => ∃ a dx fs, x = .ref a ∧ H a = some (.ins C dx fs) ∧ sp [x] H Q E
theorem un_own (hs : PySem.W.findIn X.K (.ref C) "__neg__" = some (some (.ref f))) (hf : PySem.W.isFn X.K (.ref f) = true) (F : FnG X.prog X.w X.K X.mg X.base CX k f fd ps sp) (hr : Rm k X.A) (hb : Binds X.K fd ps []) (hx : Passes CX X E) : UnR X (unaryOp .USub) (rNeg C sp E) := by
  intro pins s σ H x v Q I rx h
  obtain ⟨a, dx, fs, rfl, ha, q⟩ := h
  cases (show v = Value.ref a from rx)
  obtain ⟨od, J⟩ := inst_of I ha
  obtain ⟨m, hF⟩ := I.fr
  exact PySem.W.ksp_neg hF I.ok.mod.kin J hs hf (run_g (us := [.ref a]) (vs := [.ref a]) (dvs := []) F hr I.env0 hb .nil hx I (.cons rfl .nil) q)
/-- x == y by x's own __eq__, whatever y is -/
def rEqO (K : PySem.W.Frag) (C : Addr) (sp : Sp) (E : XK) : R2 := fun x y H Q => ∃ a dx fs t, x = .ref a ∧ H a = some (.ins C dx fs) ∧ TyX K H y t ∧ PySem.W.notFirst K C t = true ∧ sp [x, y] H Q E
theorem op_eqO (hs : PySem.W.findIn X.K (.ref C) "__eq__" = some (some (.ref f))) (hf : PySem.W.isFn X.K (.ref f) = true) (F : FnG X.prog X.w X.K X.mg X.base CX k f fd ps sp) (hr : Rm k X.A) (hb : Binds X.K fd ps []) (hx : Passes CX X E) : OpR X (compareOp .Eq) (rEqO X.K C sp E) := by
  intro pins s σ H x y v u Q I rx ry h
  obtain ⟨a, dx, fs, t, rfl, ha, ty, hn, q⟩ := h
  cases (show v = Value.ref a from rx)
  obtain ⟨od, J⟩ := inst_of I ha
  obtain ⟨m, hF⟩ := I.fr
  obtain ⟨P, Z, hp, _⟩ := kit_of I ry ty
  refine PySem.W.cmp_K (op := .Eq) hr.r.units0 hF I.ok.mod.kin J (Z.ty _ _ I.kIn hp) hn hs hf ?_
  refine thn (run_g (us := [.ref a, u]) (vs := [.ref a, y]) (dvs := []) F hr I.env0 hb .nil hx I (.cons rfl (.cons ry .nil)) q) fun w s' z => ?_
  obtain ⟨z', H', I', rz, qz⟩ := z
  exact SlX.cmpback rz ⟨z', H', I', rz, qz⟩
/-- x != y by x's own __eq__ -/
def rNeO (K : PySem.W.Frag) (C : Addr) (sp : Sp) (E : XK) : R2 := fun x y H Q => ∃ a dx fs t, x = .ref a ∧ H a = some (.ins C dx fs) ∧ TyX K H y t ∧ PySem.W.notFirst K C t = true ∧ sp [x, y] H (fun z H' => ∃ c, z = .bl c ∧ Q (.bl (!c)) H') E
theorem op_neO (hs : PySem.W.findIn X.K (.ref C) "__eq__" = some (some (.ref f))) (hf : PySem.W.isFn X.K (.ref f) = true) (hne : PySem.W.findIn X.K (.ref C) "__ne__" = some (some (.builtin "object.__ne__"))) (hm : PySem.W.mroIn X.K C (.type "object") = some true)
    (F : FnG X.prog X.w X.K X.mg X.base CX k f fd ps sp) (hr : Rm (k + 1) X.A) (hb : Binds X.K fd ps []) (hx : Passes CX X E) : OpR X (compareOp .NotEq) (rNeO X.K C sp E) := by
  intro pins s σ H x y v u Q I rx ry h
  obtain ⟨a, dx, fs, t, rfl, ha, ty, hn, q⟩ := h
  cases (show v = Value.ref a from rx)
  obtain ⟨od, J⟩ := inst_of I ha
  obtain ⟨P, Z, hp, _⟩ := kit_of I ry ty
  have hu := hr.r.units
  refine ne_own (by omega) I.kIn J (Z.ty _ _ I.kIn hp) hn hm hs hf hne ?_
  refine thn (run_g (us := [.ref a, u]) (vs := [.ref a, y]) (dvs := []) F hr.in1 I.env0.in1 hb .nil hx I (.cons rfl (.cons ry .nil)) q) fun w s' z => ?_
  obtain ⟨z', H', I', rz, c, rfl, qz⟩ := z
  cases (show w = Value.bool c from rz)
  exact ⟨c, rfl, .bl (!c), H', I', rfl, qz⟩
/-- repr(x), str(x) by the class's own def -/
def rShow (C : Addr) (sp : Sp) (E : XK) : List V → Hp → VK → Prop := fun xs H Q => ∃ a dx fs, xs = [.ref a] ∧ H a = some (.ins C dx fs) ∧ sp [.ref a] H (fun z H' => ∃ y, z = .str y ∧ Q z H') E
theorem call_reprO (hs : PySem.W.findIn X.K (.ref C) "__repr__" = some (some (.ref f))) (hf : PySem.W.isFn X.K (.ref f) = true) (F : FnG X.prog X.w X.K X.mg X.base CX k f fd ps sp) (hr : Rm (k + 1) X.A) (hb : Binds X.K fd ps []) (hx : Passes CX X E) : CallR X (.builtin "repr") (rShow C sp E) := by
  intro pins s σ H xs us Q I r h
  obtain ⟨a, dx, fs, rfl, ha, q⟩ := h
  obtain ⟨u, rfl, ru⟩ := r.one
  cases (show u = Value.ref a from ru)
  obtain ⟨od, J⟩ := inst_of I ha
  obtain ⟨m, hF⟩ := I.fr
  refine PySem.W.repr_K hr.in1.r.units0 hF I.ok.mod.kin J hs hf (thn (run_g (us := [.ref a]) (vs := [.ref a]) (dvs := []) F hr.in1 I.env0.in1 hb .nil hx I (.cons rfl .nil) q) fun w s' z => ?_)
  obtain ⟨z', H', I', rz, y, rfl, qz⟩ := z
  obtain ⟨t, rfl⟩ := (show ∃ t, w = Value.str y t from rz)
  exact ⟨.str y, H', I', ⟨t, rfl⟩, qz⟩
theorem call_strO (hs : PySem.W.findIn X.K (.ref C) "__str__" = some (some (.ref f))) (hf : PySem.W.isFn X.K (.ref f) = true) (F : FnG X.prog X.w X.K X.mg X.base CX k f fd ps sp) (hr : Rm (k + 2) X.A) (hb : Binds X.K fd ps []) (hx : Passes CX X E) : CallR X (.type "str") (rShow C sp E) := by
  intro pins s σ H xs us Q I r h
  obtain ⟨a, dx, fs, rfl, ha, q⟩ := h
  obtain ⟨u, rfl, ru⟩ := r.one
  cases (show u = Value.ref a from ru)
  obtain ⟨od, J⟩ := inst_of I ha
  have hr2 : Rm k X.A.in1.in1 := (show Rm (k + 1) X.A.in1 from hr.in1).in1
  refine PySem.W.kso_call hr2.r.units0 I.kIn J hs hf (thn (run_g (us := [.ref a]) (vs := [.ref a]) (dvs := []) F hr2 I.env0.in1.in1 hb .nil hx I (.cons rfl .nil) q) fun w s' z => ?_)
  obtain ⟨z', H', I', rz, y, rfl, qz⟩ := z
  obtain ⟨t, rfl⟩ := (show ∃ t, w = Value.str y t from rz)
  exact ⟨.str y, H', I', ⟨t, rfl⟩, qz⟩
/-- repr of data: ints, texts, bools, None, lists and tuples of these -/
def rRepD (K : PySem.W.Frag) : List V → Hp → VK → Prop := fun xs H Q => ∃ a d, xs = [.ref a] ∧ Dp K H (.ref a) d ∧ d.showable = true ∧ d.hasDict = false ∧ d.depth ≤ 40 ∧ d.shown.length ≤ sizeLine ∧ Q (.str d.shown) H
theorem call_reprD (hr : Rm k X.A) : CallR X (.builtin "repr") (rRepD X.K) := by
  intro pins s σ H xs us Q I r h
  obtain ⟨a, d, rfl, hd, hs, hn, hp, hz, q⟩ := h
  obtain ⟨u, rfl, ru⟩ := r.one
  obtain ⟨as, rd⟩ := Dp.reads I d _ _ hd ru
  cases (show u = Value.ref a from ru)
  have hu := hr.r.units
  exact repr_of_reads' rd hs (fun z => by rw [hn] at z; cases z) hr.g (by omega) (fun _ _ e => e) (fun h' u tk hk => ⟨.str d.shown, H, I.kept hk, ⟨_, rfl⟩, q⟩) hz
end
end LL

set_option Elab.async false
set_option linter.all false
set_option maxRecDepth 100000
set_option maxHeartbeats 2000000
/-! LLCall: a def, a method, a maker, a property, each as one fact; some operators. -/
namespace LL
open PySem PySem.Spec PyProof.Rows L2
section
variable (P : Program) (w : World) (K : PySem.W.Frag) (mg : Str → Option Value) (base : Heap) (CX : CXT) (k : Nat)
/-- the module's name x is a def that keeps sp; dvs fill up -/
structure Fnc (x : Str) (dvs : List V) (sp : Sp) : Prop where
  ex : ∃ (f : Addr) (fd : FuncData) (ps : List Str) (ds : List Value), mg x = some (.ref f) ∧ PySem.W.keepIn K (.ref f) = true ∧ Binds K fd ps ds ∧ Vals dvs ds ∧ FnG P w K mg base CX k f fd ps sp
/-- the class at C has the method m -/
structure Mth (C : Addr) (m : Str) (dvs : List V) (sp : Sp) : Prop where
  cl : Cls K C
  ex : ∃ (f : Addr) (fd : FuncData) (ps : List Str) (ds : List Value), Meth K C m f ∧ Binds K fd ps ds ∧ Vals dvs ds ∧ FnG P w K mg base CX k f fd ps sp
/-- the module's name x is the class at C, made by an __init__ that keeps sp -/
structure Mkr (x : Str) (C : Addr) (dvs : List V) (sp : Sp) : Prop where
  ex : ∃ (f : Addr) (fd : FuncData) (ps : List Str) (ds : List Value), Mk K C f ∧ mg x = some (.ref C) ∧ Binds K fd ps ds ∧ Vals dvs ds ∧ FnG P w K mg base CX k f fd ps sp
/-- the class at C has the property m -/
structure Prp (C : Addr) (m : Str) (sp : Sp) : Prop where
  cl : Cls K C
  ex : ∃ (p g : Addr) (fd : FuncData) (ps : List Str), PropOf K C m p g ∧ Binds K fd ps [] ∧ FnG P w K mg base CX k g fd ps sp
end
section
variable {X : Cx} {CX : CXT} {k : Nat} {C : Addr} {sp : Sp} {dvs : List V} {E : XK} {x m : Str} {p pos apos : Pos} {e o : Expr} {es : List Expr} {ta : TE} {t : TA}
theorem pe_fn (G : Fnc X.prog X.w X.K X.mg X.base CX k x dvs sp) (hr : Rm k X.A) (hx : Passes CX X E) (ha : PA X (e :: es) t) (hg : Gl X x := by rfl) (hdb : (x == ("__debug__" : Str)) = false := by decide)
    (he : starEach (e :: es) X.env = (false, eval e X.env) :: starEach es X.env := by rfl) (hpl : (backTo pos (starEach es X.env)).any (·.1) = false := by rfl) : PE X (.Call (.Name x p) (e :: es) [] pos) (tCall sp dvs E t) := by
  obtain ⟨f, fd, ps, ds, hm, hk, hb, hd, F⟩ := G.ex
  exact pe_callG F hr hg hm hk hb hd hx ha hdb he hpl
theorem pe_fn0 (G : Fnc X.prog X.w X.K X.mg X.base CX k x dvs sp) (hr : Rm k X.A) (hx : Passes CX X E) (hg : Gl X x := by rfl) (hdb : (x == ("__debug__" : Str)) = false := by decide) : PE X (.Call (.Name x p) [] [] pos) (tCall sp dvs E tNil) := by
  obtain ⟨f, fd, ps, ds, hm, hk, hb, hd, F⟩ := G.ex
  exact pe_call0G F hr hg hm hk hb hd hx hdb
theorem pe_mt {pl : Sem Bool} (G : Mth X.prog X.w X.K X.mg X.base CX k C m dvs sp) (hr : Rm k X.A) (hx : Passes CX X E) (he : PE X o ta) (ha : PA X (e :: es) t)
    (hst : starEach (e :: es) X.env = (false, eval e X.env) :: starEach es X.env := by rfl) (hpl : (backTo pos (starEach es X.env)).any (·.1) = false := by rfl)
    (ht : eval (.Call (.Attribute o m apos) (e :: es) [] pos) X.env = (do
      let ov ← eval o X.env
      standAt apos.atName
      let (f, first) ← holding [ov] (getMethod ov m pl)
      callWith pos f first (backTo pos (starEach (e :: es) X.env)) (backToKw pos (keywordEach [] X.env))) := by rfl) : PE X (.Call (.Attribute o m apos) (e :: es) [] pos) (tMeth C m sp dvs E ta t) := by
  obtain ⟨f, fd, ps, ds, hm, hb, hd, F⟩ := G.ex
  exact pe_methG he G.cl hm F hr hb hd hx ha hst hpl ht
theorem pe_mt0 {pl : Sem Bool} (G : Mth X.prog X.w X.K X.mg X.base CX k C m dvs sp) (hr : Rm k X.A) (hx : Passes CX X E) (he : PE X o ta)
    (ht : eval (.Call (.Attribute o m apos) [] [] pos) X.env = (do
      let ov ← eval o X.env
      standAt apos.atName
      let (f, first) ← holding [ov] (getMethod ov m pl)
      callWith pos f first (backTo pos (starEach [] X.env)) (backToKw pos (keywordEach [] X.env))) := by rfl) : PE X (.Call (.Attribute o m apos) [] [] pos) (tMeth C m sp dvs E ta tNil) := by
  obtain ⟨f, fd, ps, ds, hm, hb, hd, F⟩ := G.ex
  exact pe_meth0G he G.cl hm F hr hb hd hx ht
theorem pe_mk (G : Mkr X.prog X.w X.K X.mg X.base CX k x C dvs sp) (hr : Rm (k + 1) X.A) (hx : Passes CX X E) (ha : PA X (e :: es) t) (hg : Gl X x := by rfl) (hdb : (x == ("__debug__" : Str)) = false := by decide)
    (he : starEach (e :: es) X.env = (false, eval e X.env) :: starEach es X.env := by rfl) (hpl : (backTo pos (starEach es X.env)).any (·.1) = false := by rfl) : PE X (.Call (.Name x p) (e :: es) [] pos) (tMake C sp dvs E t) := by
  obtain ⟨f, fd, ps, ds, M, hm, hb, hd, F⟩ := G.ex
  exact pe_makeG M F hr hg hm hb hd hx ha hdb he hpl
theorem pe_mk0 (G : Mkr X.prog X.w X.K X.mg X.base CX k x C dvs sp) (hr : Rm (k + 1) X.A) (hx : Passes CX X E) (hg : Gl X x := by rfl) (hdb : (x == ("__debug__" : Str)) = false := by decide) : PE X (.Call (.Name x p) [] [] pos) (tMake C sp dvs E tNil) := by
  obtain ⟨f, fd, ps, ds, M, hm, hb, hd, F⟩ := G.ex
  exact pe_make0G M F hr hg hm hb hd hx hdb
/-- e.m, a property -/
def tPr (C : Addr) (sp : Sp) (E : XK) (ta : TE) : TE := fun σ H Q => ta σ H fun x H1 => ∃ a dx fs, x = .ref a ∧ H1 a = some (.ins C dx fs) ∧ sp [.ref a] H1 Q E
theorem pe_pr (G : Prp X.prog X.w X.K X.mg X.base CX k C m sp) (hr : Rm (k + 1) X.A) (hx : Passes CX X.nox E) (he : PE X e ta) (hab : attributeBase e m X.env (eval e X.env) = eval e X.env := by rfl) : PE X (.Attribute e m pos) (tPr C sp E ta) := by
  obtain ⟨p, g, fd, ps, hp, hb, F⟩ := G.ex
  refine ⟨fun pins s σ H Q I h => attr_of hab (thn (he.run pins s σ H _ I h) fun u s1 hh => ?_)⟩
  obtain ⟨x, H1, I1, rx, a, dx, fs, rfl, ea, q⟩ := hh
  obtain rfl : u = Value.ref a := rx
  obtain ⟨od, J⟩ := inst_of I1 ea
  have c := G.cl
  have hc : (PySem.W.clsIn X.K C).isSome = true := by
    obtain ⟨cd, hc, _⟩ := PySem.W.any_some c.hd
    rw [hc]
    rfl
  obtain ⟨rest, hrec⟩ := hp.rec_
  have I2 : Inv X pins σ H1 { s1 with toks := s1.toks + 1 } := I1.tok _
  have hl : ([Value.ref a] : List Value).length = ps.length := F.len _ _ _ _ q
  refine PySem.W.get_bind I1.kIn J (PySem.W.plainGet_of (c.get m)).1 (PySem.W.findObj_data hc hp.at_ hp.get hp.tak) (PySem.W.plainGet_of (c.get m)).2 (wpAny_call (PySem.W.prop_get (s := { s1 with toks := s1.toks + 1 }) I1.kIn hrec ?_))
  have go := F.run X.A.in1 X.stack { s1 with toks := s1.toks + 1 } H1 ⟨[.ref a], []⟩ [.ref a] [.ref a] Q E hr.in1 I2.env0.in1 (hb _ [.ref a] I2.kIn hl) (.cons rfl .nil) q
  refine codeAny_mono go fun r s' hq => ?_
  match r, hq with
  | .error er, hq => exact False.elim (hx pins σ H1 _ er s' (I2.wish _) hq)
  | .ok (.ret u), hq =>
    obtain ⟨v, H', I3, rv, q3⟩ := I2.after hq
    exact wpAny_of_eq (PySem.W.handedOut_of (handed_of rv)) ⟨v, H', I3, rv, q3⟩
  | .ok .next, hq => exact False.elim hq
  | .ok .brk, hq => exact False.elim hq
  | .ok .cont, hq => exact False.elim hq
/-! ### some operators -/
/-- // by any number but 0 -/
def CDivZ (_ j : Int) : Prop := j ≠ 0 ∧ j.natAbs.log2 < 9000
theorem op_fdivZ : OpR X (binaryOp .FloorDiv) (rI CDivZ fun i j => .int (i.fdiv j)) := opI fun _ _ _ _ _ _ _ hc q => floordiv_int hc.1 q (.inl (PyProof.noPylong_of_log2 hc.2))
theorem wide_divZ {i j : Int} {b : Nat} (h : j ≠ 0) (hb : j.natAbs < 2 ^ b) (h0 : 0 < b) (h9 : b ≤ 9000) : CDivZ i j := ⟨h, Nat.lt_of_lt_of_le (PySem.Flt.log2_lt_of h0 hb) h9⟩
end
/-! ### tests -/
theorem iteY {c : Bool} {A B : Prop} (h : c = true) (a : A) : if c = true then A else B := by
  rw [if_pos h]
  exact a
theorem iteN {c : Bool} {A B : Prop} (h : c = false) (b : B) : if c = true then A else B := by
  rw [if_neg (by rw [h]; exact Bool.false_ne_true)]
  exact b
theorem iteB {c : Bool} {A B : Prop} (h1 : c = true → A) (h2 : c = false → B) : if c = true then A else B := by
  cases c with
  | true => exact iteT (h1 rfl)
  | false => exact iteF (h2 rfl)
theorem dec_ne {i j : Int} (h : i ≠ j) : decide (V.int i = V.int j) = false := decide_eq_false fun z => h (V.int.inj z)
theorem dec_eq {i j : Int} (h : i = j) : decide (V.int i = V.int j) = true := decide_eq_true (by rw [h])
/-! ### heaps -/
/-- all that was tracked but p is as it was -/
def But (p : Addr) (H H' : Hp) : Prop := ∀ b o, H b = some o → b ≠ p → H' b = some o
theorem But.refl {p : Addr} {H : Hp} : But p H H := fun _ _ e _ => e
theorem But.trans {p : Addr} {H H1 H2 : Hp} (a : But p H H1) (b : But p H1 H2) : But p H H2 := fun c o e n => b c o (a c o e n) n
theorem But.of {p : Addr} {H H' : Hp} (a : Same H H') : But p H H' := fun c o e _ => a c o e
theorem same_upd {H : Hp} {p : Addr} {o : HO} (h : H p = none) : Same H (upd H p o) := fun b x e => by
  rw [upd_ne (ne_of_none e h)]
  exact e
theorem but_upd {H : Hp} {p : Addr} {o : HO} : But p H (upd H p o) := fun b x e n => by
  rw [upd_ne n]
  exact e
/-- what was new at p stands beside what was -/
theorem But.same {p : Addr} {H H' : Hp} (a : But p H H') (n : H p = none) : Same H H' := fun b o e => a b o e (ne_of_none e n)
theorem But.free {p : Addr} {H H' : Hp} (a : But p H H') {b : Addr} (hb : b ≠ p) (h : H' b = none) : H b = none := by
  cases q : H b with
  | none => rfl
  | some o =>
    rw [a b o q hb] at h
    cases h
end LL

set_option Elab.async false
set_option linter.all false
set_option maxRecDepth 100000
set_option maxHeartbeats 2000000
/-! LLData: what repr of data is, how long it is. -/
namespace LL
open PySem PySem.Spec PyProof.Rows L2
/-- signs as texts have them -/
def Asc (x : Str) : Prop := ∀ c ∈ x.cps.toList, c < 16 ^ 8
theorem asc_of (s : String) : Asc (Str.ofString s) := by
  intro c hc
  rw [signs_ofString] at hc
  obtain ⟨k, _, rfl⟩ := List.mem_map.mp hc
  have h : k.toNat < 1114112 := by
    have := k.valid
    rcases this with h | ⟨_, h⟩
    · exact Nat.lt_trans h (by decide)
    · exact h
  exact Nat.lt_trans h (by decide)
theorem Asc.app {x y : Str} (hx : Asc x) (hy : Asc y) : Asc (x ++ y) := by
  intro c hc
  rw [Str.cps_append, Array.toList_append] at hc
  rcases List.mem_append.mp hc with h | h
  · exact hx c h
  · exact hy c h
theorem textFrom_size : ∀ (ts : List Str) (k : Nat) (acc : Str), (textFrom k acc ts).length ≤ acc.length + piled ts
  | [], _, acc => Nat.le_add_right _ _
  | t :: r, k, acc => by
    have h := textFrom_size r (k + 1) (acc ++ (if k > 0 then ", " else "" : String) ++ t)
    have e : (((if k > 0 then ", " else "" : String) : Str)).length ≤ 2 := by split <;> decide +kernel
    rw [strLen_append, strLen_append] at h
    rw [piled_cons]
    show (textFrom (k + 1) _ r).length ≤ _
    omega
theorem listText_size (ts : List Str) : (listText ts).length ≤ piled ts + 2 := by
  have h := textFrom_size ts 0 "["
  unfold listText
  rw [strLen_append]
  have e1 : ((("[" : String) : Str)).length = 1 := rfl
  have e2 : ((("]" : String) : Str)).length = 1 := rfl
  omega
mutual
/-- a bound on the signs that are shown -/
def cost : PyData → Nat
  | .none => 5
  | .bool _ => 5
  | .int _ => 1930
  | .str x => 10 * x.length + 2
  | .list xs => costAll xs + 2
  | .tuple xs => costAll xs + 2
  | .dict _ => 0
def costAll : List PyData → Nat
  | [] => 0
  | x :: xs => cost x + 2 + costAll xs
end
mutual
/-- data without dicts that repr can show -/
def Shw : PyData → Prop
  | .none => True
  | .bool _ => True
  | .int i => i.natAbs.log2 < 1920
  | .str x => Asc x
  | .list xs => ShwAll xs
  | .tuple xs => ShwAll xs
  | .dict _ => False
def ShwAll : List PyData → Prop
  | [] => True
  | x :: xs => Shw x ∧ ShwAll xs
end
mutual
theorem Shw.all : ∀ d : PyData, Shw d → d.shown.length ≤ cost d ∧ d.showable = true ∧ d.hasDict = false
  | .none, _ => ⟨by simp only [PyData.shown, cost]; decide +kernel, by simp only [PyData.showable], by simp only [PyData.hasDict]⟩
  | .bool b, _ => ⟨by simp only [PyData.shown, cost]; cases b <;> decide +kernel, by simp only [PyData.showable], by simp only [PyData.hasDict]⟩
  | .int i, h => by
    simp only [Shw] at h
    refine ⟨?_, by simp only [PyData.showable]; exact decide_eq_true h, by simp only [PyData.hasDict]⟩
    simp only [PyData.shown, cost]
    have e := int_text_length_le (k := 1920) (by decide) h
    rw [PySem.ofString_length]
    omega
  | .str x, h => by
    simp only [Shw] at h
    exact ⟨by simp only [PyData.shown, cost]; exact StrLaws.reprText_len x h, by simp only [PyData.showable], by simp only [PyData.hasDict]⟩
  | .list xs, h => by
    simp only [Shw] at h
    obtain ⟨h1, h2, h3⟩ := ShwAll.all xs h
    refine ⟨?_, by simp only [PyData.showable]; exact h2, by simp only [PyData.hasDict]; exact h3⟩
    simp only [PyData.shown, cost]
    exact Nat.le_trans (listText_size _) (by omega)
  | .tuple xs, h => by
    simp only [Shw] at h
    obtain ⟨h1, h2, h3⟩ := ShwAll.all xs h
    refine ⟨?_, by simp only [PyData.showable]; exact h2, by simp only [PyData.hasDict]; exact h3⟩
    simp only [PyData.shown, cost]
    exact Nat.le_trans (fmt_text _) (by omega)
  | .dict _, h => by
    simp only [Shw] at h
theorem ShwAll.all : ∀ xs : List PyData, ShwAll xs → piled (PyData.shownAll xs) ≤ costAll xs ∧ PyData.showableAll xs = true ∧ PyData.hasDictAll xs = false
  | [], _ => ⟨by simp only [PyData.shownAll, costAll]; exact Nat.le_refl _, by simp only [PyData.showableAll], by simp only [PyData.hasDictAll]⟩
  | x :: xs, h => by
    simp only [ShwAll] at h
    obtain ⟨a1, a2, a3⟩ := Shw.all x h.1
    obtain ⟨b1, b2, b3⟩ := ShwAll.all xs h.2
    refine ⟨?_, by simp only [PyData.showableAll]; rw [a2, b2]; rfl, by simp only [PyData.hasDictAll]; rw [a3, b3]; rfl⟩
    simp only [PyData.shownAll, costAll]
    rw [piled_cons]
    omega
end
section
variable {X : Cx} {k : Nat}
/-- repr of a list or tuple of such -/
def rRepS (K : PySem.W.Frag) : List V → Hp → VK → Prop := fun xs H Q => ∃ a d, xs = [.ref a] ∧ Dp K H (.ref a) d ∧ Shw d ∧ d.depth ≤ 40 ∧ cost d ≤ sizeLine ∧ Q (.str d.shown) H
theorem call_reprS (hr : Rm k X.A) : CallR X (.builtin "repr") (rRepS X.K) := by
  intro pins s σ H xs us Q I r h
  obtain ⟨a, d, rfl, hd, hs, hp, hz, q⟩ := h
  obtain ⟨h1, h2, h3⟩ := Shw.all d hs
  exact call_reprD hr pins s σ H _ us Q I r ⟨a, d, rfl, hd, h2, h3, hp, Nat.le_trans h1 hz, q⟩
/-- repr of what is no object: None, a bool, an int, a text -/
def rRepF : List V → Hp → VK → Prop := fun xs H Q => (∃ i, xs = [.int i] ∧ i.natAbs.log2 < 1920 ∧ Q (.str (toString i)) H) ∨ (∃ b, xs = [.bl b] ∧ Q (.str (if b then "True" else "False")) H) ∨ (xs = [.non] ∧ Q (.str "None") H) ∨
  (∃ x, xs = [.str x] ∧ (reprText x).length ≤ sizeLine ∧ Q (.str (reprText x)) H)
theorem call_reprF : CallR X (.builtin "repr") rRepF := by
  intro pins s σ H xs us Q I r h
  rcases h with ⟨i, rfl, hi, q⟩ | ⟨b, rfl, q⟩ | ⟨rfl, q⟩ | ⟨x, rfl, hx, q⟩
  · obtain ⟨u, rfl, ru⟩ := r.one
    obtain ⟨t, rfl⟩ := (show ∃ t, u = Value.int i t from ru)
    exact PySem.P.repr_of_int hi ⟨.str _, H, I.tok _, ⟨_, rfl⟩, q⟩
  · obtain ⟨u, rfl, ru⟩ := r.one
    cases (show u = Value.bool b from ru)
    exact PySem.P.repr_of_bool ⟨.str _, H, I.tok _, ⟨_, rfl⟩, q⟩
  · obtain ⟨u, rfl, ru⟩ := r.one
    cases (show u = Value.none from ru)
    exact PySem.P.repr_of_none ⟨.str _, H, I.tok _, ⟨_, rfl⟩, q⟩
  · obtain ⟨u, rfl, ru⟩ := r.one
    obtain ⟨t, rfl⟩ := (show ∃ t, u = Value.str x t from ru)
    exact PySem.P.repr_of_str ⟨.str _, H, I.tok _, ⟨_, rfl⟩, q⟩ hx
end
/-! ### an operator, a special method of an own class, each as one fact -/
section
variable (P : Program) (w : World) (K : PySem.W.Frag) (mg : Str → Option Value) (base : Heap) (CX : CXT) (k : Nat)
structure OpF (C : Addr) (op : Operator) (sp : Sp) : Prop where
  ex : ∃ (f : Addr) (fd : FuncData) (ps : List Str), OpAt K C op f ∧ OpInt K C op ∧ Binds K fd ps [] ∧ FnG P w K mg base CX k f fd ps sp
structure SpF (C : Addr) (m : Str) (sp : Sp) : Prop where
  ex : ∃ (f : Addr) (fd : FuncData) (ps : List Str), PySem.W.findIn K (.ref C) m = some (some (.ref f)) ∧ PySem.W.isFn K (.ref f) = true ∧ Binds K fd ps [] ∧ FnG P w K mg base CX k f fd ps sp
end
section
variable {X : Cx} {CX : CXT} {k : Nat} {C : Addr} {sp : Sp} {E : XK}
theorem op_binF {op : Operator} (O : OpF X.prog X.w X.K X.mg X.base CX k C op sp) (hr : Rm k X.A) (hx : Passes CX X E) : OpR X (binaryOp op) (rBin C sp E) := by
  obtain ⟨f, fd, ps, o1, o2, hb, F⟩ := O.ex
  exact op_bin o1 o2 F hr hb hx
theorem un_negF (O : SpF X.prog X.w X.K X.mg X.base CX k C "__neg__" sp) (hr : Rm k X.A) (hx : Passes CX X E) : UnR X (unaryOp .USub) (rNeg C sp E) := by
  obtain ⟨f, fd, ps, o1, o2, hb, F⟩ := O.ex
  exact un_own o1 o2 F hr hb hx
theorem op_eqF (O : SpF X.prog X.w X.K X.mg X.base CX k C "__eq__" sp) (hr : Rm k X.A) (hx : Passes CX X E) : OpR X (compareOp .Eq) (rEqO X.K C sp E) := by
  obtain ⟨f, fd, ps, o1, o2, hb, F⟩ := O.ex
  exact op_eqO o1 o2 F hr hb hx
theorem op_neF (O : SpF X.prog X.w X.K X.mg X.base CX k C "__eq__" sp) (hne : PySem.W.findIn X.K (.ref C) "__ne__" = some (some (.builtin "object.__ne__"))) (hm : PySem.W.mroIn X.K C (.type "object") = some true) (hr : Rm (k + 1) X.A) (hx : Passes CX X E) : OpR X (compareOp .NotEq) (rNeO X.K C sp E) := by
  obtain ⟨f, fd, ps, o1, o2, hb, F⟩ := O.ex
  exact op_neO o1 o2 hne hm F hr hb hx
theorem call_reprOF (O : SpF X.prog X.w X.K X.mg X.base CX k C "__repr__" sp) (hr : Rm (k + 1) X.A) (hx : Passes CX X E) : CallR X (.builtin "repr") (rShow C sp E) := by
  obtain ⟨f, fd, ps, o1, o2, hb, F⟩ := O.ex
  exact call_reprO o1 o2 F hr hb hx
theorem call_strOF (O : SpF X.prog X.w X.K X.mg X.base CX k C "__str__" sp) (hr : Rm (k + 2) X.A) (hx : Passes CX X E) : CallR X (.type "str") (rShow C sp E) := by
  obtain ⟨f, fd, ps, o1, o2, hb, F⟩ := O.ex
  exact call_strO o1 o2 F hr hb hx
end
end LL

set_option Elab.async false
set_option linter.all false
set_option maxRecDepth 100000
set_option maxHeartbeats 2000000
/-! LLEnd: the law's end over FnG; the head's facts as any tests of the written part. -/
namespace LL
open PySem PySem.Spec PyProof.Rows L2
section
variable {P : Program} {w : World} {K : PySem.W.Frag} {mg mb : Str → Option Value} {CX : CXT} {k : Nat} {fa a : Addr} {fd : FuncData} {x : Str} {sp : Sp} {t : Shared} {us : List Value} {ns : List Int}
/-- what the caller asks of the law's call -/
abbrev LawEnd (t : Shared) (r : Result) (t' : Shared) : Prop := r = .ok (.ret (.bool true)) ∧ OldK t.heap t'.heap ∧ t'.os = t.os ∧ AllBare t'.gens
/-- the law's call where H tracks at most the script -/
theorem lawAt {H : Hp} {osc : Obj} (KX : K.In t.heap) (hns : t.heap.Ns mainGlobals mg) (hb : t.heap.Ns builtinsNs mb) (hbb : ∀ x : Str, x ≠ "__name__" → mb x = bootBuiltins x) (hlim : t.heap.NoLimit) (hg : t.gens = #[])
    (ha : t.heap.get? a = some osc) (hd : ∀ es ep, osc.data ≠ .dict es ep) (hr : Rm k callerA) (F : ∀ base : Heap, K.In base → base.Ns mainGlobals mg → FnG P w K mg base CX k fa fd [x] sp)
    (bd : ∀ (s : Shared) (u : Value), BindsTo s fd ⟨[u], []⟩ [(x, u)]) (hsp : sp [.ref a] H (fun v _ => v = .bl true) fun _ _ _ => False) (hCX : ∀ e s', CX [] H t (fun _ _ _ => False) e s' → False)
    (only : ∀ b, H b = none ∨ (b = a ∧ K.lookup a = none ∧ ∃ o l, H b = some (.frz o (.lst l)))) (hok : HOk P w H t.heap) : codeAny (model P w) callerA (.call (.ref fa) ⟨[.ref a], []⟩) (LawEnd t) t := by
  have free : ∀ {b : Addr} {o : Obj}, t.heap.get? b = some o → (b = a → K.lookup a = none → False) → H b = none := fun {b o} _ h =>
    (only b).elim id fun q => (h q.1 q.2.1).elim
  have nsB : ∀ {b : Addr} {m : Str → Option Value}, t.heap.Ns b m → (hidT t.heap H).Ns b m := by
    rintro b m ⟨o, es, ep, e, d, r⟩
    refine ⟨o, es, ep, hidT_get e (free e fun z _ => ?_), d, r⟩
    subst z
    rw [ha] at e
    cases e
    exact hd _ _ d
  have kB : K.In (hidT t.heap H) := by
    intro b o e
    refine hidT_get (KX b o e) (free (KX b o e) fun z q => ?_)
    rw [z, q] at e
    cases e
  obtain ⟨ml, l1, l2⟩ := hlim
  have env : Env0 P w K mg (hidT t.heap H) callerA [] t H :=
    { frames := rfl
      mod := ⟨kB, nsB hns, ⟨mb, nsB hb, hbb⟩, ⟨ml, nsB l1, l2⟩⟩
      bs := fun _ _ e => of_hidT e
      bsz := Nat.le_of_eq (hidT_size _ _)
      funs := trivial
      frf := fun _ z => by cases (show _ ∈ ([] : List Addr) from z)
      hok := hok
      bare := .of_eq hg }
  have go := (F _ kB (nsB hns)).run callerA [] t H ⟨[.ref a], []⟩ [.ref a] [.ref a] _ _ hr env (bd t (.ref a)) (.cons rfl .nil) hsp
  refine codeAny_mono go fun r t' h => ?_
  match r, h with
  | .error e, h => exact (hCX e t' h).elim
  | .ok .next, h => exact False.elim h
  | .ok .brk, h => exact False.elim h
  | .ok .cont, h => exact False.elim h
  | .ok (.ret u), h =>
    obtain ⟨v, H', e1, e2, un, hok', rv, (rfl : v = .bl true)⟩ := h
    cases (show u = Value.bool true from rv)
    refine ⟨rfl, OldK.of_keep fun b o e => ?_, e1, e2⟩
    rcases only b with n | ⟨_, _, ob, l, z⟩
    · exact un.keep b o e n (fun z => by cases (show b ∈ ([] : List Addr) from z)) (fun z => by cases z)
    · have z1 := (hok b _ z).1
      have z2 := (hok' b _ (un.frzs b ob _ z)).1
      rw [e] at z1
      cases z1
      exact z2
/-- the law's call -/
theorem lawG (KX : K.In t.heap) (hns : t.heap.Ns mainGlobals mg) (hb : t.heap.Ns builtinsNs mb) (hbb : ∀ x : Str, x ≠ "__name__" → mb x = bootBuiltins x) (hlim : t.heap.NoLimit) (hg : t.gens = #[])
    (ha : t.heap.get? a = some { cls := .type "list", data := .seq us.toArray }) (hi : IntsAre us ns) (hl : ns.length ≤ sizeLine) (hr : Rm k callerA) (F : ∀ base : Heap, K.In base → base.Ns mainGlobals mg → FnG P w K mg base CX k fa fd [x] sp)
    (bd : ∀ (s : Shared) (u : Value), BindsTo s fd ⟨[u], []⟩ [(x, u)]) (hsp : ∀ H : Hp, SqL K H a (ns.map V.int) → sp [.ref a] H (fun v _ => v = .bl true) fun _ _ _ => False) (hCX : ∀ H e s', CX [] H t (fun _ _ _ => False) e s' → False) :
    codeAny (model P w) callerA (.call (.ref fa) ⟨[.ref a], []⟩) (LawEnd t) t := by
  have rv := vals_ints hi
  have dd : ∀ es ep, ({ cls := .type "list", data := .seq us.toArray } : Obj).data ≠ .dict es ep := fun _ _ z => by cases z
  cases q : K.lookup a with
  | none =>
    let H : Hp := fun b => if b = a then some (.frz { cls := .type "list", data := .seq us.toArray } (.lst (ns.map V.int))) else none
    have Ha : H a = some (.frz { cls := .type "list", data := .seq us.toArray } (.lst (ns.map V.int))) := if_pos rfl
    have Hn : ∀ b, b ≠ a → H b = none := fun b n => if_neg n
    refine lawAt (H := H) KX hns hb hbb hlim hg ha dd hr F bd (hsp H (.inl (.inr ⟨_, Ha⟩))) (hCX H) (fun b => ?_) fun b u z => ?_
    · by_cases c : b = a
      · exact .inr ⟨c, q, _, _, by rw [c]; exact Ha⟩
      · exact .inl (Hn b c)
    · by_cases c : b = a
      · subst c
        rw [Ha] at z
        cases z
        exact ⟨ha, by rw [List.length_map]; exact hl, us, _, rv, ha⟩
      · rw [Hn b c] at z
        cases z
  | some o =>
    have e := KX a o q
    rw [ha] at e
    cases e
    refine lawAt (H := fun _ => none) KX hns hb hbb hlim hg ha dd hr F bd (hsp _ (.inr ⟨_, us.toArray, _, q, rfl, rfl, rfl, ?_, by simpa using rv⟩)) (hCX _) (fun _ => .inl rfl) fun b u z => by cases z
    rw [List.size_toArray, hi.length]
    exact hl
end
/-- the goal that the head leaves, from the law's promise -/
theorem walkG {l : PySem.W.OpenLaw} {n k : Nat} {q : Program} {loose : List Str} {XP : (Str → Option Value) → Heap → Prop} {YP : World → Heap → Prop} {d : DefRec} {CX : CXT} {x : Str} (hn : l.most = some n) (hn2 : n ≤ sizeLine) (hdf : d.params.defaults = []) (hr : Rm k callerA)
    (F : ∀ (w : World) (mg : Str → Option Value) (fa : Addr) (h : Heap), YP w h → h.Ns mainGlobals mg → mg d.name = some (.ref fa) →
      ∃ (K : PySem.W.Frag) (fd : FuncData) (sp : Sp), K.In h ∧ (∀ (s : Shared) (u : Value), BindsTo s fd ⟨[u], []⟩ [(x, u)]) ∧
        (∀ (H : Hp) (a : Addr) (ns : List Int), ns.length ≤ n → (∀ i ∈ ns, Builtin.Int.intBits i ≤ 1048576) → SqL K H a (ns.map V.int) → sp [.ref a] H (fun v _ => v = .bl true) fun _ _ _ => False) ∧ ∀ base : Heap, K.In base → base.Ns mainGlobals mg → FnG l.prog w K mg base CX k fa fd [x] sp)
    (hCX : ∀ (H : Hp) (s : Shared) (e : Value) (s' : Shared), CX [] H s (fun _ _ _ => False) e s' → False) : PySem.W.WalkO q loose XP YP l.row.toRowW d [] (fun f vs => PySem.call f vs) := by
  refine Att.attach_callB hn hdf fun w _ t mg mb fa _ _ _ _ a us ns G Y _ _ _ hm ho hi hlen hbits hg => ?_
  obtain ⟨K, fd, sp, KX, bd, hs, hF⟩ := F w mg fa _ Y G.T.g hm
  exact lawG KX G.T.g G.T.b G.T.builtins G.T.nolimit hg ho hi (Nat.le_trans hlen hn2) hr hF bd (fun H hS => hs H a ns hlen hbits hS) fun H e s' => hCX H t e s'
/-! ### the Hook: tests of the written part, and defs -/
abbrev Ft : Type := PySem.W.Frag → Bool
def obsX (ft : List Ft) (fn : List He.DefD) (K : PySem.W.Frag) : He.AlD := ((ft.all fun f => f K) && fn.all fun d => d.ok K, fn.map fun d => He.fnW K d.at_)
def SaysX (ft : List Ft) (fn : List He.DefD) (K : PySem.W.Frag) : Prop := obsX ft fn K = He.valD fn
def obsXG (n : Nat) (ft : List Ft) (fn : List He.DefD) (g : Addr → Option Obj) : He.AlD := obsX ft fn (He.frG g (He.asD g n))
def hookX (n : Nat) (ft : List Ft) (fn : List He.DefD) : PySem.W.Hook where
  α := He.AlD
  obs := fun s => obsXG n ft fn s.heap.get?
  val := fun _ => He.valD fn
  says := fun _ h => ∃ K : PySem.W.Frag, K.In h ∧ SaysX ft fn K
  of := fun _ _ e => ⟨_, He.frG_in, e⟩
  keeps := fun _ _ _ ⟨K, hK, c⟩ k => ⟨K, PySem.W.Frag.In.keeps hK k, c⟩
theorem obsXG_eq {n : Nat} {ft : List Ft} {fn : List He.DefD} {g : Addr → Option Obj} {s : Shared} (h : ∀ a, g a = s.heap.get? a) : obsXG n ft fn g = (hookX n ft fn).obs s := by
  have e : g = s.heap.get? := funext h
  rw [e] <;> rfl
theorem SaysX.fact {ft : List Ft} {fn : List He.DefD} {K : PySem.W.Frag} (c : SaysX ft fn K) (i : Nat) {f : Ft} (h : ft[i]? = some f := by rfl) : f K = true := by
  have e : ((ft.all fun f => f K) && fn.all fun d => d.ok K) = true := congrArg Prod.fst c
  exact List.all_eq_true.mp (He.ba e).1 f (List.mem_of_getElem? h)
theorem SaysX.def_ {ft : List Ft} {fn : List He.DefD} {K : PySem.W.Frag} (c : SaysX ft fn K) (i : Nat) {d : He.DefD} (h : fn[i]? = some d := by rfl) : ∃ fd, FunD K d.name d.qual d.params d.body d.scope (d.dvs K) (d.kws K) (He.fAd K d.at_) fd := by
  have e : ((ft.all fun f => f K) && fn.all fun d => d.ok K) = true := congrArg Prod.fst c
  have e1 : (fn.map fun d => He.fnW K d.at_)[i]? = (fn.map He.DefD.val)[i]? := congrArg (fun z : He.AlD => z.2[i]?) c
  rw [List.getElem?_map, List.getElem?_map, h] at e1
  exact He.DefD.funD (Option.some.inj e1) (List.all_eq_true.mp (He.ba e).2 d (List.mem_of_getElem? h))
end LL

set_option Elab.async false
set_option linter.all false
set_option maxRecDepth 100000
set_option maxHeartbeats 2000000
/-! LLCut: a reading cut in two: what stands between is told once. -/
namespace LL
open PySem PySem.Spec PyProof.Rows L2
/-- behind a statement I holds -/
theorem seq_cut {t u : TS} {D : Ends} {σ : L2.St} {H : Hp} (I : L2.St → Hp → Prop) (h1 : ∀ N : L2.St → Hp → Prop, (∀ σ' H', I σ' H' → N σ' H') → t { D with nx := N } σ H) (h2 : ∀ σ' H', I σ' H' → u D σ' H') : tSeq t u D σ H := h1 _ h2
/-- an expression has a value of which I holds -/
theorem ex_cut {t : TE} {σ : L2.St} {H : Hp} {Q : VK} (I : VK) (h1 : ∀ R : VK, (∀ x H', I x H' → R x H') → t σ H R) (h2 : ∀ x H', I x H' → Q x H') : t σ H Q := h1 Q h2
/-- a test has an answer of which I holds -/
theorem tt_cut {t : TT} {σ : L2.St} {H : Hp} {Q : Bool → Hp → Prop} (I : Bool → Hp → Prop) (h1 : ∀ R : Bool → Hp → Prop, (∀ x H', I x H' → R x H') → t σ H R) (h2 : ∀ x H', I x H' → Q x H') : t σ H Q := h1 Q h2
/-- a and b, both without an effect -/
theorem and_of {ta tb : TE} {σ : L2.St} {H : Hp} {Q : VK} (c d : Bool) (h1 : ∀ R : VK, R (.bl c) H → ta σ H R) (h2 : c = true → ∀ R : VK, R (.bl d) H → tb σ H R) (q : Q (.bl (c && d)) H) : tAndV ta tb σ H Q := by
  refine h1 _ ⟨c, rfl, ?_⟩
  cases c with
  | true => exact iteT (h2 rfl _ q)
  | false => exact iteF q
theorem or_of {ta tb : TE} {σ : L2.St} {H : Hp} {Q : VK} (c d : Bool) (h1 : ∀ R : VK, R (.bl c) H → ta σ H R) (h2 : c = false → ∀ R : VK, R (.bl d) H → tb σ H R) (q : Q (.bl (c || d)) H) : tOrV ta tb σ H Q := by
  refine h1 _ ⟨c, rfl, ?_⟩
  cases c with
  | true => exact iteT q
  | false => exact iteF (h2 rfl _ q)
theorem seq_asg {te : TE} {g : TG} {u : TS} {D : Ends} {σ : L2.St} {H : Hp} (h : te σ H fun x H1 => g x σ H1 (u D)) : tSeq (tAsg te g) u D σ H := h
theorem ret_of {te : TE} {D : Ends} {σ : L2.St} {H : Hp} (h : te σ H D.rt) : tRet te D σ H := h
theorem nm_of {i : Nat} {v : V} {σ : L2.St} {H : Hp} {N : L2.St → Hp → Prop} (h : N (σ.set i (some v)) H) : gName i v σ H N := h
theorem nx_of {D : Ends} {σ : L2.St} {H : Hp} (h : D.nx σ H) : tNext D σ H := h
/-! ### a class called, as a def is -/
section
variable (P : Program) (w : World) (K : PySem.W.Frag) (mg : Str → Option Value) (base : Heap) (CX : CXT) (k : Nat)
/-- C(..) keeps sp: its __init__ does, at each new instance -/
structure Mkf (x : Str) (sp : Sp) : Prop where
  ex : ∃ (C : Addr) (dvs : List V) (si : Sp), Mkr P w K mg base CX k x C dvs si ∧ ∀ vs H Q E, sp vs H Q E → ∀ a dx, H a = none → H dx = none → dx ≠ a → si (.ref a :: (vs ++ dvs)) (upd (upd H dx (.own a)) a (.ins C dx [])) (fun v H2 => v = .non ∧ Q (.ref a) H2) E
end
section
variable {X : Cx} {CX : CXT} {k : Nat} {sp : Sp} {E : XK} {x : Str} {p pos : Pos} {e : Expr} {es : List Expr} {t : TA}
theorem pe_mf (G : Mkf X.prog X.w X.K X.mg X.base CX k x sp) (hr : Rm (k + 1) X.A) (hx : Passes CX X E) (ha : PA X (e :: es) t) (hg : Gl X x := by rfl) (hdb : (x == ("__debug__" : Str)) = false := by decide)
    (he : starEach (e :: es) X.env = (false, eval e X.env) :: starEach es X.env := by rfl) (hpl : (backTo pos (starEach es X.env)).any (·.1) = false := by rfl) : PE X (.Call (.Name x p) (e :: es) [] pos) (tCall sp [] E t) := by
  obtain ⟨C, dvs, si, ⟨f, fd, ps, ds, M, hm, hb, hd, F⟩, conv⟩ := G.ex
  refine ⟨fun pins s σ H Q I h => wpAny_Call_Name_kw (ld_glob I hg hm (PySem.W.callWith_K (h₀ := X.base) I.ok.mod.kin M.kp (thn (ha.run pos pins s σ H _ I h) fun us s1 z => ?_) he hpl) hdb)⟩
  obtain ⟨vs, H1, I1, r, q⟩ := z
  exact ⟨I1.kIn, run_makeG M F hr hb hd hx I1 r (conv vs H1 Q E (by simpa using q))⟩
theorem pe_mf0 (G : Mkf X.prog X.w X.K X.mg X.base CX k x sp) (hr : Rm (k + 1) X.A) (hx : Passes CX X E) (hg : Gl X x := by rfl) (hdb : (x == ("__debug__" : Str)) = false := by decide) : PE X (.Call (.Name x p) [] [] pos) (tCall sp [] E tNil) := by
  obtain ⟨C, dvs, si, ⟨f, fd, ps, ds, M, hm, hb, hd, F⟩, conv⟩ := G.ex
  exact ⟨fun pins s σ H Q I h => wpAny_Call_Name_kw (ld_glob I hg hm (PySem.W.callWith_K0 I.kIn M.kp (run_makeG (us := []) M F hr hb hd hx I .nil (conv [] H Q E h))) hdb)⟩
end
/-! ### rules within a comprehension: the written part by its name -/
theorem ix_tupK {X : Cx} {K : PySem.W.Frag} (h : X.K = K) : IxR X (rIxT K) := h ▸ ix_tup
theorem ix_listK {X : Cx} {K : PySem.W.Frag} (h : X.K = K) : IxR X (rIxL K) := h ▸ ix_list
/-! ### texts that == can read -/
theorem okt_iff {x : Str} : PyData.strOk x = true ↔ ∀ c ∈ x.cps.toList, c < 1114112 := by
  unfold PyData.strOk
  rw [← Array.all_toList, List.all_eq_true]
  exact ⟨fun h c hc => of_decide_eq_true (h c hc), fun h c hc => decide_eq_true (h c hc)⟩
theorem okt_of (s : String) : PyData.strOk (Str.ofString s) = true := by
  rw [okt_iff]
  intro c hc
  rw [signs_ofString] at hc
  obtain ⟨k, _, rfl⟩ := List.mem_map.mp hc
  rcases k.valid with h | ⟨_, h⟩
  · exact Nat.lt_trans h (by decide)
  · exact h
theorem okt_app {x y : Str} (hx : PyData.strOk x = true) (hy : PyData.strOk y = true) : PyData.strOk (x ++ y) = true := by
  rw [okt_iff] at *
  intro c hc
  rw [Str.cps_append, Array.toList_append] at hc
  rcases List.mem_append.mp hc with h | h
  · exact hx c h
  · exact hy c h
/-! ### all but lists stay -/
def Kp (H H' : Hp) : Prop := ∀ b o, H b = some o → (∀ xs, o ≠ .lst xs) → H' b = some o
theorem Kp.refl {H : Hp} : Kp H H := fun _ _ e _ => e
theorem Kp.trans {H H1 H2 : Hp} (a : Kp H H1) (b : Kp H1 H2) : Kp H H2 := fun c o e n => b c o (a c o e n) n
theorem Kp.of {H H' : Hp} (a : Same H H') : Kp H H' := fun c o e _ => a c o e
theorem But.kp {p : Addr} {H H' : Hp} {xs : List V} (a : But p H H') (h : H p = some (.lst xs)) : Kp H H' := fun c o e n => a c o e fun z => by
  rw [z, h] at e
  exact n xs (Option.some.inj e).symm
theorem kp_upd {H : Hp} {p : Addr} {o : HO} {xs : List V} (h : H p = some (.lst xs)) : Kp H (upd H p o) := (but_upd (o := o)).kp h
end LL

set_option Elab.async false
set_option linter.all false
set_option maxRecDepth 100000
set_option maxHeartbeats 2000000
/-! LLHead: defs of the text at any address of the written part; the Hook over them; facts as tests. -/
namespace LL
open PySem PySem.Spec PyProof.Rows L2
/-- a def: where it stands, what it is -/
structure DefX where
  adr : PySem.W.Frag → Addr
  name : Str
  qual : Str
  params : Arguments
  body : List Stmt
  scope : Scope
  dfl : List V := []
def dX (adr : PySem.W.Frag → Addr) (name qual : Str) (st : Stmt) (dfl : List V := []) : DefX := ⟨adr, name, qual, defArgs st, defBody st, defScope st, dfl⟩
/-- the function object at a -/
def fdAt (K : PySem.W.Frag) (a : Addr) : Option FuncData := match K.lookup a with
  | some ⟨_, _, .func g, _⟩ => some g
  | _ => none
def shapeX (g : FuncData) : Str × Str × Arguments × FuncBody × Scope × Addr × List (Str × Addr) × Addr := (g.name, g.qualname, g.params, g.body, g.scope, g.globals, g.closure, g.builtins)
def DefX.shape (d : DefX) : Option (Str × Str × Arguments × FuncBody × Scope × Addr × List (Str × Addr) × Addr) := some (d.name, d.qual, d.params, .stmts d.body, d.scope, mainGlobals, [], builtinsNs)
def DefX.fine (K : PySem.W.Frag) (d : DefX) : Bool := PySem.W.keepIn K (.ref (d.adr K)) && ((fdAt K (d.adr K)).any fun g => PySem.W.codeIn K g.code d.qual && He.dflB K g.defaults d.dfl)
theorem fdAt_look {K : PySem.W.Frag} {a : Addr} {g : FuncData} (e : fdAt K a = some g) : ∃ oc od osl, K.lookup a = some ⟨oc, od, .func g, osl⟩ := by
  unfold fdAt at e
  split at e
  · rename_i c d z sl q
    cases e
    exact ⟨c, d, sl, q⟩
  · cases e
theorem DefX.fun_ {K : PySem.W.Frag} {d : DefX} (e : (fdAt K (d.adr K)).map shapeX = d.shape) (c : d.fine K = true) : ∃ fd, FunD K d.name d.qual d.params d.body d.scope d.dfl [] (d.adr K) fd := by
  obtain ⟨kp, c2⟩ := He.ba c
  obtain ⟨g, eg, es⟩ := Option.map_eq_some_iff.mp e
  rw [eg] at c2
  obtain ⟨c3, c4⟩ := He.ba (show (PySem.W.codeIn K g.code d.qual && He.dflB K g.defaults d.dfl) = true from c2)
  obtain ⟨oc, od, osl, lk⟩ := fdAt_look eg
  unfold shapeX at es
  simp only [Prod.mk.injEq] at es
  obtain ⟨e1, e2, e3, e4, e5, e6, e7, e8⟩ := es
  refine ⟨g, ⟨oc, od, g.defaults, g.kwdefaults, g.doc, g.pyModule, g.annotations, g.code, g.closureTuple, osl, ?_, lk, c3, He.dflB_ok c4, .inl rfl⟩, kp⟩
  obtain ⟨a1, a2, a3, a4, a5, a6, a7, a8, a9, a10, a11, a12, a13, a14, a15⟩ := g
  subst e1 e2 e3 e4 e5 e6 e7 e8
  rfl
/-! ### the Hook -/
abbrev AlX : Type := Bool × List (Option (Str × Str × Arguments × FuncBody × Scope × Addr × List (Str × Addr) × Addr))
def obsY (ft : List Ft) (fn : List DefX) (K : PySem.W.Frag) : AlX := ((ft.all fun f => f K) && fn.all fun d => d.fine K, fn.map fun d => (fdAt K (d.adr K)).map shapeX)
def valY (fn : List DefX) : AlX := (true, fn.map DefX.shape)
def SaysY (ft : List Ft) (fn : List DefX) (K : PySem.W.Frag) : Prop := obsY ft fn K = valY fn
def obsYG (n : Nat) (ft : List Ft) (fn : List DefX) (g : Addr → Option Obj) : AlX := obsY ft fn (He.frG g (He.asD g n))
def hookY (n : Nat) (ft : List Ft) (fn : List DefX) : PySem.W.Hook where
  α := AlX
  obs := fun s => obsYG n ft fn s.heap.get?
  val := fun _ => valY fn
  says := fun _ h => ∃ K : PySem.W.Frag, K.In h ∧ SaysY ft fn K
  of := fun _ _ e => ⟨_, He.frG_in, e⟩
  keeps := fun _ _ _ ⟨K, hK, c⟩ k => ⟨K, PySem.W.Frag.In.keeps hK k, c⟩
theorem obsYG_eq {n : Nat} {ft : List Ft} {fn : List DefX} {g : Addr → Option Obj} {s : Shared} (h : ∀ a, g a = s.heap.get? a) : obsYG n ft fn g = (hookY n ft fn).obs s := by
  cases (funext h : g = s.heap.get?)
  rfl
theorem SaysY.fact {ft : List Ft} {fn : List DefX} {K : PySem.W.Frag} (c : SaysY ft fn K) (i : Nat) {f : Ft} (h : ft[i]? = some f := by rfl) : f K = true := by
  have e : ((ft.all fun f => f K) && fn.all fun d => d.fine K) = true := congrArg Prod.fst c
  exact List.all_eq_true.mp (He.ba e).1 f (List.mem_of_getElem? h)
theorem SaysY.fn_ {ft : List Ft} {fn : List DefX} {K : PySem.W.Frag} (c : SaysY ft fn K) (i : Nat) {d : DefX} (h : fn[i]? = some d := by rfl) : ∃ fd, FunD K d.name d.qual d.params d.body d.scope d.dfl [] (d.adr K) fd := by
  have e : ((ft.all fun f => f K) && fn.all fun d => d.fine K) = true := congrArg Prod.fst c
  have e1 : (fn.map fun d => (fdAt K (d.adr K)).map shapeX)[i]? = (fn.map DefX.shape)[i]? := congrArg (fun z : AlX => z.2[i]?) c
  rw [List.getElem?_map, List.getElem?_map, h] at e1
  exact DefX.fun_ (Option.some.inj e1) (List.all_eq_true.mp (He.ba e).2 d (List.mem_of_getElem? h))
/-! ### addresses and tests -/
/-- a global, a method, a property's getter -/
def gA (x : Str) (K : PySem.W.Frag) : Addr := He.ga K x
def mA (x m : Str) (K : PySem.W.Frag) : Addr := He.ma K (He.ga K x) m
def pA (x m : Str) (K : PySem.W.Frag) : Addr := match PySem.W.recIn K (mA x m K) "property" with
  | some (.ref g :: _) => g
  | _ => 0
def fGlo (x : Str) : Ft := fun K => (He.Fa.glo x).ok K
def fFree (x : Str) : Ft := fun K => (He.Fa.free x).ok K
def fCls (x : Str) : Ft := fun K => (He.Fa.cls x).ok K
def fNo (x f : Str) : Ft := fun K => (He.Fa.noat x f).ok K
def fMeth (x m : Str) : Ft := fun K => (He.Fa.meth x m).ok K
def fMkr (x : Str) : Ft := fun K => (He.Fa.mkr x).ok K
def fSame (a b : PySem.W.Frag → Option (Option Value)) : Ft := fun K => He.eqO (a K) (b K)
def fBool (a : PySem.W.Frag → Option Bool) (b : Bool) : Ft := fun K => decide (a K = some b)
def fProp (x m : Str) : Ft := fun K => He.eqO (PySem.W.findIn K (.ref (He.ga K x)) m) (some (some (.ref (mA x m K)))) && (He.eqO (PySem.W.specialIn K (.ref (mA x m K)) "__get__") (some (some (.builtin "property.__get__"))) && (decide (PySem.W.takesIn K (.ref (mA x m K)) = some true) &&
  (match PySem.W.recIn K (mA x m K) "property" with
  | some (.ref _ :: _) => true
  | _ => false)))
theorem fProp_ok {K : PySem.W.Frag} {x m : Str} (h : fProp x m K = true) : PropOf K (He.ga K x) m (mA x m K) (pA x m K) := by
  obtain ⟨h1, h2⟩ := He.ba h
  obtain ⟨h3, h4⟩ := He.ba h2
  obtain ⟨h5, h6⟩ := He.ba h4
  refine ⟨He.eqO_ok h1, He.eqO_ok h3, of_decide_eq_true h5, ?_⟩
  unfold pA
  split at h6
  · rename_i g rest q
    exact ⟨rest, by rw [q]⟩
  · cases h6
/-- an operator of the class x -/
def fOper (x : Str) (op : Operator) : Ft := fun K => PySem.W.selfFirst K (He.ga K x) && (He.eqO (PySem.W.findIn K (.ref (He.ga K x)) (PySem.dunder op.info.2)) (some (some (.ref (mA x (PySem.dunder op.info.2) K)))) && PySem.W.isFn K (.ref (mA x (PySem.dunder op.info.2) K)))
theorem fOper_ok {K : PySem.W.Frag} {x : Str} {op : Operator} (h : fOper x op K = true) : OpAt K (He.ga K x) op (mA x (PySem.dunder op.info.2) K) := by
  obtain ⟨h1, h2⟩ := He.ba h
  obtain ⟨h3, h4⟩ := He.ba h2
  exact ⟨h1, He.eqO_ok h3, h4⟩
def fOpInt (x : Str) (op : Operator) : Ft := fun K => He.eqO (PySem.W.findIn K (.ref (He.ga K x)) (PySem.dunderR op.info.2)) (some none) && ((PySem.W.findIn K (.type "int") (PySem.dunder op.info.2)).isSome && ((PySem.W.findIn K (.type "int") (PySem.dunderR op.info.2)).isSome && decide (PySem.W.subIn K (.type "int") (.ref (He.ga K x)) = some false)))
theorem fOpInt_ok {K : PySem.W.Frag} {x : Str} {op : Operator} (h : fOpInt x op K = true) : OpInt K (He.ga K x) op := by
  obtain ⟨h1, h2⟩ := He.ba h
  obtain ⟨h3, h4⟩ := He.ba h2
  obtain ⟨h5, h6⟩ := He.ba h4
  exact ⟨He.eqO_ok h1, Option.isSome_iff_exists.mp h3, Option.isSome_iff_exists.mp h5, of_decide_eq_true h6⟩
/-- a special method of the class x -/
def fSpec (x m : Str) : Ft := fun K => He.eqO (PySem.W.findIn K (.ref (He.ga K x)) m) (some (some (.ref (mA x m K)))) && PySem.W.isFn K (.ref (mA x m K))
theorem fSpec_ok {K : PySem.W.Frag} {x m : Str} (h : fSpec x m K = true) : PySem.W.findIn K (.ref (He.ga K x)) m = some (some (.ref (mA x m K))) ∧ PySem.W.isFn K (.ref (mA x m K)) = true := by
  obtain ⟨h1, h2⟩ := He.ba h
  exact ⟨He.eqO_ok h1, h2⟩
end LL

set_option Elab.async false
set_option linter.all false
set_option maxRecDepth 100000
set_option maxHeartbeats 2000000
/-! LLTry: try .. with several clauses 'except x as n', all of one name. -/
namespace LL
open PySem PySem.Spec PyProof.Rows L2
/-- behind a suite the clause's name is gone -/
def Dgone (D : Ends) (i : Nat) : Ends := { nx := fun τ G => D.nx (τ.set i none) G, rt := D.rt, bk := fun τ G => D.bk (τ.set i none) G, ct := fun τ G => D.ct (τ.set i none) G }
abbrev Clause : Type := Value × (Addr → Value → Option Addr → TS)
/-- what the clauses wish of what the body lets out -/
def wRow (K : PySem.W.Frag) (Wo : WX) (D : Ends) (i : Nat) : List Clause → WX
  | [] => Wo
  | q :: r => fun cls d τ G => ∃ b, PySem.W.exmOne K cls q.1 = some b ∧ (b = true → ∀ e, G e = none → q.2 e cls d (Dgone D i) (τ.set i (some (.ref e))) G) ∧ (b = false → wRow K Wo D i r cls d τ G)
inductive RowOk (X : Cx) (n : Str) : List ExceptHandler → List Clause → Prop
  | nil : RowOk X n [] []
  | cons {x : Str} {c : Value} {ts : Addr → Value → Option Addr → TS} {t₀ : Stmt} {more : List Stmt} {q1 q2 : Pos} {hs : List ExceptHandler} {l : List Clause} (nm : Names X x c)
      (su : ∀ (e : Addr) (oe : Obj) (cls : Value) (d : Option Addr) (pn : List (Addr × Obj)), Zc cls d oe → (∃ fs, oe.data = .fields fs) → PSs (X.suite e ((e, oe) :: pn)) (t₀ :: more) (ts e cls d)) (r : RowOk X n hs l) :
      RowOk X n (.ExceptHandler (some (.Name x q1)) (some n) (t₀ :: more) q2 :: hs) ((c, ts) :: l)
section
variable {X : Cx} {n : Str} {i : Nat} {body : List Stmt} {h₀ : ExceptHandler} {hs : List ExceptHandler} {l : List Clause} {pos : Pos} {tb : WX → TS} {Wo : WX}
theorem ps_tryRow (st : X.stack = X.env :: X.outer) (fr : X.env.frame = some X.env.locals) (nd : X.N.Nodup) (ni : X.N[i]? = some n) (nl : X.env.kindOf n = some .local) (tk : Takes X Wo)
    (bd : ∀ (W : WX) (pn : List (Addr × Obj)) (xe : Value → Shared → Prop), Takes (X.tr pn xe) W → PassesOwn (model X.prog X.w) X.A X.env xe → PSs (X.tr pn xe) body (tb W)) (hh : RowOk X n (h₀ :: hs) l) :
    PS X (.Try body (h₀ :: hs) [] [] pos) (fun D τ G => tb (wRow X.K Wo D i l) D τ G) := by
  constructor
  intro pins s τ G D I h
  have ok := I.ok
  have frs' : X.A.frames = some (X.env :: X.outer) := ok.frames.trans (by rw [st])
  refine wpAny_Try_except ?_
  let after : Value → Shared → Prop := fun e u => wpAny (model X.prog X.w) X.A (noteFrame e X.env)
    (fun _ u2 => wpAny (model X.prog X.w) X.A (setFlight e none)
      (fun _ u3 => wpAny (model X.prog X.w) X.A (handleBy e X.env (h₀ :: hs)) (SP X pins D) X.xe u3) X.xe u2) X.xe u
  have catch_ : Takes (X.tr (X.pn ++ pins) after) (wRow X.K Wo D i l) := by
    intro u s' xx
    obtain ⟨e, B, sI, pn', τ', G', cls, d, eu, J', nb, up, sky, ne, os, ag, w⟩ := xx
    subst eu
    have J : Inv X pins τ' G' sI := J'.ofTry ok
    have sky2 : Sky B (X.env :: X.outer) e (Zc cls d) X.env.locals s'.heap := st ▸ sky
    show wpAny (model X.prog X.w) X.A (noteFrame (.ref e) X.env) _ _ _
    refine Sky.land Zc.steady frs' fr sky2 fun h3 fl up3 => ?_
    have J3 : Inv X pins τ' G' { s' with heap := h3 } := J.landed nb fl.1 (up.trans up3) os ag
    obtain ⟨oe, fs, at3, z3, d3⟩ := fl.there
    have out : e ∉ frs (X.env :: X.outer) := fun hm => by
      obtain ⟨_, o', q, hnf⟩ := fl.2.2.1.mem hm
      rw [at3] at q
      cases q
      exact hnf _ d3
    have nL : e ≠ X.env.locals := fun z => out (List.mem_filterMap.mpr ⟨X.env, List.mem_cons_self, by rw [fr, z]⟩)
    have nF : e ∉ X.fs := fun hm => by
      obtain ⟨v, hv, q⟩ := List.mem_filterMap.mp hm
      exact out (List.mem_filterMap.mpr ⟨v, List.mem_cons_of_mem _ hv, q⟩)
    have S3 := J3.suite at3 d3 ne nL nF
    have row : ∀ {hs' : List ExceptHandler} {l' : List Clause}, RowOk X n hs' l' → wRow X.K Wo D i l' cls d τ' G' → wpAny (model X.prog X.w) X.A (handleBy (.ref e) X.env hs') (SP X pins D) X.xe { s' with heap := h3 } := by
      intro hs' l' hk
      induction hk with
      | nil =>
        intro w
        refine wpAny_handleBy_nil ?_
        obtain ⟨k1, k2, k3, o1, v1, T1, oT, t1, g1, g2, g3, g4, g5⟩ := id fl
        unfold PySem.passOn
        refine wpAny_bind (wpAny_field g1 g3 g4 ?_)
        rw [if_neg (by simp)]
        have go : wpAny (model X.prog X.w) X.A (setFlight (.ref e) X.env.frame) (fun _ u4 => wpAny (model X.prog X.w) X.A (throw (.ref e) : Sem Flow) (SP X pins D) X.xe u4) X.xe { s' with heap := h3 } := by
          rw [fr]
          refine HandSPX.setFlight_upZ fl fun h4 up4 upb => wpAny_throw (tk _ _ ?_)
          exact ⟨e, B, sI, pins, τ', G', cls, d, rfl, J, nb, (up.trans up3).trans upb, .inr (.inr (by rw [st]; exact up4)), ne, os, ag, w⟩
        first
          | exact wpAny_bind (wpAny_pure (wpAny_bind go))
          | exact wpAny_bind go
      | @cons x c ts t₀ more q1 q2 hs2 l2 nm su r ih =>
        intro w
        obtain ⟨b, e1, yes, no⟩ := w
        refine wpAny_handleBy_cons (codeAny_handlers_test ?_) (fun q => by cases q)
        have isC : PySem.W.Looks (model X.prog X.w) h3 (typeOf (.ref e)) cls := fun A Q E s k q => wpAny_typeOf_ref (k _ _ at3) (z3.1 ▸ q)
        have ask := PySem.W.exm_one (M := model X.prog X.w) J3.kIn isC e1
        have name_ : ∀ {Q : Value → Shared → Prop} {E : Value → Shared → Prop}, Q c { s' with heap := h3 } → wpAny (model X.prog X.w) (X.A.mark (some (.ref e))) (eval (.Name x q1) X.env) Q E { s' with heap := h3 } := by
          intro Q E q
          rcases nm with ⟨y1, y2, y3 | ⟨y3, y4, y5⟩⟩
          · exact ld_glob (X := X.suite e ((e, oe) :: (X.pn ++ pins))) S3 y1 y3 q y2
          · exact ld_blt (X := X.suite e ((e, oe) :: (X.pn ++ pins))) S3 y1 y3 y4 q y5 y2
        refine name_ (ask.here ?_)
        cases b with
        | false =>
          show wpAny _ X.A (handleBy (.ref e) X.env hs2) _ _ _
          exact ih (no rfl)
        | true =>
          refine codeAny_handlers_suite_as ?_
          refine HandSPX.lands_againZ fl fun h4 fl4 up4 => ?_
          have J4 : Inv X pins τ' G' { s' with heap := h4 } := J.landed nb fl4.1 ((up.trans up3).trans up4) os ag
          obtain ⟨oe4, fs4, at4, z4, d4⟩ := fl4.there
          have S4 := J4.suite at4 d4 ne nL nF
          refine store_ok (X := X.suite e ((e, oe4) :: (X.pn ++ pins))) (v := .ref e) S4 nd ni (.inl nl) rfl (fun s5 S5 => ?_) (.inr nl)
          refine wpAny_mono ((su e oe4 cls d (X.pn ++ pins) z4 ⟨_, d4⟩).run [] s5 _ G' _ S5 (yes rfl e ne)) (fun f s6 z => ?_) (fun _ _ z => z.elim)
          have fin : ∀ {τ6 : L2.St} {G6 : Hp} {Q : Shared → Prop}, Inv (X.suite e ((e, oe4) :: (X.pn ++ pins))) [] τ6 G6 s6 → (∀ s7, Inv X pins (τ6.set i none) G6 s7 → Q s7) →
              wpAny (model X.prog X.w) X.A (do bindName X.env n .none; unbindBehindTheSuite X.env n q2) (fun _ s7 => Q s7) X.xe s6 := fun S6 hq => gone_ok (S6.unsuite ok) nd ni nl hq
          match f, z with
          | .next, ⟨_, _, S6, q6⟩ => exact fin S6 fun s7 J7 => ⟨_, _, J7, q6⟩
          | .brk, ⟨_, _, S6, q6⟩ => exact fin S6 fun s7 J7 => ⟨_, _, J7, q6⟩
          | .cont, ⟨_, _, S6, q6⟩ => exact fin S6 fun s7 J7 => ⟨_, _, J7, q6⟩
          | .ret u, ⟨_, _, _, S6, r6, q6⟩ => exact fin S6 fun s7 J7 => ⟨_, _, _, J7, r6, q6⟩
    exact row hh w
  refine wpAny_mono ((bd (wRow X.K Wo D i l) (X.pn ++ pins) after catch_ PassesOwn.looking).run [] s τ G D (I.toTry _) h) (fun f s1 z => ?_) (fun _ _ z => z)
  match f, z with
  | .next, ⟨_, _, J', q⟩ => exact wpAny_execs_nil ⟨_, _, J'.ofTry ok, q⟩
  | .brk, ⟨_, _, J', q⟩ => exact ⟨_, _, J'.ofTry ok, q⟩
  | .cont, ⟨_, _, J', q⟩ => exact ⟨_, _, J'.ofTry ok, q⟩
  | .ret u, ⟨_, _, _, J', r, q⟩ => exact ⟨_, _, _, J'.ofTry ok, r, q⟩
end
end LL

set_option Elab.async false
set_option linter.all false
set_option maxRecDepth 100000
set_option maxHeartbeats 2000000
/-! LLExc: own error classes with one field; what a suite asks of the error it holds; repr of any data. -/
namespace LL
open PySem PySem.Spec PyProof.Rows L2
/-! ### B.__init__(self, ..), B an own class over ValueError without one -/
structure LeC (K : PySem.W.Frag) (B : Addr) : Prop where
  sp : PySem.W.specialIn K (.ref B) "__getattribute__" = some (some (.builtin "type.__getattribute__"))
  rd : PySem.W.readsIn K B (.type "type") = true
  fi : PySem.W.findCls K (.ref B) (.type "type") "__init__" = some (.val (.builtin "ValueError.__init__"))
section
variable {X : Cx} {B : Addr} {x : Str} {e : Expr} {es : List Expr} {ta : TA} {p1 p2 pos : Pos}
theorem pe_leinit {pl : Sem Bool} (L : LeC X.K B) (hg : Gl X x) (hm : X.mg x = some (.ref B)) (ha : PA X (e :: es) ta) (hdb : (x == ("__debug__" : Str)) = false := by decide)
    (ev : eval (.Call (.Attribute (.Name x p1) "__init__" p2) (e :: es) [] pos) X.env = (do
      let o ← eval (.Name x p1) X.env
      standAt p2.atName
      let (g, first) ← holding [o] (getMethod o "__init__" pl)
      callWith pos g first (backTo pos (starEach (e :: es) X.env)) (backToKw pos (keywordEach [] X.env))) := by rfl)
    (se : starEach (e :: es) X.env = (false, eval e X.env) :: starEach es X.env := by rfl) (sn : (backTo pos (starEach es X.env)).any (·.1) = false := by rfl) : PE X (.Call (.Attribute (.Name x p1) "__init__" p2) (e :: es) [] pos) (tVeI X.K ta) := by
  constructor
  intro pins s σ H Q I h
  refine PySem.W.methodCall_KW (ld_glob I hg hm ?_ hdb) ev
  refine PySem.W.method_cls I.kIn L.sp (PySem.W.cls_value I.kIn L.rd L.fi (by decide +kernel) ?_)
  show wpAny _ _ (callWith pos (Value.builtin "ValueError.__init__") [] (backTo pos (starEach (e :: es) X.env)) []) _ _ _
  refine PyProof.Rows.callWith_method1 (thn (ha.run pos pins _ σ H _ (I.tok _) h) fun us s1 z => ?_) se sn
  obtain ⟨vs, H1, I1, r, a, C, ws, rfl, hl, T, ea, q⟩ := z
  cases r with
  | @cons _ u _ ur ru rr =>
    cases (show u = Value.ref a from ru)
    have hz : ur.length ≤ sizeLine := Nat.le_trans (Nat.le_of_eq (Paired.length rr).symm) (Nat.le_trans hl (by rw [sizeLine_eq]; decide))
    exact oinit_ok T I1 ea hz fun s2 J => ⟨.non, H1, J, rfl, q⟩
end
/-! ### raise C(v) -/
/-- the promise of an __init__ that keeps one value in the field f -/
def spXI (C : Addr) (f : Str) : Sp := fun vs H Q _ => ∃ a v, vs = [.ref a, v] ∧ H a = some (exo a C none) ∧ ∀ dx, H dx = none → dx ≠ a → Q .non (upd (upd H dx (exd dx [(f, v)])) a (exo a C (some dx)))
section
variable (P : Program) (w : World) (K : PySem.W.Frag) (mg : Str → Option Value) (base : Heap) (k : Nat)
/-- the module's name x is the error class at C, its field is f -/
structure Xcl (x : Str) (C : Addr) (f : Str) : Prop where
  T : OexC K C
  nf : PySem.W.findIn K (.ref C) f = some none
  mx : mg x = some (.ref C)
  ex : ∃ (fI : Addr) (fd : FuncData) (ps : List Str), PySem.W.findIn K (.ref C) "__init__" = some (some (.ref fI)) ∧ PySem.W.typeIn K (.ref fI) = some (.type "function") ∧ Binds K fd ps [] ∧ FnOk P w K mg base CX0 k fI fd ps (spXI C f)
  xf : XfC K C
  ec : ExcC K C
end
section
variable {X : Cx} {k : Nat} {C : Addr} {x f : Str} {W : WX} {e : Expr} {te : TE} {p pos rpos : Pos}
theorem ps_raiseX (G : Xcl X.prog X.w X.K X.mg X.base k x C f) (hr : Room (k + 1) X.A) (tk : Takes X W) (he : PE X e te) (hc : X.calm = true := by rfl) (hg : Gl X x := by rfl) (hdb : (x == ("__debug__" : Str)) = false := by decide)
    (se : starEach [e] X.env = (false, eval e X.env) :: starEach [] X.env := by rfl) (sn : (backTo pos (starEach [] X.env)).any (·.1) = false := by rfl) :
    PS X (.Raise (some (.Call (.Name x p) [e] [] pos)) none rpos) (fun _ σ H => tMkO C (spXI C f) [] (tCons te tNil) σ H fun cls d H' => W cls d σ H') := by
  obtain ⟨fI, fd, ps, h1, h2, h3, h4⟩ := G.ex
  exact ps_raise hc tk (pmk_oex G.T h1 h2 h4 hr h3 .nil pass0 hg G.mx (pa_cons he pa_nil (hs := se)) hdb se sn)
/-- the error's own dict is new -/
theorem raise_of {v : V} {H : Hp} {Q : XK} (h : ∀ d, H d = none → Q (.ref C) (some d) (upd H d (.xd [(f, v)]))) : ([v] : List V).length ≤ 1000 ∧ ∀ a, H a = none → spXI C f (.ref a :: ([v] ++ [])) (upd H a (exo a C none))
    (fun z H2 => z = .non ∧ ∃ (d : Addr) (fs : List (Str × V)), H2 a = some (exo a C (some d)) ∧ H2 d = some (exd d fs) ∧ H d = none ∧ Q (.ref C) (some d) (upd (del H2 a) d (.xd fs))) (fun _ _ _ => False) := by
  refine ⟨(by show 1 ≤ 1000; decide), fun a ha => ⟨a, v, rfl, upd_same, fun dx hd ne => ⟨rfl, dx, [(f, v)], upd_same, ?_, ?_, ?_⟩⟩⟩
  · rw [upd_ne ne, upd_same]
  · rw [upd_ne ne] at hd
    exact hd
  · rw [upd_ne ne] at hd
    have e : upd (del (upd (upd (upd H a (exo a C none)) dx (exd dx [(f, v)])) a (exo a C (some dx))) a) dx (.xd [(f, v)]) = upd H dx (.xd [(f, v)]) := by
      funext b
      by_cases h1 : b = dx
      · rw [h1, upd_same, upd_same]
      · rw [upd_ne h1, upd_ne h1]
        by_cases h2 : b = a
        · rw [h2, del_same, ha]
        · rw [del_ne h2, upd_ne h2, upd_ne h1, upd_ne h2]
    rw [e]
    exact h dx hd
end
/-! ### isinstance(e, c) of a caught error that has its dict -/
section
variable {prog : Program} {w : World} {A : Around} {E : Value → Shared → Prop} {s : Shared} {K : PySem.W.Frag} {z D : Addr} {oz : Obj} {od : Option Obj}
open PySem.W in
theorem clsE {Q : Option Value → Shared → Prop} (C : ExcC K D) (kin : K.In s.heap) (I : InstAt s.heap z oz D od) (h : Q (some (.ref D)) { s with toks := s.toks + 1 }) : wpAny (model prog w) A (getAttr? (.ref z) "__class__") Q E s := by
  have isc : (clsIn K D).isSome = true := by
    obtain ⟨cd, hc, _⟩ := any_some C.hd
    rw [hc]
    rfl
  have found : findObj K D od "__class__" = some (.bind (.builtin "getset_descriptor.__get__") (.builtin "object.__class__")) := by
    cases od with
    | none => exact findObj_dataN isc C.ha C.hn C.ht
    | some o => exact findObj_data isc C.ha C.hn C.ht
  obtain ⟨hh, gg, dd, tt, oo⟩ := s
  have T0 := I.type (M := model prog w)
  have T1 := looks_findIn (M := model prog w) kin C.hg
  have T2 := looks_findIn (M := model prog w) kin C.hk
  have T3 := looks_find (M := model prog w) kin I found
  have isB : Looks (model prog w) hh (isInstance (.ref z) (.type "BaseException")) true := T0.andThen (looks_subIn kin C.hs)
  have n2 : (Value.builtin "BaseException.__getattribute__" == Value.builtin "object.__getattribute__") = false := by
    decide +kernel
  have n1 : (onTheHeap (Value.ref D) && Value.builtin "BaseException.__getattribute__" == Value.builtin "object.__getattribute__") = false := by
    rw [n2]
    rfl
  unfold getAttr?
  unfold getAttrBy?
  unfold getAttrBy
  refine wpAny_bind (wpAny_mkText (wpAny_bind (wpAny_attempt (wpAny_holding (wpAny_bind (T0.at (wpAny_bind (T1.at ?_))))))))
  show wpAny _ _ (ite ((onTheHeap (Value.ref D) && Value.builtin "BaseException.__getattribute__" == Value.builtin "object.__getattribute__") = true) _ _) _ _ _
  rw [n1]
  rw [if_neg Bool.false_ne_true]
  unfold getAttrByItsOwn
  unfold hookBefore
  refine wpAny_bind ?_
  rw [if_pos (show onTheHeap (.ref D) = true from rfl)]
  refine T2.at (wpAny_bind (wpAny_attempt (wpAny_holding ?_)))
  unfold callGetattribute
  rw [show (false && onTheHeap (Value.builtin "BaseException.__getattribute__")) = false from rfl]
  rw [if_neg Bool.false_ne_true]
  unfold boundAndCalled
  rw [PySem.F.excAttr_ValueError.ga.bind (.ref z)]
  refine wpAny_bind (wpAny_pure ?_)
  show wpAny _ _ (call (.builtin "BaseException.__getattribute__") [.ref z, .str "__class__" tt]) _ _ _
  refine wpAny_call (codeAny_call_builtin PySem.F.excAttr_ValueError.ga.plain PySem.F.entry_bexc_ga (@check_slot (model prog w) _ _ ⟨hh, gg, dd, tt + 1, oo⟩ "BaseException.__getattribute__" "BaseException" "__getattribute__" (.ref z) [.str "__class__" tt] [] _ (by decide +kernel) (by decide +kernel) isB (PySem.F.args_bexc_ga (.ref z) (.str "__class__" tt)) ?_))
  unfold Builtin.«object.__getattribute__»
  refine wpAny_bind (wpAny_of_eq (a := ((Value.ref z : Value), [Value.str "__class__" tt])) (by first | rfl | (simp only [slotArgs]; rfl)) ?_)
  refine wpAny_bind (wpAny_pure (wpAny_bind (T0.at (wpAny_bind (T3.at ?_)))))
  show wpAny _ _ (holding [Value.builtin "object.__class__"] (call (.builtin "getset_descriptor.__get__") [.builtin "object.__class__", .ref z, .ref D]) >>= ret) _ _ _
  refine wpAny_bind (wpAny_holding (wpAny_call (class_get (s := ⟨hh, gg, dd, tt + 1, oo⟩) (ox := oz) (od := od) kin I C.hm (wpAny_pure ?_))))
  show wpAny _ _ (handedOut (.ref D)) _ _ _
  rw [handedOut_of (v := .ref D) rfl]
  first
    | exact wpAny_pure (wpAny_pure h)
    | exact wpAny_pure h
    | exact wpAny_pure (wpAny_bind (wpAny_pure (wpAny_pure h)))
open PySem.W in
theorem kitE (C : ExcC K D) : KitX K (.ref z) (.ref D) (fun h => ∃ od, InstAt h z oz D od) where
  ty := fun _ _ _ ⟨_, I⟩ => I.type
  it := fun _ _ kin _ => by
    obtain ⟨cd, hc, _⟩ := any_some C.hd
    unfold clsIn at hc
    split at hc
    · rename_i ho
      intro A' Q' E' s' kp q
      unfold isType loadHead
      exact wpAny_bind (wpAny_loadPart (kp _ _ (kin _ _ ho)) (wpAny_pure q))
    · cases hc
  ne := fun h tp dd its n sl kin htp => by
    obtain ⟨cd, hc, _⟩ := any_some C.hd
    rw [Bool.eq_false_iff]
    intro q
    cases (Value.ref.inj (beq_iff_eq.mp q) : D = tp)
    unfold clsIn at hc
    split at hc
    · rename_i ho
      cases (kin _ _ ho).symm.trans htp
    · cases hc
  ca := fun kin ⟨_, I⟩ q => clsE C kin I q
end
/-- isinstance(e, c) in a suite: a the error, cls its class, d its dict -/
def rIsD (K : PySem.W.Frag) (D a : Addr) (cls : Value) (d : Option Addr) : List V → Hp → VK → Prop := fun xs H Q => ∃ (c : V) (cv : Value) (b : Bool) (dd : Addr) (fs : List (Str × V)), xs = [.ref a, c] ∧ (∀ u, RelV c u → u = cv) ∧ cls = .ref D ∧ d = some dd ∧ H dd = some (.xd fs) ∧ PySem.W.kitOne K (.ref D) cv = some b ∧ Q (.bl b) H
theorem call_isD {X : Cx} {a D : Addr} {oe : Obj} {cls : Value} {d : Option Addr} {pn : List (Addr × Obj)} (C : ExcC X.K D) (hz : Zc cls d oe) (hf : ∃ vs, oe.data = .fields vs) : CallR (X.suite a ((a, oe) :: pn)) (.builtin "isinstance") (rIsD X.K D a cls d) := by
  intro pins s σ H xs us Q I r h
  obtain ⟨c, cv, b, dd, fs, rfl, hcv, rfl, rfl, ed, e, q⟩ := h
  cases r with
  | cons rx rr =>
    cases rr with
    | cons rt rr =>
      cases rr
      cases rx
      cases hcv _ rt
      obtain ⟨at_, _⟩ := I.pin (a, oe) (List.mem_append.mpr (.inl List.mem_cons_self))
      obtain ⟨vs, hv⟩ := hf
      obtain ⟨mA, hns, _⟩ := (show ObjOk X.prog X.w H s.heap dd (.xd fs) from I.hok dd _ ed)
      obtain ⟨od, ho, _⟩ := lookIn_ns hns
      have J : PySem.W.InstAt s.heap a oe D (some od) := ⟨at_, hz.1, by unfold PySem.W.notCls; rw [hv] <;> rfl, by rw [hz.2]; exact ho⟩
      exact PySem.W.kia_one (kitE C) I.kIn ⟨_, J⟩ e (fun z => nomatch z) fun tk => ⟨.bl b, H, I.kept (t' := tk) fun _ _ z => z, rfl, q⟩
/-! ### repr of any data, an empty dict among it -/
/-- data, or an empty dict -/
inductive Dq (K : PySem.W.Frag) (H : Hp) : V → PyData → Prop
  | dat {v : V} {d : PyData} : Dp K H v d → Shw d → d.depth ≤ 40 → cost d ≤ sizeLine → Dq K H v d
  | emp {a : Addr} : H a = some (.dK []) → Dq K H (.ref a) (.dict [])
theorem empty_reads {X : Cx} {pins : List (Addr × Obj)} {σ : L2.St} {H : Hp} {s : Shared} {a : Addr} (I : Inv X pins σ H s) (e : H a = some (.dK [])) : Reads s.heap (.ref a) (.dict []) (a :: [] ++ []) ∧ a ≠ sysModules := by
  obtain ⟨_, ns, vs, kv, o, es, ep, h1, h2, h3, _, h5, _⟩ := (show ObjOk X.prog X.w H s.heap a (.dK []) from I.hok a _ e)
  cases kv
  have e0 : es.toList = [] := by
    cases q : es.toList with
    | nil => rfl
    | cons y ys =>
      rw [q] at h5
      cases h5
  refine ⟨.dict h1 h2.1 h3 ?_ ?_, fun z => ?_⟩
  · rw [e0]
    exact .nil
  · rw [e0]
    exact .nil
  · rw [z] at ns
    simp at ns
def rRepV (K : PySem.W.Frag) : List V → Hp → VK → Prop := fun xs H Q => ∃ v d, xs = [v] ∧ Dq K H v d ∧ Q (.str d.shown) H
theorem call_reprV {X : Cx} {K : PySem.W.Frag} (hk : X.K = K) (g : X.A.guards = some []) (hu : X.A.units + 64 < cLine) : CallR X (.builtin "repr") (rRepV K) := by
  subst hk
  intro pins s σ H xs us Q I r h
  obtain ⟨v, d, rfl, hd, q⟩ := h
  obtain ⟨u, rfl, ru⟩ := r.one
  cases hd with
  | emp e =>
    cases (show u = Value.ref _ from ru)
    obtain ⟨rd, ns⟩ := empty_reads I e
    refine repr_of_reads' rd (by decide +kernel) (fun _ z => ns (List.mem_singleton.mp z).symm) g ?_ (fun _ _ e => e) (fun h' u tk hk => ⟨.str _, H, I.kept hk, ⟨_, rfl⟩, q⟩) (by decide +kernel)
    have : (PyData.dict []).depth ≤ 2 := by decide +kernel
    omega
  | dat hp hs hd hc =>
    obtain ⟨h1, h2, h3⟩ := Shw.all d hs
    have fin : ∀ h' t' tk, (∀ b o, s.heap.get? b = some o → h'.get? b = some o) → EP X pins σ Q (.str d.shown t') { s with heap := h', toks := tk } := fun h' t' tk hk => ⟨.str d.shown, H, I.kept hk, ⟨_, rfl⟩, q⟩
    have ref_ : ∀ a : Addr, v = .ref a → wpAny (model X.prog X.w) X.A (call (.builtin "repr") [u]) (EP X pins σ Q) X.xe s := fun a ea => by
      subst ea
      obtain ⟨as, rd⟩ := Dp.reads I d _ _ hp ru
      cases (show u = Value.ref a from ru)
      exact repr_of_reads' rd h2 (fun z => by rw [h3] at z; cases z) g (by omega) (fun _ _ e => e) fin (Nat.le_trans h1 hc)
    cases hp with
    | non =>
      cases (show u = Value.none from ru)
      refine PySem.P.repr_of_none ⟨.str _, H, I.tok _, ⟨_, rfl⟩, ?_⟩
      simp only [PyData.shown] at q
      exact q
    | bl b =>
      cases (show u = Value.bool b from ru)
      refine PySem.P.repr_of_bool ⟨.str _, H, I.tok _, ⟨_, rfl⟩, ?_⟩
      simp only [PyData.shown] at q
      exact q
    | int i =>
      obtain ⟨t, rfl⟩ := (show ∃ t, u = Value.int i t from ru)
      simp only [Shw] at hs
      refine PySem.P.repr_of_int hs ⟨.str _, H, I.tok _, ⟨_, rfl⟩, ?_⟩
      simp only [PyData.shown] at q
      exact q
    | str x =>
      obtain ⟨t, rfl⟩ := (show ∃ t, u = Value.str x t from ru)
      simp only [PyData.shown] at q h1
      exact PySem.P.repr_of_str ⟨.str _, H, I.tok _, ⟨_, rfl⟩, q⟩ (Nat.le_trans h1 hc)
    | lst _ _ => exact ref_ _ rfl
    | tup _ _ => exact ref_ _ rfl
end LL

set_option Elab.async false
set_option linter.all false
set_option maxRecDepth 100000
set_option maxHeartbeats 2000000
/-! LLLam: x(lambda: body), with no repr under way; LamX's own layer for it lacks that. -/
namespace LL
open PySem PySem.Spec PyProof.Rows L2 LamX
section
variable {X : Cx} {pins : List (Addr × Obj)} {σ : L2.St} {H : Hp} {s : Shared}
/-- the call of the lambda, in the def that got it -/
theorem pe_run {CXg : CXT} {Eg : XK} {Ng : List Str} {qg : Str} {sg : Scope} {g f c' : Addr} {cdg pm ctv : Value} {params : Arguments} {body : Expr} {scope : Scope} {k i : Nat} {y : Str} {pn : List (Addr × Obj)} {xe : Value → Shared → Prop} {W : WX} {E : XK} {tb : TE} {p1 p2 : Pos}
    (I : Inv X pins σ H s) (L : LamS X.env.scope scope) (of : s.heap.get? f = some (PySem.W.kla_obj "<lambda>" (X.env.qual ++ "<lambda>") params body scope (cloFrom X.env.cells scope.names []) pm c' ctv)) (fn : H f = none) (fo : f ∉ frs X.stack)
    (ba : bindArgs (PySem.W.kla_fn "<lambda>" (X.env.qual ++ "<lambda>") params body scope (cloFrom X.env.cells scope.names []) pm (.ref c') ctv) ⟨[], []⟩ = pure [])
    (tk : Takes ((cxOf CXg X.prog X.w X.K X.mg X.base Ng qg sg g cdg X.A X.stack s H Eg).tr pn xe) W) (hr : Rm (k + 1) (X.A.deeper (envOfC qg sg s.heap.objs.size g cdg)))
    (hb : ∀ (A : Around) (outer : List Env) (s : Shared) (H : Hp), Rm k (A.deeper (lamEnv X scope s.heap.objs.size f c')) → PE (lamCx X A outer s H E scope f c') body tb)
    (hN : Ng[i]? = some y) (hv : Vis sg y) (hd : (y == ("__debug__" : Str)) = false := by decide) (hcd : (y == ("__classdict__" : Str)) = false := by decide) :
    PE ((cxOf CXg X.prog X.w X.K X.mg X.base Ng qg sg g cdg X.A X.stack s H Eg).tr pn xe) (.Call (.Name y p1) [] [] p2)
      (fun τ G Q => τ[i]? = some (some (.ref f)) ∧ G c' = some (CodeO c' (X.env.qual ++ "<lambda>")) ∧ (∀ cls d G', E cls d G' → W cls d τ G') ∧ tb σ G Q) := by
  constructor
  intro pz sz τ G Q J h
  obtain ⟨h1, h2, hW, h3⟩ := h
  have look := (pe_var (pos := p1) (i := i) hN hv hd hcd).run pz sz τ G (fun v G1 => v = .ref f ∧ G1 = G) J ⟨.ref f, h1, rfl, rfl⟩
  refine wpAny_Call_Name_kw (thn look fun u s1 z => ?_)
  obtain ⟨v, G1, J1, rv, rfl, rfl⟩ := z
  cases (show u = Value.ref f from rv)
  have of1 := J1.base.keep f _ of fn fo (fun z => nomatch (show f ∈ ([] : List Addr) from z))
  refine PySem.W.callWith_F0 ⟨_, _, _, _, of1⟩ ?_
  obtain ⟨⟨oc, vs, t, co1, co2, co3⟩, _, _⟩ := J1.hok c' _ h2
  have run : codeAny (model X.prog X.w) (X.A.deeper (envOfC qg sg s.heap.objs.size g cdg)) (.call (.ref f) ⟨[], []⟩) (CR (L2.CX X.prog X.w) (envOfC qg sg s.heap.objs.size g cdg :: X.stack) X.prog X.w G1 s1 Q E) s1 := by
    refine PySem.W.kla_callFunE hr.r.depth of1 rfl L.co L.gen rfl ⟨c', oc, vs, t, rfl, co1, co2, co3⟩ ?_
    rw [ba]
    refine wpAny_pure (wpAny_newFunctionEnv (fun n hn => (L.own n hn).2) (fun n hn => absurd hn (by simp)) (fun h₁ ns1 sb => ⟨J1.nolimit.fresh _ sb, ?_⟩) L.kind)
    show codeAny _ _ (.expr body (lamEnv X scope s1.heap.objs.size f c')) _ _
    have kp : ∀ b o, s1.heap.get? b = some o → h₁.get? b = some o := fun b o e => sb.extBut b o (Nat.ne_of_lt (Heap.lt_size e)) (Heap.get?_push_of_some _ e)
    have S : Inv (lamCx X (X.A.deeper (envOfC qg sg s.heap.objs.size g cdg)) (envOfC qg sg s.heap.objs.size g cdg :: X.stack) s1 G1 E scope f c') [] σ G1 { s1 with heap := h₁, toks := s1.toks + ([] : List (Str × Value)).length } :=
      lam_start2 I L J1.env0 hr.r.hd J1.base ns1 kp
    refine PySem.W.kla_codeExpr (wpAny_mono ((hb _ _ s1 G1 (hr.deeper _)).run [] _ _ G1 Q S h3) (fun v s2 z => ?_) fun _ _ z => z)
    obtain ⟨w', G2, S2, rv2, q⟩ := z
    exact ⟨w', G2, S2.os, S2.bare, S2.base, S2.hok, rv2, q⟩
  refine wpAny_call (codeAny_mono run fun r s2 z => ?_)
  match r, z with
  | .error e, z => exact tk _ _ (XE.of_call J1 hW z)
  | .ok (.ret u), z => exact J1.after z
  | .ok .next, z => exact z.elim
  | .ok .brk, z => exact z.elim
  | .ok .cont, z => exact z.elim
end
/-- the def x that calls what it got by its one name y: TT is what it makes of the lambda's reading -/
def Gives (X : Cx) (k : Nat) (Ng : List Str) (x : Str) (sg : Scope) (g : Addr) (cdg : Value) (bg : List Stmt) (y : Str) (q : Str) (TT : (XK → Hp → VK → Prop) → Hp → VK → Prop) : Prop :=
  ∀ (f c' : Addr) (s : Shared) (H : Hp) (Q : VK) (tl : XK → Hp → VK → Prop), Rm k (X.A.deeper (envOfC x sg s.heap.objs.size g cdg)) →
    (∀ (W : WX) (pn : List (Addr × Obj)) (xe : Value → Shared → Prop) (E : XK) (p1 p2 : Pos), Takes ((cxOf CX0 X.prog X.w X.K X.mg X.base Ng x sg g cdg X.A X.stack s H E0).tr pn xe) W →
      PE ((cxOf CX0 X.prog X.w X.K X.mg X.base Ng x sg g cdg X.A X.stack s H E0).tr pn xe) (.Call (.Name y p1) [] [] p2) (fun τ G Q => τ[0]? = some (some (.ref f)) ∧ G c' = some (CodeO c' q) ∧ (∀ cls d G', E cls d G' → W cls d τ G') ∧ tl E G Q)) →
    H c' = some (CodeO c' q) → TT tl H Q →
    ∃ t, PSs (cxOf CX0 X.prog X.w X.K X.mg X.base Ng x sg g cdg X.A X.stack s H E0).nox bg t ∧ t { nx := fun _ H' => Q .non H', rt := Q } (L2.start Ng [.ref f]) H
/-- the def x, as one fact: it calls what it gets, and makes TT of it -/
structure Taker (P : Program) (w : World) (K : PySem.W.Frag) (mg : Str → Option Value) (base : Heap) (k : Nat) (x y : Str) (TT : (XK → Hp → VK → Prop) → Hp → VK → Prop) : Prop where
  ex : ∃ (g : Addr) (fd : FuncData) (pg : Arguments) (bg : List Stmt) (sg : Scope) (Ng : List Str), mg x = some (.ref g) ∧ FunD K x x pg bg sg [] [] g fd ∧ FnScope Ng [y] sg ∧ Ng[0]? = some y ∧ Vis sg y ∧ Binds K fd [y] [] ∧
    ∀ (X : Cx) (cdg : Value) (q : Str), X.prog = P → X.w = w → X.K = K → X.mg = mg → X.base = base → Gives X k Ng x sg g cdg bg y q TT
section
variable {X : Cx}
/-- x(lambda: body) -/
theorem pe_lamG {T : List (Addr × Str)} {TT : (XK → Hp → VK → Prop) → Hp → VK → Prop} {x y : Str} {c P : Addr} {k : Nat} {params : Arguments} {body : Expr} {scope : Scope} {t : XK → TE} {p lpos pos : Pos} (G : Taker X.prog X.w X.K X.mg X.base (k + 1) x y TT)
    (TB : TabB X.base X.mg c P) (hcode : X.env.code = .ref c) (hmT : (P, X.env.qual ++ "<lambda>") ∈ T) (hu : ∀ p ∈ T, p.1 = P → p.2 = X.env.qual ++ "<lambda>") (hr : Rm (k + 2) X.A) (L : LamS X.env.scope scope)
    (hbody : ∀ (A : Around) (outer : List Env) (s : Shared) (H : Hp) (E : XK) (f c' : Addr), Rm k (A.deeper (lamEnv X scope s.heap.objs.size f c')) → PE (lamCx X A outer s H E scope f c') body (t E)) (hg : Gl X x := by rfl)
    (hdef : defaultsOf params X.env = ([], []) := by rfl) (hbind : ∀ (q : Str) (cl : List (Str × Addr)) (pm cv ctv : Value), bindArgs (PySem.W.kla_fn "<lambda>" q params body scope cl pm cv ctv) ⟨[], []⟩ = pure [] := by intros; rfl)
    (hdb : (x == ("__debug__" : Str)) = false := by decide) (hd : (y == ("__debug__" : Str)) = false := by decide) (hcd : (y == ("__classdict__" : Str)) = false := by decide) :
    PE X (.Call (.Name x p) [.Lambda params body scope lpos] [] pos) (tLam T TT t) := by
  obtain ⟨g, fd, pg, bg, sg, Ng, hm, FF, Sg, hNg, hva, hb, hG⟩ := G.ex
  obtain ⟨oc, od, dV, kV, doc, pm, an, cdv, ct, osl, rfl, lk, hcg, _, _⟩ := FF.ex
  constructor
  intro pins s σ H Q I h
  obtain ⟨hT, h⟩ := h
  refine wpAny_Call_Name_kw (ld_glob I hg hm (PySem.W.callWith_K (h₀ := X.base) I.ok.mod.kin FF.kp ?_ (by rfl) (by rfl)) hdb)
  show wpAny _ _ (spliced ((false, eval (.Lambda params body scope lpos) X.env) :: backTo pos (starEach [] X.env))) _ _ s
  refine Calls.spliced_cons (lam_make2 I TB hcode hmT hu hT hdef (L.has I.ok) fun f c' pm' ctv H1 s1 I1 eN T1 of fn fo co => Calls.spliced_nil ⟨I1.kIn, ?_⟩)
  have run : codeAny (model X.prog X.w) X.A (.call (.ref g) ⟨[.ref f], []⟩) (CR CX0 X.stack X.prog X.w H1 s1 Q E0) s1 := by
    refine run_ofS (N := Ng) (ps := [y]) (us := [.ref f]) (vs := [.ref f]) lk hcg Sg hr.r I1.env0 (hb s1 [.ref f] I1.kIn rfl) (.cons rfl .nil) rfl fun _ => ?_
    have hr1 : Rm (k + 1) (X.A.deeper (envOfC x sg s1.heap.objs.size g cdv)) := hr.deeper _
    obtain ⟨t', ht, hq⟩ := hG X cdv (X.env.qual ++ "<lambda>") rfl rfl rfl rfl rfl f c' s1 H1 Q (fun E H' Q' => t E σ H' Q') hr1
      (fun W pn xe E p1 p2 tk => pe_run (i := 0) I1 L of fn fo (hbind _ _ _ _ _) tk hr1 (fun A outer s H hr2 => hbody A outer s H E f c' hr2) hNg hva hd hcd) co (h H1 eN T1)
    exact ⟨t', ht.nox, hq⟩
  refine wpAny_call (codeAny_mono run fun r s2 z => ?_)
  match r, z with
  | .error e, z => exact (show False from z).elim
  | .ok (.ret u), z => exact I1.after z
  | .ok .next, z => exact z.elim
  | .ok .brk, z => exact z.elim
  | .ok .cont, z => exact z.elim
end
end LL

set_option Elab.async false
set_option linter.all false
set_option maxRecDepth 100000
set_option maxHeartbeats 2000000
/-! LLTab: the law's end, and the head's Hook, where some defs make lambdas (tables of code objects). -/
namespace LL
open PySem PySem.Spec PyProof.Rows L2 LamX
/-! ### a def by its body, its code object known -/
section
variable {P : Program} {w : World} {K : PySem.W.Frag} {mg : Str → Option Value} {base : Heap} {CX : CXT} {k : Nat} {f : Addr} {fd : FuncData} {ps : List Str} {sp : Sp}
theorem okC {x qual : Str} {params : Arguments} {body : List Stmt} {scope : Scope} {dvs : List V} {kws : List (Str × V)} {N : List Str} (F : FunD K x qual params body scope dvs kws f fd) (S : FnScope N ps scope) (len : ∀ vs H Q E, sp vs H Q E → vs.length = ps.length)
    (hbody : ∀ (cdv : Value), (fdAt K f).map FuncData.code = some cdv → ∀ (A : Around) (outer : List Env) (s : Shared) (H : Hp) (vs : List V) (Q : VK) (E : XK), Rm k (A.deeper (envOfC qual scope s.heap.objs.size f cdv)) → sp vs H Q E →
      ∃ t, PSs (cxOf CX0 P w K mg base N qual scope f cdv A outer s H E).nox body t ∧ t { nx := fun _ H' => Q .non H', rt := Q } (L2.start N vs) H) : FnG P w K mg base CX0 (k + 1) f fd ps sp := by
  obtain ⟨oc, od, dV, kV, doc, pm, an, cdv, ct, osl, rfl, lk, hcd, _, _⟩ := F.ex
  have ec : (fdAt K f).map FuncData.code = some cdv := by
    unfold fdAt
    rw [lk]
    rfl
  refine ⟨len, fun A outer s H args us vs Q E hr e0 hb r hsp => ?_⟩
  refine LamX.run_ofS (CX := CX0) lk hcd S hr.r e0 hb r (len _ _ _ _ hsp) fun _ => ?_
  obtain ⟨t, ht, q⟩ := hbody cdv ec A outer s H vs Q E (hr.deeper _) hsp
  exact ⟨t, ht.nox, q⟩
end
/-- the code object of the def at a, its table -/
def cOf (K : PySem.W.Frag) (a : Addr) : Addr := match (fdAt K a).map FuncData.code with
  | some (Value.ref c) => c
  | _ => 0
theorem cOf_of {K : PySem.W.Frag} {a c : Addr} (e : (fdAt K a).map FuncData.code = some (Value.ref c)) : cOf K a = c := by
  unfold cOf
  rw [e]
def tOf (K : PySem.W.Frag) (a : Addr) : Addr := He.tabOf K (cOf K a)
/-! ### the law's call -/
section
variable {P : Program} {w : World} {K : PySem.W.Frag} {mg mb : Str → Option Value} {CX : CXT} {k : Nat} {fa a : Addr} {fd : FuncData} {x : Str} {sp : Sp} {t : Shared} {us : List Value} {ns : List Int} {cs : List (Addr × Addr)}
/-- an empty table -/
abbrev tab0 : Obj := { cls := .none, data := .fields #[] }
theorem lawAtT {H : Hp} (KX : K.In t.heap) (hns : t.heap.Ns mainGlobals mg) (hb : t.heap.Ns builtinsNs mb) (hbb : ∀ x : Str, x ≠ "__name__" → mb x = bootBuiltins x) (hlim : t.heap.NoLimit) (hg : t.gens = #[])
    (tT : ∀ p ∈ cs, t.heap.get? p.2 = some tab0) (tK : ∀ p ∈ cs, K.lookup p.2 = none) (tC : ∀ p ∈ cs, PySem.W.codeHdIn K p.1 p.2 = true)
    (bm : ∃ (m : Addr) (om : Obj), mg "__builtins__" = some (.ref m) ∧ m ≠ builtinsNs ∧ t.heap.get? m = some om ∧ om.cls = .type "module" ∧ om.dict = some builtinsNs ∧ om.data = .plain)
    (ha : t.heap.get? a = some { cls := .type "list", data := .seq us.toArray }) (hr : Rm k callerA) (F : ∀ base : Heap, K.In base → base.Ns mainGlobals mg → (∀ p ∈ cs, TabB base mg p.1 p.2) → FnG P w K mg base CX k fa fd [x] sp)
    (bd : ∀ (s : Shared) (u : Value), BindsTo s fd ⟨[u], []⟩ [(x, u)]) (hsp : sp [.ref a] H (fun v _ => v = .bl true) fun _ _ _ => False) (hCX : ∀ e s', CX [] H t (fun _ _ _ => False) e s' → False)
    (only : ∀ b, H b = none ∨ (b = a ∧ K.lookup a = none ∧ ∃ o l, H b = some (.frz o (.lst l))) ∨ ∃ p ∈ cs, b = p.2 ∧ H b = some (.tbl #[])) (hok : HOk P w H t.heap) : codeAny (model P w) callerA (.call (.ref fa) ⟨[.ref a], []⟩) (LawEnd t) t := by
  -- what is neither a list nor a table is free
  have free : ∀ {b : Addr} {o : Obj}, t.heap.get? b = some o → (∀ vs m, o.data ≠ .seq vs m) → (o.data ≠ .fields #[]) → H b = none := fun {b o} e n1 n2 => by
    rcases only b with z | ⟨rfl, _, _⟩ | ⟨p, hp, rfl, _⟩
    · exact z
    · rw [ha] at e
      cases e
      exact (n1 _ _ rfl).elim
    · rw [tT p hp] at e
      cases e
      exact (n2 rfl).elim
  have nsB : ∀ {b : Addr} {m : Str → Option Value}, t.heap.Ns b m → (hidT t.heap H).Ns b m := by
    rintro b m ⟨o, es, ep, e, d, r⟩
    refine ⟨o, es, ep, hidT_get e (free e (fun vs m z => ?_) fun z => ?_), d, r⟩ <;> rw [d] at z <;> cases z
  have kB : K.In (hidT t.heap H) := by
    intro b o e
    refine hidT_get (KX b o e) ?_
    rcases only b with z | ⟨z, q, _⟩ | ⟨p, hp, z, _⟩
    · exact z
    · rw [z, q] at e
      cases e
    · rw [z, tK p hp] at e
      cases e
  have TB : ∀ p ∈ cs, TabB (hidT t.heap H) mg p.1 p.2 := fun p hp => by
    refine ⟨PySem.W.codeHd_of_K kB (tC p hp), ?_, fun z => ?_⟩
    · obtain ⟨m, om, m1, m2, m3, m4, m5, m6⟩ := bm
      refine ⟨m, om, m1, m2, fun z => ?_, fun z => ?_, hidT_get m3 (free m3 (fun vs n z => ?_) fun z => ?_), m4, m5, m6⟩
      · obtain ⟨o, es, ep, e, d, _⟩ := hns
        rw [z, e] at m3
        cases m3
        rw [d] at m6
        cases m6
      · rw [z, tT p hp] at m3
        cases m3
        cases m6
      · rw [m6] at z
        cases z
      · rw [m6] at z
        cases z
    · obtain ⟨o, es, ep, e, d, _⟩ := hns
      rw [z, tT p hp] at e
      cases e
      cases d
  obtain ⟨ml, l1, l2⟩ := hlim
  have env : Env0 P w K mg (hidT t.heap H) callerA [] t H :=
    { frames := rfl
      mod := ⟨kB, nsB hns, ⟨mb, nsB hb, hbb⟩, ⟨ml, nsB l1, l2⟩⟩
      bs := fun _ _ e => of_hidT e
      bsz := Nat.le_of_eq (hidT_size _ _)
      funs := trivial
      frf := fun _ z => by cases (show _ ∈ ([] : List Addr) from z)
      hok := hok
      bare := .of_eq hg }
  have go := (F _ kB (nsB hns) TB).run callerA [] t H ⟨[.ref a], []⟩ [.ref a] [.ref a] _ _ hr env (bd t (.ref a)) (.cons rfl .nil) hsp
  refine codeAny_mono go fun r t' h => ?_
  match r, h with
  | .error e, h => exact (hCX e t' h).elim
  | .ok .next, h => exact False.elim h
  | .ok .brk, h => exact False.elim h
  | .ok .cont, h => exact False.elim h
  | .ok (.ret u), h =>
    obtain ⟨v, H', e1, e2, un, hok', rv, (rfl : v = .bl true)⟩ := h
    cases (show u = Value.bool true from rv)
    have key : ∀ b o, t.heap.get? b = some o → t'.heap.get? b = some o ∨ ∃ p ∈ cs, b = p.2 ∧ o = tab0 ∧ ∃ more : Array Value, t'.heap.get? b = some { cls := .none, data := .fields more } := fun b o e => by
      rcases only b with n | ⟨_, _, ob, l, z⟩ | ⟨p, hp, rfl, z⟩
      · exact .inl (un.keep b o e n (fun z => by cases (show b ∈ ([] : List Addr) from z)) (fun z => by cases z))
      · have z1 := (hok b _ z).1
        have z2 := (hok' b _ (un.frzs b ob _ z)).1
        rw [e] at z1
        cases z1
        exact .inl z2
      · obtain ⟨more, y⟩ := un.tbls p.2 #[] z
        have y2 := tT p hp
        rw [e] at y2
        exact .inr ⟨p, hp, rfl, Option.some.inj y2, _, hok' p.2 _ y⟩
    refine ⟨rfl, ⟨fun b o e => ?_, fun b o e => ?_⟩, e1, e2⟩
    · rcases key b o e with z | ⟨p, hp, rfl, rfl, more, z⟩
      · exact .inl z
      · exact .inr (.inl ⟨((PySem.W.codeHd_of_K KX (tC p hp)).tab (tT p hp)).isCodeTable, rfl, #[], more, rfl, by rw [Array.empty_append]; exact z⟩)
    · rcases key b o e with z | ⟨p, hp, rfl, rfl, more, z⟩
      · exact ⟨o, z⟩
      · exact ⟨_, z⟩
theorem lawT (KX : K.In t.heap) (hns : t.heap.Ns mainGlobals mg) (hb : t.heap.Ns builtinsNs mb) (hbb : ∀ x : Str, x ≠ "__name__" → mb x = bootBuiltins x) (hlim : t.heap.NoLimit) (hg : t.gens = #[])
    (tT : ∀ p ∈ cs, t.heap.get? p.2 = some tab0) (tK : ∀ p ∈ cs, K.lookup p.2 = none) (tC : ∀ p ∈ cs, PySem.W.codeHdIn K p.1 p.2 = true)
    (bm : ∃ (m : Addr) (om : Obj), mg "__builtins__" = some (.ref m) ∧ m ≠ builtinsNs ∧ t.heap.get? m = some om ∧ om.cls = .type "module" ∧ om.dict = some builtinsNs ∧ om.data = .plain)
    (ha : t.heap.get? a = some { cls := .type "list", data := .seq us.toArray }) (hi : IntsAre us ns) (hl : ns.length ≤ sizeLine) (hr : Rm k callerA) (F : ∀ base : Heap, K.In base → base.Ns mainGlobals mg → (∀ p ∈ cs, TabB base mg p.1 p.2) → FnG P w K mg base CX k fa fd [x] sp)
    (bd : ∀ (s : Shared) (u : Value), BindsTo s fd ⟨[u], []⟩ [(x, u)]) (hsp : ∀ H : Hp, (∀ p ∈ cs, H p.2 = some (.tbl #[])) → SqL K H a (ns.map V.int) → sp [.ref a] H (fun v _ => v = .bl true) fun _ _ _ => False) (hCX : ∀ H e s', CX [] H t (fun _ _ _ => False) e s' → False) :
    codeAny (model P w) callerA (.call (.ref fa) ⟨[.ref a], []⟩) (LawEnd t) t := by
  classical
  have rv := vals_ints hi
  have na : ∀ p ∈ cs, p.2 ≠ a := fun p hp z => by
    have e := tT p hp
    rw [z, ha] at e
    cases e
  let T : Hp := fun b => if ∃ p ∈ cs, b = p.2 then some (.tbl #[]) else none
  have T1 : ∀ p ∈ cs, T p.2 = some (.tbl #[]) := fun p hp => if_pos ⟨p, hp, rfl⟩
  have T2 : ∀ b u, T b = some u → (∃ p ∈ cs, b = p.2) ∧ u = .tbl #[] := fun b u e => by
    by_cases c : ∃ p ∈ cs, b = p.2
    · have e' : some (HO.tbl #[]) = some u := (if_pos c).symm.trans e
      exact ⟨c, (Option.some.inj e').symm⟩
    · have e' : none = some u := (if_neg c).symm.trans e
      cases e'
  have T3 : ∀ b, T b = none ∨ ∃ p ∈ cs, b = p.2 ∧ T b = some (.tbl #[]) := fun b => by
    by_cases c : ∃ p ∈ cs, b = p.2
    · obtain ⟨p, hp, e⟩ := c
      exact .inr ⟨p, hp, e, e ▸ T1 p hp⟩
    · exact .inl (if_neg c)
  have T4 : HOk P w T t.heap := fun b u e => by
    obtain ⟨⟨p, hp, rfl⟩, rfl⟩ := T2 b u e
    exact tT p hp
  cases q : K.lookup a with
  | none =>
    let o : Obj := { cls := .type "list", data := .seq us.toArray }
    have Ha : upd T a (.frz o (.lst (ns.map V.int))) a = some (.frz o (.lst (ns.map V.int))) := upd_same
    refine lawAtT (H := upd T a (.frz o (.lst (ns.map V.int)))) KX hns hb hbb hlim hg tT tK tC bm ha hr F bd (hsp _ (fun p hp => ?_) (.inl (.inr ⟨_, Ha⟩))) (hCX _) (fun b => ?_) fun b u z => ?_
    · rw [upd_ne (na p hp)]
      exact T1 p hp
    · by_cases c : b = a
      · exact .inr (.inl ⟨c, q, o, _, by rw [c]; exact Ha⟩)
      · rw [upd_ne c]
        exact (T3 b).imp id fun z => .inr z
    · by_cases c : b = a
      · subst c
        rw [Ha] at z
        cases z
        exact ⟨ha, by rw [List.length_map]; exact hl, us, _, rv, ha⟩
      · rw [upd_ne c] at z
        obtain ⟨⟨p, hp, rfl⟩, rfl⟩ := T2 b u z
        exact tT p hp
  | some o =>
    have e := KX a o q
    rw [ha] at e
    cases e
    refine lawAtT (H := T) KX hns hb hbb hlim hg tT tK tC bm ha hr F bd (hsp _ T1 (.inr ⟨_, us.toArray, _, q, rfl, rfl, rfl, ?_, by simpa using rv⟩)) (hCX _) (fun b => (T3 b).imp id fun z => .inr z) T4
    rw [List.size_toArray, hi.length]
    exact hl
end
/-- the goal that the head leaves, from the law's promise -/
theorem walkT {l : PySem.W.OpenLaw} {n k : Nat} {q : Program} {loose : List Str} {XP : (Str → Option Value) → Heap → Prop} {YP : World → Heap → Prop} {d : DefRec} {CX : CXT} {x : Str} (hn : l.most = some n) (hn2 : n ≤ sizeLine) (hdf : d.params.defaults = []) (hr : Rm k callerA)
    (F : ∀ (w : World) (mg : Str → Option Value) (fa : Addr) (h : Heap), YP w h → h.Ns mainGlobals mg → mg d.name = some (.ref fa) →
      ∃ (K : PySem.W.Frag) (fd : FuncData) (sp : Sp) (cs : List (Addr × Addr)), K.In h ∧ (∀ p ∈ cs, h.get? p.2 = some tab0) ∧ (∀ p ∈ cs, K.lookup p.2 = none) ∧ (∀ p ∈ cs, PySem.W.codeHdIn K p.1 p.2 = true) ∧ (∀ (s : Shared) (u : Value), BindsTo s fd ⟨[u], []⟩ [(x, u)]) ∧
        (∀ (H : Hp) (a : Addr) (ns : List Int), ns.length ≤ n → (∀ i ∈ ns, Builtin.Int.intBits i ≤ 1048576) → (∀ p ∈ cs, H p.2 = some (.tbl #[])) → SqL K H a (ns.map V.int) → sp [.ref a] H (fun v _ => v = .bl true) fun _ _ _ => False) ∧
        ∀ base : Heap, K.In base → base.Ns mainGlobals mg → (∀ p ∈ cs, TabB base mg p.1 p.2) → FnG l.prog w K mg base CX k fa fd [x] sp)
    (hCX : ∀ (H : Hp) (s : Shared) (e : Value) (s' : Shared), CX [] H s (fun _ _ _ => False) e s' → False) : PySem.W.WalkO q loose XP YP l.row.toRowW d [] (fun f vs => PySem.call f vs) := by
  refine Att.attach_callB hn hdf fun w _ t mg mb fa _ _ _ _ a us ns G Y _ _ _ hm ho hi hlen hbits hg => ?_
  obtain ⟨K, fd, sp, cs, KX, tT, tK, tC, bd, hs, hF⟩ := F w mg fa _ Y G.T.g hm
  exact lawT KX G.T.g G.T.b G.T.builtins G.T.nolimit hg tT tK tC G.T.bmain ho hi (Nat.le_trans hlen hn2) hr hF bd (fun H hT hS => hs H a ns hlen hbits hT hS) fun H e s' => hCX H t e s'
/-! ### the Hook -/
/-- what the module's names reach in n steps, and the statics -/
def asY (g : Addr → Option Obj) : Nat → List Addr
  | 0 => [mainGlobals, cStatics]
  | n + 1 => He.growD g (asY g n)
def frY (n : Nat) (g : Addr → Option Obj) : PySem.W.Frag := He.frT g (asY g n)
def tabY (g : Addr → Option Obj) (tf : List (PySem.W.Frag → Addr)) (K : PySem.W.Frag) : Bool := tf.all fun a => PySem.W.codeHdIn K (cOf K (a K)) (tOf K (a K)) && (g (tOf K (a K))).any He.emptyTab
abbrev AlT : Type := AlX × Bool
def obsTG (n : Nat) (ft : List Ft) (fn : List DefX) (tf : List (PySem.W.Frag → Addr)) (g : Addr → Option Obj) : AlT := (obsY ft fn (frY n g), tabY g tf (frY n g))
structure SaysT (ft : List Ft) (fn : List DefX) (tf : List (PySem.W.Frag → Addr)) (h : Heap) (K : PySem.W.Frag) : Prop where
  y : SaysY ft fn K
  hd : ∀ a ∈ tf, PySem.W.codeHdIn K (cOf K (a K)) (tOf K (a K)) = true
  out : ∀ a ∈ tf, K.lookup (tOf K (a K)) = none
  emp : ∀ a ∈ tf, h.get? (tOf K (a K)) = some tab0
theorem saysT_of {n : Nat} {ft : List Ft} {fn : List DefX} {tf : List (PySem.W.Frag → Addr)} {h : Heap} (e : obsTG n ft fn tf h.get? = (valY fn, true)) : SaysT ft fn tf h (frY n h.get?) := by
  have e1 : obsY ft fn (frY n h.get?) = valY fn := congrArg Prod.fst e
  have e2 : tabY h.get? tf (frY n h.get?) = true := congrArg Prod.snd e
  have key : ∀ a ∈ tf, PySem.W.codeHdIn (frY n h.get?) (cOf (frY n h.get?) (a (frY n h.get?))) (tOf (frY n h.get?) (a (frY n h.get?))) = true ∧ ∃ o, h.get? (tOf (frY n h.get?) (a (frY n h.get?))) = some o ∧ He.emptyTab o = true := fun a ha => by
    obtain ⟨h1, h2⟩ := He.ba (List.all_eq_true.mp e2 a ha)
    cases q : h.get? (tOf (frY n h.get?) (a (frY n h.get?))) with
    | none =>
      rw [q] at h2
      cases h2
    | some o =>
      rw [q] at h2
      exact ⟨h1, o, rfl, h2⟩
  refine ⟨e1, fun a ha => (key a ha).1, fun a ha => ?_, fun a ha => ?_⟩
  · obtain ⟨_, o, q, z⟩ := key a ha
    exact He.frT_none q z
  · obtain ⟨_, o, q, z⟩ := key a ha
    rw [q, He.emptyTab_eq z]
def hookT (n : Nat) (ft : List Ft) (fn : List DefX) (tf : List (PySem.W.Frag → Addr)) : PySem.W.Hook where
  α := AlT
  obs := fun s => obsTG n ft fn tf s.heap.get?
  val := fun _ => (valY fn, true)
  says := fun _ h => ∃ K : PySem.W.Frag, K.In h ∧ SaysT ft fn tf h K
  of := fun _ _ e => ⟨_, He.frT_in, saysT_of e⟩
  keeps := fun _ _ _ ⟨K, hK, c⟩ k => ⟨K, PySem.W.Frag.In.keeps hK k, ⟨c.y, c.hd, c.out, fun a ha => k _ _ (c.emp a ha)⟩⟩
theorem obsTG_eq {n : Nat} {ft : List Ft} {fn : List DefX} {tf : List (PySem.W.Frag → Addr)} {g : Addr → Option Obj} {s : Shared} (h : ∀ a, g a = s.heap.get? a) : obsTG n ft fn tf g = (hookT n ft fn tf).obs s := by
  cases (funext h : g = s.heap.get?)
  rfl
/-! ### an error class of the text, over ValueError -/
def oexB (K : PySem.W.Frag) (C : Addr) : Bool := match K.lookup C with
  | some ⟨.type c, _, .cls cd, sl⟩ => c == "type" && (match cd.mro, sl.toList with
    | .ref D :: bm, [_, _, _, _, some (.builtin n), _] => D == C && (n == "ValueError.__new__" && (!cd.hasDel && (cd.hasDict && PySem.HandSPX.refsVE bm)))
    | _, _ => false)
  | _ => false
theorem oexB_ok {K : PySem.W.Frag} {C : Addr} (h : oexB K C = true) : ∃ nm q N bs bm sn sub ab col dd k0 k1 k2 k3 k5, K.lookup C = some (excClassObj nm q C N bs bm true sn sub ab col dd k0 k1 k2 k3 k5 "ValueError.__new__") ∧ PySem.HandSPX.refsVE bm = true := by
  unfold oexB at h
  split at h
  · rename_i c dd cd sl lk
    obtain ⟨h1, h2⟩ := He.ba h
    split at h2
    · rename_i D bm k0 k1 k2 k3 n k5 hm hs
      obtain ⟨g1, g2⟩ := He.ba h2
      obtain ⟨g3, g4⟩ := He.ba g2
      obtain ⟨g5, g6⟩ := He.ba g4
      obtain ⟨g7, g8⟩ := He.ba g6
      obtain ⟨c1, c2, c3, c4, c5, c6, c7, c8, c9, c10, c11⟩ := cd
      have es : sl = #[k0, k1, k2, k3, some (.builtin n), k5] := by
        have : sl = sl.toList.toArray := by simp
        rw [this, hs]
      have e1 : c = "type" := beq_iff_eq.mp h1
      have e2 : D = C := beq_iff_eq.mp g1
      have e3 : n = "ValueError.__new__" := beq_iff_eq.mp g3
      have e4 : c11 = false := by simpa using g5
      have e5 : c6 = true := g7
      have e6 : c3 = .ref D :: bm := hm
      subst es e1 e2 e3 e4 e5 e6
      exact ⟨_, _, _, _, _, _, _, _, _, _, _, _, _, _, _, lk, g8⟩
    · cases h2
  · cases h
/-- all that is asked of an error class x with the field f -/
def fXcl (x f : Str) : Ft := fun K => oexB K (He.ga K x) && (He.eqO (PySem.W.findIn K (.ref (He.ga K x)) "__setattr__") (some (some (.builtin "object.__setattr__"))) && (decide (PySem.W.subIn K (.ref (He.ga K x)) (.type "BaseException") = some true) && (decide (PySem.W.typeIn K (.ref (He.ga K x)) = some (.type "type")) &&
  (PySem.W.keepIn K (.ref (He.ga K x)) && (He.eqO (PySem.W.findIn K (.ref (He.ga K x)) f) (some none) && (He.eqO (PySem.W.findIn K (.ref (He.ga K x)) "__init__") (some (some (.ref (mA x "__init__" K)))) && (decide (PySem.W.typeIn K (.ref (mA x "__init__" K)) = some (.type "function")) &&
  (xfB K (He.ga K x) && (He.eqO (PySem.W.findIn K (.ref (He.ga K x)) "__class__") (some (some (.builtin "object.__class__"))) && (He.eqO (PySem.W.specialIn K (.builtin "object.__class__") "__get__") (some (some (.builtin "getset_descriptor.__get__"))) && (decide (PySem.W.takesIn K (.builtin "object.__class__") = some true) && decide (PySem.W.mroIn K (He.ga K x) (.type "object") = some true))))))))))))
theorem fXcl_ok {P : Program} {w : World} {K : PySem.W.Frag} {mg : Str → Option Value} {base : Heap} {k : Nat} {x f : Str} {fd : FuncData} {ps : List Str} (c : fXcl x f K = true) (hm : mg x = some (.ref (He.ga K x))) (B : Binds K fd ps []) (F : FnOk P w K mg base CX0 k (mA x "__init__" K) fd ps (spXI (He.ga K x) f)) :
    Xcl P w K mg base k x (He.ga K x) f := by
  obtain ⟨c1, c⟩ := He.ba c
  obtain ⟨c2, c⟩ := He.ba c
  obtain ⟨c3, c⟩ := He.ba c
  obtain ⟨c4, c⟩ := He.ba c
  obtain ⟨c5, c⟩ := He.ba c
  obtain ⟨c6, c⟩ := He.ba c
  obtain ⟨c7, c⟩ := He.ba c
  obtain ⟨c8, c⟩ := He.ba c
  obtain ⟨c9, c⟩ := He.ba c
  obtain ⟨c10, c⟩ := He.ba c
  obtain ⟨c11, c⟩ := He.ba c
  obtain ⟨c12, c13⟩ := He.ba c
  have xf := xfB_ok c9
  exact ⟨⟨oexB_ok c1, He.eqO_ok c2, of_decide_eq_true c3, of_decide_eq_true c4, c5⟩, He.eqO_ok c6, hm, ⟨_, fd, ps, He.eqO_ok c7, of_decide_eq_true c8, B, F⟩, xf, ⟨xf.ga, xf.gg, xf.exC, xf.hdC, He.eqO_ok c10, He.eqO_ok c11, of_decide_eq_true c12, of_decide_eq_true c13⟩⟩
theorem fXcl_pre {K : PySem.W.Frag} {x f : Str} (c : fXcl x f K = true) : OexC K (He.ga K x) ∧ PySem.W.findIn K (.ref (He.ga K x)) f = some none := by
  obtain ⟨c1, c⟩ := He.ba c
  obtain ⟨c2, c⟩ := He.ba c
  obtain ⟨c3, c⟩ := He.ba c
  obtain ⟨c4, c⟩ := He.ba c
  obtain ⟨c5, c⟩ := He.ba c
  obtain ⟨c6, _⟩ := He.ba c
  exact ⟨⟨oexB_ok c1, He.eqO_ok c2, of_decide_eq_true c3, of_decide_eq_true c4, c5⟩, He.eqO_ok c6⟩
/-- the class B over ValueError that has no __init__ of its own -/
def fLe (x : Str) : Ft := fun K => He.eqO (PySem.W.specialIn K (.ref (He.ga K x)) "__getattribute__") (some (some (.builtin "type.__getattribute__"))) && (PySem.W.readsIn K (He.ga K x) (.type "type") && (match PySem.W.findCls K (.ref (He.ga K x)) (.type "type") "__init__" with
  | some (.val (.builtin n)) => n == "ValueError.__init__"
  | _ => false))
theorem fLe_ok {K : PySem.W.Frag} {x : Str} (c : fLe x K = true) : LeC K (He.ga K x) := by
  obtain ⟨c1, c⟩ := He.ba c
  obtain ⟨c2, c3⟩ := He.ba c
  refine ⟨He.eqO_ok c1, c2, ?_⟩
  split at c3
  · rename_i n e
    rw [e, beq_iff_eq.mp c3]
  · cases c3
end LL

set_option Elab.async false
set_option linter.all false
set_option maxRecDepth 100000
set_option maxHeartbeats 4000000
/-! D76: the class Disk. -/
namespace K76
open PySem PySem.Spec PyProof.Rows L2 LL
def top (i : Nat) : Stmt := PySem.Challenge.pw_leastlog_k76_disks.main.body.getD i (.Pass ⟨0, 0, 0, 0⟩)
abbrev s_InvalidRecordinit : Stmt := inClass (top 2) 0
abbrev n_InvalidRecordinit : List Str := ["self", "value"]
theorem sc_InvalidRecordinit : FnScope n_InvalidRecordinit ["self", "value"] (defScope s_InvalidRecordinit) := ⟨rfl, rfl, rfl, by decide +kernel, rfl, by decide +kernel, by decide +kernel⟩
abbrev s_InvalidLengthinit : Stmt := inClass (top 3) 0
abbrev n_InvalidLengthinit : List Str := ["self", "value"]
theorem sc_InvalidLengthinit : FnScope n_InvalidLengthinit ["self", "value"] (defScope s_InvalidLengthinit) := ⟨rfl, rfl, rfl, by decide +kernel, rfl, by decide +kernel, by decide +kernel⟩
abbrev s_check_text : Stmt := top 5
abbrev n_check_text : List Str := ["text"]
theorem sc_check_text : FnScope n_check_text ["text"] (defScope s_check_text) := ⟨rfl, rfl, rfl, by decide +kernel, rfl, by decide +kernel, by decide +kernel⟩
abbrev s_Diskinit : Stmt := inClass (top 6) 0
abbrev n_Diskinit : List Str := ["self", "text"]
theorem sc_Diskinit : FnScope n_Diskinit ["self", "text"] (defScope s_Diskinit) := ⟨rfl, rfl, rfl, by decide +kernel, rfl, by decide +kernel, by decide +kernel⟩
abbrev s_Disk_content : Stmt := inClass (top 6) 1
abbrev n_Disk_content : List Str := ["self"]
theorem sc_Disk_content : FnScope n_Disk_content ["self"] (defScope s_Disk_content) := ⟨rfl, rfl, rfl, by decide +kernel, rfl, by decide +kernel, by decide +kernel⟩
abbrev s_Disk_sure : Stmt := inClass (top 6) 2
abbrev n_Disk_sure : List Str := ["self"]
theorem sc_Disk_sure : FnScope n_Disk_sure ["self"] (defScope s_Disk_sure) := ⟨rfl, rfl, rfl, by decide +kernel, rfl, by decide +kernel, by decide +kernel⟩
abbrev s_Disk_append : Stmt := inClass (top 6) 3
abbrev n_Disk_append : List Str := ["self", "text"]
theorem sc_Disk_append : FnScope n_Disk_append ["self", "text"] (defScope s_Disk_append) := ⟨rfl, rfl, rfl, by decide +kernel, rfl, by decide +kernel, by decide +kernel⟩
abbrev s_Disk_sync : Stmt := inClass (top 6) 4
abbrev n_Disk_sync : List Str := ["self"]
theorem sc_Disk_sync : FnScope n_Disk_sync ["self"] (defScope s_Disk_sync) := ⟨rfl, rfl, rfl, by decide +kernel, rfl, by decide +kernel, by decide +kernel⟩
abbrev s_Disk_stopped : Stmt := inClass (top 6) 5
abbrev n_Disk_stopped : List Str := ["self", "length"]
theorem sc_Disk_stopped : FnScope n_Disk_stopped ["self", "length"] (defScope s_Disk_stopped) := ⟨rfl, rfl, rfl, by decide +kernel, rfl, by decide +kernel, by decide +kernel⟩
abbrev s_Disk_without : Stmt := inClass (top 6) 6
abbrev n_Disk_without : List Str := ["self", "length", "found"]
theorem sc_Disk_without : FnScope n_Disk_without ["self", "length"] (defScope s_Disk_without) := ⟨rfl, rfl, rfl, by decide +kernel, rfl, by decide +kernel, by decide +kernel⟩
abbrev s_Disk_clone : Stmt := inClass (top 6) 7
abbrev n_Disk_clone : List Str := ["self"]
theorem sc_Disk_clone : FnScope n_Disk_clone ["self"] (defScope s_Disk_clone) := ⟨rfl, rfl, rfl, by decide +kernel, rfl, by decide +kernel, by decide +kernel⟩
abbrev s_Diskeq : Stmt := inClass (top 6) 8
abbrev n_Diskeq : List Str := ["self", "other"]
theorem sc_Diskeq : FnScope n_Diskeq ["self", "other"] (defScope s_Diskeq) := ⟨rfl, rfl, rfl, by decide +kernel, rfl, by decide +kernel, by decide +kernel⟩
theorem passF {X : Cx} : Passes (L2.CX X.prog X.w) X E0 := fun _ _ _ _ _ _ _ h => by
  obtain ⟨_, _, _, _, _, _, _, _, _, _, _, _, z⟩ := h
  exact z.elim
/-- what the top has made -/
structure Tx (K : PySem.W.Frag) (mg : Str → Option Value) (C CE CL CR : Addr) : Prop where
  cl : Cls K C
  nT : NoAttr K C "own_text"
  nS : NoAttr K C "own_sure"
  g_Disk : mg "Disk" = some (.ref C)
  g_LeastlogError : mg "LeastlogError" = some (.ref CE)
  g_InvalidLength : mg "InvalidLength" = some (.ref CL)
  g_InvalidRecord : mg "InvalidRecord" = some (.ref CR)
  le : LeC K CE
  ca : PySem.W.findIn K (.ref C) "__class__" = some (some (.builtin "object.__class__"))
  cn : PySem.W.specialIn K (.builtin "object.__class__") "__get__" = some (some (.builtin "getset_descriptor.__get__"))
  ct : PySem.W.takesIn K (.builtin "object.__class__") = some true
  cm : PySem.W.mroIn K C (.type "object") = some true
  kC : PySem.W.kitOne K (.ref C) (.ref C) = some true
  kL : PySem.W.kitOne K (.type "list") (.ref C) = some false
  kLE : PySem.W.kitOne K (.ref CL) (.ref CE) = some true
  kRE : PySem.W.kitOne K (.ref CR) (.ref CE) = some true
  xLL : PySem.W.exmOne K (.ref CL) (.ref CL) = some true
  xRL : PySem.W.exmOne K (.ref CR) (.ref CL) = some false
  xRR : PySem.W.exmOne K (.ref CR) (.ref CR) = some true
  ne : PySem.W.findIn K (.ref C) "__ne__" = some (some (.builtin "object.__ne__"))
  fL : PySem.W.notFirst K C (.type "list") = true
  fC : PySem.W.notFirst K C (.ref C) = true
  n_isinstance : mg "isinstance" = none
  n_int : mg "int" = none
  n_bool : mg "bool" = none
  n_abs : mg "abs" = none
  n_str : mg "str" = none
  n_repr : mg "repr" = none
  n_range : mg "range" = none
  n_len : mg "len" = none
  n_max : mg "max" = none
  n_min : mg "min" = none
  n_divmod : mg "divmod" = none
  n_all : mg "all" = none
  n_list : mg "list" = none
section
variable {P : Program} {w : World} {K : PySem.W.Frag} {mg : Str → Option Value} {base : Heap} {C CE CL CR : Addr} {f : Addr} {fd : FuncData}
abbrev FD (K : PySem.W.Frag) (x qual : Str) (st : Stmt) (dvs : List V) (f : Addr) (fd : FuncData) : Prop := FunD K x qual (defArgs st) (defBody st) (defScope st) dvs [] f fd
/-! ### the errors -/
theorem ok_rec (T : Tx K mg C CE CL CR) (O : OexC K CR) (nf : PySem.W.findIn K (.ref CR) "value" = some none) (F : FD K "__init__" "InvalidRecord.__init__" s_InvalidRecordinit [] f fd) : FnOk P w K mg base CX0 1 f fd ["self", "value"] (spXI CR "value") := by
  refine F.ok sc_InvalidRecordinit (fun vs H Q E h => ?_) (fun cdv A outer s H vs Q E hr h => ?_)
  · obtain ⟨a, v, rfl, _⟩ := h
    rfl
  · obtain ⟨a, v, rfl, ha, q⟩ := h
    refine ⟨_, PSs.nox (pss_cons (ps_expr (pe_leinit T.le (by rfl) T.g_LeastlogError (pa_cons (pv 0) (pa_cons pe_str pa_nil)))) (pss_one (ps_ost (pv 0) (pv 1)))), ?_⟩
    refine ⟨_, rfl, a, CR, _, rfl, (by show 1 ≤ 1000; decide), O, ha, _, rfl, _, rfl, a, CR, rfl, O, nf, .inl ⟨ha, fun dx hd ne => q dx hd ne⟩⟩
theorem ok_len (T : Tx K mg C CE CL CR) (O : OexC K CL) (nf : PySem.W.findIn K (.ref CL) "value" = some none) (F : FD K "__init__" "InvalidLength.__init__" s_InvalidLengthinit [] f fd) : FnOk P w K mg base CX0 1 f fd ["self", "value"] (spXI CL "value") := by
  refine F.ok sc_InvalidLengthinit (fun vs H Q E h => ?_) (fun cdv A outer s H vs Q E hr h => ?_)
  · obtain ⟨a, v, rfl, _⟩ := h
    rfl
  · obtain ⟨a, v, rfl, ha, q⟩ := h
    refine ⟨_, PSs.nox (pss_cons (ps_expr (pe_leinit T.le (by rfl) T.g_LeastlogError (pa_cons (pv 0) (pa_cons pe_str pa_nil)))) (pss_one (ps_ost (pv 0) (pv 1)))), ?_⟩
    refine ⟨_, rfl, a, CL, _, rfl, (by show 1 ≤ 1000; decide), O, ha, _, rfl, _, rfl, a, CL, rfl, O, nf, .inl ⟨ha, fun dx hd ne => q dx hd ne⟩⟩
/-! ### check_text -/
/-- a value that is no text -/
def NoTxt (K : PySem.W.Frag) (H : Hp) (v : V) : Prop := ∃ t, (∀ H', LamX.ExtN H H' → TyX K H' v t) ∧ PySem.W.kitOne K t (.type "str") = some false
theorem NoTxt.ext {K : PySem.W.Frag} {H H' : Hp} {v : V} (h : NoTxt K H v) (s : LamX.ExtN H H') : NoTxt K H' v := let ⟨t, a, b⟩ := h; ⟨t, fun H2 s2 => a H2 (s.trans s2), b⟩
theorem NoTxt.same {K : PySem.W.Frag} {H H' : Hp} {v : V} (h : NoTxt K H v) (s : Same H H') : NoTxt K H' v := h.ext (.of s)
def spChk (K : PySem.W.Frag) (CR : Addr) : Sp := fun vs H Q E => ∃ v, vs = [v] ∧ ((∃ z, v = .str z ∧ Q .non H) ∨ (NoTxt K H v ∧ ∀ d, H d = none → E (.ref CR) (some d) (upd H d (.xd [("value", v)]))))
theorem kStr {K : PySem.W.Frag} : PySem.W.kitOne K (.type "str") (.type "str") = some true := kit_ty (by decide +kernel)
theorem ok_check (T : Tx K mg C CE CL CR) (X_InvalidRecord : Xcl P w K mg base 1 "InvalidRecord" CR "value") (F : FD K "check_text" "check_text" s_check_text [] f fd) : FnG P w K mg base (L2.CX P w) 3 f fd ["text"] (spChk K CR) := by
  refine okX F sc_check_text (fun vs H Q E h => ?_) (fun cdv A outer s H vs Q E hr h => ?_)
  · obtain ⟨v, rfl, _⟩ := h
    rfl
  · obtain ⟨v, rfl, h⟩ := h
    refine ⟨_, (pss_one (ps_if (pt_not (pt_val (pe_callB call_isi (by rfl) T.n_isinstance (by decide +kernel) (pa_cons (pv 0) (pa_cons (pe_bltn (v := .ty "str") (by rfl) T.n_str (by decide +kernel) rfl) pa_nil))))) (pss_one (ps_raiseX X_InvalidRecord (hr.r.mono (by decide)) (takes_of rfl rfl rfl rfl) (pv 0))) pss_nil)), ?_⟩
    rcases h with ⟨z, rfl, q⟩ | ⟨⟨t, ty, kt⟩, q⟩
    · exact ⟨_, rfl, _, _, .type "str", _, _, rfl, .ty "str", .base (.str _), kStr, _, rfl, iteF q⟩
    · refine ⟨_, rfl, _, _, t, _, _, rfl, .ty "str", ty H (.refl H), kt, _, rfl, iteT ?_⟩
      exact ⟨_, rfl, raise_of fun d hd => q d hd⟩
/-! ### the object -/
def dfl (z : Str) (n : Int) : List (Str × V) := [("own_text", .str z), ("own_sure", .int n)]
theorem ne_ts : ¬ (("own_text" : Str) = "own_sure") := by decide +kernel
theorem ne_st : ¬ (("own_sure" : Str) = "own_text") := by decide +kernel
theorem put_new (z : Str) (n : Int) : putF "own_sure" (.int n) (putF "own_text" (.str z) []) = dfl z n := by
  show (if ("own_text" : Str) = "own_sure" then [(("own_text" : Str), V.int n)] else (("own_text" : Str), V.str z) :: putF "own_sure" (V.int n) []) = _
  rw [if_neg ne_ts]
  rfl
theorem put_t (z y : Str) (n : Int) : putF "own_text" (.str y) (dfl z n) = dfl y n := by
  show (if ("own_text" : Str) = "own_text" then (("own_text" : Str), V.str y) :: [(("own_sure" : Str), V.int n)] else _) = _
  rw [if_pos rfl]
  rfl
theorem put_s (z : Str) (n m : Int) : putF "own_sure" (.int m) (dfl z n) = dfl z m := by
  show (if ("own_text" : Str) = "own_sure" then _ else (("own_text" : Str), V.str z) :: (if ("own_sure" : Str) = "own_sure" then [(("own_sure" : Str), V.int m)] else _)) = _
  rw [if_neg ne_ts, if_pos rfl]
  rfl
theorem look_t (z : Str) (n : Int) : (dfl z n).lookup ("own_text" : Str) = some (V.str z) := by
  rw [← put_new, lookup_putF, if_neg ne_ts, lookup_putF, if_pos rfl]
theorem look_s (z : Str) (n : Int) : (dfl z n).lookup ("own_sure" : Str) = some (V.int n) := by
  rw [← put_new, lookup_putF, if_pos rfl]
theorem look_no (z : Str) (n : Int) {m : Str} (h1 : ¬ m = "own_text") (h2 : ¬ m = "own_sure") : (dfl z n).lookup m = none := by
  rw [← put_new, lookup_putF, if_neg h2, lookup_putF, if_neg h1]
  rfl
def DAt (C : Addr) (H : Hp) (p : Addr) (z : Str) (n : Int) : Prop := ∃ dx, H p = some (.ins C dx (dfl z n))
theorem DAt.same {H H' : Hp} {p : Addr} {z : Str} {n : Int} (h : DAt C H p z n) (s : Same H H') : DAt C H' p z n := let ⟨dx, e⟩ := h; ⟨dx, s _ _ e⟩
theorem small {n : Nat} (h : n ≤ 100000) : n ≤ sizeLine := Nat.le_trans h (by rw [sizeLine_eq]; decide)
/-- an error with this value -/
def Err (Cx : Addr) (H : Hp) (v : V) (E : XK) : Prop := ∀ H' d, Same H H' → H d = none → H' d = some (.xd [("value", v)]) → E (.ref Cx) (some d) H'
theorem Err.now {Cx : Addr} {H : Hp} {v : V} {E : XK} (h : Err Cx H v E) : ∀ d, H d = none → E (.ref Cx) (some d) (upd H d (.xd [("value", v)])) := fun d hd => h _ d (same_upd hd) hd upd_same
theorem Err.same {Cx : Addr} {H H1 : Hp} {v : V} {E : XK} (h : Err Cx H v E) (s : Same H H1) : Err Cx H1 v E := fun H' d s2 hd e => h H' d (s.trans s2) (s.free hd) e
/-! ### __init__ -/
def spDI (K : PySem.W.Frag) (C CR : Addr) : Sp := fun vs H Q E => ∃ p dx v, vs = [.ref p, v] ∧ H p = some (.ins C dx []) ∧ ((∃ z, v = .str z ∧ z.length ≤ 100000 ∧ ∀ H', H' p = some (.ins C dx (dfl z z.length)) → But p H H' → Q .non H') ∨ (NoTxt K H v ∧ Err CR H v E))
theorem ok_dinit (T : Tx K mg C CE CL CR) (G_check_text : Fnc P w K mg base (L2.CX P w) 3 "check_text" [] (spChk K CR)) (F : FD K "__init__" "Disk.__init__" s_Diskinit [.str ""] f fd) : FnG P w K mg base (L2.CX P w) 4 f fd ["self", "text"] (spDI K C CR) := by
  refine okX F sc_Diskinit (fun vs H Q E h => ?_) (fun cdv A outer s H vs Q E hr h => ?_)
  · obtain ⟨p, dx, v, rfl, _⟩ := h
    rfl
  · obtain ⟨p, dx, v, rfl, hp, h⟩ := h
    refine ⟨_, (pss_cons (ps_expr (pe_fn G_check_text (hr.mono (by decide)) (passes_call (takes_of rfl rfl rfl rfl) (fun _ _ _ _ h => h)) (pa_cons (pv 1) pa_nil)))
      (pss_cons (ps_fld (pv 0) (pv 1) rfl)
      (pss_one (ps_fld (pv 0) (pe_callB call_len_str (by rfl) T.n_len (by decide +kernel) (pa_cons (pv 1) pa_nil)) rfl)))), ?_⟩
    rcases h with ⟨z, rfl, hz, q⟩ | ⟨nt, er⟩
    · refine ⟨_, rfl, _, rfl, .inl ⟨z, rfl, ?_⟩⟩
      refine ⟨_, rfl, _, rfl, p, C, dx, [], rfl, hp, T.cl, T.nT, (by show 0 < 1000; decide), ?_⟩
      refine ⟨_, rfl, _, rfl, small hz, _, rfl, p, C, dx, _, rfl, upd_same, T.cl, T.nS, (by show 1 < 1000; decide), ?_⟩
      refine q _ (upd_same.trans ?_) fun b o e n => ?_
      · rw [put_new]
      · rw [upd_ne n, upd_ne n]
        exact e
    · exact ⟨_, rfl, _, rfl, .inr ⟨nt, er.now⟩⟩
/-- Disk(v), Disk() -/
def spMk1 (K : PySem.W.Frag) (C CR : Addr) : Sp := fun vs H Q E => ∃ v, vs = [v] ∧ ((∃ z, v = .str z ∧ z.length ≤ 100000 ∧ ∀ H' p, Same H H' → H p = none → DAt C H' p z z.length → Q (.ref p) H') ∨ (NoTxt K H v ∧ Err CR H v E))
def spMk0 (C : Addr) : Sp := fun vs H Q E => vs = [] ∧ ∀ H' p, Same H H' → H p = none → DAt C H' p "" 0 → Q (.ref p) H'
theorem same_new {H H' : Hp} {a dx : Addr} (ha : H a = none) (hd : H dx = none) (b : But a (upd (upd H dx (.own a)) a (.ins C dx [])) H') : Same H H' := fun c o e => by
  refine b c o ?_ (ne_of_none e ha)
  rw [upd_ne (ne_of_none e ha), upd_ne (ne_of_none e hd)]
  exact e
theorem same_new0 {H : Hp} {a dx : Addr} (ha : H a = none) (hd : H dx = none) : Same H (upd (upd H dx (.own a)) a (.ins C dx [])) := same_new ha hd But.refl
theorem mkf1 (G : Mkr P w K mg base (L2.CX P w) 4 "Disk" C [] (spDI K C CR)) : Mkf P w K mg base (L2.CX P w) 4 "Disk" (spMk1 K C CR) := by
  refine ⟨C, [], _, G, fun vs H Q E h a dx ha hd ne => ?_⟩
  obtain ⟨v, rfl, h⟩ := h
  refine ⟨a, dx, v, rfl, upd_same, ?_⟩
  rcases h with ⟨z, rfl, hz, q⟩ | ⟨nt, er⟩
  · exact .inl ⟨z, rfl, hz, fun H' e b => ⟨rfl, q H' a (same_new ha hd b) ha ⟨dx, e⟩⟩⟩
  · exact .inr ⟨nt.same (same_new0 ha hd), er.same (same_new0 ha hd)⟩
theorem mkf0 (G : Mkr P w K mg base (L2.CX P w) 4 "Disk" C [.str ""] (spDI K C CR)) : Mkf P w K mg base (L2.CX P w) 4 "Disk" (spMk0 C) := by
  refine ⟨C, [.str ""], _, G, fun vs H Q E h a dx ha hd ne => ?_⟩
  obtain ⟨rfl, q⟩ := h
  exact ⟨a, dx, .str "", rfl, upd_same, .inl ⟨"", rfl, by decide, fun H' e b => ⟨rfl, q H' a (same_new ha hd b) ha ⟨dx, e⟩⟩⟩⟩
/-! ### its methods -/
def spGetT (C : Addr) : Sp := fun vs H Q _ => ∃ p z n, vs = [.ref p] ∧ DAt C H p z n ∧ Q (.str z) H
def spGetS (C : Addr) : Sp := fun vs H Q _ => ∃ p z n, vs = [.ref p] ∧ DAt C H p z n ∧ Q (.int n) H
theorem ok_content (T : Tx K mg C CE CL CR) (F : FD K "content" "Disk.content" s_Disk_content [] f fd) : FnG P w K mg base CX0 1 f fd ["self"] (spGetT C) := by
  refine ok0 F sc_Disk_content (fun vs H Q E h => ?_) (fun cdv A outer s H vs Q E hr h => ?_)
  · obtain ⟨p, z, n, rfl, _⟩ := h
    rfl
  · obtain ⟨p, z, n, rfl, ⟨dx, hp⟩, q⟩ := h
    exact ⟨_, (pss_one (ps_ret (pe_fld (pv 0) rfl))), _, rfl, p, C, dx, _, _, rfl, hp, T.cl, T.nT, look_t _ _, q⟩
theorem ok_sure (T : Tx K mg C CE CL CR) (F : FD K "sure" "Disk.sure" s_Disk_sure [] f fd) : FnG P w K mg base CX0 1 f fd ["self"] (spGetS C) := by
  refine ok0 F sc_Disk_sure (fun vs H Q E h => ?_) (fun cdv A outer s H vs Q E hr h => ?_)
  · obtain ⟨p, z, n, rfl, _⟩ := h
    rfl
  · obtain ⟨p, z, n, rfl, ⟨dx, hp⟩, q⟩ := h
    exact ⟨_, (pss_one (ps_ret (pe_fld (pv 0) rfl))), _, rfl, p, C, dx, _, _, rfl, hp, T.cl, T.nS, look_s _ _, q⟩
def spApp (K : PySem.W.Frag) (C CR : Addr) : Sp := fun vs H Q E => ∃ p v z n, vs = [.ref p, v] ∧ DAt C H p z n ∧ ((∃ t, v = .str t ∧ z.length + t.length ≤ 100000 ∧ ∀ H', But p H H' → DAt C H' p (z ++ t) n → Q (.int ((z ++ t).length : Nat)) H') ∨ (NoTxt K H v ∧ Err CR H v E))
theorem ok_append (T : Tx K mg C CE CL CR) (G_check_text : Fnc P w K mg base (L2.CX P w) 3 "check_text" [] (spChk K CR)) (F : FD K "append" "Disk.append" s_Disk_append [] f fd) : FnG P w K mg base (L2.CX P w) 4 f fd ["self", "text"] (spApp K C CR) := by
  refine okX F sc_Disk_append (fun vs H Q E h => ?_) (fun cdv A outer s H vs Q E hr h => ?_)
  · obtain ⟨p, v, z, n, rfl, _⟩ := h
    rfl
  · obtain ⟨p, v, z, n, rfl, ⟨dx, hp⟩, h⟩ := h
    refine ⟨_, (pss_cons (ps_expr (pe_fn G_check_text (hr.mono (by decide)) (passes_call (takes_of rfl rfl rfl rfl) (fun _ _ _ _ h => h)) (pa_cons (pv 1) pa_nil)))
      (pss_cons (ps_fld (pv 0) (pe_op op_add_str (pe_fld (pv 0) rfl) (pv 1)) rfl)
      (pss_one (ps_ret (pe_callB call_len_str (by rfl) T.n_len (by decide +kernel) (pa_cons (pe_fld (pv 0) rfl) pa_nil)))))), ?_⟩
    rcases h with ⟨t, rfl, hz, q⟩ | ⟨nt, er⟩
    · refine ⟨_, rfl, _, rfl, .inl ⟨t, rfl, ?_⟩⟩
      refine ⟨_, rfl, p, C, dx, _, _, rfl, hp, T.cl, T.nT, look_t _ _, _, rfl, _, _, rfl, rfl, small hz, _, rfl, p, C, dx, _, rfl, hp, T.cl, T.nT, (by show 2 < 1000; decide), ?_⟩
      have e2 : upd H p (.ins C dx (putF "own_text" (.str (z ++ t)) (dfl z n))) p = some (.ins C dx (dfl (z ++ t) n)) := by rw [upd_same, put_t]
      refine ⟨_, rfl, p, C, dx, _, _, rfl, e2, T.cl, T.nT, look_t _ _, _, rfl, (by rw [strLen_append]; exact small hz), ?_⟩
      exact q _ but_upd ⟨dx, e2⟩
    · exact ⟨_, rfl, _, rfl, .inr ⟨nt, er.now⟩⟩
def spSync (C : Addr) : Sp := fun vs H Q _ => ∃ p z n, vs = [.ref p] ∧ DAt C H p z n ∧ z.length ≤ 100000 ∧ ∀ H', But p H H' → DAt C H' p z z.length → Q (.int z.length) H'
theorem ok_sync (T : Tx K mg C CE CL CR) (F : FD K "sync" "Disk.sync" s_Disk_sync [] f fd) : FnG P w K mg base CX0 1 f fd ["self"] (spSync C) := by
  refine ok0 F sc_Disk_sync (fun vs H Q E h => ?_) (fun cdv A outer s H vs Q E hr h => ?_)
  · obtain ⟨p, z, n, rfl, _⟩ := h
    rfl
  · obtain ⟨p, z, n, rfl, ⟨dx, hp⟩, hz, q⟩ := h
    refine ⟨_, (pss_cons (ps_fld (pv 0) (pe_callB call_len_str (by rfl) T.n_len (by decide +kernel) (pa_cons (pe_fld (pv 0) rfl) pa_nil)) rfl)
      (pss_one (ps_ret (pe_fld (pv 0) rfl)))), ?_⟩
    refine ⟨_, rfl, p, C, dx, _, _, rfl, hp, T.cl, T.nT, look_t _ _, _, rfl, small hz, _, rfl, p, C, dx, _, rfl, hp, T.cl, T.nS, (by show 2 < 1000; decide), ?_⟩
    have e2 : upd H p (.ins C dx (putF "own_sure" (.int z.length) (dfl z n))) p = some (.ins C dx (dfl z z.length)) := by rw [upd_same, put_s]
    exact ⟨_, rfl, p, C, dx, _, _, rfl, e2, T.cl, T.nS, look_s _ _, q _ but_upd ⟨dx, e2⟩⟩
/-- a value that is no length here -/
def BadLen (K : PySem.W.Frag) (H : Hp) (v : V) (n m : Int) : Prop := (∃ t, (∀ H', LamX.ExtN H H' → TyX K H' v t) ∧ PySem.W.kitOne K t (.type "int") = some false) ∨ (∃ b, v = .bl b) ∨ ∃ i : Int, v = .int i ∧ ¬ (n ≤ i ∧ i ≤ m)
def spStop (K : PySem.W.Frag) (C CL : Addr) : Sp := fun vs H Q E => ∃ p v z n, vs = [.ref p, v] ∧ DAt C H p z n ∧ z.length ≤ 100000 ∧ ((∃ m : Nat, v = .int m ∧ n ≤ m ∧ m ≤ z.length ∧ ∀ H' r, Same H H' → H r = none → DAt C H' r (cutS z none (some m)) m → Q (.ref r) H') ∨ (BadLen K H v n z.length ∧ Err CL H v E))
theorem BadLen.ext {K : PySem.W.Frag} {H H' : Hp} {v : V} {n m : Int} (h : BadLen K H v n m) (s : LamX.ExtN H H') : BadLen K H' v n m := by
  rcases h with ⟨t, a, b⟩ | h
  · exact .inl ⟨t, fun H2 s2 => a H2 (s.trans s2), b⟩
  · exact .inr h
theorem kIB {K : PySem.W.Frag} : PySem.W.kitOne K (.type "int") (.type "bool") = some false := kit_ty (by decide +kernel)
theorem kII {K : PySem.W.Frag} : PySem.W.kitOne K (.type "int") (.type "int") = some true := kit_ty (by decide +kernel)
theorem kBI {K : PySem.W.Frag} : PySem.W.kitOne K (.type "bool") (.type "int") = some true := kit_ty (by decide +kernel)
theorem kBB {K : PySem.W.Frag} : PySem.W.kitOne K (.type "bool") (.type "bool") = some true := kit_ty (by decide +kernel)
theorem cut_len (z : Str) (m : Nat) : (cutS z none (some (m : Int))).length = min m z.length := by
  show ((z.cps.toList.drop (HT.sIx z.length 0 none)).take (HT.sIx z.length z.length (some (m : Int)) - HT.sIx z.length 0 none)).toArray.size = _
  have e : z.cps.toList.length = z.length := rfl
  rw [HT.sIx_none, HT.sIx_nat, List.size_toArray, List.length_take, List.drop_zero, e]
  omega
theorem cut_all (z : Str) : cutS z (some 0) none = z := by
  have e : HT.sIx z.length 0 (some (0 : Int)) = 0 := by
    have := HT.sIx_nat z.length 0 0
    simpa using this
  have l : z.cps.toList.length = z.length := rfl
  show (⟨((z.cps.toList.drop (HT.sIx z.length 0 (some 0))).take (HT.sIx z.length z.length none - HT.sIx z.length 0 (some 0))).toArray⟩ : Str) = z
  rw [e, HT.sIx_none, List.drop_zero, Nat.sub_zero, ← l, List.take_length, Array.toArray_toList]
theorem ok_stopped (T : Tx K mg C CE CL CR) (X_InvalidLength : Xcl P w K mg base 1 "InvalidLength" CL "value") (K_Disk1 : Mkf P w K mg base (L2.CX P w) 4 "Disk" (spMk1 K C CR)) (F : FD K "stopped" "Disk.stopped" s_Disk_stopped [] f fd) :
    FnG P w K mg base (L2.CX P w) 6 f fd ["self", "length"] (spStop K C CL) := by
  refine okX F sc_Disk_stopped (fun vs H Q E h => ?_) (fun cdv A outer s H vs Q E hr h => ?_)
  · obtain ⟨p, v, z, n, rfl, _⟩ := h
    rfl
  · obtain ⟨p, v, z, n, rfl, ⟨dx, hp⟩, hz, h⟩ := h
    refine ⟨_, (pss_cons (ps_if (PW.pt (pw_or (pt_not (pt_val (pe_callB call_isi (by rfl) T.n_isinstance (by decide +kernel) (pa_cons (pv 1) (pa_cons (pe_bltn (v := .ty "int") (by rfl) T.n_int (by decide +kernel) rfl) pa_nil))))) (pw_or1 (pt_val (pe_callB call_isi (by rfl) T.n_isinstance (by decide +kernel) (pa_cons (pv 1) (pa_cons (pe_bltn (v := .ty "bool") (by rfl) T.n_bool (by decide +kernel) rfl) pa_nil))))))) (pss_one (ps_raiseX X_InvalidLength (hr.r.mono (by decide)) (takes_of rfl rfl rfl rfl) (pv 1))) pss_nil)
      (pss_cons (ps_if (pt_not (pt_chain op_le op_le (pe_fld (pv 0) rfl) (pv 1) (pe_callB call_len_str (by rfl) T.n_len (by decide +kernel) (pa_cons (pe_fld (pv 0) rfl) pa_nil)))) (pss_one (ps_raiseX X_InvalidLength (hr.r.mono (by decide)) (takes_of rfl rfl rfl rfl) (pv 1))) pss_nil)
      (pss_one (ps_ret (pe_mf K_Disk1 (hr.mono (by decide)) passF (pa_cons (pe_slice sl_str (pe_fld (pv 0) rfl) po_none (po_some (pv 1))) pa_nil)))))), ?_⟩
    rcases h with ⟨m, rfl, h1, h2, q⟩ | ⟨bad, er⟩
    · refine ⟨_, rfl, _, _, .type "int", _, _, rfl, .ty "int", .base (.int _), kII, _, rfl, iteF ?_⟩
      refine ⟨_, rfl, _, _, .type "int", _, _, rfl, .ty "bool", .base (.int _), kIB, _, rfl, iteF ?_⟩
      refine ⟨_, rfl, p, C, dx, _, _, rfl, hp, T.cl, T.nS, look_s _ _, _, rfl, _, _, rfl, rfl, _, rfl, iteY (decide_eq_true h1) ?_⟩
      refine ⟨_, rfl, p, C, dx, _, _, rfl, hp, T.cl, T.nT, look_t _ _, _, rfl, small hz, _, _, rfl, rfl, _, rfl, iteN (by rw [decide_eq_true (by omega)]; rfl) ?_⟩
      have cl := cut_len z m
      refine ⟨_, rfl, p, C, dx, _, _, rfl, hp, T.cl, T.nT, look_t _ _, _, rfl, m, rfl, z, rfl, small hz, _, rfl, .inl ⟨_, rfl, by omega, fun H' r s n da => q H' r s n ?_⟩⟩
      rw [cl, show min m z.length = m by omega] at da
      exact da
    · rcases bad with ⟨t, ty, kt⟩ | ⟨b, rfl⟩ | ⟨i, rfl, no⟩
      · refine ⟨_, rfl, _, _, t, _, _, rfl, .ty "int", ty H (.refl H), kt, _, rfl, iteT ?_⟩
        exact ⟨_, rfl, raise_of er.now⟩
      · refine ⟨_, rfl, _, _, .type "bool", _, _, rfl, .ty "int", .base (.bl _), kBI, _, rfl, iteF ?_⟩
        refine ⟨_, rfl, _, _, .type "bool", _, _, rfl, .ty "bool", .base (.bl _), kBB, _, rfl, iteT ?_⟩
        exact ⟨_, rfl, raise_of er.now⟩
      · refine ⟨_, rfl, _, _, .type "int", _, _, rfl, .ty "int", .base (.int _), kII, _, rfl, iteF ?_⟩
        refine ⟨_, rfl, _, _, .type "int", _, _, rfl, .ty "bool", .base (.int _), kIB, _, rfl, iteF ?_⟩
        refine ⟨_, rfl, p, C, dx, _, _, rfl, hp, T.cl, T.nS, look_s _ _, _, rfl, _, _, rfl, rfl, _, rfl, iteB (fun c => ?_) (fun c => ?_)⟩
        · have c' := of_decide_eq_true c
          refine ⟨_, rfl, p, C, dx, _, _, rfl, hp, T.cl, T.nT, look_t _ _, _, rfl, small hz, _, _, rfl, rfl, _, rfl, iteY (by rw [decide_eq_false (by omega)]; rfl) ?_⟩
          exact ⟨_, rfl, raise_of er.now⟩
        · refine ⟨_, rfl, iteY rfl ?_⟩
          exact ⟨_, rfl, raise_of er.now⟩
/-- self.without(m), self.clone() -/
def spWo (C : Addr) : Sp := fun vs H Q _ => ∃ p z n, vs = [.ref p, .int 0] ∧ DAt C H p z n ∧ 0 ≤ n ∧ z.length ≤ 100000 ∧ ∀ H' r, Same H H' → H r = none → DAt C H' r z n → Q (.ref r) H'
theorem ok_without (T : Tx K mg C CE CL CR) (K_Disk1 : Mkf P w K mg base (L2.CX P w) 4 "Disk" (spMk1 K C CR)) (F : FD K "without" "Disk.without" s_Disk_without [] f fd) : FnG P w K mg base CX0 6 f fd ["self", "length"] (spWo C) := by
  refine ok0 F sc_Disk_without (fun vs H Q E h => ?_) (fun cdv A outer s H vs Q E hr h => ?_)
  · obtain ⟨p, z, n, rfl, _⟩ := h
    rfl
  · obtain ⟨p, z, n, rfl, ⟨dx, hp⟩, hn, hz, q⟩ := h
    refine ⟨_, (pss_cons (ps_set (i := 2) sc_Disk_without.nd rfl (by first | exact Or.inl rfl | exact Or.inr rfl) (pe_mf K_Disk1 (hr.mono (by decide)) passF (pa_cons (pe_slice sl_str (pe_fld (pv 0) rfl) (po_some (pv 1)) po_none) pa_nil)))
      (pss_cons (ps_fld (pv 2) (pe_callB (call_max2 rfl) (by rfl) T.n_max (by decide +kernel) (pa_cons pe_int (pa_cons (pe_op op_sub (pe_fld (pv 0) rfl) (pv 1)) pa_nil))) rfl)
      (pss_one (ps_ret (pv 2))))), ?_⟩
    refine ⟨_, rfl, p, C, dx, _, _, rfl, hp, T.cl, T.nT, look_t _ _, _, rfl, 0, rfl, z, rfl, small hz, _, rfl, .inl ⟨_, rfl, (by rw [cut_all]; exact hz), fun H1 r s1 n1 da => ?_⟩⟩
    rw [cut_all] at da
    obtain ⟨dy, e1⟩ := da
    have hp1 := s1 _ _ hp
    refine ⟨_, rfl, p, C, dx, _, _, rfl, hp1, T.cl, T.nS, look_s _ _, _, rfl, _, _, rfl, rfl, _, _, rfl, _, rfl, r, C, dy, _, rfl, e1, T.cl, T.nS, (by show 2 < 1000; decide), ?_⟩
    refine ⟨_, rfl, q _ r (fun b o e => ?_) n1 ⟨dy, upd_same.trans ?_⟩⟩
    · rw [upd_ne (ne_of_none e n1)]
      exact s1 _ _ e
    · rw [put_s]
      have : (if n - 0 > 0 then n - 0 else 0) = n := by split <;> omega
      rw [this]
def spClone (C : Addr) : Sp := fun vs H Q _ => ∃ p z n, vs = [.ref p] ∧ DAt C H p z n ∧ 0 ≤ n ∧ z.length ≤ 100000 ∧ ∀ H' r, Same H H' → H r = none → DAt C H' r z n → Q (.ref r) H'
theorem ok_clone (T : Tx K mg C CE CL CR) (M_without : Mth P w K mg base CX0 6 C "without" [] (spWo C)) (F : FD K "clone" "Disk.clone" s_Disk_clone [] f fd) : FnG P w K mg base CX0 7 f fd ["self"] (spClone C) := by
  refine ok0 F sc_Disk_clone (fun vs H Q E h => ?_) (fun cdv A outer s H vs Q E hr h => ?_)
  · obtain ⟨p, z, n, rfl, _⟩ := h
    rfl
  · obtain ⟨p, z, n, rfl, ⟨dx, hp⟩, hn, hz, q⟩ := h
    refine ⟨_, (pss_one (ps_ret (pe_mt M_without (hr.mono (by decide)) pass0 (pv 0) (pa_cons pe_int pa_nil)))), ?_⟩
    exact ⟨_, rfl, p, dx, _, rfl, hp, look_no _ _ (by decide +kernel) (by decide +kernel), p, z, n, rfl, ⟨dx, hp⟩, hn, hz, q⟩
/-- x == y -/
def spEq (K : PySem.W.Frag) (C : Addr) : Sp := fun vs H Q _ => ∃ p v z n ty c, vs = [.ref p, v] ∧ DAt C H p z n ∧ TyX K H v ty ∧ PySem.W.kitOne K ty (.ref C) = some c ∧ (c = false → Q (.bl false) H) ∧
  (c = true → ∃ r y m, v = .ref r ∧ DAt C H r y m ∧ Q (.bl (decide (z = y) && decide (n = m))) H)
theorem decS (i j : Str) : decide (V.str i = V.str j) = decide (i = j) := decide_eq_decide.mpr ⟨fun h => V.str.inj h, fun h => by rw [h]⟩
theorem decV (i j : Int) : decide (V.int i = V.int j) = decide (i = j) := decide_eq_decide.mpr ⟨fun h => V.int.inj h, fun h => by rw [h]⟩
theorem ok_eq (T : Tx K mg C CE CL CR) (F : FD K "__eq__" "Disk.__eq__" s_Diskeq [] f fd) : FnG P w K mg base CX0 1 f fd ["self", "other"] (spEq K C) := by
  refine ok0 F sc_Diskeq (fun vs H Q E h => ?_) (fun cdv A outer s H vs Q E hr h => ?_)
  · obtain ⟨p, v, z, n, ty, c, rfl, _⟩ := h
    rfl
  · obtain ⟨p, v, z, n, ty, c, rfl, ⟨dx, hp⟩, hty, hk, q0, q1⟩ := h
    refine ⟨_, (pss_one (ps_ret (pe_and (pe_callB call_isi (by rfl) T.n_isinstance (by decide +kernel) (pa_cons (pv 1) (pa_cons (pe_glob (v := .ref C) (by rfl) T.g_Disk rfl) pa_nil))) (pe_and (pe_cmpR op_eq (pe_fld (pv 0) rfl) (pe_fld (pv 1) rfl) (nomark _)) (pe_one (pe_cmpR op_eq (pe_fld (pv 0) rfl) (pe_fld (pv 1) rfl) (nomark _))))))), ?_⟩
    refine ⟨_, rfl, _, _, ty, _, _, rfl, .own C, hty, hk, _, rfl, iteB (fun e => ?_) (fun e => q0 e)⟩
    obtain ⟨r, y, m, rfl, ⟨dy, hr1⟩, q⟩ := q1 e
    refine ⟨_, rfl, p, C, dx, _, _, rfl, hp, T.cl, T.nT, look_t _ _, _, rfl, r, C, dy, _, _, rfl, hr1, T.cl, T.nT, look_t _ _, rfl, _, rfl, iteB (fun e => ?_) (fun e => ?_)⟩
    · refine ⟨_, rfl, p, C, dx, _, _, rfl, hp, T.cl, T.nS, look_s _ _, _, rfl, r, C, dy, _, _, rfl, hr1, T.cl, T.nS, look_s _ _, rfl, ?_⟩
      rw [decS] at e
      rw [decV]
      rw [e] at q
      exact q
    · rw [decS] at e
      rw [e] at q
      exact q
end
end K76

set_option Elab.async false
set_option linter.all false
set_option maxRecDepth 100000
set_option maxHeartbeats 4000000
/-! L76: the law's small helpers. -/
namespace K76
open PySem PySem.Spec PyProof.Rows L2 LL
abbrev s_l_pot : Stmt := top 8
abbrev n_l_pot : List Str := ["_law_script", "_law_k", "_law_cell"]
theorem sc_l_pot : FnScope n_l_pot ["_law_script", "_law_k"] (defScope s_l_pot) := ⟨rfl, rfl, rfl, by decide +kernel, rfl, by decide +kernel, by decide +kernel⟩
abbrev s_l_take : Stmt := top 9
abbrev n_l_take : List Str := ["_law_pot_here", "_law_many", "_law_digit"]
theorem sc_l_take : FnScope n_l_take ["_law_pot_here", "_law_many"] (defScope s_l_take) := ⟨rfl, rfl, rfl, by decide +kernel, rfl, by decide +kernel, by decide +kernel⟩
abbrev s_l_pick : Stmt := top 10
abbrev n_l_pick : List Str := ["_law_pot_here", "_law_some"]
theorem sc_l_pick : FnScope n_l_pick ["_law_pot_here", "_law_some"] (defScope s_l_pick) := ⟨rfl, rfl, rfl, by decide +kernel, rfl, by decide +kernel, by decide +kernel⟩
abbrev s_l_text : Stmt := top 11
abbrev n_l_text : List Str := ["_law_pot_here", "_law_k"]
theorem sc_l_text : FnScope n_l_text ["_law_pot_here"] (defScope s_l_text) := ⟨rfl, rfl, rfl, by decide +kernel, rfl, by decide +kernel, by decide +kernel⟩
abbrev s_l_refused : Stmt := top 12
abbrev n_l_refused : List Str := ["_law_call", "_law_found", "e"]
theorem sc_l_refused : FnScope n_l_refused ["_law_call"] (defScope s_l_refused) := ⟨rfl, rfl, rfl, by decide +kernel, rfl, by decide +kernel, by decide +kernel⟩
abbrev s_l_is_shown : Stmt := top 13
abbrev n_l_is_shown : List Str := ["_law_disk", "_law_model"]
theorem sc_l_is_shown : FnScope n_l_is_shown ["_law_disk", "_law_model"] (defScope s_l_is_shown) := ⟨rfl, rfl, rfl, by decide +kernel, rfl, by decide +kernel, by decide +kernel⟩
section
variable {P : Program} {w : World} {K : PySem.W.Frag} {mg : Str → Option Value} {base : Heap} {C CE CL CR : Addr} {f : Addr} {fd : FuncData}
def Pot (x y : Int) : Prop := 0 ≤ x ∧ 0 ≤ y ∧ y < 1099511627776
def PotAt (H : Hp) (p : Addr) : Prop := ∃ x y, H p = some (.lst [.int x, .int y]) ∧ Pot x y
theorem PotAt.ne {H : Hp} {p r : Addr} (h : PotAt H p) (n : H r = none) : r ≠ p := fun z => by
  obtain ⟨x, y, e, _⟩ := h
  rw [z, e] at n
  cases n
theorem PotAt.upd {H : Hp} {p r : Addr} {o : HO} (h : PotAt H p) (n : H r = none) : PotAt (L2.upd H r o) p := by
  obtain ⟨x, y, e, q⟩ := id h
  exact ⟨x, y, by rw [upd_ne (h.ne n).symm]; exact e, q⟩
theorem PotAt.same {H H' : Hp} {p : Addr} (h : PotAt H p) (b : Same H H') : PotAt H' p := let ⟨x, y, e, z⟩ := h; ⟨x, y, b _ _ e, z⟩
theorem PotAt.but {H H' : Hp} {p q : Addr} (h : PotAt H p) (b : But q H H') (n : p ≠ q) : PotAt H' p := let ⟨x, y, e, z⟩ := h; ⟨x, y, b _ _ e n, z⟩
theorem PotAt.kp {H H' : Hp} {p : Addr} (h : PotAt H p) (b : But p H H') : Kp H H' := let ⟨_, _, e, _⟩ := h; b.kp e
/-! ### _law_pot -/
def spPot (K : PySem.W.Frag) : Sp := fun vs H Q _ => ∃ (a : Addr) (ns : List Int) (k : Nat), vs = [.ref a, .int k] ∧ SqL K H a (ns.map V.int) ∧ ns.length ≤ 63 ∧ k < 100 ∧ ∀ H' p, Same H H' → H p = none → PotAt H' p → Q (.ref p) H'
theorem at_map {ns : List Int} {k : Nat} (h : k < ns.length) : atI (ns.map V.int) (k : Int) = some (.int ns[k]) := atI_nat (by rw [List.getElem?_map, List.getElem?_eq_getElem h]; rfl)
theorem ok_l_pot (T : Tx K mg C CE CL CR) (F : FD K "_law_pot" "_law_pot" s_l_pot [] f fd) : FnG P w K mg base CX0 1 f fd ["_law_script", "_law_k"] (spPot K) := by
  refine ok0 F sc_l_pot (fun vs H Q E h => ?_) (fun cdv A outer s H vs Q E hr h => ?_)
  · obtain ⟨a, ns, k, rfl, _⟩ := h
    rfl
  · obtain ⟨a, ns, k, rfl, hS, hl, hk, q⟩ := h
    refine ⟨_, (pss_cons (ps_set (i := 2) sc_l_pot.nd rfl (by first | exact Or.inl rfl | exact Or.inr rfl) (pe_op op_add (pe_op op_mulX pe_int (pv 1)) pe_int))
      (pss_cons (ps_if (pt_cmpR op_lt (pv 1) (pe_callB call_len_seq (by rfl) T.n_len (by decide +kernel) (pa_cons (pv 0) pa_nil)) (nomark _)) (pss_one (ps_set (i := 2) sc_l_pot.nd rfl (by first | exact Or.inl rfl | exact Or.inr rfl) (pe_callB call_abs (by rfl) T.n_abs (by decide +kernel) (pa_cons (pe_ix ix_list (pv 0) (pv 1) (fun _ _ => rfl)) pa_nil)))) pss_nil)
      (pss_one (ps_ret (pe_lst (pa_cons (pe_callB (call_max2 rfl) (by rfl) T.n_max (by decide +kernel) (pa_cons pe_int (pa_cons (pe_op op_sub (pv 2) (pe_op op_pow pe_int pe_int)) pa_nil))) (pa_cons (pe_op op_add (pe_op op_add (pe_op op_mulX (pe_op op_mod (pe_callTy call_int1 (by rfl) T.n_int (by decide +kernel) (pa_cons (pv 2) pa_nil)) pe_int) pe_int) (pe_op op_mulX pe_int (pv 1))) pe_int) pa_nil))))))), ?_⟩
    refine ⟨_, rfl, _, _, rfl, rfl, mulx_ok (a := 4) (b := 7) (by decide) (by omega) (by decide), _, _, rfl, rfl, ?_⟩
    refine nm_of ?_
    dsimp only
    refine seq_cut (fun σ' H' => H' = H ∧ ∃ c : Int, 0 ≤ c ∧ σ' = [some (.ref a), some (.int k), some (.int c)]) (fun N hN => ?_) ?_
    · refine ⟨_, rfl, _, rfl, a, _, rfl, .inl hS, _, _, rfl, rfl, _, rfl, iteB (fun e => ?_) (fun e => ?_)⟩
      · have hkl : k < ns.length := by
          have := of_decide_eq_true e
          rw [List.length_map] at this
          omega
        refine ⟨_, rfl, _, rfl, a, _, _, _, rfl, rfl, hS, at_map hkl, _, rfl, hN _ _ ⟨rfl, _, ?_, rfl⟩⟩
        split <;> omega
      · exact hN _ _ ⟨rfl, _, by omega, rfl⟩
    rintro σ H' ⟨rfl, c, hc, rfl⟩
    refine ⟨_, rfl, _, _, rfl, rfl, ⟨by decide, by decide, by decide⟩, _, _, rfl, rfl, _, _, rfl, ?_⟩
    refine ⟨_, rfl, .inl ⟨_, rfl, _, _, rfl, rfl, (show (0 : Int) < 2147483549 by decide), _, _, rfl, rfl, mulx_ok (a := 32) (b := 6) (by omega) (by decide) (by decide), _, rfl, _, _, rfl, rfl, mulx_ok (a := 10) (b := 7) (by decide) (by omega) (by decide), _, _, rfl, rfl, _, _, rfl, rfl, ?_⟩⟩
    refine ⟨(by show 2 ≤ sizeLine; decide), fun p hp => q _ p (same_upd hp) hp ⟨_, _, upd_same, ?_, by omega, by omega⟩⟩
    split <;> omega
/-! ### _law_take -/
def spTake : Sp := fun vs H Q _ => ∃ (p : Addr) (m : Int), vs = [.ref p, .int m] ∧ PotAt H p ∧ 0 < m ∧ m < 1000000 ∧ ∀ H' d, But p H H' → PotAt H' p → 0 ≤ d → d < m → Q (.int d) H'
theorem ok_l_take (T : Tx K mg C CE CL CR) (F : FD K "_law_take" "_law_take" s_l_take [] f fd) : FnG P w K mg base CX0 1 f fd ["_law_pot_here", "_law_many"] spTake := by
  refine ok0 F sc_l_take (fun vs H Q E h => ?_) (fun cdv A outer s H vs Q E hr h => ?_)
  · obtain ⟨p, m, rfl, _⟩ := h
    rfl
  · obtain ⟨p, m, rfl, ⟨x, y, hp, hx, hy, hy2⟩, m0, m1, q⟩ := h
    refine ⟨_, (pss_cons (ps_if (pt_cmpR op_gt (pe_ix ix_list (pv 0) pe_int (fun _ _ => rfl)) pe_int (nomark _)) (pss_cons (ps_asg (pe_callB call_divmodW (by rfl) T.n_divmod (by decide +kernel) (pa_cons (pe_ix ix_list (pv 0) pe_int (fun _ _ => rfl)) (pa_cons (pv 1) pa_nil))) (pg_tup rfl (pgs_cons (pg_sub (pv 0) pe_int set_list) (pgs_cons (pg_name (i := 2) sc_l_take.nd rfl (by first | exact Or.inl rfl | exact Or.inr rfl)) pgs_nil))))
      (pss_one (ps_ret (pv 2)))) pss_nil)
      (pss_cons (ps_asg (pe_op op_mod (pe_callTy call_int1 (by rfl) T.n_int (by decide +kernel) (pa_cons (pe_op op_add (pe_op op_mulX (pe_ix ix_list (pv 0) pe_int (fun _ _ => rfl)) pe_int) pe_int) pa_nil)) pe_int) (pg_sub (pv 0) pe_int set_list))
      (pss_one (ps_ret (pe_op op_mod (pe_callTy call_int1 (by rfl) T.n_int (by decide +kernel) (pa_cons (pe_op op_fdivZ (pe_op op_mod (pe_callTy call_int1 (by rfl) T.n_int (by decide +kernel) (pa_cons (pe_op op_mulX (pe_ix ix_list (pv 0) pe_int (fun _ _ => rfl)) (pe_ix ix_list (pv 0) pe_int (fun _ _ => rfl))) pa_nil)) pe_int) pe_int) pa_nil)) (pv 1)))))), ?_⟩
    refine ⟨_, rfl, p, _, _, _, rfl, rfl, SqL.of hp, atI_nat (j := 0) rfl, _, _, rfl, rfl, _, rfl, iteB (fun e => ?_) (fun e => ?_)⟩
    · have x0 : 0 < x := of_decide_eq_true e
      refine ⟨_, rfl, p, _, _, _, rfl, rfl, SqL.of hp, atI_nat (j := 0) rfl, _, rfl, _, _, rfl, ⟨m0, PyProof.noPylong_small (by omega)⟩, fun t ht => ?_⟩
      have npt : p ≠ t := ne_of_none hp ht
      refine ⟨t, _, rfl, SqT.of upd_same, rfl, _, _, rfl, _, rfl, p, _, _, 0, rfl, rfl, (by rw [upd_ne npt]; exact hp), rfl, ?_⟩
      refine ⟨_, _, rfl, rfl, _, rfl, ?_⟩
      refine q _ _ (fun b o e n => ?_) ⟨_, _, upd_same, Int.ediv_nonneg hx (by omega), hy, hy2⟩ (Int.emod_nonneg _ (by omega)) (Int.emod_lt_of_pos _ m0)
      rw [upd_ne n, upd_ne (ne_of_none e ht)]
      exact e
    · have z0 : 0 ≤ (y * 48271 + 11027) % 2147483629 := Int.emod_nonneg _ (by decide)
      have z1 : (y * 48271 + 11027) % 2147483629 < 2147483629 := Int.emod_lt_of_pos _ (by decide)
      refine ⟨_, rfl, p, _, _, _, rfl, rfl, SqL.of hp, atI_nat (j := 1) rfl, _, _, rfl, rfl, mulx_ok (a := 40) (b := 16) (by omega) (by decide) (by decide), _, _, rfl, rfl, .inl ⟨_, rfl, _, _, rfl, rfl, (show (0 : Int) < 2147483629 by decide), ?_⟩⟩
      refine ⟨_, rfl, p, _, _, 1, rfl, rfl, hp, rfl, ?_⟩
      refine ⟨_, rfl, p, _, _, _, rfl, rfl, SqL.of upd_same, atI_nat (j := 1) rfl, _, rfl, p, _, _, _, rfl, rfl, SqL.of upd_same, atI_nat (j := 1) rfl, _, _, rfl, rfl, mulx_ok (a := 32) (b := 32) (by omega) (by omega) (by decide), .inl ⟨_, rfl, _, _, rfl, rfl, (show (0 : Int) < 2147483563 by decide), _, _, rfl, rfl, ⟨by decide, by decide⟩, .inl ⟨_, rfl, _, rfl, _, _, rfl, rfl, m0, ?_⟩⟩⟩
      exact q _ _ but_upd ⟨_, _, upd_same, hx, z0, by omega⟩ (Int.emod_nonneg _ (by omega)) (Int.emod_lt_of_pos _ m0)
/-! ### _law_pick -/
def spPick : Sp := fun vs H Q _ => ∃ (p : Addr) (x : V), vs = [.ref p, x] ∧ PotAt H p ∧ ((∃ l xs, x = .ref l ∧ H l = some (.lst xs) ∧ xs ≠ [] ∧ xs.length ≤ 1000 ∧ l ≠ p ∧ ∀ H' v, But p H H' → PotAt H' p → v ∈ xs → Q v H') ∨
  ∃ z : Str, x = .str z ∧ 0 < z.length ∧ z.length ≤ 1000 ∧ ∀ H' c, But p H H' → PotAt H' p → c ∈ z.cps.toList → Q (.str ⟨#[c]⟩) H')
theorem ok_l_pick (T : Tx K mg C CE CL CR) (G_l_take : Fnc P w K mg base CX0 1 "_law_take" [] spTake) (F : FD K "_law_pick" "_law_pick" s_l_pick [] f fd) : FnG P w K mg base CX0 2 f fd ["_law_pot_here", "_law_some"] spPick := by
  refine ok0 F sc_l_pick (fun vs H Q E h => ?_) (fun cdv A outer s H vs Q E hr h => ?_)
  · obtain ⟨p, x, rfl, _⟩ := h
    rfl
  · obtain ⟨p, x, rfl, hp, h⟩ := h
    refine ⟨_, (pss_one (ps_ret (pe_ix ix_seq (pv 1) (pe_fn G_l_take (hr.mono (by decide)) pass0 (pa_cons (pv 0) (pa_cons (pe_callB call_len (by rfl) T.n_len (by decide +kernel) (pa_cons (pv 1) pa_nil)) pa_nil))) (fun _ _ => rfl)))), ?_⟩
    rcases h with ⟨l, xs, rfl, hl, hn, hz, hlp, q⟩ | ⟨z, rfl, h0, hz, q⟩
    · have h0 : 0 < xs.length := List.length_pos_iff.mpr hn
      refine ⟨_, rfl, _, rfl, _, rfl, _, xs.length, rfl, .inl ⟨xs, SqL.of hl, rfl⟩, p, xs.length, rfl, hp, by omega, by omega, fun H' d b hp' d0 d1 => ?_⟩
      obtain ⟨n, rfl⟩ := Int.eq_ofNat_of_zero_le d0
      have hn' : n < xs.length := by omega
      exact .inl ⟨l, xs, _, xs[n], rfl, rfl, SqL.of (b l _ hl hlp), atI_nat (List.getElem?_eq_getElem hn'), q H' _ b hp' (List.getElem_mem hn')⟩
    · refine ⟨_, rfl, _, rfl, _, rfl, _, z.length, rfl, ⟨small (by omega), rfl⟩, p, z.length, rfl, hp, by omega, by omega, fun H' d b hp' d0 d1 => ?_⟩
      obtain ⟨n, rfl⟩ := Int.eq_ofNat_of_zero_le d0
      have hn' : n < z.cps.toList.length := by
        have : z.cps.toList.length = z.length := rfl
        omega
      exact .inr (.inr ⟨z, _, z.cps.toList[n], rfl, rfl, small (by omega), atI_nat (List.getElem?_eq_getElem hn'), q H' _ b hp' (List.getElem_mem hn')⟩)
/-! ### _law_text -/
/-- a short text -/
def TOk (z : Str) : Prop := z.length ≤ 9 ∧ PyData.strOk z = true
theorem strOk_nil : PyData.strOk Str.empty = true := by decide +kernel
theorem join_ok : ∀ ys : List Str, (∀ y ∈ ys, y.length = 1 ∧ PyData.strOk y = true) → (Str.join "" ys).length = ys.length ∧ PyData.strOk (Str.join "" ys) = true
  | [], _ => ⟨by decide +kernel, by decide +kernel⟩
  | [y], h => ⟨(h y (List.mem_singleton.mpr rfl)).1, (h y (List.mem_singleton.mpr rfl)).2⟩
  | x :: z :: r, h => by
    obtain ⟨h1, h2⟩ := join_ok (z :: r) (fun y hy => h y (List.mem_cons_of_mem _ hy))
    obtain ⟨h3, h4⟩ := h x (List.mem_cons_self ..)
    have e : Str.join "" (x :: z :: r) = x ++ "" ++ Str.join "" (z :: r) := rfl
    rw [e]
    have l0 : (("" : Str)).length = 0 := by decide +kernel
    refine ⟨?_, okt_app (okt_app h4 (by decide +kernel)) h2⟩
    rw [strLen_append, strLen_append, h1, h3, l0, List.length_cons (a := x)]
    omega
def spText : Sp := fun vs H Q _ => ∃ p : Addr, vs = [.ref p] ∧ PotAt H p ∧ ∀ H' z, But p H H' → PotAt H' p → TOk z → Q (.str z) H'
theorem ok_l_text (T : Tx K mg C CE CL CR) (G_l_take : Fnc P w K mg base CX0 1 "_law_take" [] spTake) (G_l_pick : Fnc P w K mg base CX0 2 "_law_pick" [] spPick) (F : FD K "_law_text" "_law_text" s_l_text [] f fd) : FnG P w K mg base CX0 3 f fd ["_law_pot_here"] spText := by
  refine ok0 F sc_l_text (fun vs H Q E h => ?_) (fun cdv A outer s H vs Q E hr h => ?_)
  · obtain ⟨p, rfl, _⟩ := h
    rfl
  · obtain ⟨p, rfl, hp, q⟩ := h
    refine ⟨_, (pss_one (ps_ret (pe_join pe_str (pe_lc (own := [("_law_k", 1)]) rfl sc_l_text.nd (pi_range1 (by rfl) T.n_range (pa_cons (pe_fn G_l_take (hr.mono (by decide)) pass0 (pa_cons (pv 0) (pa_cons pe_int pa_nil))) pa_nil)) (blkOk_by (own := [("_law_k", 1)]) (N := n_l_text) (sc := defScope s_l_text) (by decide +kernel)) (fun _ _ _ _ _ => (pg_name (i := 1) sc_l_text.nd rfl (by first | exact Or.inl rfl | exact Or.inr rfl))) (fun _ _ _ _ _ => pts_nil) (fun _ _ _ _ _ => (pe_fn G_l_pick (hr.mono (by decide)) pass0 (pa_cons (pv 0) (pa_cons pe_str pa_nil)))))))), ?_⟩
    refine ⟨⟨_, rfl⟩, _, rfl, p, 10, rfl, hp, by decide, by decide, fun H1 d b1 hp1 d0 d1 => ⟨_, rfl, by omega, by omega, fun D hD => ?_⟩⟩
    have nD : D ≠ p := hp1.ne hD
    refine lc_range (lo := 0) (n := d.toNat) (fun i H' => But p H H' ∧ PotAt H' p ∧ ∃ ys : List Str, H' D = some (.lst (ys.map V.str)) ∧ ys.length = i ∧ ∀ y ∈ ys, y.length = 1 ∧ PyData.strOk y = true) ?_ ?_ ?_
    · exact ⟨b1.trans (But.of (same_upd hD)), hp1.upd hD, [], upd_same, rfl, fun y hy => by cases hy⟩
    · rintro i H2 hi ⟨b2, hp2, ys, h2, l2, ok⟩
      refine ⟨rfl, _, rfl, p, _, rfl, hp2, .inr ⟨_, rfl, by decide +kernel, by decide +kernel, fun H3 c b3 hp3 hc => ?_⟩⟩
      have h3 := b3 _ _ h2 nD
      have n3 := b1.free nD hD
      refine ⟨_, h3, ?_, fun b o e n => ?_, hp3.but but_upd nD.symm, ys ++ [⟨#[c]⟩], ?_, ?_, ?_⟩
      · rw [List.length_map, l2]
        exact Nat.lt_of_lt_of_le (show i < 10 by omega) (by decide)
      · rw [upd_ne (ne_of_none e n3)]
        exact (b2.trans b3) b o e n
      · rw [upd_same, List.map_append]
        rfl
      · rw [List.length_append, l2]
        rfl
      · intro y hy
        rcases List.mem_append.mp hy with z | z
        · exact ok y z
        · rw [List.mem_singleton.mp z]
          refine ⟨rfl, ?_⟩
          have all : ∀ c ∈ (("ab01 .\n" : String) : Str).cps.toList, PyData.strOk ⟨#[c]⟩ = true := by decide +kernel
          exact all c hc
    · rintro H2 ⟨b2, hp2, ys, h2, l2, ok⟩
      obtain ⟨j1, j2⟩ := join_ok ys ok
      have l1 : (ys.map (·.length)).sum = ys.length := by
        clear h2 l2 j1 j2
        induction ys with
        | nil => rfl
        | cons y r ih =>
          rw [List.map_cons, List.sum_cons, ih (fun z hz => ok z (List.mem_cons_of_mem _ hz)), (ok y (List.mem_cons_self ..)).1, List.length_cons]
          omega
      have l0 : (("" : Str)).length = 0 := by decide +kernel
      refine ⟨_, D, ys, rfl, rfl, .inl (SqL.of h2), ?_, ?_⟩
      · rw [l1, l0]
        omega
      · rw [TL.join_eq]
        exact q _ _ b2 hp2 ⟨by rw [j1]; omega, j2⟩
end
end K76

set_option Elab.async false
set_option linter.all false
set_option maxRecDepth 100000
set_option maxHeartbeats 4000000
/-! R76: _law_is_shown, _law_refused. -/
namespace K76
open PySem PySem.Spec PyProof.Rows L2 LL
section
variable {P : Program} {w : World} {K : PySem.W.Frag} {mg : Str → Option Value} {base : Heap} {C CE CL CR : Addr} {f : Addr} {fd : FuncData}
/-- a text, a number of the disks' sizes -/
def ZOk (z : Str) (n : Int) : Prop := z.length ≤ 2000 ∧ PyData.strOk z = true ∧ 0 ≤ n ∧ n ≤ z.length
theorem asc_okt {z : Str} (h : PyData.strOk z = true) : Asc z := fun c hc => Nat.lt_trans (okt_iff.mp h c hc) (by decide)
theorem log_small {n : Int} (h : n.natAbs < 2 ^ 100) : n.natAbs.log2 < 1920 := Nat.lt_of_lt_of_le (PySem.Flt.log2_lt_of (by decide) h) (by decide)
def sh (z : Str) (n : Int) : PyData := .list [.str z, .int n]
theorem sh_shw {z : Str} {n : Int} (h : ZOk z n) : Shw (sh z n) := by
  simp only [sh, Shw, ShwAll]
  obtain ⟨h1, h2, h3, h4⟩ := h
  exact ⟨asc_okt h2, log_small (by omega), trivial⟩
theorem sh_cost {z : Str} {n : Int} (h : ZOk z n) : cost (sh z n) ≤ sizeLine := by
  simp only [sh, cost, costAll]
  obtain ⟨h1, _⟩ := h
  exact small (by omega)
theorem sh_depth (z : Str) (n : Int) : (sh z n).depth ≤ 40 := by
  simp only [sh, PyData.depth, PyData.depthAll]
  decide
theorem sh_dp {H : Hp} {l : Addr} {z : Str} {n : Int} (h : H l = some (.lst [.str z, .int n])) : Dp K H (.ref l) (sh z n) := .lst (SqL.of h) (.cons (.str _) (.cons (.int _) .nil))
def spShown (C : Addr) : Sp := fun vs H Q _ => ∃ p m z n, vs = [.ref p, .ref m] ∧ DAt C H p z n ∧ H m = some (.lst [.str z, .int n]) ∧ ZOk z n ∧ ∀ H', Same H H' → Q (.bl true) H'
theorem ok_l_is_shown (T : Tx K mg C CE CL CR) (P_content : Prp P w K mg base CX0 1 C "content" (spGetT C)) (P_sure : Prp P w K mg base CX0 1 C "sure" (spGetS C)) (F : FD K "_law_is_shown" "_law_is_shown" s_l_is_shown [] f fd) :
    FnG P w K mg base CX0 3 f fd ["_law_disk", "_law_model"] (spShown C) := by
  refine ok0 F sc_l_is_shown (fun vs H Q E h => ?_) (fun cdv A outer s H vs Q E hr h => ?_)
  · obtain ⟨p, m, z, n, rfl, _⟩ := h
    rfl
  · obtain ⟨p, m, z, n, rfl, hp, hm, ok, q⟩ := h
    obtain ⟨dx, e⟩ := id hp
    refine ⟨_, (pss_one (ps_ret (pe_cmpR op_eq (pe_callB (call_reprS hr) (by rfl) T.n_repr (by decide +kernel) (pa_cons (pe_lst (pa_cons (pe_pr P_content (hr.mono (by decide)) pass0 (pv 0)) (pa_cons (pe_pr P_sure (hr.mono (by decide)) pass0 (pv 0)) pa_nil))) pa_nil)) (pe_callB (call_reprS hr) (by rfl) T.n_repr (by decide +kernel) (pa_cons (pv 1) pa_nil)) (nomark _)))), ?_⟩
    refine ⟨_, rfl, p, dx, _, rfl, e, p, z, n, rfl, hp, _, rfl, p, dx, _, rfl, e, p, z, n, rfl, hp, (by show 2 ≤ sizeLine; decide), fun l hl => ?_⟩
    refine ⟨l, sh z n, rfl, sh_dp upd_same, sh_shw ok, sh_depth z n, sh_cost ok, _, rfl, m, sh z n, rfl, sh_dp (same_upd hl _ _ hm), sh_shw ok, sh_depth z n, sh_cost ok, rfl, ?_⟩
    rw [decide_eq_true rfl]
    exact q _ (same_upd hl)
/-! ### _law_refused -/
/-- what a refusal tells: by the error's class and value -/
def Ech (K : PySem.W.Frag) (CL CR : Addr) (Q : VK) : XK := fun cls d G => ∃ v dd dv, d = some dd ∧ G dd = some (.xd [("value", v)]) ∧ Dq K G v dv ∧
  ((cls = .ref CL ∧ ∀ t, G t = none → Q (.ref t) (upd G t (.tup [.str "length", .str dv.shown, .bl true]))) ∨ (cls = .ref CR ∧ ∀ t, G t = none → Q (.ref t) (upd G t (.tup [.str "record", .str dv.shown, .bl true]))))
def TTr (K : PySem.W.Frag) (CL CR : Addr) : (XK → Hp → VK → Prop) → Hp → VK → Prop := fun tl H Q => ∀ R : VK, (∀ v G, (∀ t, G t = none → Q (.ref t) (upd G t (.tup [.str "told", v]))) → R v G) → ∀ t0, H t0 = none → tl (Ech K CL CR Q) (upd H t0 (.tup [.str "told", .non])) R
theorem look_v (v : V) : ([(("value" : Str), v)] : List (Str × V)).lookup ("value" : Str) = some v := by
  rw [show ([(("value" : Str), v)] : List (Str × V)) = putF "value" v [] from rfl, lookup_putF, if_pos rfl]
theorem tk_refused {k : Nat} (T : Tx K mg C CE CL CR) (XL : Xcl P w K mg base 1 "InvalidLength" CL "value") (XR : Xcl P w K mg base 1 "InvalidRecord" CR "value") (F : FD K "_law_refused" "_law_refused" s_l_refused [] f fd) (hm : mg "_law_refused" = some (.ref f)) (B : Binds K fd ["_law_call"] []) :
    Taker P w K mg base k "_law_refused" "_law_call" (TTr K CL CR) := by
  refine ⟨f, fd, _, _, _, n_l_refused, hm, F, sc_l_refused, rfl, .inl rfl, B, ?_⟩
  rintro X cdg q rfl rfl rfl rfl rfl g c' s H Q tl hr act hc h
  have gd : (X.A.deeper (envOfC "_law_refused" (defScope s_l_refused) s.heap.objs.size f cdg)).guards = some [] := hr.g
  have un := hr.r.units
  refine ⟨_, pss_cons (ps_set (i := 1) sc_l_refused.nd rfl (.inl rfl) (pe_tup (pa_cons pe_str (pa_cons pe_non pa_nil))))
    (pss_cons (ps_tryRow (i := 2) (n := "e") (Wo := fun _ _ _ _ => False) (tb := fun W D σ H => ∃ Ec : XK, (tAsg (tTup (tCons (tC (.str "told")) (tCons (fun τ G Q => τ[0]? = some (some (.ref g)) ∧ G c' = some (LamX.CodeO c' q) ∧ (∀ cls d G', Ec cls d G' → W cls d τ G') ∧ tl Ec G Q) tNil))) (gName 1)) D σ H)
        rfl rfl sc_l_refused.nd rfl rfl LamX.takes0 (fun W pn xe tk _ => ⟨fun pins s' σ H' D I z => ?_⟩)
      (.cons (c := .ref CL) ⟨by rfl, by decide, .inl T.g_InvalidLength⟩ (fun e oe cls d pn hz hf => pss_one (ps_set (i := 1) sc_l_refused.nd rfl (.inl rfl) (pe_tup (pa_cons pe_str (pa_cons (pe_callB (call_reprV (K := X.K) (by rfl) gd un) (by rfl) T.n_repr (by decide +kernel) (pa_cons (pe_xf XL.xf XL.nf hz hf (pv 2)) pa_nil))
          (pa_cons (pe_callB (call_isD XL.ec hz hf) (by rfl) T.n_isinstance (by decide +kernel) (pa_cons (pv 2) (pa_cons (pe_glob (v := .ref CE) (by rfl) T.g_LeastlogError rfl) pa_nil))) pa_nil))))))
        (.cons (c := .ref CR) ⟨by rfl, by decide, .inl T.g_InvalidRecord⟩ (fun e oe cls d pn hz hf => pss_one (ps_set (i := 1) sc_l_refused.nd rfl (.inl rfl) (pe_tup (pa_cons pe_str (pa_cons (pe_callB (call_reprV (K := X.K) (by rfl) gd un) (by rfl) T.n_repr (by decide +kernel) (pa_cons (pe_xf XR.xf XR.nf hz hf (pv 2)) pa_nil))
          (pa_cons (pe_callB (call_isD XR.ec hz hf) (by rfl) T.n_isinstance (by decide +kernel) (pa_cons (pv 2) (pa_cons (pe_glob (v := .ref CE) (by rfl) T.g_LeastlogError rfl) pa_nil))) pa_nil)))))) .nil)))
    (pss_one (ps_ret (pv 1)))), ?_⟩
  · obtain ⟨Ec, z⟩ := z
    exact (pss_one (ps_set (i := 1) sc_l_refused.nd rfl (.inl rfl) (pe_tup (pa_cons pe_str (pa_cons (act W pn xe Ec _ _ tk) pa_nil))))).run pins s' σ H' D I z
  · refine ⟨(by show 2 ≤ sizeLine; decide), fun t0 n0 => ⟨Ech X.K CL CR Q, rfl, same_upd n0 _ _ hc, fun cls d G' z => ?_, ?_⟩⟩
    · obtain ⟨v, dd, dv, rfl, hd, dq, h⟩ := z
      rcases h with ⟨rfl, q⟩ | ⟨rfl, q⟩
      · exact ⟨true, T.xLL, fun _ e he => ⟨_, rfl, rfl, rfl, dd, _, v, rfl, hd, look_v v, v, dv, rfl, dq, _, rfl, _, _, _, dd, _, rfl, (fun u r => r), rfl, rfl, hd, T.kLE, (by show 3 ≤ sizeLine; decide), fun t ht => ⟨_, rfl, q t ht⟩⟩, fun z => nomatch z⟩
      · exact ⟨false, T.xRL, (fun z => nomatch z), fun _ => ⟨true, T.xRR, fun _ e he => ⟨_, rfl, rfl, rfl, dd, _, v, rfl, hd, look_v v, v, dv, rfl, dq, _, rfl, _, _, _, dd, _, rfl, (fun u r => r), rfl, rfl, hd, T.kRE, (by show 3 ≤ sizeLine; decide), fun t ht => ⟨_, rfl, q t ht⟩⟩, fun z => nomatch z⟩⟩
    · exact h _ (fun v G z => ⟨(by show 2 ≤ sizeLine; decide), fun t ht => ⟨_, rfl, z t ht⟩⟩) t0 n0
end
end K76

set_option Elab.async false
set_option linter.all false
set_option maxRecDepth 100000
set_option maxHeartbeats 4000000
/-! X76a: odd values, tables. -/
namespace K76
open PySem PySem.Spec PyProof.Rows L2 LL
/-! ### heaps with tables -/
def ButN (p : Addr) (H H' : Hp) : Prop := ∀ b o, H b = some o → b ≠ p → (∀ ps, o ≠ .tbl ps) → H' b = some o
theorem ButN.trans {p : Addr} {H H1 H2 : Hp} (a : ButN p H H1) (b : ButN p H1 H2) : ButN p H H2 := fun c o e n t => b c o (a c o e n t) n t
theorem ButN.of {p : Addr} {H H' : Hp} (a : But p H H') : ButN p H H' := fun c o e n _ => a c o e n
theorem ButN.ext {p : Addr} {H H' : Hp} (a : LamX.ExtN H H') : ButN p H H' := fun c o e _ t => a c o e t
theorem ButN.same {p : Addr} {H H' : Hp} (a : Same H H') : ButN p H H' := fun c o e _ _ => a c o e
theorem PotAt.ext {H H' : Hp} {p : Addr} (h : PotAt H p) (b : LamX.ExtN H H') : PotAt H' p := let ⟨x, y, e, z⟩ := h; ⟨x, y, b _ _ e (fun _ z => by cases z), z⟩
theorem DAt.ext {C : Addr} {H H' : Hp} {p : Addr} {z : Str} {n : Int} (h : DAt C H p z n) (b : LamX.ExtN H H') : DAt C H' p z n := let ⟨dx, e⟩ := h; ⟨dx, b _ _ e (fun _ z => by cases z)⟩
theorem DAt.kp {C : Addr} {H H' : Hp} {p : Addr} {z : Str} {n : Int} (h : DAt C H p z n) (b : Kp H H') : DAt C H' p z n := let ⟨dx, e⟩ := h; ⟨dx, b _ _ e (fun _ z => by cases z)⟩
theorem lst_ext {H H' : Hp} {l : Addr} {xs : List V} (h : H l = some (.lst xs)) (b : LamX.ExtN H H') : H' l = some (.lst xs) := b _ _ h (fun _ z => by cases z)
theorem tabs_kp {T : List (Addr × Str)} {H H' : Hp} (t : LamX.Tabs T H) (k : Kp H H') : LamX.Tabs T H' := fun p hp => by
  obtain ⟨ps, h1, h2, h3⟩ := t p hp
  refine ⟨ps, k _ _ h1 (fun _ z => by cases z), h2, fun pos cv hc => ?_⟩
  obtain ⟨c, e1, e2⟩ := h3 pos cv hc
  exact ⟨c, e1, k _ _ e2 (fun _ z => by unfold LamX.CodeO at z; cases z)⟩
theorem tabs_same {T : List (Addr × Str)} {H H' : Hp} (t : LamX.Tabs T H) (k : Same H H') : LamX.Tabs T H' := tabs_kp t (Kp.of k)
/-! ### the odd values -/
section
variable {K : PySem.W.Frag}
theorem dq_of {H : Hp} {v : V} {d : PyData} (h : Dp K H v d) (s : Shw d) (p : d.depth ≤ 40) (c : cost d ≤ sizeLine) : Dq K H v d := .dat h s p c
/-- told by repr as d, whatever else is made -/
def Tld (K : PySem.W.Frag) (H : Hp) (v : V) (d : PyData) : Prop := PyData.strOk d.shown = true ∧ ∀ H', LamX.ExtN H H' → Dq K H' v d
theorem Tld.ext {H H' : Hp} {v : V} {d : PyData} (h : Tld K H v d) (s : LamX.ExtN H H') : Tld K H' v d := ⟨h.1, fun H2 s2 => h.2 H2 (s.trans s2)⟩
theorem okt_int (i : Int) : PyData.strOk (PyData.shown (.int i)) = true := by
  simp only [PyData.shown]
  exact okt_of _
theorem tld_non {H : Hp} : Tld K H .non .none := ⟨by decide +kernel, fun _ _ => dq_of .non (by simp only [Shw]) (by decide +kernel) (by decide +kernel)⟩
theorem tld_bl {H : Hp} (b : Bool) : Tld K H (.bl b) (.bool b) := ⟨by cases b <;> decide +kernel, fun _ _ => dq_of (.bl b) (by simp only [Shw]) (by cases b <;> decide +kernel) (by cases b <;> decide +kernel)⟩
theorem tld_int {H : Hp} {i : Int} (h : i.natAbs < 2 ^ 100) : Tld K H (.int i) (.int i) := by
  refine ⟨okt_int i, fun _ _ => dq_of (.int i) (by simp only [Shw]; exact log_small h) ?_ ?_⟩
  · simp only [PyData.depth]
    decide
  · simp only [cost]
    exact small (by decide)
theorem tld_zero {H : Hp} : Tld K H (.str "0") (.str "0") := ⟨by decide +kernel, fun _ _ => dq_of (.str _) (by simp only [Shw]; exact asc_of _) (by decide +kernel) (by decide +kernel)⟩
theorem tld_list1 {H : Hp} {l : Addr} {i : Int} (h : i.natAbs < 2 ^ 100) (hl : H l = some (.lst [.int i])) : Tld K H (.ref l) (.list [.int i]) := by
  refine ⟨?_, fun H' s => dq_of (.lst (SqL.of (lst_ext hl s)) (.cons (.int _) .nil)) (by simp only [Shw, ShwAll]; exact ⟨log_small h, trivial⟩) ?_ ?_⟩
  · simp only [PyData.shown, PyData.shownAll, listText, textFrom]
    exact okt_app (okt_app (okt_app (okt_of _) (okt_of _)) (okt_of _)) (okt_of _)
  · simp only [PyData.depth, PyData.depthAll]
    decide
  · simp only [cost, costAll]
    exact small (by decide)
theorem tld_a {H : Hp} {l : Addr} (hl : H l = some (.lst [.str "a"])) : Tld K H (.ref l) (.list [.str "a"]) :=
  ⟨by decide +kernel, fun H' s => dq_of (.lst (SqL.of (lst_ext hl s)) (.cons (.str _) .nil)) (by simp only [Shw, ShwAll]; exact ⟨asc_of _, trivial⟩) (by decide +kernel) (by decide +kernel)⟩
theorem tld_nil {H : Hp} {l : Addr} (hl : H l = some (.lst [])) : Tld K H (.ref l) (.list []) :=
  ⟨by decide +kernel, fun H' s => dq_of (.lst (SqL.of (lst_ext hl s)) .nil) (by simp only [Shw, ShwAll]) (by decide +kernel) (by decide +kernel)⟩
theorem tld_t0 {H : Hp} {l : Addr} (hl : H l = some (.tup [.int 0])) : Tld K H (.ref l) (.tuple [.int 0]) :=
  ⟨by decide +kernel, fun H' s => dq_of (.tup (SqT.of (s _ _ hl (fun _ z => by cases z))) (.cons (.int _) .nil)) (by simp only [Shw, ShwAll]; decide +kernel) (by decide +kernel) (by decide +kernel)⟩
theorem tld_tnil {H : Hp} {l : Addr} (hl : H l = some (.tup [])) : Tld K H (.ref l) (.tuple []) :=
  ⟨by decide +kernel, fun H' s => dq_of (.tup (SqT.of (s _ _ hl (fun _ z => by cases z))) .nil) (by simp only [Shw, ShwAll]) (by decide +kernel) (by decide +kernel)⟩
theorem tld_d {H : Hp} {l : Addr} (hl : H l = some (.dK [])) : Tld K H (.ref l) (.dict []) := ⟨by decide +kernel, fun H' s => .emp (s _ _ hl (fun _ z => by cases z))⟩
theorem kNoneI : PySem.W.kitOne K (.type "NoneType") (.type "int") = some false := kit_ty (by decide +kernel)
theorem kStrI : PySem.W.kitOne K (.type "str") (.type "int") = some false := kit_ty (by decide +kernel)
theorem kLstI : PySem.W.kitOne K (.type "list") (.type "int") = some false := kit_ty (by decide +kernel)
theorem kTupI : PySem.W.kitOne K (.type "tuple") (.type "int") = some false := kit_ty (by decide +kernel)
theorem kDicI : PySem.W.kitOne K (.type "dict") (.type "int") = some false := kit_ty (by decide +kernel)
theorem kNoneS : PySem.W.kitOne K (.type "NoneType") (.type "str") = some false := kit_ty (by decide +kernel)
theorem kIntS : PySem.W.kitOne K (.type "int") (.type "str") = some false := kit_ty (by decide +kernel)
theorem kBoolS : PySem.W.kitOne K (.type "bool") (.type "str") = some false := kit_ty (by decide +kernel)
theorem kLstS : PySem.W.kitOne K (.type "list") (.type "str") = some false := kit_ty (by decide +kernel)
theorem kTupS : PySem.W.kitOne K (.type "tuple") (.type "str") = some false := kit_ty (by decide +kernel)
theorem kDicS : PySem.W.kitOne K (.type "dict") (.type "str") = some false := kit_ty (by decide +kernel)
theorem ty_lst {H H' : Hp} {l : Addr} {xs : List V} (h : H l = some (.lst xs)) (s : LamX.ExtN H H') : TyX K H' (.ref l) (.type "list") := .base (.lst (lst_ext h s))
theorem ty_tup {H H' : Hp} {l : Addr} {xs : List V} (h : H l = some (.tup xs)) (s : LamX.ExtN H H') : TyX K H' (.ref l) (.type "tuple") := .base (.tup (s _ _ h (fun _ z => by cases z)))
theorem ty_dK {H H' : Hp} {l : Addr} (h : H l = some (.dK [])) (s : LamX.ExtN H H') : TyX K H' (.ref l) (.type "dict") := .base (.dK (s _ _ h (fun _ z => by cases z)))
theorem odd_ok {H : Hp} {v : V} {n : Int} {m : Nat} {l1 t1 d1 : Addr} (hl : H l1 = some (.lst [.int m])) (ht : H t1 = some (.tup [.int 0])) (hd : H d1 = some (.dK [])) (n0 : 0 ≤ n) (n1 : n ≤ m) (m1 : m ≤ 2000)
    (hv : v ∈ [V.non, .int (n - 1), .int (m + 1), .int (-1), .bl true, .bl false, .str "0", .ref l1, .ref t1, .int (10 ^ (29 : Int).toNat), .int (-10 ^ (29 : Int).toNat), .ref d1]) : ∃ d, Tld K H v d ∧ BadLen K H v n m := by
  simp only [List.mem_cons, List.not_mem_nil, or_false] at hv
  have p1 : ((10 : Int) ^ (29 : Int).toNat) = 100000000000000000000000000000 := by decide +kernel
  rcases hv with rfl | rfl | rfl | rfl | rfl | rfl | rfl | rfl | rfl | rfl | rfl | rfl
  · exact ⟨_, tld_non, .inl ⟨_, fun _ _ => .base .non, kNoneI⟩⟩
  · exact ⟨_, tld_int (by omega), .inr (.inr ⟨_, rfl, by omega⟩)⟩
  · exact ⟨_, tld_int (by omega), .inr (.inr ⟨_, rfl, by omega⟩)⟩
  · exact ⟨_, tld_int (by decide), .inr (.inr ⟨_, rfl, by omega⟩)⟩
  · exact ⟨_, tld_bl _, .inr (.inl ⟨_, rfl⟩)⟩
  · exact ⟨_, tld_bl _, .inr (.inl ⟨_, rfl⟩)⟩
  · exact ⟨_, tld_zero, .inl ⟨_, fun _ _ => .base (.str _), kStrI⟩⟩
  · exact ⟨_, tld_list1 (by omega) hl, .inl ⟨_, fun _ s => ty_lst hl s, kLstI⟩⟩
  · exact ⟨_, tld_t0 ht, .inl ⟨_, fun _ s => ty_tup ht s, kTupI⟩⟩
  · exact ⟨_, tld_int (by decide +kernel), .inr (.inr ⟨_, rfl, by omega⟩)⟩
  · exact ⟨_, tld_int (by decide +kernel), .inr (.inr ⟨_, rfl, by omega⟩)⟩
  · exact ⟨_, tld_d hd, .inl ⟨_, fun _ s => ty_dK hd s, kDicI⟩⟩
theorem wrong_ok {H : Hp} {v : V} {l1 t1 d1 l2 : Addr} (hl : H l1 = some (.lst [.str "a"])) (ht : H t1 = some (.tup [])) (hd : H d1 = some (.dK [])) (h2 : H l2 = some (.lst []))
    (hv : v ∈ [V.non, .int 0, .bl true, .ref l1, .ref t1, .ref d1, .ref l2, .int 7]) : ∃ d, Tld K H v d ∧ NoTxt K H v := by
  simp only [List.mem_cons, List.not_mem_nil, or_false] at hv
  rcases hv with rfl | rfl | rfl | rfl | rfl | rfl | rfl | rfl
  · exact ⟨_, tld_non, _, fun _ _ => .base .non, kNoneS⟩
  · exact ⟨_, tld_int (by decide), _, fun _ _ => .base (.int _), kIntS⟩
  · exact ⟨_, tld_bl _, _, fun _ _ => .base (.bl _), kBoolS⟩
  · exact ⟨_, tld_a hl, _, fun _ s => ty_lst hl s, kLstS⟩
  · exact ⟨_, tld_tnil ht, _, fun _ s => ty_tup ht s, kTupS⟩
  · exact ⟨_, tld_d hd, _, fun _ s => ty_dK hd s, kDicS⟩
  · exact ⟨_, tld_nil h2, _, fun _ s => ty_lst h2 s, kLstS⟩
  · exact ⟨_, tld_int (by decide), _, fun _ _ => .base (.int _), kIntS⟩
/-- a refusal as a tuple, and the one that is due -/
def rfs (x s : Str) : PyData := .tuple [.str x, .str s, .bool true]
theorem rfs_lay {x s : Str} (hx : PyData.strOk x = true) (hs : PyData.strOk s = true) : PyData.canLay0 (rfs x s) = true := by
  simp [rfs, PyData.canLay0, PyData.canLayAll0, hx, hs]
theorem rfs_shp {x s : Str} (hx : PyData.strOk x = true) (hs : PyData.strOk s = true) : SeqAt.shaped (rfs x s) = true := by
  unfold SeqAt.shaped
  rw [rfs_lay hx hs]
  simp [rfs, PyData.depth, PyData.depthAll]
theorem rfs_dp {H : Hp} {t : Addr} {x s : Str} (h : H t = some (.tup [.str x, .str s, .bl true])) : Dp K H (.ref t) (rfs x s) := .tup (SqT.of h) (.cons (.str _) (.cons (.str _) (.cons (.bl _) .nil)))
end
end K76

set_option Elab.async false
set_option linter.all false
set_option maxRecDepth 100000
set_option maxHeartbeats 4000000
/-! X76: _law_refusals_right. -/
namespace K76
open PySem PySem.Spec PyProof.Rows L2 LL
abbrev s_l_refusals_right : Stmt := top 14
abbrev n_l_refusals_right : List Str := ["_law_pot_here", "_law_disk", "_law_model", "_law_size", "_law_odd", "_law_wrong"]
theorem sc_l_refusals_right : FnScope n_l_refusals_right ["_law_pot_here", "_law_disk", "_law_model"] (defScope s_l_refusals_right) := ⟨rfl, rfl, rfl, by decide +kernel, rfl, by decide +kernel, by decide +kernel⟩
section
variable {P : Program} {w : World} {K : PySem.W.Frag} {mg : Str → Option Value} {base : Heap} {C CE CL CR : Addr} {f : Addr} {fd : FuncData}
theorem code_ref {x qual : Str} {params : Arguments} {body : List Stmt} {scope : Scope} {dvs : List V} {kws : List (Str × V)} (F : FunD K x qual params body scope dvs kws f fd) : (fdAt K f).map FuncData.code = some (.ref (cOf K f)) := by
  obtain ⟨oc, od, dV, kV, doc, pm, an, cdv, ct, osl, rfl, lk, hcd, _, _⟩ := F.ex
  obtain ⟨c, rfl⟩ := He.codeIn_ref hcd
  have e : (fdAt K f).map FuncData.code = some (.ref c) := by
    unfold fdAt
    rw [lk]
    rfl
  rw [cOf_of e]
  exact e
/-- the lambdas' qualified name -/
def lamQ : Str := (envOfC "_law_refusals_right" (defScope s_l_refusals_right) 0 0 .none).qual ++ "<lambda>"
def spRef (C : Addr) (T : List (Addr × Str)) : Sp := fun vs H Q _ => ∃ p q m z n, vs = [.ref p, .ref q, .ref m] ∧ PotAt H p ∧ DAt C H q z n ∧ H m = some (.lst [.str z, .int n]) ∧ m ≠ p ∧ ZOk z n ∧ LamX.Tabs T H ∧
  ∀ H', ButN p H H' → PotAt H' p → LamX.Tabs T H' → Q (.bl true) H'
theorem ok_l_refusals (T : Tx K mg C CE CL CR) (G_l_pick : Fnc P w K mg base CX0 2 "_law_pick" [] spPick) (G_l_refused : Taker P w K mg base 9 "_law_refused" "_law_call" (TTr K CL CR)) (M_stopped : Mth P w K mg base (L2.CX P w) 6 C "stopped" [] (spStop K C CL)) (M_append : Mth P w K mg base (L2.CX P w) 4 C "append" [] (spApp K C CR))
    (K_Disk1 : Mkf P w K mg base (L2.CX P w) 4 "Disk" (spMk1 K C CR)) (G_l_is_shown : Fnc P w K mg base CX0 3 "_law_is_shown" [] (spShown C)) (F : FD K "_law_refusals_right" "_law_refusals_right" s_l_refusals_right [] f fd) (TB : LamX.TabB base mg (cOf K f) (tOf K f)) :
    FnG P w K mg base CX0 11 f fd ["_law_pot_here", "_law_disk", "_law_model"] (spRef C [(tOf K f, lamQ)]) := by
  refine okC F sc_l_refusals_right (fun vs H Q E h => ?_) (fun cdv ec A outer s H vs Q E hr h => ?_)
  · obtain ⟨p, q, m, z, n, rfl, _⟩ := h
    rfl
  · obtain ⟨p, q, m, z, n, rfl, hp, hq, hm, nmp, ok, tb, q1⟩ := h
    have ecd : cdv = .ref (cOf K f) := Option.some.inj (ec.symm.trans (code_ref F))
    subst ecd
    have hcode : (cxOf CX0 P w K mg base n_l_refusals_right "_law_refusals_right" (defScope s_l_refusals_right) f (.ref (cOf K f)) A outer s H E).nox.env.code = .ref (cOf K f) := rfl
    refine ⟨_, (pss_cons (ps_set (i := 3) sc_l_refusals_right.nd rfl (by first | exact Or.inl rfl | exact Or.inr rfl) (pe_callB call_len_str (by rfl) T.n_len (by decide +kernel) (pa_cons (pe_ix ix_list (pv 2) pe_int (fun _ _ => rfl)) pa_nil)))
      (pss_cons (ps_set (i := 4) sc_l_refusals_right.nd rfl (by first | exact Or.inl rfl | exact Or.inr rfl) (pe_fn G_l_pick (hr.mono (by decide)) pass0 (pa_cons (pv 0) (pa_cons (pe_lst (pa_cons pe_non (pa_cons (pe_op op_sub (pe_ix ix_list (pv 2) pe_int (fun _ _ => rfl)) pe_int) (pa_cons (pe_op op_add (pv 3) pe_int) (pa_cons (pe_un un_neg pe_int) (pa_cons pe_bl (pa_cons pe_bl (pa_cons pe_str (pa_cons (pe_lst (pa_cons (pv 3) pa_nil)) (pa_cons (pe_tup (pa_cons pe_int pa_nil)) (pa_cons (pe_op op_pow pe_int pe_int) (pa_cons (pe_un un_neg (pe_op op_pow pe_int pe_int)) (pa_cons pe_dnewK pa_nil))))))))))))) pa_nil))))
      (pss_cons (ps_if (pt_cmpR (op_neD hr.r.units) (pe_lamG G_l_refused TB hcode (List.mem_singleton.mpr rfl) (fun _ hp _ => congrArg Prod.snd (List.mem_singleton.mp hp)) (hr.mono (by decide)) (LamX.lamS_by (sc := defScope s_l_refusals_right) (by decide +kernel)) (fun _ _ _ _ _ _ _ hr => (pe_mt M_stopped (hr.mono (by decide)) (passes_call (takes_of rfl rfl rfl rfl) (fun _ _ _ _ h => h)) (pv 1) (pa_cons (pv 4) pa_nil)))) (pe_tup (pa_cons pe_str (pa_cons (pe_callB (call_reprV (K := K) (by rfl) hr.g hr.r.units) (by rfl) T.n_repr (by decide +kernel) (pa_cons (pv 4) pa_nil)) (pa_cons pe_bl pa_nil)))) (nomark _)) (pss_one (ps_ret pe_bl)) pss_nil)
      (pss_cons (ps_set (i := 5) sc_l_refusals_right.nd rfl (by first | exact Or.inl rfl | exact Or.inr rfl) (pe_fn G_l_pick (hr.mono (by decide)) pass0 (pa_cons (pv 0) (pa_cons (pe_lst (pa_cons pe_non (pa_cons pe_int (pa_cons pe_bl (pa_cons (pe_lst (pa_cons pe_str pa_nil)) (pa_cons (pe_tup pa_nil) (pa_cons pe_dnewK (pa_cons (pe_lst pa_nil) (pa_cons pe_int pa_nil))))))))) pa_nil))))
      (pss_cons (ps_if (pt_cmpR (op_neD hr.r.units) (pe_lamG G_l_refused TB hcode (List.mem_singleton.mpr rfl) (fun _ hp _ => congrArg Prod.snd (List.mem_singleton.mp hp)) (hr.mono (by decide)) (LamX.lamS_by (sc := defScope s_l_refusals_right) (by decide +kernel)) (fun _ _ _ _ _ _ _ hr => (pe_mt M_append (hr.mono (by decide)) (passes_call (takes_of rfl rfl rfl rfl) (fun _ _ _ _ h => h)) (pv 1) (pa_cons (pv 5) pa_nil)))) (pe_tup (pa_cons pe_str (pa_cons (pe_callB (call_reprV (K := K) (by rfl) hr.g hr.r.units) (by rfl) T.n_repr (by decide +kernel) (pa_cons (pv 5) pa_nil)) (pa_cons pe_bl pa_nil)))) (nomark _)) (pss_one (ps_ret pe_bl)) pss_nil)
      (pss_one (ps_ret (pe_and (pe_cmpR (op_eqD hr.r.units) (pe_lamG G_l_refused TB hcode (List.mem_singleton.mpr rfl) (fun _ hp _ => congrArg Prod.snd (List.mem_singleton.mp hp)) (hr.mono (by decide)) (LamX.lamS_by (sc := defScope s_l_refusals_right) (by decide +kernel)) (fun _ _ _ _ _ _ _ hr => (pe_mf K_Disk1 (hr.mono (by decide)) (passes_call (takes_of rfl rfl rfl rfl) (fun _ _ _ _ h => h)) (pa_cons (pv 5) pa_nil)))) (pe_tup (pa_cons pe_str (pa_cons (pe_callB (call_reprV (K := K) (by rfl) hr.g hr.r.units) (by rfl) T.n_repr (by decide +kernel) (pa_cons (pv 5) pa_nil)) (pa_cons pe_bl pa_nil)))) (nomark _)) (pe_one (pe_fn G_l_is_shown (hr.mono (by decide)) pass0 (pa_cons (pv 1) (pa_cons (pv 2) pa_nil)))))))))))), ?_⟩
    obtain ⟨z1, z2, z3, z4⟩ := id ok
    have i0 : atI [V.str z, V.int n] 0 = some (.str z) := atI_nat (j := 0) rfl
    have i1 : atI [V.str z, V.int n] 1 = some (.int n) := atI_nat (j := 1) rfl
    -- size, odd
    refine ⟨_, rfl, m, _, _, _, rfl, rfl, SqL.of hm, i0, _, rfl, small (by omega), ?_⟩
    refine ⟨_, rfl, _, rfl, m, _, _, _, rfl, rfl, SqL.of hm, i1, _, _, rfl, rfl, _, rfl, _, _, rfl, rfl, _, rfl, _, rfl, (by show 1 ≤ sizeLine; decide), fun l1 a1 => ⟨(by show 1 ≤ sizeLine; decide), fun t1 a2 => ?_⟩⟩
    refine ⟨_, _, rfl, rfl, ⟨by decide, by decide, by decide⟩, _, _, rfl, rfl, ⟨by decide, by decide, by decide⟩, _, rfl, fun d1 a3 => ⟨(by show 12 ≤ sizeLine; decide), fun lo a4 => ?_⟩⟩
    have sA : Same H (upd (upd (upd (upd H l1 (.lst [.int z.length])) t1 (.tup [.int 0])) d1 (.dK [])) lo (.lst [.non, .int (n - 1), .int (z.length + 1), .int (-1), .bl true, .bl false, .str "0", .ref l1, .ref t1, .int (10 ^ (29 : Int).toNat), .int (-10 ^ (29 : Int).toNat), .ref d1])) := (same_upd a1).trans ((same_upd a2).trans ((same_upd a3).trans (same_upd a4)))
    have hl1 := same_upd (o := .lst [.non, .int (n - 1), .int (z.length + 1), .int (-1), .bl true, .bl false, .str "0", .ref l1, .ref t1, .int (10 ^ (29 : Int).toNat), .int (-10 ^ (29 : Int).toNat), .ref d1]) a4 _ _ (same_upd (o := .dK []) a3 _ _ (same_upd (o := .tup [.int 0]) a2 l1 (.lst [.int z.length]) upd_same))
    have ht1 := same_upd (o := .lst [.non, .int (n - 1), .int (z.length + 1), .int (-1), .bl true, .bl false, .str "0", .ref l1, .ref t1, .int (10 ^ (29 : Int).toNat), .int (-10 ^ (29 : Int).toNat), .ref d1]) a4 _ _ (same_upd (o := .dK []) a3 t1 (.tup [.int 0]) upd_same)
    have hd1 := same_upd (o := .lst [.non, .int (n - 1), .int (z.length + 1), .int (-1), .bl true, .bl false, .str "0", .ref l1, .ref t1, .int (10 ^ (29 : Int).toNat), .int (-10 ^ (29 : Int).toNat), .ref d1]) a4 d1 (.dK []) upd_same
    have hpA := hp.same sA
    have nl1 := hp.ne a1
    have nt1 := (hp.same (same_upd (o := .lst [.int z.length]) a1)).ne a2
    have nd1 := ((hp.same (same_upd (o := .lst [.int z.length]) a1)).same (same_upd (o := .tup [.int 0]) a2)).ne a3
    have nlo := (((hp.same (same_upd (o := .lst [.int z.length]) a1)).same (same_upd (o := .tup [.int 0]) a2)).same (same_upd (o := .dK []) a3)).ne a4
    refine ⟨p, _, rfl, hpA, .inl ⟨lo, _, rfl, upd_same, by simp, (by show 12 ≤ 1000; decide), nlo, fun H5 v b5 hp5 hv => ?_⟩⟩
    have hl5 := b5 _ _ hl1 nl1
    have ht5 := b5 _ _ ht1 nt1
    have hd5 := b5 _ _ hd1 nd1
    have k5 : Kp H H5 := (Kp.of sA).trans (hpA.kp b5)
    have bn5 : ButN p H H5 := (ButN.same sA).trans (.of b5)
    have tb5 := tabs_kp tb k5
    have hq5 := hq.kp k5
    have hm5 : H5 m = some (.lst [.str z, .int n]) := b5 _ _ (sA _ _ hm) nmp
    obtain ⟨dv, tl, bad⟩ := odd_ok (K := K) hl5 ht5 hd5 z3 z4 z1 hv
    clear hl5 ht5 hd5 hl1 ht1 hd1 a1 a2 a3 a4 sA hpA b5 k5 tb hq hm hp nl1 nt1 nd1 nlo
    -- the first refusal
    refine ⟨tb5, fun H6 eN tb6 R hR t0 n0 => ?_⟩
    have e7 : LamX.ExtN H5 (upd H6 t0 (.tup [.str "told", .non])) := eN.trans (.of (same_upd n0))
    have hq7 := hq5.ext e7
    obtain ⟨dx, eq7⟩ := id hq7
    refine ⟨_, rfl, q, dx, _, rfl, eq7, look_no _ _ (by decide +kernel) (by decide +kernel), _, rfl, q, v, z, n, rfl, hq7, by omega, .inr ⟨bad.ext e7, fun H8 d s8 nd ed => ⟨v, d, dv, rfl, ed, tl.2 _ (e7.trans (.of s8)), .inl ⟨rfl, fun t nt => ?_⟩⟩⟩⟩
    have e9 : LamX.ExtN H5 (upd H8 t (.tup [.str "length", .str dv.shown, .bl true])) := e7.trans ((LamX.ExtN.of s8).trans (.of (same_upd nt)))
    refine ⟨_, rfl, v, dv, rfl, tl.2 _ e9, (by show 3 ≤ sizeLine; decide), fun u nu => ?_⟩
    have sx := okt_of "length"
    refine ⟨rfs "length" dv.shown, rfs "length" dv.shown, rfs_dp (same_upd nu _ _ upd_same), rfs_dp upd_same, rfs_shp sx tl.1, rfs_shp sx tl.1, _, rfl, iteN (by rw [SeqAt.eqv_refl _ (rfs_lay sx tl.1)]; rfl) ?_⟩
    have eA : LamX.ExtN H5 (upd (upd H8 t (.tup [.str "length", .str dv.shown, .bl true])) u (.tup [.str "length", .str dv.shown, .bl true])) := e9.trans (.of (same_upd nu))
    have tbA : LamX.Tabs [(tOf K f, lamQ)] (upd (upd H8 t (.tup [.str "length", .str dv.shown, .bl true])) u (.tup [.str "length", .str dv.shown, .bl true])) := tabs_same tb6 ((same_upd n0).trans (s8.trans ((same_upd nt).trans (same_upd nu))))
    have hpA := hp5.ext eA
    have hqA := hq5.ext eA
    have hmA := lst_ext hm5 eA
    have bnA : ButN p H _ := bn5.trans (ButN.ext eA)
    clear e9 e7 eN tb6 hR n0 hq7 eq7 s8 nd ed nt nu hv bad tl tb5 hp5 hq5 hm5 bn5 eA
    generalize upd (upd H8 t (.tup [.str "length", .str dv.shown, .bl true])) u (.tup [.str "length", .str dv.shown, .bl true]) = HA at *
    -- wrong
    refine ⟨_, rfl, (by show 1 ≤ sizeLine; decide), fun l2 a1 => ⟨(by show 0 ≤ sizeLine; decide), fun t2 a2 => fun d2 a3 => ⟨(by show 0 ≤ sizeLine; decide), fun l3 a4 => ⟨(by show 8 ≤ sizeLine; decide), fun lo2 a5 => ?_⟩⟩⟩⟩
    have s1 := same_upd (o := .lst [.str "a"]) a1
    have s2 := same_upd (o := .tup []) a2
    have s3 := same_upd (o := .dK []) a3
    have s4 := same_upd (o := .lst []) a4
    have s5 := same_upd (o := .lst [.non, .int 0, .bl true, .ref l2, .ref t2, .ref d2, .ref l3, .int 7]) a5
    have hl2 := s5 _ _ (s4 _ _ (s3 _ _ (s2 l2 _ upd_same)))
    have ht2 := s5 _ _ (s4 _ _ (s3 t2 _ upd_same))
    have hd2 := s5 _ _ (s4 d2 _ upd_same)
    have hl3 := s5 l3 _ upd_same
    have nl2 := hpA.ne a1
    have nt2 := (hpA.same s1).ne a2
    have nd2 := ((hpA.same s1).same s2).ne a3
    have nl3 := (((hpA.same s1).same s2).same s3).ne a4
    have nlo2 := ((((hpA.same s1).same s2).same s3).same s4).ne a5
    have sB := s1.trans (s2.trans (s3.trans (s4.trans s5)))
    have hpB := hpA.same sB
    refine ⟨p, _, rfl, hpB, .inl ⟨lo2, _, rfl, upd_same, by simp, (by show 8 ≤ 1000; decide), nlo2, fun H5 v b5 hp5 hv => ?_⟩⟩
    have hl5 := b5 _ _ hl2 nl2
    have ht5 := b5 _ _ ht2 nt2
    have hd5 := b5 _ _ hd2 nd2
    have hl6 := b5 _ _ hl3 nl3
    have k5 : Kp HA H5 := (Kp.of sB).trans (hpB.kp b5)
    have bn5 : ButN p H H5 := bnA.trans ((ButN.same sB).trans (.of b5))
    have tb5 := tabs_kp tbA k5
    have hq5 := hqA.kp k5
    have hm5 : H5 m = some (.lst [.str z, .int n]) := b5 _ _ (sB _ _ hmA) nmp
    obtain ⟨dv, tl, no⟩ := wrong_ok (K := K) hl5 ht5 hd5 hl6 hv
    have sx := okt_of "record"
    clear hl5 ht5 hd5 hl6 hl2 ht2 hd2 hl3 a1 a2 a3 a4 a5 sB hpB b5 k5 tbA hqA hmA hpA bnA nl2 nt2 nd2 nl3 nlo2 s1 s2 s3 s4 s5
    -- the second refusal
    refine ⟨tb5, fun H6 eN tb6 R hR t0 n0 => ?_⟩
    have e7 : LamX.ExtN H5 (upd H6 t0 (.tup [.str "told", .non])) := eN.trans (.of (same_upd n0))
    have hq7 := hq5.ext e7
    obtain ⟨dx, eq7⟩ := id hq7
    refine ⟨_, rfl, q, dx, _, rfl, eq7, look_no _ _ (by decide +kernel) (by decide +kernel), _, rfl, q, v, z, n, rfl, hq7, .inr ⟨no.ext e7, fun H8 d s8 nd ed => ⟨v, d, dv, rfl, ed, tl.2 _ (e7.trans (.of s8)), .inr ⟨rfl, fun t nt => ?_⟩⟩⟩⟩
    have e9 : LamX.ExtN H5 (upd H8 t (.tup [.str "record", .str dv.shown, .bl true])) := e7.trans ((LamX.ExtN.of s8).trans (.of (same_upd nt)))
    refine ⟨_, rfl, v, dv, rfl, tl.2 _ e9, (by show 3 ≤ sizeLine; decide), fun u nu => ?_⟩
    refine ⟨rfs "record" dv.shown, rfs "record" dv.shown, rfs_dp (same_upd nu _ _ upd_same), rfs_dp upd_same, rfs_shp sx tl.1, rfs_shp sx tl.1, _, rfl, iteN (by rw [SeqAt.eqv_refl _ (rfs_lay sx tl.1)]; rfl) ?_⟩
    have eA : LamX.ExtN H5 (upd (upd H8 t (.tup [.str "record", .str dv.shown, .bl true])) u (.tup [.str "record", .str dv.shown, .bl true])) := e9.trans (.of (same_upd nu))
    have tbA : LamX.Tabs [(tOf K f, lamQ)] (upd (upd H8 t (.tup [.str "record", .str dv.shown, .bl true])) u (.tup [.str "record", .str dv.shown, .bl true])) := tabs_same tb6 ((same_upd n0).trans (s8.trans ((same_upd nt).trans (same_upd nu))))
    have hpA := hp5.ext eA
    have hqA := hq5.ext eA
    have hmA := lst_ext hm5 eA
    have noA := no.ext eA
    have tlA := tl.ext eA
    have bnA : ButN p H _ := bn5.trans (ButN.ext eA)
    clear e9 e7 eN tb6 hR n0 hq7 eq7 s8 nd ed nt nu hv no tl tb5 hp5 hq5 hm5 bn5 eA
    generalize upd (upd H8 t (.tup [.str "record", .str dv.shown, .bl true])) u (.tup [.str "record", .str dv.shown, .bl true]) = HB at *
    -- the third refusal
    refine ⟨tbA, fun H6 eN tb6 R hR t0 n0 => ?_⟩
    have e7 : LamX.ExtN HB (upd H6 t0 (.tup [.str "told", .non])) := eN.trans (.of (same_upd n0))
    refine ⟨_, rfl, v, rfl, .inr ⟨noA.ext e7, fun H8 d s8 nd ed => ⟨v, d, dv, rfl, ed, tlA.2 _ (e7.trans (.of s8)), .inr ⟨rfl, fun t nt => ?_⟩⟩⟩⟩
    have e9 : LamX.ExtN HB (upd H8 t (.tup [.str "record", .str dv.shown, .bl true])) := e7.trans ((LamX.ExtN.of s8).trans (.of (same_upd nt)))
    refine ⟨_, rfl, v, dv, rfl, tlA.2 _ e9, (by show 3 ≤ sizeLine; decide), fun u nu => ?_⟩
    refine ⟨rfs "record" dv.shown, rfs "record" dv.shown, rfs_dp (same_upd nu _ _ upd_same), rfs_dp upd_same, rfs_shp sx tlA.1, rfs_shp sx tlA.1, _, rfl, iteY (SeqAt.eqv_refl _ (rfs_lay sx tlA.1)) ?_⟩
    have eA : LamX.ExtN HB (upd (upd H8 t (.tup [.str "record", .str dv.shown, .bl true])) u (.tup [.str "record", .str dv.shown, .bl true])) := e9.trans (.of (same_upd nu))
    refine ⟨_, rfl, _, rfl, q, m, z, n, rfl, hqA.ext eA, lst_ext hmA eA, ok, fun H' s' => q1 H' ?_ ?_ ?_⟩
    · exact bnA.trans ((ButN.ext eA).trans (ButN.same s'))
    · exact (hpA.ext eA).same s'
    · exact tabs_same tb6 ((same_upd n0).trans (s8.trans ((same_upd nt).trans ((same_upd nu).trans s'))))
end
end K76

set_option Elab.async false
set_option linter.all false
set_option maxRecDepth 100000
set_option maxHeartbeats 4000000
/-! Y76: _law_changed, _law_left. -/
namespace K76
open PySem PySem.Spec PyProof.Rows L2 LL
abbrev s_l_changed : Stmt := top 15
abbrev n_l_changed : List Str := ["_law_pot_here", "_law_disk", "_law_model", "_law_way", "_law_text_here", "_law_told", "_law_found", "_law_length", "_law_kept", "_law_other", "_law_is_right"]
theorem sc_l_changed : FnScope n_l_changed ["_law_pot_here", "_law_disk", "_law_model"] (defScope s_l_changed) := ⟨rfl, rfl, rfl, by decide +kernel, rfl, by decide +kernel, by decide +kernel⟩
abbrev s_l_left : Stmt := top 16
abbrev n_l_left : List Str := ["_law_pot_here", "_law_disk", "_law_model", "_law_found", "_law_left_here"]
theorem sc_l_left : FnScope n_l_left ["_law_pot_here", "_law_disk", "_law_model"] (defScope s_l_left) := ⟨rfl, rfl, rfl, by decide +kernel, rfl, by decide +kernel, by decide +kernel⟩
/-- all but p and q stays -/
def But2 (p q : Addr) (H H' : Hp) : Prop := ∀ b o, H b = some o → b ≠ p → b ≠ q → H' b = some o
theorem But2.trans {p q : Addr} {H H1 H2 : Hp} (a : But2 p q H H1) (b : But2 p q H1 H2) : But2 p q H H2 := fun c o e n m => b c o (a c o e n m) n m
theorem But2.l {p q : Addr} {H H' : Hp} (a : But p H H') : But2 p q H H' := fun c o e n _ => a c o e n
theorem But2.r {p q : Addr} {H H' : Hp} (a : But q H H') : But2 p q H H' := fun c o e _ m => a c o e m
theorem But2.s {p q : Addr} {H H' : Hp} (a : Same H H') : But2 p q H H' := fun c o e _ _ => a c o e
theorem But2.new {p q r : Addr} {H H1 H2 : Hp} (a : But2 p q H H1) (n : H r = none) (b : But r H1 H2) : But2 p q H H2 := fun c o e m l => b c o (a c o e m l) (ne_of_none e n)
section
variable {P : Program} {w : World} {K : PySem.W.Frag} {mg : Str → Option Value} {base : Heap} {C CE CL CR : Addr} {f : Addr} {fd : FuncData}
theorem PotAt.neD {H : Hp} {p q : Addr} {z : Str} {n : Int} (h : PotAt H p) (d : DAt C H q z n) : p ≠ q := fun e => by
  obtain ⟨x, y, e1, _⟩ := h
  obtain ⟨dx, e2⟩ := d
  rw [e, e2] at e1
  cases e1
theorem DAt.but {H H' : Hp} {p q : Addr} {z : Str} {n : Int} (d : DAt C H q z n) (b : But p H H') (ne : q ≠ p) : DAt C H' q z n := let ⟨dx, e⟩ := d; ⟨dx, b _ _ e ne⟩
theorem tyD (T : Tx K mg C CE CL CR) {H : Hp} {p : Addr} {z : Str} {n : Int} (h : DAt C H p z n) : TyX K H (.ref p) (.ref C) := let ⟨_, e⟩ := h; .base (.ins e T.cl T.ca T.cn T.ct T.cm)
theorem app_ne (z : Str) {y : Str} (h : 0 < y.length) : z ++ y ≠ z := fun e => by
  have := congrArg Str.length e
  rw [strLen_append] at this
  omega
theorem x_len (y : Str) : (("x" : Str) ++ y).length = 1 + y.length := by
  rw [strLen_append]
  rfl
theorem sh_shp {z : Str} (n : Int) (h : PyData.strOk z = true) : SeqAt.shaped (sh z n) = true := by
  unfold SeqAt.shaped
  simp [sh, PyData.canLay0, PyData.canLayAll0, h, PyData.depth, PyData.depthAll]
theorem sh_lay {z : Str} (n : Int) (h : PyData.strOk z = true) : PyData.canLay0 (sh z n) = true := by
  simp [sh, PyData.canLay0, PyData.canLayAll0, h]
theorem free2 {H H' : Hp} {p q l : Addr} {z : Str} {n : Int} (b : But2 p q H H') (hp : PotAt H' p) (hq : DAt C H' q z n) (nl : H' l = none) : H l = none := by
  cases hl : H l with
  | none => rfl
  | some o =>
    by_cases c1 : l = p
    · obtain ⟨_, _, e, _⟩ := hp
      rw [c1, e] at nl
      cases nl
    · by_cases c2 : l = q
      · obtain ⟨_, e⟩ := hq
        rw [c2, e] at nl
        cases nl
      · rw [b l o hl c1 c2] at nl
        cases nl
def spChg (C : Addr) : Sp := fun vs H Q _ => ∃ p q m z n, vs = [.ref p, .ref q, .ref m] ∧ PotAt H p ∧ DAt C H q z n ∧ H m = some (.lst [.str z, .int n]) ∧ m ≠ p ∧ ZOk z n ∧ z.length ≤ 1900 ∧
  ∀ H' t q' m' z' n', But2 p q H H' → PotAt H' p → H' t = some (.tup [.ref q', .ref m', .bl true]) → DAt C H' q' z' n' → H' m' = some (.lst [.str z', .int n']) → (q' = q ∨ H q' = none) → H m' = none → ZOk z' n' → z'.length ≤ z.length + 9 → Q (.ref t) H'
theorem ok_l_changed (T : Tx K mg C CE CL CR) (G_l_take : Fnc P w K mg base CX0 1 "_law_take" [] spTake) (G_l_text : Fnc P w K mg base CX0 3 "_law_text" [] spText) (M_append : Mth P w K mg base (L2.CX P w) 4 C "append" [] (spApp K C CR)) (M_sync : Mth P w K mg base CX0 1 C "sync" [] (spSync C)) (M_stopped : Mth P w K mg base (L2.CX P w) 6 C "stopped" [] (spStop K C CL))
    (M_clone : Mth P w K mg base CX0 7 C "clone" [] (spClone C)) (S_eq : SpF P w K mg base CX0 1 C "__eq__" (spEq K C)) (G_l_is_shown : Fnc P w K mg base CX0 3 "_law_is_shown" [] (spShown C)) (F : FD K "_law_changed" "_law_changed" s_l_changed [] f fd) : FnG P w K mg base CX0 8 f fd ["_law_pot_here", "_law_disk", "_law_model"] (spChg C) := by
  refine ok0 F sc_l_changed (fun vs H Q E h => ?_) (fun cdv A outer s H vs Q E hr h => ?_)
  · obtain ⟨p, q, m, z, n, rfl, _⟩ := h
    rfl
  · obtain ⟨p, q, m, z, n, rfl, hp, hq, hm, nmp, ok, zl, q1⟩ := h
    refine ⟨_, (pss_cons (ps_par (i := 3) (j := 4) rfl sc_l_changed.nd rfl rfl (by decide) rfl rfl (pa_cons (pe_fn G_l_take (hr.mono (by decide)) pass0 (pa_cons (pv 0) (pa_cons pe_int pa_nil))) (pa_cons (pe_fn G_l_text (hr.mono (by decide)) pass0 (pa_cons (pv 0) pa_nil)) pa_nil)) (by rfl))
      (pss_cons (ps_if (pt_cmpR op_lt (pv 3) pe_int (nomark _)) (pss_cons (ps_set (i := 5) sc_l_changed.nd rfl (by first | exact Or.inl rfl | exact Or.inr rfl) (pe_mt M_append (hr.mono (by decide)) passF (pv 1) (pa_cons (pv 4) pa_nil)))
      (pss_cons (ps_set (i := 6) sc_l_changed.nd rfl (by first | exact Or.inl rfl | exact Or.inr rfl) (pe_lst (pa_cons (pe_op op_add_str (pe_ix ix_list (pv 2) pe_int (fun _ _ => rfl)) (pv 4)) (pa_cons (pe_ix ix_list (pv 2) pe_int (fun _ _ => rfl)) pa_nil))))
      (pss_one (ps_ret (pe_tup (pa_cons (pv 1) (pa_cons (pv 6) (pa_cons (pe_cmpR op_eq (pv 5) (pe_callB call_len_str (by rfl) T.n_len (by decide +kernel) (pa_cons (pe_ix ix_seq (pv 6) pe_int (fun _ _ => rfl)) pa_nil)) (nomark _)) pa_nil)))))))) pss_nil)
      (pss_cons (ps_if (pt_cmpR op_eq (pv 3) pe_int (nomark _)) (pss_one (ps_ret (pe_tup (pa_cons (pv 1) (pa_cons (pe_lst (pa_cons (pe_ix ix_list (pv 2) pe_int (fun _ _ => rfl)) (pa_cons (pe_callB call_len_str (by rfl) T.n_len (by decide +kernel) (pa_cons (pe_ix ix_list (pv 2) pe_int (fun _ _ => rfl)) pa_nil)) pa_nil))) (pa_cons (pe_cmpR op_eq (pe_mt0 M_sync (hr.mono (by decide)) pass0 (pv 1)) (pe_callB call_len_str (by rfl) T.n_len (by decide +kernel) (pa_cons (pe_ix ix_list (pv 2) pe_int (fun _ _ => rfl)) pa_nil)) (nomark _)) pa_nil)))))) pss_nil)
      (pss_cons (ps_if (pt_cmpR op_eq (pv 3) pe_int (nomark _)) (pss_cons (ps_set (i := 7) sc_l_changed.nd rfl (by first | exact Or.inl rfl | exact Or.inr rfl) (pe_op op_add (pe_ix ix_list (pv 2) pe_int (fun _ _ => rfl)) (pe_fn G_l_take (hr.mono (by decide)) pass0 (pa_cons (pv 0) (pa_cons (pe_op op_add (pe_op op_sub (pe_callB call_len_str (by rfl) T.n_len (by decide +kernel) (pa_cons (pe_ix ix_list (pv 2) pe_int (fun _ _ => rfl)) pa_nil)) (pe_ix ix_list (pv 2) pe_int (fun _ _ => rfl))) pe_int) pa_nil)))))
      (pss_cons (ps_par (i := 6) (j := 8) rfl sc_l_changed.nd rfl rfl (by decide) rfl rfl (pa_cons (pe_mt M_stopped (hr.mono (by decide)) passF (pv 1) (pa_cons (pv 7) pa_nil)) (pa_cons (pe_callTy call_list_of (by rfl) T.n_list (by decide +kernel) (pa_cons (pv 2) pa_nil)) pa_nil)) (by rfl))
      (pss_cons (ps_expr (pe_mt M_append (hr.mono (by decide)) passF (pv 1) (pa_cons pe_str pa_nil)))
      (pss_cons (ps_expr (pe_mt0 M_sync (hr.mono (by decide)) pass0 (pv 1)))
      (pss_one (ps_ret (pe_tup (pa_cons (pv 6) (pa_cons (pe_lst (pa_cons (pe_slice sl_str (pe_ix ix_list (pv 2) pe_int (fun _ _ => rfl)) po_none (po_some (pv 7))) (pa_cons (pv 7) pa_nil))) (pa_cons (pe_cmpR (op_eqD hr.r.units) (pv 8) (pv 2) (nomark _)) pa_nil)))))))))) pss_nil)
      (pss_cons (ps_set (i := 6) sc_l_changed.nd rfl (by first | exact Or.inl rfl | exact Or.inr rfl) (pe_mt0 M_clone (hr.mono (by decide)) pass0 (pv 1)))
      (pss_cons (ps_set (i := 9) sc_l_changed.nd rfl (by first | exact Or.inl rfl | exact Or.inr rfl) (pe_ix ix_list (pe_lst (pa_cons (pv 6) (pa_cons (pv 1) pa_nil))) (pe_fn G_l_take (hr.mono (by decide)) pass0 (pa_cons (pv 0) (pa_cons pe_int pa_nil))) (fun _ _ => rfl)))
      (pss_cons (ps_set (i := 10) sc_l_changed.nd rfl (by first | exact Or.inl rfl | exact Or.inr rfl) (pe_and (pe_cmpR (op_eqF S_eq (hr.mono (by decide)) pass0) (pv 6) (pv 1) (nomark _)) (pe_one (pe_fn G_l_is_shown (hr.mono (by decide)) pass0 (pa_cons (pv 6) (pa_cons (pv 2) pa_nil))))))
      (pss_cons (ps_expr (pe_mt M_append (hr.mono (by decide)) passF (pv 9) (pa_cons (pe_op op_add_str pe_str (pv 4)) pa_nil)))
      (pss_cons (ps_if (pt_cmpR op_gt (pe_callB call_len_str (by rfl) T.n_len (by decide +kernel) (pa_cons (pv 4) pa_nil)) pe_int (nomark _)) (pss_one (ps_expr (pe_mt0 M_sync (hr.mono (by decide)) pass0 (pv 9)))) pss_nil)
      (pss_one (ps_ret (pe_tup (pa_cons (pe_ifExp (pt_cmpR (op_eqF S_eq (hr.mono (by decide)) pass0) (pv 9) (pv 6) (nomark _)) (pv 1) (pv 6)) (pa_cons (pe_callTy call_list_of (by rfl) T.n_list (by decide +kernel) (pa_cons (pv 2) pa_nil)) (pa_cons (pe_and (pv 10) (pe_one (pe_cmpR (op_neF S_eq T.ne T.cm (hr.mono (by decide)) pass0) (pv 6) (pv 1) (nomark _)))) pa_nil))))))))))))))), ?_⟩
    obtain ⟨z1, z2, z3, z4⟩ := id ok
    have i0 : atI [V.str z, V.int n] 0 = some (.str z) := atI_nat (j := 0) rfl
    have i1 : atI [V.str z, V.int n] 1 = some (.int n) := atI_nat (j := 1) rfl
    have npq := hp.neD hq
    -- way, text
    refine ⟨_, rfl, p, 6, rfl, hp, by decide, by decide, fun H1 d b1 hp1 d0 d1 => ⟨_, rfl, p, rfl, hp1, fun H2 t b2 hp2 tk => ⟨_, _, rfl, ?_⟩⟩⟩
    have b12 := b1.trans b2
    have hq2 := hq.but b12 npq.symm
    have hm2 := b12 _ _ hm nmp
    obtain ⟨t9, tok⟩ := tk
    obtain ⟨dx, e2⟩ := id hq2
    clear b1 b2 hp1
    -- append
    refine ⟨_, rfl, _, _, rfl, rfl, _, rfl, iteB (fun _ => ?_) (fun _ => ?_)⟩
    · refine ⟨_, rfl, q, dx, _, rfl, e2, look_no _ _ (by decide +kernel) (by decide +kernel), _, rfl, q, _, z, n, rfl, hq2, .inl ⟨t, rfl, by omega, fun H3 b3 hq3 => ?_⟩⟩
      have hp3 := hp2.but b3 npq
      have hmq : m ≠ q := fun e => by
        rw [e, e2] at hm2
        cases hm2
      have hm3 := b3 _ _ hm2 hmq
      refine ⟨_, rfl, m, _, _, _, rfl, rfl, SqL.of hm3, i0, _, rfl, _, _, rfl, rfl, small (by omega), _, rfl, m, _, _, _, rfl, rfl, SqL.of hm3, i1, (by show 2 ≤ sizeLine; decide), fun l nl => ?_⟩
      refine ⟨_, rfl, _, rfl, _, rfl, _, rfl, .inl ⟨l, _, _, _, rfl, rfl, SqL.of upd_same, atI_nat (j := 0) rfl, _, rfl, (by rw [strLen_append]; exact small (by omega)), rfl, (by show 3 ≤ sizeLine; decide), fun r nr => ?_⟩⟩
      rw [decide_eq_true rfl]
      have bb : But2 p q H H3 := (But2.l b12).trans (But2.r b3)
      refine q1 _ r q l (z ++ t) n (bb.trans (But2.s ((same_upd nl).trans (same_upd nr)))) ((hp3.upd nl).upd nr) upd_same ((hq3.same (same_upd nl)).same (same_upd nr)) (same_upd nr _ _ upd_same) (.inl rfl) ?_ ⟨?_, okt_app z2 tok, z3, ?_⟩ ?_
      · exact free2 bb hp3 hq3 nl
      · rw [strLen_append]
        omega
      · rw [strLen_append]
        omega
      · rw [strLen_append]
        omega
    have hmq : m ≠ q := fun e => by
      rw [e, e2] at hm2
      cases hm2
    -- sync
    refine ⟨_, rfl, rfl, _, rfl, iteB (fun _ => ?_) (fun _ => ?_)⟩
    · refine ⟨_, rfl, _, rfl, m, _, _, _, rfl, rfl, SqL.of hm2, i0, _, rfl, m, _, _, _, rfl, rfl, SqL.of hm2, i0, _, rfl, small (by omega), (by show 2 ≤ sizeLine; decide), fun l nl => ?_⟩
      have s3 := same_upd (o := .lst [.str z, .int z.length]) nl
      have hq3 := hq2.same s3
      obtain ⟨dx3, e3⟩ := id hq3
      refine ⟨_, rfl, q, dx3, _, rfl, e3, look_no _ _ (by decide +kernel) (by decide +kernel), q, z, n, rfl, hq3, by omega, fun H4 b4 hq4 => ?_⟩
      have hm4 := b4 _ _ (s3 _ _ hm2) hmq
      have nlq : l ≠ q := (ne_of_none e2 nl).symm
      have hl4 := b4 l _ upd_same nlq
      refine ⟨_, rfl, m, _, _, _, rfl, rfl, SqL.of hm4, i0, _, rfl, small (by omega), rfl, (by show 3 ≤ sizeLine; decide), fun r nr => ?_⟩
      rw [decide_eq_true rfl]
      have bb : But2 p q H H4 := (But2.l b12).trans ((But2.s s3).trans (But2.r b4))
      have hp4 := (hp2.same s3).but b4 npq
      exact q1 _ r q l z z.length (bb.trans (But2.s (same_upd nr))) (hp4.upd nr) upd_same (hq4.same (same_upd nr)) (same_upd nr _ _ hl4) (.inl rfl) (free2 (But2.l b12) hp2 hq2 nl) ⟨z1, z2, by omega, by omega⟩ (by omega)
    -- stopped
    refine ⟨_, rfl, rfl, _, rfl, iteB (fun _ => ?_) (fun _ => ?_)⟩
    · refine ⟨_, rfl, m, _, _, _, rfl, rfl, SqL.of hm2, i1, _, rfl, _, rfl, m, _, _, _, rfl, rfl, SqL.of hm2, i0, _, rfl, small (by omega), _, rfl, m, _, _, _, rfl, rfl, SqL.of hm2, i1, _, _, rfl, rfl, _, _, rfl, rfl, p, _, rfl, hp2, by omega, by omega, fun H3 d3 b3 hp3 d30 d31 => ⟨_, _, rfl, rfl, ?_⟩⟩
      have hq3 := hq2.but b3 npq.symm
      have hm3 := b3 _ _ hm2 nmp
      obtain ⟨dx3, e3⟩ := id hq3
      obtain ⟨k, hk⟩ := Int.eq_ofNat_of_zero_le (show 0 ≤ n + d3 by omega)
      have hk' : (fun i j => V.int (i + j)) n d3 = V.int (k : Int) := by
        show V.int (n + d3) = _
        rw [hk]
      rw [hk']
      have kl : k ≤ z.length := by omega
      have kn : n ≤ (k : Int) := by omega
      refine ⟨_, rfl, q, dx3, _, rfl, e3, look_no _ _ (by decide +kernel) (by decide +kernel), _, rfl, q, _, z, n, rfl, hq3, by omega, .inl ⟨k, rfl, kn, kl, fun H4 r s4 nr hr4 => ?_⟩⟩
      have hm4 := s4 _ _ hm3
      have hq4 := hq3.same s4
      obtain ⟨dx4, e4⟩ := id hq4
      refine ⟨_, rfl, m, _, rfl, .inl (SqL.of hm4), fun l nl => ⟨_, _, rfl, ?_⟩⟩
      have s5 := same_upd (o := .lst [.str z, .int n]) nl
      have hq5 := hq4.same s5
      obtain ⟨dx5, e5⟩ := id hq5
      refine ⟨_, rfl, q, dx5, _, rfl, e5, look_no _ _ (by decide +kernel) (by decide +kernel), q, _, z, n, rfl, hq5, .inl ⟨_, rfl, (by show z.length + 4 ≤ _; omega), fun H6 b6 hq6 => ?_⟩⟩
      obtain ⟨dx6, e6⟩ := id hq6
      refine ⟨_, rfl, q, dx6, _, rfl, e6, look_no _ _ (by decide +kernel) (by decide +kernel), q, _, n, rfl, hq6, (by rw [strLen_append]; show z.length + 4 ≤ _; omega), fun H7 b7 hq7 => ?_⟩
      have b57 : But q (upd H4 l (.lst [.str z, .int n])) H7 := b6.trans b7
      have nlq : l ≠ q := (ne_of_none e4 nl).symm
      have nrq : r ≠ q := (ne_of_none e3 nr).symm
      have hm7 := b57 _ _ (s5 _ _ hm4) hmq
      have hl7 := b57 l _ upd_same nlq
      have hr7 := (hr4.same s5).but b57 nrq
      have cl := cut_len z k
      refine ⟨_, rfl, _, rfl, m, _, _, _, rfl, rfl, SqL.of hm7, i0, _, rfl, k, rfl, z, rfl, small (by omega), _, rfl, (by show 2 ≤ sizeLine; decide), fun m' nm' => ?_⟩
      have s8 := same_upd (o := .lst [.str (cutS z none (some k)), .int k]) nm'
      refine ⟨_, rfl, _, rfl, sh z n, sh z n, sh_dp (s8 _ _ hl7), sh_dp (s8 _ _ hm7), sh_shp n z2, sh_shp n z2, (by show 3 ≤ sizeLine; decide), fun t' nt' => ?_⟩
      rw [SeqAt.eqv_refl _ (sh_lay n z2)]
      have bb : But2 p q H H7 := (But2.l (b12.trans b3)).trans ((But2.s (s4.trans s5)).trans (But2.r b57))
      have hp7 := ((hp3.same s4).same s5).but b57 npq
      have hc : PyData.strOk (cutS z none (some (k : Int))) = true := by
        rw [okt_iff]
        intro c hc
        refine okt_iff.mp z2 c ?_
        have hc' : c ∈ (z.cps.toList.drop (HT.sIx z.length 0 none)).take (HT.sIx z.length z.length (some (k : Int)) - HT.sIx z.length 0 none) := by simpa [cutS] using hc
        exact List.mem_of_mem_drop (List.mem_of_mem_take hc')
      exact q1 _ t' r m' _ k (bb.trans (But2.s (s8.trans (same_upd nt')))) ((hp7.upd nm').upd nt') upd_same ((hr7.same s8).same (same_upd nt')) (same_upd nt' _ _ upd_same) (.inr ((b12.trans b3).free (hp3.ne nr) nr)) (free2 bb hp7 hq7 nm') ⟨by omega, hc, by omega, by omega⟩ (by omega)
    -- clone
    refine ⟨_, rfl, q, dx, _, rfl, e2, look_no _ _ (by decide +kernel) (by decide +kernel), q, z, n, rfl, hq2, z3, by omega, fun H3 r s3 nr hr3 => ?_⟩
    have hq3 := hq2.same s3
    have hm3 := s3 _ _ hm2
    have hp3 := hp2.same s3
    obtain ⟨dr, er⟩ := id hr3
    have nrq : r ≠ q := (ne_of_none e2 nr).symm
    have nrp : r ≠ p := hp2.ne nr
    refine ⟨_, rfl, _, rfl, (by show 2 ≤ sizeLine; decide), fun l nl => ⟨_, rfl, p, 2, rfl, hp3.upd nl, by decide, by decide, fun H4 d4 b4 hp4 d40 d41 => ?_⟩⟩
    have s34 := same_upd (o := .lst [.ref r, .ref q]) nl
    have hl4 := b4 l _ upd_same (hp3.ne nl)
    have hr4 := (hr3.same s34).but b4 nrp
    have hq4 := (hq3.same s34).but b4 npq.symm
    have hm4 := b4 _ _ (s34 _ _ hm3) nmp
    have hd : d4 = 0 ∨ d4 = 1 := by omega
    rcases hd with rfl | rfl
    · have at4 : atI [V.ref r, V.ref q] 0 = some (.ref r) := atI_nat (j := 0) rfl
      refine ⟨l, _, _, _, rfl, rfl, SqL.of hl4, at4, ?_⟩
      obtain ⟨dr4, er4⟩ := id hr4
      obtain ⟨dq4, eq4⟩ := id hq4
      refine ⟨_, rfl, _, rfl, r, dr4, _, .ref C, rfl, er4, tyD T hq4, T.fC, r, _, z, n, .ref C, true, rfl, hr4, tyD T hq4, T.kC, (fun z => nomatch z), fun _ => ⟨q, z, n, rfl, hq4, _, rfl, iteY (by simp) ?_⟩⟩
      refine ⟨_, rfl, _, rfl, r, m, z, n, rfl, hr4, hm4, ok, fun H5 s5 => ?_⟩
      have hr5 := hr4.same s5
      have hq5 := hq4.same s5
      have hm5 := s5 _ _ hm4
      have hp5 := hp4.same s5
      obtain ⟨do5, eo5⟩ := id hr5
      refine ⟨_, rfl, r, do5, _, rfl, eo5, look_no _ _ (by decide +kernel) (by decide +kernel), _, rfl, _, _, rfl, rfl, small (by show 1 + t.length ≤ _; omega), r, _, z, n, rfl, hr5, .inl ⟨_, rfl, (by rw [x_len]; omega), fun H6 b6 ho6 => ?_⟩⟩
      have nmo : m ≠ r := fun e => by
        rw [e, eo5] at hm5
        cases hm5
      have npo : p ≠ r := hp5.neD hr5
      refine nx_of ?_
      dsimp only
      refine seq_cut (fun σ' H' => But r H6 H' ∧ (∃ n', DAt C H' r (z ++ ("x" ++ t)) n') ∧ σ' = [some (.ref p), some (.ref q), some (.ref m), some (.int d), some (.str t), none, some (.ref r), none, none, some (.ref r), some (.bl true)]) (fun N hN => ?_) ?_
      · refine ⟨_, rfl, _, rfl, small (by omega), _, _, rfl, rfl, _, rfl, iteB (fun _ => ?_) (fun _ => ?_)⟩
        · obtain ⟨do6, eo6⟩ := id ho6
          refine ⟨_, rfl, r, do6, _, rfl, eo6, look_no _ _ (by decide +kernel) (by decide +kernel), r, _, n, rfl, ho6, (by rw [strLen_append, x_len]; omega), fun H7 b7 ho7 => hN _ _ ⟨b7, ⟨_, ho7⟩, rfl⟩⟩
        · exact hN _ _ ⟨But.refl, ⟨_, ho6⟩, rfl⟩
      rintro σ H7 ⟨b7, ⟨n', ho7⟩, rfl⟩
      have b57 := b6.trans b7
      have hx7 := hq5.but b57 nrq.symm
      have hm7 := b57 _ _ hm5 nmo
      have hp7 := hp5.but b57 npo
      obtain ⟨do7, eo7⟩ := id ho7
      obtain ⟨dx7, ex7⟩ := id hx7
      have yz : z ++ ("x" ++ t) ≠ z := app_ne z (by rw [x_len]; omega)
      have bb : But2 p q H H7 := ((But2.l b12).trans ((But2.s (s3.trans s34)).trans ((But2.l b4).trans (But2.s s5)))).new (b12.free nrp nr) b57
      refine ⟨_, rfl, _, rfl, r, do7, _, .ref C, rfl, eo7, tyD T ho7, T.fC, r, _, _, n', .ref C, true, rfl, ho7, tyD T ho7, T.kC, (fun z => nomatch z), fun _ => ⟨r, _, n', rfl, ho7, _, rfl, iteY (by simp) ?_⟩⟩
      refine ⟨_, rfl, _, rfl, m, _, rfl, .inl (SqL.of hm7), fun l2 nl2 => ?_⟩
      have s8 := same_upd (o := .lst [.str z, .int n]) nl2
      have ho8 := ho7.same s8
      have hx8 := hx7.same s8
      obtain ⟨do8, eo8⟩ := id ho8
      refine ⟨_, rfl, _, rfl, iteT ⟨_, rfl, _, rfl, r, do8, _, .ref C, rfl, eo8, tyD T hx8, T.fC, r, _, _, n', .ref C, true, rfl, ho8, tyD T hx8, T.kC, (fun z => nomatch z), fun _ => ⟨q, z, n, rfl, hx8, _, rfl, (by show 3 ≤ sizeLine; decide), fun t' nt' => ?_⟩⟩⟩
      rw [decide_eq_false yz]
      exact q1 _ t' q l2 z n (bb.trans (But2.s (s8.trans (same_upd nt')))) ((hp7.same s8).upd nt') upd_same (hx8.same (same_upd nt')) (same_upd nt' _ _ upd_same) (.inl rfl) (free2 bb hp7 hx7 nl2) ok (by omega)
    · have at4 : atI [V.ref r, V.ref q] 1 = some (.ref q) := atI_nat (j := 1) rfl
      refine ⟨l, _, _, _, rfl, rfl, SqL.of hl4, at4, ?_⟩
      obtain ⟨dr4, er4⟩ := id hr4
      obtain ⟨dq4, eq4⟩ := id hq4
      refine ⟨_, rfl, _, rfl, r, dr4, _, .ref C, rfl, er4, tyD T hq4, T.fC, r, _, z, n, .ref C, true, rfl, hr4, tyD T hq4, T.kC, (fun z => nomatch z), fun _ => ⟨q, z, n, rfl, hq4, _, rfl, iteY (by simp) ?_⟩⟩
      refine ⟨_, rfl, _, rfl, r, m, z, n, rfl, hr4, hm4, ok, fun H5 s5 => ?_⟩
      have hr5 := hr4.same s5
      have hq5 := hq4.same s5
      have hm5 := s5 _ _ hm4
      have hp5 := hp4.same s5
      obtain ⟨do5, eo5⟩ := id hq5
      refine ⟨_, rfl, q, do5, _, rfl, eo5, look_no _ _ (by decide +kernel) (by decide +kernel), _, rfl, _, _, rfl, rfl, small (by show 1 + t.length ≤ _; omega), q, _, z, n, rfl, hq5, .inl ⟨_, rfl, (by rw [x_len]; omega), fun H6 b6 ho6 => ?_⟩⟩
      have nmo : m ≠ q := fun e => by
        rw [e, eo5] at hm5
        cases hm5
      have npo : p ≠ q := hp5.neD hq5
      refine nx_of ?_
      dsimp only
      refine seq_cut (fun σ' H' => But q H6 H' ∧ (∃ n', DAt C H' q (z ++ ("x" ++ t)) n') ∧ σ' = [some (.ref p), some (.ref q), some (.ref m), some (.int d), some (.str t), none, some (.ref r), none, none, some (.ref q), some (.bl true)]) (fun N hN => ?_) ?_
      · refine ⟨_, rfl, _, rfl, small (by omega), _, _, rfl, rfl, _, rfl, iteB (fun _ => ?_) (fun _ => ?_)⟩
        · obtain ⟨do6, eo6⟩ := id ho6
          refine ⟨_, rfl, q, do6, _, rfl, eo6, look_no _ _ (by decide +kernel) (by decide +kernel), q, _, n, rfl, ho6, (by rw [strLen_append, x_len]; omega), fun H7 b7 ho7 => hN _ _ ⟨b7, ⟨_, ho7⟩, rfl⟩⟩
        · exact hN _ _ ⟨But.refl, ⟨_, ho6⟩, rfl⟩
      rintro σ H7 ⟨b7, ⟨n', ho7⟩, rfl⟩
      have b57 := b6.trans b7
      have hx7 := hr5.but b57 nrq
      have hm7 := b57 _ _ hm5 nmo
      have hp7 := hp5.but b57 npo
      obtain ⟨do7, eo7⟩ := id ho7
      obtain ⟨dx7, ex7⟩ := id hx7
      have yz : z ++ ("x" ++ t) ≠ z := app_ne z (by rw [x_len]; omega)
      have bb : But2 p q H H7 := (But2.l b12).trans ((But2.s (s3.trans s34)).trans ((But2.l b4).trans ((But2.s s5).trans (But2.r b57))))
      refine ⟨_, rfl, _, rfl, q, do7, _, .ref C, rfl, eo7, tyD T hx7, T.fC, q, _, _, n', .ref C, true, rfl, ho7, tyD T hx7, T.kC, (fun z => nomatch z), fun _ => ⟨r, z, n, rfl, hx7, _, rfl, iteN (by rw [decide_eq_false yz]; rfl) ?_⟩⟩
      refine ⟨_, rfl, _, rfl, m, _, rfl, .inl (SqL.of hm7), fun l2 nl2 => ?_⟩
      have s8 := same_upd (o := .lst [.str z, .int n]) nl2
      have ho8 := ho7.same s8
      have hx8 := hx7.same s8
      obtain ⟨dx8, ex8⟩ := id hx8
      refine ⟨_, rfl, _, rfl, iteT ⟨_, rfl, _, rfl, r, dx8, _, .ref C, rfl, ex8, tyD T ho8, T.fC, r, _, z, n, .ref C, true, rfl, hx8, tyD T ho8, T.kC, (fun z => nomatch z), fun _ => ⟨q, _, n', rfl, ho8, _, rfl, (by show 3 ≤ sizeLine; decide), fun t' nt' => ?_⟩⟩⟩
      rw [decide_eq_false (Ne.symm yz)]
      exact q1 _ t' r l2 z n (bb.trans (But2.s (s8.trans (same_upd nt')))) ((hp7.same s8).upd nt') upd_same (hx8.same (same_upd nt')) (same_upd nt' _ _ upd_same) (.inr (b12.free nrp nr)) (free2 bb hp7 ho7 nl2) ok (by omega)
/-! ### _law_left -/
def spLeft (C : Addr) : Sp := fun vs H Q _ => ∃ p q m z n, vs = [.ref p, .ref q, .ref m] ∧ DAt C H q z n ∧ H m = some (.lst [.str z, .int n]) ∧ ZOk z n ∧ z.length ≤ 1900 ∧ ∀ H', Same H H' → Q (.bl true) H'
theorem ok_l_left (T : Tx K mg C CE CL CR) (M_append : Mth P w K mg base (L2.CX P w) 4 C "append" [] (spApp K C CR)) (M_sync : Mth P w K mg base CX0 1 C "sync" [] (spSync C)) (M_clone : Mth P w K mg base CX0 7 C "clone" [] (spClone C)) (G_l_is_shown : Fnc P w K mg base CX0 3 "_law_is_shown" [] (spShown C))
    (F : FD K "_law_left" "_law_left" s_l_left [] f fd) : FnG P w K mg base CX0 8 f fd ["_law_pot_here", "_law_disk", "_law_model"] (spLeft C) := by
  refine ok0 F sc_l_left (fun vs H Q E h => ?_) (fun cdv A outer s H vs Q E hr h => ?_)
  · obtain ⟨p, q, m, z, n, rfl, _⟩ := h
    rfl
  · obtain ⟨p, q, m, z, n, rfl, hq, hm, ok, zl, q1⟩ := h
    refine ⟨_, (pss_cons (ps_set (i := 3) sc_l_left.nd rfl (by first | exact Or.inl rfl | exact Or.inr rfl) (pe_mt0 M_clone (hr.mono (by decide)) pass0 (pv 1)))
      (pss_cons (ps_set (i := 4) sc_l_left.nd rfl (by first | exact Or.inl rfl | exact Or.inr rfl) (pe_mt0 M_clone (hr.mono (by decide)) pass0 (pv 3)))
      (pss_cons (ps_expr (pe_mt M_append (hr.mono (by decide)) passF (pv 4) (pa_cons pe_str pa_nil)))
      (pss_cons (ps_expr (pe_mt0 M_sync (hr.mono (by decide)) pass0 (pv 4)))
      (pss_one (ps_ret (pe_and (pe_fn G_l_is_shown (hr.mono (by decide)) pass0 (pa_cons (pv 3) (pa_cons (pv 2) pa_nil))) (pe_one (pe_fn G_l_is_shown (hr.mono (by decide)) pass0 (pa_cons (pv 4) (pa_cons (pe_lst (pa_cons (pe_op op_add_str (pe_ix ix_list (pv 2) pe_int (fun _ _ => rfl)) pe_str) (pa_cons (pe_op op_add (pe_callB call_len_str (by rfl) T.n_len (by decide +kernel) (pa_cons (pe_ix ix_list (pv 2) pe_int (fun _ _ => rfl)) pa_nil)) pe_int) pa_nil))) pa_nil))))))))))), ?_⟩
    obtain ⟨z1, z2, z3, z4⟩ := id ok
    obtain ⟨dq, eq⟩ := id hq
    refine ⟨_, rfl, q, dq, _, rfl, eq, look_no _ _ (by decide +kernel) (by decide +kernel), q, z, n, rfl, hq, z3, by omega, fun H1 r s1 nr hr1 => ?_⟩
    obtain ⟨dr, er⟩ := id hr1
    refine ⟨_, rfl, r, dr, _, rfl, er, look_no _ _ (by decide +kernel) (by decide +kernel), r, z, n, rfl, hr1, z3, by omega, fun H2 u s2 nu hu2 => ?_⟩
    obtain ⟨du, eu⟩ := id hu2
    refine ⟨_, rfl, u, du, _, rfl, eu, look_no _ _ (by decide +kernel) (by decide +kernel), u, _, z, n, rfl, hu2, .inl ⟨_, rfl, (by show z.length + 1 ≤ _; omega), fun H3 b3 hu3 => ?_⟩⟩
    obtain ⟨du3, eu3⟩ := id hu3
    have lx : (z ++ ("x" : Str)).length = z.length + 1 := by
      rw [strLen_append]
      rfl
    refine ⟨_, rfl, u, du3, _, rfl, eu3, look_no _ _ (by decide +kernel) (by decide +kernel), u, _, n, rfl, hu3, by omega, fun H4 b4 hu4 => ?_⟩
    have b24 := b3.trans b4
    have s4 : Same H1 H4 := fun b o e => b24 b o (s2 _ _ e) (ne_of_none e nu)
    have hr4 := hr1.same s4
    have hm4 := s4 _ _ (s1 _ _ hm)
    have i0 : atI [V.str z, V.int n] 0 = some (.str z) := atI_nat (j := 0) rfl
    refine ⟨_, rfl, _, rfl, r, m, z, n, rfl, hr4, hm4, ok, fun H5 s5 => ⟨_, rfl, iteT ?_⟩⟩
    have hm5 := s5 _ _ hm4
    refine ⟨_, rfl, _, rfl, m, _, _, _, rfl, rfl, SqL.of hm5, i0, _, _, rfl, rfl, small (by show z.length + 1 ≤ _; omega), _, rfl, m, _, _, _, rfl, rfl, SqL.of hm5, i0, _, rfl, small (by omega), _, _, rfl, rfl, (by show 2 ≤ sizeLine; decide), fun l nl => ?_⟩
    refine ⟨u, l, z ++ "x", ((z ++ ("x" : Str)).length : Nat), rfl, (hu4.same s5).same (same_upd nl), upd_same.trans ?_, ⟨by omega, okt_app z2 (okt_of _), by omega, by omega⟩, fun H6 s6 => q1 _ (s1.trans (s4.trans (s5.trans ((same_upd nl).trans s6))))⟩
    rw [lx]
    rfl
end
end K76

set_option Elab.async false
set_option linter.all false
set_option maxRecDepth 100000
set_option maxHeartbeats 4000000
/-! Z76: _law_right, the law. -/
namespace K76
open PySem PySem.Spec PyProof.Rows L2 LL
abbrev s_l_right : Stmt := top 17
abbrev n_l_right : List Str := ["_law_pot_here", "_law_text_here", "_law_pairs", "_law_turn", "_law_k", "_law_disk", "_law_model", "_law_is_right", "_law_one", "_law_due"]
theorem sc_l_right : FnScope n_l_right ["_law_pot_here"] (defScope s_l_right) := ⟨rfl, rfl, rfl, by decide +kernel, rfl, by decide +kernel, by decide +kernel⟩
abbrev s_law : Stmt := top 18
abbrev n_law : List Str := ["_law_script", "_law_k"]
theorem sc_law : FnScope n_law ["_law_script"] (defScope s_law) := ⟨rfl, rfl, rfl, by decide +kernel, rfl, by decide +kernel, by decide +kernel⟩
def Fre (H : Hp) (a : Addr) : Prop := ∀ o, H a = some o → ∃ ps, o = HO.tbl ps
/-- beside what was there, but p, an own a is changed -/
theorem bn_own {p a : Addr} {H H1 H2 : Hp} (b : ButN p H H1) (f : Fre H a) (c : But a H1 H2) : ButN p H H2 := fun x o e n t => c x o (b x o e n t) fun z => by
  obtain ⟨ps, q⟩ := f o (z ▸ e)
  exact t ps q
theorem bn_two {p a : Addr} {H H1 H2 : Hp} (b : ButN p H H1) (f : Fre H a) (c : But2 p a H1 H2) : ButN p H H2 := fun x o e n t => c x o (b x o e n t) n fun z => by
  obtain ⟨ps, q⟩ := f o (z ▸ e)
  exact t ps q
/-- what is new now is no object of then, but a table perhaps -/
theorem fr_new {p a : Addr} {H H1 : Hp} (b : ButN p H H1) (hp : PotAt H1 p) (n : H1 a = none) : Fre H a := fun o e => by
  by_cases c : ∃ ps, o = .tbl ps
  · exact c
  · exfalso
    have ne : a ≠ p := hp.ne n
    rw [b a o e ne (fun ps z => c ⟨ps, z⟩)] at n
    cases n
section
variable {P : Program} {w : World} {K : PySem.W.Frag} {mg : Str → Option Value} {base : Heap} {C CE CL CR : Addr} {f : Addr} {fd : FuncData}
/-- a disk and its model -/
structure POk (C : Addr) (H0 H : Hp) (p u q m : Addr) (z : Str) (n : Int) (L : Nat) : Prop where
  hu : H u = some (.tup [.ref q, .ref m])
  hq : DAt C H q z n
  hm : H m = some (.lst [.str z, .int n])
  hf : Fre H0 q
  mp : m ≠ p
  ok : ZOk z n
  hl : z.length ≤ L
theorem POk.ext {H0 H H' : Hp} {p u q m : Addr} {z : Str} {n : Int} {L : Nat} (h : POk C H0 H p u q m z n L) (e : LamX.ExtN H H') : POk C H0 H' p u q m z n L := ⟨e _ _ h.hu (fun _ z => by cases z), h.hq.ext e, lst_ext h.hm e, h.hf, h.mp, h.ok, h.hl⟩
theorem POk.same {H0 H H' : Hp} {p u q m : Addr} {z : Str} {n : Int} {L : Nat} (h : POk C H0 H p u q m z n L) (e : Same H H') : POk C H0 H' p u q m z n L := h.ext (.of e)
theorem POk.bn {H0 H H' : Hp} {p u q m : Addr} {z : Str} {n : Int} {L : Nat} (h : POk C H0 H p u q m z n L) (b : ButN p H H') (hp : PotAt H p) : POk C H0 H' p u q m z n L := by
  obtain ⟨dx, e⟩ := id h.hq
  refine ⟨b _ _ h.hu (fun z => ?_) (fun _ z => by cases z), ⟨dx, b _ _ e (hp.neD h.hq).symm (fun _ z => by cases z)⟩, b _ _ h.hm h.mp (fun _ z => by cases z), h.hf, h.mp, h.ok, h.hl⟩
  obtain ⟨_, _, e2, _⟩ := hp
  rw [← z, h.hu] at e2
  cases e2
theorem POk.mono {H0 H : Hp} {p u q m : Addr} {z : Str} {n : Int} {L L' : Nat} (h : POk C H0 H p u q m z n L) (l : L ≤ L') : POk C H0 H p u q m z n L' := ⟨h.hu, h.hq, h.hm, h.hf, h.mp, h.ok, Nat.le_trans h.hl l⟩
/-- behind the change of the other disk r -/
theorem POk.two {H0 H H' : Hp} {p u q m r : Addr} {z y : Str} {n k : Int} {L : Nat} (h : POk C H0 H p u q m z n L) (b : But2 p r H H') (hp : PotAt H p) (hr : DAt C H r y k) (ne : q ≠ r) : POk C H0 H' p u q m z n L := by
  obtain ⟨dx, e⟩ := id h.hq
  obtain ⟨dr, er⟩ := hr
  refine ⟨b _ _ h.hu (fun z => ?_) (fun z => ?_), ⟨dx, b _ _ e (hp.neD h.hq).symm ne⟩, b _ _ h.hm h.mp (fun z => ?_), h.hf, h.mp, h.ok, h.hl⟩
  · obtain ⟨_, _, e2, _⟩ := hp
    rw [← z, h.hu] at e2
    cases e2
  · rw [← z, h.hu] at er
    cases er
  · rw [← z, h.hm] at er
    cases er
/-- behind a store into the list lp -/
theorem POk.lp {H0 H H' : Hp} {p u q m l : Addr} {z : Str} {n : Int} {L L' : Nat} {a b : Addr} (h : POk C H0 H p u q m z n L) (c : But l H H') (e : H l = some (.lst [.ref a, .ref b])) (ll : L ≤ L') : POk C H0 H' p u q m z n L' := by
  obtain ⟨dx, eq⟩ := id h.hq
  refine ⟨c _ _ h.hu (fun z => ?_), ⟨dx, c _ _ eq (fun z => ?_)⟩, c _ _ h.hm (fun z => ?_), h.hf, h.mp, h.ok, Nat.le_trans h.hl ll⟩
  · rw [← z, h.hu] at e
    cases e
  · rw [← z, eq] at e
    cases e
  · rw [← z, h.hm] at e
    cases e
theorem tabs_two {T : List (Addr × Str)} {H H' : Hp} {p q : Addr} {z : Str} {n : Int} (t : LamX.Tabs T H) (b : But2 p q H H') (hp : PotAt H p) (hq : DAt C H q z n) : LamX.Tabs T H' := fun x hx => by
  obtain ⟨ps, h1, h2, h3⟩ := t x hx
  obtain ⟨x0, y0, e1, _⟩ := hp
  obtain ⟨dx, e2⟩ := hq
  refine ⟨ps, b _ _ h1 (fun z => ?_) (fun z => ?_), h2, fun pos cv hc => ?_⟩
  · rw [z, e1] at h1
    cases h1
  · rw [z, e2] at h1
    cases h1
  · obtain ⟨c, k1, k2⟩ := h3 pos cv hc
    refine ⟨c, k1, b _ _ k2 (fun z => ?_) (fun z => ?_)⟩
    · rw [z, e1] at k2
      unfold LamX.CodeO at k2
      cases k2
    · rw [z, e2] at k2
      unfold LamX.CodeO at k2
      cases k2
theorem lst_ne {H : Hp} {l q : Addr} {xs : List V} {z : Str} {n : Int} (h : H l = some (.lst xs)) (d : DAt C H q z n) : l ≠ q := fun e => by
  obtain ⟨dx, e2⟩ := d
  rw [e, e2] at h
  cases h
structure Prs (C : Addr) (H0 H : Hp) (p lp : Addr) (L : Nat) : Prop where
  lf : Fre H0 lp
  ne : lp ≠ p
  ex : ∃ u0 q0 m0 z0 n0 u1 q1 m1 z1 n1, H lp = some (.lst [.ref u0, .ref u1]) ∧ POk C H0 H p u0 q0 m0 z0 n0 L ∧ POk C H0 H p u1 q1 m1 z1 n1 L ∧ q0 ≠ q1
def StR (p lp : Addr) (σ : L2.St) : Prop := ∃ v1 v3 v4 v5 v6 v7 : Option V, σ = [some (.ref p), v1, some (.ref lp), v3, v4, v5, v6, v7, none, none]
theorem eqv_sh (z y : Str) (n m : Int) : PyData.eqv (sh z n) (sh y m) = (decide (z = y) && decide (n = m)) := by
  simp only [sh, PyData.eqv, PyData.eqvAll, Bool.and_true]
  congr 1
def spRight (T : List (Addr × Str)) : Sp := fun vs H Q _ => ∃ p : Addr, vs = [.ref p] ∧ PotAt H p ∧ LamX.Tabs T H ∧ ∀ H', ButN p H H' → LamX.Tabs T H' → Q (.bl true) H'
theorem ok_l_right {Tb : List (Addr × Str)} (T : Tx K mg C CE CL CR) (G_l_take : Fnc P w K mg base CX0 1 "_law_take" [] spTake) (G_l_text : Fnc P w K mg base CX0 3 "_law_text" [] spText) (K_Disk0 : Mkf P w K mg base (L2.CX P w) 4 "Disk" (spMk0 C)) (K_Disk1 : Mkf P w K mg base (L2.CX P w) 4 "Disk" (spMk1 K C CR)) (G_l_changed : Fnc P w K mg base CX0 8 "_law_changed" [] (spChg C))
    (G_l_is_shown : Fnc P w K mg base CX0 3 "_law_is_shown" [] (spShown C)) (S_eq : SpF P w K mg base CX0 1 C "__eq__" (spEq K C)) (G_l_refusals_right : Fnc P w K mg base CX0 11 "_law_refusals_right" [] (spRef C Tb)) (G_l_left : Fnc P w K mg base CX0 8 "_law_left" [] (spLeft C)) (F : FD K "_law_right" "_law_right" s_l_right [] f fd) :
    FnG P w K mg base CX0 12 f fd ["_law_pot_here"] (spRight Tb) := by
  refine ok0 F sc_l_right (fun vs H Q E h => ?_) (fun cdv A outer s H vs Q E hr h => ?_)
  · obtain ⟨p, rfl, _⟩ := h
    rfl
  · obtain ⟨p, rfl, hp, tb, q⟩ := h
    refine ⟨_, (pss_cons (ps_set (i := 1) sc_l_right.nd rfl (by first | exact Or.inl rfl | exact Or.inr rfl) (pe_fn G_l_text (hr.mono (by decide)) pass0 (pa_cons (pv 0) pa_nil)))
      (pss_cons (ps_set (i := 2) sc_l_right.nd rfl (by first | exact Or.inl rfl | exact Or.inr rfl) (pe_lst (pa_cons (pe_tup (pa_cons (pe_mf0 K_Disk0 (hr.mono (by decide)) passF) (pa_cons (pe_lst (pa_cons pe_str (pa_cons pe_int pa_nil))) pa_nil))) (pa_cons (pe_tup (pa_cons (pe_mf K_Disk1 (hr.mono (by decide)) passF (pa_cons (pv 1) pa_nil)) (pa_cons (pe_lst (pa_cons (pv 1) (pa_cons (pe_callB call_len_str (by rfl) T.n_len (by decide +kernel) (pa_cons (pv 1) pa_nil)) pa_nil))) pa_nil))) pa_nil))))
      (pss_cons (ps_for PassesOwn.never rfl (pi_range1 (by rfl) T.n_range (pa_cons (pe_op op_add pe_int (pe_fn G_l_take (hr.mono (by decide)) pass0 (pa_cons (pv 0) (pa_cons pe_int pa_nil)))) pa_nil)) (pg_name (i := 3) sc_l_right.nd rfl (by first | exact Or.inl rfl | exact Or.inr rfl)) (pss_cons (ps_set (i := 4) sc_l_right.nd rfl (by first | exact Or.inl rfl | exact Or.inr rfl) (pe_fn G_l_take (hr.mono (by decide)) pass0 (pa_cons (pv 0) (pa_cons pe_int pa_nil))))
      (pss_cons (ps_asg (pe_fn G_l_changed (hr.mono (by decide)) pass0 (pa_cons (pv 0) (pa_cons (pe_ix ix_tup (pe_ix ix_list (pv 2) (pv 4) (fun _ _ => rfl)) pe_int (fun _ _ => rfl)) (pa_cons (pe_ix ix_tup (pe_ix ix_list (pv 2) (pv 4) (fun _ _ => rfl)) pe_int (fun _ _ => rfl)) pa_nil)))) (pg_tup rfl (pgs_cons (pg_name (i := 5) sc_l_right.nd rfl (by first | exact Or.inl rfl | exact Or.inr rfl)) (pgs_cons (pg_name (i := 6) sc_l_right.nd rfl (by first | exact Or.inl rfl | exact Or.inr rfl)) (pgs_cons (pg_name (i := 7) sc_l_right.nd rfl (by first | exact Or.inl rfl | exact Or.inr rfl)) pgs_nil)))))
      (pss_cons (ps_asg (pe_tup (pa_cons (pv 5) (pa_cons (pv 6) pa_nil))) (pg_sub (pv 2) (pv 4) set_list))
      (pss_cons (ps_if (PW.pt (pw_or (pt_not (pt_val (pv 7))) (pw_or1 (pt_not (pt_val (pe_callB (cr_all rfl) (by rfl) T.n_all (by decide +kernel) (pa_cons (pe_lc (g := (gTup K 2 (gCons (gName 8) (gCons (gName 9) gNil)))) (own := [("_law_one", 8), ("_law_due", 9)]) rfl sc_l_right.nd (pi_list (pv 2)) (blkOk_by (own := [("_law_one", 8), ("_law_due", 9)]) (N := n_l_right) (sc := defScope s_l_right) (by decide +kernel)) (fun _ _ _ _ _ => (pg_tup rfl (pgs_cons (pg_name (i := 8) sc_l_right.nd rfl (by first | exact Or.inl rfl | exact Or.inr rfl)) (pgs_cons (pg_name (i := 9) sc_l_right.nd rfl (by first | exact Or.inl rfl | exact Or.inr rfl)) pgs_nil)))) (fun _ _ _ _ _ => pts_nil) (fun _ _ _ _ _ => (pe_fn G_l_is_shown (hr.mono (by decide)) pass0 (pa_cons (pv 8) (pa_cons (pv 9) pa_nil))))) pa_nil))))))) (pss_one (ps_ret pe_bl)) pss_nil)
      (pss_cons (ps_if (PW.pt (pw_or (pt_cmpR op_ne (pe_cmpR (op_eqF S_eq (hr.mono (by decide)) pass0) (pe_ix ix_tup (pe_ix ix_list (pv 2) pe_int (fun _ _ => rfl)) pe_int (fun _ _ => rfl)) (pe_ix ix_tup (pe_ix ix_list (pv 2) pe_int (fun _ _ => rfl)) pe_int (fun _ _ => rfl)) (nomark _)) (pe_cmpR (op_eqD hr.r.units) (pe_ix ix_tup (pe_ix ix_list (pv 2) pe_int (fun _ _ => rfl)) pe_int (fun _ _ => rfl)) (pe_ix ix_tup (pe_ix ix_list (pv 2) pe_int (fun _ _ => rfl)) pe_int (fun _ _ => rfl)) (nomark _)) (nomark _)) (pw_or1 (pt_cmpR (op_eqF S_eq (hr.mono (by decide)) pass0) (pe_ix ix_tup (pe_ix ix_list (pv 2) pe_int (fun _ _ => rfl)) pe_int (fun _ _ => rfl)) (pe_ix ix_tup (pe_ix ix_list (pv 2) pe_int (fun _ _ => rfl)) pe_int (fun _ _ => rfl)) (nomark _))))) (pss_one (ps_ret pe_bl)) pss_nil)
      (pss_one (ps_if (PW.pt (pw_or (pt_not (pt_val (pe_fn G_l_refusals_right (hr.mono (by decide)) pass0 (pa_cons (pv 0) (pa_cons (pv 5) (pa_cons (pv 6) pa_nil)))))) (pw_or1 (pt_not (pt_val (pe_fn G_l_left (hr.mono (by decide)) pass0 (pa_cons (pv 0) (pa_cons (pv 5) (pa_cons (pv 6) pa_nil))))))))) (pss_one (ps_ret pe_bl)) pss_nil))))))))
      (pss_one (ps_ret pe_bl))))), ?_⟩
    refine ⟨_, rfl, p, rfl, hp, fun H1 t b1 hp1 tk => ?_⟩
    obtain ⟨t9, tok⟩ := tk
    -- the pairs
    refine ⟨rfl, fun H2 q0 s2 nq0 hq0 => ⟨(by show 2 ≤ sizeLine; decide), fun m0 nm0 => ⟨(by show 2 ≤ sizeLine; decide), fun u0 nu0 => ?_⟩⟩⟩
    refine ⟨_, rfl, _, rfl, .inl ⟨t, rfl, by omega, fun H5 q1 s5 nq1 hq1 => ?_⟩⟩
    refine ⟨_, rfl, _, rfl, _, rfl, small (by omega), (by show 2 ≤ sizeLine; decide), fun m1 nm1 => ⟨(by show 2 ≤ sizeLine; decide), fun u1 nu1 => ⟨(by show 2 ≤ sizeLine; decide), fun lp nlp => ?_⟩⟩⟩
    have s3 := same_upd (o := .lst [.str "", .int 0]) nm0
    have s4 := same_upd (o := .tup [.ref q0, .ref m0]) nu0
    have s6 := same_upd (o := .lst [.str t, .int t.length]) nm1
    have s7 := same_upd (o := .tup [.ref q1, .ref m1]) nu1
    have s8 := same_upd (o := .lst [.ref u0, .ref u1]) nlp
    have bn1 : ButN p H H1 := .of b1
    have hp2 := hp1.same s2
    have hp3 := hp2.same s3
    have hp4 := hp3.same s4
    have hp5 := hp4.same s5
    have hp6 := hp5.same s6
    have hp7 := hp6.same s7
    have hp8 := hp7.same s8
    have bn2 : ButN p H _ := bn1.trans (ButN.same s2)
    have bn4 : ButN p H _ := bn2.trans (ButN.same (s3.trans s4))
    have bn7 : ButN p H _ := bn4.trans (ButN.same (s5.trans (s6.trans s7)))
    have bn8 : ButN p H _ := bn7.trans (ButN.same s8)
    have s58 := s5.trans (s6.trans (s7.trans s8))
    have s68 := s6.trans (s7.trans s8)
    have P0 : POk C H _ p u0 q0 m0 "" 0 9 := ⟨s58 u0 _ upd_same, ((hq0.same s3).same s4).same s58, s58 _ _ (s4 m0 _ upd_same), fr_new bn1 hp1 nq0, hp2.ne nm0, ⟨by decide, by decide +kernel, by decide, by decide⟩, by decide⟩
    have P1 : POk C H _ p u1 q1 m1 t t.length 9 := ⟨s8 u1 _ upd_same, hq1.same s68, s8 _ _ (s7 m1 _ upd_same), fr_new bn4 hp4 nq1, hp5.ne nm1, ⟨by omega, tok, by omega, by omega⟩, t9⟩
    have ne01 : q0 ≠ q1 := by
      obtain ⟨dx, e⟩ := (hq0.same s3).same s4
      exact ne_of_none e nq1
    have pr : Prs C H _ p lp 9 := ⟨fr_new bn7 hp7 nlp, hp7.ne nlp, u0, q0, m0, "", 0, u1, q1, m1, t, t.length, upd_same, P0, P1, ne01⟩
    have tb8 : LamX.Tabs Tb _ := tabs_same (tabs_kp tb (hp.kp b1)) (s2.trans (s3.trans (s4.trans s58)))
    clear P0 P1 ne01 s58 s68 bn7 bn4 bn2 bn1 hp7 hp6 hp5 hp4 hp3 hp2 s2 s3 s4 s5 s6 s7 s8 hq0 hq1 nm0 nm1 nu0 nu1 nq0 nq1
    generalize upd _ lp _ = H8 at *
    -- the turns
    refine nm_of ?_
    dsimp only
    refine seq_cut (fun σ' H' => ButN p H H' ∧ LamX.Tabs Tb H' ∧ ∃ v, σ'[0]? = some v) (fun N hN => ?_) ?_
    · refine ⟨_, rfl, p, 16, rfl, hp8, by decide, by decide, fun H9 d b9 hp9 d0 d1 => ⟨_, _, rfl, rfl, _, rfl, by omega, by omega, ?_⟩⟩
      have k9 := hp8.kp b9
      obtain ⟨lf, lpp, u0, q0, m0, z0, n0, u1, q1, m1, z1, n1, hl, P0, P1, ne⟩ := pr
      refine for_range (lo := 0) (n := (1 + d).toNat) (fun i σ' H' => ButN p H H' ∧ PotAt H' p ∧ LamX.Tabs Tb H' ∧ Prs C H H' p lp (9 + 9 * i) ∧ StR p lp σ') ?_ ?_ ?_
      · exact ⟨bn8.trans (.of b9), hp9, tabs_kp tb8 k9, ⟨lf, lpp, u0, q0, m0, z0, n0, u1, q1, m1, z1, n1, b9 _ _ hl lpp, P0.bn (.of b9) hp8, P1.bn (.of b9) hp8, ne⟩, _, _, _, _, _, _, rfl⟩
      · clear hl P0 P1 ne bn8 hp8 tb8 b9 hp9 k9 hN
        clear u0 q0 m0 z0 n0 u1 q1 m1 z1 n1
        rintro i σ H3 hi ⟨bn3, hp3, tb3, ⟨_, _, u0, q0, m0, z0, n0, u1, q1, m1, z1, n1, hl, P0, P1, ne⟩, v1, v3, v4, v5, v6, v7, rfl⟩
        have hi' : i < 16 := by omega
        -- k, the change, the store
        refine seq_cut (fun σ' H' => ∃ k : Int, (k = 0 ∨ k = 1) ∧ ButN p H H' ∧ PotAt H' p ∧ LamX.Tabs Tb H' ∧ H' lp = some (.lst [.ref u0, .ref u1]) ∧ POk C H H' p u0 q0 m0 z0 n0 (9 + 9 * i) ∧ POk C H H' p u1 q1 m1 z1 n1 (9 + 9 * i) ∧ σ' = [some (.ref p), v1, some (.ref lp), some (.int (0 + i)), some (.int k), v5, v6, v7, none, none]) (fun N hN => ?_) ?_
        · refine ⟨_, rfl, p, 2, rfl, hp3, by decide, by decide, fun H4 k b4 hp4 k0 k1 => hN _ _ ⟨k, by omega, bn3.trans (.of b4), hp4, tabs_kp tb3 (hp3.kp b4), b4 _ _ hl lpp, P0.bn (.of b4) hp3, P1.bn (.of b4) hp3, rfl⟩⟩
        clear bn3 hp3 tb3 hl P0 P1
        rintro σ H4 ⟨k, hk, bn4, hp4, tb4, hl, P0, P1, rfl⟩
        refine seq_cut (fun σ' H' => ∃ q m z n b, ButN p H H' ∧ PotAt H' p ∧ LamX.Tabs Tb H' ∧ DAt C H' q z n ∧ H' m = some (.lst [.str z, .int n]) ∧ Fre H q ∧ m ≠ p ∧ ZOk z n ∧ z.length ≤ 9 + 9 * (i + 1) ∧ b = true ∧ H' lp = some (.lst [.ref u0, .ref u1]) ∧ ((k = 0 ∧ q ≠ q1 ∧ POk C H H' p u1 q1 m1 z1 n1 (9 + 9 * i)) ∨ (k = 1 ∧ q0 ≠ q ∧ POk C H H' p u0 q0 m0 z0 n0 (9 + 9 * i))) ∧ σ' = [some (.ref p), v1, some (.ref lp), some (.int (0 + i)), some (.int k), some (.ref q), some (.ref m), some (.bl b), none, none]) (fun N hN => ?_) ?_
        · rcases hk with rfl | rfl
          · have at4 : atI [V.ref u0, V.ref u1] 0 = some (.ref u0) := atI_nat (j := 0) rfl
            have j0 : atI [V.ref q0, V.ref m0] 0 = some (.ref q0) := atI_nat (j := 0) rfl
            have j1 : atI [V.ref q0, V.ref m0] 1 = some (.ref m0) := atI_nat (j := 1) rfl
            have zl := P0.hl
            refine ⟨_, rfl, _, rfl, _, rfl, lp, _, _, _, rfl, rfl, SqL.of hl, at4, u0, _, _, _, rfl, rfl, SqT.of P0.hu, j0, _, rfl, _, rfl, lp, _, _, _, rfl, rfl, SqL.of hl, at4, u0, _, _, _, rfl, rfl, SqT.of P0.hu, j1, p, q0, m0, z0, n0, rfl, hp4, P0.hq, P0.hm, P0.mp, P0.ok, by omega, fun H5 t q m z n b5 hp5 ht hq hm fq fm ok l => ?_⟩
            have PO := P1.two b5 hp4 P0.hq ne.symm
            have nqq : q ≠ q1 := by
              rcases fq with e | e
              · rw [e]
                exact ne
              · obtain ⟨dx, e2⟩ := P1.hq
                exact (ne_of_none e2 e).symm
            have fr : Fre H q := by
              rcases fq with e | e
              · rw [e]
                exact P0.hf
              · exact fr_new bn4 hp4 e
            exact ⟨t, _, rfl, SqT.of ht, rfl, _, _, rfl, _, _, rfl, _, _, rfl, rfl, hN _ _ ⟨q, m, z, n, true, bn_two bn4 P0.hf b5, hp5, tabs_two tb4 b5 hp4 P0.hq, hq, hm, fr, hp4.ne fm, ok, by omega, rfl, b5 _ _ hl lpp (lst_ne hl P0.hq), .inl ⟨rfl, nqq, PO⟩, rfl⟩⟩
          · have at4 : atI [V.ref u0, V.ref u1] 1 = some (.ref u1) := atI_nat (j := 1) rfl
            have j0 : atI [V.ref q1, V.ref m1] 0 = some (.ref q1) := atI_nat (j := 0) rfl
            have j1 : atI [V.ref q1, V.ref m1] 1 = some (.ref m1) := atI_nat (j := 1) rfl
            have zl := P1.hl
            refine ⟨_, rfl, _, rfl, _, rfl, lp, _, _, _, rfl, rfl, SqL.of hl, at4, u1, _, _, _, rfl, rfl, SqT.of P1.hu, j0, _, rfl, _, rfl, lp, _, _, _, rfl, rfl, SqL.of hl, at4, u1, _, _, _, rfl, rfl, SqT.of P1.hu, j1, p, q1, m1, z1, n1, rfl, hp4, P1.hq, P1.hm, P1.mp, P1.ok, by omega, fun H5 t q m z n b5 hp5 ht hq hm fq fm ok l => ?_⟩
            have PO := P0.two b5 hp4 P1.hq ne
            have nqq : q ≠ q0 := by
              rcases fq with e | e
              · rw [e]
                exact ne.symm
              · obtain ⟨dx, e2⟩ := P0.hq
                exact (ne_of_none e2 e).symm
            have fr : Fre H q := by
              rcases fq with e | e
              · rw [e]
                exact P1.hf
              · exact fr_new bn4 hp4 e
            exact ⟨t, _, rfl, SqT.of ht, rfl, _, _, rfl, _, _, rfl, _, _, rfl, rfl, hN _ _ ⟨q, m, z, n, true, bn_two bn4 P1.hf b5, hp5, tabs_two tb4 b5 hp4 P1.hq, hq, hm, fr, hp4.ne fm, ok, by omega, rfl, b5 _ _ hl lpp (lst_ne hl P1.hq), .inr ⟨rfl, Ne.symm nqq, PO⟩, rfl⟩⟩
        clear bn4 hp4 tb4 hl P0 P1
        rintro σ H5 ⟨q, m, z, n, _, bn5, hp5, tb5, hq, hm, fr, mp, ok, l, rfl, hl, hor, rfl⟩
        refine seq_cut (fun σ' H' => ∃ q m z n, ButN p H H' ∧ PotAt H' p ∧ LamX.Tabs Tb H' ∧ Prs C H H' p lp (9 + 9 * (i + 1)) ∧ DAt C H' q z n ∧ H' m = some (.lst [.str z, .int n]) ∧ m ≠ p ∧ ZOk z n ∧ z.length ≤ 9 + 9 * (i + 1) ∧ σ' = [some (.ref p), v1, some (.ref lp), some (.int (0 + i)), some (.int k), some (.ref q), some (.ref m), some (.bl true), none, none]) (fun N hN => ?_) ?_
        · rcases hor with ⟨rfl, nq, po⟩ | ⟨rfl, nq, po⟩
          · refine ⟨_, rfl, _, rfl, (by show 2 ≤ sizeLine; decide), fun u nu => ⟨_, rfl, _, rfl, lp, _, _, 0, rfl, rfl, same_upd nu _ _ hl, rfl, hN _ _ ?_⟩⟩
            have s6 := same_upd (o := .tup [.ref q, .ref m]) nu
            have b7 : But lp (L2.upd H5 u (.tup [.ref q, .ref m])) (L2.upd (L2.upd H5 u (.tup [.ref q, .ref m])) lp (.lst [.ref u, .ref u1])) := but_upd
            have nul : u ≠ lp := (ne_of_none hl nu).symm
            have hqu : DAt C (L2.upd H5 u (.tup [.ref q, .ref m])) q z n := hq.same s6
            have hq7 : DAt C (L2.upd (L2.upd H5 u (.tup [.ref q, .ref m])) lp (.lst [.ref u, .ref u1])) q z n := hqu.but b7 (lst_ne (s6 _ _ hl) hqu).symm
            have nml : m ≠ lp := fun e => by
              rw [e, hl] at hm
              cases hm
            have hm7 := b7 _ _ (s6 _ _ hm) nml
            have PK : POk C H _ p u q m z n (9 + 9 * (i + 1)) := ⟨b7 u _ upd_same nul, hq7, hm7, fr, mp, ok, l⟩
            have PO : POk C H _ p u1 q1 m1 z1 n1 (9 + 9 * (i + 1)) := (po.same s6).lp b7 (s6 _ _ hl) (by omega)
            exact ⟨q, m, z, n, bn_own (bn5.trans (ButN.same s6)) lf b7, (hp5.same s6).but b7 lpp.symm, tabs_kp (tabs_same tb5 s6) (kp_upd (s6 _ _ hl)), ⟨lf, lpp, u, q, m, z, n, u1, q1, m1, z1, n1, upd_same, PK, PO, nq⟩, hq7, hm7, mp, ok, l, rfl⟩
          · refine ⟨_, rfl, _, rfl, (by show 2 ≤ sizeLine; decide), fun u nu => ⟨_, rfl, _, rfl, lp, _, _, 1, rfl, rfl, same_upd nu _ _ hl, rfl, hN _ _ ?_⟩⟩
            have s6 := same_upd (o := .tup [.ref q, .ref m]) nu
            have b7 : But lp (L2.upd H5 u (.tup [.ref q, .ref m])) (L2.upd (L2.upd H5 u (.tup [.ref q, .ref m])) lp (.lst [.ref u0, .ref u])) := but_upd
            have nul : u ≠ lp := (ne_of_none hl nu).symm
            have hqu : DAt C (L2.upd H5 u (.tup [.ref q, .ref m])) q z n := hq.same s6
            have hq7 : DAt C (L2.upd (L2.upd H5 u (.tup [.ref q, .ref m])) lp (.lst [.ref u0, .ref u])) q z n := hqu.but b7 (lst_ne (s6 _ _ hl) hqu).symm
            have nml : m ≠ lp := fun e => by
              rw [e, hl] at hm
              cases hm
            have hm7 := b7 _ _ (s6 _ _ hm) nml
            have PK : POk C H _ p u q m z n (9 + 9 * (i + 1)) := ⟨b7 u _ upd_same nul, hq7, hm7, fr, mp, ok, l⟩
            have PO : POk C H _ p u0 q0 m0 z0 n0 (9 + 9 * (i + 1)) := (po.same s6).lp b7 (s6 _ _ hl) (by omega)
            exact ⟨q, m, z, n, bn_own (bn5.trans (ButN.same s6)) lf b7, (hp5.same s6).but b7 lpp.symm, tabs_kp (tabs_same tb5 s6) (kp_upd (s6 _ _ hl)), ⟨lf, lpp, u0, q0, m0, z0, n0, u, q, m, z, n, upd_same, PO, PK, nq⟩, hq7, hm7, mp, ok, l, rfl⟩
        clear bn5 hp5 tb5 hq hm fr mp ok l hl hor
        clear q m z n
        rintro σ H6 ⟨q, m, z, n, bn6, hp6, tb6, pr, hq, hm, mp, ok, l, rfl⟩
        obtain ⟨_, _, u0, q0, m0, z0, n0, u1, q1, m1, z1, n1, hl, P0, P1, ne⟩ := pr
        -- all are shown
        refine ⟨_, rfl, _, rfl, iteF ?_⟩
        refine ⟨_, rfl, lp, rfl, ⟨_, SqL.of hl⟩, fun D hD => ?_⟩
        refine lc_list (xs := [V.ref u0, V.ref u1]) (fun j H' => Same H6 H' ∧ H' D = some (.lst ((List.replicate j true).map V.bl))) ⟨same_upd hD, upd_same⟩ (fun j H' _ h => SqL.of (h.1 _ _ hl)) ?_ ?_
        · rintro j x H7 hx ⟨s7, hD7⟩
          have one : ∃ u q m z n, x = .ref u ∧ POk C H H6 p u q m z n (9 + 9 * (i + 1)) := by
            match j, hx with
            | 0, hx => exact ⟨u0, q0, m0, z0, n0, (Option.some.inj hx).symm, P0⟩
            | 1, hx => exact ⟨u1, q1, m1, z1, n1, (Option.some.inj hx).symm, P1⟩
          have hj : j < 2 := (List.getElem?_eq_some_iff.mp hx).1
          obtain ⟨u', q', m', z', n', rfl, P'⟩ := one
          have P7 := P'.same s7
          refine ⟨u', _, rfl, SqT.of P7.hu, rfl, _, _, rfl, _, _, rfl, rfl, rfl, _, rfl, _, rfl, q', m', z', n', rfl, P7.hq, P7.hm, P7.ok, fun H9 s9 => ?_⟩
          have hD9 := s9 _ _ hD7
          refine ⟨_, hD9, ?_, fun b o e => ?_, ?_⟩
          · rw [List.length_map, List.length_replicate]
            exact Nat.lt_of_lt_of_le hj (by decide)
          · rw [upd_ne (ne_of_none e hD)]
            exact s9 _ _ (s7 _ _ e)
          · rw [upd_same, List.replicate_succ', List.map_append]
            rfl
        rintro H7 ⟨s7, hD7⟩
        refine ⟨D, [true, true], rfl, SqL.of hD7, _, rfl, iteN rfl ?_⟩
        have bn7 : ButN p H H7 := bn6.trans (ButN.same s7)
        have hp7 := hp6.same s7
        have tb7 := tabs_same tb6 s7
        have hl7 := s7 _ _ hl
        have P07 := P0.same s7
        have P17 := P1.same s7
        have hq7 := hq.same s7
        have hm7 := s7 _ _ hm
        clear bn6 hp6 tb6 hl P0 P1 hq hm hD hD7
        -- equal as the models
        have a0 : atI [V.ref u0, V.ref u1] 0 = some (.ref u0) := atI_nat (j := 0) rfl
        have a1 : atI [V.ref u0, V.ref u1] 1 = some (.ref u1) := atI_nat (j := 1) rfl
        have j0 : atI [V.ref q0, V.ref m0] 0 = some (.ref q0) := atI_nat (j := 0) rfl
        have j1 : atI [V.ref q0, V.ref m0] 1 = some (.ref m0) := atI_nat (j := 1) rfl
        have k0 : atI [V.ref q1, V.ref m1] 0 = some (.ref q1) := atI_nat (j := 0) rfl
        have k1 : atI [V.ref q1, V.ref m1] 1 = some (.ref m1) := atI_nat (j := 1) rfl
        obtain ⟨dx, e0⟩ := id P07.hq
        refine ⟨_, rfl, lp, _, _, _, rfl, rfl, SqL.of hl7, a0, u0, _, _, _, rfl, rfl, SqT.of P07.hu, j0, _, rfl, lp, _, _, _, rfl, rfl, SqL.of hl7, a1, u1, _, _, _, rfl, rfl, SqT.of P17.hu, k0, q0, dx, _, .ref C, rfl, e0, tyD T P17.hq, T.fC, q0, _, z0, n0, .ref C, true, rfl, P07.hq, tyD T P17.hq, T.kC, (fun z => nomatch z), fun _ => ⟨q1, z1, n1, rfl, P17.hq, ?_⟩⟩
        refine ⟨_, rfl, lp, _, _, _, rfl, rfl, SqL.of hl7, a0, u0, _, _, _, rfl, rfl, SqT.of P07.hu, j1, _, rfl, lp, _, _, _, rfl, rfl, SqL.of hl7, a1, u1, _, _, _, rfl, rfl, SqT.of P17.hu, k1, sh z0 n0, sh z1 n1, sh_dp P07.hm, sh_dp P17.hm, sh_shp n0 P07.ok.2.1, sh_shp n1 P17.ok.2.1, rfl, _, rfl, iteN (by rw [eqv_sh, decide_eq_true rfl]; rfl) ?_⟩
        refine ⟨_, rfl, lp, _, _, _, rfl, rfl, SqL.of hl7, a0, u0, _, _, _, rfl, rfl, SqT.of P07.hu, j0, _, rfl, lp, _, _, _, rfl, rfl, SqL.of hl7, a0, u0, _, _, _, rfl, rfl, SqT.of P07.hu, j1, q0, dx, _, .type "list", rfl, e0, .base (.lst P07.hm), T.fL, q0, _, z0, n0, .type "list", false, rfl, P07.hq, .base (.lst P07.hm), T.kL, (fun _ => ⟨_, rfl, iteF ?_⟩), fun z => nomatch z⟩
        -- refused, left
        refine ⟨_, rfl, _, rfl, _, rfl, p, q, m, z, n, rfl, hp7, hq7, hm7, mp, ok, tb7, fun H8 b8 hp8 tb8 => ⟨_, rfl, iteF ?_⟩⟩
        have hq8 : DAt C H8 q z n := by
          obtain ⟨dq, e⟩ := hq7
          exact ⟨dq, b8 _ _ e (hp7.neD ⟨dq, e⟩).symm (fun _ z => by cases z)⟩
        have hm8 := b8 _ _ hm7 mp (fun _ z => by cases z)
        refine ⟨_, rfl, _, rfl, _, rfl, p, q, m, z, n, rfl, hq8, hm8, ok, by omega, fun H9 s9 => ⟨_, rfl, iteN rfl ?_⟩⟩
        exact ⟨(bn7.trans b8).trans (ButN.same s9), hp8.same s9, tabs_same tb8 s9, ⟨lf, lpp, u0, q0, m0, z0, n0, u1, q1, m1, z1, n1, s9 _ _ (b8 _ _ hl7 lpp (fun _ z => by cases z)), (P07.bn b8 hp7).same s9, (P17.bn b8 hp7).same s9, ne⟩, _, _, _, _, _, _, rfl⟩
      · rintro σ H' ⟨bn, _, tb, _, v1, v3, v4, v5, v6, v7, rfl⟩
        exact hN _ _ ⟨bn, tb, _, rfl⟩
    · rintro σ H' ⟨bn, tb, _⟩
      exact q _ bn tb
/-! ### the law -/
def spLaw (K : PySem.W.Frag) (Tb : List (Addr × Str)) : Sp := fun vs H Q _ => ∃ (a : Addr) (ns : List Int), vs = [.ref a] ∧ SqL K H a (ns.map V.int) ∧ ns.length ≤ 63 ∧ LamX.Tabs Tb H ∧ ∀ H', Q (.bl true) H'
theorem sq_ext {H H' : Hp} {a : Addr} {xs : List V} (h : SqL K H a xs) (e : LamX.ExtN H H') : SqL K H' a xs := by
  rcases h with (h | ⟨o, h⟩) | h
  · exact .inl (.inl (e _ _ h (fun _ z => by cases z)))
  · exact .inl (.inr ⟨o, e _ _ h (fun _ z => by cases z)⟩)
  · exact .inr h
theorem ok_law {Tb : List (Addr × Str)} (T : Tx K mg C CE CL CR) (G_l_pot : Fnc P w K mg base CX0 1 "_law_pot" [] (spPot K)) (G_l_right : Fnc P w K mg base CX0 12 "_law_right" [] (spRight Tb)) (F : FD K "law" "law" s_law [] f fd) : FnG P w K mg base CX0 13 f fd ["_law_script"] (spLaw K Tb) := by
  refine ok0 F sc_law (fun vs H Q E h => ?_) (fun cdv A outer s H vs Q E hr h => ?_)
  · obtain ⟨a, ns, rfl, _⟩ := h
    rfl
  · obtain ⟨a, ns, rfl, hS, hl, tb, q⟩ := h
    refine ⟨_, (pss_one (ps_ret (pe_callB (cr_all rfl) (by rfl) T.n_all (by decide +kernel) (pa_cons (pe_lc (own := [("_law_k", 1)]) rfl sc_law.nd (pi_range1 (by rfl) T.n_range (pa_cons (pe_callB (call_max2 rfl) (by rfl) T.n_max (by decide +kernel) (pa_cons pe_int (pa_cons (pe_callB (call_min2 rfl) (by rfl) T.n_min (by decide +kernel) (pa_cons (pe_callB call_len_seq (by rfl) T.n_len (by decide +kernel) (pa_cons (pv 0) pa_nil)) (pa_cons pe_int pa_nil))) pa_nil))) pa_nil)) (blkOk_by (own := [("_law_k", 1)]) (N := n_law) (sc := defScope s_law) (by decide +kernel)) (fun _ _ _ _ _ => (pg_name (i := 1) sc_law.nd rfl (by first | exact Or.inl rfl | exact Or.inr rfl))) (fun _ _ _ _ _ => pts_nil) (fun _ _ _ _ _ => (pe_fn G_l_right (hr.mono (by decide)) pass0 (pa_cons (pe_fn G_l_pot (hr.mono (by decide)) pass0 (pa_cons (pv 0) (pa_cons (pv 1) pa_nil))) pa_nil)))) pa_nil)))), ?_⟩
    refine ⟨_, rfl, a, _, rfl, .inl hS, _, _, rfl, _, _, rfl, _, rfl, ?_, ?_, fun D hD => ?_⟩
    · rw [List.length_map]
      split <;> split <;> omega
    · rw [List.length_map]
      split <;> split <;> omega
    refine lc_range (lo := 0) (fun i H' => LamX.ExtN H H' ∧ LamX.Tabs Tb H' ∧ H' D = some (.lst ((List.replicate i true).map V.bl))) ?_ ?_ ?_
    · exact ⟨.of (same_upd hD), tabs_same tb (same_upd hD), upd_same⟩
    · rintro i H2 hi ⟨s2, tb2, hD2⟩
      have hi' : i < 8 := by
        rw [List.length_map] at hi
        split at hi <;> split at hi <;> omega
      refine ⟨rfl, _, rfl, _, rfl, a, ns, i, ?_, sq_ext hS s2, hl, by omega, fun H3 p s3 np hp3 => ?_⟩
      · simp
      refine ⟨p, rfl, hp3, tabs_same tb2 s3, fun H4 b4 tb4 => ?_⟩
      have s24 : LamX.ExtN H2 H4 := fun b o e t => b4 b o (s3 _ _ e) (ne_of_none e np) t
      have hD4 := lst_ext hD2 s24
      refine ⟨_, hD4, ?_, ?_, tabs_kp tb4 (kp_upd hD4), ?_⟩
      · rw [List.length_map, List.length_replicate]
        exact Nat.lt_of_lt_of_le hi' (by decide)
      · intro b o e t
        rw [upd_ne (ne_of_none e hD)]
        exact s24 _ _ (s2 _ _ e t) t
      · rw [upd_same, List.replicate_succ', List.map_append]
        rfl
    · rintro H2 ⟨s2, tb2, hD2⟩
      refine ⟨D, _, rfl, SqL.of hD2, ?_⟩
      have e : ∀ n, (List.replicate n true).all id = true := by simp
      rw [e]
      exact q _
end
end K76

set_option Elab.async false
set_option linter.all false
set_option maxRecDepth 100000
set_option maxHeartbeats 0
/-! the head, the end. -/
namespace K76
open PySem PySem.Spec PyProof.Rows L2 LL
def d_check_text : DefX := dX (gA "check_text") "check_text" "check_text" s_check_text
def d_l_pot : DefX := dX (gA "_law_pot") "_law_pot" "_law_pot" s_l_pot
def d_l_take : DefX := dX (gA "_law_take") "_law_take" "_law_take" s_l_take
def d_l_pick : DefX := dX (gA "_law_pick") "_law_pick" "_law_pick" s_l_pick
def d_l_text : DefX := dX (gA "_law_text") "_law_text" "_law_text" s_l_text
def d_l_refused : DefX := dX (gA "_law_refused") "_law_refused" "_law_refused" s_l_refused
def d_l_is_shown : DefX := dX (gA "_law_is_shown") "_law_is_shown" "_law_is_shown" s_l_is_shown
def d_l_refusals_right : DefX := dX (gA "_law_refusals_right") "_law_refusals_right" "_law_refusals_right" s_l_refusals_right
def d_l_changed : DefX := dX (gA "_law_changed") "_law_changed" "_law_changed" s_l_changed
def d_l_left : DefX := dX (gA "_law_left") "_law_left" "_law_left" s_l_left
def d_l_right : DefX := dX (gA "_law_right") "_law_right" "_law_right" s_l_right
def d_law : DefX := dX (gA "law") "law" "law" s_law
def d_Diskinit : DefX := dX (mA "Disk" "__init__") "__init__" "Disk.__init__" s_Diskinit [.str ""]
def d_Disk_append : DefX := dX (mA "Disk" "append") "append" "Disk.append" s_Disk_append
def d_Disk_sync : DefX := dX (mA "Disk" "sync") "sync" "Disk.sync" s_Disk_sync
def d_Disk_stopped : DefX := dX (mA "Disk" "stopped") "stopped" "Disk.stopped" s_Disk_stopped
def d_Disk_without : DefX := dX (mA "Disk" "without") "without" "Disk.without" s_Disk_without
def d_Disk_clone : DefX := dX (mA "Disk" "clone") "clone" "Disk.clone" s_Disk_clone
def d_Diskeq : DefX := dX (mA "Disk" "__eq__") "__eq__" "Disk.__eq__" s_Diskeq
def d_Disk_content : DefX := dX (pA "Disk" "content") "content" "Disk.content" s_Disk_content
def d_Disk_sure : DefX := dX (pA "Disk" "sure") "sure" "Disk.sure" s_Disk_sure
def d_InvalidRecordinit : DefX := dX (mA "InvalidRecord" "__init__") "__init__" "InvalidRecord.__init__" s_InvalidRecordinit
def d_InvalidLengthinit : DefX := dX (mA "InvalidLength" "__init__") "__init__" "InvalidLength.__init__" s_InvalidLengthinit
def fn : List DefX := [d_check_text, d_l_pot, d_l_take, d_l_pick, d_l_text, d_l_refused, d_l_is_shown, d_l_refusals_right, d_l_changed, d_l_left, d_l_right, d_law, d_Diskinit, d_Disk_append, d_Disk_sync, d_Disk_stopped, d_Disk_without, d_Disk_clone, d_Diskeq, d_Disk_content, d_Disk_sure, d_InvalidRecordinit, d_InvalidLengthinit]
def t0 : Ft := fGlo "check_text"
def t1 : Ft := fGlo "_law_pot"
def t2 : Ft := fGlo "_law_take"
def t3 : Ft := fGlo "_law_pick"
def t4 : Ft := fGlo "_law_text"
def t5 : Ft := fGlo "_law_refused"
def t6 : Ft := fGlo "_law_is_shown"
def t7 : Ft := fGlo "_law_refusals_right"
def t8 : Ft := fGlo "_law_changed"
def t9 : Ft := fGlo "_law_left"
def t10 : Ft := fGlo "_law_right"
def t11 : Ft := fGlo "law"
def t12 : Ft := fMeth "Disk" "append"
def t13 : Ft := fMeth "Disk" "sync"
def t14 : Ft := fMeth "Disk" "stopped"
def t15 : Ft := fMeth "Disk" "without"
def t16 : Ft := fMeth "Disk" "clone"
def t17 : Ft := fSpec "Disk" "__eq__"
def t18 : Ft := fProp "Disk" "content"
def t19 : Ft := fProp "Disk" "sure"
def t20 : Ft := fXcl "InvalidRecord" "value"
def t21 : Ft := fXcl "InvalidLength" "value"
def t22 : Ft := fGlo "Disk"
def t23 : Ft := fGlo "LeastlogError"
def t24 : Ft := fGlo "InvalidRecord"
def t25 : Ft := fGlo "InvalidLength"
def t26 : Ft := fMkr "Disk"
def t27 : Ft := fCls "Disk"
def t28 : Ft := fNo "Disk" "own_text"
def t29 : Ft := fNo "Disk" "own_sure"
def t30 : Ft := fLe "LeastlogError"
def t31 : Ft := fSame (fun K => PySem.W.findIn K (.ref (He.ga K "Disk")) "__class__") (fun _ => some (some (.builtin "object.__class__")))
def t32 : Ft := fSame (fun K => PySem.W.specialIn K (.builtin "object.__class__") "__get__") (fun _ => some (some (.builtin "getset_descriptor.__get__")))
def t33 : Ft := fBool (fun K => PySem.W.takesIn K (.builtin "object.__class__")) true
def t34 : Ft := fBool (fun K => PySem.W.mroIn K (He.ga K "Disk") (.type "object")) true
def t35 : Ft := fBool (fun K => PySem.W.kitOne K (.ref (He.ga K "Disk")) (.ref (He.ga K "Disk"))) true
def t36 : Ft := fBool (fun K => PySem.W.kitOne K (.type "list") (.ref (He.ga K "Disk"))) false
def t37 : Ft := fBool (fun K => PySem.W.kitOne K (.ref (He.ga K "InvalidLength")) (.ref (He.ga K "LeastlogError"))) true
def t38 : Ft := fBool (fun K => PySem.W.kitOne K (.ref (He.ga K "InvalidRecord")) (.ref (He.ga K "LeastlogError"))) true
def t39 : Ft := fBool (fun K => PySem.W.exmOne K (.ref (He.ga K "InvalidLength")) (.ref (He.ga K "InvalidLength"))) true
def t40 : Ft := fBool (fun K => PySem.W.exmOne K (.ref (He.ga K "InvalidRecord")) (.ref (He.ga K "InvalidLength"))) false
def t41 : Ft := fBool (fun K => PySem.W.exmOne K (.ref (He.ga K "InvalidRecord")) (.ref (He.ga K "InvalidRecord"))) true
def t42 : Ft := fSame (fun K => PySem.W.findIn K (.ref (He.ga K "Disk")) "__ne__") (fun _ => some (some (.builtin "object.__ne__")))
def t43 : Ft := (fun K => PySem.W.notFirst K (He.ga K "Disk") (.type "list"))
def t44 : Ft := (fun K => PySem.W.notFirst K (He.ga K "Disk") (.ref (He.ga K "Disk")))
def t45 : Ft := fFree "isinstance"
def t46 : Ft := fFree "int"
def t47 : Ft := fFree "bool"
def t48 : Ft := fFree "abs"
def t49 : Ft := fFree "str"
def t50 : Ft := fFree "repr"
def t51 : Ft := fFree "range"
def t52 : Ft := fFree "len"
def t53 : Ft := fFree "max"
def t54 : Ft := fFree "min"
def t55 : Ft := fFree "divmod"
def t56 : Ft := fFree "all"
def t57 : Ft := fFree "list"
def ft0 : List Ft := [t0, t1, t2, t3, t4, t5, t6, t7, t8, t9, t10, t11, t12, t13, t14, t15, t16, t17, t18, t19, t20, t21, t22, t23, t24, t25, t26, t27, t28, t29]
def ft1 : List Ft := [t30, t31, t32, t33, t34, t35, t36, t37, t38, t39, t40, t41, t42, t43, t44, t45, t46, t47, t48, t49, t50, t51, t52, t53, t54, t55, t56, t57]
def ft : List Ft := ft0 ++ ft1
def tf : List (PySem.W.Frag → Addr) := [gA "_law_refusals_right"]
def loose0 : List PySem.Str := ["LeastlogError", "InvalidRecord", "InvalidLength", "check_text", "Disk", "_law_pot", "_law_take", "_law_pick", "_law_text", "_law_refused", "_law_is_shown", "_law_refusals_right", "_law_changed", "_law_left", "_law_right"]
def loose : List PySem.Str := loose0
abbrev R : PySem.W.OpenRow := PySem.W.OpenLaw.row PySem.Challenge.rw_leastlog_k76_disks
abbrev hk : PySem.W.Hook := hookT 7 ft fn tf
def ob (s : PySem.W.SharedT) : LL.AlT := LL.obsTG 7 ft fn tf (HandSHeadRun.getT s)
theorem ob_eq (s : PySem.W.SharedT) : ob s = hk.obs s.abs := LL.obsTG_eq (HandSHeadRun.getT_eq s)
theorem run (w : World) : HandSHeadRun.RunEq R (PySem.W.view R.prog [18]) hk ob 8000 loose w := by
  intro os
  kernel_rfl
def csOf (K : PySem.W.Frag) : List (Addr × Addr) := tf.map fun a => (cOf K (a K), tOf K (a K))
section
variable {P : Program} {w : World} {K : PySem.W.Frag} {h : Heap} {mg : Str → Option Value} {fa : Addr}
theorem facts (X : K.In h) (G : h.Ns mainGlobals mg) (hfa : mg ("law" : Str) = some (.ref fa)) (c : SaysY ft fn K) :
    ∃ fd : FuncData, (∀ (s : Shared) (v : Value), BindsTo s fd ⟨[v], []⟩ [("_law_script", v)]) ∧ ∀ base : Heap, K.In base → base.Ns mainGlobals mg → (∀ p ∈ csOf K, LamX.TabB base mg p.1 p.2) → FnG P w K mg base CX0 13 fa fd ["_law_script"] (spLaw K [(tOf K (gA "_law_refusals_right" K), lamQ)]) := by
  obtain ⟨fd_check_text, F_check_text⟩ := c.fn_ 0
  obtain ⟨fd_l_pot, F_l_pot⟩ := c.fn_ 1
  obtain ⟨fd_l_take, F_l_take⟩ := c.fn_ 2
  obtain ⟨fd_l_pick, F_l_pick⟩ := c.fn_ 3
  obtain ⟨fd_l_text, F_l_text⟩ := c.fn_ 4
  obtain ⟨fd_l_refused, F_l_refused⟩ := c.fn_ 5
  obtain ⟨fd_l_is_shown, F_l_is_shown⟩ := c.fn_ 6
  obtain ⟨fd_l_refusals_right, F_l_refusals_right⟩ := c.fn_ 7
  obtain ⟨fd_l_changed, F_l_changed⟩ := c.fn_ 8
  obtain ⟨fd_l_left, F_l_left⟩ := c.fn_ 9
  obtain ⟨fd_l_right, F_l_right⟩ := c.fn_ 10
  obtain ⟨fd_law, F_law⟩ := c.fn_ 11
  obtain ⟨fd_Diskinit, F_Diskinit⟩ := c.fn_ 12
  obtain ⟨fd_Disk_append, F_Disk_append⟩ := c.fn_ 13
  obtain ⟨fd_Disk_sync, F_Disk_sync⟩ := c.fn_ 14
  obtain ⟨fd_Disk_stopped, F_Disk_stopped⟩ := c.fn_ 15
  obtain ⟨fd_Disk_without, F_Disk_without⟩ := c.fn_ 16
  obtain ⟨fd_Disk_clone, F_Disk_clone⟩ := c.fn_ 17
  obtain ⟨fd_Diskeq, F_Diskeq⟩ := c.fn_ 18
  obtain ⟨fd_Disk_content, F_Disk_content⟩ := c.fn_ 19
  obtain ⟨fd_Disk_sure, F_Disk_sure⟩ := c.fn_ 20
  obtain ⟨fd_InvalidRecordinit, F_InvalidRecordinit⟩ := c.fn_ 21
  obtain ⟨fd_InvalidLengthinit, F_InvalidLengthinit⟩ := c.fn_ 22
  have T : Tx K mg (He.ga K "Disk") (He.ga K "LeastlogError") (He.ga K "InvalidLength") (He.ga K "InvalidRecord") := {
    cl := He.cls_ok (c.fact 27)
    nT := He.noat_ok (c.fact 28)
    nS := He.noat_ok (c.fact 29)
    le := fLe_ok (c.fact 30)
    g_Disk := He.glo_ok X G (c.fact 22)
    g_LeastlogError := He.glo_ok X G (c.fact 23)
    g_InvalidRecord := He.glo_ok X G (c.fact 24)
    g_InvalidLength := He.glo_ok X G (c.fact 25)
    ca := He.eqO_ok (c.fact 31)
    cn := He.eqO_ok (c.fact 32)
    ne := He.eqO_ok (c.fact 42)
    ct := of_decide_eq_true (c.fact 33)
    cm := of_decide_eq_true (c.fact 34)
    kC := of_decide_eq_true (c.fact 35)
    kL := of_decide_eq_true (c.fact 36)
    kLE := of_decide_eq_true (c.fact 37)
    kRE := of_decide_eq_true (c.fact 38)
    xLL := of_decide_eq_true (c.fact 39)
    xRL := of_decide_eq_true (c.fact 40)
    xRR := of_decide_eq_true (c.fact 41)
    fL := (c.fact 43)
    fC := (c.fact 44)
    n_isinstance := He.free_ok X G (c.fact 45)
    n_int := He.free_ok X G (c.fact 46)
    n_bool := He.free_ok X G (c.fact 47)
    n_abs := He.free_ok X G (c.fact 48)
    n_str := He.free_ok X G (c.fact 49)
    n_repr := He.free_ok X G (c.fact 50)
    n_range := He.free_ok X G (c.fact 51)
    n_len := He.free_ok X G (c.fact 52)
    n_max := He.free_ok X G (c.fact 53)
    n_min := He.free_ok X G (c.fact 54)
    n_divmod := He.free_ok X G (c.fact 55)
    n_all := He.free_ok X G (c.fact 56)
    n_list := He.free_ok X G (c.fact 57)
  }
  have B_check_text : Binds K fd_check_text ["text"] [] := F_check_text.bindsN fun _ _ _ _ _ _ us hl => match us, hl with | [_], _ => rfl
  have B_l_pot : Binds K fd_l_pot ["_law_script", "_law_k"] [] := F_l_pot.bindsN fun _ _ _ _ _ _ us hl => match us, hl with | [_, _], _ => rfl
  have B_l_take : Binds K fd_l_take ["_law_pot_here", "_law_many"] [] := F_l_take.bindsN fun _ _ _ _ _ _ us hl => match us, hl with | [_, _], _ => rfl
  have B_l_pick : Binds K fd_l_pick ["_law_pot_here", "_law_some"] [] := F_l_pick.bindsN fun _ _ _ _ _ _ us hl => match us, hl with | [_, _], _ => rfl
  have B_l_text : Binds K fd_l_text ["_law_pot_here"] [] := F_l_text.bindsN fun _ _ _ _ _ _ us hl => match us, hl with | [_], _ => rfl
  have B_l_refused : Binds K fd_l_refused ["_law_call"] [] := F_l_refused.bindsN fun _ _ _ _ _ _ us hl => match us, hl with | [_], _ => rfl
  have B_l_is_shown : Binds K fd_l_is_shown ["_law_disk", "_law_model"] [] := F_l_is_shown.bindsN fun _ _ _ _ _ _ us hl => match us, hl with | [_, _], _ => rfl
  have B_l_refusals_right : Binds K fd_l_refusals_right ["_law_pot_here", "_law_disk", "_law_model"] [] := F_l_refusals_right.bindsN fun _ _ _ _ _ _ us hl => match us, hl with | [_, _, _], _ => rfl
  have B_l_changed : Binds K fd_l_changed ["_law_pot_here", "_law_disk", "_law_model"] [] := F_l_changed.bindsN fun _ _ _ _ _ _ us hl => match us, hl with | [_, _, _], _ => rfl
  have B_l_left : Binds K fd_l_left ["_law_pot_here", "_law_disk", "_law_model"] [] := F_l_left.bindsN fun _ _ _ _ _ _ us hl => match us, hl with | [_, _, _], _ => rfl
  have B_l_right : Binds K fd_l_right ["_law_pot_here"] [] := F_l_right.bindsN fun _ _ _ _ _ _ us hl => match us, hl with | [_], _ => rfl
  have B_law : Binds K fd_law ["_law_script"] [] := F_law.bindsN fun _ _ _ _ _ _ us hl => match us, hl with | [_], _ => rfl
  have B_Disk_append : Binds K fd_Disk_append ["self", "text"] [] := F_Disk_append.bindsN fun _ _ _ _ _ _ us hl => match us, hl with | [_, _], _ => rfl
  have B_Disk_sync : Binds K fd_Disk_sync ["self"] [] := F_Disk_sync.bindsN fun _ _ _ _ _ _ us hl => match us, hl with | [_], _ => rfl
  have B_Disk_stopped : Binds K fd_Disk_stopped ["self", "length"] [] := F_Disk_stopped.bindsN fun _ _ _ _ _ _ us hl => match us, hl with | [_, _], _ => rfl
  have B_Disk_without : Binds K fd_Disk_without ["self", "length"] [] := F_Disk_without.bindsN fun _ _ _ _ _ _ us hl => match us, hl with | [_, _], _ => rfl
  have B_Disk_clone : Binds K fd_Disk_clone ["self"] [] := F_Disk_clone.bindsN fun _ _ _ _ _ _ us hl => match us, hl with | [_], _ => rfl
  have B_Diskeq : Binds K fd_Diskeq ["self", "other"] [] := F_Diskeq.bindsN fun _ _ _ _ _ _ us hl => match us, hl with | [_, _], _ => rfl
  have B_Disk_content : Binds K fd_Disk_content ["self"] [] := F_Disk_content.bindsN fun _ _ _ _ _ _ us hl => match us, hl with | [_], _ => rfl
  have B_Disk_sure : Binds K fd_Disk_sure ["self"] [] := F_Disk_sure.bindsN fun _ _ _ _ _ _ us hl => match us, hl with | [_], _ => rfl
  have B_InvalidRecordinit : Binds K fd_InvalidRecordinit ["self", "value"] [] := F_InvalidRecordinit.bindsN fun _ _ _ _ _ _ us hl => match us, hl with | [_, _], _ => rfl
  have B_InvalidLengthinit : Binds K fd_InvalidLengthinit ["self", "value"] [] := F_InvalidLengthinit.bindsN fun _ _ _ _ _ _ us hl => match us, hl with | [_, _], _ => rfl
  obtain ⟨ds0, v0, B0⟩ := FunD.binds1 (ps := ["self", "text"]) F_Diskinit 1 0 (by decide) rfl fun _ _ _ _ _ _ _ us its hl hi => match us, its, hl, hi with | [_], [_], _, _ => ⟨_, rfl, rfl⟩
  obtain ⟨ds1, v1, B1⟩ := FunD.binds1 (ps := ["self", "text"]) F_Diskinit 2 1 (by decide) rfl fun _ _ _ _ _ _ _ us its hl hi => match us, its, hl, hi with | [_, _], [_], _, _ => ⟨_, rfl, rfl⟩
  have e := hfa.symm.trans (He.glo_ok X G (c.fact 11))
  cases e
  have b := FunD.bindsA (ps := ["_law_script"]) F_law fun _ _ _ _ _ _ us hl => match us, hl with | [_], _ => rfl
  refine ⟨fd_law, fun s v => b s [v] rfl, fun base kb nb tbs => ?_⟩
  have O_InvalidRecord : OexC K (He.ga K "InvalidRecord") ∧ PySem.W.findIn K (.ref (He.ga K "InvalidRecord")) "value" = some none := by
    have q := (c.fact 20)
    exact fXcl_pre q
  have X_InvalidRecord : Xcl P w K mg base 1 "InvalidRecord" (He.ga K "InvalidRecord") "value" := fXcl_ok (c.fact 20) (He.glo_ok X G (c.fact 24)) B_InvalidRecordinit (ok_rec T O_InvalidRecord.1 O_InvalidRecord.2 F_InvalidRecordinit)
  have O_InvalidLength : OexC K (He.ga K "InvalidLength") ∧ PySem.W.findIn K (.ref (He.ga K "InvalidLength")) "value" = some none := by
    have q := (c.fact 21)
    exact fXcl_pre q
  have X_InvalidLength : Xcl P w K mg base 1 "InvalidLength" (He.ga K "InvalidLength") "value" := fXcl_ok (c.fact 21) (He.glo_ok X G (c.fact 25)) B_InvalidLengthinit (ok_len T O_InvalidLength.1 O_InvalidLength.2 F_InvalidLengthinit)
  have G_check_text : Fnc P w K mg base (L2.CX P w) 3 "check_text" [] (spChk K (He.ga K "InvalidRecord")) := ⟨_, _, _, [], He.glo_ok X G (c.fact 0), F_check_text.kp, B_check_text, .nil, ok_check T X_InvalidRecord F_check_text⟩
  have init := ok_dinit (P := P) (w := w) (base := base) T G_check_text F_Diskinit
  have K0 : Mkr P w K mg base (L2.CX P w) 4 "Disk" (He.ga K "Disk") [.str ""] (spDI K (He.ga K "Disk") (He.ga K "InvalidRecord")) := ⟨_, _, _, _, He.mkr_ok (c.fact 26), T.g_Disk, B0, v0, init⟩
  have K1 : Mkr P w K mg base (L2.CX P w) 4 "Disk" (He.ga K "Disk") [] (spDI K (He.ga K "Disk") (He.ga K "InvalidRecord")) := ⟨_, _, _, _, He.mkr_ok (c.fact 26), T.g_Disk, B1, v1, init⟩
  have K_Disk0 := mkf0 K0
  have K_Disk1 := mkf1 K1
  have P_content : Prp P w K mg base CX0 1 (He.ga K "Disk") "content" (spGetT (He.ga K "Disk")) := ⟨T.cl, _, _, _, _, fProp_ok (c.fact 18), B_Disk_content, ok_content T F_Disk_content⟩
  have P_sure : Prp P w K mg base CX0 1 (He.ga K "Disk") "sure" (spGetS (He.ga K "Disk")) := ⟨T.cl, _, _, _, _, fProp_ok (c.fact 19), B_Disk_sure, ok_sure T F_Disk_sure⟩
  have M_append : Mth P w K mg base (L2.CX P w) 4 (He.ga K "Disk") "append" [] (spApp K (He.ga K "Disk") (He.ga K "InvalidRecord")) := ⟨T.cl, _, _, _, [], He.meth_ok (c.fact 12), B_Disk_append, .nil, ok_append T G_check_text F_Disk_append⟩
  have M_sync : Mth P w K mg base CX0 1 (He.ga K "Disk") "sync" [] (spSync (He.ga K "Disk")) := ⟨T.cl, _, _, _, [], He.meth_ok (c.fact 13), B_Disk_sync, .nil, ok_sync T F_Disk_sync⟩
  have M_stopped : Mth P w K mg base (L2.CX P w) 6 (He.ga K "Disk") "stopped" [] (spStop K (He.ga K "Disk") (He.ga K "InvalidLength")) := ⟨T.cl, _, _, _, [], He.meth_ok (c.fact 14), B_Disk_stopped, .nil, ok_stopped T X_InvalidLength K_Disk1 F_Disk_stopped⟩
  have M_without : Mth P w K mg base CX0 6 (He.ga K "Disk") "without" [] (spWo (He.ga K "Disk")) := ⟨T.cl, _, _, _, [], He.meth_ok (c.fact 15), B_Disk_without, .nil, ok_without T K_Disk1 F_Disk_without⟩
  have M_clone : Mth P w K mg base CX0 7 (He.ga K "Disk") "clone" [] (spClone (He.ga K "Disk")) := ⟨T.cl, _, _, _, [], He.meth_ok (c.fact 16), B_Disk_clone, .nil, ok_clone T M_without F_Disk_clone⟩
  have S_eq : SpF P w K mg base CX0 1 (He.ga K "Disk") "__eq__" (spEq K (He.ga K "Disk")) := ⟨_, _, _, (fSpec_ok (c.fact 17)).1, (fSpec_ok (c.fact 17)).2, B_Diskeq, ok_eq T F_Diskeq⟩
  have G_l_pot : Fnc P w K mg base CX0 1 "_law_pot" [] (spPot K) := ⟨_, _, _, [], He.glo_ok X G (c.fact 1), F_l_pot.kp, B_l_pot, .nil, ok_l_pot T F_l_pot⟩
  have G_l_take : Fnc P w K mg base CX0 1 "_law_take" [] spTake := ⟨_, _, _, [], He.glo_ok X G (c.fact 2), F_l_take.kp, B_l_take, .nil, ok_l_take T F_l_take⟩
  have G_l_pick : Fnc P w K mg base CX0 2 "_law_pick" [] spPick := ⟨_, _, _, [], He.glo_ok X G (c.fact 3), F_l_pick.kp, B_l_pick, .nil, ok_l_pick T G_l_take F_l_pick⟩
  have G_l_text : Fnc P w K mg base CX0 3 "_law_text" [] spText := ⟨_, _, _, [], He.glo_ok X G (c.fact 4), F_l_text.kp, B_l_text, .nil, ok_l_text T G_l_take G_l_pick F_l_text⟩
  have G_l_is_shown : Fnc P w K mg base CX0 3 "_law_is_shown" [] (spShown (He.ga K "Disk")) := ⟨_, _, _, [], He.glo_ok X G (c.fact 6), F_l_is_shown.kp, B_l_is_shown, .nil, ok_l_is_shown T P_content P_sure F_l_is_shown⟩
  have G_l_refused : Taker P w K mg base 9 "_law_refused" "_law_call" (TTr K (He.ga K "InvalidLength") (He.ga K "InvalidRecord")) := tk_refused T X_InvalidLength X_InvalidRecord F_l_refused (He.glo_ok X G (c.fact 5)) B_l_refused
  have tbr : LamX.TabB base mg (cOf K (gA "_law_refusals_right" K)) (tOf K (gA "_law_refusals_right" K)) := tbs _ (List.mem_map.mpr ⟨_, List.mem_singleton.mpr rfl, rfl⟩)
  have G_l_refusals_right : Fnc P w K mg base CX0 11 "_law_refusals_right" [] (spRef (He.ga K "Disk") [(tOf K (gA "_law_refusals_right" K), lamQ)]) := ⟨_, _, _, [], He.glo_ok X G (c.fact 7), F_l_refusals_right.kp, B_l_refusals_right, .nil, ok_l_refusals T G_l_pick G_l_refused M_stopped M_append K_Disk1 G_l_is_shown F_l_refusals_right tbr⟩
  have G_l_changed : Fnc P w K mg base CX0 8 "_law_changed" [] (spChg (He.ga K "Disk")) := ⟨_, _, _, [], He.glo_ok X G (c.fact 8), F_l_changed.kp, B_l_changed, .nil, ok_l_changed T G_l_take G_l_text M_append M_sync M_stopped M_clone S_eq G_l_is_shown F_l_changed⟩
  have G_l_left : Fnc P w K mg base CX0 8 "_law_left" [] (spLeft (He.ga K "Disk")) := ⟨_, _, _, [], He.glo_ok X G (c.fact 9), F_l_left.kp, B_l_left, .nil, ok_l_left T M_append M_sync M_clone G_l_is_shown F_l_left⟩
  have G_l_right : Fnc P w K mg base CX0 12 "_law_right" [] (spRight [(tOf K (gA "_law_refusals_right" K), lamQ)]) := ⟨_, _, _, [], He.glo_ok X G (c.fact 10), F_l_right.kp, B_l_right, .nil, ok_l_right T G_l_take G_l_text K_Disk0 K_Disk1 G_l_changed G_l_is_shown S_eq G_l_refusals_right G_l_left F_l_right⟩
  exact ok_law T G_l_pot G_l_right F_law
end
end K76
open PySem PySem.W PySem.Calls PyProof.Rows
theorem PySem.Challenge.cw_leastlog_k76_disks_holds : PySem.Challenge.rw_leastlog_k76_disks.Holds := by
  w_on; o_law
  refine HandSHeadRun.head_any (r := OpenLaw.row PySem.Challenge.rw_leastlog_k76_disks) (q := view (OpenLaw.row PySem.Challenge.rw_leastlog_k76_disks).prog [18]) (H := K76.hk) (ob := K76.ob) (M := 8000) (loose := K76.loose) (d := HandSHeadRun.topDef (OpenLaw.row PySem.Challenge.rw_leastlog_k76_disks).prog 18) (kwd := []) K76.ob_eq
    (by kernel_rfl) (fun s => by kernel_rfl) K76.run (by kernel_rfl) (by kernel_rfl) (by kernel_rfl) (by rfl) (by first | assumption | decide +kernel) (by decide +kernel) ⟨rfl, rfl, rfl, rfl, rfl, by decide +kernel⟩ ?hw ?hc
  case hw => w_witness2
  case hc =>
    refine LL.walkT (l := PySem.Challenge.rw_leastlog_k76_disks) (n := 63) (k := 13) (x := "_law_script") (CX := L2.CX0) rfl (by decide) (by kernel_rfl) ⟨⟨rfl, by decide, by decide⟩, rfl⟩ ?F (fun _ _ _ _ z => z)
    intro w mg fa h Y G hmg0
    obtain ⟨K, KX, c⟩ := Y
    have hmg : mg ("law" : PySem.Str) = some (.ref fa) := by
      have e : (HandSHeadRun.topDef (OpenLaw.row PySem.Challenge.rw_leastlog_k76_disks).prog 18).name = ("law" : PySem.Str) := by kernel_rfl
      rw [← e]
      exact hmg0
    obtain ⟨fd, hb, hF⟩ := K76.facts (P := (PySem.Challenge.rw_leastlog_k76_disks).prog) (w := w) KX G hmg c.y
    have mem : ∀ p ∈ K76.csOf K, ∃ a ∈ K76.tf, p = (LL.cOf K (a K), LL.tOf K (a K)) := fun p hp => by
      obtain ⟨a, ha, e⟩ := List.mem_map.mp hp
      exact ⟨a, ha, e.symm⟩
    refine ⟨K, fd, K76.spLaw K [(LL.tOf K (LL.gA "_law_refusals_right" K), K76.lamQ)], K76.csOf K, KX, fun p hp => ?_, fun p hp => ?_, fun p hp => ?_, hb, fun H a ns hl _ hT hS => ⟨a, ns, rfl, hS, hl, fun p hp => by rw [List.mem_singleton.mp hp]; exact LamX.TabS.nil (hT _ (List.mem_map.mpr ⟨_, List.mem_singleton.mpr rfl, rfl⟩)), fun _ => rfl⟩, hF⟩
    · obtain ⟨a, ha, rfl⟩ := mem p hp
      exact c.emp a ha
    · obtain ⟨a, ha, rfl⟩ := mem p hp
      exact c.out a ha
    · obtain ⟨a, ha, rfl⟩ := mem p hp
      exact c.hd a ha
