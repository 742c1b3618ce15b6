import PyProof.Rows.All
import Wide.All
import OpenK.AllK
import Wide.FinOn
import KE.KOpsOwn
import KE.KCallOwn
import KE.KFmtOwn
import PyProof.ReprRoads
import HandS.ForMost
import HandS.Exc
import HandS.Lambda
import HandS.Defaults
import HandS.Property
import HandS.IsInst
import HandS.FStr
import HandS.WideBits
import HandS.EndTab
import HandS.SlotsOwn
import HandS.FStrTup
import HandS.RaiseMore
import HandS.Head0
import HandS.Head1
import HandS.Head2
import HandS.HeadEnd
import HandS.HeadHook1
import HandS.HeadHook2
import HandS.EndBits
import HandS.Walk
import PySem.Challenge.RW_leastlog_k11_amounts_reckoned
set_option Elab.async false
set_option linter.all false
set_option maxRecDepth 100000
set_option maxHeartbeats 2000000
/-! LLBase: the layer with one fact more: no repr is under way where a def is called. -/
namespace LL
open PySem PySem.Spec PyProof.Rows L2

/-- room for k calls, and no container's repr is under way -/
structure Rm (k : Nat) (A : Around) : Prop where
  r : Room k A
  g : A.guards = some []
theorem Rm.mono {j k : Nat} {A : Around} (h : Rm k A) (q : j ≤ k) : Rm j A := ⟨h.r.mono q, h.g⟩
theorem Rm.deeper {k : Nat} {A : Around} (h : Rm (k + 1) A) (env : Env) : Rm k (A.deeper env) := ⟨h.r.deeper env, h.g⟩
theorem Rm.in1 {k : Nat} {A : Around} (h : Rm (k + 1) A) : Rm k A.in1 := ⟨h.r.in1, h.g⟩
theorem Rm.make {k : Nat} {A : Around} (h : Rm (k + 1) A) (C : Addr) (us : List Value) (kw : List (Str × Value)) : Rm k (A.under (.builtin "type.__call__" ⟨.ref C :: us, kw⟩)) :=
  ⟨h.r.make C us kw, by
    have e : (Code.builtin "type.__call__" ⟨.ref C :: us, kw⟩).guards = [] := by
      first | rfl | simp [Code.guards, Code.isGuard, guardIds]
    unfold Around.under
    rw [e, h.g]
    rfl⟩

/-- a def keeps its promise wherever there is room and no repr is under way -/
structure FnG (P : Program) (w : World) (K : PySem.W.Frag) (mg : Str → Option Value) (base : Heap) (CX : CXT) (k : Nat) (f : Addr) (fd : FuncData) (ps : List Str) (sp : Sp) : Prop where
  len : ∀ vs H Q E, sp vs H Q E → vs.length = ps.length
  run : ∀ (A : Around) (outer : List Env) (s : Shared) (H : Hp) (args : Args) (us : List Value) (vs : List V) (Q : VK) (E : XK), Rm k A → Env0 P w K mg base A outer s H → BindsTo s fd args (ps.zip us) → Vals vs us → sp vs H Q E →
    codeAny (model P w) A (.call (.ref f) args) (CR CX outer P w H s Q E) s
section
variable {P : Program} {w : World} {K : PySem.W.Frag} {mg : Str → Option Value} {base : Heap} {CX : CXT} {k : Nat} {f : Addr} {fd : FuncData} {ps : List Str} {sp sp' : Sp}
theorem FnG.mono {j : Nat} (F : FnG P w K mg base CX j f fd ps sp) (h : j ≤ k) : FnG P w K mg base CX k f fd ps sp :=
  ⟨F.len, fun A outer s H args us vs Q E hr => F.run A outer s H args us vs Q E (hr.mono h)⟩
theorem FnG.imp (F : FnG P w K mg base CX k f fd ps sp) (h : ∀ vs H Q E, sp' vs H Q E → sp vs H Q E) : FnG P w K mg base CX k f fd ps sp' :=
  ⟨fun vs H Q E q => F.len vs H Q E (h _ _ _ _ q), fun A outer s H args us vs Q E hr he hb hv hs => F.run A outer s H args us vs Q E hr he hb hv (h _ _ _ _ hs)⟩
/-- a def by its body: it may raise -/
theorem okX {x qual : Str} {params : Arguments} {body : List Stmt} {scope : Scope} {dvs : List V} {kws : List (Str × V)} {N : List Str} (F : FunD K x qual params body scope dvs kws f fd) (S : FnScope N ps scope) (len : ∀ vs H Q E, sp vs H Q E → vs.length = ps.length)
    (hbody : ∀ (cdv : Value) (A : Around) (outer : List Env) (s : Shared) (H : Hp) (vs : List V) (Q : VK) (E : XK), Rm k (A.deeper (envOfC qual scope s.heap.objs.size f cdv)) → sp vs H Q E →
      ∃ t, PSs (cxOf CX P w K mg base N qual scope f cdv A outer s H E) body t ∧ t { nx := fun _ H' => Q .non H', rt := Q } (L2.start N vs) H) : FnG P w K mg base CX (k + 1) f fd ps sp := by
  obtain ⟨oc, od, dV, kV, doc, pm, an, cdv, ct, osl, rfl, lk, hcd, _, _⟩ := F.ex
  refine ⟨len, fun A outer s H args us vs Q E hr e0 hb r hsp => ?_⟩
  exact LamX.run_ofS (CX := CX) lk hcd S hr.r e0 hb r (len _ _ _ _ hsp) fun _ => hbody cdv A outer s H vs Q E (hr.deeper _) hsp
/-- a def by its body: nothing leaves it -/
theorem ok0 {x qual : Str} {params : Arguments} {body : List Stmt} {scope : Scope} {dvs : List V} {kws : List (Str × V)} {N : List Str} (F : FunD K x qual params body scope dvs kws f fd) (S : FnScope N ps scope) (len : ∀ vs H Q E, sp vs H Q E → vs.length = ps.length)
    (hbody : ∀ (cdv : Value) (A : Around) (outer : List Env) (s : Shared) (H : Hp) (vs : List V) (Q : VK) (E : XK), Rm k (A.deeper (envOfC qual scope s.heap.objs.size f cdv)) → sp vs H Q E →
      ∃ t, PSs (cxOf CX0 P w K mg base N qual scope f cdv A outer s H E).nox body t ∧ t { nx := fun _ H' => Q .non H', rt := Q } (L2.start N vs) H) : FnG P w K mg base CX0 (k + 1) f fd ps sp :=
  okX F S len fun cdv A outer s H vs Q E hr h => by
    obtain ⟨t, ht, q⟩ := hbody cdv A outer s H vs Q E hr h
    exact ⟨t, ht.nox, q⟩
end

section
variable {X : Cx} {CX : CXT} {k : Nat} {f C : Addr} {fd : FuncData} {ps : List Str} {sp : Sp} {dvs : List V} {ds : List Value} {E : XK} {x m : Str} {p pos apos : Pos} {e o : Expr} {es : List Expr} {ta : TE} {t : TA}
/-- the callee runs, at any place that stands for this body's -/
theorem run_g {pins : List (Addr × Obj)} {σ : L2.St} {H : Hp} {s : Shared} {Q : VK} {us : List Value} {vs : List V} {A : Around} (F : FnG X.prog X.w X.K X.mg X.base CX k f fd ps sp) (hr : Rm k A) (e0 : Env0 X.prog X.w X.K X.mg X.base A X.stack s H) (hb : Binds X.K fd ps ds) (hd : Vals dvs ds) (hx : Passes CX X E)
    (I : Inv X pins σ H s) (r : Vals vs us) (h : sp (vs ++ dvs) H Q E) : wpAny (model X.prog X.w) A (call (.ref f) us) (EP X pins σ Q) X.xe s := by
  have r2 : Vals (vs ++ dvs) (us ++ ds) := r.append hd
  have hl : (us ++ ds).length = ps.length := by
    have := F.len _ _ _ _ h
    rw [← this]
    exact r2.length.symm
  have go := F.run A X.stack s H ⟨us, []⟩ (us ++ ds) (vs ++ dvs) Q E hr e0 (hb s us I.kIn hl) r2 h
  refine wpAny_call (codeAny_mono go fun r s' hq => ?_)
  match r, hq with
  | .error er, hq => exact hx pins σ H s er s' I hq
  | .ok (.ret u), hq => exact I.after hq
  | .ok .next, hq => exact False.elim hq
  | .ok .brk, hq => exact False.elim hq
  | .ok .cont, hq => exact False.elim hq
/-- f(e, ..) -/
theorem pe_callG (F : FnG X.prog X.w X.K X.mg X.base CX k f fd ps sp) (hr : Rm k X.A) (hg : Gl X x) (hm : X.mg x = some (.ref f)) (hk : PySem.W.keepIn X.K (.ref f) = true) (hb : Binds X.K fd ps ds) (hd : Vals dvs ds) (hx : Passes CX X E)
    (ha : PA X (e :: es) t) (hdb : (x == ("__debug__" : Str)) = false := by decide) (he : starEach (e :: es) X.env = (false, eval e X.env) :: starEach es X.env := by rfl) (hpl : (backTo pos (starEach es X.env)).any (·.1) = false := by rfl) :
    PE X (.Call (.Name x p) (e :: es) [] pos) (tCall sp dvs E t) :=
  ⟨fun pins s σ H Q I h => wpAny_Call_Name_kw (ld_glob I hg hm (PySem.W.callWith_K (h₀ := X.base) I.ok.mod.kin hk (thn (ha.run pos pins s σ H _ I h) fun us s1 ⟨vs, H1, I1, r, q⟩ => ⟨I1.kIn, run_g F hr I1.env0 hb hd hx I1 r q⟩) he hpl) hdb)⟩
theorem pe_call0G (F : FnG X.prog X.w X.K X.mg X.base CX k f fd ps sp) (hr : Rm k X.A) (hg : Gl X x) (hm : X.mg x = some (.ref f)) (hk : PySem.W.keepIn X.K (.ref f) = true) (hb : Binds X.K fd ps ds) (hd : Vals dvs ds) (hx : Passes CX X E)
    (hdb : (x == ("__debug__" : Str)) = false := by decide) : PE X (.Call (.Name x p) [] [] pos) (tCall sp dvs E tNil) :=
  ⟨fun pins s σ H Q I h => wpAny_Call_Name_kw (ld_glob I hg hm (PySem.W.callWith_K0 I.kIn hk (run_g (us := []) F hr I.env0 hb hd hx I .nil h)) hdb)⟩
/-- o.m(e, ..) -/
theorem pe_methG {pl : Sem Bool} (he : PE X o ta) (c : Cls X.K C) (hm : Meth X.K C m f) (F : FnG X.prog X.w X.K X.mg X.base CX k f fd ps sp) (hr : Rm k X.A) (hb : Binds X.K fd ps ds) (hd : Vals dvs ds) (hx : Passes CX X E) (ha : PA X (e :: es) t)
    (hst : starEach (e :: es) X.env = (false, eval e X.env) :: starEach es X.env := by rfl) (hpl : (backTo pos (starEach es X.env)).any (·.1) = false := by rfl)
    (ht : eval (.Call (.Attribute o m apos) (e :: es) [] pos) X.env = (do
      let ov ← eval o X.env
      standAt apos.atName
      let (f, first) ← holding [ov] (getMethod ov m pl)
      callWith pos f first (backTo pos (starEach (e :: es) X.env)) (backToKw pos (keywordEach [] X.env))) := by rfl) :
    PE X (.Call (.Attribute o m apos) (e :: es) [] pos) (tMeth C m sp dvs E ta t) := by
  refine ⟨fun pins s σ H Q I h => PySem.W.methodCall_KW (pl := pl) (thn (he.run pins s σ H _ I h) fun u s1 hh => ?_) ht⟩
  obtain ⟨x, H1, I1, rx, a, dx, fs, rfl, ea, l, q⟩ := hh
  obtain rfl : u = Value.ref a := rx
  exact getmeth_ok I1 ea c hm l (PySem.W.callWith_K (first := [.ref a]) (h₀ := X.base) I.ok.mod.kin hm.kp (thn (ha.run pos pins s1 σ H1 _ I1 q) fun us s2 ⟨vs, H2, I2, r, q2⟩ =>
    ⟨I2.kIn, run_g (us := .ref a :: us) (vs := .ref a :: vs) F hr I2.env0 hb hd hx I2 (.cons rfl r) q2⟩) hst hpl)
theorem pe_meth0G {pl : Sem Bool} (he : PE X o ta) (c : Cls X.K C) (hm : Meth X.K C m f) (F : FnG X.prog X.w X.K X.mg X.base CX k f fd ps sp) (hr : Rm k X.A) (hb : Binds X.K fd ps ds) (hd : Vals dvs ds) (hx : Passes CX X E)
    (ht : eval (.Call (.Attribute o m apos) [] [] pos) X.env = (do
      let ov ← eval o X.env
      standAt apos.atName
      let (f, first) ← holding [ov] (getMethod ov m pl)
      callWith pos f first (backTo pos (starEach [] X.env)) (backToKw pos (keywordEach [] X.env))) := by rfl) :
    PE X (.Call (.Attribute o m apos) [] [] pos) (tMeth C m sp dvs E ta tNil) := by
  refine ⟨fun pins s σ H Q I h => PySem.W.methodCall_KW (pl := pl) (thn (he.run pins s σ H _ I h) fun u s1 hh => ?_) ht⟩
  obtain ⟨x, H1, I1, rx, a, dx, fs, rfl, ea, l, q⟩ := hh
  obtain rfl : u = Value.ref a := rx
  exact getmeth_ok I1 ea c hm l (PySem.W.callWith_K0 (first := [.ref a]) I1.kIn hm.kp (run_g (us := [.ref a]) (vs := [.ref a]) F hr I1.env0 hb hd hx I1 (.cons rfl .nil) q))
/-- C(e, ..): a new instance, then its __init__ -/
theorem run_makeG {pins : List (Addr × Obj)} {σ : L2.St} {H : Hp} {s : Shared} {Q : VK} {us : List Value} {vs : List V} (M : Mk X.K C f) (F : FnG X.prog X.w X.K X.mg X.base CX k f fd ps sp) (hr : Rm (k + 1) X.A) (hb : Binds X.K fd ps ds) (hd : Vals dvs ds)
    (hx : Passes CX X E) (I : Inv X pins σ H s) (r : Vals vs us)
    (h : ∀ x dx, H x = none → H dx = none → dx ≠ x → sp (.ref x :: (vs ++ dvs)) (upd (upd H dx (.own x)) x (.ins C dx [])) (fun v H2 => v = .non ∧ Q (.ref x) H2) E) :
    wpAny (model X.prog X.w) X.A (call (.ref C) us) (EP X pins σ Q) X.xe s := by
  have n1 : H (s.heap.objs.size + 1) = none := I.hok.fresh (Nat.le_succ _)
  have n0 : H s.heap.objs.size = none := I.hok.fresh (Nat.le_refl _)
  have hq := h (s.heap.objs.size + 1) s.heap.objs.size n1 n0 (Nat.ne_of_lt (Nat.lt_succ_self _))
  have I2 := Inv.made (C := C) I
  have r2 : Vals (V.ref (s.heap.objs.size + 1) :: (vs ++ dvs)) (Value.ref (s.heap.objs.size + 1) :: (us ++ ds)) := .cons rfl (r.append hd)
  have hl : (Value.ref (s.heap.objs.size + 1) :: us ++ ds).length = ps.length := r2.length.symm.trans (F.len _ _ _ _ hq)
  have go := F.run (X.A.under (.builtin "type.__call__" ⟨.ref C :: us, []⟩)) X.stack _ _ ⟨Value.ref (s.heap.objs.size + 1) :: us, []⟩ (Value.ref (s.heap.objs.size + 1) :: (us ++ ds)) _ _ E (hr.make C us [])
    (I2.env0.make C us []) (hb _ (Value.ref (s.heap.objs.size + 1) :: us) I2.kIn hl) r2 hq
  refine wpAny_call (make_map (f := f) I.kIn M.makes M.init (beq_iff_eq.mp M.fn) (codeAny_mono go fun r s' hq' => ?_))
  match r, hq' with
  | .error er, hq' => exact hx pins σ _ _ er s' I2 hq'
  | .ok (.ret u), hq' =>
    obtain ⟨v, H', I3, rv, rfl, q3⟩ := I2.after hq'
    exact ⟨rv, ⟨V.ref (s.heap.objs.size + 1), H', I3, rfl, q3⟩⟩
  | .ok .next, hq' => exact False.elim hq'
  | .ok .brk, hq' => exact False.elim hq'
  | .ok .cont, hq' => exact False.elim hq'
theorem pe_makeG (M : Mk X.K C f) (F : FnG X.prog X.w X.K X.mg X.base CX k f fd ps sp) (hr : Rm (k + 1) X.A) (hg : Gl X x) (hm : X.mg x = some (.ref C)) (hb : Binds X.K fd ps ds) (hd : Vals dvs ds) (hx : Passes CX X E)
    (ha : PA X (e :: es) t) (hdb : (x == ("__debug__" : Str)) = false := by decide) (he : starEach (e :: es) X.env = (false, eval e X.env) :: starEach es X.env := by rfl) (hpl : (backTo pos (starEach es X.env)).any (·.1) = false := by rfl) :
    PE X (.Call (.Name x p) (e :: es) [] pos) (tMake C sp dvs E t) :=
  ⟨fun pins s σ H Q I h => wpAny_Call_Name_kw (ld_glob I hg hm (PySem.W.callWith_K (h₀ := X.base) I.ok.mod.kin M.kp (thn (ha.run pos pins s σ H _ I h) fun us s1 ⟨vs, H1, I1, r, q⟩ => ⟨I1.kIn, run_makeG M F hr hb hd hx I1 r q⟩) he hpl) hdb)⟩
theorem pe_make0G (M : Mk X.K C f) (F : FnG X.prog X.w X.K X.mg X.base CX k f fd ps sp) (hr : Rm (k + 1) X.A) (hg : Gl X x) (hm : X.mg x = some (.ref C)) (hb : Binds X.K fd ps ds) (hd : Vals dvs ds) (hx : Passes CX X E)
    (hdb : (x == ("__debug__" : Str)) = false := by decide) : PE X (.Call (.Name x p) [] [] pos) (tMake C sp dvs E tNil) :=
  ⟨fun pins s σ H Q I h => wpAny_Call_Name_kw (ld_glob I hg hm (PySem.W.callWith_K0 I.kIn M.kp (run_makeG (us := []) M F hr hb hd hx I .nil h)) hdb)⟩
end
end LL

set_option Elab.async false
set_option linter.all false
set_option maxRecDepth 100000
set_option maxHeartbeats 2000000
/-! LLOwn: operators, ==, !=, str, repr of instances of own classes; repr of data. -/
namespace LL
open PySem PySem.Spec PyProof.Rows L2
/-! ### != by an own __eq__ -/
section
variable {prog : Program} {w : World} {A : Around} {E : Value → Shared → Prop} {s : Shared} {K : PySem.W.Frag} {x C f : Addr} {ox : Obj} {od : Option Obj} {b tb : Value}
/-- a special method that is a built-in's, bound if it can be -/
theorem ifBound_b {M : Model} {name : Str} {id : String} {args : List Value} {Q : Option Value → Shared → Prop} (X : K.In s.heap) (I : PySem.W.InstAt s.heap x ox C od) (hs : PySem.W.findIn K (.ref C) name = some (some (.builtin id)))
    (hb : ∀ self, bindSpecial (.builtin id) self = pure (.builtin id, [self])) (h : wpAny M A (call (.builtin id) (.ref x :: args)) (fun v => Q (some v)) E s) : wpAny M A (callSpecialIfBound? (.ref x) name args) Q E s := by
  have fin : wpAny M A (call (.builtin id) ([.ref x] ++ args) >>= fun v => pure (some v)) Q E s := wpAny_bind (thn h fun _ _ z => wpAny_pure z)
  have bnd : PySem.W.Looks M s.heap (bindSpecial (.builtin id) (.ref x)) (.builtin id, [.ref x]) := PySem.W.Looks.of_pure (hb _)
  unfold callSpecialIfBound? bindSpecialIfBound?
  refine wpAny_holding (wpAny_bind (wpAny_bind (wpAny_bind (I.type.here ((PySem.W.looks_findIn X hs).here ?_)))))
  refine wpAny_bind (wpAny_askSetting (wpAny_ite ?_))
  split
  · exact wpAny_bind (bnd.here (wpAny_pure (by exact fin)))
  · exact wpAny_tryCatch (wpAny_bind (bnd.here (wpAny_pure (by exact fin))))
open Builtin in
theorem ne_own {Q : Value → Shared → Prop} (hu : A.units + 1 < cLine) (X : K.In s.heap) (I : PySem.W.InstAt s.heap x ox C od) (hb : PySem.W.Looks (model prog w) s.heap (typeOf b) tb) (hn : PySem.W.notFirst K C tb = true) (hm : PySem.W.mroIn K C (.type "object") = some true)
    (hs : PySem.W.findIn K (.ref C) "__eq__" = some (some (.ref f))) (hf : PySem.W.isFn K (.ref f) = true) (hne : PySem.W.findIn K (.ref C) "__ne__" = some (some (.builtin "object.__ne__")))
    (h : wpAny (model prog w) A.in1 (call (.ref f) [.ref x, b]) (fun v s' => ∃ c, v = .bool c ∧ Q (.bool (!c)) s') E s) : wpAny (model prog w) A (richCompare .NotEq (.ref x) b) Q E s := by
  have one : wpAny (model prog w) A (tryCompare (.ref x) (cmpInfo .NotEq).2.1 b) (fun r s' => ∃ v, r = some v ∧ Q v s') E s := by
    unfold tryCompare
    refine wpAny_bind (ifBound_b (name := "__ne__") X I hne PySem.F.slot_tuple_iterator_ne.bind ?_)
    refine wpAny_call (codeAny_call_builtin PySem.F.slot_tuple_iterator_ne.plain PySem.F.cmpEntry_ne (PySem.W.check_slot PySem.F.cmpKind_ne PySem.F.cmpSplit_ne (I.type.andThen (PySem.W.looks_mroIn X hm)) (PySem.F.cmpArgs_ne _ _) ?_))
    unfold Builtin.«object.__ne__»
    refine wpAny_bind (m := slotArgs "__ne__" 1 _) (wpAny_pure ?_)
    refine wpAny_bind (m := cRoomFor _ _) (wpAny_cRoomFor hu ?_)
    refine wpAny_bind (m := callSpecialIfBound? (.ref x) (Str.ofString "__eq__") _) (PySem.W.ifBound_K X I hs hf (thn h fun r s' hr => ?_))
    obtain ⟨c, rfl, hq⟩ := hr
    refine wpAny_bind (wpAny_truthy_bool (wpAny_pure ?_))
    exact wpAny_pure ⟨_, rfl, hq⟩
  unfold richCompare
  simp only [oneThing_ref]
  refine wpAny_holding (wpAny_bind (wpAny_cRoomFor (by omega) ?_))
  refine wpAny_bind (I.type.here (wpAny_bind (hb.here ?_)))
  split
  · rename_i q
    have e : PySem.W.subIn K tb (.ref C) = some false := by
      rcases Bool.or_eq_true_iff.mp hn with e | e
      · rw [beq_iff_eq.mp e] at q
        simp at q
      · exact beq_iff_eq.mp e
    refine wpAny_bind ((PySem.W.looks_subIn X e).here ?_)
    simp only [Bool.false_eq_true, if_false]
    refine wpAny_bind (thn one fun r s' z => ?_)
    obtain ⟨v, rfl, hq⟩ := z
    exact wpAny_pure hq
  · refine wpAny_bind (wpAny_pure ?_)
    simp only [Bool.false_eq_true, if_false]
    refine wpAny_bind (thn one fun r s' z => ?_)
    obtain ⟨v, rfl, hq⟩ := z
    exact wpAny_pure hq
end
/-! ### rules -/
section
variable {X : Cx} {CX : CXT} {k : Nat} {f C : Addr} {fd : FuncData} {ps : List Str} {sp : Sp} {E : XK}
/-- the object's own record -/
theorem inst_of {pins : List (Addr × Obj)} {σ : L2.St} {H : Hp} {s : Shared} {a dx : Addr} {fs : List (Str × V)} (I : Inv X pins σ H s) (e : H a = some (.ins C dx fs)) : ∃ od, PySem.W.InstAt s.heap a (PySem.W.instObj C dx) C (some od) := by
  obtain ⟨mA, O, _⟩ := ins_get I.hok e
  obtain ⟨od, J, _⟩ := O.look
  exact ⟨od, J⟩
/-- a number's operator that the class at C has as a def -/
structure OpAt (K : PySem.W.Frag) (C : Addr) (op : Operator) (f : Addr) : Prop where
  first : PySem.W.selfFirst K C = true
  at_ : PySem.W.findIn K (.ref C) (PySem.dunder op.info.2) = some (some (.ref f))
  fn : PySem.W.isFn K (.ref f) = true
/-- .. asked with an int at the right -/
structure OpInt (K : PySem.W.Frag) (C : Addr) (op : Operator) : Prop where
  back : PySem.W.findIn K (.ref C) (PySem.dunderR op.info.2) = some none
  io : ∃ fo, PySem.W.findIn K (.type "int") (PySem.dunder op.info.2) = some fo
  ir : ∃ ro, PySem.W.findIn K (.type "int") (PySem.dunderR op.info.2) = some ro
  sub : PySem.W.subIn K (.type "int") (.ref C) = some false
/-- x op y: both of the class at C; or y an int -/
def rBin (C : Addr) (sp : Sp) (E : XK) : R2 := fun x y H Q => ∃ a dx fs, x = .ref a ∧ H a = some (.ins C dx fs) ∧ ((∃ b dy gs, y = .ref b ∧ H b = some (.ins C dy gs)) ∨ ∃ i, y = .int i) ∧ sp [x, y] H Q E
theorem op_bin {op : Operator} (O : OpAt X.K C op f) (OI : OpInt X.K C op) (F : FnG X.prog X.w X.K X.mg X.base CX k f fd ps sp) (hr : Rm k X.A) (hb : Binds X.K fd ps []) (hx : Passes CX X E) : OpR X (binaryOp op) (rBin C sp E) := by
  intro pins s σ H x y v u Q I rx ry h
  obtain ⟨a, dx, fs, rfl, ha, hy, q⟩ := h
  cases (show v = Value.ref a from rx)
  obtain ⟨od, J⟩ := inst_of I ha
  obtain ⟨m, hF⟩ := I.fr
  have go : wpAny (model X.prog X.w) X.A (call (.ref f) [.ref a, u]) (PySem.W.CmpBack (EP X pins σ Q)) X.xe s := by
    refine thn (run_g (us := [.ref a, u]) (vs := [.ref a, y]) (dvs := []) F hr I.env0 hb .nil hx I (.cons rfl (.cons ry .nil)) q) fun w s' z => ?_
    obtain ⟨z', H', I', rz, qz⟩ := z
    exact SlX.cmpback rz ⟨z', H', I', rz, qz⟩
  rcases hy with ⟨b, dy, gs, rfl, hb⟩ | ⟨i, rfl⟩
  · cases (show u = Value.ref b from ry)
    obtain ⟨od', J'⟩ := inst_of I hb
    exact PySem.W.binop_K hF I.ok.mod.kin J J'.type O.first O.at_ O.fn go
  · obtain ⟨t, rfl⟩ := (show ∃ t, u = Value.int i t from ry)
    obtain ⟨fo, h1⟩ := OI.io
    obtain ⟨ro, h2⟩ := OI.ir
    exact PySem.W.ksp_binT (T := "int") hF I.ok.mod.kin J (by rfl) O.first O.at_ O.fn OI.back (.inl rfl) h1 h2 OI.sub go
/-- -x -/
def rNeg (C : Addr) (sp : Sp) (E : XK) : V → Hp → VK → Prop := fun x H Q => ∃ a dx fs, x = .ref a ∧ H a = some (.ins C dx fs) ∧ sp [x] H Q E
theorem un_own (hs : PySem.W.findIn X.K (.ref C) "__neg__" = some (some (.ref f))) (hf : PySem.W.isFn X.K (.ref f) = true) (F : FnG X.prog X.w X.K X.mg X.base CX k f fd ps sp) (hr : Rm k X.A) (hb : Binds X.K fd ps []) (hx : Passes CX X E) : UnR X (unaryOp .USub) (rNeg C sp E) := by
  intro pins s σ H x v Q I rx h
  obtain ⟨a, dx, fs, rfl, ha, q⟩ := h
  cases (show v = Value.ref a from rx)
  obtain ⟨od, J⟩ := inst_of I ha
  obtain ⟨m, hF⟩ := I.fr
  exact PySem.W.ksp_neg hF I.ok.mod.kin J hs hf (run_g (us := [.ref a]) (vs := [.ref a]) (dvs := []) F hr I.env0 hb .nil hx I (.cons rfl .nil) q)
/-- x == y by x's own __eq__, whatever y is -/
def rEqO (K : PySem.W.Frag) (C : Addr) (sp : Sp) (E : XK) : R2 := fun x y H Q => ∃ a dx fs t, x = .ref a ∧ H a = some (.ins C dx fs) ∧ TyX K H y t ∧ PySem.W.notFirst K C t = true ∧ sp [x, y] H Q E
theorem op_eqO (hs : PySem.W.findIn X.K (.ref C) "__eq__" = some (some (.ref f))) (hf : PySem.W.isFn X.K (.ref f) = true) (F : FnG X.prog X.w X.K X.mg X.base CX k f fd ps sp) (hr : Rm k X.A) (hb : Binds X.K fd ps []) (hx : Passes CX X E) : OpR X (compareOp .Eq) (rEqO X.K C sp E) := by
  intro pins s σ H x y v u Q I rx ry h
  obtain ⟨a, dx, fs, t, rfl, ha, ty, hn, q⟩ := h
  cases (show v = Value.ref a from rx)
  obtain ⟨od, J⟩ := inst_of I ha
  obtain ⟨m, hF⟩ := I.fr
  obtain ⟨P, Z, hp, _⟩ := kit_of I ry ty
  refine PySem.W.cmp_K (op := .Eq) hr.r.units0 hF I.ok.mod.kin J (Z.ty _ _ I.kIn hp) hn hs hf ?_
  refine thn (run_g (us := [.ref a, u]) (vs := [.ref a, y]) (dvs := []) F hr I.env0 hb .nil hx I (.cons rfl (.cons ry .nil)) q) fun w s' z => ?_
  obtain ⟨z', H', I', rz, qz⟩ := z
  exact SlX.cmpback rz ⟨z', H', I', rz, qz⟩
/-- x != y by x's own __eq__ -/
def rNeO (K : PySem.W.Frag) (C : Addr) (sp : Sp) (E : XK) : R2 := fun x y H Q => ∃ a dx fs t, x = .ref a ∧ H a = some (.ins C dx fs) ∧ TyX K H y t ∧ PySem.W.notFirst K C t = true ∧ sp [x, y] H (fun z H' => ∃ c, z = .bl c ∧ Q (.bl (!c)) H') E
theorem op_neO (hs : PySem.W.findIn X.K (.ref C) "__eq__" = some (some (.ref f))) (hf : PySem.W.isFn X.K (.ref f) = true) (hne : PySem.W.findIn X.K (.ref C) "__ne__" = some (some (.builtin "object.__ne__"))) (hm : PySem.W.mroIn X.K C (.type "object") = some true)
    (F : FnG X.prog X.w X.K X.mg X.base CX k f fd ps sp) (hr : Rm (k + 1) X.A) (hb : Binds X.K fd ps []) (hx : Passes CX X E) : OpR X (compareOp .NotEq) (rNeO X.K C sp E) := by
  intro pins s σ H x y v u Q I rx ry h
  obtain ⟨a, dx, fs, t, rfl, ha, ty, hn, q⟩ := h
  cases (show v = Value.ref a from rx)
  obtain ⟨od, J⟩ := inst_of I ha
  obtain ⟨P, Z, hp, _⟩ := kit_of I ry ty
  have hu := hr.r.units
  refine ne_own (by omega) I.kIn J (Z.ty _ _ I.kIn hp) hn hm hs hf hne ?_
  refine thn (run_g (us := [.ref a, u]) (vs := [.ref a, y]) (dvs := []) F hr.in1 I.env0.in1 hb .nil hx I (.cons rfl (.cons ry .nil)) q) fun w s' z => ?_
  obtain ⟨z', H', I', rz, c, rfl, qz⟩ := z
  cases (show w = Value.bool c from rz)
  exact ⟨c, rfl, .bl (!c), H', I', rfl, qz⟩
/-- repr(x), str(x) by the class's own def -/
def rShow (C : Addr) (sp : Sp) (E : XK) : List V → Hp → VK → Prop := fun xs H Q => ∃ a dx fs, xs = [.ref a] ∧ H a = some (.ins C dx fs) ∧ sp [.ref a] H (fun z H' => ∃ y, z = .str y ∧ Q z H') E
theorem call_reprO (hs : PySem.W.findIn X.K (.ref C) "__repr__" = some (some (.ref f))) (hf : PySem.W.isFn X.K (.ref f) = true) (F : FnG X.prog X.w X.K X.mg X.base CX k f fd ps sp) (hr : Rm (k + 1) X.A) (hb : Binds X.K fd ps []) (hx : Passes CX X E) : CallR X (.builtin "repr") (rShow C sp E) := by
  intro pins s σ H xs us Q I r h
  obtain ⟨a, dx, fs, rfl, ha, q⟩ := h
  obtain ⟨u, rfl, ru⟩ := r.one
  cases (show u = Value.ref a from ru)
  obtain ⟨od, J⟩ := inst_of I ha
  obtain ⟨m, hF⟩ := I.fr
  refine PySem.W.repr_K hr.in1.r.units0 hF I.ok.mod.kin J hs hf (thn (run_g (us := [.ref a]) (vs := [.ref a]) (dvs := []) F hr.in1 I.env0.in1 hb .nil hx I (.cons rfl .nil) q) fun w s' z => ?_)
  obtain ⟨z', H', I', rz, y, rfl, qz⟩ := z
  obtain ⟨t, rfl⟩ := (show ∃ t, w = Value.str y t from rz)
  exact ⟨.str y, H', I', ⟨t, rfl⟩, qz⟩
theorem call_strO (hs : PySem.W.findIn X.K (.ref C) "__str__" = some (some (.ref f))) (hf : PySem.W.isFn X.K (.ref f) = true) (F : FnG X.prog X.w X.K X.mg X.base CX k f fd ps sp) (hr : Rm (k + 2) X.A) (hb : Binds X.K fd ps []) (hx : Passes CX X E) : CallR X (.type "str") (rShow C sp E) := by
  intro pins s σ H xs us Q I r h
  obtain ⟨a, dx, fs, rfl, ha, q⟩ := h
  obtain ⟨u, rfl, ru⟩ := r.one
  cases (show u = Value.ref a from ru)
  obtain ⟨od, J⟩ := inst_of I ha
  have hr2 : Rm k X.A.in1.in1 := (show Rm (k + 1) X.A.in1 from hr.in1).in1
  refine PySem.W.kso_call hr2.r.units0 I.kIn J hs hf (thn (run_g (us := [.ref a]) (vs := [.ref a]) (dvs := []) F hr2 I.env0.in1.in1 hb .nil hx I (.cons rfl .nil) q) fun w s' z => ?_)
  obtain ⟨z', H', I', rz, y, rfl, qz⟩ := z
  obtain ⟨t, rfl⟩ := (show ∃ t, w = Value.str y t from rz)
  exact ⟨.str y, H', I', ⟨t, rfl⟩, qz⟩
/-- repr of data: ints, texts, bools, None, lists and tuples of these -/
def rRepD (K : PySem.W.Frag) : List V → Hp → VK → Prop := fun xs H Q => ∃ a d, xs = [.ref a] ∧ Dp K H (.ref a) d ∧ d.showable = true ∧ d.hasDict = false ∧ d.depth ≤ 40 ∧ d.shown.length ≤ sizeLine ∧ Q (.str d.shown) H
theorem call_reprD (hr : Rm k X.A) : CallR X (.builtin "repr") (rRepD X.K) := by
  intro pins s σ H xs us Q I r h
  obtain ⟨a, d, rfl, hd, hs, hn, hp, hz, q⟩ := h
  obtain ⟨u, rfl, ru⟩ := r.one
  obtain ⟨as, rd⟩ := Dp.reads I d _ _ hd ru
  cases (show u = Value.ref a from ru)
  have hu := hr.r.units
  exact repr_of_reads' rd hs (fun z => by rw [hn] at z; cases z) hr.g (by omega) (fun _ _ e => e) (fun h' u tk hk => ⟨.str d.shown, H, I.kept hk, ⟨_, rfl⟩, q⟩) hz
end
end LL

set_option Elab.async false
set_option linter.all false
set_option maxRecDepth 100000
set_option maxHeartbeats 2000000
/-! LLCall: a def, a method, a maker, a property, each as one fact; some operators. -/
namespace LL
open PySem PySem.Spec PyProof.Rows L2
section
variable (P : Program) (w : World) (K : PySem.W.Frag) (mg : Str → Option Value) (base : Heap) (CX : CXT) (k : Nat)
/-- the module's name x is a def that keeps sp; dvs fill up -/
structure Fnc (x : Str) (dvs : List V) (sp : Sp) : Prop where
  ex : ∃ (f : Addr) (fd : FuncData) (ps : List Str) (ds : List Value), mg x = some (.ref f) ∧ PySem.W.keepIn K (.ref f) = true ∧ Binds K fd ps ds ∧ Vals dvs ds ∧ FnG P w K mg base CX k f fd ps sp
/-- the class at C has the method m -/
structure Mth (C : Addr) (m : Str) (dvs : List V) (sp : Sp) : Prop where
  cl : Cls K C
  ex : ∃ (f : Addr) (fd : FuncData) (ps : List Str) (ds : List Value), Meth K C m f ∧ Binds K fd ps ds ∧ Vals dvs ds ∧ FnG P w K mg base CX k f fd ps sp
/-- the module's name x is the class at C, made by an __init__ that keeps sp -/
structure Mkr (x : Str) (C : Addr) (dvs : List V) (sp : Sp) : Prop where
  ex : ∃ (f : Addr) (fd : FuncData) (ps : List Str) (ds : List Value), Mk K C f ∧ mg x = some (.ref C) ∧ Binds K fd ps ds ∧ Vals dvs ds ∧ FnG P w K mg base CX k f fd ps sp
/-- the class at C has the property m -/
structure Prp (C : Addr) (m : Str) (sp : Sp) : Prop where
  cl : Cls K C
  ex : ∃ (p g : Addr) (fd : FuncData) (ps : List Str), PropOf K C m p g ∧ Binds K fd ps [] ∧ FnG P w K mg base CX k g fd ps sp
end
section
variable {X : Cx} {CX : CXT} {k : Nat} {C : Addr} {sp : Sp} {dvs : List V} {E : XK} {x m : Str} {p pos apos : Pos} {e o : Expr} {es : List Expr} {ta : TE} {t : TA}
theorem pe_fn (G : Fnc X.prog X.w X.K X.mg X.base CX k x dvs sp) (hr : Rm k X.A) (hx : Passes CX X E) (ha : PA X (e :: es) t) (hg : Gl X x := by rfl) (hdb : (x == ("__debug__" : Str)) = false := by decide)
    (he : starEach (e :: es) X.env = (false, eval e X.env) :: starEach es X.env := by rfl) (hpl : (backTo pos (starEach es X.env)).any (·.1) = false := by rfl) : PE X (.Call (.Name x p) (e :: es) [] pos) (tCall sp dvs E t) := by
  obtain ⟨f, fd, ps, ds, hm, hk, hb, hd, F⟩ := G.ex
  exact pe_callG F hr hg hm hk hb hd hx ha hdb he hpl
theorem pe_fn0 (G : Fnc X.prog X.w X.K X.mg X.base CX k x dvs sp) (hr : Rm k X.A) (hx : Passes CX X E) (hg : Gl X x := by rfl) (hdb : (x == ("__debug__" : Str)) = false := by decide) : PE X (.Call (.Name x p) [] [] pos) (tCall sp dvs E tNil) := by
  obtain ⟨f, fd, ps, ds, hm, hk, hb, hd, F⟩ := G.ex
  exact pe_call0G F hr hg hm hk hb hd hx hdb
theorem pe_mt {pl : Sem Bool} (G : Mth X.prog X.w X.K X.mg X.base CX k C m dvs sp) (hr : Rm k X.A) (hx : Passes CX X E) (he : PE X o ta) (ha : PA X (e :: es) t)
    (hst : starEach (e :: es) X.env = (false, eval e X.env) :: starEach es X.env := by rfl) (hpl : (backTo pos (starEach es X.env)).any (·.1) = false := by rfl)
    (ht : eval (.Call (.Attribute o m apos) (e :: es) [] pos) X.env = (do
      let ov ← eval o X.env
      standAt apos.atName
      let (f, first) ← holding [ov] (getMethod ov m pl)
      callWith pos f first (backTo pos (starEach (e :: es) X.env)) (backToKw pos (keywordEach [] X.env))) := by rfl) : PE X (.Call (.Attribute o m apos) (e :: es) [] pos) (tMeth C m sp dvs E ta t) := by
  obtain ⟨f, fd, ps, ds, hm, hb, hd, F⟩ := G.ex
  exact pe_methG he G.cl hm F hr hb hd hx ha hst hpl ht
theorem pe_mt0 {pl : Sem Bool} (G : Mth X.prog X.w X.K X.mg X.base CX k C m dvs sp) (hr : Rm k X.A) (hx : Passes CX X E) (he : PE X o ta)
    (ht : eval (.Call (.Attribute o m apos) [] [] pos) X.env = (do
      let ov ← eval o X.env
      standAt apos.atName
      let (f, first) ← holding [ov] (getMethod ov m pl)
      callWith pos f first (backTo pos (starEach [] X.env)) (backToKw pos (keywordEach [] X.env))) := by rfl) : PE X (.Call (.Attribute o m apos) [] [] pos) (tMeth C m sp dvs E ta tNil) := by
  obtain ⟨f, fd, ps, ds, hm, hb, hd, F⟩ := G.ex
  exact pe_meth0G he G.cl hm F hr hb hd hx ht
theorem pe_mk (G : Mkr X.prog X.w X.K X.mg X.base CX k x C dvs sp) (hr : Rm (k + 1) X.A) (hx : Passes CX X E) (ha : PA X (e :: es) t) (hg : Gl X x := by rfl) (hdb : (x == ("__debug__" : Str)) = false := by decide)
    (he : starEach (e :: es) X.env = (false, eval e X.env) :: starEach es X.env := by rfl) (hpl : (backTo pos (starEach es X.env)).any (·.1) = false := by rfl) : PE X (.Call (.Name x p) (e :: es) [] pos) (tMake C sp dvs E t) := by
  obtain ⟨f, fd, ps, ds, M, hm, hb, hd, F⟩ := G.ex
  exact pe_makeG M F hr hg hm hb hd hx ha hdb he hpl
theorem pe_mk0 (G : Mkr X.prog X.w X.K X.mg X.base CX k x C dvs sp) (hr : Rm (k + 1) X.A) (hx : Passes CX X E) (hg : Gl X x := by rfl) (hdb : (x == ("__debug__" : Str)) = false := by decide) : PE X (.Call (.Name x p) [] [] pos) (tMake C sp dvs E tNil) := by
  obtain ⟨f, fd, ps, ds, M, hm, hb, hd, F⟩ := G.ex
  exact pe_make0G M F hr hg hm hb hd hx hdb
/-- e.m, a property -/
def tPr (C : Addr) (sp : Sp) (E : XK) (ta : TE) : TE := fun σ H Q => ta σ H fun x H1 => ∃ a dx fs, x = .ref a ∧ H1 a = some (.ins C dx fs) ∧ sp [.ref a] H1 Q E
theorem pe_pr (G : Prp X.prog X.w X.K X.mg X.base CX k C m sp) (hr : Rm (k + 1) X.A) (hx : Passes CX X.nox E) (he : PE X e ta) (hab : attributeBase e m X.env (eval e X.env) = eval e X.env := by rfl) : PE X (.Attribute e m pos) (tPr C sp E ta) := by
  obtain ⟨p, g, fd, ps, hp, hb, F⟩ := G.ex
  refine ⟨fun pins s σ H Q I h => attr_of hab (thn (he.run pins s σ H _ I h) fun u s1 hh => ?_)⟩
  obtain ⟨x, H1, I1, rx, a, dx, fs, rfl, ea, q⟩ := hh
  obtain rfl : u = Value.ref a := rx
  obtain ⟨od, J⟩ := inst_of I1 ea
  have c := G.cl
  have hc : (PySem.W.clsIn X.K C).isSome = true := by
    obtain ⟨cd, hc, _⟩ := PySem.W.any_some c.hd
    rw [hc]
    rfl
  obtain ⟨rest, hrec⟩ := hp.rec_
  have I2 : Inv X pins σ H1 { s1 with toks := s1.toks + 1 } := I1.tok _
  have hl : ([Value.ref a] : List Value).length = ps.length := F.len _ _ _ _ q
  refine PySem.W.get_bind I1.kIn J (PySem.W.plainGet_of (c.get m)).1 (PySem.W.findObj_data hc hp.at_ hp.get hp.tak) (PySem.W.plainGet_of (c.get m)).2 (wpAny_call (PySem.W.prop_get (s := { s1 with toks := s1.toks + 1 }) I1.kIn hrec ?_))
  have go := F.run X.A.in1 X.stack { s1 with toks := s1.toks + 1 } H1 ⟨[.ref a], []⟩ [.ref a] [.ref a] Q E hr.in1 I2.env0.in1 (hb _ [.ref a] I2.kIn hl) (.cons rfl .nil) q
  refine codeAny_mono go fun r s' hq => ?_
  match r, hq with
  | .error er, hq => exact False.elim (hx pins σ H1 _ er s' (I2.wish _) hq)
  | .ok (.ret u), hq =>
    obtain ⟨v, H', I3, rv, q3⟩ := I2.after hq
    exact wpAny_of_eq (PySem.W.handedOut_of (handed_of rv)) ⟨v, H', I3, rv, q3⟩
  | .ok .next, hq => exact False.elim hq
  | .ok .brk, hq => exact False.elim hq
  | .ok .cont, hq => exact False.elim hq
/-! ### some operators -/
/-- // by any number but 0 -/
def CDivZ (_ j : Int) : Prop := j ≠ 0 ∧ j.natAbs.log2 < 9000
theorem op_fdivZ : OpR X (binaryOp .FloorDiv) (rI CDivZ fun i j => .int (i.fdiv j)) := opI fun _ _ _ _ _ _ _ hc q => floordiv_int hc.1 q (.inl (PyProof.noPylong_of_log2 hc.2))
theorem wide_divZ {i j : Int} {b : Nat} (h : j ≠ 0) (hb : j.natAbs < 2 ^ b) (h0 : 0 < b) (h9 : b ≤ 9000) : CDivZ i j := ⟨h, Nat.lt_of_lt_of_le (PySem.Flt.log2_lt_of h0 hb) h9⟩
end
/-! ### tests -/
theorem iteY {c : Bool} {A B : Prop} (h : c = true) (a : A) : if c = true then A else B := by
  rw [if_pos h]
  exact a
theorem iteN {c : Bool} {A B : Prop} (h : c = false) (b : B) : if c = true then A else B := by
  rw [if_neg (by rw [h]; exact Bool.false_ne_true)]
  exact b
theorem iteB {c : Bool} {A B : Prop} (h1 : c = true → A) (h2 : c = false → B) : if c = true then A else B := by
  cases c with
  | true => exact iteT (h1 rfl)
  | false => exact iteF (h2 rfl)
theorem dec_ne {i j : Int} (h : i ≠ j) : decide (V.int i = V.int j) = false := decide_eq_false fun z => h (V.int.inj z)
theorem dec_eq {i j : Int} (h : i = j) : decide (V.int i = V.int j) = true := decide_eq_true (by rw [h])
/-! ### heaps -/
/-- all that was tracked but p is as it was -/
def But (p : Addr) (H H' : Hp) : Prop := ∀ b o, H b = some o → b ≠ p → H' b = some o
theorem But.refl {p : Addr} {H : Hp} : But p H H := fun _ _ e _ => e
theorem But.trans {p : Addr} {H H1 H2 : Hp} (a : But p H H1) (b : But p H1 H2) : But p H H2 := fun c o e n => b c o (a c o e n) n
theorem But.of {p : Addr} {H H' : Hp} (a : Same H H') : But p H H' := fun c o e _ => a c o e
theorem same_upd {H : Hp} {p : Addr} {o : HO} (h : H p = none) : Same H (upd H p o) := fun b x e => by
  rw [upd_ne (ne_of_none e h)]
  exact e
theorem but_upd {H : Hp} {p : Addr} {o : HO} : But p H (upd H p o) := fun b x e n => by
  rw [upd_ne n]
  exact e
/-- what was new at p stands beside what was -/
theorem But.same {p : Addr} {H H' : Hp} (a : But p H H') (n : H p = none) : Same H H' := fun b o e => a b o e (ne_of_none e n)
theorem But.free {p : Addr} {H H' : Hp} (a : But p H H') {b : Addr} (hb : b ≠ p) (h : H' b = none) : H b = none := by
  cases q : H b with
  | none => rfl
  | some o =>
    rw [a b o q hb] at h
    cases h
end LL

set_option Elab.async false
set_option linter.all false
set_option maxRecDepth 100000
set_option maxHeartbeats 2000000
/-! LLData: what repr of data is, how long it is. -/
namespace LL
open PySem PySem.Spec PyProof.Rows L2
/-- signs as texts have them -/
def Asc (x : Str) : Prop := ∀ c ∈ x.cps.toList, c < 16 ^ 8
theorem asc_of (s : String) : Asc (Str.ofString s) := by
  intro c hc
  rw [signs_ofString] at hc
  obtain ⟨k, _, rfl⟩ := List.mem_map.mp hc
  have h : k.toNat < 1114112 := by
    have := k.valid
    rcases this with h | ⟨_, h⟩
    · exact Nat.lt_trans h (by decide)
    · exact h
  exact Nat.lt_trans h (by decide)
theorem Asc.app {x y : Str} (hx : Asc x) (hy : Asc y) : Asc (x ++ y) := by
  intro c hc
  rw [Str.cps_append, Array.toList_append] at hc
  rcases List.mem_append.mp hc with h | h
  · exact hx c h
  · exact hy c h
theorem textFrom_size : ∀ (ts : List Str) (k : Nat) (acc : Str), (textFrom k acc ts).length ≤ acc.length + piled ts
  | [], _, acc => Nat.le_add_right _ _
  | t :: r, k, acc => by
    have h := textFrom_size r (k + 1) (acc ++ (if k > 0 then ", " else "" : String) ++ t)
    have e : (((if k > 0 then ", " else "" : String) : Str)).length ≤ 2 := by split <;> decide +kernel
    rw [strLen_append, strLen_append] at h
    rw [piled_cons]
    show (textFrom (k + 1) _ r).length ≤ _
    omega
theorem listText_size (ts : List Str) : (listText ts).length ≤ piled ts + 2 := by
  have h := textFrom_size ts 0 "["
  unfold listText
  rw [strLen_append]
  have e1 : ((("[" : String) : Str)).length = 1 := rfl
  have e2 : ((("]" : String) : Str)).length = 1 := rfl
  omega
mutual
/-- a bound on the signs that are shown -/
def cost : PyData → Nat
  | .none => 5
  | .bool _ => 5
  | .int _ => 1930
  | .str x => 10 * x.length + 2
  | .list xs => costAll xs + 2
  | .tuple xs => costAll xs + 2
  | .dict _ => 0
def costAll : List PyData → Nat
  | [] => 0
  | x :: xs => cost x + 2 + costAll xs
end
mutual
/-- data without dicts that repr can show -/
def Shw : PyData → Prop
  | .none => True
  | .bool _ => True
  | .int i => i.natAbs.log2 < 1920
  | .str x => Asc x
  | .list xs => ShwAll xs
  | .tuple xs => ShwAll xs
  | .dict _ => False
def ShwAll : List PyData → Prop
  | [] => True
  | x :: xs => Shw x ∧ ShwAll xs
end
mutual
theorem Shw.all : ∀ d : PyData, Shw d → d.shown.length ≤ cost d ∧ d.showable = true ∧ d.hasDict = false
  | .none, _ => ⟨by simp only [PyData.shown, cost]; decide +kernel, by simp only [PyData.showable], by simp only [PyData.hasDict]⟩
  | .bool b, _ => ⟨by simp only [PyData.shown, cost]; cases b <;> decide +kernel, by simp only [PyData.showable], by simp only [PyData.hasDict]⟩
  | .int i, h => by
    simp only [Shw] at h
    refine ⟨?_, by simp only [PyData.showable]; exact decide_eq_true h, by simp only [PyData.hasDict]⟩
    simp only [PyData.shown, cost]
    have e := int_text_length_le (k := 1920) (by decide) h
    rw [PySem.ofString_length]
    omega
  | .str x, h => by
    simp only [Shw] at h
    exact ⟨by simp only [PyData.shown, cost]; exact StrLaws.reprText_len x h, by simp only [PyData.showable], by simp only [PyData.hasDict]⟩
  | .list xs, h => by
    simp only [Shw] at h
    obtain ⟨h1, h2, h3⟩ := ShwAll.all xs h
    refine ⟨?_, by simp only [PyData.showable]; exact h2, by simp only [PyData.hasDict]; exact h3⟩
    simp only [PyData.shown, cost]
    exact Nat.le_trans (listText_size _) (by omega)
  | .tuple xs, h => by
    simp only [Shw] at h
    obtain ⟨h1, h2, h3⟩ := ShwAll.all xs h
    refine ⟨?_, by simp only [PyData.showable]; exact h2, by simp only [PyData.hasDict]; exact h3⟩
    simp only [PyData.shown, cost]
    exact Nat.le_trans (fmt_text _) (by omega)
  | .dict _, h => by
    simp only [Shw] at h
theorem ShwAll.all : ∀ xs : List PyData, ShwAll xs → piled (PyData.shownAll xs) ≤ costAll xs ∧ PyData.showableAll xs = true ∧ PyData.hasDictAll xs = false
  | [], _ => ⟨by simp only [PyData.shownAll, costAll]; exact Nat.le_refl _, by simp only [PyData.showableAll], by simp only [PyData.hasDictAll]⟩
  | x :: xs, h => by
    simp only [ShwAll] at h
    obtain ⟨a1, a2, a3⟩ := Shw.all x h.1
    obtain ⟨b1, b2, b3⟩ := ShwAll.all xs h.2
    refine ⟨?_, by simp only [PyData.showableAll]; rw [a2, b2]; rfl, by simp only [PyData.hasDictAll]; rw [a3, b3]; rfl⟩
    simp only [PyData.shownAll, costAll]
    rw [piled_cons]
    omega
end
section
variable {X : Cx} {k : Nat}
/-- repr of a list or tuple of such -/
def rRepS (K : PySem.W.Frag) : List V → Hp → VK → Prop := fun xs H Q => ∃ a d, xs = [.ref a] ∧ Dp K H (.ref a) d ∧ Shw d ∧ d.depth ≤ 40 ∧ cost d ≤ sizeLine ∧ Q (.str d.shown) H
theorem call_reprS (hr : Rm k X.A) : CallR X (.builtin "repr") (rRepS X.K) := by
  intro pins s σ H xs us Q I r h
  obtain ⟨a, d, rfl, hd, hs, hp, hz, q⟩ := h
  obtain ⟨h1, h2, h3⟩ := Shw.all d hs
  exact call_reprD hr pins s σ H _ us Q I r ⟨a, d, rfl, hd, h2, h3, hp, Nat.le_trans h1 hz, q⟩
/-- repr of what is no object: None, a bool, an int, a text -/
def rRepF : List V → Hp → VK → Prop := fun xs H Q => (∃ i, xs = [.int i] ∧ i.natAbs.log2 < 1920 ∧ Q (.str (toString i)) H) ∨ (∃ b, xs = [.bl b] ∧ Q (.str (if b then "True" else "False")) H) ∨ (xs = [.non] ∧ Q (.str "None") H) ∨
  (∃ x, xs = [.str x] ∧ (reprText x).length ≤ sizeLine ∧ Q (.str (reprText x)) H)
theorem call_reprF : CallR X (.builtin "repr") rRepF := by
  intro pins s σ H xs us Q I r h
  rcases h with ⟨i, rfl, hi, q⟩ | ⟨b, rfl, q⟩ | ⟨rfl, q⟩ | ⟨x, rfl, hx, q⟩
  · obtain ⟨u, rfl, ru⟩ := r.one
    obtain ⟨t, rfl⟩ := (show ∃ t, u = Value.int i t from ru)
    exact PySem.P.repr_of_int hi ⟨.str _, H, I.tok _, ⟨_, rfl⟩, q⟩
  · obtain ⟨u, rfl, ru⟩ := r.one
    cases (show u = Value.bool b from ru)
    exact PySem.P.repr_of_bool ⟨.str _, H, I.tok _, ⟨_, rfl⟩, q⟩
  · obtain ⟨u, rfl, ru⟩ := r.one
    cases (show u = Value.none from ru)
    exact PySem.P.repr_of_none ⟨.str _, H, I.tok _, ⟨_, rfl⟩, q⟩
  · obtain ⟨u, rfl, ru⟩ := r.one
    obtain ⟨t, rfl⟩ := (show ∃ t, u = Value.str x t from ru)
    exact PySem.P.repr_of_str ⟨.str _, H, I.tok _, ⟨_, rfl⟩, q⟩ hx
end
/-! ### an operator, a special method of an own class, each as one fact -/
section
variable (P : Program) (w : World) (K : PySem.W.Frag) (mg : Str → Option Value) (base : Heap) (CX : CXT) (k : Nat)
structure OpF (C : Addr) (op : Operator) (sp : Sp) : Prop where
  ex : ∃ (f : Addr) (fd : FuncData) (ps : List Str), OpAt K C op f ∧ OpInt K C op ∧ Binds K fd ps [] ∧ FnG P w K mg base CX k f fd ps sp
structure SpF (C : Addr) (m : Str) (sp : Sp) : Prop where
  ex : ∃ (f : Addr) (fd : FuncData) (ps : List Str), PySem.W.findIn K (.ref C) m = some (some (.ref f)) ∧ PySem.W.isFn K (.ref f) = true ∧ Binds K fd ps [] ∧ FnG P w K mg base CX k f fd ps sp
end
section
variable {X : Cx} {CX : CXT} {k : Nat} {C : Addr} {sp : Sp} {E : XK}
theorem op_binF {op : Operator} (O : OpF X.prog X.w X.K X.mg X.base CX k C op sp) (hr : Rm k X.A) (hx : Passes CX X E) : OpR X (binaryOp op) (rBin C sp E) := by
  obtain ⟨f, fd, ps, o1, o2, hb, F⟩ := O.ex
  exact op_bin o1 o2 F hr hb hx
theorem un_negF (O : SpF X.prog X.w X.K X.mg X.base CX k C "__neg__" sp) (hr : Rm k X.A) (hx : Passes CX X E) : UnR X (unaryOp .USub) (rNeg C sp E) := by
  obtain ⟨f, fd, ps, o1, o2, hb, F⟩ := O.ex
  exact un_own o1 o2 F hr hb hx
theorem op_eqF (O : SpF X.prog X.w X.K X.mg X.base CX k C "__eq__" sp) (hr : Rm k X.A) (hx : Passes CX X E) : OpR X (compareOp .Eq) (rEqO X.K C sp E) := by
  obtain ⟨f, fd, ps, o1, o2, hb, F⟩ := O.ex
  exact op_eqO o1 o2 F hr hb hx
theorem op_neF (O : SpF X.prog X.w X.K X.mg X.base CX k C "__eq__" sp) (hne : PySem.W.findIn X.K (.ref C) "__ne__" = some (some (.builtin "object.__ne__"))) (hm : PySem.W.mroIn X.K C (.type "object") = some true) (hr : Rm (k + 1) X.A) (hx : Passes CX X E) : OpR X (compareOp .NotEq) (rNeO X.K C sp E) := by
  obtain ⟨f, fd, ps, o1, o2, hb, F⟩ := O.ex
  exact op_neO o1 o2 hne hm F hr hb hx
theorem call_reprOF (O : SpF X.prog X.w X.K X.mg X.base CX k C "__repr__" sp) (hr : Rm (k + 1) X.A) (hx : Passes CX X E) : CallR X (.builtin "repr") (rShow C sp E) := by
  obtain ⟨f, fd, ps, o1, o2, hb, F⟩ := O.ex
  exact call_reprO o1 o2 F hr hb hx
theorem call_strOF (O : SpF X.prog X.w X.K X.mg X.base CX k C "__str__" sp) (hr : Rm (k + 2) X.A) (hx : Passes CX X E) : CallR X (.type "str") (rShow C sp E) := by
  obtain ⟨f, fd, ps, o1, o2, hb, F⟩ := O.ex
  exact call_strO o1 o2 F hr hb hx
end
end LL

set_option Elab.async false
set_option linter.all false
set_option maxRecDepth 100000
set_option maxHeartbeats 2000000
/-! LLEnd: the law's end over FnG; the head's facts as any tests of the written part. -/
namespace LL
open PySem PySem.Spec PyProof.Rows L2
section
variable {P : Program} {w : World} {K : PySem.W.Frag} {mg mb : Str → Option Value} {CX : CXT} {k : Nat} {fa a : Addr} {fd : FuncData} {x : Str} {sp : Sp} {t : Shared} {us : List Value} {ns : List Int}
/-- what the caller asks of the law's call -/
abbrev LawEnd (t : Shared) (r : Result) (t' : Shared) : Prop := r = .ok (.ret (.bool true)) ∧ OldK t.heap t'.heap ∧ t'.os = t.os ∧ AllBare t'.gens
/-- the law's call where H tracks at most the script -/
theorem lawAt {H : Hp} {osc : Obj} (KX : K.In t.heap) (hns : t.heap.Ns mainGlobals mg) (hb : t.heap.Ns builtinsNs mb) (hbb : ∀ x : Str, x ≠ "__name__" → mb x = bootBuiltins x) (hlim : t.heap.NoLimit) (hg : t.gens = #[])
    (ha : t.heap.get? a = some osc) (hd : ∀ es ep, osc.data ≠ .dict es ep) (hr : Rm k callerA) (F : ∀ base : Heap, K.In base → base.Ns mainGlobals mg → FnG P w K mg base CX k fa fd [x] sp)
    (bd : ∀ (s : Shared) (u : Value), BindsTo s fd ⟨[u], []⟩ [(x, u)]) (hsp : sp [.ref a] H (fun v _ => v = .bl true) fun _ _ _ => False) (hCX : ∀ e s', CX [] H t (fun _ _ _ => False) e s' → False)
    (only : ∀ b, H b = none ∨ (b = a ∧ K.lookup a = none ∧ ∃ o l, H b = some (.frz o (.lst l)))) (hok : HOk P w H t.heap) : codeAny (model P w) callerA (.call (.ref fa) ⟨[.ref a], []⟩) (LawEnd t) t := by
  have free : ∀ {b : Addr} {o : Obj}, t.heap.get? b = some o → (b = a → K.lookup a = none → False) → H b = none := fun {b o} _ h =>
    (only b).elim id fun q => (h q.1 q.2.1).elim
  have nsB : ∀ {b : Addr} {m : Str → Option Value}, t.heap.Ns b m → (hidT t.heap H).Ns b m := by
    rintro b m ⟨o, es, ep, e, d, r⟩
    refine ⟨o, es, ep, hidT_get e (free e fun z _ => ?_), d, r⟩
    subst z
    rw [ha] at e
    cases e
    exact hd _ _ d
  have kB : K.In (hidT t.heap H) := by
    intro b o e
    refine hidT_get (KX b o e) (free (KX b o e) fun z q => ?_)
    rw [z, q] at e
    cases e
  obtain ⟨ml, l1, l2⟩ := hlim
  have env : Env0 P w K mg (hidT t.heap H) callerA [] t H :=
    { frames := rfl
      mod := ⟨kB, nsB hns, ⟨mb, nsB hb, hbb⟩, ⟨ml, nsB l1, l2⟩⟩
      bs := fun _ _ e => of_hidT e
      bsz := Nat.le_of_eq (hidT_size _ _)
      funs := trivial
      frf := fun _ z => by cases (show _ ∈ ([] : List Addr) from z)
      hok := hok
      bare := .of_eq hg }
  have go := (F _ kB (nsB hns)).run callerA [] t H ⟨[.ref a], []⟩ [.ref a] [.ref a] _ _ hr env (bd t (.ref a)) (.cons rfl .nil) hsp
  refine codeAny_mono go fun r t' h => ?_
  match r, h with
  | .error e, h => exact (hCX e t' h).elim
  | .ok .next, h => exact False.elim h
  | .ok .brk, h => exact False.elim h
  | .ok .cont, h => exact False.elim h
  | .ok (.ret u), h =>
    obtain ⟨v, H', e1, e2, un, hok', rv, (rfl : v = .bl true)⟩ := h
    cases (show u = Value.bool true from rv)
    refine ⟨rfl, OldK.of_keep fun b o e => ?_, e1, e2⟩
    rcases only b with n | ⟨_, _, ob, l, z⟩
    · exact un.keep b o e n (fun z => by cases (show b ∈ ([] : List Addr) from z)) (fun z => by cases z)
    · have z1 := (hok b _ z).1
      have z2 := (hok' b _ (un.frzs b ob _ z)).1
      rw [e] at z1
      cases z1
      exact z2
/-- the law's call -/
theorem lawG (KX : K.In t.heap) (hns : t.heap.Ns mainGlobals mg) (hb : t.heap.Ns builtinsNs mb) (hbb : ∀ x : Str, x ≠ "__name__" → mb x = bootBuiltins x) (hlim : t.heap.NoLimit) (hg : t.gens = #[])
    (ha : t.heap.get? a = some { cls := .type "list", data := .seq us.toArray }) (hi : IntsAre us ns) (hl : ns.length ≤ sizeLine) (hr : Rm k callerA) (F : ∀ base : Heap, K.In base → base.Ns mainGlobals mg → FnG P w K mg base CX k fa fd [x] sp)
    (bd : ∀ (s : Shared) (u : Value), BindsTo s fd ⟨[u], []⟩ [(x, u)]) (hsp : ∀ H : Hp, SqL K H a (ns.map V.int) → sp [.ref a] H (fun v _ => v = .bl true) fun _ _ _ => False) (hCX : ∀ H e s', CX [] H t (fun _ _ _ => False) e s' → False) :
    codeAny (model P w) callerA (.call (.ref fa) ⟨[.ref a], []⟩) (LawEnd t) t := by
  have rv := vals_ints hi
  have dd : ∀ es ep, ({ cls := .type "list", data := .seq us.toArray } : Obj).data ≠ .dict es ep := fun _ _ z => by cases z
  cases q : K.lookup a with
  | none =>
    let H : Hp := fun b => if b = a then some (.frz { cls := .type "list", data := .seq us.toArray } (.lst (ns.map V.int))) else none
    have Ha : H a = some (.frz { cls := .type "list", data := .seq us.toArray } (.lst (ns.map V.int))) := if_pos rfl
    have Hn : ∀ b, b ≠ a → H b = none := fun b n => if_neg n
    refine lawAt (H := H) KX hns hb hbb hlim hg ha dd hr F bd (hsp H (.inl (.inr ⟨_, Ha⟩))) (hCX H) (fun b => ?_) fun b u z => ?_
    · by_cases c : b = a
      · exact .inr ⟨c, q, _, _, by rw [c]; exact Ha⟩
      · exact .inl (Hn b c)
    · by_cases c : b = a
      · subst c
        rw [Ha] at z
        cases z
        exact ⟨ha, by rw [List.length_map]; exact hl, us, _, rv, ha⟩
      · rw [Hn b c] at z
        cases z
  | some o =>
    have e := KX a o q
    rw [ha] at e
    cases e
    refine lawAt (H := fun _ => none) KX hns hb hbb hlim hg ha dd hr F bd (hsp _ (.inr ⟨_, us.toArray, _, q, rfl, rfl, rfl, ?_, by simpa using rv⟩)) (hCX _) (fun _ => .inl rfl) fun b u z => by cases z
    rw [List.size_toArray, hi.length]
    exact hl
end
/-- the goal that the head leaves, from the law's promise -/
theorem walkG {l : PySem.W.OpenLaw} {n k : Nat} {q : Program} {loose : List Str} {XP : (Str → Option Value) → Heap → Prop} {YP : World → Heap → Prop} {d : DefRec} {CX : CXT} {x : Str} (hn : l.most = some n) (hn2 : n ≤ sizeLine) (hdf : d.params.defaults = []) (hr : Rm k callerA)
    (F : ∀ (w : World) (mg : Str → Option Value) (fa : Addr) (h : Heap), YP w h → h.Ns mainGlobals mg → mg d.name = some (.ref fa) →
      ∃ (K : PySem.W.Frag) (fd : FuncData) (sp : Sp), K.In h ∧ (∀ (s : Shared) (u : Value), BindsTo s fd ⟨[u], []⟩ [(x, u)]) ∧
        (∀ (H : Hp) (a : Addr) (ns : List Int), ns.length ≤ n → (∀ i ∈ ns, Builtin.Int.intBits i ≤ 1048576) → SqL K H a (ns.map V.int) → sp [.ref a] H (fun v _ => v = .bl true) fun _ _ _ => False) ∧ ∀ base : Heap, K.In base → base.Ns mainGlobals mg → FnG l.prog w K mg base CX k fa fd [x] sp)
    (hCX : ∀ (H : Hp) (s : Shared) (e : Value) (s' : Shared), CX [] H s (fun _ _ _ => False) e s' → False) : PySem.W.WalkO q loose XP YP l.row.toRowW d [] (fun f vs => PySem.call f vs) := by
  refine Att.attach_callB hn hdf fun w _ t mg mb fa _ _ _ _ a us ns G Y _ _ _ hm ho hi hlen hbits hg => ?_
  obtain ⟨K, fd, sp, KX, bd, hs, hF⟩ := F w mg fa _ Y G.T.g hm
  exact lawG KX G.T.g G.T.b G.T.builtins G.T.nolimit hg ho hi (Nat.le_trans hlen hn2) hr hF bd (fun H hS => hs H a ns hlen hbits hS) fun H e s' => hCX H t e s'
/-! ### the Hook: tests of the written part, and defs -/
abbrev Ft : Type := PySem.W.Frag → Bool
def obsX (ft : List Ft) (fn : List He.DefD) (K : PySem.W.Frag) : He.AlD := ((ft.all fun f => f K) && fn.all fun d => d.ok K, fn.map fun d => He.fnW K d.at_)
def SaysX (ft : List Ft) (fn : List He.DefD) (K : PySem.W.Frag) : Prop := obsX ft fn K = He.valD fn
def obsXG (n : Nat) (ft : List Ft) (fn : List He.DefD) (g : Addr → Option Obj) : He.AlD := obsX ft fn (He.frG g (He.asD g n))
def hookX (n : Nat) (ft : List Ft) (fn : List He.DefD) : PySem.W.Hook where
  α := He.AlD
  obs := fun s => obsXG n ft fn s.heap.get?
  val := fun _ => He.valD fn
  says := fun _ h => ∃ K : PySem.W.Frag, K.In h ∧ SaysX ft fn K
  of := fun _ _ e => ⟨_, He.frG_in, e⟩
  keeps := fun _ _ _ ⟨K, hK, c⟩ k => ⟨K, PySem.W.Frag.In.keeps hK k, c⟩
theorem obsXG_eq {n : Nat} {ft : List Ft} {fn : List He.DefD} {g : Addr → Option Obj} {s : Shared} (h : ∀ a, g a = s.heap.get? a) : obsXG n ft fn g = (hookX n ft fn).obs s := by
  have e : g = s.heap.get? := funext h
  rw [e] <;> rfl
theorem SaysX.fact {ft : List Ft} {fn : List He.DefD} {K : PySem.W.Frag} (c : SaysX ft fn K) (i : Nat) {f : Ft} (h : ft[i]? = some f := by rfl) : f K = true := by
  have e : ((ft.all fun f => f K) && fn.all fun d => d.ok K) = true := congrArg Prod.fst c
  exact List.all_eq_true.mp (He.ba e).1 f (List.mem_of_getElem? h)
theorem SaysX.def_ {ft : List Ft} {fn : List He.DefD} {K : PySem.W.Frag} (c : SaysX ft fn K) (i : Nat) {d : He.DefD} (h : fn[i]? = some d := by rfl) : ∃ fd, FunD K d.name d.qual d.params d.body d.scope (d.dvs K) (d.kws K) (He.fAd K d.at_) fd := by
  have e : ((ft.all fun f => f K) && fn.all fun d => d.ok K) = true := congrArg Prod.fst c
  have e1 : (fn.map fun d => He.fnW K d.at_)[i]? = (fn.map He.DefD.val)[i]? := congrArg (fun z : He.AlD => z.2[i]?) c
  rw [List.getElem?_map, List.getElem?_map, h] at e1
  exact He.DefD.funD (Option.some.inj e1) (List.all_eq_true.mp (He.ba e).2 d (List.mem_of_getElem? h))
end LL

set_option Elab.async false
set_option linter.all false
set_option maxRecDepth 100000
set_option maxHeartbeats 2000000
/-! LLCut: a reading cut in two: what stands between is told once. -/
namespace LL
open PySem PySem.Spec PyProof.Rows L2
/-- behind a statement I holds -/
theorem seq_cut {t u : TS} {D : Ends} {σ : L2.St} {H : Hp} (I : L2.St → Hp → Prop) (h1 : ∀ N : L2.St → Hp → Prop, (∀ σ' H', I σ' H' → N σ' H') → t { D with nx := N } σ H) (h2 : ∀ σ' H', I σ' H' → u D σ' H') : tSeq t u D σ H := h1 _ h2
/-- an expression has a value of which I holds -/
theorem ex_cut {t : TE} {σ : L2.St} {H : Hp} {Q : VK} (I : VK) (h1 : ∀ R : VK, (∀ x H', I x H' → R x H') → t σ H R) (h2 : ∀ x H', I x H' → Q x H') : t σ H Q := h1 Q h2
/-- a test has an answer of which I holds -/
theorem tt_cut {t : TT} {σ : L2.St} {H : Hp} {Q : Bool → Hp → Prop} (I : Bool → Hp → Prop) (h1 : ∀ R : Bool → Hp → Prop, (∀ x H', I x H' → R x H') → t σ H R) (h2 : ∀ x H', I x H' → Q x H') : t σ H Q := h1 Q h2
/-- a and b, both without an effect -/
theorem and_of {ta tb : TE} {σ : L2.St} {H : Hp} {Q : VK} (c d : Bool) (h1 : ∀ R : VK, R (.bl c) H → ta σ H R) (h2 : c = true → ∀ R : VK, R (.bl d) H → tb σ H R) (q : Q (.bl (c && d)) H) : tAndV ta tb σ H Q := by
  refine h1 _ ⟨c, rfl, ?_⟩
  cases c with
  | true => exact iteT (h2 rfl _ q)
  | false => exact iteF q
theorem or_of {ta tb : TE} {σ : L2.St} {H : Hp} {Q : VK} (c d : Bool) (h1 : ∀ R : VK, R (.bl c) H → ta σ H R) (h2 : c = false → ∀ R : VK, R (.bl d) H → tb σ H R) (q : Q (.bl (c || d)) H) : tOrV ta tb σ H Q := by
  refine h1 _ ⟨c, rfl, ?_⟩
  cases c with
  | true => exact iteT q
  | false => exact iteF (h2 rfl _ q)
theorem seq_asg {te : TE} {g : TG} {u : TS} {D : Ends} {σ : L2.St} {H : Hp} (h : te σ H fun x H1 => g x σ H1 (u D)) : tSeq (tAsg te g) u D σ H := h
theorem ret_of {te : TE} {D : Ends} {σ : L2.St} {H : Hp} (h : te σ H D.rt) : tRet te D σ H := h
theorem nx_of {D : Ends} {σ : L2.St} {H : Hp} (h : D.nx σ H) : tNext D σ H := h
/-! ### a class called, as a def is -/
section
variable (P : Program) (w : World) (K : PySem.W.Frag) (mg : Str → Option Value) (base : Heap) (CX : CXT) (k : Nat)
/-- C(..) keeps sp: its __init__ does, at each new instance -/
structure Mkf (x : Str) (sp : Sp) : Prop where
  ex : ∃ (C : Addr) (dvs : List V) (si : Sp), Mkr P w K mg base CX k x C dvs si ∧ ∀ vs H Q E, sp vs H Q E → ∀ a dx, H a = none → H dx = none → dx ≠ a → si (.ref a :: (vs ++ dvs)) (upd (upd H dx (.own a)) a (.ins C dx [])) (fun v H2 => v = .non ∧ Q (.ref a) H2) E
end
section
variable {X : Cx} {CX : CXT} {k : Nat} {sp : Sp} {E : XK} {x : Str} {p pos : Pos} {e : Expr} {es : List Expr} {t : TA}
theorem pe_mf (G : Mkf X.prog X.w X.K X.mg X.base CX k x sp) (hr : Rm (k + 1) X.A) (hx : Passes CX X E) (ha : PA X (e :: es) t) (hg : Gl X x := by rfl) (hdb : (x == ("__debug__" : Str)) = false := by decide)
    (he : starEach (e :: es) X.env = (false, eval e X.env) :: starEach es X.env := by rfl) (hpl : (backTo pos (starEach es X.env)).any (·.1) = false := by rfl) : PE X (.Call (.Name x p) (e :: es) [] pos) (tCall sp [] E t) := by
  obtain ⟨C, dvs, si, ⟨f, fd, ps, ds, M, hm, hb, hd, F⟩, conv⟩ := G.ex
  refine ⟨fun pins s σ H Q I h => wpAny_Call_Name_kw (ld_glob I hg hm (PySem.W.callWith_K (h₀ := X.base) I.ok.mod.kin M.kp (thn (ha.run pos pins s σ H _ I h) fun us s1 z => ?_) he hpl) hdb)⟩
  obtain ⟨vs, H1, I1, r, q⟩ := z
  exact ⟨I1.kIn, run_makeG M F hr hb hd hx I1 r (conv vs H1 Q E (by simpa using q))⟩
theorem pe_mf0 (G : Mkf X.prog X.w X.K X.mg X.base CX k x sp) (hr : Rm (k + 1) X.A) (hx : Passes CX X E) (hg : Gl X x := by rfl) (hdb : (x == ("__debug__" : Str)) = false := by decide) : PE X (.Call (.Name x p) [] [] pos) (tCall sp [] E tNil) := by
  obtain ⟨C, dvs, si, ⟨f, fd, ps, ds, M, hm, hb, hd, F⟩, conv⟩ := G.ex
  exact ⟨fun pins s σ H Q I h => wpAny_Call_Name_kw (ld_glob I hg hm (PySem.W.callWith_K0 I.kIn M.kp (run_makeG (us := []) M F hr hb hd hx I .nil (conv [] H Q E h))) hdb)⟩
end
/-! ### rules within a comprehension: the written part by its name -/
theorem ix_tupK {X : Cx} {K : PySem.W.Frag} (h : X.K = K) : IxR X (rIxT K) := h ▸ ix_tup
theorem ix_listK {X : Cx} {K : PySem.W.Frag} (h : X.K = K) : IxR X (rIxL K) := h ▸ ix_list
/-! ### texts that == can read -/
theorem okt_iff {x : Str} : PyData.strOk x = true ↔ ∀ c ∈ x.cps.toList, c < 1114112 := by
  unfold PyData.strOk
  rw [← Array.all_toList, List.all_eq_true]
  exact ⟨fun h c hc => of_decide_eq_true (h c hc), fun h c hc => decide_eq_true (h c hc)⟩
theorem okt_of (s : String) : PyData.strOk (Str.ofString s) = true := by
  rw [okt_iff]
  intro c hc
  rw [signs_ofString] at hc
  obtain ⟨k, _, rfl⟩ := List.mem_map.mp hc
  rcases k.valid with h | ⟨_, h⟩
  · exact Nat.lt_trans h (by decide)
  · exact h
theorem okt_app {x y : Str} (hx : PyData.strOk x = true) (hy : PyData.strOk y = true) : PyData.strOk (x ++ y) = true := by
  rw [okt_iff] at *
  intro c hc
  rw [Str.cps_append, Array.toList_append] at hc
  rcases List.mem_append.mp hc with h | h
  · exact hx c h
  · exact hy c h
/-! ### all but lists stay -/
def Kp (H H' : Hp) : Prop := ∀ b o, H b = some o → (∀ xs, o ≠ .lst xs) → H' b = some o
theorem Kp.refl {H : Hp} : Kp H H := fun _ _ e _ => e
theorem Kp.trans {H H1 H2 : Hp} (a : Kp H H1) (b : Kp H1 H2) : Kp H H2 := fun c o e n => b c o (a c o e n) n
theorem Kp.of {H H' : Hp} (a : Same H H') : Kp H H' := fun c o e _ => a c o e
theorem But.kp {p : Addr} {H H' : Hp} {xs : List V} (a : But p H H') (h : H p = some (.lst xs)) : Kp H H' := fun c o e n => a c o e fun z => by
  rw [z, h] at e
  exact n xs (Option.some.inj e).symm
theorem kp_upd {H : Hp} {p : Addr} {o : HO} {xs : List V} (h : H p = some (.lst xs)) : Kp H (upd H p o) := (but_upd (o := o)).kp h
end LL

set_option linter.all false
/-! M11: fractions in lowest terms, plain. -/
namespace K11
/-- the greatest common divisor, with the bottom's sign -/
def dv (x y : Int) : Int := if y < 0 then -(Int.gcd x y : Int) else (Int.gcd x y : Int)
def lt (x y : Int) : Int := x.fdiv (dv x y)
def lb (x y : Int) : Int := y.fdiv (dv x y)
theorem gcd_pos {x y : Int} (hy : y ≠ 0) : 0 < Int.gcd x y := by
  rcases Nat.eq_zero_or_pos (Int.gcd x y) with h | h
  · exact absurd (Int.gcd_eq_zero_iff.mp h).2 hy
  · exact h
theorem dv_ne {x y : Int} (hy : y ≠ 0) : dv x y ≠ 0 := by
  have := gcd_pos (x := x) hy
  unfold dv
  split <;> omega
theorem dv_abs (x y : Int) : (dv x y).natAbs = Int.gcd x y := by
  unfold dv
  split <;> omega
theorem dv_dvd_left (x y : Int) : dv x y ∣ x := by
  unfold dv
  split
  · exact Int.neg_dvd.mpr (Int.gcd_dvd_left ..)
  · exact Int.gcd_dvd_left ..
theorem dv_dvd_right (x y : Int) : dv x y ∣ y := by
  unfold dv
  split
  · exact Int.neg_dvd.mpr (Int.gcd_dvd_right ..)
  · exact Int.gcd_dvd_right ..
theorem fdiv_of {a b q : Int} (hb : b ≠ 0) (h : a = q * b) : a.fdiv b = q := by
  rw [h]
  exact Int.mul_fdiv_cancel q hb
theorem lt_mul {x y : Int} (hy : y ≠ 0) : lt x y * dv x y = x := by
  obtain ⟨q, h⟩ := dv_dvd_left x y
  have e : lt x y = q := fdiv_of (dv_ne hy) (by rw [Int.mul_comm]; exact h)
  rw [e, Int.mul_comm]
  exact h.symm
theorem lb_mul {x y : Int} (hy : y ≠ 0) : lb x y * dv x y = y := by
  obtain ⟨q, h⟩ := dv_dvd_right x y
  have e : lb x y = q := fdiv_of (dv_ne hy) (by rw [Int.mul_comm]; exact h)
  rw [e, Int.mul_comm]
  exact h.symm
theorem lb_pos {x y : Int} (hy : y ≠ 0) : 0 < lb x y := by
  have h := lb_mul (x := x) hy
  have g := gcd_pos (x := x) hy
  by_cases c : y < 0
  · have e : dv x y = -(Int.gcd x y : Int) := if_pos c
    rw [e] at h
    rcases Int.lt_trichotomy (lb x y) 0 with z | z | z
    · have : 0 < lb x y * -(Int.gcd x y : Int) := Int.mul_pos_of_neg_of_neg z (by omega)
      omega
    · rw [z] at h
      omega
    · exact z
  · have e : dv x y = (Int.gcd x y : Int) := if_neg c
    rw [e] at h
    rcases Int.lt_trichotomy (lb x y) 0 with z | z | z
    · have : lb x y * (Int.gcd x y : Int) < 0 := Int.mul_neg_of_neg_of_pos z (by omega)
      omega
    · rw [z] at h
      omega
    · exact z
theorem dv_scale {k x y : Int} (hk : k ≠ 0) (hy : y ≠ 0) : dv (k * x) (k * y) = k * dv x y := by
  have e : Int.gcd (k * x) (k * y) = k.natAbs * Int.gcd x y := Int.gcd_mul_left ..
  unfold dv
  rw [e, Int.natCast_mul]
  rcases Int.lt_or_gt_of_ne hk with h | h <;> rcases Int.lt_or_gt_of_ne hy with z | z
  · have c : ¬ k * y < 0 := Int.not_lt.mpr (Int.le_of_lt (Int.mul_pos_of_neg_of_neg h z))
    rw [if_neg c, if_pos z, show ((k.natAbs : Nat) : Int) = -k by omega, Int.neg_mul, Int.mul_neg]
  · have c : k * y < 0 := Int.mul_neg_of_neg_of_pos h z
    rw [if_pos c, if_neg (by omega), show ((k.natAbs : Nat) : Int) = -k by omega, Int.neg_mul, Int.neg_neg]
  · have c : k * y < 0 := Int.mul_neg_of_pos_of_neg h z
    rw [if_pos c, if_pos z, show ((k.natAbs : Nat) : Int) = k by omega, Int.mul_neg]
  · have c : ¬ k * y < 0 := Int.not_lt.mpr (Int.le_of_lt (Int.mul_pos h z))
    rw [if_neg c, if_neg (by omega), show ((k.natAbs : Nat) : Int) = k by omega]
theorem lt_scale {k x y : Int} (hk : k ≠ 0) (hy : y ≠ 0) : lt (k * x) (k * y) = lt x y := by
  have h := lt_mul (x := x) hy
  refine fdiv_of (dv_ne (Int.mul_ne_zero hk hy)) ?_
  rw [dv_scale hk hy, Int.mul_left_comm, h]
theorem lb_scale {k x y : Int} (hk : k ≠ 0) (hy : y ≠ 0) : lb (k * x) (k * y) = lb x y := by
  have h := lb_mul (x := x) hy
  refine fdiv_of (dv_ne (Int.mul_ne_zero hk hy)) ?_
  rw [dv_scale hk hy, Int.mul_left_comm, h]
theorem lt_idem {x y : Int} (hy : y ≠ 0) : lt (lt x y) (lb x y) = lt x y := by
  have h := lt_scale (x := lt x y) (y := lb x y) (dv_ne (x := x) hy) (Int.ne_of_gt (lb_pos hy))
  rw [Int.mul_comm (dv x y), Int.mul_comm (dv x y), lt_mul hy, lb_mul hy] at h
  exact h.symm
theorem lb_idem {x y : Int} (hy : y ≠ 0) : lb (lt x y) (lb x y) = lb x y := by
  have h := lb_scale (x := lt x y) (y := lb x y) (dv_ne (x := x) hy) (Int.ne_of_gt (lb_pos hy))
  rw [Int.mul_comm (dv x y), Int.mul_comm (dv x y), lt_mul hy, lb_mul hy] at h
  exact h.symm
theorem lt_le {x y : Int} (hy : y ≠ 0) : (lt x y).natAbs ≤ x.natAbs := by
  have h := lt_mul (x := x) hy
  have g := gcd_pos (x := x) hy
  rw [← dv_abs] at g
  rw [← h, Int.natAbs_mul]
  rw [h]
  exact Nat.le_mul_of_pos_right _ g
theorem lb_le {x y : Int} (hy : y ≠ 0) : (lb x y).natAbs ≤ y.natAbs := by
  have h := lb_mul (x := x) hy
  have g := gcd_pos (x := x) hy
  rw [← dv_abs] at g
  have : (lb x y * dv x y).natAbs = y.natAbs := by rw [h]
  rw [Int.natAbs_mul] at this
  rw [← this]
  exact Nat.le_mul_of_pos_right _ g
theorem lt_one (x : Int) : lt x 1 = x ∧ lb x 1 = 1 := by
  have e : dv x 1 = 1 := by
    unfold dv
    rw [if_neg (by omega), Int.gcd_one_right]
    rfl
  unfold lt lb
  rw [e]
  exact ⟨Int.fdiv_one x, Int.fdiv_one 1⟩
/-! the ways, of fractions and of their lowest terms -/
theorem low_eq {k x y x' y' : Int} (hk : k ≠ 0) (hy : y' ≠ 0) (ex : x = k * x') (ey : y = k * y') : lt x y = lt x' y' ∧ lb x y = lb x' y' := by
  rw [ex, ey]
  exact ⟨lt_scale hk hy, lb_scale hk hy⟩
theorem sum_low {a b c d : Int} (hb : b ≠ 0) (hd : d ≠ 0) : lt (a * d + c * b) (b * d) = lt (lt a b * lb c d + lt c d * lb a b) (lb a b * lb c d) ∧ lb (a * d + c * b) (b * d) = lb (lt a b * lb c d + lt c d * lb a b) (lb a b * lb c d) := by
  refine low_eq (k := dv a b * dv c d) (Int.mul_ne_zero (dv_ne hb) (dv_ne hd)) (Int.mul_ne_zero (Int.ne_of_gt (lb_pos hb)) (Int.ne_of_gt (lb_pos hd))) ?_ ?_
  · have h1 := lt_mul (x := a) hb
    have h2 := lb_mul (x := a) hb
    have h3 := lt_mul (x := c) hd
    have h4 := lb_mul (x := c) hd
    generalize lt a b = A at *
    generalize lb a b = B at *
    generalize lt c d = C at *
    generalize lb c d = D at *
    generalize dv a b = m at *
    generalize dv c d = n at *
    subst h1 h2 h3 h4
    rw [Int.mul_add]
    congr 1 <;> ac_rfl
  · have h2 := lb_mul (x := a) hb
    have h4 := lb_mul (x := c) hd
    generalize lb a b = B at *
    generalize lb c d = D at *
    generalize dv a b = m at *
    generalize dv c d = n at *
    subst h2 h4
    ac_rfl
theorem gap_low {a b c d : Int} (hb : b ≠ 0) (hd : d ≠ 0) : lt (a * d - c * b) (b * d) = lt (lt a b * lb c d - lt c d * lb a b) (lb a b * lb c d) ∧ lb (a * d - c * b) (b * d) = lb (lt a b * lb c d - lt c d * lb a b) (lb a b * lb c d) := by
  refine low_eq (k := dv a b * dv c d) (Int.mul_ne_zero (dv_ne hb) (dv_ne hd)) (Int.mul_ne_zero (Int.ne_of_gt (lb_pos hb)) (Int.ne_of_gt (lb_pos hd))) ?_ ?_
  · have h1 := lt_mul (x := a) hb
    have h2 := lb_mul (x := a) hb
    have h3 := lt_mul (x := c) hd
    have h4 := lb_mul (x := c) hd
    generalize lt a b = A at *
    generalize lb a b = B at *
    generalize lt c d = C at *
    generalize lb c d = D at *
    generalize dv a b = m at *
    generalize dv c d = n at *
    subst h1 h2 h3 h4
    rw [Int.mul_sub]
    congr 1 <;> ac_rfl
  · have h2 := lb_mul (x := a) hb
    have h4 := lb_mul (x := c) hd
    generalize lb a b = B at *
    generalize lb c d = D at *
    generalize dv a b = m at *
    generalize dv c d = n at *
    subst h2 h4
    ac_rfl
theorem product_low {a b c d : Int} (hb : b ≠ 0) (hd : d ≠ 0) : lt (a * c) (b * d) = lt (lt a b * lt c d) (lb a b * lb c d) ∧ lb (a * c) (b * d) = lb (lt a b * lt c d) (lb a b * lb c d) := by
  refine low_eq (k := dv a b * dv c d) (Int.mul_ne_zero (dv_ne hb) (dv_ne hd)) (Int.mul_ne_zero (Int.ne_of_gt (lb_pos hb)) (Int.ne_of_gt (lb_pos hd))) ?_ ?_
  · have h1 := lt_mul (x := a) hb
    have h3 := lt_mul (x := c) hd
    generalize lt a b = A at *
    generalize lt c d = C at *
    generalize dv a b = m at *
    generalize dv c d = n at *
    subst h1 h3
    ac_rfl
  · have h2 := lb_mul (x := a) hb
    have h4 := lb_mul (x := c) hd
    generalize lb a b = B at *
    generalize lb c d = D at *
    generalize dv a b = m at *
    generalize dv c d = n at *
    subst h2 h4
    ac_rfl
theorem lt_zero {c d : Int} (hd : d ≠ 0) : lt c d = 0 ↔ c = 0 := by
  have h := lt_mul (x := c) hd
  constructor
  · intro e
    rw [e] at h
    omega
  · intro e
    rw [e] at h
    exact (Int.mul_eq_zero.mp (by rw [e]; exact h)).resolve_right (dv_ne hd)
theorem part_low {a b c d : Int} (hb : b ≠ 0) (hd : d ≠ 0) (hc : c ≠ 0) : lt (a * d) (b * c) = lt (lt a b * lb c d) (lb a b * lt c d) ∧ lb (a * d) (b * c) = lb (lt a b * lb c d) (lb a b * lt c d) := by
  refine low_eq (k := dv a b * dv c d) (Int.mul_ne_zero (dv_ne hb) (dv_ne hd)) (Int.mul_ne_zero (Int.ne_of_gt (lb_pos hb)) (fun z => hc ((lt_zero hd).mp z))) ?_ ?_
  · have h1 := lt_mul (x := a) hb
    have h3 := lb_mul (x := c) hd
    generalize lt a b = A at *
    generalize lb c d = C at *
    generalize dv a b = m at *
    generalize dv c d = n at *
    subst h1 h3
    ac_rfl
  · have h2 := lb_mul (x := a) hb
    have h4 := lt_mul (x := c) hd
    generalize lb a b = B at *
    generalize lt c d = D at *
    generalize dv a b = m at *
    generalize dv c d = n at *
    subst h2 h4
    ac_rfl
theorem turned_low {a b : Int} (hb : b ≠ 0) : lt (-a) b = lt (-(lt a b)) (lb a b) ∧ lb (-a) b = lb (-(lt a b)) (lb a b) := by
  refine low_eq (k := dv a b) (dv_ne hb) (Int.ne_of_gt (lb_pos hb)) ?_ ?_
  · rw [Int.mul_neg, Int.mul_comm, lt_mul hb]
  · rw [Int.mul_comm, lb_mul hb]
/-! one turn of the divisor's loop -/
theorem gcd_turn {a b : Int} (ha : 0 ≤ a) (hb : 0 ≤ b) : Int.gcd b (a % b) = Int.gcd a b := by
  obtain ⟨n, rfl⟩ := Int.eq_ofNat_of_zero_le ha
  obtain ⟨m, rfl⟩ := Int.eq_ofNat_of_zero_le hb
  have e : ((n : Int) % (m : Int)) = ((n % m : Nat) : Int) := rfl
  rw [e]
  show Nat.gcd m (n % m) = Nat.gcd n m
  rw [Nat.gcd_comm m, ← Nat.gcd_rec, Nat.gcd_comm]
theorem gcd_end {a : Int} (ha : 0 ≤ a) : (Int.gcd a 0 : Int) = a := by
  rw [Int.gcd_zero_right]
  omega
theorem gcd_abs (x y : Int) : Int.gcd (if x < 0 then -x else x) (if y < 0 then -y else y) = Int.gcd x y := by
  split <;> split <;> simp
end K11

set_option Elab.async false
set_option linter.all false
set_option maxRecDepth 100000
set_option maxHeartbeats 4000000
/-! A11: the class Amount. -/
namespace K11
open PySem PySem.Spec PyProof.Rows L2 LL
def top (i : Nat) : Stmt := PySem.Challenge.pw_leastlog_k11_amounts_reckoned.main.body.getD i (.Pass ⟨0, 0, 0, 0⟩)
abbrev s_is_integer : Stmt := top 6
abbrev n_is_integer : List Str := ["value"]
theorem sc_is_integer : FnScope n_is_integer ["value"] (defScope s_is_integer) := ⟨rfl, rfl, rfl, by decide +kernel, rfl, by decide +kernel, by decide +kernel⟩
abbrev s_common_divisor : Stmt := top 7
abbrev n_common_divisor : List Str := ["one", "other"]
theorem sc_common_divisor : FnScope n_common_divisor ["one", "other"] (defScope s_common_divisor) := ⟨rfl, rfl, rfl, by decide +kernel, rfl, by decide +kernel, by decide +kernel⟩
abbrev s_Amountinit : Stmt := inClass (top 8) 0
abbrev n_Amountinit : List Str := ["self", "top", "bottom", "value", "divisor"]
theorem sc_Amountinit : FnScope n_Amountinit ["self", "top", "bottom"] (defScope s_Amountinit) := ⟨rfl, rfl, rfl, by decide +kernel, rfl, by decide +kernel, by decide +kernel⟩
abbrev s_Amount_top : Stmt := inClass (top 8) 1
abbrev n_Amount_top : List Str := ["self"]
theorem sc_Amount_top : FnScope n_Amount_top ["self"] (defScope s_Amount_top) := ⟨rfl, rfl, rfl, by decide +kernel, rfl, by decide +kernel, by decide +kernel⟩
abbrev s_Amount_bottom : Stmt := inClass (top 8) 2
abbrev n_Amount_bottom : List Str := ["self"]
theorem sc_Amount_bottom : FnScope n_Amount_bottom ["self"] (defScope s_Amount_bottom) := ⟨rfl, rfl, rfl, by decide +kernel, rfl, by decide +kernel, by decide +kernel⟩
abbrev s_Amount_sign : Stmt := inClass (top 8) 3
abbrev n_Amount_sign : List Str := ["self"]
theorem sc_Amount_sign : FnScope n_Amount_sign ["self"] (defScope s_Amount_sign) := ⟨rfl, rfl, rfl, by decide +kernel, rfl, by decide +kernel, by decide +kernel⟩
abbrev s_Amountadd : Stmt := inClass (top 8) 4
abbrev n_Amountadd : List Str := ["self", "other", "second", "top"]
theorem sc_Amountadd : FnScope n_Amountadd ["self", "other"] (defScope s_Amountadd) := ⟨rfl, rfl, rfl, by decide +kernel, rfl, by decide +kernel, by decide +kernel⟩
abbrev s_Amountsub : Stmt := inClass (top 8) 5
abbrev n_Amountsub : List Str := ["self", "other", "second", "top"]
theorem sc_Amountsub : FnScope n_Amountsub ["self", "other"] (defScope s_Amountsub) := ⟨rfl, rfl, rfl, by decide +kernel, rfl, by decide +kernel, by decide +kernel⟩
abbrev s_Amountmul : Stmt := inClass (top 8) 6
abbrev n_Amountmul : List Str := ["self", "other", "second"]
theorem sc_Amountmul : FnScope n_Amountmul ["self", "other"] (defScope s_Amountmul) := ⟨rfl, rfl, rfl, by decide +kernel, rfl, by decide +kernel, by decide +kernel⟩
abbrev s_Amountneg : Stmt := inClass (top 8) 7
abbrev n_Amountneg : List Str := ["self"]
theorem sc_Amountneg : FnScope n_Amountneg ["self"] (defScope s_Amountneg) := ⟨rfl, rfl, rfl, by decide +kernel, rfl, by decide +kernel, by decide +kernel⟩
abbrev s_Amount_over : Stmt := inClass (top 8) 8
abbrev n_Amount_over : List Str := ["self", "divisor", "second"]
theorem sc_Amount_over : FnScope n_Amount_over ["self", "divisor"] (defScope s_Amount_over) := ⟨rfl, rfl, rfl, by decide +kernel, rfl, by decide +kernel, by decide +kernel⟩
abbrev s_Amount_below : Stmt := inClass (top 8) 9
abbrev n_Amount_below : List Str := ["self", "other", "second"]
theorem sc_Amount_below : FnScope n_Amount_below ["self", "other"] (defScope s_Amount_below) := ⟨rfl, rfl, rfl, by decide +kernel, rfl, by decide +kernel, by decide +kernel⟩
abbrev s_Amounteq : Stmt := inClass (top 8) 10
abbrev n_Amounteq : List Str := ["self", "other"]
theorem sc_Amounteq : FnScope n_Amounteq ["self", "other"] (defScope s_Amounteq) := ⟨rfl, rfl, rfl, by decide +kernel, rfl, by decide +kernel, by decide +kernel⟩
abbrev s_Amountstr : Stmt := inClass (top 8) 11
abbrev n_Amountstr : List Str := ["self"]
theorem sc_Amountstr : FnScope n_Amountstr ["self"] (defScope s_Amountstr) := ⟨rfl, rfl, rfl, by decide +kernel, rfl, by decide +kernel, by decide +kernel⟩
abbrev s_Amountrepr : Stmt := inClass (top 8) 12
abbrev n_Amountrepr : List Str := ["self"]
theorem sc_Amountrepr : FnScope n_Amountrepr ["self"] (defScope s_Amountrepr) := ⟨rfl, rfl, rfl, by decide +kernel, rfl, by decide +kernel, by decide +kernel⟩
abbrev s_as_amount : Stmt := top 9
abbrev n_as_amount : List Str := ["value"]
theorem sc_as_amount : FnScope n_as_amount ["value"] (defScope s_as_amount) := ⟨rfl, rfl, rfl, by decide +kernel, rfl, by decide +kernel, by decide +kernel⟩
/-- what the top has made: the built-in names that are free, the class Amount at C -/
structure Tx (K : PySem.W.Frag) (mg : Str → Option Value) (C : Addr) : Prop where
  cl : Cls K C
  nT : NoAttr K C "own_top"
  nB : NoAttr K C "own_bottom"
  g_Amount : mg "Amount" = some (.ref C)
  ca : PySem.W.findIn K (.ref C) "__class__" = some (some (.builtin "object.__class__"))
  cn : PySem.W.specialIn K (.builtin "object.__class__") "__get__" = some (some (.builtin "getset_descriptor.__get__"))
  ct : PySem.W.takesIn K (.builtin "object.__class__") = some true
  cm : PySem.W.mroIn K C (.type "object") = some true
  kI : PySem.W.kitOne K (.type "int") (.ref C) = some false
  kC : PySem.W.kitOne K (.ref C) (.ref C) = some true
  ne : PySem.W.findIn K (.ref C) "__ne__" = some (some (.builtin "object.__ne__"))
  fI : PySem.W.notFirst K C (.type "int") = true
  fC : PySem.W.notFirst K C (.ref C) = true
  n_isinstance : mg "isinstance" = none
  n_int : mg "int" = none
  n_bool : mg "bool" = none
  n_abs : mg "abs" = none
  n_str : mg "str" = none
  n_repr : mg "repr" = none
  n_range : mg "range" = none
  n_len : mg "len" = none
  n_max : mg "max" = none
  n_min : mg "min" = none
  n_divmod : mg "divmod" = none
  n_all : mg "all" = none
  n_zip : mg "zip" = none
section
variable {P : Program} {w : World} {K : PySem.W.Frag} {mg : Str → Option Value} {base : Heap} {C : Addr} {f : Addr} {fd : FuncData}
/-- a def of the text, no defaults -/
abbrev FD (K : PySem.W.Frag) (x qual : Str) (st : Stmt) (dvs : List V) (f : Addr) (fd : FuncData) : Prop := FunD K x qual (defArgs st) (defBody st) (defScope st) dvs [] f fd
/-! ### is_integer -/
def spIsInt (K : PySem.W.Frag) : Sp := fun vs H Q _ => ∃ v t b1 b2, vs = [v] ∧ TyX K H v t ∧ PySem.W.kitOne K t (.type "int") = some b1 ∧ PySem.W.kitOne K t (.type "bool") = some b2 ∧ Q (.bl (b1 && !b2)) H
theorem ok_is_integer (T : Tx K mg C) (F : FD K "is_integer" "is_integer" s_is_integer [] f fd) : FnG P w K mg base CX0 1 f fd ["value"] (spIsInt K) := by
  refine ok0 F sc_is_integer (fun vs H Q E h => ?_) (fun cdv A outer s H vs Q E hr h => ?_)
  · obtain ⟨v, t, b1, b2, rfl, _⟩ := h
    rfl
  · obtain ⟨v, t, b1, b2, rfl, ty, e1, e2, q⟩ := h
    refine ⟨_, (pss_one (ps_ret (pe_and (pe_callB call_isi (by rfl) T.n_isinstance (by decide +kernel) (pa_cons (pv 0) (pa_cons (pe_bltn (v := .ty "int") (by rfl) T.n_int (by decide +kernel) rfl) pa_nil))) (pe_one (pe_not (pe_callB call_isi (by rfl) T.n_isinstance (by decide +kernel) (pa_cons (pv 0) (pa_cons (pe_bltn (v := .ty "bool") (by rfl) T.n_bool (by decide +kernel) rfl) pa_nil)))))))), ?_⟩
    refine ⟨_, rfl, _, _, t, _, _, rfl, .ty "int", ty, e1, _, rfl, ?_⟩
    cases b1 with
    | false => exact iteF q
    | true => exact iteT ⟨_, rfl, _, _, t, _, _, rfl, .ty "bool", ty, e2, _, rfl, q⟩
/-! ### common_divisor -/
def spGcd : Sp := fun vs H Q _ => ∃ x y : Int, vs = [.int x, .int y] ∧ Q (.int (Int.gcd x y : Int)) H
theorem ok_common_divisor (T : Tx K mg C) (F : FD K "common_divisor" "common_divisor" s_common_divisor [] f fd) : FnG P w K mg base CX0 1 f fd ["one", "other"] spGcd := by
  refine ok0 F sc_common_divisor (fun vs H Q E h => ?_) (fun cdv A outer s H vs Q E hr h => ?_)
  · obtain ⟨x, y, rfl, _⟩ := h
    rfl
  · obtain ⟨x, y, rfl, q⟩ := h
    refine ⟨_, (pss_cons (ps_par (i := 0) (j := 1) rfl sc_common_divisor.nd rfl rfl (by decide) rfl rfl (pa_cons (pe_callB call_abs (by rfl) T.n_abs (by decide +kernel) (pa_cons (pv 0) pa_nil)) (pa_cons (pe_callB call_abs (by rfl) T.n_abs (by decide +kernel) (pa_cons (pv 1) pa_nil)) pa_nil)) (by rfl))
      (pss_cons (ps_while PassesOwn.never (pt_cmpR op_ne (pv 1) pe_int (nomark _)) (pss_one (ps_par (i := 0) (j := 1) rfl sc_common_divisor.nd rfl rfl (by decide) rfl rfl (pa_cons (pv 1) (pa_cons (pe_op op_mod (pv 0) (pv 1)) pa_nil)) (by rfl))))
      (pss_one (ps_ret (pv 0))))), ?_⟩
    refine ⟨_, rfl, _, rfl, _, rfl, _, rfl, _, _, rfl, ?_⟩
    refine while_by (fun σ H' => H' = H ∧ ∃ a b : Int, σ = [some (.int a), some (.int b)] ∧ 0 ≤ a ∧ 0 ≤ b ∧ Int.gcd a b = Int.gcd x y) (fun σ _ => match σ with | [_, some (.int b)] => b.toNat | _ => 0) ?_ ?_ ?_
    · exact ⟨rfl, _, _, rfl, by split <;> omega, by split <;> omega, gcd_abs x y⟩
    · rintro σ H' ⟨rfl, a, b, rfl, ha, hb, hg⟩
      refine ⟨_, rfl, rfl, _, rfl, ?_⟩
      by_cases c : b = 0
      · subst c
        refine iteF ?_
        refine ⟨_, rfl, ?_⟩
        rw [← gcd_end ha, hg]
        exact q
      · refine iteY (by rw [dec_ne c]; rfl) ?_
        refine ⟨_, rfl, _, rfl, _, rfl, _, _, rfl, rfl, by omega, _, _, rfl, ⟨rfl, _, _, rfl, hb, Int.emod_nonneg _ c, ?_⟩, ?_⟩
        · rw [gcd_turn ha hb]
          exact hg
        · have := Int.emod_lt_of_pos a (show 0 < b by omega)
          have := Int.emod_nonneg a c
          show (a % b).toNat < b.toNat
          omega
    · rintro σ H' Q Q' hq ⟨v, e, e2, k, e3, h⟩
      exact ⟨v, e, e2, k, e3, hq _ _ h⟩
/-! ### the object -/
def flds (t b : Int) : List (Str × V) := [("own_top", .int t), ("own_bottom", .int b)]
theorem ne_tb : ¬ (("own_top" : Str) = "own_bottom") := by decide +kernel
theorem ne_bt : ¬ (("own_bottom" : Str) = "own_top") := by decide +kernel
theorem put_tb (t b : Int) : putF "own_bottom" (.int b) (putF "own_top" (.int t) []) = flds t b := by
  show (if ("own_top" : Str) = "own_bottom" then [(("own_top" : Str), V.int b)] else (("own_top" : Str), V.int t) :: putF "own_bottom" (V.int b) []) = _
  rw [if_neg ne_tb]
  rfl
theorem look_t (t b : Int) : (flds t b).lookup ("own_top" : Str) = some (V.int t) := by
  rw [← put_tb, lookup_putF, if_neg ne_tb, lookup_putF, if_pos rfl]
theorem look_b (t b : Int) : (flds t b).lookup ("own_bottom" : Str) = some (V.int b) := by
  rw [← put_tb, lookup_putF, if_pos rfl]
theorem look_no (t b : Int) {m : Str} (h1 : ¬ m = "own_top") (h2 : ¬ m = "own_bottom") : (flds t b).lookup m = none := by
  rw [← put_tb, lookup_putF, if_neg h2, lookup_putF, if_neg h1]
  rfl
/-- an Amount with these lowest terms stands at p -/
def AmtAt (C : Addr) (H : Hp) (p : Addr) (t b : Int) : Prop := ∃ dx, H p = some (.ins C dx (flds t b))
theorem AmtAt.same {H H' : Hp} {p : Addr} {t b : Int} (h : AmtAt C H p t b) (s : Same H H') : AmtAt C H' p t b := let ⟨dx, e⟩ := h; ⟨dx, s _ _ e⟩
/-! ### __init__ -/
def spInit (C : Addr) : Sp := fun vs H Q _ => ∃ (p dx : Addr) (x y : Int), vs = [.ref p, .int x, .int y] ∧ H p = some (.ins C dx []) ∧ y ≠ 0 ∧ x.natAbs < 2 ^ 4000 ∧ y.natAbs < 2 ^ 4000 ∧
  ∀ H', H' p = some (.ins C dx (flds (lt x y) (lb x y))) → But p H H' → Q .non H'
theorem dv_big {x y : Int} (hy : y ≠ 0) (h : y.natAbs < 2 ^ 4000) : (dv x y).natAbs < 2 ^ 4000 := by
  rw [dv_abs]
  have : Int.gcd x y ≤ y.natAbs := Nat.le_of_dvd (by omega) (Nat.gcd_dvd_right ..)
  omega
theorem kInt {K : PySem.W.Frag} : PySem.W.kitOne K (.type "int") (.type "int") = some true := kit_ty (by decide +kernel)
theorem kIntB {K : PySem.W.Frag} : PySem.W.kitOne K (.type "int") (.type "bool") = some false := kit_ty (by decide +kernel)
theorem ok_init (T : Tx K mg C) (G_is_integer : Fnc P w K mg base CX0 1 "is_integer" [] (spIsInt K)) (G_common_divisor : Fnc P w K mg base CX0 1 "common_divisor" [] spGcd)
    (F : FD K "__init__" "Amount.__init__" s_Amountinit [.int 1] f fd) : FnG P w K mg base CX0 2 f fd ["self", "top", "bottom"] (spInit C) := by
  refine ok0 F sc_Amountinit (fun vs H Q E h => ?_) (fun cdv A outer s H vs Q E hr h => ?_)
  · obtain ⟨p, dx, x, y, rfl, _⟩ := h
    rfl
  · obtain ⟨p, dx, x, y, rfl, hp, hy, bx, by_, q⟩ := h
    refine ⟨_, (pss_cons (ps_for PassesOwn.never rfl (pi_tup (pe_tup (pa_cons (pv 1) (pa_cons (pv 2) pa_nil)))) (pg_name (i := 3) sc_Amountinit.nd rfl (by first | exact Or.inl rfl | exact Or.inr rfl)) (pss_one (ps_if (pt_not (pt_val (pe_fn G_is_integer (hr.mono (by decide)) pass0 (pa_cons (pv 3) pa_nil)))) (pss_one ps_never) pss_nil)))
      (pss_cons (ps_if (pt_cmpR op_eq (pv 2) pe_int (nomark _)) (pss_one ps_never) pss_nil)
      (pss_cons (ps_set (i := 4) sc_Amountinit.nd rfl (by first | exact Or.inl rfl | exact Or.inr rfl) (pe_fn G_common_divisor (hr.mono (by decide)) pass0 (pa_cons (pv 1) (pa_cons (pv 2) pa_nil))))
      (pss_cons (ps_if (pt_cmpR op_lt (pv 2) pe_int (nomark _)) (pss_one (ps_set (i := 4) sc_Amountinit.nd rfl (by first | exact Or.inl rfl | exact Or.inr rfl) (pe_un un_neg (pv 4)))) pss_nil)
      (pss_cons (ps_fld (pv 0) (pe_op op_fdivZ (pv 1) (pv 4)) rfl)
      (pss_one (ps_fld (pv 0) (pe_op op_fdivZ (pv 2) (pv 4)) rfl))))))), ?_⟩
    refine ⟨_, rfl, _, rfl, (by show 2 ≤ sizeLine; decide), fun t ht => ⟨t, rfl, ⟨_, SqT.of upd_same⟩, for_tup (K := K) (a := t) (xs := [.int x, .int y]) (fun i σ H' => H' = upd H t (.tup [.int x, .int y]) ∧ ∃ v, σ = [some (.ref p), some (.int x), some (.int y), v, none]) ⟨rfl, none, rfl⟩ ?_ ?_ ?_⟩⟩
    · rintro i σ H' _ ⟨rfl, _⟩
      exact SqT.of upd_same
    · rintro i z σ H' hi ⟨rfl, v, rfl⟩
      obtain ⟨n, rfl⟩ : ∃ n : Int, z = .int n := by
        match i, hi with
        | 0, hi => exact ⟨x, (Option.some.inj hi).symm⟩
        | 1, hi => exact ⟨y, (Option.some.inj hi).symm⟩
      exact ⟨_, rfl, _, .type "int", true, false, rfl, .base (.int _), kInt, kIntB, _, rfl, iteF ⟨rfl, _, rfl⟩⟩
    · rintro σ H' ⟨rfl, v, rfl⟩
      have npt : p ≠ t := ne_of_none hp ht
      -- bottom == 0, the divisor
      refine ⟨_, rfl, rfl, _, rfl, iteN (dec_ne hy) ?_⟩
      refine ⟨_, rfl, _, rfl, x, y, rfl, ?_⟩
      refine ⟨_, rfl, _, _, rfl, rfl, _, rfl, ?_⟩
      -- behind the sign
      have fin : ∀ (d : Int), d = dv x y → (tSeq (sFld K (tVar 0) (tOp (rI CDivZ fun i j => .int (i.fdiv j)) (tVar 1) (tVar 4)) "own_top") (sFld K (tVar 0) (tOp (rI CDivZ fun i j => .int (i.fdiv j)) (tVar 2) (tVar 4)) "own_bottom")) { nx := fun _ H' => Q .non H', rt := Q } [some (.ref p), some (.int x), some (.int y), v, some (.int d)] (upd H t (.tup [.int x, .int y])) := by
        intro d hd
        have cd : CDivZ x d := by
          rw [hd]
          exact wide_divZ (dv_ne hy) (dv_big hy by_) (by decide) (by decide)
        refine ⟨_, rfl, _, rfl, _, _, rfl, rfl, cd, _, rfl, p, C, dx, [], rfl, (by rw [upd_ne npt]; exact hp), T.cl, T.nT, (by show 0 < 1000; decide), ?_⟩
        refine ⟨_, rfl, _, rfl, _, _, rfl, rfl, cd, _, rfl, p, C, dx, _, rfl, upd_same, T.cl, T.nB, (by show 1 < 1000; decide), ?_⟩
        refine q _ (upd_same.trans ?_) fun b o e n => ?_
        · rw [put_tb, hd]
          rfl
        · rw [upd_ne n, upd_ne n, upd_ne (ne_of_none e ht)]
          exact e
      refine iteB (fun c => ?_) (fun c => ?_)
      · have c' : y < 0 := of_decide_eq_true c
        exact ⟨_, rfl, _, rfl, fin _ (by unfold dv; rw [if_pos c'])⟩
      · have c' : ¬ y < 0 := of_decide_eq_false c
        exact fin _ (by unfold dv; rw [if_neg c'])
/-- Amount(x, y): a new object -/
theorem mk_amt {H : Hp} {x y : Int} {Q : VK} {E : XK} (hy : y ≠ 0) (bx : x.natAbs < 2 ^ 4000) (by_ : y.natAbs < 2 ^ 4000) (q : ∀ H' p, Same H H' → H p = none → AmtAt C H' p (lt x y) (lb x y) → Q (.ref p) H') :
    ∀ a dx, H a = none → H dx = none → dx ≠ a → spInit C [.ref a, .int x, .int y] (upd (upd H dx (.own a)) a (.ins C dx [])) (fun v H2 => v = .non ∧ Q (.ref a) H2) E := by
  intro a dx ha hd ne
  refine ⟨a, dx, x, y, rfl, upd_same, hy, bx, by_, fun H' e b => ⟨rfl, q H' a (fun c o z => ?_) ha ⟨dx, e⟩⟩⟩
  refine b c o ?_ (ne_of_none z ha)
  rw [upd_ne (ne_of_none z ha), upd_ne (ne_of_none z hd)]
  exact z
/-- an amount handed in: an Amount, or an int -/
def AmtV (C : Addr) (H : Hp) (v : V) (t b : Int) : Prop := (∃ p, v = .ref p ∧ AmtAt C H p t b) ∨ (v = .int t ∧ b = 1)
def spAs (C : Addr) : Sp := fun vs H Q _ => ∃ v t b, vs = [v] ∧ AmtV C H v t b ∧ t.natAbs < 2 ^ 4000 ∧ ∀ H' p, Same H H' → AmtAt C H' p t b → Q (.ref p) H'
theorem tyA (T : Tx K mg C) {H : Hp} {p : Addr} {t b : Int} (h : AmtAt C H p t b) : TyX K H (.ref p) (.ref C) := let ⟨_, e⟩ := h; .base (.ins e T.cl T.ca T.cn T.ct T.cm)
theorem ok_as_amount (T : Tx K mg C) (K_Amount1 : Mkr P w K mg base CX0 2 "Amount" C [.int 1] (spInit C)) (F : FD K "as_amount" "as_amount" s_as_amount [] f fd) : FnG P w K mg base CX0 4 f fd ["value"] (spAs C) := by
  refine ok0 F sc_as_amount (fun vs H Q E h => ?_) (fun cdv A outer s H vs Q E hr h => ?_)
  · obtain ⟨v, t, b, rfl, _⟩ := h
    rfl
  · obtain ⟨v, t, b, rfl, hv, bt, q⟩ := h
    refine ⟨_, (pss_cons (ps_if (pt_val (pe_callB call_isi (by rfl) T.n_isinstance (by decide +kernel) (pa_cons (pv 0) (pa_cons (pe_glob (v := .ref C) (by rfl) T.g_Amount rfl) pa_nil)))) (pss_one (ps_ret (pv 0))) pss_nil)
      (pss_one (ps_ret (pe_mk K_Amount1 (hr.mono (by decide)) pass0 (pa_cons (pv 0) pa_nil))))), ?_⟩
    rcases hv with ⟨p, rfl, hp⟩ | ⟨rfl, rfl⟩
    · refine ⟨_, rfl, _, _, .ref C, _, _, rfl, .own C, tyA T hp, T.kC, _, rfl, iteT ⟨_, rfl, ?_⟩⟩
      exact q H p (Same.refl H) hp
    · refine ⟨_, rfl, _, _, .type "int", _, _, rfl, .own C, .base (.int t), T.kI, _, rfl, iteF ⟨_, rfl, ?_⟩⟩
      refine mk_amt (C := C) (x := t) (y := 1) (by decide) bt (by decide +kernel) fun H' p s _ ha => q H' p s ?_
      rw [(lt_one t).1, (lt_one t).2] at ha
      exact ha
/-! ### the operators -/
/-- small enough -/
def Sm (n : Int) : Prop := n.natAbs < 2 ^ 900
theorem Sm.lift {n : Int} (h : Sm n) : n.natAbs < 2 ^ 4000 := Nat.lt_of_lt_of_le h (Nat.pow_le_pow_right (by decide) (by decide))
theorem Sm.mulx {m n : Int} (hm : Sm m) (hn : Sm n) : CMulX m n := mulx_ok hm hn (by decide)
theorem Sm.mul {m n : Int} (hm : Sm m) (hn : Sm n) : (m * n).natAbs < 2 ^ 1800 := wide_lt hm hn
theorem big1 {n : Int} (h : n.natAbs < 2 ^ 1800) : n.natAbs < 2 ^ 4000 := Nat.lt_of_lt_of_le h (Nat.pow_le_pow_right (by decide) (by decide))
theorem big2 {m n : Int} (hm : m.natAbs < 2 ^ 1800) (hn : n.natAbs < 2 ^ 1800) : (m + n).natAbs < 2 ^ 4000 := by
  have h : (m + n).natAbs < 2 ^ 1801 := by
    have := Int.natAbs_add_le m n
    have e : (2 : Nat) ^ 1801 = 2 ^ 1800 + 2 ^ 1800 := by rw [Nat.pow_succ]; omega
    omega
  exact Nat.lt_of_lt_of_le h (Nat.pow_le_pow_right (by decide) (by decide))
theorem big3 {m n : Int} (hm : m.natAbs < 2 ^ 1800) (hn : n.natAbs < 2 ^ 1800) : (m - n).natAbs < 2 ^ 4000 := by
  rw [Int.sub_eq_add_neg]
  exact big2 hm (by rw [Int.natAbs_neg]; exact hn)
/-- x op y of two amounts: a new Amount, of the lowest terms of g -/
def spBin (C : Addr) (gt gb : Int → Int → Int → Int → Int) (ok : Int → Prop) : Sp := fun vs H Q _ => ∃ p v t b t2 b2, vs = [.ref p, v] ∧ AmtAt C H p t b ∧ AmtV C H v t2 b2 ∧ (Sm t ∧ Sm b ∧ Sm t2 ∧ Sm b2) ∧ (0 < b ∧ 0 < b2) ∧ ok t2 ∧
  ∀ H' r, Same H H' → H r = none → AmtAt C H' r (lt (gt t b t2 b2) (gb t b t2 b2)) (lb (gt t b t2 b2) (gb t b t2 b2)) → Q (.ref r) H'
theorem ok_add (T : Tx K mg C) (K_Amount2 : Mkr P w K mg base CX0 2 "Amount" C [] (spInit C)) (G_as_amount : Fnc P w K mg base CX0 4 "as_amount" [] (spAs C)) (F : FD K "__add__" "Amount.__add__" s_Amountadd [] f fd) :
    FnG P w K mg base CX0 5 f fd ["self", "other"] (spBin C (fun t b t2 b2 => t * b2 + t2 * b) (fun _ b _ b2 => b * b2) fun _ => True) := by
  refine ok0 F sc_Amountadd (fun vs H Q E h => ?_) (fun cdv A outer s H vs Q E hr h => ?_)
  · obtain ⟨p, v, t, b, t2, b2, rfl, _⟩ := h
    rfl
  · obtain ⟨p, v, t, b, t2, b2, rfl, hp, hv, ⟨st, sb, st2, sb2⟩, ⟨pb, pb2⟩, _, q⟩ := h
    refine ⟨_, (pss_cons (ps_set (i := 2) sc_Amountadd.nd rfl (by first | exact Or.inl rfl | exact Or.inr rfl) (pe_fn G_as_amount (hr.mono (by decide)) pass0 (pa_cons (pv 1) pa_nil)))
      (pss_cons (ps_set (i := 3) sc_Amountadd.nd rfl (by first | exact Or.inl rfl | exact Or.inr rfl) (pe_op op_add (pe_op op_mulX (pe_fld (pv 0) rfl) (pe_fld (pv 2) rfl)) (pe_op op_mulX (pe_fld (pv 2) rfl) (pe_fld (pv 0) rfl))))
      (pss_one (ps_ret (pe_mk K_Amount2 (hr.mono (by decide)) pass0 (pa_cons (pv 3) (pa_cons (pe_op op_mulX (pe_fld (pv 0) rfl) (pe_fld (pv 2) rfl)) pa_nil))))))), ?_⟩
    refine ⟨_, rfl, v, t2, b2, rfl, hv, st2.lift, fun H1 r s1 hr1 => ?_⟩
    obtain ⟨dx, hp1⟩ := hp.same s1
    obtain ⟨dy, hr1⟩ := hr1
    refine ⟨_, rfl, p, C, dx, _, _, rfl, hp1, T.cl, T.nT, look_t _ _, _, rfl, r, C, dy, _, _, rfl, hr1, T.cl, T.nB, look_b _ _, _, _, rfl, rfl, st.mulx sb2, ?_⟩
    refine ⟨_, rfl, r, C, dy, _, _, rfl, hr1, T.cl, T.nT, look_t _ _, _, rfl, p, C, dx, _, _, rfl, hp1, T.cl, T.nB, look_b _ _, _, _, rfl, rfl, st2.mulx sb, _, _, rfl, rfl, ?_⟩
    refine ⟨_, rfl, _, rfl, p, C, dx, _, _, rfl, hp1, T.cl, T.nB, look_b _ _, _, rfl, r, C, dy, _, _, rfl, hr1, T.cl, T.nB, look_b _ _, _, _, rfl, rfl, sb.mulx sb2, ?_⟩
    exact mk_amt (C := C) (Int.mul_ne_zero (by omega) (by omega)) (big2 (st.mul sb2) (st2.mul sb)) (big1 (sb.mul sb2)) fun H' z s2 n ha => q H' z (s1.trans s2) (s1.free n) ha
theorem ok_sub (T : Tx K mg C) (K_Amount2 : Mkr P w K mg base CX0 2 "Amount" C [] (spInit C)) (G_as_amount : Fnc P w K mg base CX0 4 "as_amount" [] (spAs C)) (F : FD K "__sub__" "Amount.__sub__" s_Amountsub [] f fd) :
    FnG P w K mg base CX0 5 f fd ["self", "other"] (spBin C (fun t b t2 b2 => t * b2 - t2 * b) (fun t b t2 b2 => b * b2) fun _ => True) := by
  refine ok0 F sc_Amountsub (fun vs H Q E h => ?_) (fun cdv A outer s H vs Q E hr h => ?_)
  · obtain ⟨p, v, t, b, t2, b2, rfl, _⟩ := h
    rfl
  · obtain ⟨p, v, t, b, t2, b2, rfl, hp, hv, ⟨st, sb, st2, sb2⟩, ⟨pb, pb2⟩, ok, q⟩ := h
    refine ⟨_, (pss_cons (ps_set (i := 2) sc_Amountsub.nd rfl (by first | exact Or.inl rfl | exact Or.inr rfl) (pe_fn G_as_amount (hr.mono (by decide)) pass0 (pa_cons (pv 1) pa_nil)))
      (pss_cons (ps_set (i := 3) sc_Amountsub.nd rfl (by first | exact Or.inl rfl | exact Or.inr rfl) (pe_op op_sub (pe_op op_mulX (pe_fld (pv 0) rfl) (pe_fld (pv 2) rfl)) (pe_op op_mulX (pe_fld (pv 2) rfl) (pe_fld (pv 0) rfl))))
      (pss_one (ps_ret (pe_mk K_Amount2 (hr.mono (by decide)) pass0 (pa_cons (pv 3) (pa_cons (pe_op op_mulX (pe_fld (pv 0) rfl) (pe_fld (pv 2) rfl)) pa_nil))))))), ?_⟩
    refine ⟨_, rfl, v, t2, b2, rfl, hv, st2.lift, fun H1 r s1 hr1 => ?_⟩
    obtain ⟨dx, hp1⟩ := hp.same s1
    obtain ⟨dy, hr1⟩ := hr1
    refine ⟨_, rfl, p, C, dx, _, _, rfl, hp1, T.cl, T.nT, look_t _ _, _, rfl, r, C, dy, _, _, rfl, hr1, T.cl, T.nB, look_b _ _, _, _, rfl, rfl, st.mulx sb2, ?_⟩
    refine ⟨_, rfl, r, C, dy, _, _, rfl, hr1, T.cl, T.nT, look_t _ _, _, rfl, p, C, dx, _, _, rfl, hp1, T.cl, T.nB, look_b _ _, _, _, rfl, rfl, st2.mulx sb, _, _, rfl, rfl, ?_⟩
    refine ⟨_, rfl, _, rfl, p, C, dx, _, _, rfl, hp1, T.cl, T.nB, look_b _ _, _, rfl, r, C, dy, _, _, rfl, hr1, T.cl, T.nB, look_b _ _, _, _, rfl, rfl, sb.mulx sb2, ?_⟩
    exact mk_amt (C := C) (Int.mul_ne_zero (by omega) (by omega)) (big3 (st.mul sb2) (st2.mul sb)) (big1 (sb.mul sb2)) fun H' z s2 n ha => q H' z (s1.trans s2) (s1.free n) ha
theorem ok_mul (T : Tx K mg C) (K_Amount2 : Mkr P w K mg base CX0 2 "Amount" C [] (spInit C)) (G_as_amount : Fnc P w K mg base CX0 4 "as_amount" [] (spAs C)) (F : FD K "__mul__" "Amount.__mul__" s_Amountmul [] f fd) :
    FnG P w K mg base CX0 5 f fd ["self", "other"] (spBin C (fun t b t2 b2 => t * t2) (fun t b t2 b2 => b * b2) fun _ => True) := by
  refine ok0 F sc_Amountmul (fun vs H Q E h => ?_) (fun cdv A outer s H vs Q E hr h => ?_)
  · obtain ⟨p, v, t, b, t2, b2, rfl, _⟩ := h
    rfl
  · obtain ⟨p, v, t, b, t2, b2, rfl, hp, hv, ⟨st, sb, st2, sb2⟩, ⟨pb, pb2⟩, ok, q⟩ := h
    refine ⟨_, (pss_cons (ps_set (i := 2) sc_Amountmul.nd rfl (by first | exact Or.inl rfl | exact Or.inr rfl) (pe_fn G_as_amount (hr.mono (by decide)) pass0 (pa_cons (pv 1) pa_nil)))
      (pss_one (ps_ret (pe_mk K_Amount2 (hr.mono (by decide)) pass0 (pa_cons (pe_op op_mulX (pe_fld (pv 0) rfl) (pe_fld (pv 2) rfl)) (pa_cons (pe_op op_mulX (pe_fld (pv 0) rfl) (pe_fld (pv 2) rfl)) pa_nil)))))), ?_⟩
    refine ⟨_, rfl, v, t2, b2, rfl, hv, st2.lift, fun H1 r s1 hr1 => ?_⟩
    obtain ⟨dx, hp1⟩ := hp.same s1
    obtain ⟨dy, hr1⟩ := hr1
    refine ⟨_, rfl, p, C, dx, _, _, rfl, hp1, T.cl, T.nT, look_t _ _, _, rfl, r, C, dy, _, _, rfl, hr1, T.cl, T.nT, look_t _ _, _, _, rfl, rfl, st.mulx st2, ?_⟩
    refine ⟨_, rfl, p, C, dx, _, _, rfl, hp1, T.cl, T.nB, look_b _ _, _, rfl, r, C, dy, _, _, rfl, hr1, T.cl, T.nB, look_b _ _, _, _, rfl, rfl, sb.mulx sb2, ?_⟩
    exact mk_amt (C := C) (Int.mul_ne_zero (by omega) (by omega)) (big1 (st.mul st2)) (big1 (sb.mul sb2)) fun H' z s2 n ha => q H' z (s1.trans s2) (s1.free n) ha
theorem ok_over (T : Tx K mg C) (K_Amount2 : Mkr P w K mg base CX0 2 "Amount" C [] (spInit C)) (G_as_amount : Fnc P w K mg base CX0 4 "as_amount" [] (spAs C)) (F : FD K "over" "Amount.over" s_Amount_over [] f fd) :
    FnG P w K mg base CX0 5 f fd ["self", "divisor"] (spBin C (fun t b t2 b2 => t * b2) (fun t b t2 b2 => b * t2) fun t2 => t2 ≠ 0) := by
  refine ok0 F sc_Amount_over (fun vs H Q E h => ?_) (fun cdv A outer s H vs Q E hr h => ?_)
  · obtain ⟨p, v, t, b, t2, b2, rfl, _⟩ := h
    rfl
  · obtain ⟨p, v, t, b, t2, b2, rfl, hp, hv, ⟨st, sb, st2, sb2⟩, ⟨pb, pb2⟩, ok, q⟩ := h
    refine ⟨_, (pss_cons (ps_set (i := 2) sc_Amount_over.nd rfl (by first | exact Or.inl rfl | exact Or.inr rfl) (pe_fn G_as_amount (hr.mono (by decide)) pass0 (pa_cons (pv 1) pa_nil)))
      (pss_cons (ps_if (pt_cmpR op_eq (pe_fld (pv 2) rfl) pe_int (nomark _)) (pss_one ps_never) pss_nil)
      (pss_one (ps_ret (pe_mk K_Amount2 (hr.mono (by decide)) pass0 (pa_cons (pe_op op_mulX (pe_fld (pv 0) rfl) (pe_fld (pv 2) rfl)) (pa_cons (pe_op op_mulX (pe_fld (pv 0) rfl) (pe_fld (pv 2) rfl)) pa_nil))))))), ?_⟩
    refine ⟨_, rfl, v, t2, b2, rfl, hv, st2.lift, fun H1 r s1 hr1 => ?_⟩
    obtain ⟨dx, hp1⟩ := hp.same s1
    obtain ⟨dy, hr1⟩ := hr1
    refine ⟨_, rfl, r, C, dy, _, _, rfl, hr1, T.cl, T.nT, look_t _ _, rfl, _, rfl, iteN (dec_ne ok) ?_⟩
    refine ⟨_, rfl, p, C, dx, _, _, rfl, hp1, T.cl, T.nT, look_t _ _, _, rfl, r, C, dy, _, _, rfl, hr1, T.cl, T.nB, look_b _ _, _, _, rfl, rfl, st.mulx sb2, ?_⟩
    refine ⟨_, rfl, p, C, dx, _, _, rfl, hp1, T.cl, T.nB, look_b _ _, _, rfl, r, C, dy, _, _, rfl, hr1, T.cl, T.nT, look_t _ _, _, _, rfl, rfl, sb.mulx st2, ?_⟩
    exact mk_amt (C := C) (Int.mul_ne_zero (by omega) ok) (big1 (st.mul sb2)) (big1 (sb.mul st2)) fun H' z s2 n ha => q H' z (s1.trans s2) (s1.free n) ha

/-- -x -/
def spNeg (C : Addr) : Sp := fun vs H Q _ => ∃ p t b, vs = [.ref p] ∧ AmtAt C H p t b ∧ Sm t ∧ Sm b ∧ 0 < b ∧ ∀ H' r, Same H H' → H r = none → AmtAt C H' r (lt (-t) b) (lb (-t) b) → Q (.ref r) H'
theorem ok_neg (T : Tx K mg C) (K_Amount2 : Mkr P w K mg base CX0 2 "Amount" C [] (spInit C)) (F : FD K "__neg__" "Amount.__neg__" s_Amountneg [] f fd) : FnG P w K mg base CX0 4 f fd ["self"] (spNeg C) := by
  refine ok0 F sc_Amountneg (fun vs H Q E h => ?_) (fun cdv A outer s H vs Q E hr h => ?_)
  · obtain ⟨p, t, b, rfl, _⟩ := h
    rfl
  · obtain ⟨p, t, b, rfl, ⟨dx, hp⟩, st, sb, pb, q⟩ := h
    refine ⟨_, (pss_one (ps_ret (pe_mk K_Amount2 (hr.mono (by decide)) pass0 (pa_cons (pe_un un_neg (pe_fld (pv 0) rfl)) (pa_cons (pe_fld (pv 0) rfl) pa_nil))))), ?_⟩
    refine ⟨_, rfl, p, C, dx, _, _, rfl, hp, T.cl, T.nT, look_t _ _, _, rfl, _, rfl, p, C, dx, _, _, rfl, hp, T.cl, T.nB, look_b _ _, ?_⟩
    exact mk_amt (C := C) (by omega) (by rw [Int.natAbs_neg]; exact st.lift) sb.lift fun H' z s2 n ha => q H' z s2 n ha
/-- x.below(y) -/
def spBelow (C : Addr) : Sp := fun vs H Q _ => ∃ p v t b t2 b2, vs = [.ref p, v] ∧ AmtAt C H p t b ∧ AmtV C H v t2 b2 ∧ (Sm t ∧ Sm b ∧ Sm t2 ∧ Sm b2) ∧ ∀ H', Same H H' → Q (.bl (decide (t * b2 < t2 * b))) H'
theorem ok_below (T : Tx K mg C) (G_as_amount : Fnc P w K mg base CX0 4 "as_amount" [] (spAs C)) (F : FD K "below" "Amount.below" s_Amount_below [] f fd) : FnG P w K mg base CX0 5 f fd ["self", "other"] (spBelow C) := by
  refine ok0 F sc_Amount_below (fun vs H Q E h => ?_) (fun cdv A outer s H vs Q E hr h => ?_)
  · obtain ⟨p, v, t, b, t2, b2, rfl, _⟩ := h
    rfl
  · obtain ⟨p, v, t, b, t2, b2, rfl, hp, hv, ⟨st, sb, st2, sb2⟩, q⟩ := h
    refine ⟨_, (pss_cons (ps_set (i := 2) sc_Amount_below.nd rfl (by first | exact Or.inl rfl | exact Or.inr rfl) (pe_fn G_as_amount (hr.mono (by decide)) pass0 (pa_cons (pv 1) pa_nil)))
      (pss_one (ps_ret (pe_cmpR op_lt (pe_op op_mulX (pe_fld (pv 0) rfl) (pe_fld (pv 2) rfl)) (pe_op op_mulX (pe_fld (pv 2) rfl) (pe_fld (pv 0) rfl)) (nomark _))))), ?_⟩
    refine ⟨_, rfl, v, t2, b2, rfl, hv, st2.lift, fun H1 r s1 hr1 => ?_⟩
    obtain ⟨dx, hp1⟩ := hp.same s1
    obtain ⟨dy, hr1⟩ := hr1
    refine ⟨_, rfl, p, C, dx, _, _, rfl, hp1, T.cl, T.nT, look_t _ _, _, rfl, r, C, dy, _, _, rfl, hr1, T.cl, T.nB, look_b _ _, _, _, rfl, rfl, st.mulx sb2, ?_⟩
    exact ⟨_, rfl, r, C, dy, _, _, rfl, hr1, T.cl, T.nT, look_t _ _, _, rfl, p, C, dx, _, _, rfl, hp1, T.cl, T.nB, look_b _ _, _, _, rfl, rfl, st2.mulx sb, _, _, rfl, rfl, q H1 s1⟩
/-! ### what it tells -/
theorem decV (i j : Int) : decide (V.int i = V.int j) = decide (i = j) := by
  by_cases h : i = j
  · rw [dec_eq h, decide_eq_true h]
  · rw [dec_ne h, decide_eq_false h]
/-- x == y -/
def spEq (K : PySem.W.Frag) (C : Addr) : Sp := fun vs H Q _ => ∃ p v t b ty c, vs = [.ref p, v] ∧ AmtAt C H p t b ∧ TyX K H v ty ∧ PySem.W.kitOne K ty (.ref C) = some c ∧ (c = false → Q (.bl false) H) ∧
  (c = true → ∃ r t2 b2, v = .ref r ∧ AmtAt C H r t2 b2 ∧ Q (.bl (decide (t = t2) && decide (b = b2))) H)
theorem ok_eq (T : Tx K mg C) (F : FD K "__eq__" "Amount.__eq__" s_Amounteq [] f fd) : FnG P w K mg base CX0 1 f fd ["self", "other"] (spEq K C) := by
  refine ok0 F sc_Amounteq (fun vs H Q E h => ?_) (fun cdv A outer s H vs Q E hr h => ?_)
  · obtain ⟨p, v, t, b, ty, c, rfl, _⟩ := h
    rfl
  · obtain ⟨p, v, t, b, ty, c, rfl, ⟨dx, hp⟩, hty, hk, q0, q1⟩ := h
    refine ⟨_, (pss_one (ps_ret (pe_and (pe_callB call_isi (by rfl) T.n_isinstance (by decide +kernel) (pa_cons (pv 1) (pa_cons (pe_glob (v := .ref C) (by rfl) T.g_Amount rfl) pa_nil))) (pe_and (pe_cmpR op_eq (pe_fld (pv 0) rfl) (pe_fld (pv 1) rfl) (nomark _)) (pe_one (pe_cmpR op_eq (pe_fld (pv 0) rfl) (pe_fld (pv 1) rfl) (nomark _))))))), ?_⟩
    refine ⟨_, rfl, _, _, ty, _, _, rfl, .own C, hty, hk, _, rfl, iteB (fun e => ?_) (fun e => q0 e)⟩
    obtain ⟨r, t2, b2, rfl, ⟨dy, hr1⟩, q⟩ := q1 e
    refine ⟨_, rfl, p, C, dx, _, _, rfl, hp, T.cl, T.nT, look_t _ _, _, rfl, r, C, dy, _, _, rfl, hr1, T.cl, T.nT, look_t _ _, rfl, _, rfl, iteB (fun e => ?_) (fun e => ?_)⟩
    · refine ⟨_, rfl, p, C, dx, _, _, rfl, hp, T.cl, T.nB, look_b _ _, _, rfl, r, C, dy, _, _, rfl, hr1, T.cl, T.nB, look_b _ _, rfl, ?_⟩
      rw [decV] at e ⊢
      rw [e] at q
      exact q
    · rw [decV] at e
      rw [e] at q
      exact q
/-- a number that can be written -/
def Md (n : Int) : Prop := n.natAbs < 2 ^ 1900
theorem Md.log {n : Int} (h : Md n) : n.natAbs.log2 < 1920 := Nat.lt_of_lt_of_le (PySem.Flt.log2_lt_of (by decide) h) (by decide)
theorem Sm.md {n : Int} (h : Sm n) : Md n := Nat.lt_of_lt_of_le h (Nat.pow_le_pow_right (by decide) (by decide))
def txt (n : Int) : Str := toString n
theorem Md.len {n : Int} (h : Md n) : (txt n).length ≤ 1921 := by
  unfold txt
  rw [PySem.ofString_length]
  exact int_text_length_le (k := 1920) (by decide) h.log
def shown (t b : Int) : Str := if b = 1 then txt t else txt t ++ "/" ++ txt b
def repS (t b : Int) : Str := "Amount(" ++ txt t ++ ", " ++ txt b ++ ")"
def spShow (C : Addr) (g : Int → Int → Str) : Sp := fun vs H Q _ => ∃ p t b, vs = [.ref p] ∧ AmtAt C H p t b ∧ Md t ∧ Md b ∧ Q (.str (g t b)) H
theorem small {n : Nat} (h : n ≤ 100000) : n ≤ sizeLine := Nat.le_trans h (by rw [sizeLine_eq]; decide)
theorem ok_str (T : Tx K mg C) (F : FD K "__str__" "Amount.__str__" s_Amountstr [] f fd) : FnG P w K mg base CX0 1 f fd ["self"] (spShow C shown) := by
  refine ok0 F sc_Amountstr (fun vs H Q E h => ?_) (fun cdv A outer s H vs Q E hr h => ?_)
  · obtain ⟨p, t, b, rfl, _⟩ := h
    rfl
  · obtain ⟨p, t, b, rfl, ⟨dx, hp⟩, mt, mb, q⟩ := h
    refine ⟨_, (pss_cons (ps_if (pt_cmpR op_eq (pe_fld (pv 0) rfl) pe_int (nomark _)) (pss_one (ps_ret (pe_callTy call_str_int (by rfl) T.n_str (by decide +kernel) (pa_cons (pe_fld (pv 0) rfl) pa_nil)))) pss_nil)
      (pss_one (ps_ret (pe_joined (.cons (pe_fmt (pe_fld (pv 0) rfl)) (.cons pe_str (.cons (pe_fmt (pe_fld (pv 0) rfl)) .nil))))))), ?_⟩
    refine ⟨_, rfl, p, C, dx, _, _, rfl, hp, T.cl, T.nB, look_b _ _, rfl, _, rfl, iteB (fun e => ?_) (fun e => ?_)⟩
    · have e' : b = 1 := V.int.inj (of_decide_eq_true e)
      unfold shown at q
      rw [if_pos e'] at q
      exact ⟨_, rfl, p, C, dx, _, _, rfl, hp, T.cl, T.nT, look_t _ _, _, rfl, mt.log, q⟩
    · have e' : ¬ b = 1 := fun z => of_decide_eq_false e (by rw [z])
      unfold shown at q
      rw [if_neg e'] at q
      have l1 := mt.len
      have l2 := mb.len
      refine ⟨_, rfl, p, C, dx, _, _, rfl, hp, T.cl, T.nT, look_t _ _, .inr ⟨_, rfl, mt.log, _, rfl, ?_, ?_⟩⟩
      · rw [Str.empty_append]
        exact small (by show (txt t).length ≤ _; omega)
      · refine ⟨_, rfl, ?_, _, rfl, p, C, dx, _, _, rfl, hp, T.cl, T.nB, look_b _ _, .inr ⟨_, rfl, mb.log, _, rfl, ?_, ?_⟩⟩
        · rw [Str.empty_append, strLen_append]
          exact small (by show (txt t).length + 1 ≤ _; omega)
        · rw [Str.empty_append, strLen_append, strLen_append]
          exact small (by show (txt t).length + 1 + (txt b).length ≤ _; omega)
        · rw [Str.empty_append]
          exact q
theorem ok_repr (T : Tx K mg C) (F : FD K "__repr__" "Amount.__repr__" s_Amountrepr [] f fd) : FnG P w K mg base CX0 1 f fd ["self"] (spShow C repS) := by
  refine ok0 F sc_Amountrepr (fun vs H Q E h => ?_) (fun cdv A outer s H vs Q E hr h => ?_)
  · obtain ⟨p, t, b, rfl, _⟩ := h
    rfl
  · obtain ⟨p, t, b, rfl, ⟨dx, hp⟩, mt, mb, q⟩ := h
    refine ⟨_, (pss_one (ps_ret (pe_joined (.cons pe_str (.cons (pe_fmt (pe_fld (pv 0) rfl)) (.cons pe_str (.cons (pe_fmt (pe_fld (pv 0) rfl)) (.cons pe_str .nil)))))))), ?_⟩
    have l1 := mt.len
    have l2 := mb.len
    have e1 : Str.empty ++ ("Amount(" : Str) = "Amount(" := Str.empty_append _
    refine ⟨_, rfl, by rw [e1]; exact small (by decide), _, rfl, p, C, dx, _, _, rfl, hp, T.cl, T.nT, look_t _ _, .inr ⟨_, rfl, mt.log, _, rfl, ?_, ?_⟩⟩
    · rw [e1, strLen_append]
      exact small (by show 7 + (txt t).length ≤ _; omega)
    · refine ⟨_, rfl, ?_, _, rfl, p, C, dx, _, _, rfl, hp, T.cl, T.nB, look_b _ _, .inr ⟨_, rfl, mb.log, _, rfl, ?_, ?_⟩⟩
      · rw [e1, strLen_append, strLen_append]
        exact small (by show 7 + (txt t).length + 2 ≤ _; omega)
      · rw [e1, strLen_append, strLen_append, strLen_append]
        exact small (by show 7 + (txt t).length + 2 + (txt b).length ≤ _; omega)
      · refine ⟨_, rfl, ?_, ?_⟩
        · rw [e1, strLen_append, strLen_append, strLen_append, strLen_append]
          exact small (by show 7 + (txt t).length + 2 + (txt b).length + 1 ≤ _; omega)
        · rw [e1]
          exact q
/-- a property -/
def sgn (t : Int) : Int := (if decide (0 < t) = true then 1 else 0) - (if decide (t < 0) = true then 1 else 0)
def spGet (C : Addr) (g : Int → Int → Int) : Sp := fun vs H Q _ => ∃ p t b, vs = [.ref p] ∧ AmtAt C H p t b ∧ Q (.int (g t b)) H
theorem ok_top (T : Tx K mg C) (F : FD K "top" "Amount.top" s_Amount_top [] f fd) : FnG P w K mg base CX0 1 f fd ["self"] (spGet C fun t _ => t) := by
  refine ok0 F sc_Amount_top (fun vs H Q E h => ?_) (fun cdv A outer s H vs Q E hr h => ?_)
  · obtain ⟨p, t, b, rfl, _⟩ := h
    rfl
  · obtain ⟨p, t, b, rfl, ⟨dx, hp⟩, q⟩ := h
    exact ⟨_, (pss_one (ps_ret (pe_fld (pv 0) rfl))), _, rfl, p, C, dx, _, _, rfl, hp, T.cl, T.nT, look_t _ _, q⟩
theorem ok_bottom (T : Tx K mg C) (F : FD K "bottom" "Amount.bottom" s_Amount_bottom [] f fd) : FnG P w K mg base CX0 1 f fd ["self"] (spGet C fun _ b => b) := by
  refine ok0 F sc_Amount_bottom (fun vs H Q E h => ?_) (fun cdv A outer s H vs Q E hr h => ?_)
  · obtain ⟨p, t, b, rfl, _⟩ := h
    rfl
  · obtain ⟨p, t, b, rfl, ⟨dx, hp⟩, q⟩ := h
    exact ⟨_, (pss_one (ps_ret (pe_fld (pv 0) rfl))), _, rfl, p, C, dx, _, _, rfl, hp, T.cl, T.nB, look_b _ _, q⟩
theorem ok_sign (T : Tx K mg C) (F : FD K "sign" "Amount.sign" s_Amount_sign [] f fd) : FnG P w K mg base CX0 1 f fd ["self"] (spGet C fun t _ => sgn t) := by
  refine ok0 F sc_Amount_sign (fun vs H Q E h => ?_) (fun cdv A outer s H vs Q E hr h => ?_)
  · obtain ⟨p, t, b, rfl, _⟩ := h
    rfl
  · obtain ⟨p, t, b, rfl, ⟨dx, hp⟩, q⟩ := h
    exact ⟨_, (pss_one (ps_ret (pe_op op_sub (pe_callTy call_int1 (by rfl) T.n_int (by decide +kernel) (pa_cons (pe_cmpR op_gt (pe_fld (pv 0) rfl) pe_int (nomark _)) pa_nil)) (pe_callTy call_int1 (by rfl) T.n_int (by decide +kernel) (pa_cons (pe_cmpR op_lt (pe_fld (pv 0) rfl) pe_int (nomark _)) pa_nil))))), _, rfl, p, C, dx, _, _, rfl, hp, T.cl, T.nT, look_t _ _, _, _, rfl, rfl, .inr ⟨_, rfl, _, rfl, p, C, dx, _, _, rfl, hp, T.cl, T.nT, look_t _ _, _, _, rfl, rfl, .inr ⟨_, rfl, _, _, rfl, rfl, q⟩⟩⟩
end
end K11

set_option Elab.async false
set_option linter.all false
set_option maxRecDepth 100000
set_option maxHeartbeats 4000000
/-! L11: the law's small helpers. -/
namespace K11
open PySem PySem.Spec PyProof.Rows L2 LL
abbrev s_l_pot : Stmt := top 11
abbrev n_l_pot : List Str := ["_law_script", "_law_k", "_law_cell"]
theorem sc_l_pot : FnScope n_l_pot ["_law_script", "_law_k"] (defScope s_l_pot) := ⟨rfl, rfl, rfl, by decide +kernel, rfl, by decide +kernel, by decide +kernel⟩
abbrev s_l_digit : Stmt := top 12
abbrev n_l_digit : List Str := ["_law_pot_here", "_law_many", "_law_digit_here"]
theorem sc_l_digit : FnScope n_l_digit ["_law_pot_here", "_law_many"] (defScope s_l_digit) := ⟨rfl, rfl, rfl, by decide +kernel, rfl, by decide +kernel, by decide +kernel⟩
abbrev s_l_pick : Stmt := top 13
abbrev n_l_pick : List Str := ["_law_pot_here", "_law_some"]
theorem sc_l_pick : FnScope n_l_pick ["_law_pot_here", "_law_some"] (defScope s_l_pick) := ⟨rfl, rfl, rfl, by decide +kernel, rfl, by decide +kernel, by decide +kernel⟩
abbrev s_l_whole : Stmt := top 14
abbrev n_l_whole : List Str := ["_law_pot_here", "_law_kind", "_law_number", "_law_turn"]
theorem sc_l_whole : FnScope n_l_whole ["_law_pot_here"] (defScope s_l_whole) := ⟨rfl, rfl, rfl, by decide +kernel, rfl, by decide +kernel, by decide +kernel⟩
abbrev s_l_pair : Stmt := top 15
abbrev n_l_pair : List Str := ["_law_pot_here", "_law_low"]
theorem sc_l_pair : FnScope n_l_pair ["_law_pot_here"] (defScope s_l_pair) := ⟨rfl, rfl, rfl, by decide +kernel, rfl, by decide +kernel, by decide +kernel⟩
abbrev s_l_lowest : Stmt := top 16
abbrev n_l_lowest : List Str := ["_law_pair_here", "_law_one", "_law_rest"]
theorem sc_l_lowest : FnScope n_l_lowest ["_law_pair_here"] (defScope s_l_lowest) := ⟨rfl, rfl, rfl, by decide +kernel, rfl, by decide +kernel, by decide +kernel⟩
section
variable {P : Program} {w : World} {K : PySem.W.Frag} {mg : Str → Option Value} {base : Heap} {C : Addr} {f : Addr} {fd : FuncData}
/-- a pot: two numbers that draws are made of -/
def Pot (x y : Int) : Prop := 0 ≤ x ∧ 0 ≤ y ∧ y < 2147483648
def PotAt (H : Hp) (p : Addr) : Prop := ∃ x y, H p = some (.lst [.int x, .int y]) ∧ Pot x y
/-! ### _law_pot -/
def spPot (K : PySem.W.Frag) : Sp := fun vs H Q _ => ∃ (a : Addr) (ns : List Int) (k : Nat), vs = [.ref a, .int k] ∧ SqL K H a (ns.map V.int) ∧ ns.length ≤ 63 ∧ k < 100 ∧ ∀ H' p, Same H H' → H p = none → PotAt H' p → Q (.ref p) H'
theorem at_map {ns : List Int} {k : Nat} (h : k < ns.length) : atI (ns.map V.int) (k : Int) = some (.int ns[k]) := atI_nat (by rw [List.getElem?_map, List.getElem?_eq_getElem h]; rfl)
theorem ok_l_pot (T : Tx K mg C) (F : FD K "_law_pot" "_law_pot" s_l_pot [] f fd) : FnG P w K mg base CX0 1 f fd ["_law_script", "_law_k"] (spPot K) := by
  refine ok0 F sc_l_pot (fun vs H Q E h => ?_) (fun cdv A outer s H vs Q E hr h => ?_)
  · obtain ⟨a, ns, k, rfl, _⟩ := h
    rfl
  · obtain ⟨a, ns, k, rfl, hS, hl, hk, q⟩ := h
    refine ⟨_, (pss_cons (ps_set (i := 2) sc_l_pot.nd rfl (by first | exact Or.inl rfl | exact Or.inr rfl) (pe_ifExp (pt_cmpR op_lt (pv 1) (pe_callB call_len_seq (by rfl) T.n_len (by decide +kernel) (pa_cons (pv 0) pa_nil)) (nomark _)) (pe_callB call_abs (by rfl) T.n_abs (by decide +kernel) (pa_cons (pe_ix ix_list (pv 0) (pv 1) (fun _ _ => rfl)) pa_nil)) pe_int))
      (pss_one (ps_ret (pe_lst (pa_cons (pe_callB (call_max2 rfl) (by rfl) T.n_max (by decide +kernel) (pa_cons pe_int (pa_cons (pe_op op_sub (pv 2) (pe_op op_pow pe_int pe_int)) pa_nil))) (pa_cons (pe_op op_mod (pe_callTy call_int1 (by rfl) T.n_int (by decide +kernel) (pa_cons (pe_op op_add (pe_op op_add (pe_op op_mulX (pe_op op_mod (pe_callTy call_int1 (by rfl) T.n_int (by decide +kernel) (pa_cons (pv 2) pa_nil)) pe_int) pe_int) (pe_op op_mulX pe_int (pv 1))) pe_int) pa_nil)) pe_int) pa_nil)))))), ?_⟩
    refine ⟨_, rfl, _, rfl, a, _, rfl, .inl hS, _, _, rfl, rfl, _, rfl, ?_⟩
    -- behind the cell
    have fin : ∀ c : Int, 0 ≤ c → (tRet (tLst (tCons (tCB (fun xs H Q => ∃ i j, xs = [V.int i, V.int j] ∧ Q (.int (if j > i then j else i)) H) (tCons (tC (.int 0)) (tCons (tOp (rI0 fun i j => .int (i - j)) (tVar 2) (tOp (rI CPow fun i j => .int (i ^ j.toNat)) (tC (.int 10)) (tC (.int 18)))) tNil)))
        (tCons (tOp (rI (fun _ j => 0 < j) fun i j => .int (i % j)) (tCB (fun xs H Q => (∃ i, xs = [V.int i] ∧ Q (.int i) H) ∨ ∃ k, xs = [V.bl k] ∧ Q (.int (if k = true then 1 else 0)) H) (tCons (tOp (rI0 fun i j => .int (i + j)) (tOp (rI0 fun i j => .int (i + j)) (tOp (rI CMulX fun i j => .int (i * j)) (tOp (rI (fun _ j => 0 < j) fun i j => .int (i % j)) (tCB (fun xs H Q => (∃ i, xs = [V.int i] ∧ Q (.int i) H) ∨ ∃ k, xs = [V.bl k] ∧ Q (.int (if k = true then 1 else 0)) H) (tCons (tVar 2) tNil)) (tC (.int 2147483587))) (tC (.int 48271))) (tOp (rI CMulX fun i j => .int (i * j)) (tC (.int 60013)) (tVar 1))) (tC (.int 53))) tNil)) (tC (.int 2147483647))) tNil))))
        { nx := fun _ H' => Q .non H', rt := Q } [some (.ref a), some (.int k), some (.int c)] H := by
      intro c hc
      refine ⟨_, rfl, _, _, rfl, rfl, ⟨by decide, by decide, by decide⟩, _, _, rfl, rfl, _, _, rfl, ?_⟩
      refine ⟨_, rfl, .inl ⟨_, rfl, _, _, rfl, rfl, (show (0 : Int) < 2147483587 by decide), _, _, rfl, rfl, ?_, _, rfl, _, _, rfl, rfl, ?_, _, _, rfl, rfl, _, _, rfl, rfl, .inl ⟨_, rfl, _, _, rfl, rfl, (show (0 : Int) < 2147483647 by decide), ?_⟩⟩⟩
      · exact mulx_ok (a := 32) (b := 16) (by omega) (by decide) (by decide)
      · exact mulx_ok (a := 16) (b := 7) (by decide) (by omega) (by decide)
      · refine ⟨(by show 2 ≤ sizeLine; decide), fun p hp => q _ p (same_upd hp) hp ⟨_, _, upd_same, ?_, by omega, by omega⟩⟩
        split <;> omega
    refine iteB (fun e => ?_) (fun e => ?_)
    · have hkl : k < ns.length := by
        have := of_decide_eq_true e
        rw [List.length_map] at this
        omega
      refine ⟨_, rfl, _, rfl, a, _, _, _, rfl, rfl, hS, at_map hkl, _, rfl, ?_⟩
      exact fin _ (by split <;> omega)
    · exact fin 0 (by decide)
/-! ### _law_digit -/
def spDigit : Sp := fun vs H Q _ => ∃ (p : Addr) (m : Int), vs = [.ref p, .int m] ∧ PotAt H p ∧ 0 < m ∧ m < 1000000 ∧ ∀ H' d, But p H H' → PotAt H' p → 0 ≤ d → d < m → Q (.int d) H'
theorem ok_l_digit (T : Tx K mg C) (F : FD K "_law_digit" "_law_digit" s_l_digit [] f fd) : FnG P w K mg base CX0 1 f fd ["_law_pot_here", "_law_many"] spDigit := by
  refine ok0 F sc_l_digit (fun vs H Q E h => ?_) (fun cdv A outer s H vs Q E hr h => ?_)
  · obtain ⟨p, m, rfl, _⟩ := h
    rfl
  · obtain ⟨p, m, rfl, ⟨x, y, hp, hx, hy, hy2⟩, m0, m1, q⟩ := h
    refine ⟨_, (pss_cons (ps_if (pt_cmpR op_gt (pe_ix ix_list (pv 0) pe_int (fun _ _ => rfl)) pe_int (nomark _)) (pss_cons (ps_asg (pe_callB call_divmodW (by rfl) T.n_divmod (by decide +kernel) (pa_cons (pe_ix ix_list (pv 0) pe_int (fun _ _ => rfl)) (pa_cons (pv 1) pa_nil))) (pg_tup rfl (pgs_cons (pg_sub (pv 0) pe_int set_list) (pgs_cons (pg_name (i := 2) sc_l_digit.nd rfl (by first | exact Or.inl rfl | exact Or.inr rfl)) pgs_nil))))
      (pss_one (ps_ret (pv 2)))) pss_nil)
      (pss_cons (ps_asg (pe_op op_mod (pe_callTy call_int1 (by rfl) T.n_int (by decide +kernel) (pa_cons (pe_op op_add (pe_op op_mulX (pe_ix ix_list (pv 0) pe_int (fun _ _ => rfl)) pe_int) pe_int) pa_nil)) pe_int) (pg_sub (pv 0) pe_int set_list))
      (pss_one (ps_ret (pe_op op_mod (pe_callTy call_int1 (by rfl) T.n_int (by decide +kernel) (pa_cons (pe_op op_fdivZ (pe_op op_mod (pe_callTy call_int1 (by rfl) T.n_int (by decide +kernel) (pa_cons (pe_op op_mulX (pe_ix ix_list (pv 0) pe_int (fun _ _ => rfl)) (pe_ix ix_list (pv 0) pe_int (fun _ _ => rfl))) pa_nil)) pe_int) pe_int) pa_nil)) (pv 1)))))), ?_⟩
    refine ⟨_, rfl, p, _, _, _, rfl, rfl, SqL.of hp, atI_nat (j := 0) rfl, _, _, rfl, rfl, _, rfl, iteB (fun e => ?_) (fun e => ?_)⟩
    · have x0 : 0 < x := of_decide_eq_true e
      refine ⟨_, rfl, p, _, _, _, rfl, rfl, SqL.of hp, atI_nat (j := 0) rfl, _, rfl, _, _, rfl, ⟨m0, PyProof.noPylong_small (by omega)⟩, fun t ht => ?_⟩
      have npt : p ≠ t := ne_of_none hp ht
      refine ⟨t, _, rfl, SqT.of upd_same, rfl, _, _, rfl, _, rfl, p, _, _, 0, rfl, rfl, (by rw [upd_ne npt]; exact hp), rfl, ?_⟩
      refine ⟨_, _, rfl, rfl, _, rfl, ?_⟩
      refine q _ _ (fun b o e n => ?_) ⟨_, _, upd_same, Int.ediv_nonneg hx (by omega), hy, hy2⟩ (Int.emod_nonneg _ (by omega)) (Int.emod_lt_of_pos _ m0)
      rw [upd_ne n, upd_ne (ne_of_none e ht)]
      exact e
    · have z0 : 0 ≤ (y * 39373 + 12227) % 2147483629 := Int.emod_nonneg _ (by decide)
      have z1 : (y * 39373 + 12227) % 2147483629 < 2147483629 := Int.emod_lt_of_pos _ (by decide)
      refine ⟨_, rfl, p, _, _, _, rfl, rfl, SqL.of hp, atI_nat (j := 1) rfl, _, _, rfl, rfl, mulx_ok (a := 32) (b := 16) (by omega) (by decide) (by decide), _, _, rfl, rfl, .inl ⟨_, rfl, _, _, rfl, rfl, (show (0 : Int) < 2147483629 by decide), ?_⟩⟩
      refine ⟨_, rfl, p, _, _, 1, rfl, rfl, hp, rfl, ?_⟩
      refine ⟨_, rfl, p, _, _, _, rfl, rfl, SqL.of upd_same, atI_nat (j := 1) rfl, _, rfl, p, _, _, _, rfl, rfl, SqL.of upd_same, atI_nat (j := 1) rfl, _, _, rfl, rfl, mulx_ok (a := 32) (b := 32) (by omega) (by omega) (by decide), .inl ⟨_, rfl, _, _, rfl, rfl, (show (0 : Int) < 2147483563 by decide), _, _, rfl, rfl, ⟨by decide, by decide⟩, .inl ⟨_, rfl, _, rfl, _, _, rfl, rfl, m0, ?_⟩⟩⟩
      exact q _ _ but_upd ⟨_, _, upd_same, hx, z0, by omega⟩ (Int.emod_nonneg _ (by omega)) (Int.emod_lt_of_pos _ m0)
/-! ### _law_pick -/
def spPick : Sp := fun vs H Q _ => ∃ (p l : Addr) (xs : List V), vs = [.ref p, .ref l] ∧ PotAt H p ∧ H l = some (.lst xs) ∧ xs ≠ [] ∧ xs.length ≤ 1000 ∧ l ≠ p ∧ ∀ H' v, But p H H' → PotAt H' p → v ∈ xs → Q v H'
theorem ok_l_pick (T : Tx K mg C) (G_l_digit : Fnc P w K mg base CX0 1 "_law_digit" [] spDigit) (F : FD K "_law_pick" "_law_pick" s_l_pick [] f fd) : FnG P w K mg base CX0 2 f fd ["_law_pot_here", "_law_some"] spPick := by
  refine ok0 F sc_l_pick (fun vs H Q E h => ?_) (fun cdv A outer s H vs Q E hr h => ?_)
  · obtain ⟨p, l, xs, rfl, _⟩ := h
    rfl
  · obtain ⟨p, l, xs, rfl, hp, hl, hn, hz, hlp, q⟩ := h
    have h0 : 0 < xs.length := List.length_pos_iff.mpr hn
    refine ⟨_, (pss_one (ps_ret (pe_ix ix_list (pv 1) (pe_fn G_l_digit (hr.mono (by decide)) pass0 (pa_cons (pv 0) (pa_cons (pe_callB call_len_seq (by rfl) T.n_len (by decide +kernel) (pa_cons (pv 1) pa_nil)) pa_nil))) (fun _ _ => rfl)))), ?_⟩
    refine ⟨_, rfl, _, rfl, _, rfl, l, _, rfl, .inl (SqL.of hl), p, xs.length, rfl, hp, by omega, by omega, fun H' d b hp' d0 d1 => ?_⟩
    obtain ⟨n, rfl⟩ := Int.eq_ofNat_of_zero_le d0
    have hn' : n < xs.length := by omega
    exact ⟨l, xs, _, xs[n], rfl, rfl, SqL.of (b l _ hl hlp), atI_nat (List.getElem?_eq_getElem hn'), q H' _ b hp' (List.getElem_mem hn')⟩
/-! ### _law_whole -/
theorem pow5 {i : Nat} (h : i ≤ 5) : (100003 : Int) ^ i ≤ 100003 ^ 5 := by
  have : i = 0 ∨ i = 1 ∨ i = 2 ∨ i = 3 ∨ i = 4 ∨ i = 5 := by omega
  rcases this with rfl | rfl | rfl | rfl | rfl | rfl <;> decide
def spWhole : Sp := fun vs H Q _ => ∃ p : Addr, vs = [.ref p] ∧ PotAt H p ∧ ∀ H' (n : Int), But p H H' → PotAt H' p → n.natAbs < 2 ^ 90 → Q (.int n) H'
theorem ok_l_whole (T : Tx K mg C) (G_l_digit : Fnc P w K mg base CX0 1 "_law_digit" [] spDigit) (G_l_pick : Fnc P w K mg base CX0 2 "_law_pick" [] spPick) (F : FD K "_law_whole" "_law_whole" s_l_whole [] f fd) : FnG P w K mg base CX0 3 f fd ["_law_pot_here"] spWhole := by
  refine ok0 F sc_l_whole (fun vs H Q E h => ?_) (fun cdv A outer s H vs Q E hr h => ?_)
  · obtain ⟨p, rfl, _⟩ := h
    rfl
  · obtain ⟨p, rfl, hp, q⟩ := h
    refine ⟨_, (pss_cons (ps_set (i := 1) sc_l_whole.nd rfl (by first | exact Or.inl rfl | exact Or.inr rfl) (pe_fn G_l_digit (hr.mono (by decide)) pass0 (pa_cons (pv 0) (pa_cons pe_int pa_nil))))
      (pss_cons (ps_if (pt_cmpR op_lt (pv 1) pe_int (nomark _)) (pss_one (ps_ret (pe_op op_sub (pe_fn G_l_digit (hr.mono (by decide)) pass0 (pa_cons (pv 0) (pa_cons pe_int pa_nil))) pe_int))) pss_nil)
      (pss_cons (ps_if (pt_cmpR op_eq (pv 1) pe_int (nomark _)) (pss_one (ps_ret (pe_op op_sub (pe_fn G_l_digit (hr.mono (by decide)) pass0 (pa_cons (pv 0) (pa_cons pe_int pa_nil))) pe_int))) pss_nil)
      (pss_cons (ps_set (i := 2) sc_l_whole.nd rfl (by first | exact Or.inl rfl | exact Or.inr rfl) pe_int)
      (pss_cons (ps_for PassesOwn.never rfl (pi_range1 (by rfl) T.n_range (pa_cons (pe_op op_add pe_int (pe_fn G_l_digit (hr.mono (by decide)) pass0 (pa_cons (pv 0) (pa_cons pe_int pa_nil)))) pa_nil)) (pg_name (i := 3) sc_l_whole.nd rfl (by first | exact Or.inl rfl | exact Or.inr rfl)) (pss_one (ps_set (i := 2) sc_l_whole.nd rfl (by first | exact Or.inl rfl | exact Or.inr rfl) (pe_op op_add (pe_op op_mulX (pv 2) pe_int) (pe_fn G_l_digit (hr.mono (by decide)) pass0 (pa_cons (pv 0) (pa_cons pe_int pa_nil)))))))
      (pss_one (ps_ret (pe_op op_mulX (pv 2) (pe_fn G_l_pick (hr.mono (by decide)) pass0 (pa_cons (pv 0) (pa_cons (pe_lst (pa_cons pe_int (pa_cons (pe_un un_neg pe_int) pa_nil))) pa_nil))))))))))), ?_⟩
    refine ⟨_, rfl, p, 4, rfl, hp, by decide, by decide, fun H1 d b1 hp1 _ _ => ?_⟩
    refine ⟨_, rfl, _, _, rfl, rfl, _, rfl, iteB (fun _ => ?_) (fun _ => ?_)⟩
    · exact ⟨_, rfl, p, 19, rfl, hp1, by decide, by decide, fun H2 d b2 hp2 e0 e1 => ⟨_, _, rfl, rfl, q _ _ (b1.trans b2) hp2 (by omega)⟩⟩
    refine ⟨_, rfl, rfl, _, rfl, iteB (fun _ => ?_) (fun _ => ?_)⟩
    · exact ⟨_, rfl, p, 1999, rfl, hp1, by decide, by decide, fun H2 d b2 hp2 e0 e1 => ⟨_, _, rfl, rfl, q _ _ (b1.trans b2) hp2 (by omega)⟩⟩
    refine ⟨_, rfl, p, 5, rfl, hp1, by decide, by decide, fun H2 d2 b2 hp2 d0 d1 => ⟨_, _, rfl, rfl, _, rfl, by omega, by omega, ?_⟩⟩
    refine for_range (lo := 0) (n := (1 + d2).toNat) (fun i σ H' => But p H H' ∧ PotAt H' p ∧ ∃ (n : Int) (v : Option V), σ = [some (.ref p), some (.int d), some (.int n), v] ∧ 0 ≤ n ∧ n < 100003 ^ i) ⟨b1.trans b2, hp2, 0, none, rfl, by decide, by decide⟩ ?_ ?_
    · rintro i σ H3 hi ⟨b3, hp3, n, v, rfl, n0, n1⟩
      have hb : (100003 : Int) ^ i ≤ 100003 ^ 5 := pow5 (by omega)
      have hc : n < 2 ^ 90 := Int.lt_trans (Int.lt_of_lt_of_le n1 hb) (by decide)
      refine ⟨_, rfl, _, _, rfl, rfl, mulx_ok (a := 90) (b := 17) (by omega) (by decide) (by decide), _, rfl, p, 100003, rfl, hp3, by decide, by decide, fun H4 d4 b4 hp4 e0 e1 => ⟨_, _, rfl, rfl, b3.trans b4, hp4, _, _, rfl, by omega, ?_⟩⟩
      rw [Int.pow_succ]
      omega
    · rintro σ H3 ⟨b3, hp3, n, v, rfl, n0, n1⟩
      have hb : (100003 : Int) ^ (1 + d2).toNat ≤ 100003 ^ 5 := pow5 (by omega)
      have hc : n < 2 ^ 89 := Int.lt_trans (Int.lt_of_lt_of_le n1 hb) (by decide)
      refine ⟨_, rfl, _, rfl, _, rfl, (by show 2 ≤ sizeLine; decide), fun l hl => ?_⟩
      have nlp : l ≠ p := fun z => by
        obtain ⟨x, y, e, _⟩ := hp3
        rw [z, e] at hl
        cases hl
      obtain ⟨x, y, hpx, px⟩ := hp3
      refine ⟨p, l, _, rfl, ⟨x, y, by rw [upd_ne nlp.symm]; exact hpx, px⟩, upd_same, by simp, by decide, nlp, fun H4 v b4 hp4 hv => ?_⟩
      have b5 : But p H H4 := b3.trans ((But.of (same_upd hl)).trans b4)
      have hv' : v = .int 1 ∨ v = .int (-1) := by
        rcases List.mem_cons.mp hv with e | e
        · exact .inl e
        · rcases List.mem_cons.mp e with e | e
          · exact .inr e
          · cases e
      rcases hv' with rfl | rfl
      · exact ⟨_, _, rfl, rfl, mulx_ok (a := 90) (b := 1) (by omega) (by decide) (by decide), q _ _ b5 hp4 (by omega)⟩
      · exact ⟨_, _, rfl, rfl, mulx_ok (a := 90) (b := 1) (by omega) (by decide) (by decide), q _ _ b5 hp4 (by omega)⟩
/-! ### _law_pair, _law_lowest -/
def spPair : Sp := fun vs H Q _ => ∃ p : Addr, vs = [.ref p] ∧ PotAt H p ∧ ∀ H' r (x y : Int), But p H H' → PotAt H' p → H r = none → r ≠ p → H' r = some (.tup [.int x, .int y]) → y ≠ 0 → x.natAbs < 2 ^ 90 → y.natAbs < 2 ^ 90 → Q (.ref r) H'
theorem PotAt.ne {H : Hp} {p r : Addr} (h : PotAt H p) (n : H r = none) : r ≠ p := fun z => by
  obtain ⟨x, y, e, _⟩ := h
  rw [z, e] at n
  cases n
theorem PotAt.upd {H : Hp} {p r : Addr} {o : HO} (h : PotAt H p) (n : H r = none) : PotAt (L2.upd H r o) p := by
  obtain ⟨x, y, e, q⟩ := id h
  exact ⟨x, y, by rw [upd_ne (h.ne n).symm]; exact e, q⟩
theorem ok_l_pair (T : Tx K mg C) (G_l_digit : Fnc P w K mg base CX0 1 "_law_digit" [] spDigit) (G_l_whole : Fnc P w K mg base CX0 3 "_law_whole" [] spWhole) (F : FD K "_law_pair" "_law_pair" s_l_pair [] f fd) : FnG P w K mg base CX0 4 f fd ["_law_pot_here"] spPair := by
  refine ok0 F sc_l_pair (fun vs H Q E h => ?_) (fun cdv A outer s H vs Q E hr h => ?_)
  · obtain ⟨p, rfl, _⟩ := h
    rfl
  · obtain ⟨p, rfl, hp, q⟩ := h
    refine ⟨_, (pss_cons (ps_set (i := 1) sc_l_pair.nd rfl (by first | exact Or.inl rfl | exact Or.inr rfl) (pe_fn G_l_whole (hr.mono (by decide)) pass0 (pa_cons (pv 0) pa_nil)))
      (pss_one (ps_ret (pe_tup (pa_cons (pe_fn G_l_whole (hr.mono (by decide)) pass0 (pa_cons (pv 0) pa_nil)) (pa_cons (pe_ifExp (pt_cmpR op_ne (pv 1) pe_int (nomark _)) (pv 1) (pe_op op_add pe_int (pe_fn G_l_digit (hr.mono (by decide)) pass0 (pa_cons (pv 0) (pa_cons pe_int pa_nil))))) pa_nil)))))), ?_⟩
    refine ⟨_, rfl, p, rfl, hp, fun H1 y b1 hp1 hy => ?_⟩
    refine ⟨_, rfl, p, rfl, hp1, fun H2 x b2 hp2 hx => ?_⟩
    have b12 := b1.trans b2
    refine ⟨_, rfl, rfl, _, rfl, iteB (fun e => ?_) (fun e => ?_)⟩
    · have y0 : y ≠ 0 := fun z => by
        rw [dec_eq z] at e
        cases e
      refine ⟨_, rfl, (by show 2 ≤ sizeLine; decide), fun r hr => ?_⟩
      exact q _ r x y (b12.trans (But.of (same_upd hr))) (hp2.upd hr) (b12.free (hp2.ne hr) hr) (hp2.ne hr) upd_same y0 hx hy
    · refine ⟨_, rfl, p, 6, rfl, hp2, by decide, by decide, fun H3 d b3 hp3 d0 d1 => ⟨_, _, rfl, rfl, (by show 2 ≤ sizeLine; decide), fun r hr => ?_⟩⟩
      have b13 := b12.trans b3
      exact q _ r x (1 + d) (b13.trans (But.of (same_upd hr))) (hp3.upd hr) (b13.free (hp3.ne hr) hr) (hp3.ne hr) upd_same (by omega) hx (by omega)
def spLow : Sp := fun vs H Q _ => ∃ (a : Addr) (x y : Int), vs = [.ref a] ∧ H a = some (.tup [.int x, .int y]) ∧ y ≠ 0 ∧ y.natAbs < 2 ^ 4000 ∧ ∀ H' r, Same H H' → H r = none → H' r = some (.tup [.int (lt x y), .int (lb x y)]) → Q (.ref r) H'
theorem ok_l_lowest (T : Tx K mg C) (F : FD K "_law_lowest" "_law_lowest" s_l_lowest [] f fd) : FnG P w K mg base CX0 1 f fd ["_law_pair_here"] spLow := by
  refine ok0 F sc_l_lowest (fun vs H Q E h => ?_) (fun cdv A outer s H vs Q E hr h => ?_)
  · obtain ⟨a, x, y, rfl, _⟩ := h
    rfl
  · obtain ⟨a, x, y, rfl, ha, hy, by_, q⟩ := h
    have i0 : atI [V.int x, V.int y] 0 = some (.int x) := atI_nat (j := 0) rfl
    have i1 : atI [V.int x, V.int y] 1 = some (.int y) := atI_nat (j := 1) rfl
    refine ⟨_, (pss_cons (ps_par (i := 1) (j := 2) rfl sc_l_lowest.nd rfl rfl (by decide) rfl rfl (pa_cons (pe_callB call_abs (by rfl) T.n_abs (by decide +kernel) (pa_cons (pe_ix ix_tup (pv 0) pe_int (fun _ _ => rfl)) pa_nil)) (pa_cons (pe_callB call_abs (by rfl) T.n_abs (by decide +kernel) (pa_cons (pe_ix ix_tup (pv 0) pe_int (fun _ _ => rfl)) pa_nil)) pa_nil)) (by rfl))
      (pss_cons (ps_while PassesOwn.never (pt_cmpR op_ne (pv 2) pe_int (nomark _)) (pss_one (ps_par (i := 1) (j := 2) rfl sc_l_lowest.nd rfl rfl (by decide) rfl rfl (pa_cons (pv 2) (pa_cons (pe_op op_mod (pe_callTy call_int1 (by rfl) T.n_int (by decide +kernel) (pa_cons (pv 1) pa_nil)) (pv 2)) pa_nil)) (by rfl))))
      (pss_cons (ps_if (pt_cmpR op_lt (pe_ix ix_tup (pv 0) pe_int (fun _ _ => rfl)) pe_int (nomark _)) (pss_one (ps_set (i := 1) sc_l_lowest.nd rfl (by first | exact Or.inl rfl | exact Or.inr rfl) (pe_un un_neg (pv 1)))) pss_nil)
      (pss_one (ps_ret (pe_tup (pa_cons (pe_op op_fdivZ (pe_ix ix_tup (pv 0) pe_int (fun _ _ => rfl)) (pv 1)) (pa_cons (pe_op op_fdivZ (pe_ix ix_tup (pv 0) pe_int (fun _ _ => rfl)) (pv 1)) pa_nil)))))))), ?_⟩
    refine ⟨_, rfl, a, _, _, _, rfl, rfl, SqT.of ha, i0, _, rfl, _, rfl, a, _, _, _, rfl, rfl, SqT.of ha, i1, _, rfl, _, _, rfl, ?_⟩
    refine while_by (fun σ H' => H' = H ∧ ∃ c d : Int, σ = [some (.ref a), some (.int c), some (.int d)] ∧ 0 ≤ c ∧ 0 ≤ d ∧ Int.gcd c d = Int.gcd x y) (fun σ _ => match σ with | [_, _, some (.int b)] => b.toNat | _ => 0) ?_ ?_ ?_
    · exact ⟨rfl, _, _, rfl, by split <;> omega, by split <;> omega, gcd_abs x y⟩
    · rintro σ H' ⟨rfl, c, d, rfl, hc, hd, hg⟩
      refine ⟨_, rfl, rfl, _, rfl, ?_⟩
      by_cases z : d = 0
      · subst z
        refine iteF ?_
        have hg' : c = (Int.gcd x y : Int) := by rw [← gcd_end hc, hg]
        refine ⟨_, rfl, a, _, _, _, rfl, rfl, SqT.of ha, i1, _, _, rfl, rfl, _, rfl, ?_⟩
        have fin : ∀ (c : Int), c = dv x y → (tRet (tTup (tCons (tOp (rI CDivZ fun i j => .int (i.fdiv j)) (tOp (rIxT K) (tVar 0) (tC (.int 0))) (tVar 1)) (tCons (tOp (rI CDivZ fun i j => .int (i.fdiv j)) (tOp (rIxT K) (tVar 0) (tC (.int 1))) (tVar 1)) tNil)))) { nx := fun _ H' => Q .non H', rt := Q } [some (.ref a), some (.int c), some (.int 0)] H' := by
          intro c hc
          have cd : CDivZ x c := by
            rw [hc]
            exact wide_divZ (dv_ne hy) (dv_big hy by_) (by decide) (by decide)
          refine ⟨_, rfl, a, _, _, _, rfl, rfl, SqT.of ha, i0, _, rfl, _, _, rfl, rfl, cd, _, rfl, a, _, _, _, rfl, rfl, SqT.of ha, i1, _, rfl, _, _, rfl, rfl, cd, (by show 2 ≤ sizeLine; decide), fun r hr => ?_⟩
          refine q _ r (same_upd hr) hr (upd_same.trans ?_)
          rw [hc]
          rfl
        refine iteB (fun c' => ?_) (fun c' => ?_)
        · have c2 : y < 0 := of_decide_eq_true c'
          exact ⟨_, rfl, _, rfl, fin _ (by unfold dv; rw [if_pos c2, hg'])⟩
        · have c2 : ¬ y < 0 := of_decide_eq_false c'
          exact fin _ (by unfold dv; rw [if_neg c2, hg'])
      · refine iteY (by rw [dec_ne z]; rfl) ?_
        refine ⟨_, rfl, _, rfl, .inl ⟨_, rfl, _, rfl, _, _, rfl, rfl, by omega, _, _, rfl, ⟨rfl, _, _, rfl, hd, Int.emod_nonneg _ z, ?_⟩, ?_⟩⟩
        · rw [gcd_turn hc hd]
          exact hg
        · have := Int.emod_lt_of_pos c (show 0 < d by omega)
          have := Int.emod_nonneg c z
          show (c % d).toNat < d.toNat
          omega
    · rintro σ H' Q Q' hq ⟨v, e, e2, k, e3, h⟩
      exact ⟨v, e, e2, k, e3, hq _ _ h⟩
end
end K11

set_option Elab.async false
set_option linter.all false
set_option maxRecDepth 100000
set_option maxHeartbeats 4000000
/-! R11: what the law reckons itself, what it asks. -/
namespace K11
open PySem PySem.Spec PyProof.Rows L2 LL
abbrev s_l_is : Stmt := top 17
abbrev n_l_is : List Str := ["_law_amount", "_law_pair_here", "_law_top", "_law_low", "_law_shown", "_law_whole_here", "_law_told_here"]
theorem sc_l_is : FnScope n_l_is ["_law_amount", "_law_pair_here"] (defScope s_l_is) := ⟨rfl, rfl, rfl, by decide +kernel, rfl, by decide +kernel, by decide +kernel⟩
abbrev s_l_made : Stmt := top 18
abbrev n_l_made : List Str := ["_law_way", "_law_one", "_law_second"]
theorem sc_l_made : FnScope n_l_made ["_law_way", "_law_one", "_law_second"] (defScope s_l_made) := ⟨rfl, rfl, rfl, by decide +kernel, rfl, by decide +kernel, by decide +kernel⟩
abbrev s_l_told : Stmt := top 19
abbrev n_l_told : List Str := ["_law_way", "_law_one", "_law_second"]
theorem sc_l_told : FnScope n_l_told ["_law_way", "_law_one", "_law_second"] (defScope s_l_told) := ⟨rfl, rfl, rfl, by decide +kernel, rfl, by decide +kernel, by decide +kernel⟩
abbrev s_l_compared : Stmt := top 20
abbrev n_l_compared : List Str := ["_law_one", "_law_pair_here", "_law_second", "_law_other", "_law_is_whole", "_law_top", "_law_low", "_law_upper", "_law_lower", "_law_is_same"]
theorem sc_l_compared : FnScope n_l_compared ["_law_one", "_law_pair_here", "_law_second", "_law_other", "_law_is_whole"] (defScope s_l_compared) := ⟨rfl, rfl, rfl, by decide +kernel, rfl, by decide +kernel, by decide +kernel⟩
/-! ### the texts -/
theorem asc_txt (n : Int) : Asc (txt n) := asc_of _
theorem asc_shown (t b : Int) : Asc (shown t b) := by
  unfold shown
  split
  · exact asc_txt t
  · exact ((asc_txt t).app (asc_of "/")).app (asc_txt b)
theorem asc_repS (t b : Int) : Asc (repS t b) := ((((asc_of "Amount(").app (asc_txt t)).app (asc_of ", ")).app (asc_txt b)).app (asc_of ")")
theorem shown_len {t b : Int} (ht : Md t) (hb : Md b) : (shown t b).length ≤ 3850 := by
  have l1 := ht.len
  have l2 := hb.len
  unfold shown
  split
  · omega
  · rw [strLen_append, strLen_append]
    show (txt t).length + 1 + (txt b).length ≤ _
    omega
theorem repS_len {t b : Int} (ht : Md t) (hb : Md b) : (repS t b).length ≤ 3860 := by
  have l1 := ht.len
  have l2 := hb.len
  unfold repS
  rw [strLen_append, strLen_append, strLen_append, strLen_append]
  show 7 + (txt t).length + 2 + (txt b).length + 1 ≤ _
  omega
theorem sgn_md (t : Int) : Md (sgn t) := by
  have h : (sgn t).natAbs ≤ 1 := by
    unfold sgn
    split <;> split <;> decide
  exact Nat.lt_of_le_of_lt h (by decide +kernel)
/-- what is told of an amount -/
def told (t b : Int) : PyData := .list [.int t, .int b, .int (sgn t), .str (shown t b), .str (repS t b)]
theorem told_shw {t b : Int} (ht : Md t) (hb : Md b) : Shw (told t b) := by
  simp only [told, Shw, ShwAll]
  exact ⟨ht.log, hb.log, (sgn_md t).log, asc_shown t b, asc_repS t b, trivial⟩
theorem told_cost {t b : Int} (ht : Md t) (hb : Md b) : cost (told t b) ≤ sizeLine := by
  have h1 := shown_len ht hb
  have h2 := repS_len ht hb
  simp only [told, cost, costAll]
  exact small (by omega)
theorem told_depth (t b : Int) : (told t b).depth ≤ 40 := by
  simp only [told, PyData.depth, PyData.depthAll]
  decide
section
variable {P : Program} {w : World} {K : PySem.W.Frag} {mg : Str → Option Value} {base : Heap} {C : Addr} {f : Addr} {fd : FuncData}
theorem told_dp {H : Hp} {l : Addr} {t b : Int} (h : H l = some (.lst [.int t, .int b, .int (sgn t), .str (shown t b), .str (repS t b)])) : Dp K H (.ref l) (told t b) :=
  .lst (SqL.of h) (.cons (.int _) (.cons (.int _) (.cons (.int _) (.cons (.str _) (.cons (.str _) .nil)))))
/-! ### _law_is -/
def spIs (C : Addr) : Sp := fun vs H Q _ => ∃ (p a : Addr) (x y : Int), vs = [.ref p, .ref a] ∧ AmtAt C H p (lt x y) (lb x y) ∧ H a = some (.tup [.int x, .int y]) ∧ y ≠ 0 ∧ y.natAbs < 2 ^ 4000 ∧ Md (lt x y) ∧ Md (lb x y) ∧ ∀ H', Same H H' → Q (.bl true) H'
theorem ok_l_is (T : Tx K mg C) (G_l_lowest : Fnc P w K mg base CX0 1 "_law_lowest" [] spLow) (P_top : Prp P w K mg base CX0 1 C "top" (spGet C fun t _ => t)) (P_bottom : Prp P w K mg base CX0 1 C "bottom" (spGet C fun _ b => b)) (P_sign : Prp P w K mg base CX0 1 C "sign" (spGet C fun t _ => sgn t))
    (S_str : SpF P w K mg base CX0 1 C "__str__" (spShow C shown)) (S_repr : SpF P w K mg base CX0 1 C "__repr__" (spShow C repS)) (F : FD K "_law_is" "_law_is" s_l_is [] f fd) : FnG P w K mg base CX0 5 f fd ["_law_amount", "_law_pair_here"] (spIs C) := by
  refine ok0 F sc_l_is (fun vs H Q E h => ?_) (fun cdv A outer s H vs Q E hr h => ?_)
  · obtain ⟨p, a, x, y, rfl, _⟩ := h
    rfl
  · obtain ⟨p, a, x, y, rfl, hp, ha, hy, by_, mt, mb, q⟩ := h
    refine ⟨_, (pss_cons (ps_asg (pe_fn G_l_lowest (hr.mono (by decide)) pass0 (pa_cons (pv 1) pa_nil)) (pg_tup rfl (pgs_cons (pg_name (i := 2) sc_l_is.nd rfl (by first | exact Or.inl rfl | exact Or.inr rfl)) (pgs_cons (pg_name (i := 3) sc_l_is.nd rfl (by first | exact Or.inl rfl | exact Or.inr rfl)) pgs_nil))))
      (pss_cons (ps_set (i := 4) sc_l_is.nd rfl (by first | exact Or.inl rfl | exact Or.inr rfl) (pe_ifExp (pt_cmpR op_eq (pv 3) pe_int (nomark _)) (pe_callTy call_str_int (by rfl) T.n_str (by decide +kernel) (pa_cons (pv 2) pa_nil)) (pe_op op_add_str (pe_op op_add_str (pe_callTy call_str_int (by rfl) T.n_str (by decide +kernel) (pa_cons (pv 2) pa_nil)) pe_str) (pe_callTy call_str_int (by rfl) T.n_str (by decide +kernel) (pa_cons (pv 3) pa_nil)))))
      (pss_cons (ps_set (i := 5) sc_l_is.nd rfl (by first | exact Or.inl rfl | exact Or.inr rfl) (pe_op op_add_str (pe_op op_add_str (pe_op op_add_str (pe_op op_add_str pe_str (pe_callTy call_str_int (by rfl) T.n_str (by decide +kernel) (pa_cons (pv 2) pa_nil))) pe_str) (pe_callTy call_str_int (by rfl) T.n_str (by decide +kernel) (pa_cons (pv 3) pa_nil))) pe_str))
      (pss_cons (ps_set (i := 6) sc_l_is.nd rfl (by first | exact Or.inl rfl | exact Or.inr rfl) (pe_lst (pa_cons (pe_pr P_top (hr.mono (by decide)) pass0 (pv 0)) (pa_cons (pe_pr P_bottom (hr.mono (by decide)) pass0 (pv 0)) (pa_cons (pe_pr P_sign (hr.mono (by decide)) pass0 (pv 0)) (pa_cons (pe_callTy (call_strOF S_str (hr.mono (by decide)) pass0) (by rfl) T.n_str (by decide +kernel) (pa_cons (pv 0) pa_nil)) (pa_cons (pe_callB (call_reprOF S_repr (hr.mono (by decide)) pass0) (by rfl) T.n_repr (by decide +kernel) (pa_cons (pv 0) pa_nil)) pa_nil)))))))
      (pss_one (ps_ret (pe_cmpR op_eq (pe_callB (call_reprS hr) (by rfl) T.n_repr (by decide +kernel) (pa_cons (pv 6) pa_nil)) (pe_callB (call_reprS hr) (by rfl) T.n_repr (by decide +kernel) (pa_cons (pe_lst (pa_cons (pv 2) (pa_cons (pv 3) (pa_cons (pe_op op_sub (pe_callTy call_int1 (by rfl) T.n_int (by decide +kernel) (pa_cons (pe_cmpR op_gt (pv 2) pe_int (nomark _)) pa_nil)) (pe_callTy call_int1 (by rfl) T.n_int (by decide +kernel) (pa_cons (pe_cmpR op_lt (pv 2) pe_int (nomark _)) pa_nil))) (pa_cons (pv 4) (pa_cons (pv 5) pa_nil)))))) pa_nil)) (nomark _)))))))), ?_⟩
    refine ⟨_, rfl, a, x, y, rfl, ha, hy, by_, fun H1 r s1 nr hr1 => ?_⟩
    refine ⟨r, _, rfl, SqT.of hr1, rfl, _, _, rfl, _, _, rfl, rfl, ?_⟩
    have hp1 := hp.same s1
    generalize lt x y = t at *
    generalize lb x y = b at *
    obtain ⟨dx, e1⟩ := id hp1
    have l1 := mt.len
    have l2 := mb.len
    -- behind shown
    refine ⟨_, rfl, rfl, _, rfl, ?_⟩
    have fin : ∀ z : Str, z = shown t b → (tSeq (tAsg (tOp (fun x y H Q => ∃ i j, x = V.str i ∧ y = V.str j ∧ i.length + j.length ≤ sizeLine ∧ Q (.str (i ++ j)) H) (tOp (fun x y H Q => ∃ i j, x = V.str i ∧ y = V.str j ∧ i.length + j.length ≤ sizeLine ∧ Q (.str (i ++ j)) H) (tOp (fun x y H Q => ∃ i j, x = V.str i ∧ y = V.str j ∧ i.length + j.length ≤ sizeLine ∧ Q (.str (i ++ j)) H) (tOp (fun x y H Q => ∃ i j, x = V.str i ∧ y = V.str j ∧ i.length + j.length ≤ sizeLine ∧ Q (.str (i ++ j)) H) (tC (.str "Amount(")) (tCB (fun xs H Q => ∃ i, xs = [V.int i] ∧ i.natAbs.log2 < 1920 ∧ Q (.str (toString i)) H) (tCons (tVar 2) tNil))) (tC (.str ", "))) (tCB (fun xs H Q => ∃ i, xs = [V.int i] ∧ i.natAbs.log2 < 1920 ∧ Q (.str (toString i)) H) (tCons (tVar 3) tNil))) (tC (.str ")"))) (gName 5))
        (tSeq (tAsg (tLst (tCons (tPr C (spGet C fun t _ => t) E0 (tVar 0)) (tCons (tPr C (spGet C fun _ b => b) E0 (tVar 0)) (tCons (tPr C (spGet C fun t _ => sgn t) E0 (tVar 0)) (tCons (tCB (rShow C (spShow C shown) E0) (tCons (tVar 0) tNil)) (tCons (tCB (rShow C (spShow C repS) E0) (tCons (tVar 0) tNil)) tNil)))))) (gName 6))
        (tRet (tOp rEq (tCB (rRepS K) (tCons (tVar 6) tNil)) (tCB (rRepS K) (tCons (tLst (tCons (tVar 2) (tCons (tVar 3) (tCons (tOp (rI0 fun i j => .int (i - j)) (tCB (fun xs H Q => (∃ i, xs = [V.int i] ∧ Q (.int i) H) ∨ ∃ k, xs = [V.bl k] ∧ Q (.int (if k = true then 1 else 0)) H) (tCons (tOp (rI0 fun i j => .bl (decide (j < i))) (tVar 2) (tC (.int 0))) tNil)) (tCB (fun xs H Q => (∃ i, xs = [V.int i] ∧ Q (.int i) H) ∨ ∃ k, xs = [V.bl k] ∧ Q (.int (if k = true then 1 else 0)) H) (tCons (tOp (rI0 fun i j => .bl (decide (i < j))) (tVar 2) (tC (.int 0))) tNil))) (tCons (tVar 4) (tCons (tVar 5) tNil)))))) tNil))))))
        { nx := fun _ H' => Q .non H', rt := Q } [some (.ref p), some (.ref a), some (.int t), some (.int b), some (.str z), none, none] H1 := by
      rintro z rfl
      have q1 : (("Amount(" : Str)).length = 7 := rfl
      refine ⟨_, rfl, _, rfl, mt.log, _, _, rfl, rfl, small (by show 7 + (txt t).length ≤ _; omega), _, _, rfl, rfl, ?_, _, rfl, _, rfl, mb.log, _, _, rfl, rfl, ?_, _, _, rfl, rfl, ?_, ?_⟩
      · rw [strLen_append]
        exact small (by show 7 + (txt t).length + 2 ≤ _; omega)
      · rw [strLen_append, strLen_append]
        exact small (by show 7 + (txt t).length + 2 + (txt b).length ≤ _; omega)
      · rw [strLen_append, strLen_append, strLen_append]
        exact small (by show 7 + (txt t).length + 2 + (txt b).length + 1 ≤ _; omega)
      refine ⟨_, rfl, p, dx, _, rfl, e1, p, t, b, rfl, hp1, _, rfl, p, dx, _, rfl, e1, p, t, b, rfl, hp1, _, rfl, p, dx, _, rfl, e1, p, t, b, rfl, hp1, ?_⟩
      refine ⟨_, rfl, p, dx, _, rfl, e1, p, t, b, rfl, hp1, mt, mb, _, rfl, _, rfl, p, dx, _, rfl, e1, p, t, b, rfl, hp1, mt, mb, _, rfl, (by show 5 ≤ sizeLine; decide), fun l hl => ?_⟩
      refine ⟨_, rfl, l, told t b, rfl, told_dp upd_same, told_shw mt mb, told_depth t b, told_cost mt mb, ?_⟩
      refine ⟨_, rfl, _, rfl, _, rfl, _, _, rfl, rfl, .inr ⟨_, rfl, _, rfl, _, _, rfl, rfl, .inr ⟨_, rfl, _, _, rfl, rfl, _, rfl, _, rfl, (by show 5 ≤ sizeLine; decide), fun m hm => ?_⟩⟩⟩
      refine ⟨m, told t b, rfl, told_dp upd_same, told_shw mt mb, told_depth t b, told_cost mt mb, rfl, ?_⟩
      rw [decide_eq_true rfl]
      exact q _ (s1.trans ((same_upd hl).trans (same_upd hm)))
    refine iteB (fun e => ?_) (fun e => ?_)
    · have e' : b = 1 := V.int.inj (of_decide_eq_true e)
      refine ⟨_, rfl, _, rfl, mt.log, fin _ ?_⟩
      unfold shown
      rw [if_pos e']
      rfl
    · have e' : ¬ b = 1 := fun z => of_decide_eq_false e (by rw [z])
      refine ⟨_, rfl, _, rfl, mt.log, _, _, rfl, rfl, small (by show (txt t).length + 1 ≤ _; omega), _, rfl, _, rfl, mb.log, _, _, rfl, rfl, ?_, fin _ ?_⟩
      · rw [strLen_append]
        exact small (by show (txt t).length + 1 + (txt b).length ≤ _; omega)
      · unfold shown
        rw [if_neg e']
        rfl
/-! ### _law_made, _law_told -/
inductive Way where
  | sum | gap | product | part | turned
def Way.s : Way → Str
  | .sum => "sum"
  | .gap => "gap"
  | .product => "product"
  | .part => "part"
  | .turned => "turned"
def mT : Way → Int → Int → Int → Int → Int
  | .sum, x, y, z, u => x * u + z * y
  | .gap, x, y, z, u => x * u - z * y
  | .product, x, _, z, _ => x * z
  | .part, x, _, _, u => x * u
  | .turned, x, _, _, _ => -x
def mB : Way → Int → Int → Int → Int → Int
  | .sum, _, y, _, u => y * u
  | .gap, _, y, _, u => y * u
  | .product, _, y, _, u => y * u
  | .part, _, y, z, _ => y * z
  | .turned, _, y, _, _ => y
/-- the lowest terms of what is made of two fractions are those of what is made of their lowest terms -/
theorem made_low (g : Way) {a b c d : Int} (hb : b ≠ 0) (hd : d ≠ 0) (hc : g = .part → c ≠ 0) :
    lt (mT g a b c d) (mB g a b c d) = lt (mT g (lt a b) (lb a b) (lt c d) (lb c d)) (mB g (lt a b) (lb a b) (lt c d) (lb c d)) ∧ lb (mT g a b c d) (mB g a b c d) = lb (mT g (lt a b) (lb a b) (lt c d) (lb c d)) (mB g (lt a b) (lb a b) (lt c d) (lb c d)) := by
  cases g with
  | sum => exact sum_low hb hd
  | gap => exact gap_low hb hd
  | product => exact product_low hb hd
  | part => exact part_low hb hd (hc rfl)
  | turned => exact turned_low hb
theorem made_ne (g : Way) {a b c d : Int} (hb : b ≠ 0) (hd : d ≠ 0) (hc : g = .part → c ≠ 0) : mB g a b c d ≠ 0 := by
  cases g with
  | sum => exact Int.mul_ne_zero hb hd
  | gap => exact Int.mul_ne_zero hb hd
  | product => exact Int.mul_ne_zero hb hd
  | part => exact Int.mul_ne_zero hb (hc rfl)
  | turned => exact hb
def spMade : Sp := fun vs H Q _ => ∃ (g : Way) (a b : Addr) (x y z u : Int), vs = [.str g.s, .ref a, .ref b] ∧ H a = some (.tup [.int x, .int y]) ∧ H b = some (.tup [.int z, .int u]) ∧ (Sm x ∧ Sm y ∧ Sm z ∧ Sm u) ∧
  ∀ H' r, Same H H' → H r = none → H' r = some (.tup [.int (mT g x y z u), .int (mB g x y z u)]) → Q (.ref r) H'
theorem ok_l_made (T : Tx K mg C) (F : FD K "_law_made" "_law_made" s_l_made [] f fd) : FnG P w K mg base CX0 1 f fd ["_law_way", "_law_one", "_law_second"] spMade := by
  refine ok0 F sc_l_made (fun vs H Q E h => ?_) (fun cdv A outer s H vs Q E hr h => ?_)
  · obtain ⟨g, a, b, x, y, z, u, rfl, _⟩ := h
    rfl
  · obtain ⟨g, a, b, x, y, z, u, rfl, ha, hb, ⟨sx, sy, sz, su⟩, q⟩ := h
    have x0 : atI [V.int x, V.int y] 0 = some (.int x) := atI_nat (j := 0) rfl
    have y0 : atI [V.int x, V.int y] 1 = some (.int y) := atI_nat (j := 1) rfl
    have z0 : atI [V.int z, V.int u] 0 = some (.int z) := atI_nat (j := 0) rfl
    have u0 : atI [V.int z, V.int u] 1 = some (.int u) := atI_nat (j := 1) rfl
    have A0 := SqT.of (K := K) ha
    have B0 := SqT.of (K := K) hb
    refine ⟨_, (pss_cons (ps_if (pt_cmpR op_eq (pv 0) pe_str (nomark _)) (pss_one (ps_ret (pe_tup (pa_cons (pe_op op_add (pe_op op_mulX (pe_ix ix_tup (pv 1) pe_int (fun _ _ => rfl)) (pe_ix ix_tup (pv 2) pe_int (fun _ _ => rfl))) (pe_op op_mulX (pe_ix ix_tup (pv 2) pe_int (fun _ _ => rfl)) (pe_ix ix_tup (pv 1) pe_int (fun _ _ => rfl)))) (pa_cons (pe_op op_mulX (pe_ix ix_tup (pv 1) pe_int (fun _ _ => rfl)) (pe_ix ix_tup (pv 2) pe_int (fun _ _ => rfl))) pa_nil))))) pss_nil)
      (pss_cons (ps_if (pt_cmpR op_eq (pv 0) pe_str (nomark _)) (pss_one (ps_ret (pe_tup (pa_cons (pe_op op_sub (pe_op op_mulX (pe_ix ix_tup (pv 1) pe_int (fun _ _ => rfl)) (pe_ix ix_tup (pv 2) pe_int (fun _ _ => rfl))) (pe_op op_mulX (pe_ix ix_tup (pv 2) pe_int (fun _ _ => rfl)) (pe_ix ix_tup (pv 1) pe_int (fun _ _ => rfl)))) (pa_cons (pe_op op_mulX (pe_ix ix_tup (pv 1) pe_int (fun _ _ => rfl)) (pe_ix ix_tup (pv 2) pe_int (fun _ _ => rfl))) pa_nil))))) pss_nil)
      (pss_cons (ps_if (pt_cmpR op_eq (pv 0) pe_str (nomark _)) (pss_one (ps_ret (pe_tup (pa_cons (pe_op op_mulX (pe_ix ix_tup (pv 1) pe_int (fun _ _ => rfl)) (pe_ix ix_tup (pv 2) pe_int (fun _ _ => rfl))) (pa_cons (pe_op op_mulX (pe_ix ix_tup (pv 1) pe_int (fun _ _ => rfl)) (pe_ix ix_tup (pv 2) pe_int (fun _ _ => rfl))) pa_nil))))) pss_nil)
      (pss_cons (ps_if (pt_cmpR op_eq (pv 0) pe_str (nomark _)) (pss_one (ps_ret (pe_tup (pa_cons (pe_op op_mulX (pe_ix ix_tup (pv 1) pe_int (fun _ _ => rfl)) (pe_ix ix_tup (pv 2) pe_int (fun _ _ => rfl))) (pa_cons (pe_op op_mulX (pe_ix ix_tup (pv 1) pe_int (fun _ _ => rfl)) (pe_ix ix_tup (pv 2) pe_int (fun _ _ => rfl))) pa_nil))))) pss_nil)
      (pss_one (ps_ret (pe_tup (pa_cons (pe_un un_neg (pe_ix ix_tup (pv 1) pe_int (fun _ _ => rfl))) (pa_cons (pe_ix ix_tup (pv 1) pe_int (fun _ _ => rfl)) pa_nil))))))))), ?_⟩
    have ret : ∀ (m n : Int), (m = mT g x y z u) → (n = mB g x y z u) → ([V.int m, V.int n].length ≤ sizeLine ∧ ∀ p, H p = none → Q (.ref p) (upd H p (.tup [.int m, .int n]))) := by
      rintro m n rfl rfl
      exact ⟨by show 2 ≤ sizeLine; decide, fun p hp => q _ p (same_upd hp) hp upd_same⟩
    cases g with
    | sum =>
      refine ⟨_, rfl, rfl, _, rfl, iteY (by decide +kernel) ?_⟩
      exact ⟨_, rfl, a, _, _, _, rfl, rfl, A0, x0, _, rfl, b, _, _, _, rfl, rfl, B0, u0, _, _, rfl, rfl, sx.mulx su, _, rfl, b, _, _, _, rfl, rfl, B0, z0, _, rfl, a, _, _, _, rfl, rfl, A0, y0, _, _, rfl, rfl, sz.mulx sy, _, _, rfl, rfl,
        _, rfl, a, _, _, _, rfl, rfl, A0, y0, _, rfl, b, _, _, _, rfl, rfl, B0, u0, _, _, rfl, rfl, sy.mulx su, ret _ _ rfl rfl⟩
    | gap =>
      refine ⟨_, rfl, rfl, _, rfl, iteN (by decide +kernel) ⟨_, rfl, rfl, _, rfl, iteY (by decide +kernel) ?_⟩⟩
      exact ⟨_, rfl, a, _, _, _, rfl, rfl, A0, x0, _, rfl, b, _, _, _, rfl, rfl, B0, u0, _, _, rfl, rfl, sx.mulx su, _, rfl, b, _, _, _, rfl, rfl, B0, z0, _, rfl, a, _, _, _, rfl, rfl, A0, y0, _, _, rfl, rfl, sz.mulx sy, _, _, rfl, rfl,
        _, rfl, a, _, _, _, rfl, rfl, A0, y0, _, rfl, b, _, _, _, rfl, rfl, B0, u0, _, _, rfl, rfl, sy.mulx su, ret _ _ rfl rfl⟩
    | product =>
      refine ⟨_, rfl, rfl, _, rfl, iteN (by decide +kernel) ⟨_, rfl, rfl, _, rfl, iteN (by decide +kernel) ⟨_, rfl, rfl, _, rfl, iteY (by decide +kernel) ?_⟩⟩⟩
      exact ⟨_, rfl, a, _, _, _, rfl, rfl, A0, x0, _, rfl, b, _, _, _, rfl, rfl, B0, z0, _, _, rfl, rfl, sx.mulx sz, _, rfl, a, _, _, _, rfl, rfl, A0, y0, _, rfl, b, _, _, _, rfl, rfl, B0, u0, _, _, rfl, rfl, sy.mulx su, ret _ _ rfl rfl⟩
    | part =>
      refine ⟨_, rfl, rfl, _, rfl, iteN (by decide +kernel) ⟨_, rfl, rfl, _, rfl, iteN (by decide +kernel) ⟨_, rfl, rfl, _, rfl, iteN (by decide +kernel) ⟨_, rfl, rfl, _, rfl, iteY (by decide +kernel) ?_⟩⟩⟩⟩
      exact ⟨_, rfl, a, _, _, _, rfl, rfl, A0, x0, _, rfl, b, _, _, _, rfl, rfl, B0, u0, _, _, rfl, rfl, sx.mulx su, _, rfl, a, _, _, _, rfl, rfl, A0, y0, _, rfl, b, _, _, _, rfl, rfl, B0, z0, _, _, rfl, rfl, sy.mulx sz, ret _ _ rfl rfl⟩
    | turned =>
      refine ⟨_, rfl, rfl, _, rfl, iteN (by decide +kernel) ⟨_, rfl, rfl, _, rfl, iteN (by decide +kernel) ⟨_, rfl, rfl, _, rfl, iteN (by decide +kernel) ⟨_, rfl, rfl, _, rfl, iteN (by decide +kernel) ?_⟩⟩⟩⟩
      exact ⟨_, rfl, a, _, _, _, rfl, rfl, A0, x0, _, rfl, _, rfl, a, _, _, _, rfl, rfl, A0, y0, ret _ _ rfl rfl⟩
def spTold (C : Addr) : Sp := fun vs H Q _ => ∃ (g : Way) (p : Addr) (v : V) (t b t2 b2 : Int), vs = [.str g.s, .ref p, v] ∧ AmtAt C H p t b ∧ AmtV C H v t2 b2 ∧ (Sm t ∧ Sm b ∧ Sm t2 ∧ Sm b2) ∧ (0 < b ∧ 0 < b2) ∧ (g = .part → t2 ≠ 0) ∧
  ∀ H' r, Same H H' → H r = none → AmtAt C H' r (lt (mT g t b t2 b2) (mB g t b t2 b2)) (lb (mT g t b t2 b2) (mB g t b t2 b2)) → Q (.ref r) H'
theorem ok_l_told (T : Tx K mg C) (O_add : OpF P w K mg base CX0 5 C .Add (spBin C (fun t b t2 b2 => t * b2 + t2 * b) (fun _ b _ b2 => b * b2) fun _ => True)) (O_sub : OpF P w K mg base CX0 5 C .Sub (spBin C (fun t b t2 b2 => t * b2 - t2 * b) (fun t b t2 b2 => b * b2) fun _ => True))
    (O_mul : OpF P w K mg base CX0 5 C .Mult (spBin C (fun t b t2 b2 => t * t2) (fun t b t2 b2 => b * b2) fun _ => True)) (M_over : Mth P w K mg base CX0 5 C "over" [] (spBin C (fun t b t2 b2 => t * b2) (fun t b t2 b2 => b * t2) fun t2 => t2 ≠ 0)) (S_neg : SpF P w K mg base CX0 4 C "__neg__" (spNeg C))
    (F : FD K "_law_told" "_law_told" s_l_told [] f fd) : FnG P w K mg base CX0 6 f fd ["_law_way", "_law_one", "_law_second"] (spTold C) := by
  refine ok0 F sc_l_told (fun vs H Q E h => ?_) (fun cdv A outer s H vs Q E hr h => ?_)
  · obtain ⟨g, p, v, t, b, t2, b2, rfl, _⟩ := h
    rfl
  · obtain ⟨g, p, v, t, b, t2, b2, rfl, hp, hv, ss, pp, hg, q⟩ := h
    obtain ⟨dx, e1⟩ := id hp
    have hy : (∃ c dy gs, v = .ref c ∧ H c = some (.ins C dy gs)) ∨ ∃ i, v = .int i := by
      rcases hv with ⟨c, rfl, dy, e⟩ | ⟨rfl, _⟩
      · exact .inl ⟨c, dy, _, rfl, e⟩
      · exact .inr ⟨_, rfl⟩
    refine ⟨_, (pss_cons (ps_if (pt_cmpR op_eq (pv 0) pe_str (nomark _)) (pss_one (ps_ret (pe_op (op_binF O_add (hr.mono (by decide)) pass0) (pv 1) (pv 2)))) pss_nil)
      (pss_cons (ps_if (pt_cmpR op_eq (pv 0) pe_str (nomark _)) (pss_one (ps_ret (pe_op (op_binF O_sub (hr.mono (by decide)) pass0) (pv 1) (pv 2)))) pss_nil)
      (pss_cons (ps_if (pt_cmpR op_eq (pv 0) pe_str (nomark _)) (pss_one (ps_ret (pe_op (op_binF O_mul (hr.mono (by decide)) pass0) (pv 1) (pv 2)))) pss_nil)
      (pss_one (ps_ret (pe_ifExp (pt_cmpR op_eq (pv 0) pe_str (nomark _)) (pe_mt M_over (hr.mono (by decide)) pass0 (pv 1) (pa_cons (pv 2) pa_nil)) (pe_un (un_negF S_neg (hr.mono (by decide)) pass0) (pv 1)))))))), ?_⟩
    cases g with
    | sum => exact ⟨_, rfl, rfl, _, rfl, iteY (by decide +kernel) ⟨_, rfl, _, rfl, p, dx, _, rfl, e1, hy, p, v, t, b, t2, b2, rfl, hp, hv, ss, pp, trivial, q⟩⟩
    | gap => exact ⟨_, rfl, rfl, _, rfl, iteN (by decide +kernel) ⟨_, rfl, rfl, _, rfl, iteY (by decide +kernel) ⟨_, rfl, _, rfl, p, dx, _, rfl, e1, hy, p, v, t, b, t2, b2, rfl, hp, hv, ss, pp, trivial, q⟩⟩⟩
    | product => exact ⟨_, rfl, rfl, _, rfl, iteN (by decide +kernel) ⟨_, rfl, rfl, _, rfl, iteN (by decide +kernel) ⟨_, rfl, rfl, _, rfl, iteY (by decide +kernel) ⟨_, rfl, _, rfl, p, dx, _, rfl, e1, hy, p, v, t, b, t2, b2, rfl, hp, hv, ss, pp, trivial, q⟩⟩⟩⟩
    | part => exact ⟨_, rfl, rfl, _, rfl, iteN (by decide +kernel) ⟨_, rfl, rfl, _, rfl, iteN (by decide +kernel) ⟨_, rfl, rfl, _, rfl, iteN (by decide +kernel) ⟨_, rfl, rfl, _, rfl, iteY (by decide +kernel) ⟨_, rfl, p, dx, _, rfl, e1, look_no _ _ (by decide +kernel) (by decide +kernel), _, rfl, p, v, t, b, t2, b2, rfl, hp, hv, ss, pp, hg rfl, q⟩⟩⟩⟩⟩
    | turned => exact ⟨_, rfl, rfl, _, rfl, iteN (by decide +kernel) ⟨_, rfl, rfl, _, rfl, iteN (by decide +kernel) ⟨_, rfl, rfl, _, rfl, iteN (by decide +kernel) ⟨_, rfl, rfl, _, rfl, iteN (by decide +kernel) ⟨_, rfl, p, dx, _, rfl, e1, p, t, b, rfl, hp, ss.1, ss.2.1, pp.1, q⟩⟩⟩⟩⟩
end
end K11

set_option Elab.async false
set_option linter.all false
set_option maxRecDepth 100000
set_option maxHeartbeats 4000000
/-! C11: _law_compared. -/
namespace K11
open PySem PySem.Spec PyProof.Rows L2 LL
/-- a list of truths -/
def bls (bs : List Bool) : PyData := .list (bs.map .bool)
theorem bls_all : ∀ bs : List Bool, ShwAll (bs.map .bool) ∧ costAll (bs.map .bool) = 7 * bs.length
  | [] => ⟨trivial, rfl⟩
  | b :: r => by
    obtain ⟨h1, h2⟩ := bls_all r
    simp only [List.map_cons, ShwAll, Shw, costAll, cost, List.length_cons]
    exact ⟨⟨trivial, h1⟩, by omega⟩
theorem bls_shw (bs : List Bool) : Shw (bls bs) := by
  simp only [bls, Shw]
  exact (bls_all bs).1
theorem bls_cost {bs : List Bool} (h : bs.length ≤ 10) : cost (bls bs) ≤ sizeLine := by
  simp only [bls, cost]
  rw [(bls_all bs).2]
  exact small (by omega)
section
variable {P : Program} {w : World} {K : PySem.W.Frag} {mg : Str → Option Value} {base : Heap} {C : Addr} {f : Addr} {fd : FuncData}
theorem bls2_dp {H : Hp} {l : Addr} {a b : Bool} (h : H l = some (.lst [.bl a, .bl b])) : Dp K H (.ref l) (bls [a, b]) := .lst (SqL.of h) (.cons (.bl _) (.cons (.bl _) .nil))
theorem bls3_dp {H : Hp} {l : Addr} {a b c : Bool} (h : H l = some (.lst [.bl a, .bl b, .bl c])) : Dp K H (.ref l) (bls [a, b, c]) := .lst (SqL.of h) (.cons (.bl _) (.cons (.bl _) (.cons (.bl _) .nil)))
theorem dec_symm (a b : Int) : decide (a = b) = decide (b = a) := decide_eq_decide.mpr eq_comm
/-- what is compared: an amount, or an integer -/
def Sec (C : Addr) (H : Hp) (k : Bool) (v : V) (z u : Int) : Prop := (k = true ∧ v = .int z ∧ u = 1) ∨ (k = false ∧ ∃ r, v = .ref r ∧ AmtAt C H r (lt z u) (lb z u))
theorem Sec.amt {H : Hp} {k : Bool} {v : V} {z u : Int} (h : Sec C H k v z u) : AmtV C H v (lt z u) (lb z u) := by
  rcases h with ⟨_, rfl, rfl⟩ | ⟨_, r, rfl, h⟩
  · exact .inr ⟨by rw [(lt_one z).1], (lt_one z).2⟩
  · exact .inl ⟨r, rfl, h⟩
theorem Sec.same {H H' : Hp} {k : Bool} {v : V} {z u : Int} (h : Sec C H k v z u) (s : Same H H') : Sec C H' k v z u := by
  rcases h with h | ⟨e, r, e2, h⟩
  · exact .inl h
  · exact .inr ⟨e, r, e2, h.same s⟩
theorem sm_low {x y : Int} (hy : y ≠ 0) (hx : Sm x) (sy : Sm y) : Sm (lt x y) ∧ Sm (lb x y) := ⟨Nat.lt_of_le_of_lt (lt_le hy) hx, Nat.lt_of_le_of_lt (lb_le hy) sy⟩
def spCmp (C : Addr) : Sp := fun vs H Q _ => ∃ (p a : Addr) (v : V) (b : Addr) (k : Bool) (x y z u : Int), vs = [.ref p, .ref a, v, .ref b, .bl k] ∧ AmtAt C H p (lt x y) (lb x y) ∧ H a = some (.tup [.int x, .int y]) ∧ y ≠ 0 ∧ H b = some (.tup [.int z, .int u]) ∧ u ≠ 0 ∧ Sec C H k v z u ∧ (Sm x ∧ Sm y ∧ Sm z ∧ Sm u) ∧
  ∀ H', Same H H' → Q (.bl true) H'
theorem ok_l_compared (T : Tx K mg C) (G_l_lowest : Fnc P w K mg base CX0 1 "_law_lowest" [] spLow) (M_below : Mth P w K mg base CX0 5 C "below" [] (spBelow C)) (S_eq : SpF P w K mg base CX0 1 C "__eq__" (spEq K C))
    (F : FD K "_law_compared" "_law_compared" s_l_compared [] f fd) : FnG P w K mg base CX0 6 f fd ["_law_one", "_law_pair_here", "_law_second", "_law_other", "_law_is_whole"] (spCmp C) := by
  refine ok0 F sc_l_compared (fun vs H Q E h => ?_) (fun cdv A outer s H vs Q E hr h => ?_)
  · obtain ⟨p, a, v, b, k, x, y, z, u, rfl, _⟩ := h
    rfl
  · obtain ⟨p, a, v, b, k, x, y, z, u, rfl, hp, ha, hy, hb, hu, hS, ⟨sx, sy, sz, su⟩, q⟩ := h
    refine ⟨_, (pss_cons (ps_asg (pe_tup (pa_cons (pe_fn G_l_lowest (hr.mono (by decide)) pass0 (pa_cons (pv 1) pa_nil)) (pa_cons (pe_fn G_l_lowest (hr.mono (by decide)) pass0 (pa_cons (pv 3) pa_nil)) pa_nil))) (pg_tup rfl (pgs_cons (pg_tup rfl (pgs_cons (pg_name (i := 5) sc_l_compared.nd rfl (by first | exact Or.inl rfl | exact Or.inr rfl)) (pgs_cons (pg_name (i := 6) sc_l_compared.nd rfl (by first | exact Or.inl rfl | exact Or.inr rfl)) pgs_nil))) (pgs_cons (pg_tup rfl (pgs_cons (pg_name (i := 7) sc_l_compared.nd rfl (by first | exact Or.inl rfl | exact Or.inr rfl)) (pgs_cons (pg_name (i := 8) sc_l_compared.nd rfl (by first | exact Or.inl rfl | exact Or.inr rfl)) pgs_nil))) pgs_nil))))
      (pss_cons (ps_if (pt_cmpR op_ne (pe_callB call_reprF (by rfl) T.n_repr (by decide +kernel) (pa_cons (pe_mt M_below (hr.mono (by decide)) pass0 (pv 0) (pa_cons (pv 2) pa_nil)) pa_nil)) (pe_callB call_reprF (by rfl) T.n_repr (by decide +kernel) (pa_cons (pe_cmpR op_lt (pe_op op_mulX (pv 5) (pv 8)) (pe_op op_mulX (pv 7) (pv 6)) (nomark _)) pa_nil)) (nomark _)) (pss_one (ps_ret pe_bl)) pss_nil)
      (pss_cons (ps_if (pt_val (pv 4)) (pss_one (ps_ret (pe_cmpR op_eq (pe_callB (call_reprS hr) (by rfl) T.n_repr (by decide +kernel) (pa_cons (pe_lst (pa_cons (pe_cmpR (op_eqF S_eq (hr.mono (by decide)) pass0) (pv 0) (pv 2) (nomark _)) (pa_cons (pe_cmpR (op_neF S_eq T.ne T.cm (hr.mono (by decide)) pass0) (pv 0) (pv 2) (nomark _)) pa_nil))) pa_nil)) (pe_callB (call_reprS hr) (by rfl) T.n_repr (by decide +kernel) (pa_cons (pe_lst (pa_cons pe_bl (pa_cons pe_bl pa_nil))) pa_nil)) (nomark _)))) pss_nil)
      (pss_cons (ps_set (i := 9) sc_l_compared.nd rfl (by first | exact Or.inl rfl | exact Or.inr rfl) (pe_and (pe_cmpR op_eq (pv 5) (pv 7) (nomark _)) (pe_one (pe_cmpR op_eq (pv 6) (pv 8) (nomark _)))))
      (pss_one (ps_ret (pe_cmpR op_eq (pe_callB (call_reprS hr) (by rfl) T.n_repr (by decide +kernel) (pa_cons (pe_lst (pa_cons (pe_cmpR (op_eqF S_eq (hr.mono (by decide)) pass0) (pv 0) (pv 2) (nomark _)) (pa_cons (pe_cmpR (op_neF S_eq T.ne T.cm (hr.mono (by decide)) pass0) (pv 0) (pv 2) (nomark _)) (pa_cons (pe_cmpR (op_eqF S_eq (hr.mono (by decide)) pass0) (pv 2) (pv 0) (nomark _)) pa_nil)))) pa_nil)) (pe_callB (call_reprS hr) (by rfl) T.n_repr (by decide +kernel) (pa_cons (pe_lst (pa_cons (pv 9) (pa_cons (pe_not (pv 9)) (pa_cons (pv 9) pa_nil)))) pa_nil)) (nomark _)))))))), ?_⟩
    refine ⟨_, rfl, a, x, y, rfl, ha, hy, sy.lift, fun H1 r1 s1 n1 h1 => ?_⟩
    refine ⟨_, rfl, b, z, u, rfl, s1 _ _ hb, hu, su.lift, fun H2 r2 s2 n2 h2 => ?_⟩
    refine ⟨(by show 2 ≤ sizeLine; decide), fun r3 n3 => ?_⟩
    have s12 := s1.trans s2
    have s3 : Same H2 (upd H2 r3 (.tup [.ref r1, .ref r2])) := same_upd n3
    have h13 := s3 _ _ (s2 _ _ h1)
    have h23 := s3 _ _ h2
    refine ⟨r3, _, rfl, SqT.of upd_same, rfl, _, _, rfl, r1, _, rfl, SqT.of h13, rfl, _, _, rfl, _, _, rfl, rfl, _, _, rfl, r2, _, rfl, SqT.of h23, rfl, _, _, rfl, _, _, rfl, rfl, rfl, ?_⟩
    generalize upd H2 r3 (.tup [.ref r1, .ref r2]) = H3 at *
    have s13 := s12.trans s3
    have hp3 := hp.same s13
    have hS3 := hS.same s13
    have v3 := hS3.amt
    unfold Sec at hS3
    obtain ⟨l1, l2⟩ := sm_low hy sx sy
    obtain ⟨l3, l4⟩ := sm_low hu sz su
    generalize lt x y = t at *
    generalize lb x y = b1 at *
    generalize lt z u = t2 at *
    generalize lb z u = b2 at *
    obtain ⟨dx, e1⟩ := id hp3
    refine ⟨_, rfl, p, dx, _, rfl, e1, look_no _ _ (by decide +kernel) (by decide +kernel), _, rfl, p, v, t, b1, t2, b2, rfl, hp3, v3, ⟨l1, l2, l3, l4⟩, fun H4 s4 => ?_⟩
    have s14 := s13.trans s4
    have hp4 := hp3.same s4
    obtain ⟨dx4, e4⟩ := id hp4
    refine .inr (.inl ⟨_, rfl, _, rfl, _, rfl, _, _, rfl, rfl, l1.mulx l4, _, rfl, _, rfl, _, _, rfl, rfl, l3.mulx l2, _, _, rfl, rfl, .inr (.inl ⟨_, rfl, rfl, _, rfl, iteN ?_ ?_⟩)⟩)
    · rw [decide_eq_true rfl]
      rfl
    rcases hS3 with ⟨rfl, rfl, rfl⟩ | ⟨rfl, r, rfl, hr3⟩
    · refine ⟨_, rfl, _, rfl, iteT ?_⟩
      refine ⟨_, rfl, _, rfl, p, dx4, _, .type "int", rfl, e4, .base (.int _), T.fI, p, _, t, b1, .type "int", false, rfl, hp4, .base (.int _), T.kI, fun _ => ?_, fun z => nomatch z⟩
      refine ⟨_, rfl, _, rfl, p, dx4, _, .type "int", rfl, e4, .base (.int _), T.fI, p, _, t, b1, .type "int", false, rfl, hp4, .base (.int _), T.kI, fun _ => ⟨false, rfl, ?_⟩, fun z => nomatch z⟩
      refine ⟨(by show 2 ≤ sizeLine; decide), fun l hl => ⟨l, bls [false, true], rfl, bls2_dp upd_same, bls_shw _, by decide, bls_cost (by decide), ?_⟩⟩
      refine ⟨(by show 2 ≤ sizeLine; decide), fun m hm => ⟨m, bls [false, true], rfl, bls2_dp upd_same, bls_shw _, by decide, bls_cost (by decide), rfl, ?_⟩⟩
      rw [decide_eq_true rfl]
      exact q _ (s14.trans ((same_upd hl).trans (same_upd hm)))
    · refine ⟨_, rfl, _, rfl, iteF ?_⟩
      have hr4 := hr3.same s4
      obtain ⟨dy, e5⟩ := id hr4
      refine nx_of ?_
      dsimp only
      refine seq_asg ?_
      refine and_of (decide (t = t2)) (decide (b1 = b2)) (fun R h => ⟨_, rfl, _, rfl, rfl, ?_⟩) (fun _ R h => ⟨_, rfl, _, rfl, rfl, ?_⟩) ?_
      · rw [decV]
        exact h
      · rw [decV]
        exact h
      refine ⟨_, rfl, _, rfl, p, dx4, _, .ref C, rfl, e4, tyA T hr4, T.fC, p, _, t, b1, .ref C, true, rfl, hp4, tyA T hr4, T.kC, (fun z => nomatch z), fun _ => ⟨r, t2, b2, rfl, hr4, ?_⟩⟩
      refine ⟨_, rfl, _, rfl, p, dx4, _, .ref C, rfl, e4, tyA T hr4, T.fC, p, _, t, b1, .ref C, true, rfl, hp4, tyA T hr4, T.kC, (fun z => nomatch z), fun _ => ⟨r, t2, b2, rfl, hr4, _, rfl, ?_⟩⟩
      refine ⟨_, rfl, _, rfl, r, dy, _, .ref C, rfl, e5, tyA T hp4, T.fC, r, _, t2, b2, .ref C, true, rfl, hr4, tyA T hp4, T.kC, (fun z => nomatch z), fun _ => ⟨p, t, b1, rfl, hp4, ?_⟩⟩
      rw [dec_symm t2 t, dec_symm b2 b1]
      generalize (decide (t = t2) && decide (b1 = b2)) = c
      refine ⟨(by show 3 ≤ sizeLine; decide), fun l hl => ⟨l, bls [c, !c, c], rfl, bls3_dp upd_same, bls_shw _, by cases c <;> decide, bls_cost (by show 3 ≤ 10; decide), ?_⟩⟩
      refine ⟨_, rfl, _, rfl, _, rfl, _, rfl, (by show 3 ≤ sizeLine; decide), fun m hm => ⟨m, bls [c, !c, c], rfl, bls3_dp upd_same, bls_shw _, by cases c <;> decide, bls_cost (by show 3 ≤ 10; decide), rfl, ?_⟩⟩
      rw [decide_eq_true rfl]
      exact q _ (s14.trans ((same_upd hl).trans (same_upd hm)))
end
end K11

set_option Elab.async false
set_option linter.all false
set_option maxRecDepth 100000
set_option maxHeartbeats 4000000
/-! W11a: the tables that _law_right keeps. -/
namespace K11
open PySem PySem.Spec PyProof.Rows L2 LL
/-- within two hundred bits -/
def Bd (n : Int) : Prop := n.natAbs < 2 ^ 200
theorem Bd.sm {n : Int} (h : Bd n) : Sm n := Nat.lt_of_lt_of_le h (Nat.pow_le_pow_right (by decide) (by decide))
/-- a pair stands in its place -/
def POk (H : Hp) (e : Addr × Int × Int) : Prop := H e.1 = some (.tup [.int e.2.1, .int e.2.2]) ∧ e.2.2 ≠ 0 ∧ Bd e.2.1 ∧ Bd e.2.2
theorem POk.kp {H H' : Hp} {e : Addr × Int × Int} (h : POk H e) (k : Kp H H') : POk H' e := ⟨k _ _ h.1 (fun _ z => by cases z), h.2⟩
theorem AmtAt.kp {C : Addr} {H H' : Hp} {p : Addr} {t b : Int} (h : AmtAt C H p t b) (k : Kp H H') : AmtAt C H' p t b := let ⟨dx, e⟩ := h; ⟨dx, k _ _ e (fun _ z => by cases z)⟩
theorem PotAt.but {H H' : Hp} {p q : Addr} (h : PotAt H p) (b : But q H H') (n : p ≠ q) : PotAt H' p := let ⟨x, y, e, z⟩ := h; ⟨x, y, b _ _ e n, z⟩
theorem PotAt.same {H H' : Hp} {p : Addr} (h : PotAt H p) (b : Same H H') : PotAt H' p := let ⟨x, y, e, z⟩ := h; ⟨x, y, b _ _ e, z⟩
theorem PotAt.kp {H H' : Hp} {p : Addr} (h : PotAt H p) (b : But p H H') : Kp H H' := let ⟨_, _, e, _⟩ := h; b.kp e
/-- beside p, a new D -/
theorem but_new {p D : Addr} {H H' : Hp} {o : HO} (b : But p H H') (n : H D = none) : But p H (upd H' D o) := fun c u e z => by
  rw [upd_ne (ne_of_none e n)]
  exact b c u e z
abbrev prV (prs : List (Addr × Int × Int)) : List V := prs.map fun e => .ref e.1
abbrev amV (ams : List Addr) : List V := ams.map .ref
/-- the pairs and the amounts -/
structure Tab (C : Addr) (H : Hp) (lp la : Addr) (prs : List (Addr × Int × Int)) (ams : List Addr) : Prop where
  p : H lp = some (.lst (prV prs))
  a : H la = some (.lst (amV ams))
  l : ams.length = prs.length
  ok : ∀ e ∈ prs, POk H e
  am : ∀ (j : Nat) (e : Addr × Int × Int) (q : Addr), prs[j]? = some e → ams[j]? = some q → AmtAt C H q (lt e.2.1 e.2.2) (lb e.2.1 e.2.2)
theorem Tab.kp {C : Addr} {H H' : Hp} {lp la : Addr} {prs : List (Addr × Int × Int)} {ams : List Addr} (h : Tab C H lp la prs ams) (k : Kp H H') (e1 : H' lp = H lp) (e2 : H' la = H la) : Tab C H' lp la prs ams :=
  ⟨e1.trans h.p, e2.trans h.a, h.l, fun e z => (h.ok e z).kp k, fun j e q z1 z2 => (h.am j e q z1 z2).kp k⟩
theorem Tab.same {C : Addr} {H H' : Hp} {lp la : Addr} {prs : List (Addr × Int × Int)} {ams : List Addr} (h : Tab C H lp la prs ams) (s : Same H H') : Tab C H' lp la prs ams := h.kp (Kp.of s) ((s _ _ h.p).trans h.p.symm) ((s _ _ h.a).trans h.a.symm)
theorem Tab.but {C : Addr} {H H' : Hp} {p lp la : Addr} {prs : List (Addr × Int × Int)} {ams : List Addr} (h : Tab C H lp la prs ams) (hp : PotAt H p) (b : But p H H') (n1 : lp ≠ p) (n2 : la ≠ p) : Tab C H' lp la prs ams :=
  h.kp (hp.kp b) ((b _ _ h.p n1).trans h.p.symm) ((b _ _ h.a n2).trans h.a.symm)
/-- the place is there -/
theorem Tab.get {C : Addr} {H : Hp} {lp la : Addr} {prs : List (Addr × Int × Int)} {ams : List Addr} (h : Tab C H lp la prs ams) {d : Int} (d0 : 0 ≤ d) (d1 : d < prs.length) : ∃ a x y q, atI (prV prs) d = some (.ref a) ∧ atI (amV ams) d = some (.ref q) ∧ POk H (a, x, y) ∧ AmtAt C H q (lt x y) (lb x y) := by
  obtain ⟨n, rfl⟩ := Int.eq_ofNat_of_zero_le d0
  have hn : n < prs.length := by omega
  have hm : n < ams.length := by rw [h.l]; exact hn
  have e1 : prs[n]? = some prs[n] := List.getElem?_eq_getElem hn
  have e2 : ams[n]? = some ams[n] := List.getElem?_eq_getElem hm
  refine ⟨prs[n].1, prs[n].2.1, prs[n].2.2, ams[n], atI_nat ?_, atI_nat ?_, h.ok _ (List.getElem_mem hn), h.am n _ _ e1 e2⟩
  · rw [List.getElem?_map, e1]
    rfl
  · rw [List.getElem?_map, e2]
    rfl
/-- one more -/
theorem Tab.more {C : Addr} {H : Hp} {lp la : Addr} {prs : List (Addr × Int × Int)} {ams : List Addr} (h : Tab C H lp la prs ams) (ne : lp ≠ la) {e : Addr × Int × Int} {q : Addr} (he : POk H e) (hq : AmtAt C H q (lt e.2.1 e.2.2) (lb e.2.1 e.2.2)) :
    Tab C (upd (upd H lp (.lst (prV prs ++ [.ref e.1]))) la (.lst (amV ams ++ [.ref q]))) lp la (prs ++ [e]) (ams ++ [q]) := by
  have k : Kp H (upd (upd H lp (.lst (prV prs ++ [.ref e.1]))) la (.lst (amV ams ++ [.ref q]))) := (kp_upd h.p).trans (kp_upd (by rw [upd_ne ne.symm]; exact h.a))
  refine ⟨?_, ?_, by rw [List.length_append, List.length_append, h.l]; rfl, fun c hc => ?_, fun j c r h1 h2 => ?_⟩
  · rw [upd_ne ne, upd_same]
    simp [prV]
  · rw [upd_same]
    simp [amV]
  · rcases List.mem_append.mp hc with z | z
    · exact (h.ok c z).kp k
    · rw [List.mem_singleton.mp z]
      exact he.kp k
  · by_cases hj : j < prs.length
    · rw [List.getElem?_append_left hj] at h1
      rw [List.getElem?_append_left (by rw [h.l]; exact hj)] at h2
      exact (h.am j c r h1 h2).kp k
    · have hj' : j = prs.length := by
        have := (List.getElem?_eq_some_iff.mp h1).1
        rw [List.length_append, List.length_singleton] at this
        omega
      subst hj'
      rw [List.getElem?_append_right (Nat.le_refl _), Nat.sub_self] at h1
      rw [List.getElem?_append_right (by rw [h.l]; exact Nat.le_refl _), h.l, Nat.sub_self] at h2
      cases h1
      cases h2
      exact hq.kp k
/-- Amount(x, y), Amount(x) -/
def spMk2 (C : Addr) : Sp := fun vs H Q _ => ∃ x y : Int, vs = [.int x, .int y] ∧ y ≠ 0 ∧ x.natAbs < 2 ^ 4000 ∧ y.natAbs < 2 ^ 4000 ∧ ∀ H' p, Same H H' → H p = none → AmtAt C H' p (lt x y) (lb x y) → Q (.ref p) H'
def spMk1 (C : Addr) : Sp := fun vs H Q _ => ∃ x : Int, vs = [.int x] ∧ x.natAbs < 2 ^ 4000 ∧ ∀ H' p, Same H H' → H p = none → AmtAt C H' p x 1 → Q (.ref p) H'
theorem mkf2 {P : Program} {w : World} {K : PySem.W.Frag} {mg : Str → Option Value} {base : Heap} {C : Addr} (G : Mkr P w K mg base CX0 2 "Amount" C [] (spInit C)) : Mkf P w K mg base CX0 2 "Amount" (spMk2 C) := by
  refine ⟨C, [], _, G, fun vs H Q E h => ?_⟩
  obtain ⟨x, y, rfl, hy, bx, by_, q⟩ := h
  exact mk_amt hy bx by_ q
theorem mkf1 {P : Program} {w : World} {K : PySem.W.Frag} {mg : Str → Option Value} {base : Heap} {C : Addr} (G : Mkr P w K mg base CX0 2 "Amount" C [.int 1] (spInit C)) : Mkf P w K mg base CX0 2 "Amount" (spMk1 C) := by
  refine ⟨C, [.int 1], _, G, fun vs H Q E h => ?_⟩
  obtain ⟨x, rfl, bx, q⟩ := h
  refine mk_amt (y := 1) (by decide) bx (by decide +kernel) fun H' p s n ha => q H' p s n ?_
  rw [(lt_one x).1, (lt_one x).2] at ha
  exact ha
/-- sizes of what is made -/
theorem made_sm (g : Way) {x y z u : Int} (sx : Sm x) (sy : Sm y) (sz : Sm z) (su : Sm u) : Md (mT g x y z u) ∧ Md (mB g x y z u) := by
  have up : ∀ {n : Int}, n.natAbs < 2 ^ 1800 → Md n := fun h => Nat.lt_of_lt_of_le h (Nat.pow_le_pow_right (by decide) (by decide))
  have two : ∀ {m n : Int}, m.natAbs < 2 ^ 1800 → n.natAbs < 2 ^ 1800 → Md (m + n) := fun {m n} h1 h2 => by
    have h : (m + n).natAbs < 2 ^ 1801 := by
      have := Int.natAbs_add_le m n
      have e : (2 : Nat) ^ 1801 = 2 ^ 1800 + 2 ^ 1800 := by rw [Nat.pow_succ]; omega
      omega
    exact Nat.lt_of_lt_of_le h (Nat.pow_le_pow_right (by decide) (by decide))
  cases g with
  | sum => exact ⟨two (sx.mul su) (sz.mul sy), up (sy.mul su)⟩
  | gap =>
    refine ⟨?_, up (sy.mul su)⟩
    show Md (x * u - z * y)
    rw [Int.sub_eq_add_neg]
    exact two (sx.mul su) (by rw [Int.natAbs_neg]; exact sz.mul sy)
  | product => exact ⟨up (sx.mul sz), up (sy.mul su)⟩
  | part => exact ⟨up (sx.mul su), up (sy.mul sz)⟩
  | turned =>
    refine ⟨?_, sy.md⟩
    show (-x).natAbs < _
    rw [Int.natAbs_neg]
    exact sx.md
theorem Md.lift {n : Int} (h : Md n) : n.natAbs < 2 ^ 4000 := Nat.lt_of_lt_of_le h (Nat.pow_le_pow_right (by decide) (by decide))
theorem way_of {v : V} (h : v ∈ [V.str "sum", V.str "gap", V.str "product", V.str "part", V.str "turned"]) : ∃ g : Way, v = .str g.s := by
  simp only [List.mem_cons, List.not_mem_nil, or_false] at h
  rcases h with rfl | rfl | rfl | rfl | rfl
  · exact ⟨.sum, rfl⟩
  · exact ⟨.gap, rfl⟩
  · exact ⟨.product, rfl⟩
  · exact ⟨.part, rfl⟩
  · exact ⟨.turned, rfl⟩
end K11

set_option Elab.async false
set_option linter.all false
set_option maxRecDepth 100000
set_option maxHeartbeats 4000000
/-! W11: _law_right. -/
namespace K11
open PySem PySem.Spec PyProof.Rows L2 LL
abbrev s_l_right : Stmt := top 21
abbrev n_l_right : List Str := ["_law_pot_here", "_law_pairs", "_law_turn", "_law_amounts", "_law_pair_here", "_law_place", "_law_way", "_law_whole_here", "_law_spot", "_law_is_whole", "_law_second", "_law_other", "_law_due", "_law_made_here", "_law_amount"]
theorem sc_l_right : FnScope n_l_right ["_law_pot_here"] (defScope s_l_right) := ⟨rfl, rfl, rfl, by decide +kernel, rfl, by decide +kernel, by decide +kernel⟩
section
variable {P : Program} {w : World} {K : PySem.W.Frag} {mg : Str → Option Value} {base : Heap} {C : Addr} {f : Addr} {fd : FuncData}
def spRight : Sp := fun vs H Q _ => ∃ p : Addr, vs = [.ref p] ∧ PotAt H p ∧ ∀ H', But p H H' → Q (.bl true) H'
/-- the locals -/
def StR (p lp la : Addr) (σ : L2.St) : Prop := ∃ v2 v4 v5 v6 v7 v8 v9 v10 v11 v12 v13 v14 : Option V, σ = [some (.ref p), some (.ref lp), v2, some (.ref la), v4, v5, v6, v7, v8, v9, v10, v11, v12, v13, v14]
theorem ok_l_right (T : Tx K mg C) (G_l_pair : Fnc P w K mg base CX0 4 "_law_pair" [] spPair) (G_l_digit : Fnc P w K mg base CX0 1 "_law_digit" [] spDigit) (G_l_pick : Fnc P w K mg base CX0 2 "_law_pick" [] spPick) (G_l_whole : Fnc P w K mg base CX0 3 "_law_whole" [] spWhole)
    (G_l_compared : Fnc P w K mg base CX0 6 "_law_compared" [] (spCmp C)) (G_l_lowest : Fnc P w K mg base CX0 1 "_law_lowest" [] spLow) (G_l_made : Fnc P w K mg base CX0 1 "_law_made" [] spMade) (G_l_told : Fnc P w K mg base CX0 6 "_law_told" [] (spTold C)) (G_l_is : Fnc P w K mg base CX0 5 "_law_is" [] (spIs C))
    (K_Amount1 : Mkf P w K mg base CX0 2 "Amount" (spMk1 C)) (K_Amount2 : Mkf P w K mg base CX0 2 "Amount" (spMk2 C)) (S_repr : SpF P w K mg base CX0 1 C "__repr__" (spShow C repS))
    (F : FD K "_law_right" "_law_right" s_l_right [] f fd) : FnG P w K mg base CX0 7 f fd ["_law_pot_here"] spRight := by
  refine ok0 F sc_l_right (fun vs H Q E h => ?_) (fun cdv A outer s H vs Q E hr h => ?_)
  · obtain ⟨p, rfl, _⟩ := h
    rfl
  · obtain ⟨p, rfl, hp, q⟩ := h
    refine ⟨_, (pss_cons (ps_setLc (i := 1) (own := [("_law_turn", 2)]) rfl sc_l_right.nd rfl rfl (sw_true rfl rfl rfl (by decide +kernel)) (pi_range1 (by rfl) T.n_range (pa_cons pe_int pa_nil)) (blkOk_by (own := [("_law_turn", 2)]) (N := n_l_right) (sc := defScope s_l_right) (by decide +kernel)) (fun _ _ _ _ _ => (pg_name (i := 2) sc_l_right.nd rfl (by first | exact Or.inl rfl | exact Or.inr rfl))) (fun _ _ _ _ _ => pts_nil) (fun _ _ _ _ _ => (pe_fn G_l_pair (hr.mono (by decide)) pass0 (pa_cons (pv 0) pa_nil))))
      (pss_cons (ps_expr (pe_bm PySem.F.plainAttrs_list PySem.F.slot_list_append PySem.F.type_list_append mt_append (pv 1) (pa_cons (pe_tup (pa_cons (pe_op op_mulX (pe_ix ix_tup (pe_ix ix_list (pv 1) pe_int (fun _ _ => rfl)) pe_int (fun _ _ => rfl)) (pe_un un_neg pe_int)) (pa_cons (pe_op op_mulX (pe_ix ix_tup (pe_ix ix_list (pv 1) pe_int (fun _ _ => rfl)) pe_int (fun _ _ => rfl)) (pe_un un_neg pe_int)) pa_nil))) pa_nil)))
      (pss_cons (ps_setLc (i := 3) (own := [("_law_pair_here", 4)]) rfl sc_l_right.nd rfl rfl (sw_true rfl rfl rfl (by decide +kernel)) (pi_list (pv 1)) (blkOk_by (own := [("_law_pair_here", 4)]) (N := n_l_right) (sc := defScope s_l_right) (by decide +kernel)) (fun _ _ _ _ _ => (pg_name (i := 4) sc_l_right.nd rfl (by first | exact Or.inl rfl | exact Or.inr rfl))) (fun _ _ _ _ _ => pts_nil) (fun _ _ _ _ _ => (pe_mf K_Amount2 (hr.mono (by decide)) pass0 (pa_cons (pe_ix (ix_tupK (K := K) (by rfl)) (pv 4) pe_int (fun _ _ => rfl)) (pa_cons (pe_ix (ix_tupK (K := K) (by rfl)) (pv 4) pe_int (fun _ _ => rfl)) pa_nil)))))
      (pss_cons (ps_for PassesOwn.never rfl (pi_range1 (by rfl) T.n_range (pa_cons (pe_fn G_l_digit (hr.mono (by decide)) pass0 (pa_cons (pv 0) (pa_cons pe_int pa_nil))) pa_nil)) (pg_name (i := 2) sc_l_right.nd rfl (by first | exact Or.inl rfl | exact Or.inr rfl)) (pss_cons (ps_par (i := 5) (j := 6) rfl sc_l_right.nd rfl rfl (by decide) rfl rfl (pa_cons (pe_fn G_l_digit (hr.mono (by decide)) pass0 (pa_cons (pv 0) (pa_cons (pe_callB call_len_seq (by rfl) T.n_len (by decide +kernel) (pa_cons (pv 3) pa_nil)) pa_nil))) (pa_cons (pe_fn G_l_pick (hr.mono (by decide)) pass0 (pa_cons (pv 0) (pa_cons (pe_lst (pa_cons pe_str (pa_cons pe_str (pa_cons pe_str (pa_cons pe_str (pa_cons pe_str pa_nil)))))) pa_nil))) pa_nil)) (by rfl))
      (pss_cons (ps_par (i := 7) (j := 8) rfl sc_l_right.nd rfl rfl (by decide) rfl rfl (pa_cons (pe_fn G_l_whole (hr.mono (by decide)) pass0 (pa_cons (pv 0) pa_nil)) (pa_cons (pe_fn G_l_digit (hr.mono (by decide)) pass0 (pa_cons (pv 0) (pa_cons (pe_callB call_len_seq (by rfl) T.n_len (by decide +kernel) (pa_cons (pv 3) pa_nil)) pa_nil))) pa_nil)) (by rfl))
      (pss_cons (ps_set (i := 9) sc_l_right.nd rfl (by first | exact Or.inl rfl | exact Or.inr rfl) (pe_cmpR op_eq (pe_fn G_l_digit (hr.mono (by decide)) pass0 (pa_cons (pv 0) (pa_cons pe_int pa_nil))) pe_int (nomark _)))
      (pss_cons (ps_asg (pe_ifExp (pt_val (pv 9)) (pe_tup (pa_cons (pv 7) (pa_cons (pe_tup (pa_cons (pv 7) (pa_cons pe_int pa_nil))) pa_nil))) (pe_tup (pa_cons (pe_ix ix_list (pv 3) (pv 8) (fun _ _ => rfl)) (pa_cons (pe_ix ix_list (pv 1) (pv 8) (fun _ _ => rfl)) pa_nil)))) (pg_tup rfl (pgs_cons (pg_name (i := 10) sc_l_right.nd rfl (by first | exact Or.inl rfl | exact Or.inr rfl)) (pgs_cons (pg_name (i := 11) sc_l_right.nd rfl (by first | exact Or.inl rfl | exact Or.inr rfl)) pgs_nil))))
      (pss_cons (ps_if (pt_not (pt_val (pe_fn G_l_compared (hr.mono (by decide)) pass0 (pa_cons (pe_ix ix_list (pv 3) (pv 5) (fun _ _ => rfl)) (pa_cons (pe_ix ix_list (pv 1) (pv 5) (fun _ _ => rfl)) (pa_cons (pv 10) (pa_cons (pv 11) (pa_cons (pv 9) pa_nil)))))))) (pss_one (ps_ret pe_bl)) pss_nil)
      (pss_cons (ps_if (PW.pt (pw_and (pt_cmpR op_eq (pv 6) pe_str (nomark _)) (pw_and1 (pt_cmpR op_eq (pe_ix ix_tup (pv 11) pe_int (fun _ _ => rfl)) pe_int (nomark _))))) (pss_one (ps_set (i := 6) sc_l_right.nd rfl (by first | exact Or.inl rfl | exact Or.inr rfl) pe_str)) pss_nil)
      (pss_cons (ps_set (i := 12) sc_l_right.nd rfl (by first | exact Or.inl rfl | exact Or.inr rfl) (pe_fn G_l_lowest (hr.mono (by decide)) pass0 (pa_cons (pe_fn G_l_made (hr.mono (by decide)) pass0 (pa_cons (pv 6) (pa_cons (pe_ix ix_list (pv 1) (pv 5) (fun _ _ => rfl)) (pa_cons (pv 11) pa_nil)))) pa_nil)))
      (pss_cons (ps_set (i := 13) sc_l_right.nd rfl (by first | exact Or.inl rfl | exact Or.inr rfl) (pe_fn G_l_told (hr.mono (by decide)) pass0 (pa_cons (pv 6) (pa_cons (pe_ix ix_list (pv 3) (pv 5) (fun _ _ => rfl)) (pa_cons (pv 10) pa_nil)))))
      (pss_cons (ps_if (pt_not (pt_val (pe_fn G_l_is (hr.mono (by decide)) pass0 (pa_cons (pv 13) (pa_cons (pv 12) pa_nil))))) (pss_one (ps_ret pe_bl)) pss_nil)
      (pss_one (ps_if (pt_cmpR op_lt (pe_callB (call_max2 rfl) (by rfl) T.n_max (by decide +kernel) (pa_cons (pe_callB call_abs (by rfl) T.n_abs (by decide +kernel) (pa_cons (pe_ix ix_tup (pv 12) pe_int (fun _ _ => rfl)) pa_nil)) (pa_cons (pe_ix ix_tup (pv 12) pe_int (fun _ _ => rfl)) pa_nil))) (pe_op op_pow pe_int pe_int) (nomark _)) (pss_cons (ps_expr (pe_bm PySem.F.plainAttrs_list PySem.F.slot_list_append PySem.F.type_list_append mt_append (pv 1) (pa_cons (pv 12) pa_nil)))
      (pss_one (ps_expr (pe_bm PySem.F.plainAttrs_list PySem.F.slot_list_append PySem.F.type_list_append mt_append (pv 3) (pa_cons (pv 13) pa_nil))))) pss_nil))))))))))))
      (pss_cons (ps_if (pt_cmpR op_ne (pe_callB (call_reprOF S_repr (hr.mono (by decide)) pass0) (by rfl) T.n_repr (by decide +kernel) (pa_cons (pe_mf K_Amount1 (hr.mono (by decide)) pass0 (pa_cons pe_int pa_nil)) pa_nil)) pe_str (nomark _)) (pss_one (ps_ret pe_bl)) pss_nil)
      (pss_one (ps_ret (pe_callB (cr_all rfl) (by rfl) T.n_all (by decide +kernel) (pa_cons (pe_lc (g := (gTup K 2 (gCons (gName 14) (gCons (gName 4) gNil)))) (own := [("_law_amount", 14), ("_law_pair_here", 4)]) rfl sc_l_right.nd (pi_zip (by rfl) T.n_zip (pa_cons (pv 3) (pa_cons (pv 1) pa_nil))) (blkOk_by (own := [("_law_amount", 14), ("_law_pair_here", 4)]) (N := n_l_right) (sc := defScope s_l_right) (by decide +kernel)) (fun _ _ _ _ _ => (pg_tup rfl (pgs_cons (pg_name (i := 14) sc_l_right.nd rfl (by first | exact Or.inl rfl | exact Or.inr rfl)) (pgs_cons (pg_name (i := 4) sc_l_right.nd rfl (by first | exact Or.inl rfl | exact Or.inr rfl)) pgs_nil)))) (fun _ _ _ _ _ => pts_nil) (fun _ _ _ _ _ => (pe_fn G_l_is (hr.mono (by decide)) pass0 (pa_cons (pv 14) (pa_cons (pv 4) pa_nil))))) pa_nil))))))))), ?_⟩
    -- the pairs
    refine seq_cut (fun σ' H' => But p H H' ∧ PotAt H' p ∧ ∃ (lp : Addr) (prs : List (Addr × Int × Int)), H lp = none ∧ lp ≠ p ∧ H' lp = some (.lst (prV prs)) ∧ prs.length = 4 ∧ (∀ e ∈ prs, POk H' e ∧ e.2.1.natAbs < 2 ^ 90 ∧ e.2.2.natAbs < 2 ^ 90) ∧ σ' = [some (.ref p), some (.ref lp), none, none, none, none, none, none, none, none, none, none, none, none, none]) (fun N hN => ?_) ?_
    · refine ⟨4, rfl, by decide, by decide, fun D hD => ?_⟩
      refine lc_range (lo := 0) (n := 4) (fun i H' => But p H H' ∧ PotAt H' p ∧ ∃ prs : List (Addr × Int × Int), H' D = some (.lst (prV prs)) ∧ prs.length = i ∧ ∀ e ∈ prs, POk H' e ∧ e.2.1.natAbs < 2 ^ 90 ∧ e.2.2.natAbs < 2 ^ 90) ?_ ?_ ?_
      · exact ⟨But.of (same_upd hD), hp.upd hD, [], upd_same, rfl, fun e z => by cases z⟩
      · rintro i H1 hi ⟨b1, hp1, prs, h1, l1, k1⟩
        refine ⟨rfl, _, rfl, p, rfl, hp1, fun H2 r x y b2 hp2 nr nrp hr2 hy bx by_ => ?_⟩
        have nD : D ≠ p := hp.ne hD
        have h2 : H2 D = some (.lst (prV prs)) := b2 _ _ h1 nD
        have k2 : Kp H1 H2 := hp1.kp b2
        have k3 : Kp H2 (upd H2 D (.lst (prV prs ++ [.ref r]))) := kp_upd h2
        refine ⟨_, h2, by rw [List.length_map, l1]; exact Nat.lt_of_lt_of_le hi (by decide), but_new (b1.trans b2) hD, hp2.but but_upd nD.symm, prs ++ [(r, x, y)], ?_, ?_, ?_⟩
        · rw [upd_same]
          simp [prV]
        · rw [List.length_append, l1]
          rfl
        · intro e he
          rcases List.mem_append.mp he with z | z
          · exact ⟨(k1 e z).1.kp (k2.trans k3), (k1 e z).2⟩
          · rw [List.mem_singleton.mp z]
            have up : ∀ {n : Int}, n.natAbs < 2 ^ 90 → Bd n := fun h => Nat.lt_of_lt_of_le h (Nat.pow_le_pow_right (by decide) (by decide))
            exact ⟨⟨k3 _ _ hr2 (fun _ z => by cases z), hy, up bx, up by_⟩, bx, by_⟩
      · rintro H1 ⟨b1, hp1, prs, h1, l1, k1⟩
        exact hN _ _ ⟨b1, hp1, D, prs, hD, hp.ne hD, h1, l1, k1, rfl⟩
    rintro σ H1 ⟨b1, hp1, lp, prs, nlp, nep, h1, l1, k1, rfl⟩
    -- one more pair
    refine seq_cut (fun σ' H' => But p H H' ∧ PotAt H' p ∧ ∃ (prs : List (Addr × Int × Int)), H' lp = some (.lst (prV prs)) ∧ prs.length = 5 ∧ (∀ e ∈ prs, POk H' e) ∧ σ' = [some (.ref p), some (.ref lp), none, none, none, none, none, none, none, none, none, none, none, none, none]) (fun N hN => ?_) ?_
    · obtain ⟨⟨a0, x0, y0⟩, rest, rfl⟩ : ∃ e r, prs = e :: r := by
        cases prs with
        | nil => cases l1
        | cons e r => exact ⟨e, r, rfl⟩
      obtain ⟨⟨e0, ey, _, _⟩, bx, by_⟩ := k1 _ (List.mem_cons_self ..)
      have at0 : atI (prV ((a0, x0, y0) :: rest)) 0 = some (.ref a0) := atI_nat (j := 0) rfl
      have i0 : atI [V.int x0, V.int y0] 0 = some (.int x0) := atI_nat (j := 0) rfl
      have i1 : atI [V.int x0, V.int y0] 1 = some (.int y0) := atI_nat (j := 1) rfl
      refine ⟨_, rfl, .inl ⟨rfl, _, SqL.of h1⟩, _, rfl, lp, _, _, _, rfl, rfl, SqL.of h1, at0, a0, _, _, _, rfl, rfl, SqT.of e0, i0, _, rfl, _, _, rfl, rfl, mulx_ok (a := 90) (b := 3) bx (by decide) (by decide), ?_⟩
      refine ⟨_, rfl, lp, _, _, _, rfl, rfl, SqL.of h1, at0, a0, _, _, _, rfl, rfl, SqT.of e0, i1, _, rfl, _, _, rfl, rfl, mulx_ok (a := 90) (b := 3) by_ (by decide) (by decide), (by show 2 ≤ sizeLine; decide), fun r hr1 => ?_⟩
      have hlr : lp ≠ r := ne_of_none h1 hr1
      refine ⟨lp, _, _, rfl, rfl, (by rw [upd_ne hlr]; exact h1), (by rw [List.length_map, l1]; decide), hN _ _ ?_⟩
      have sm : ∀ {n : Int}, n.natAbs < 2 ^ 90 → Bd (n * -7) := fun {n} h => by
        have : (n * -7).natAbs = n.natAbs * 7 := Int.natAbs_mul n (-7)
        show (n * -7).natAbs < _
        rw [this]
        exact Nat.lt_of_lt_of_le (Nat.mul_lt_mul_of_pos_right h (by decide)) (by decide)
      have k2 : Kp H1 (upd (upd H1 r (.tup [.int (x0 * -7), .int (y0 * -7)])) lp (.lst (prV ((a0, x0, y0) :: rest) ++ [.ref r]))) := (Kp.of (same_upd hr1)).trans (kp_upd (by rw [upd_ne hlr]; exact h1))
      refine ⟨but_new (b1.trans (But.of (same_upd hr1))) nlp, (hp1.upd hr1).but but_upd nep.symm, (a0, x0, y0) :: rest ++ [(r, x0 * -7, y0 * -7)], ?_, ?_, ?_, rfl⟩
      · rw [upd_same]
        simp [prV]
      · rw [List.length_append, l1]
        rfl
      · intro e he
        rcases List.mem_append.mp he with z | z
        · exact (k1 e z).1.kp k2
        · rw [List.mem_singleton.mp z]
          exact ⟨by rw [upd_ne hlr.symm, upd_same], by have : y0 ≠ 0 := ey; show y0 * -7 ≠ 0; omega, sm bx, sm by_⟩
    clear h1 l1 k1 hp1 b1 prs
    rintro σ H1 ⟨b1, hp1, prs, h1, l1, k1, rfl⟩
    -- the amounts
    refine seq_cut (fun σ' H' => But p H H' ∧ PotAt H' p ∧ ∃ (la : Addr) (ams : List Addr), H la = none ∧ la ≠ p ∧ lp ≠ la ∧ Tab C H' lp la prs ams ∧ σ' = [some (.ref p), some (.ref lp), none, some (.ref la), none, none, none, none, none, none, none, none, none, none, none]) (fun N hN => ?_) ?_
    · refine ⟨_, rfl, lp, rfl, ⟨_, SqL.of h1⟩, fun D hD => ?_⟩
      have nDl : lp ≠ D := ne_of_none h1 hD
      have nD : D ≠ p := hp1.ne hD
      have hDH : H D = none := b1.free nD hD
      refine lc_list (xs := prV prs) (fun i H' => Kp H1 H' ∧ But p H H' ∧ PotAt H' p ∧ H' lp = H1 lp ∧ ∃ ams : List Addr, H' D = some (.lst (amV ams)) ∧ ams.length = i ∧ ∀ (j : Nat) (e : Addr × Int × Int) (q : Addr), prs[j]? = some e → ams[j]? = some q → AmtAt C H' q (lt e.2.1 e.2.2) (lb e.2.1 e.2.2)) ?_ ?_ ?_ ?_
      · exact ⟨Kp.of (same_upd hD), (b1.trans (But.of (same_upd hD))), hp1.upd hD, upd_ne nDl, [], upd_same, rfl, fun j e q _ z => by cases z⟩
      · rintro i H2 _ ⟨_, _, _, e, _⟩
        exact SqL.of (e.trans h1)
      · rintro i v H2 hv ⟨k2, b2, hp2, e2, ams, hD2, l2, am2⟩
        obtain ⟨e, he, rfl⟩ : ∃ e, prs[i]? = some e ∧ v = .ref e.1 := by
          rw [List.getElem?_map] at hv
          cases z : prs[i]? with
          | none =>
            rw [z] at hv
            cases hv
          | some e =>
            rw [z] at hv
            exact ⟨e, rfl, (Option.some.inj hv).symm⟩
        obtain ⟨ee, ey, bx, by_⟩ := (k1 e (List.mem_of_getElem? he)).kp k2
        refine ⟨rfl, _, rfl, e.1, _, _, _, rfl, rfl, SqT.of ee, atI_nat (j := 0) rfl, _, rfl, e.1, _, _, _, rfl, rfl, SqT.of ee, atI_nat (j := 1) rfl, _, _, rfl, ey, bx.sm.lift, by_.sm.lift, fun H3 r s3 n3 ha => ?_⟩
        have hD3 := s3 _ _ hD2
        have k3 : Kp H3 (upd H3 D (.lst (amV ams ++ [.ref r]))) := kp_upd hD3
        refine ⟨_, hD3, ?_, k2.trans ((Kp.of s3).trans k3), but_new (b2.trans (But.of s3)) hDH, (hp2.same s3).but but_upd nD.symm, ?_, ams ++ [r], ?_, ?_, ?_⟩
        · have := (List.getElem?_eq_some_iff.mp he).1
          rw [List.length_map, l2]
          exact Nat.lt_of_lt_of_le (by omega) (show 5 ≤ sizeLine by decide)
        · rw [upd_ne nDl, h1]
          exact (s3 _ _ (e2.trans h1))
        · rw [upd_same]
          simp [amV]
        · rw [List.length_append, l2]
          rfl
        · intro j c q h4 h5
          by_cases hj : j < ams.length
          · rw [List.getElem?_append_left hj] at h5
            exact (am2 j c q h4 h5).kp ((Kp.of s3).trans k3)
          · have hj' : j = ams.length := by
              have := (List.getElem?_eq_some_iff.mp h5).1
              rw [List.length_append, List.length_singleton] at this
              omega
            subst hj'
            rw [List.getElem?_append_right (Nat.le_refl _), Nat.sub_self] at h5
            cases h5
            rw [l2, he] at h4
            cases h4
            exact ha.kp k3
      · rintro H2 ⟨k2, b2, hp2, e2, ams, hD2, l2, am2⟩
        rw [List.length_map] at l2
        exact hN _ _ ⟨b2, hp2, D, ams, hDH, nD, nDl, ⟨e2.trans h1, hD2, l2, fun e z => (k1 e z).kp k2, am2⟩, rfl⟩
    rintro σ H2 ⟨b2, hp2, la, ams, nla, nap, nll, tb, rfl⟩
    -- the turns
    refine seq_cut (fun σ' H' => But p H H' ∧ PotAt H' p ∧ (∃ prs ams, Tab C H' lp la prs ams ∧ prs.length ≤ 40) ∧ StR p lp la σ') (fun N hN => ?_) ?_
    · refine ⟨_, rfl, p, 31, rfl, hp2, by decide, by decide, fun H3 d b3 hp3 d0 d1 => ⟨_, rfl, by omega, by omega, ?_⟩⟩
      refine for_range (lo := 0) (n := d.toNat) (fun i σ' H' => But p H H' ∧ PotAt H' p ∧ (∃ prs ams, Tab C H' lp la prs ams ∧ 1 ≤ prs.length ∧ prs.length ≤ 5 + i) ∧ StR p lp la σ') ?_ ?_ ?_
      · exact ⟨b2.trans b3, hp3, ⟨prs, ams, tb.but hp2 b3 nep nap, by omega, by omega⟩, _, _, _, _, _, _, _, _, _, _, _, _, rfl⟩
      · clear b2 hp2 tb b3 hp3 h1 l1 k1 hN
        clear prs ams
        rintro i σ H3 hi ⟨b3, hp3, ⟨prs, ams, tb, lo, hi2⟩, v2, v4, v5, v6, v7, v8, v9, v10, v11, v12, v13, v14, rfl⟩
        have len : ((amV ams).length : Int) = prs.length := by rw [List.length_map, tb.l]
        -- place, way
        refine ⟨_, rfl, _, rfl, la, _, rfl, .inl (SqL.of tb.a), p, _, rfl, hp3, by omega, by omega, fun H4 d4 b4 hp4 d40 d41 => ?_⟩
        have tb4 := tb.but hp3 b4 nep nap
        refine ⟨_, rfl, (by show 5 ≤ sizeLine; decide), fun l hl => ⟨p, l, _, rfl, hp4.upd hl, upd_same, by simp, by decide, hp4.ne hl, fun H5 v b5 hp5 hv => ?_⟩⟩
        have tb5 := (tb4.same (same_upd hl)).but (hp4.upd hl) b5 nep nap
        have b35 : But p H H5 := (b3.trans b4).trans ((But.of (same_upd hl)).trans b5)
        obtain ⟨g, rfl⟩ := way_of hv
        refine ⟨_, _, rfl, ?_⟩
        -- whole, spot
        refine ⟨_, rfl, p, rfl, hp5, fun H6 n b6 hp6 bn => ?_⟩
        have tb6 := tb5.but hp5 b6 nep nap
        refine ⟨_, rfl, _, rfl, la, _, rfl, .inl (SqL.of tb6.a), p, _, rfl, hp6, by omega, by omega, fun H7 d7 b7 hp7 d70 d71 => ⟨_, _, rfl, ?_⟩⟩
        have tb7 := tb6.but hp6 b7 nep nap
        -- is_whole
        refine ⟨_, rfl, p, 3, rfl, hp7, by decide, by decide, fun H8 d8 b8 hp8 _ _ => ⟨rfl, ?_⟩⟩
        have tb8 := tb7.but hp7 b8 nep nap
        have b38 : But p H H8 := ((b35.trans b6).trans b7).trans b8
        generalize decide (V.int d8 = V.int 0) = kb
        rw [len] at d41 d71
        clear b3 b4 b5 b6 b7 b8 b35 hp3 hp4 hp5 hp6 hp7 tb tb4 tb5 tb6 tb7 hv
        have bN : Bd n := Nat.lt_of_lt_of_le bn (Nat.pow_le_pow_right (by decide) (by decide))
        -- second, other
        refine nx_of ?_
        dsimp only
        refine seq_cut (fun σ' H' => ∃ (v : V) (b : Addr) (z u : Int), Same H8 H' ∧ H' b = some (.tup [.int z, .int u]) ∧ u ≠ 0 ∧ Bd z ∧ Bd u ∧ Sec C H' kb v z u ∧ σ' = [some (.ref p), some (.ref lp), some (.int (0 + i)), some (.ref la), v4, some (.int d4), some (.str g.s), some (.int n), some (.int d7), some (.bl kb), some v, some (.ref b), v12, v13, v14]) (fun N hN => ?_) ?_
        · refine ⟨_, rfl, _, rfl, iteB (fun e => ?_) (fun e => ?_)⟩
          · subst e
            refine ⟨_, rfl, _, rfl, (by show 2 ≤ sizeLine; decide), fun t1 n1 => ⟨(by show 2 ≤ sizeLine; decide), fun t2 n2 => ⟨t2, _, rfl, SqT.of upd_same, rfl, _, _, rfl, _, _, rfl, rfl, hN _ _ ?_⟩⟩⟩
            exact ⟨_, t1, n, 1, (same_upd n1).trans (same_upd n2), (same_upd n2) _ _ upd_same, by decide, bN, (by show Int.natAbs 1 < 2 ^ 200; decide +kernel), .inl ⟨rfl, rfl, rfl⟩, rfl⟩
          · subst e
            obtain ⟨a, x, y, q, e1, e2, pk, am⟩ := tb8.get d70 d71
            refine ⟨_, rfl, _, rfl, la, _, _, _, rfl, rfl, SqL.of tb8.a, e2, _, rfl, _, rfl, lp, _, _, _, rfl, rfl, SqL.of tb8.p, e1, (by show 2 ≤ sizeLine; decide), fun t ht => ⟨t, _, rfl, SqT.of upd_same, rfl, _, _, rfl, _, _, rfl, rfl, hN _ _ ?_⟩⟩
            have s9 := same_upd (o := .tup [.ref q, .ref a]) ht
            exact ⟨_, a, x, y, s9, s9 _ _ pk.1, pk.2.1, pk.2.2.1, pk.2.2.2, .inr ⟨rfl, q, rfl, am.same s9⟩, rfl⟩
        rintro σ H9 ⟨v, b, z, u, s9, hb, hu, bz, bu, sec, rfl⟩
        have b39 : But p H H9 := b38.trans (But.of s9)
        have hp9 := hp8.same s9
        have tb9 := tb8.same s9
        clear b38 hp8 tb8 s9
        obtain ⟨a, x, y, r, e1, e2, pk, am⟩ := tb9.get d40 d41
        obtain ⟨ha, hy, bx, by_⟩ := pk
        -- compared
        refine ⟨_, rfl, _, rfl, la, _, _, _, rfl, rfl, SqL.of tb9.a, e2, _, rfl, _, rfl, lp, _, _, _, rfl, rfl, SqL.of tb9.p, e1, _, rfl, _, rfl, _, rfl, r, a, v, b, kb, x, y, z, u, rfl, am, ha, hy, hb, hu, sec, ⟨bx.sm, by_.sm, bz.sm, bu.sm⟩, fun H10 s10 => ⟨_, rfl, iteN rfl ?_⟩⟩
        have b310 : But p H H10 := b39.trans (But.of s10)
        have hp10 := hp9.same s10
        have tb10 := tb9.same s10
        have am10 := am.same s10
        have ha10 := s10 _ _ ha
        have hb10 := s10 _ _ hb
        have sec10 := sec.same s10
        clear b39 hp9 tb9 am ha hb sec s10
        -- the way
        refine nx_of ?_
        dsimp only
        refine seq_cut (fun σ' H' => H' = H10 ∧ ∃ g : Way, (g = .part → z ≠ 0) ∧ σ' = [some (.ref p), some (.ref lp), some (.int (0 + i)), some (.ref la), v4, some (.int d4), some (.str g.s), some (.int n), some (.int d7), some (.bl kb), some v, some (.ref b), v12, v13, v14]) (fun N hN => ?_) ?_
        · have i0 : atI [V.int z, V.int u] 0 = some (.int z) := atI_nat (j := 0) rfl
          cases g with
          | part =>
            refine ⟨_, rfl, rfl, _, rfl, iteY (by decide +kernel) ⟨_, rfl, b, _, _, _, rfl, rfl, SqT.of hb10, i0, rfl, _, rfl, iteB (fun e => ?_) (fun e => ?_)⟩⟩
            · exact hN _ _ ⟨rfl, .sum, (fun z => by cases z), rfl⟩
            · exact hN _ _ ⟨rfl, .part, (fun _ q => by rw [dec_eq q] at e; cases e), rfl⟩
          | sum => exact ⟨_, rfl, rfl, _, rfl, iteN (by decide +kernel) (hN _ _ ⟨rfl, .sum, (fun z => by cases z), rfl⟩)⟩
          | gap => exact ⟨_, rfl, rfl, _, rfl, iteN (by decide +kernel) (hN _ _ ⟨rfl, .gap, (fun z => by cases z), rfl⟩)⟩
          | product => exact ⟨_, rfl, rfl, _, rfl, iteN (by decide +kernel) (hN _ _ ⟨rfl, .product, (fun z => by cases z), rfl⟩)⟩
          | turned => exact ⟨_, rfl, rfl, _, rfl, iteN (by decide +kernel) (hN _ _ ⟨rfl, .turned, (fun z => by cases z), rfl⟩)⟩
        clear g
        rintro σ H11 ⟨rfl, g, hg, rfl⟩
        -- due
        obtain ⟨m1, m2⟩ := made_sm g bx.sm by_.sm bz.sm bu.sm
        have ne := made_ne g (a := x) (c := z) hy hu hg
        refine ⟨_, rfl, _, rfl, _, rfl, lp, _, _, _, rfl, rfl, SqL.of tb10.p, e1, _, rfl, g, a, b, x, y, z, u, rfl, ha10, hb10, ⟨bx.sm, by_.sm, bz.sm, bu.sm⟩, fun H12 r1 s12 n12 h12 => ?_⟩
        refine ⟨r1, _, _, rfl, h12, ne, m2.lift, fun H13 r2 s13 n13 h13 => ?_⟩
        have s13 := s12.trans s13
        have tb13 := tb10.same s13
        -- made
        obtain ⟨l1, l2⟩ := sm_low hy bx.sm by_.sm
        obtain ⟨l3, l4⟩ := sm_low hu bz.sm bu.sm
        refine ⟨_, rfl, _, rfl, _, rfl, la, _, _, _, rfl, rfl, SqL.of tb13.a, e2, _, rfl, g, r, v, _, _, _, _, rfl, am10.same s13, (sec10.same s13).amt, ⟨l1, l2, l3, l4⟩, ⟨lb_pos hy, lb_pos hu⟩, (fun q => fun w => hg q ((lt_zero hu).mp w)), fun H14 r3 s14 n14 h14 => ?_⟩
        obtain ⟨q1, q2⟩ := made_low g (a := x) (c := z) hy hu hg
        rw [← q1, ← q2] at h14
        have h13' := s14 _ _ h13
        have s15 := s13.trans s14
        have tb14 := tb10.same s15
        have b14 : But p H H14 := b310.trans (But.of s15)
        have hp14 := hp10.same s15
        have i1 := lt_idem (x := mT g x y z u) ne
        have i2 := lb_idem (x := mT g x y z u) ne
        have o1 : Md (lt (mT g x y z u) (mB g x y z u)) := Nat.lt_of_le_of_lt (lt_le ne) m1
        have o2 : Md (lb (mT g x y z u) (mB g x y z u)) := Nat.lt_of_le_of_lt (lb_le ne) m2
        have o3 := lb_pos (x := mT g x y z u) ne
        clear h13 h12 s12 s13 s14 s15 tb13 tb10 b310 hp10 q1 q2 m1 m2 am10 ha10 hb10 sec10
        generalize lt (mT g x y z u) (mB g x y z u) = X at *
        generalize lb (mT g x y z u) (mB g x y z u) = Y at *
        -- is
        refine ⟨_, rfl, _, rfl, r3, r2, X, Y, rfl, (by rw [i1, i2]; exact h14), h13', (by omega), o2.lift, (by rw [i1]; exact o1), (by rw [i2]; exact o2), fun H15 s15 => ⟨_, rfl, iteN rfl ?_⟩⟩
        have tb15 := tb14.same s15
        have b15 := b14.trans (But.of (p := p) s15)
        have hp15 := hp14.same s15
        have h15 := s15 _ _ h13'
        have a15 := h14.same s15
        have j0 : atI [V.int X, V.int Y] 0 = some (.int X) := atI_nat (j := 0) rfl
        have j1 : atI [V.int X, V.int Y] 1 = some (.int Y) := atI_nat (j := 1) rfl
        refine ⟨_, rfl, r2, _, _, _, rfl, rfl, SqT.of h15, j0, _, rfl, _, rfl, r2, _, _, _, rfl, rfl, SqT.of h15, j1, _, _, rfl, _, _, rfl, rfl, ⟨by decide, by decide, by decide⟩, _, _, rfl, rfl, _, rfl, iteB (fun e => ?_) (fun e => ?_)⟩
        · have e' := of_decide_eq_true e
          have ten : (10 : Int) ^ Int.toNat 60 < 2 ^ 200 := by decide +kernel
          have bX : Bd X := by
            show X.natAbs < 2 ^ 200
            split at e' <;> split at e' <;> omega
          have bY : Bd Y := by
            show Y.natAbs < 2 ^ 200
            split at e' <;> split at e' <;> omega
          have zs : 60 ≤ sizeLine := by decide
          have ll : (amV ams).length = prs.length := by rw [List.length_map, tb15.l]
          refine ⟨_, rfl, .inl ⟨rfl, _, SqL.of tb15.p⟩, _, rfl, lp, _, _, rfl, rfl, tb15.p, (by rw [List.length_map]; omega), ?_⟩
          refine ⟨_, rfl, .inl ⟨rfl, _, SqL.of ((upd_ne nll.symm).trans tb15.a)⟩, _, rfl, la, _, _, rfl, rfl, (upd_ne nll.symm).trans tb15.a, (by rw [ll]; omega), ?_⟩
          have nH1 : H lp = none := nlp
          refine ⟨but_new (but_new b15 nlp) nla, (hp15.but but_upd nep.symm).but but_upd nap.symm, ⟨_, _, tb15.more nll (e := (r2, X, Y)) (q := r3) ⟨h15, (by show Y ≠ 0; omega), bX, bY⟩ (by show AmtAt C H15 r3 (lt X Y) (lb X Y); rw [i1, i2]; exact a15), ?_, ?_⟩, ?_⟩
          · rw [List.length_append]
            omega
          · rw [List.length_append]
            show prs.length + 1 ≤ _
            omega
          · exact ⟨_, _, _, _, _, _, _, _, _, _, _, _, rfl⟩
        · exact ⟨b15, hp15, ⟨prs, ams, tb15, lo, by omega⟩, _, _, _, _, _, _, _, _, _, _, _, _, rfl⟩
      · rintro σ H3 ⟨b3, hp3, ⟨prs, ams, tb, lo, hi2⟩, st⟩
        exact hN _ _ ⟨b3, hp3, ⟨prs, ams, tb, by omega⟩, st⟩
    clear b2 hp2 tb h1 l1 k1
    clear prs ams
    rintro σ H2 ⟨b2, hp2, ⟨prs, ams, tb, lb40⟩, v2, v4, v5, v6, v7, v8, v9, v10, v11, v12, v13, v14, rfl⟩
    -- repr(Amount(5))
    refine ⟨5, rfl, by decide +kernel, fun H3 r s3 n3 h3 => ?_⟩
    obtain ⟨dx, h3'⟩ := id h3
    refine ⟨r, dx, _, rfl, h3', r, 5, 1, rfl, h3, (by show Int.natAbs 5 < 2 ^ 1900; decide +kernel), (by show Int.natAbs 1 < 2 ^ 1900; decide +kernel), _, rfl, rfl, _, rfl, iteN ?_ ?_⟩
    · decide +kernel
    have tb3 := tb.same s3
    have b3 := b2.trans (But.of (p := p) s3)
    have hp3 := hp2.same s3
    clear tb b2 hp2 h3 h3'
    -- all
    refine ⟨_, rfl, _, rfl, la, lp, _, _, rfl, SqL.of tb3.a, SqL.of tb3.p, fun D hD => ?_⟩
    have nD : D ≠ p := hp3.ne hD
    refine lc_it (walk_zip (xs := amV ams) (ys := prV prs) (n := prs.length) (by rw [List.length_map, List.length_map, tb3.l, Nat.min_self])) (fun i H' => But p H H' ∧ PotAt H' p ∧ Tab C H' lp la prs ams ∧ H' D = some (.lst ((List.replicate i true).map V.bl))) ?_ ?_ ?_ ?_
    · exact ⟨b3.trans (But.of (same_upd hD)), hp3.upd hD, tb3.same (same_upd hD), upd_same⟩
    · rintro i H4 _ ⟨_, _, t, _⟩
      exact ⟨SqL.of t.a, SqL.of t.p⟩
    · rintro i v H4 H5 hi ⟨b4, hp4, tb4, hD4⟩ ⟨t, y1, y2, rfl, nt, rfl, z1, z2⟩
      have hj : i < ams.length := by rw [tb4.l]; exact hi
      have w1 : prs[i]? = some prs[i] := List.getElem?_eq_getElem hi
      have w2 : ams[i]? = some ams[i] := List.getElem?_eq_getElem hj
      obtain ⟨ha, hy, bx, by_⟩ := tb4.ok _ (List.getElem_mem hi)
      have am := tb4.am i _ _ w1 w2
      replace z1 : (amV ams)[i]? = some y1 := z1
      replace z2 : (prV prs)[i]? = some y2 := z2
      rw [List.getElem?_map, w2] at z1
      rw [List.getElem?_map, w1] at z2
      cases z1
      cases z2
      have s5 := same_upd (o := .tup [.ref ams[i], .ref prs[i].1]) nt
      obtain ⟨l1, l2⟩ := sm_low hy bx.sm by_.sm
      refine ⟨t, _, rfl, SqT.of upd_same, rfl, _, _, rfl, _, _, rfl, rfl, rfl, _, rfl, _, rfl, ams[i], prs[i].1, _, _, rfl, am.same s5, s5 _ _ ha, hy, by_.sm.lift, l1.md, l2.md, fun H6 s6 => ?_⟩
      have s46 := s5.trans s6
      have hD6 := s46 _ _ hD4
      have nlD : lp ≠ D := ne_of_none tb3.p hD
      have naD : la ≠ D := ne_of_none tb3.a hD
      refine ⟨_, hD6, ?_, but_new (b4.trans (But.of s46)) (b3.free nD hD), (hp4.same s46).but but_upd nD.symm, (tb4.same s46).kp (kp_upd hD6) (upd_ne nlD) (upd_ne naD), ?_⟩
      · rw [List.length_map, List.length_replicate]
        exact Nat.lt_of_lt_of_le (by omega) (show 60 ≤ sizeLine by decide)
      · rw [upd_same, List.replicate_succ', List.map_append]
        rfl
    · rintro H4 ⟨b4, hp4, tb4, hD4⟩
      refine ⟨D, List.replicate prs.length true, rfl, SqL.of hD4, ?_⟩
      have e : (List.replicate prs.length true).all id = true := by simp
      rw [e]
      exact q _ b4
end
end K11

set_option Elab.async false
set_option linter.all false
set_option maxRecDepth 100000
set_option maxHeartbeats 4000000
/-! Z11: _law_long_right, the law. -/
namespace K11
open PySem PySem.Spec PyProof.Rows L2 LL
abbrev s_l_long_right : Stmt := top 22
abbrev n_l_long_right : List Str := ["_law_one", "_law_other", "_law_low", "_law_high", "_law_turn", "_law_told_here"]
theorem sc_l_long_right : FnScope n_l_long_right [] (defScope s_l_long_right) := ⟨rfl, rfl, rfl, by decide +kernel, rfl, by decide +kernel, by decide +kernel⟩
abbrev s_law : Stmt := top 23
abbrev n_law : List Str := ["_law_script", "_law_k"]
theorem sc_law : FnScope n_law ["_law_script"] (defScope s_law) := ⟨rfl, rfl, rfl, by decide +kernel, rfl, by decide +kernel, by decide +kernel⟩
/-- the pair behind n turns -/
def ff : Nat → Int × Int
  | 0 => (1, 1)
  | n + 1 => ((ff n).1 * (2 * (ff n).2 - (ff n).1), (ff n).1 * (ff n).1 + (ff n).2 * (ff n).2)
def okN (n : Nat) : Bool := decide ((ff n).1.natAbs < 2 ^ 800) && decide ((ff n).2.natAbs < 2 ^ 800)
theorem ok10 : ∀ n, n ≤ 10 → okN n = true := by
  have h : (List.range 11).all okN = true := by decide +kernel
  intro n hn
  exact List.all_eq_true.mp h n (List.mem_range.mpr (by omega))
theorem ff_sm {n : Nat} (h : n ≤ 10) : (ff n).1.natAbs < 2 ^ 800 ∧ (ff n).2.natAbs < 2 ^ 800 := by
  have := ok10 n h
  unfold okN at this
  obtain ⟨a, b⟩ := Bool.and_eq_true_iff.mp this
  exact ⟨of_decide_eq_true a, of_decide_eq_true b⟩
theorem s8 {n : Int} (h : n.natAbs < 2 ^ 800) : Sm n := Nat.lt_of_lt_of_le h (Nat.pow_le_pow_right (by decide) (by decide))
section
variable {P : Program} {w : World} {K : PySem.W.Frag} {mg : Str → Option Value} {base : Heap} {C : Addr} {f : Addr} {fd : FuncData}
/-- an operator on whole amounts -/
theorem bin_one {gt gb : Int → Int → Int → Int → Int} {ok : Int → Prop} {H : Hp} {p1 p2 : Addr} {t t2 r : Int} {Q : VK} {E : XK} (h1 : AmtAt C H p1 t 1) (h2 : AmtAt C H p2 t2 1) (st : Sm t) (st2 : Sm t2) (o : ok t2) (e1 : gt t 1 t2 1 = r) (e2 : gb t 1 t2 1 = 1)
    (q : ∀ H' p, Same H H' → AmtAt C H' p r 1 → Q (.ref p) H') : rBin C (spBin C gt gb ok) E (.ref p1) (.ref p2) H Q := by
  obtain ⟨dx, a1⟩ := id h1
  obtain ⟨dy, a2⟩ := id h2
  have s1 : Sm 1 := by show Int.natAbs 1 < 2 ^ 900; decide +kernel
  refine ⟨p1, dx, _, rfl, a1, .inl ⟨p2, dy, _, rfl, a2⟩, p1, .ref p2, t, 1, t2, 1, rfl, h1, .inl ⟨p2, rfl, h2⟩, ⟨st, s1, st2, s1⟩, ⟨by decide, by decide⟩, o, fun H' p s n ha => q H' p s ?_⟩
  rw [e1, e2, (lt_one r).1, (lt_one r).2] at ha
  exact ha
theorem bin_int {gt gb : Int → Int → Int → Int → Int} {ok : Int → Prop} {H : Hp} {p1 : Addr} {t t2 r : Int} {Q : VK} {E : XK} (h1 : AmtAt C H p1 t 1) (st : Sm t) (st2 : Sm t2) (o : ok t2) (e1 : gt t 1 t2 1 = r) (e2 : gb t 1 t2 1 = 1)
    (q : ∀ H' p, Same H H' → AmtAt C H' p r 1 → Q (.ref p) H') : rBin C (spBin C gt gb ok) E (.ref p1) (.int t2) H Q := by
  obtain ⟨dx, a1⟩ := id h1
  have s1 : Sm 1 := by show Int.natAbs 1 < 2 ^ 900; decide +kernel
  refine ⟨p1, dx, _, rfl, a1, .inr ⟨t2, rfl⟩, p1, .int t2, t, 1, t2, 1, rfl, h1, .inr ⟨rfl, rfl⟩, ⟨st, s1, st2, s1⟩, ⟨by decide, by decide⟩, o, fun H' p s n ha => q H' p s ?_⟩
  rw [e1, e2, (lt_one r).1, (lt_one r).2] at ha
  exact ha
theorem lay3 (y x : Int) {z : Str} (h : PyData.strOk z = true) : PyData.canLay0 (.list [.int y, .int x, .str z]) = true := by
  simp [PyData.canLay0, PyData.canLayAll0, h]
theorem shp3 (y x : Int) {z : Str} (h : PyData.strOk z = true) : SeqAt.shaped (.list [.int y, .int x, .str z]) = true := by
  unfold SeqAt.shaped
  rw [lay3 y x h]
  simp [PyData.depth, PyData.depthAll]
def spLong : Sp := fun vs H Q _ => vs = [] ∧ ∀ H', Same H H' → Q (.bl true) H'
theorem ok_l_long (T : Tx K mg C) (K_Amount1 : Mkf P w K mg base CX0 2 "Amount" (spMk1 C)) (O_add : OpF P w K mg base CX0 5 C .Add (spBin C (fun t b t2 b2 => t * b2 + t2 * b) (fun _ b _ b2 => b * b2) fun _ => True)) (O_sub : OpF P w K mg base CX0 5 C .Sub (spBin C (fun t b t2 b2 => t * b2 - t2 * b) (fun t b t2 b2 => b * b2) fun _ => True))
    (O_mul : OpF P w K mg base CX0 5 C .Mult (spBin C (fun t b t2 b2 => t * t2) (fun t b t2 b2 => b * b2) fun _ => True)) (M_over : Mth P w K mg base CX0 5 C "over" [] (spBin C (fun t b t2 b2 => t * b2) (fun t b t2 b2 => b * t2) fun t2 => t2 ≠ 0))
    (P_top : Prp P w K mg base CX0 1 C "top" (spGet C fun t _ => t)) (P_bottom : Prp P w K mg base CX0 1 C "bottom" (spGet C fun _ b => b)) (S_str : SpF P w K mg base CX0 1 C "__str__" (spShow C shown))
    (F : FD K "_law_long_right" "_law_long_right" s_l_long_right [] f fd) : FnG P w K mg base CX0 7 f fd [] spLong := by
  refine ok0 F sc_l_long_right (fun vs H Q E h => ?_) (fun cdv A outer s H vs Q E hr h => ?_)
  · obtain ⟨rfl, _⟩ := h
    rfl
  · obtain ⟨rfl, q⟩ := h
    refine ⟨_, (pss_cons (ps_asg (pe_tup (pa_cons (pe_mf K_Amount1 (hr.mono (by decide)) pass0 (pa_cons pe_int pa_nil)) (pa_cons (pe_mf K_Amount1 (hr.mono (by decide)) pass0 (pa_cons pe_int pa_nil)) (pa_cons pe_int (pa_cons pe_int pa_nil))))) (pg_tup rfl (pgs_cons (pg_name (i := 0) sc_l_long_right.nd rfl (by first | exact Or.inl rfl | exact Or.inr rfl)) (pgs_cons (pg_name (i := 1) sc_l_long_right.nd rfl (by first | exact Or.inl rfl | exact Or.inr rfl)) (pgs_cons (pg_name (i := 2) sc_l_long_right.nd rfl (by first | exact Or.inl rfl | exact Or.inr rfl)) (pgs_cons (pg_name (i := 3) sc_l_long_right.nd rfl (by first | exact Or.inl rfl | exact Or.inr rfl)) pgs_nil))))))
      (pss_cons (ps_for PassesOwn.never rfl (pi_range1 (by rfl) T.n_range (pa_cons pe_int pa_nil)) (pg_name (i := 4) sc_l_long_right.nd rfl (by first | exact Or.inl rfl | exact Or.inr rfl)) (pss_cons (ps_par (i := 0) (j := 1) rfl sc_l_long_right.nd rfl rfl (by decide) rfl rfl (pa_cons (pe_op (op_binF O_mul (hr.mono (by decide)) pass0) (pv 0) (pe_op (op_binF O_sub (hr.mono (by decide)) pass0) (pe_op (op_binF O_mul (hr.mono (by decide)) pass0) (pv 1) pe_int) (pv 0))) (pa_cons (pe_op (op_binF O_add (hr.mono (by decide)) pass0) (pe_op (op_binF O_mul (hr.mono (by decide)) pass0) (pv 0) (pv 0)) (pe_op (op_binF O_mul (hr.mono (by decide)) pass0) (pv 1) (pv 1))) pa_nil)) (by rfl))
      (pss_one (ps_par (i := 2) (j := 3) rfl sc_l_long_right.nd rfl rfl (by decide) rfl rfl (pa_cons (pe_op op_mulX (pv 2) (pe_op op_sub (pe_op op_mulX pe_int (pv 3)) (pv 2))) (pa_cons (pe_op op_add (pe_op op_mulX (pv 2) (pv 2)) (pe_op op_mulX (pv 3) (pv 3))) pa_nil)) (by rfl)))))
      (pss_cons (ps_set (i := 5) sc_l_long_right.nd rfl (by first | exact Or.inl rfl | exact Or.inr rfl) (pe_mt M_over (hr.mono (by decide)) pass0 (pv 1) (pa_cons (pv 0) pa_nil)))
      (pss_one (ps_ret (pe_cmpR (op_eqD hr.r.units) (pe_lst (pa_cons (pe_pr P_top (hr.mono (by decide)) pass0 (pv 5)) (pa_cons (pe_pr P_bottom (hr.mono (by decide)) pass0 (pv 5)) (pa_cons (pe_callTy (call_strOF S_str (hr.mono (by decide)) pass0) (by rfl) T.n_str (by decide +kernel) (pa_cons (pv 5) pa_nil)) pa_nil)))) (pe_lst (pa_cons (pv 3) (pa_cons (pv 2) (pa_cons (pe_op op_add_str (pe_op op_add_str (pe_callTy call_str_int (by rfl) T.n_str (by decide +kernel) (pa_cons (pv 3) pa_nil)) pe_str) (pe_callTy call_str_int (by rfl) T.n_str (by decide +kernel) (pa_cons (pv 2) pa_nil))) pa_nil)))) (nomark _))))))), ?_⟩
    refine ⟨1, rfl, by decide +kernel, fun H1 p1 s1 n1 h1 => ⟨1, rfl, by decide +kernel, fun H2 p2 s2 n2 h2 => ⟨(by show 4 ≤ sizeLine; decide), fun t ht => ?_⟩⟩⟩
    refine ⟨t, _, rfl, SqT.of upd_same, rfl, _, _, rfl, _, _, rfl, _, _, rfl, _, _, rfl, rfl, ?_⟩
    have s3 := (s1.trans s2).trans (same_upd (o := .tup [.ref p1, .ref p2, .int 1, .int 1]) ht)
    have h13 := (h1.same s2).same (same_upd (o := .tup [.ref p1, .ref p2, .int 1, .int 1]) ht)
    have h23 := h2.same (same_upd (o := .tup [.ref p1, .ref p2, .int 1, .int 1]) ht)
    refine nx_of ?_
    dsimp only
    refine seq_cut (fun σ' H' => Same H H' ∧ ∃ p1 p2 v, AmtAt C H' p1 (ff 10).1 1 ∧ AmtAt C H' p2 (ff 10).2 1 ∧ σ' = [some (.ref p1), some (.ref p2), some (.int (ff 10).1), some (.int (ff 10).2), v, none]) (fun N hN => ?_) ?_
    · refine ⟨10, rfl, by decide, by decide, ?_⟩
      refine for_range (lo := 0) (n := 10) (fun i σ' H' => Same H H' ∧ ∃ p1 p2 v, AmtAt C H' p1 (ff i).1 1 ∧ AmtAt C H' p2 (ff i).2 1 ∧ σ' = [some (.ref p1), some (.ref p2), some (.int (ff i).1), some (.int (ff i).2), v, none]) ⟨s3, p1, p2, none, h13, h23, rfl⟩ ?_ ?_
      · rintro i σ H4 hi ⟨s4, q1, q2, v, a1, a2, rfl⟩
        obtain ⟨l1, l2⟩ := ff_sm (n := i) (by omega)
        obtain ⟨l3, l4⟩ := ff_sm (n := i + 1) (by omega)
        have e1 : (ff (i + 1)).1 = (ff i).1 * ((ff i).2 * 2 - (ff i).1) := by
          show (ff i).1 * (2 * (ff i).2 - (ff i).1) = _
          rw [Int.mul_comm 2]
        have e2 : (ff (i + 1)).2 = (ff i).1 * (ff i).1 + (ff i).2 * (ff i).2 := rfl
        have e3 : (ff (i + 1)).1 = (ff i).1 * (2 * (ff i).2 - (ff i).1) := rfl
        generalize (ff (i + 1)).1 = x' at *
        generalize (ff (i + 1)).2 = y' at *
        generalize (ff i).1 = x at *
        generalize (ff i).2 = y at *
        have t2 : Sm (y * 2) := by
          show (y * 2).natAbs < 2 ^ 900
          rw [Int.natAbs_mul]
          exact Nat.lt_of_lt_of_le (Nat.mul_lt_mul_of_pos_right l2 (by decide)) (by decide +kernel)
        have t3 : Sm (y * 2 - x) := by
          have h : (y * 2 - x).natAbs ≤ (y * 2).natAbs + x.natAbs := by omega
          have h2 : (y * 2).natAbs = y.natAbs * 2 := by rw [Int.natAbs_mul]; rfl
          have e : (2 : Nat) ^ 900 = 2 ^ 800 * 2 ^ 100 := by rw [← Nat.pow_add]
          have e' : (2 : Nat) ^ 100 ≥ 4 := by decide
          show (y * 2 - x).natAbs < 2 ^ 900
          rw [e]
          have : (2 : Nat) ^ 800 * 4 ≤ 2 ^ 800 * 2 ^ 100 := Nat.mul_le_mul_left _ e'
          omega
        have sq : ∀ {n : Int}, n.natAbs < 2 ^ 800 → (n * n).natAbs < 2 ^ 1600 := fun h => wide_lt h h
        have p1 : 0 ≤ x * x := by rw [← Int.natAbs_mul_self]; exact Int.natCast_nonneg _
        have p2 : 0 ≤ y * y := by rw [← Int.natAbs_mul_self]; exact Int.natCast_nonneg _
        have u1 : Sm (x * x) := s8 (by omega)
        have u2 : Sm (y * y) := s8 (by omega)
        have w2 : Sm 2 := by show Int.natAbs 2 < 2 ^ 900; decide +kernel
        refine ⟨_, rfl, _, rfl, ?_⟩
        refine bin_int (r := y * 2) a2 (s8 l2) w2 trivial rfl rfl fun H5 p5 s5 h5 => ⟨_, rfl, ?_⟩
        refine bin_one (r := y * 2 - x) h5 (a1.same s5) t2 (s8 l1) trivial (by simp) rfl fun H6 p6 s6 h6 => ?_
        have a16 := (a1.same s5).same s6
        have a26 := (a2.same s5).same s6
        refine bin_one (r := x') a16 h6 (s8 l1) t3 trivial e1.symm rfl fun H7 p7 s7 h7 => ?_
        have a17 := a16.same s7
        have a27 := a26.same s7
        refine ⟨_, rfl, _, rfl, ?_⟩
        refine bin_one (r := x * x) a17 a17 (s8 l1) (s8 l1) trivial rfl rfl fun H8 p8 s8' h8 => ?_
        have a28 := a27.same s8'
        refine ⟨_, rfl, _, rfl, ?_⟩
        refine bin_one (r := y * y) a28 a28 (s8 l2) (s8 l2) trivial rfl rfl fun H9 p9 s9 h9 => ?_
        refine bin_one (r := y') (h8.same s9) h9 u1 u2 trivial (by rw [e2]; simp) rfl fun H10 p10 s10 h10 => ?_
        have s49 := s8'.trans (s9.trans s10)
        refine ⟨_, _, rfl, ?_⟩
        refine ⟨_, rfl, _, rfl, _, _, rfl, rfl, mulx_ok (a := 2) (b := 800) (by decide) l2 (by decide), _, rfl, _, _, rfl, rfl, _, _, rfl, rfl, ?_, ?_⟩
        · rw [Int.mul_comm 2]
          exact (s8 l1).mulx t3
        refine ⟨_, rfl, _, rfl, _, _, rfl, rfl, mulx_ok (a := 800) (b := 800) l1 l1 (by decide), _, rfl, _, rfl, _, _, rfl, rfl, mulx_ok (a := 800) (b := 800) l2 l2 (by decide), _, _, rfl, rfl, _, _, rfl, ?_⟩
        refine ⟨s4.trans (s5.trans (s6.trans (s7.trans s49))), p7, p10, some (.int (0 + i)), h7.same s49, h10, ?_⟩
        rw [e3, e2]
        rfl
      · rintro σ H4 h
        exact hN _ _ h
    rintro σ H4 ⟨s4, q1, q2, v, a1, a2, rfl⟩
    obtain ⟨l1, l2⟩ := ff_sm (n := 10) (by decide)
    have g1 : Int.gcd (ff 10).2 (ff 10).1 = 1 := by decide +kernel
    have g2 : 0 < (ff 10).1 := by decide +kernel
    have g3 : (ff 10).1 ≠ 1 := by decide +kernel
    generalize (ff 10).1 = x at *
    generalize (ff 10).2 = y at *
    have dv1 : dv y x = 1 := by
      unfold dv
      rw [if_neg (by omega), g1]
      rfl
    have e1 : lt y x = y := by
      unfold lt
      rw [dv1]
      exact Int.fdiv_one y
    have e2 : lb y x = x := by
      unfold lb
      rw [dv1]
      exact Int.fdiv_one x
    obtain ⟨dx, f1⟩ := id a2
    have w1 : Sm 1 := by show Int.natAbs 1 < 2 ^ 900; decide +kernel
    refine ⟨_, rfl, q2, dx, _, rfl, f1, look_no _ _ (by decide +kernel) (by decide +kernel), _, rfl, q2, _, y, 1, x, 1, rfl, a2, .inl ⟨q1, rfl, a1⟩, ⟨s8 l2, w1, s8 l1, w1⟩, ⟨by decide, by decide⟩, (by show x ≠ 0; omega), fun H5 r s5 n5 h5 => ?_⟩
    rw [show (fun (t b t2 b2 : Int) => t * b2) y 1 x 1 = y by simp, show (fun (t b t2 b2 : Int) => b * t2) y 1 x 1 = x by simp, e1, e2] at h5
    obtain ⟨dy, f5⟩ := id h5
    have m1 := (s8 l1).md
    have m2 := (s8 l2).md
    refine ⟨_, rfl, r, dy, _, rfl, f5, r, y, x, rfl, h5, _, rfl, r, dy, _, rfl, f5, r, y, x, rfl, h5, ?_⟩
    refine ⟨_, rfl, r, dy, _, rfl, f5, r, y, x, rfl, h5, m2, m1, _, rfl, (by show 3 ≤ sizeLine; decide), fun l hl => ?_⟩
    have k1 := m1.len
    have k2 := m2.len
    refine ⟨_, rfl, _, rfl, _, rfl, _, rfl, m2.log, _, _, rfl, rfl, small (by show (txt y).length + 1 ≤ _; omega), _, rfl, _, rfl, m1.log, _, _, rfl, rfl, ?_, (by show 3 ≤ sizeLine; decide), fun m hm => ?_⟩
    · rw [strLen_append]
      exact small (by show (txt y).length + 1 + (txt x).length ≤ _; omega)
    have sl := same_upd (o := .lst [.int y, .int x, .str (shown y x)]) hl
    have es : shown y x = txt y ++ "/" ++ txt x := by
      unfold shown
      rw [if_neg g3]
    have ot : PyData.strOk (txt y ++ "/" ++ txt x) = true := okt_app (okt_app (okt_of _) (okt_of _)) (okt_of _)
    have ev : PyData.eqv (.list [.int y, .int x, .str (shown y x)]) (.list [.int y, .int x, .str (txt y ++ "/" ++ txt x)]) = true := by
      rw [es]
      exact SeqAt.eqv_refl _ (lay3 y x ot)
    have hl2 : upd (upd H5 l (.lst [.int y, .int x, .str (shown y x)])) m (.lst [.int y, .int x, .str (txt y ++ "/" ++ txt x)]) l = some (.lst [.int y, .int x, .str (shown y x)]) := (same_upd hm) _ _ upd_same
    refine ⟨.list [.int y, .int x, .str (shown y x)], .list [.int y, .int x, .str (txt y ++ "/" ++ txt x)], .lst (SqL.of hl2) (.cons (.int _) (.cons (.int _) (.cons (.str _) .nil))), .lst (SqL.of upd_same) (.cons (.int _) (.cons (.int _) (.cons (.str _) .nil))), shp3 _ _ (es ▸ ot), shp3 _ _ ot, ?_⟩
    rw [ev]
    exact q _ (s4.trans (s5.trans ((same_upd hl).trans (same_upd hm))))
/-! ### the law -/
def spLaw (K : PySem.W.Frag) : Sp := fun vs H Q _ => ∃ (a : Addr) (ns : List Int), vs = [.ref a] ∧ SqL K H a (ns.map V.int) ∧ ns.length ≤ 63 ∧ ∀ H', Q (.bl true) H'
theorem ok_law (T : Tx K mg C) (G_l_long_right : Fnc P w K mg base CX0 7 "_law_long_right" [] spLong) (G_l_pot : Fnc P w K mg base CX0 1 "_law_pot" [] (spPot K)) (G_l_right : Fnc P w K mg base CX0 7 "_law_right" [] spRight) (F : FD K "law" "law" s_law [] f fd) : FnG P w K mg base CX0 8 f fd ["_law_script"] (spLaw K) := by
  refine ok0 F sc_law (fun vs H Q E h => ?_) (fun cdv A outer s H vs Q E hr h => ?_)
  · obtain ⟨a, ns, rfl, _⟩ := h
    rfl
  · obtain ⟨a, ns, rfl, hS, hl, q⟩ := h
    refine ⟨_, (pss_cons (ps_if (pt_not (pt_val (pe_fn0 G_l_long_right (hr.mono (by decide)) pass0))) (pss_one (ps_ret pe_bl)) pss_nil)
      (pss_one (ps_ret (pe_callB (cr_all rfl) (by rfl) T.n_all (by decide +kernel) (pa_cons (pe_lc (own := [("_law_k", 1)]) rfl sc_law.nd (pi_range1 (by rfl) T.n_range (pa_cons (pe_callB (call_max2 rfl) (by rfl) T.n_max (by decide +kernel) (pa_cons pe_int (pa_cons (pe_callB (call_min2 rfl) (by rfl) T.n_min (by decide +kernel) (pa_cons (pe_callB call_len_seq (by rfl) T.n_len (by decide +kernel) (pa_cons (pv 0) pa_nil)) (pa_cons pe_int pa_nil))) pa_nil))) pa_nil)) (blkOk_by (own := [("_law_k", 1)]) (N := n_law) (sc := defScope s_law) (by decide +kernel)) (fun _ _ _ _ _ => (pg_name (i := 1) sc_law.nd rfl (by first | exact Or.inl rfl | exact Or.inr rfl))) (fun _ _ _ _ _ => pts_nil) (fun _ _ _ _ _ => (pe_fn G_l_right (hr.mono (by decide)) pass0 (pa_cons (pe_fn G_l_pot (hr.mono (by decide)) pass0 (pa_cons (pv 0) (pa_cons (pv 1) pa_nil))) pa_nil)))) pa_nil))))), ?_⟩
    refine ⟨rfl, fun H1 s1 => ⟨_, rfl, iteN rfl ?_⟩⟩
    have hS1 : SqL K H1 a (ns.map V.int) := s1.seq hS
    refine ⟨_, rfl, a, _, rfl, .inl hS1, _, _, rfl, _, _, rfl, _, rfl, ?_, ?_, fun D hD => ?_⟩
    · rw [List.length_map]
      split <;> split <;> omega
    · rw [List.length_map]
      split <;> split <;> omega
    refine lc_range (lo := 0) (fun i H' => Same H1 H' ∧ H' D = some (.lst ((List.replicate i true).map V.bl))) ?_ ?_ ?_
    · exact ⟨same_upd hD, upd_same⟩
    · rintro i H2 hi ⟨s2, hD2⟩
      have hi' : i < 8 := by
        rw [List.length_map] at hi
        split at hi <;> split at hi <;> omega
      refine ⟨rfl, _, rfl, _, rfl, a, ns, i, ?_, s2.seq hS1, hl, by omega, fun H3 p s3 np hp3 => ?_⟩
      · simp
      refine ⟨p, rfl, hp3, fun H4 b4 => ?_⟩
      have s24 : Same H2 H4 := fun b o e => b4 b o (s3 _ _ e) (ne_of_none e np)
      have hD4 := s24 _ _ hD2
      refine ⟨_, hD4, ?_, ?_, ?_⟩
      · rw [List.length_map, List.length_replicate]
        exact Nat.lt_of_lt_of_le hi' (by decide)
      · intro b o e
        rw [upd_ne (ne_of_none e hD)]
        exact s24 _ _ (s2 _ _ e)
      · rw [upd_same, List.replicate_succ', List.map_append]
        rfl
    · rintro H2 ⟨s2, hD2⟩
      refine ⟨D, _, rfl, SqL.of hD2, ?_⟩
      have e : ∀ n, (List.replicate n true).all id = true := by simp
      rw [e]
      exact q _
end
end K11

set_option Elab.async false
set_option linter.all false
set_option maxRecDepth 100000
set_option maxHeartbeats 2000000
/-! LLHead: defs of the text at any address of the written part; the Hook over them; facts as tests. -/
namespace LL
open PySem PySem.Spec PyProof.Rows L2
/-- a def: where it stands, what it is -/
structure DefX where
  adr : PySem.W.Frag → Addr
  name : Str
  qual : Str
  params : Arguments
  body : List Stmt
  scope : Scope
  dfl : List V := []
def dX (adr : PySem.W.Frag → Addr) (name qual : Str) (st : Stmt) (dfl : List V := []) : DefX := ⟨adr, name, qual, defArgs st, defBody st, defScope st, dfl⟩
/-- the function object at a -/
def fdAt (K : PySem.W.Frag) (a : Addr) : Option FuncData := match K.lookup a with
  | some ⟨_, _, .func g, _⟩ => some g
  | _ => none
def shapeX (g : FuncData) : Str × Str × Arguments × FuncBody × Scope × Addr × List (Str × Addr) × Addr := (g.name, g.qualname, g.params, g.body, g.scope, g.globals, g.closure, g.builtins)
def DefX.shape (d : DefX) : Option (Str × Str × Arguments × FuncBody × Scope × Addr × List (Str × Addr) × Addr) := some (d.name, d.qual, d.params, .stmts d.body, d.scope, mainGlobals, [], builtinsNs)
def DefX.fine (K : PySem.W.Frag) (d : DefX) : Bool := PySem.W.keepIn K (.ref (d.adr K)) && ((fdAt K (d.adr K)).any fun g => PySem.W.codeIn K g.code d.qual && He.dflB K g.defaults d.dfl)
theorem fdAt_look {K : PySem.W.Frag} {a : Addr} {g : FuncData} (e : fdAt K a = some g) : ∃ oc od osl, K.lookup a = some ⟨oc, od, .func g, osl⟩ := by
  unfold fdAt at e
  split at e
  · rename_i c d z sl q
    cases e
    exact ⟨c, d, sl, q⟩
  · cases e
theorem DefX.fun_ {K : PySem.W.Frag} {d : DefX} (e : (fdAt K (d.adr K)).map shapeX = d.shape) (c : d.fine K = true) : ∃ fd, FunD K d.name d.qual d.params d.body d.scope d.dfl [] (d.adr K) fd := by
  obtain ⟨kp, c2⟩ := He.ba c
  obtain ⟨g, eg, es⟩ := Option.map_eq_some_iff.mp e
  rw [eg] at c2
  obtain ⟨c3, c4⟩ := He.ba (show (PySem.W.codeIn K g.code d.qual && He.dflB K g.defaults d.dfl) = true from c2)
  obtain ⟨oc, od, osl, lk⟩ := fdAt_look eg
  unfold shapeX at es
  simp only [Prod.mk.injEq] at es
  obtain ⟨e1, e2, e3, e4, e5, e6, e7, e8⟩ := es
  refine ⟨g, ⟨oc, od, g.defaults, g.kwdefaults, g.doc, g.pyModule, g.annotations, g.code, g.closureTuple, osl, ?_, lk, c3, He.dflB_ok c4, .inl rfl⟩, kp⟩
  obtain ⟨a1, a2, a3, a4, a5, a6, a7, a8, a9, a10, a11, a12, a13, a14, a15⟩ := g
  subst e1 e2 e3 e4 e5 e6 e7 e8
  rfl
/-! ### the Hook -/
abbrev AlX : Type := Bool × List (Option (Str × Str × Arguments × FuncBody × Scope × Addr × List (Str × Addr) × Addr))
def obsY (ft : List Ft) (fn : List DefX) (K : PySem.W.Frag) : AlX := ((ft.all fun f => f K) && fn.all fun d => d.fine K, fn.map fun d => (fdAt K (d.adr K)).map shapeX)
def valY (fn : List DefX) : AlX := (true, fn.map DefX.shape)
def SaysY (ft : List Ft) (fn : List DefX) (K : PySem.W.Frag) : Prop := obsY ft fn K = valY fn
def obsYG (n : Nat) (ft : List Ft) (fn : List DefX) (g : Addr → Option Obj) : AlX := obsY ft fn (He.frG g (He.asD g n))
def hookY (n : Nat) (ft : List Ft) (fn : List DefX) : PySem.W.Hook where
  α := AlX
  obs := fun s => obsYG n ft fn s.heap.get?
  val := fun _ => valY fn
  says := fun _ h => ∃ K : PySem.W.Frag, K.In h ∧ SaysY ft fn K
  of := fun _ _ e => ⟨_, He.frG_in, e⟩
  keeps := fun _ _ _ ⟨K, hK, c⟩ k => ⟨K, PySem.W.Frag.In.keeps hK k, c⟩
theorem obsYG_eq {n : Nat} {ft : List Ft} {fn : List DefX} {g : Addr → Option Obj} {s : Shared} (h : ∀ a, g a = s.heap.get? a) : obsYG n ft fn g = (hookY n ft fn).obs s := by
  cases (funext h : g = s.heap.get?)
  rfl
theorem SaysY.fact {ft : List Ft} {fn : List DefX} {K : PySem.W.Frag} (c : SaysY ft fn K) (i : Nat) {f : Ft} (h : ft[i]? = some f := by rfl) : f K = true := by
  have e : ((ft.all fun f => f K) && fn.all fun d => d.fine K) = true := congrArg Prod.fst c
  exact List.all_eq_true.mp (He.ba e).1 f (List.mem_of_getElem? h)
theorem SaysY.fn_ {ft : List Ft} {fn : List DefX} {K : PySem.W.Frag} (c : SaysY ft fn K) (i : Nat) {d : DefX} (h : fn[i]? = some d := by rfl) : ∃ fd, FunD K d.name d.qual d.params d.body d.scope d.dfl [] (d.adr K) fd := by
  have e : ((ft.all fun f => f K) && fn.all fun d => d.fine K) = true := congrArg Prod.fst c
  have e1 : (fn.map fun d => (fdAt K (d.adr K)).map shapeX)[i]? = (fn.map DefX.shape)[i]? := congrArg (fun z : AlX => z.2[i]?) c
  rw [List.getElem?_map, List.getElem?_map, h] at e1
  exact DefX.fun_ (Option.some.inj e1) (List.all_eq_true.mp (He.ba e).2 d (List.mem_of_getElem? h))
/-! ### addresses and tests -/
/-- a global, a method, a property's getter -/
def gA (x : Str) (K : PySem.W.Frag) : Addr := He.ga K x
def mA (x m : Str) (K : PySem.W.Frag) : Addr := He.ma K (He.ga K x) m
def pA (x m : Str) (K : PySem.W.Frag) : Addr := match PySem.W.recIn K (mA x m K) "property" with
  | some (.ref g :: _) => g
  | _ => 0
def fGlo (x : Str) : Ft := fun K => (He.Fa.glo x).ok K
def fFree (x : Str) : Ft := fun K => (He.Fa.free x).ok K
def fCls (x : Str) : Ft := fun K => (He.Fa.cls x).ok K
def fNo (x f : Str) : Ft := fun K => (He.Fa.noat x f).ok K
def fMeth (x m : Str) : Ft := fun K => (He.Fa.meth x m).ok K
def fMkr (x : Str) : Ft := fun K => (He.Fa.mkr x).ok K
def fSame (a b : PySem.W.Frag → Option (Option Value)) : Ft := fun K => He.eqO (a K) (b K)
def fBool (a : PySem.W.Frag → Option Bool) (b : Bool) : Ft := fun K => decide (a K = some b)
def fProp (x m : Str) : Ft := fun K => He.eqO (PySem.W.findIn K (.ref (He.ga K x)) m) (some (some (.ref (mA x m K)))) && (He.eqO (PySem.W.specialIn K (.ref (mA x m K)) "__get__") (some (some (.builtin "property.__get__"))) && (decide (PySem.W.takesIn K (.ref (mA x m K)) = some true) &&
  (match PySem.W.recIn K (mA x m K) "property" with
  | some (.ref _ :: _) => true
  | _ => false)))
theorem fProp_ok {K : PySem.W.Frag} {x m : Str} (h : fProp x m K = true) : PropOf K (He.ga K x) m (mA x m K) (pA x m K) := by
  obtain ⟨h1, h2⟩ := He.ba h
  obtain ⟨h3, h4⟩ := He.ba h2
  obtain ⟨h5, h6⟩ := He.ba h4
  refine ⟨He.eqO_ok h1, He.eqO_ok h3, of_decide_eq_true h5, ?_⟩
  unfold pA
  split at h6
  · rename_i g rest q
    exact ⟨rest, by rw [q]⟩
  · cases h6
/-- an operator of the class x -/
def fOper (x : Str) (op : Operator) : Ft := fun K => PySem.W.selfFirst K (He.ga K x) && (He.eqO (PySem.W.findIn K (.ref (He.ga K x)) (PySem.dunder op.info.2)) (some (some (.ref (mA x (PySem.dunder op.info.2) K)))) && PySem.W.isFn K (.ref (mA x (PySem.dunder op.info.2) K)))
theorem fOper_ok {K : PySem.W.Frag} {x : Str} {op : Operator} (h : fOper x op K = true) : OpAt K (He.ga K x) op (mA x (PySem.dunder op.info.2) K) := by
  obtain ⟨h1, h2⟩ := He.ba h
  obtain ⟨h3, h4⟩ := He.ba h2
  exact ⟨h1, He.eqO_ok h3, h4⟩
def fOpInt (x : Str) (op : Operator) : Ft := fun K => He.eqO (PySem.W.findIn K (.ref (He.ga K x)) (PySem.dunderR op.info.2)) (some none) && ((PySem.W.findIn K (.type "int") (PySem.dunder op.info.2)).isSome && ((PySem.W.findIn K (.type "int") (PySem.dunderR op.info.2)).isSome && decide (PySem.W.subIn K (.type "int") (.ref (He.ga K x)) = some false)))
theorem fOpInt_ok {K : PySem.W.Frag} {x : Str} {op : Operator} (h : fOpInt x op K = true) : OpInt K (He.ga K x) op := by
  obtain ⟨h1, h2⟩ := He.ba h
  obtain ⟨h3, h4⟩ := He.ba h2
  obtain ⟨h5, h6⟩ := He.ba h4
  exact ⟨He.eqO_ok h1, Option.isSome_iff_exists.mp h3, Option.isSome_iff_exists.mp h5, of_decide_eq_true h6⟩
/-- a special method of the class x -/
def fSpec (x m : Str) : Ft := fun K => He.eqO (PySem.W.findIn K (.ref (He.ga K x)) m) (some (some (.ref (mA x m K)))) && PySem.W.isFn K (.ref (mA x m K))
theorem fSpec_ok {K : PySem.W.Frag} {x m : Str} (h : fSpec x m K = true) : PySem.W.findIn K (.ref (He.ga K x)) m = some (some (.ref (mA x m K))) ∧ PySem.W.isFn K (.ref (mA x m K)) = true := by
  obtain ⟨h1, h2⟩ := He.ba h
  exact ⟨He.eqO_ok h1, h2⟩
end LL

set_option Elab.async false
set_option linter.all false
set_option maxRecDepth 100000
set_option maxHeartbeats 0
/-! E11: the head, the end. -/
namespace K11
open PySem PySem.Spec PyProof.Rows L2 LL
def d_is_integer : DefX := dX (gA "is_integer") "is_integer" "is_integer" s_is_integer
def d_common_divisor : DefX := dX (gA "common_divisor") "common_divisor" "common_divisor" s_common_divisor
def d_as_amount : DefX := dX (gA "as_amount") "as_amount" "as_amount" s_as_amount
def d_l_pot : DefX := dX (gA "_law_pot") "_law_pot" "_law_pot" s_l_pot
def d_l_digit : DefX := dX (gA "_law_digit") "_law_digit" "_law_digit" s_l_digit
def d_l_pick : DefX := dX (gA "_law_pick") "_law_pick" "_law_pick" s_l_pick
def d_l_whole : DefX := dX (gA "_law_whole") "_law_whole" "_law_whole" s_l_whole
def d_l_pair : DefX := dX (gA "_law_pair") "_law_pair" "_law_pair" s_l_pair
def d_l_lowest : DefX := dX (gA "_law_lowest") "_law_lowest" "_law_lowest" s_l_lowest
def d_l_is : DefX := dX (gA "_law_is") "_law_is" "_law_is" s_l_is
def d_l_made : DefX := dX (gA "_law_made") "_law_made" "_law_made" s_l_made
def d_l_told : DefX := dX (gA "_law_told") "_law_told" "_law_told" s_l_told
def d_l_compared : DefX := dX (gA "_law_compared") "_law_compared" "_law_compared" s_l_compared
def d_l_right : DefX := dX (gA "_law_right") "_law_right" "_law_right" s_l_right
def d_l_long_right : DefX := dX (gA "_law_long_right") "_law_long_right" "_law_long_right" s_l_long_right
def d_law : DefX := dX (gA "law") "law" "law" s_law
def d_Amountinit : DefX := dX (mA "Amount" "__init__") "__init__" "Amount.__init__" s_Amountinit [.int 1]
def d_Amountadd : DefX := dX (mA "Amount" "__add__") "__add__" "Amount.__add__" s_Amountadd
def d_Amountsub : DefX := dX (mA "Amount" "__sub__") "__sub__" "Amount.__sub__" s_Amountsub
def d_Amountmul : DefX := dX (mA "Amount" "__mul__") "__mul__" "Amount.__mul__" s_Amountmul
def d_Amountneg : DefX := dX (mA "Amount" "__neg__") "__neg__" "Amount.__neg__" s_Amountneg
def d_Amount_over : DefX := dX (mA "Amount" "over") "over" "Amount.over" s_Amount_over
def d_Amount_below : DefX := dX (mA "Amount" "below") "below" "Amount.below" s_Amount_below
def d_Amounteq : DefX := dX (mA "Amount" "__eq__") "__eq__" "Amount.__eq__" s_Amounteq
def d_Amountstr : DefX := dX (mA "Amount" "__str__") "__str__" "Amount.__str__" s_Amountstr
def d_Amountrepr : DefX := dX (mA "Amount" "__repr__") "__repr__" "Amount.__repr__" s_Amountrepr
def d_Amount_top : DefX := dX (pA "Amount" "top") "top" "Amount.top" s_Amount_top
def d_Amount_bottom : DefX := dX (pA "Amount" "bottom") "bottom" "Amount.bottom" s_Amount_bottom
def d_Amount_sign : DefX := dX (pA "Amount" "sign") "sign" "Amount.sign" s_Amount_sign
def fn : List DefX := [d_is_integer, d_common_divisor, d_as_amount, d_l_pot, d_l_digit, d_l_pick, d_l_whole, d_l_pair, d_l_lowest, d_l_is, d_l_made, d_l_told, d_l_compared, d_l_right, d_l_long_right, d_law, d_Amountinit, d_Amountadd, d_Amountsub, d_Amountmul, d_Amountneg, d_Amount_over, d_Amount_below, d_Amounteq, d_Amountstr, d_Amountrepr, d_Amount_top, d_Amount_bottom, d_Amount_sign]
def t0 : Ft := fCls "Amount"
def t1 : Ft := fNo "Amount" "own_top"
def t2 : Ft := fNo "Amount" "own_bottom"
def t3 : Ft := fSame (fun K => PySem.W.findIn K (.ref (He.ga K "Amount")) "__class__") (fun _ => some (some (.builtin "object.__class__")))
def t4 : Ft := fSame (fun K => PySem.W.specialIn K (.builtin "object.__class__") "__get__") (fun _ => some (some (.builtin "getset_descriptor.__get__")))
def t5 : Ft := fBool (fun K => PySem.W.takesIn K (.builtin "object.__class__")) true
def t6 : Ft := fBool (fun K => PySem.W.mroIn K (He.ga K "Amount") (.type "object")) true
def t7 : Ft := fBool (fun K => PySem.W.kitOne K (.type "int") (.ref (He.ga K "Amount"))) false
def t8 : Ft := fBool (fun K => PySem.W.kitOne K (.ref (He.ga K "Amount")) (.ref (He.ga K "Amount"))) true
def t9 : Ft := fSame (fun K => PySem.W.findIn K (.ref (He.ga K "Amount")) "__ne__") (fun _ => some (some (.builtin "object.__ne__")))
def t10 : Ft := (fun K => PySem.W.notFirst K (He.ga K "Amount") (.type "int"))
def t11 : Ft := (fun K => PySem.W.notFirst K (He.ga K "Amount") (.ref (He.ga K "Amount")))
def t12 : Ft := fMkr "Amount"
def t13 : Ft := fMeth "Amount" "over"
def t14 : Ft := fMeth "Amount" "below"
def t15 : Ft := fProp "Amount" "top"
def t16 : Ft := fProp "Amount" "bottom"
def t17 : Ft := fProp "Amount" "sign"
def t18 : Ft := fOper "Amount" .Add
def t19 : Ft := fOpInt "Amount" .Add
def t20 : Ft := fOper "Amount" .Sub
def t21 : Ft := fOpInt "Amount" .Sub
def t22 : Ft := fOper "Amount" .Mult
def t23 : Ft := fOpInt "Amount" .Mult
def t24 : Ft := fSpec "Amount" "__neg__"
def t25 : Ft := fSpec "Amount" "__eq__"
def t26 : Ft := fSpec "Amount" "__str__"
def t27 : Ft := fSpec "Amount" "__repr__"
def t28 : Ft := fGlo "is_integer"
def t29 : Ft := fGlo "common_divisor"
def t30 : Ft := fGlo "as_amount"
def t31 : Ft := fGlo "_law_pot"
def t32 : Ft := fGlo "_law_digit"
def t33 : Ft := fGlo "_law_pick"
def t34 : Ft := fGlo "_law_whole"
def t35 : Ft := fGlo "_law_pair"
def t36 : Ft := fGlo "_law_lowest"
def t37 : Ft := fGlo "_law_is"
def t38 : Ft := fGlo "_law_made"
def t39 : Ft := fGlo "_law_told"
def t40 : Ft := fGlo "_law_compared"
def t41 : Ft := fGlo "_law_right"
def t42 : Ft := fGlo "_law_long_right"
def t43 : Ft := fGlo "law"
def t44 : Ft := fGlo "Amount"
def t45 : Ft := fFree "isinstance"
def t46 : Ft := fFree "int"
def t47 : Ft := fFree "bool"
def t48 : Ft := fFree "abs"
def t49 : Ft := fFree "str"
def t50 : Ft := fFree "repr"
def t51 : Ft := fFree "range"
def t52 : Ft := fFree "len"
def t53 : Ft := fFree "max"
def t54 : Ft := fFree "min"
def t55 : Ft := fFree "divmod"
def t56 : Ft := fFree "all"
def t57 : Ft := fFree "zip"
def ft : List Ft := [t0, t1, t2, t3, t4, t5, t6, t7, t8, t9, t10, t11, t12, t13, t14, t15, t16, t17, t18, t19, t20, t21, t22, t23, t24, t25, t26, t27, t28, t29, t30, t31, t32, t33, t34, t35, t36, t37, t38, t39, t40, t41, t42, t43, t44, t45, t46, t47, t48, t49, t50, t51, t52, t53, t54, t55, t56, t57]
def loose : List PySem.Str := ["LeastlogError", "InvalidAmount", "ZeroDivisor", "is_integer", "common_divisor", "Amount", "as_amount", "_law_pot", "_law_digit", "_law_pick", "_law_whole", "_law_pair", "_law_lowest", "_law_is", "_law_made", "_law_told", "_law_compared", "_law_right", "_law_long_right"]
abbrev R : PySem.W.OpenRow := PySem.W.OpenLaw.row PySem.Challenge.rw_leastlog_k11_amounts_reckoned
abbrev hk : PySem.W.Hook := hookY 7 ft fn
def ob (s : PySem.W.SharedT) : AlX := obsYG 7 ft fn (HandSHeadRun.getT s)
theorem ob_eq (s : PySem.W.SharedT) : ob s = hk.obs s.abs := obsYG_eq (HandSHeadRun.getT_eq s)
theorem run (w : World) : HandSHeadRun.RunEq R (PySem.W.view R.prog [23]) hk ob 4000 loose w := by
  intro os
  kernel_rfl
section
variable {P : Program} {w : World} {K : PySem.W.Frag} {h : Heap} {mg : Str → Option Value} {fa : Addr}
theorem facts (X : K.In h) (G : h.Ns mainGlobals mg) (hfa : mg ("law" : Str) = some (.ref fa)) (c : SaysY ft fn K) :
    ∃ fd : FuncData, (∀ (s : Shared) (v : Value), BindsTo s fd ⟨[v], []⟩ [("_law_script", v)]) ∧ ∀ base : Heap, K.In base → base.Ns mainGlobals mg → FnG P w K mg base CX0 8 fa fd ["_law_script"] (spLaw K) := by
  obtain ⟨fd_is_integer, F_is_integer⟩ := c.fn_ 0
  obtain ⟨fd_common_divisor, F_common_divisor⟩ := c.fn_ 1
  obtain ⟨fd_as_amount, F_as_amount⟩ := c.fn_ 2
  obtain ⟨fd_l_pot, F_l_pot⟩ := c.fn_ 3
  obtain ⟨fd_l_digit, F_l_digit⟩ := c.fn_ 4
  obtain ⟨fd_l_pick, F_l_pick⟩ := c.fn_ 5
  obtain ⟨fd_l_whole, F_l_whole⟩ := c.fn_ 6
  obtain ⟨fd_l_pair, F_l_pair⟩ := c.fn_ 7
  obtain ⟨fd_l_lowest, F_l_lowest⟩ := c.fn_ 8
  obtain ⟨fd_l_is, F_l_is⟩ := c.fn_ 9
  obtain ⟨fd_l_made, F_l_made⟩ := c.fn_ 10
  obtain ⟨fd_l_told, F_l_told⟩ := c.fn_ 11
  obtain ⟨fd_l_compared, F_l_compared⟩ := c.fn_ 12
  obtain ⟨fd_l_right, F_l_right⟩ := c.fn_ 13
  obtain ⟨fd_l_long_right, F_l_long_right⟩ := c.fn_ 14
  obtain ⟨fd_law, F_law⟩ := c.fn_ 15
  obtain ⟨fd_Amountinit, F_Amountinit⟩ := c.fn_ 16
  obtain ⟨fd_Amountadd, F_Amountadd⟩ := c.fn_ 17
  obtain ⟨fd_Amountsub, F_Amountsub⟩ := c.fn_ 18
  obtain ⟨fd_Amountmul, F_Amountmul⟩ := c.fn_ 19
  obtain ⟨fd_Amountneg, F_Amountneg⟩ := c.fn_ 20
  obtain ⟨fd_Amount_over, F_Amount_over⟩ := c.fn_ 21
  obtain ⟨fd_Amount_below, F_Amount_below⟩ := c.fn_ 22
  obtain ⟨fd_Amounteq, F_Amounteq⟩ := c.fn_ 23
  obtain ⟨fd_Amountstr, F_Amountstr⟩ := c.fn_ 24
  obtain ⟨fd_Amountrepr, F_Amountrepr⟩ := c.fn_ 25
  obtain ⟨fd_Amount_top, F_Amount_top⟩ := c.fn_ 26
  obtain ⟨fd_Amount_bottom, F_Amount_bottom⟩ := c.fn_ 27
  obtain ⟨fd_Amount_sign, F_Amount_sign⟩ := c.fn_ 28
  have T : Tx K mg (He.ga K "Amount") := {
    cl := He.cls_ok (c.fact 0)
    nT := He.noat_ok (c.fact 1)
    nB := He.noat_ok (c.fact 2)
    g_Amount := He.glo_ok X G (c.fact 44)
    ca := He.eqO_ok (c.fact 3)
    cn := He.eqO_ok (c.fact 4)
    ne := He.eqO_ok (c.fact 9)
    ct := of_decide_eq_true (c.fact 5)
    cm := of_decide_eq_true (c.fact 6)
    kI := of_decide_eq_true (c.fact 7)
    kC := of_decide_eq_true (c.fact 8)
    fI := (c.fact 10)
    fC := (c.fact 11)
    n_isinstance := He.free_ok X G (c.fact 45)
    n_int := He.free_ok X G (c.fact 46)
    n_bool := He.free_ok X G (c.fact 47)
    n_abs := He.free_ok X G (c.fact 48)
    n_str := He.free_ok X G (c.fact 49)
    n_repr := He.free_ok X G (c.fact 50)
    n_range := He.free_ok X G (c.fact 51)
    n_len := He.free_ok X G (c.fact 52)
    n_max := He.free_ok X G (c.fact 53)
    n_min := He.free_ok X G (c.fact 54)
    n_divmod := He.free_ok X G (c.fact 55)
    n_all := He.free_ok X G (c.fact 56)
    n_zip := He.free_ok X G (c.fact 57)
  }
  have B_is_integer : Binds K fd_is_integer ["value"] [] := F_is_integer.bindsN fun _ _ _ _ _ _ us hl => match us, hl with | [_], _ => rfl
  have B_common_divisor : Binds K fd_common_divisor ["one", "other"] [] := F_common_divisor.bindsN fun _ _ _ _ _ _ us hl => match us, hl with | [_, _], _ => rfl
  have B_as_amount : Binds K fd_as_amount ["value"] [] := F_as_amount.bindsN fun _ _ _ _ _ _ us hl => match us, hl with | [_], _ => rfl
  have B_l_pot : Binds K fd_l_pot ["_law_script", "_law_k"] [] := F_l_pot.bindsN fun _ _ _ _ _ _ us hl => match us, hl with | [_, _], _ => rfl
  have B_l_digit : Binds K fd_l_digit ["_law_pot_here", "_law_many"] [] := F_l_digit.bindsN fun _ _ _ _ _ _ us hl => match us, hl with | [_, _], _ => rfl
  have B_l_pick : Binds K fd_l_pick ["_law_pot_here", "_law_some"] [] := F_l_pick.bindsN fun _ _ _ _ _ _ us hl => match us, hl with | [_, _], _ => rfl
  have B_l_whole : Binds K fd_l_whole ["_law_pot_here"] [] := F_l_whole.bindsN fun _ _ _ _ _ _ us hl => match us, hl with | [_], _ => rfl
  have B_l_pair : Binds K fd_l_pair ["_law_pot_here"] [] := F_l_pair.bindsN fun _ _ _ _ _ _ us hl => match us, hl with | [_], _ => rfl
  have B_l_lowest : Binds K fd_l_lowest ["_law_pair_here"] [] := F_l_lowest.bindsN fun _ _ _ _ _ _ us hl => match us, hl with | [_], _ => rfl
  have B_l_is : Binds K fd_l_is ["_law_amount", "_law_pair_here"] [] := F_l_is.bindsN fun _ _ _ _ _ _ us hl => match us, hl with | [_, _], _ => rfl
  have B_l_made : Binds K fd_l_made ["_law_way", "_law_one", "_law_second"] [] := F_l_made.bindsN fun _ _ _ _ _ _ us hl => match us, hl with | [_, _, _], _ => rfl
  have B_l_told : Binds K fd_l_told ["_law_way", "_law_one", "_law_second"] [] := F_l_told.bindsN fun _ _ _ _ _ _ us hl => match us, hl with | [_, _, _], _ => rfl
  have B_l_compared : Binds K fd_l_compared ["_law_one", "_law_pair_here", "_law_second", "_law_other", "_law_is_whole"] [] := F_l_compared.bindsN fun _ _ _ _ _ _ us hl => match us, hl with | [_, _, _, _, _], _ => rfl
  have B_l_right : Binds K fd_l_right ["_law_pot_here"] [] := F_l_right.bindsN fun _ _ _ _ _ _ us hl => match us, hl with | [_], _ => rfl
  have B_l_long_right : Binds K fd_l_long_right [] [] := F_l_long_right.bindsN fun _ _ _ _ _ _ us hl => match us, hl with | [], _ => rfl
  have B_law : Binds K fd_law ["_law_script"] [] := F_law.bindsN fun _ _ _ _ _ _ us hl => match us, hl with | [_], _ => rfl
  obtain ⟨ds1, v1, B1⟩ := FunD.binds1 (ps := ["self", "top", "bottom"]) F_Amountinit 2 0 (by decide) rfl fun _ _ _ _ _ _ _ us its hl hi => match us, its, hl, hi with | [_, _], [_], _, _ => ⟨_, rfl, rfl⟩
  obtain ⟨ds2, v2, B2⟩ := FunD.binds1 (ps := ["self", "top", "bottom"]) F_Amountinit 3 1 (by decide) rfl fun _ _ _ _ _ _ _ us its hl hi => match us, its, hl, hi with | [_, _, _], [_], _, _ => ⟨_, rfl, rfl⟩
  have B_Amountadd : Binds K fd_Amountadd ["self", "other"] [] := F_Amountadd.bindsN fun _ _ _ _ _ _ us hl => match us, hl with | [_, _], _ => rfl
  have B_Amountsub : Binds K fd_Amountsub ["self", "other"] [] := F_Amountsub.bindsN fun _ _ _ _ _ _ us hl => match us, hl with | [_, _], _ => rfl
  have B_Amountmul : Binds K fd_Amountmul ["self", "other"] [] := F_Amountmul.bindsN fun _ _ _ _ _ _ us hl => match us, hl with | [_, _], _ => rfl
  have B_Amountneg : Binds K fd_Amountneg ["self"] [] := F_Amountneg.bindsN fun _ _ _ _ _ _ us hl => match us, hl with | [_], _ => rfl
  have B_Amount_over : Binds K fd_Amount_over ["self", "divisor"] [] := F_Amount_over.bindsN fun _ _ _ _ _ _ us hl => match us, hl with | [_, _], _ => rfl
  have B_Amount_below : Binds K fd_Amount_below ["self", "other"] [] := F_Amount_below.bindsN fun _ _ _ _ _ _ us hl => match us, hl with | [_, _], _ => rfl
  have B_Amounteq : Binds K fd_Amounteq ["self", "other"] [] := F_Amounteq.bindsN fun _ _ _ _ _ _ us hl => match us, hl with | [_, _], _ => rfl
  have B_Amountstr : Binds K fd_Amountstr ["self"] [] := F_Amountstr.bindsN fun _ _ _ _ _ _ us hl => match us, hl with | [_], _ => rfl
  have B_Amountrepr : Binds K fd_Amountrepr ["self"] [] := F_Amountrepr.bindsN fun _ _ _ _ _ _ us hl => match us, hl with | [_], _ => rfl
  have B_Amount_top : Binds K fd_Amount_top ["self"] [] := F_Amount_top.bindsN fun _ _ _ _ _ _ us hl => match us, hl with | [_], _ => rfl
  have B_Amount_bottom : Binds K fd_Amount_bottom ["self"] [] := F_Amount_bottom.bindsN fun _ _ _ _ _ _ us hl => match us, hl with | [_], _ => rfl
  have B_Amount_sign : Binds K fd_Amount_sign ["self"] [] := F_Amount_sign.bindsN fun _ _ _ _ _ _ us hl => match us, hl with | [_], _ => rfl
  have e := hfa.symm.trans (He.glo_ok X G (c.fact 43))
  cases e
  have b := FunD.bindsA (ps := ["_law_script"]) F_law fun _ _ _ _ _ _ us hl => match us, hl with | [_], _ => rfl
  refine ⟨fd_law, fun s v => b s [v] rfl, fun base _ _ => ?_⟩
  have G_is_integer : Fnc P w K mg base CX0 1 "is_integer" [] (spIsInt K) := ⟨_, _, _, [], He.glo_ok X G (c.fact 28), F_is_integer.kp, B_is_integer, .nil, ok_is_integer T F_is_integer⟩
  have G_common_divisor : Fnc P w K mg base CX0 1 "common_divisor" [] spGcd := ⟨_, _, _, [], He.glo_ok X G (c.fact 29), F_common_divisor.kp, B_common_divisor, .nil, ok_common_divisor T F_common_divisor⟩
  have init := ok_init (P := P) (w := w) (base := base) T G_is_integer G_common_divisor F_Amountinit
  have K1 : Mkr P w K mg base CX0 2 "Amount" (He.ga K "Amount") [.int 1] (spInit (He.ga K "Amount")) := ⟨_, _, _, _, He.mkr_ok (c.fact 12), T.g_Amount, B1, v1, init⟩
  have K2 : Mkr P w K mg base CX0 2 "Amount" (He.ga K "Amount") [] (spInit (He.ga K "Amount")) := ⟨_, _, _, _, He.mkr_ok (c.fact 12), T.g_Amount, B2, v2, init⟩
  have G_as_amount : Fnc P w K mg base CX0 4 "as_amount" [] (spAs (He.ga K "Amount")) := ⟨_, _, _, [], He.glo_ok X G (c.fact 30), F_as_amount.kp, B_as_amount, .nil, ok_as_amount T K1 F_as_amount⟩
  have O_add : OpF P w K mg base CX0 5 (He.ga K "Amount") .Add _ := ⟨_, _, _, fOper_ok (c.fact 18), fOpInt_ok (c.fact 19), B_Amountadd, ok_add T K2 G_as_amount F_Amountadd⟩
  have O_sub : OpF P w K mg base CX0 5 (He.ga K "Amount") .Sub _ := ⟨_, _, _, fOper_ok (c.fact 20), fOpInt_ok (c.fact 21), B_Amountsub, ok_sub T K2 G_as_amount F_Amountsub⟩
  have O_mul : OpF P w K mg base CX0 5 (He.ga K "Amount") .Mult _ := ⟨_, _, _, fOper_ok (c.fact 22), fOpInt_ok (c.fact 23), B_Amountmul, ok_mul T K2 G_as_amount F_Amountmul⟩
  have M_over : Mth P w K mg base CX0 5 (He.ga K "Amount") "over" [] _ := ⟨T.cl, _, _, _, [], He.meth_ok (c.fact 13), B_Amount_over, .nil, ok_over T K2 G_as_amount F_Amount_over⟩
  have M_below : Mth P w K mg base CX0 5 (He.ga K "Amount") "below" [] _ := ⟨T.cl, _, _, _, [], He.meth_ok (c.fact 14), B_Amount_below, .nil, ok_below T G_as_amount F_Amount_below⟩
  have S_neg : SpF P w K mg base CX0 4 (He.ga K "Amount") "__neg__" _ := ⟨_, _, _, (fSpec_ok (c.fact 24)).1, (fSpec_ok (c.fact 24)).2, B_Amountneg, ok_neg T K2 F_Amountneg⟩
  have S_eq : SpF P w K mg base CX0 1 (He.ga K "Amount") "__eq__" _ := ⟨_, _, _, (fSpec_ok (c.fact 25)).1, (fSpec_ok (c.fact 25)).2, B_Amounteq, ok_eq T F_Amounteq⟩
  have S_str : SpF P w K mg base CX0 1 (He.ga K "Amount") "__str__" _ := ⟨_, _, _, (fSpec_ok (c.fact 26)).1, (fSpec_ok (c.fact 26)).2, B_Amountstr, ok_str T F_Amountstr⟩
  have S_repr : SpF P w K mg base CX0 1 (He.ga K "Amount") "__repr__" _ := ⟨_, _, _, (fSpec_ok (c.fact 27)).1, (fSpec_ok (c.fact 27)).2, B_Amountrepr, ok_repr T F_Amountrepr⟩
  have P_top : Prp P w K mg base CX0 1 (He.ga K "Amount") "top" _ := ⟨T.cl, _, _, _, _, fProp_ok (c.fact 15), B_Amount_top, ok_top T F_Amount_top⟩
  have P_bottom : Prp P w K mg base CX0 1 (He.ga K "Amount") "bottom" _ := ⟨T.cl, _, _, _, _, fProp_ok (c.fact 16), B_Amount_bottom, ok_bottom T F_Amount_bottom⟩
  have P_sign : Prp P w K mg base CX0 1 (He.ga K "Amount") "sign" _ := ⟨T.cl, _, _, _, _, fProp_ok (c.fact 17), B_Amount_sign, ok_sign T F_Amount_sign⟩
  have G_l_pot : Fnc P w K mg base CX0 1 "_law_pot" [] (spPot K) := ⟨_, _, _, [], He.glo_ok X G (c.fact 31), F_l_pot.kp, B_l_pot, .nil, ok_l_pot T F_l_pot⟩
  have G_l_digit : Fnc P w K mg base CX0 1 "_law_digit" [] spDigit := ⟨_, _, _, [], He.glo_ok X G (c.fact 32), F_l_digit.kp, B_l_digit, .nil, ok_l_digit T F_l_digit⟩
  have G_l_pick : Fnc P w K mg base CX0 2 "_law_pick" [] spPick := ⟨_, _, _, [], He.glo_ok X G (c.fact 33), F_l_pick.kp, B_l_pick, .nil, ok_l_pick T G_l_digit F_l_pick⟩
  have G_l_whole : Fnc P w K mg base CX0 3 "_law_whole" [] spWhole := ⟨_, _, _, [], He.glo_ok X G (c.fact 34), F_l_whole.kp, B_l_whole, .nil, ok_l_whole T G_l_digit G_l_pick F_l_whole⟩
  have G_l_pair : Fnc P w K mg base CX0 4 "_law_pair" [] spPair := ⟨_, _, _, [], He.glo_ok X G (c.fact 35), F_l_pair.kp, B_l_pair, .nil, ok_l_pair T G_l_digit G_l_whole F_l_pair⟩
  have G_l_lowest : Fnc P w K mg base CX0 1 "_law_lowest" [] spLow := ⟨_, _, _, [], He.glo_ok X G (c.fact 36), F_l_lowest.kp, B_l_lowest, .nil, ok_l_lowest T F_l_lowest⟩
  have G_l_is : Fnc P w K mg base CX0 5 "_law_is" [] (spIs (He.ga K "Amount")) := ⟨_, _, _, [], He.glo_ok X G (c.fact 37), F_l_is.kp, B_l_is, .nil, ok_l_is T G_l_lowest P_top P_bottom P_sign S_str S_repr F_l_is⟩
  have G_l_made : Fnc P w K mg base CX0 1 "_law_made" [] spMade := ⟨_, _, _, [], He.glo_ok X G (c.fact 38), F_l_made.kp, B_l_made, .nil, ok_l_made T F_l_made⟩
  have G_l_told : Fnc P w K mg base CX0 6 "_law_told" [] (spTold (He.ga K "Amount")) := ⟨_, _, _, [], He.glo_ok X G (c.fact 39), F_l_told.kp, B_l_told, .nil, ok_l_told T O_add O_sub O_mul M_over S_neg F_l_told⟩
  have G_l_compared : Fnc P w K mg base CX0 6 "_law_compared" [] (spCmp (He.ga K "Amount")) := ⟨_, _, _, [], He.glo_ok X G (c.fact 40), F_l_compared.kp, B_l_compared, .nil, ok_l_compared T G_l_lowest M_below S_eq F_l_compared⟩
  have G_l_right : Fnc P w K mg base CX0 7 "_law_right" [] spRight := ⟨_, _, _, [], He.glo_ok X G (c.fact 41), F_l_right.kp, B_l_right, .nil, ok_l_right T G_l_pair G_l_digit G_l_pick G_l_whole G_l_compared G_l_lowest G_l_made G_l_told G_l_is (mkf1 K1) (mkf2 K2) S_repr F_l_right⟩
  have G_l_long_right : Fnc P w K mg base CX0 7 "_law_long_right" [] spLong := ⟨_, _, _, [], He.glo_ok X G (c.fact 42), F_l_long_right.kp, B_l_long_right, .nil, ok_l_long T (mkf1 K1) O_add O_sub O_mul M_over P_top P_bottom S_str F_l_long_right⟩
  exact ok_law T G_l_long_right G_l_pot G_l_right F_law
end
end K11
open PySem PySem.W PySem.Calls PyProof.Rows
theorem PySem.Challenge.cw_leastlog_k11_amounts_reckoned_holds : PySem.Challenge.rw_leastlog_k11_amounts_reckoned.Holds := by
  w_on; o_law
  refine HandSHeadRun.head_any (r := OpenLaw.row PySem.Challenge.rw_leastlog_k11_amounts_reckoned) (q := view (OpenLaw.row PySem.Challenge.rw_leastlog_k11_amounts_reckoned).prog [23]) (H := K11.hk) (ob := K11.ob) (M := 4000) (loose := K11.loose) (d := HandSHeadRun.topDef (OpenLaw.row PySem.Challenge.rw_leastlog_k11_amounts_reckoned).prog 23) (kwd := []) K11.ob_eq
    (by kernel_rfl) (fun s => by kernel_rfl) K11.run (by kernel_rfl) (by kernel_rfl) (by kernel_rfl) (by rfl) (by first | assumption | decide +kernel) (by decide +kernel) ⟨rfl, rfl, rfl, rfl, rfl, by decide +kernel⟩ ?hw ?hc
  case hw => w_witness2
  case hc =>
    refine LL.walkG (l := PySem.Challenge.rw_leastlog_k11_amounts_reckoned) (n := 63) (k := 8) (x := "_law_script") (CX := L2.CX0) rfl (by decide) (by kernel_rfl) ⟨⟨rfl, by decide, by decide⟩, rfl⟩ ?F (fun _ _ _ _ z => z)
    intro w mg fa h Y G hmg0
    obtain ⟨K, KX, c⟩ := Y
    have hmg : mg ("law" : PySem.Str) = some (.ref fa) := by
      have e : (HandSHeadRun.topDef (OpenLaw.row PySem.Challenge.rw_leastlog_k11_amounts_reckoned).prog 23).name = ("law" : PySem.Str) := by kernel_rfl
      rw [← e]
      exact hmg0
    obtain ⟨fd, hb, hF⟩ := K11.facts (P := (PySem.Challenge.rw_leastlog_k11_amounts_reckoned).prog) (w := w) KX G hmg c
    exact ⟨K, fd, K11.spLaw K, KX, hb, fun H a ns hl _ hS => ⟨a, ns, rfl, hS, hl, fun _ => rfl⟩, hF⟩
