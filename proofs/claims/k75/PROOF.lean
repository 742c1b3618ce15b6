import PyProof.Rows.All
import Wide.All
import OpenK.AllK
import Wide.FinOn
import KE.KOpsOwn
import KE.KCallOwn
import KE.KFmtOwn
import PyProof.ReprRoads
import HandS.ForMost
import HandS.Exc
import HandS.Lambda
import HandS.Defaults
import HandS.Property
import HandS.IsInst
import HandS.FStr
import HandS.WideBits
import HandS.EndTab
import HandS.SlotsOwn
import HandS.FStrTup
import HandS.RaiseMore
import HandS.Head0
import HandS.Head1
import HandS.Head2
import HandS.HeadEnd
import HandS.HeadHook1
import HandS.HeadHook2
import HandS.EndBits
import HandS.TryOnly
import HandS.TryMany
import HandS.ExcInit
import HandS.ExcField
import HandS.ExcIs
import HandS.HeadHook4
import HandS.Walk
import HandS.Text
import HandS.StrSplit
import HandS.StrMore
import HandS.Replace
import PyProof.Rows.StrMul
import PySem.Challenge.RW_leastlog_k75_sealed_rows
set_option Elab.async false
set_option linter.all false
set_option maxRecDepth 100000
set_option maxHeartbeats 2000000
/-! LLBase: the layer with one fact more: no repr is under way where a def is called. -/
namespace LL
open PySem PySem.Spec PyProof.Rows L2

/-- room for k calls, and no container's repr is under way -/
structure Rm (k : Nat) (A : Around) : Prop where
  r : Room k A
  g : A.guards = some []
theorem Rm.mono {j k : Nat} {A : Around} (h : Rm k A) (q : j ≤ k) : Rm j A := ⟨h.r.mono q, h.g⟩
theorem Rm.deeper {k : Nat} {A : Around} (h : Rm (k + 1) A) (env : Env) : Rm k (A.deeper env) := ⟨h.r.deeper env, h.g⟩
theorem Rm.in1 {k : Nat} {A : Around} (h : Rm (k + 1) A) : Rm k A.in1 := ⟨h.r.in1, h.g⟩
theorem Rm.make {k : Nat} {A : Around} (h : Rm (k + 1) A) (C : Addr) (us : List Value) (kw : List (Str × Value)) : Rm k (A.under (.builtin "type.__call__" ⟨.ref C :: us, kw⟩)) :=
  ⟨h.r.make C us kw, by
    have e : (Code.builtin "type.__call__" ⟨.ref C :: us, kw⟩).guards = [] := by
      first | rfl | simp [Code.guards, Code.isGuard, guardIds]
    unfold Around.under
    rw [e, h.g]
    rfl⟩

/-- a def keeps its promise wherever there is room and no repr is under way -/
structure FnG (P : Program) (w : World) (K : PySem.W.Frag) (mg : Str → Option Value) (base : Heap) (CX : CXT) (k : Nat) (f : Addr) (fd : FuncData) (ps : List Str) (sp : Sp) : Prop where
  len : ∀ vs H Q E, sp vs H Q E → vs.length = ps.length
  run : ∀ (A : Around) (outer : List Env) (s : Shared) (H : Hp) (args : Args) (us : List Value) (vs : List V) (Q : VK) (E : XK), Rm k A → Env0 P w K mg base A outer s H → BindsTo s fd args (ps.zip us) → Vals vs us → sp vs H Q E →
    codeAny (model P w) A (.call (.ref f) args) (CR CX outer P w H s Q E) s
section
variable {P : Program} {w : World} {K : PySem.W.Frag} {mg : Str → Option Value} {base : Heap} {CX : CXT} {k : Nat} {f : Addr} {fd : FuncData} {ps : List Str} {sp sp' : Sp}
theorem FnG.mono {j : Nat} (F : FnG P w K mg base CX j f fd ps sp) (h : j ≤ k) : FnG P w K mg base CX k f fd ps sp :=
  ⟨F.len, fun A outer s H args us vs Q E hr => F.run A outer s H args us vs Q E (hr.mono h)⟩
theorem FnG.imp (F : FnG P w K mg base CX k f fd ps sp) (h : ∀ vs H Q E, sp' vs H Q E → sp vs H Q E) : FnG P w K mg base CX k f fd ps sp' :=
  ⟨fun vs H Q E q => F.len vs H Q E (h _ _ _ _ q), fun A outer s H args us vs Q E hr he hb hv hs => F.run A outer s H args us vs Q E hr he hb hv (h _ _ _ _ hs)⟩
/-- a def by its body: it may raise -/
theorem okX {x qual : Str} {params : Arguments} {body : List Stmt} {scope : Scope} {dvs : List V} {kws : List (Str × V)} {N : List Str} (F : FunD K x qual params body scope dvs kws f fd) (S : FnScope N ps scope) (len : ∀ vs H Q E, sp vs H Q E → vs.length = ps.length)
    (hbody : ∀ (cdv : Value) (A : Around) (outer : List Env) (s : Shared) (H : Hp) (vs : List V) (Q : VK) (E : XK), Rm k (A.deeper (envOfC qual scope s.heap.objs.size f cdv)) → sp vs H Q E →
      ∃ t, PSs (cxOf CX P w K mg base N qual scope f cdv A outer s H E) body t ∧ t { nx := fun _ H' => Q .non H', rt := Q } (L2.start N vs) H) : FnG P w K mg base CX (k + 1) f fd ps sp := by
  obtain ⟨oc, od, dV, kV, doc, pm, an, cdv, ct, osl, rfl, lk, hcd, _, _⟩ := F.ex
  refine ⟨len, fun A outer s H args us vs Q E hr e0 hb r hsp => ?_⟩
  exact LamX.run_ofS (CX := CX) lk hcd S hr.r e0 hb r (len _ _ _ _ hsp) fun _ => hbody cdv A outer s H vs Q E (hr.deeper _) hsp
/-- a def by its body: nothing leaves it -/
theorem ok0 {x qual : Str} {params : Arguments} {body : List Stmt} {scope : Scope} {dvs : List V} {kws : List (Str × V)} {N : List Str} (F : FunD K x qual params body scope dvs kws f fd) (S : FnScope N ps scope) (len : ∀ vs H Q E, sp vs H Q E → vs.length = ps.length)
    (hbody : ∀ (cdv : Value) (A : Around) (outer : List Env) (s : Shared) (H : Hp) (vs : List V) (Q : VK) (E : XK), Rm k (A.deeper (envOfC qual scope s.heap.objs.size f cdv)) → sp vs H Q E →
      ∃ t, PSs (cxOf CX0 P w K mg base N qual scope f cdv A outer s H E).nox body t ∧ t { nx := fun _ H' => Q .non H', rt := Q } (L2.start N vs) H) : FnG P w K mg base CX0 (k + 1) f fd ps sp :=
  okX F S len fun cdv A outer s H vs Q E hr h => by
    obtain ⟨t, ht, q⟩ := hbody cdv A outer s H vs Q E hr h
    exact ⟨t, ht.nox, q⟩
end

section
variable {X : Cx} {CX : CXT} {k : Nat} {f C : Addr} {fd : FuncData} {ps : List Str} {sp : Sp} {dvs : List V} {ds : List Value} {E : XK} {x m : Str} {p pos apos : Pos} {e o : Expr} {es : List Expr} {ta : TE} {t : TA}
/-- the callee runs, at any place that stands for this body's -/
theorem run_g {pins : List (Addr × Obj)} {σ : L2.St} {H : Hp} {s : Shared} {Q : VK} {us : List Value} {vs : List V} {A : Around} (F : FnG X.prog X.w X.K X.mg X.base CX k f fd ps sp) (hr : Rm k A) (e0 : Env0 X.prog X.w X.K X.mg X.base A X.stack s H) (hb : Binds X.K fd ps ds) (hd : Vals dvs ds) (hx : Passes CX X E)
    (I : Inv X pins σ H s) (r : Vals vs us) (h : sp (vs ++ dvs) H Q E) : wpAny (model X.prog X.w) A (call (.ref f) us) (EP X pins σ Q) X.xe s := by
  have r2 : Vals (vs ++ dvs) (us ++ ds) := r.append hd
  have hl : (us ++ ds).length = ps.length := by
    have := F.len _ _ _ _ h
    rw [← this]
    exact r2.length.symm
  have go := F.run A X.stack s H ⟨us, []⟩ (us ++ ds) (vs ++ dvs) Q E hr e0 (hb s us I.kIn hl) r2 h
  refine wpAny_call (codeAny_mono go fun r s' hq => ?_)
  match r, hq with
  | .error er, hq => exact hx pins σ H s er s' I hq
  | .ok (.ret u), hq => exact I.after hq
  | .ok .next, hq => exact False.elim hq
  | .ok .brk, hq => exact False.elim hq
  | .ok .cont, hq => exact False.elim hq
/-- f(e, ..) -/
theorem pe_callG (F : FnG X.prog X.w X.K X.mg X.base CX k f fd ps sp) (hr : Rm k X.A) (hg : Gl X x) (hm : X.mg x = some (.ref f)) (hk : PySem.W.keepIn X.K (.ref f) = true) (hb : Binds X.K fd ps ds) (hd : Vals dvs ds) (hx : Passes CX X E)
    (ha : PA X (e :: es) t) (hdb : (x == ("__debug__" : Str)) = false := by decide) (he : starEach (e :: es) X.env = (false, eval e X.env) :: starEach es X.env := by rfl) (hpl : (backTo pos (starEach es X.env)).any (·.1) = false := by rfl) :
    PE X (.Call (.Name x p) (e :: es) [] pos) (tCall sp dvs E t) :=
  ⟨fun pins s σ H Q I h => wpAny_Call_Name_kw (ld_glob I hg hm (PySem.W.callWith_K (h₀ := X.base) I.ok.mod.kin hk (thn (ha.run pos pins s σ H _ I h) fun us s1 ⟨vs, H1, I1, r, q⟩ => ⟨I1.kIn, run_g F hr I1.env0 hb hd hx I1 r q⟩) he hpl) hdb)⟩
theorem pe_call0G (F : FnG X.prog X.w X.K X.mg X.base CX k f fd ps sp) (hr : Rm k X.A) (hg : Gl X x) (hm : X.mg x = some (.ref f)) (hk : PySem.W.keepIn X.K (.ref f) = true) (hb : Binds X.K fd ps ds) (hd : Vals dvs ds) (hx : Passes CX X E)
    (hdb : (x == ("__debug__" : Str)) = false := by decide) : PE X (.Call (.Name x p) [] [] pos) (tCall sp dvs E tNil) :=
  ⟨fun pins s σ H Q I h => wpAny_Call_Name_kw (ld_glob I hg hm (PySem.W.callWith_K0 I.kIn hk (run_g (us := []) F hr I.env0 hb hd hx I .nil h)) hdb)⟩
/-- o.m(e, ..) -/
theorem pe_methG {pl : Sem Bool} (he : PE X o ta) (c : Cls X.K C) (hm : Meth X.K C m f) (F : FnG X.prog X.w X.K X.mg X.base CX k f fd ps sp) (hr : Rm k X.A) (hb : Binds X.K fd ps ds) (hd : Vals dvs ds) (hx : Passes CX X E) (ha : PA X (e :: es) t)
    (hst : starEach (e :: es) X.env = (false, eval e X.env) :: starEach es X.env := by rfl) (hpl : (backTo pos (starEach es X.env)).any (·.1) = false := by rfl)
    (ht : eval (.Call (.Attribute o m apos) (e :: es) [] pos) X.env = (do
      let ov ← eval o X.env
      standAt apos.atName
      let (f, first) ← holding [ov] (getMethod ov m pl)
      callWith pos f first (backTo pos (starEach (e :: es) X.env)) (backToKw pos (keywordEach [] X.env))) := by rfl) :
    PE X (.Call (.Attribute o m apos) (e :: es) [] pos) (tMeth C m sp dvs E ta t) := by
  refine ⟨fun pins s σ H Q I h => PySem.W.methodCall_KW (pl := pl) (thn (he.run pins s σ H _ I h) fun u s1 hh => ?_) ht⟩
  obtain ⟨x, H1, I1, rx, a, dx, fs, rfl, ea, l, q⟩ := hh
  obtain rfl : u = Value.ref a := rx
  exact getmeth_ok I1 ea c hm l (PySem.W.callWith_K (first := [.ref a]) (h₀ := X.base) I.ok.mod.kin hm.kp (thn (ha.run pos pins s1 σ H1 _ I1 q) fun us s2 ⟨vs, H2, I2, r, q2⟩ =>
    ⟨I2.kIn, run_g (us := .ref a :: us) (vs := .ref a :: vs) F hr I2.env0 hb hd hx I2 (.cons rfl r) q2⟩) hst hpl)
theorem pe_meth0G {pl : Sem Bool} (he : PE X o ta) (c : Cls X.K C) (hm : Meth X.K C m f) (F : FnG X.prog X.w X.K X.mg X.base CX k f fd ps sp) (hr : Rm k X.A) (hb : Binds X.K fd ps ds) (hd : Vals dvs ds) (hx : Passes CX X E)
    (ht : eval (.Call (.Attribute o m apos) [] [] pos) X.env = (do
      let ov ← eval o X.env
      standAt apos.atName
      let (f, first) ← holding [ov] (getMethod ov m pl)
      callWith pos f first (backTo pos (starEach [] X.env)) (backToKw pos (keywordEach [] X.env))) := by rfl) :
    PE X (.Call (.Attribute o m apos) [] [] pos) (tMeth C m sp dvs E ta tNil) := by
  refine ⟨fun pins s σ H Q I h => PySem.W.methodCall_KW (pl := pl) (thn (he.run pins s σ H _ I h) fun u s1 hh => ?_) ht⟩
  obtain ⟨x, H1, I1, rx, a, dx, fs, rfl, ea, l, q⟩ := hh
  obtain rfl : u = Value.ref a := rx
  exact getmeth_ok I1 ea c hm l (PySem.W.callWith_K0 (first := [.ref a]) I1.kIn hm.kp (run_g (us := [.ref a]) (vs := [.ref a]) F hr I1.env0 hb hd hx I1 (.cons rfl .nil) q))
/-- C(e, ..): a new instance, then its __init__ -/
theorem run_makeG {pins : List (Addr × Obj)} {σ : L2.St} {H : Hp} {s : Shared} {Q : VK} {us : List Value} {vs : List V} (M : Mk X.K C f) (F : FnG X.prog X.w X.K X.mg X.base CX k f fd ps sp) (hr : Rm (k + 1) X.A) (hb : Binds X.K fd ps ds) (hd : Vals dvs ds)
    (hx : Passes CX X E) (I : Inv X pins σ H s) (r : Vals vs us)
    (h : ∀ x dx, H x = none → H dx = none → dx ≠ x → sp (.ref x :: (vs ++ dvs)) (upd (upd H dx (.own x)) x (.ins C dx [])) (fun v H2 => v = .non ∧ Q (.ref x) H2) E) :
    wpAny (model X.prog X.w) X.A (call (.ref C) us) (EP X pins σ Q) X.xe s := by
  have n1 : H (s.heap.objs.size + 1) = none := I.hok.fresh (Nat.le_succ _)
  have n0 : H s.heap.objs.size = none := I.hok.fresh (Nat.le_refl _)
  have hq := h (s.heap.objs.size + 1) s.heap.objs.size n1 n0 (Nat.ne_of_lt (Nat.lt_succ_self _))
  have I2 := Inv.made (C := C) I
  have r2 : Vals (V.ref (s.heap.objs.size + 1) :: (vs ++ dvs)) (Value.ref (s.heap.objs.size + 1) :: (us ++ ds)) := .cons rfl (r.append hd)
  have hl : (Value.ref (s.heap.objs.size + 1) :: us ++ ds).length = ps.length := r2.length.symm.trans (F.len _ _ _ _ hq)
  have go := F.run (X.A.under (.builtin "type.__call__" ⟨.ref C :: us, []⟩)) X.stack _ _ ⟨Value.ref (s.heap.objs.size + 1) :: us, []⟩ (Value.ref (s.heap.objs.size + 1) :: (us ++ ds)) _ _ E (hr.make C us [])
    (I2.env0.make C us []) (hb _ (Value.ref (s.heap.objs.size + 1) :: us) I2.kIn hl) r2 hq
  refine wpAny_call (make_map (f := f) I.kIn M.makes M.init (beq_iff_eq.mp M.fn) (codeAny_mono go fun r s' hq' => ?_))
  match r, hq' with
  | .error er, hq' => exact hx pins σ _ _ er s' I2 hq'
  | .ok (.ret u), hq' =>
    obtain ⟨v, H', I3, rv, rfl, q3⟩ := I2.after hq'
    exact ⟨rv, ⟨V.ref (s.heap.objs.size + 1), H', I3, rfl, q3⟩⟩
  | .ok .next, hq' => exact False.elim hq'
  | .ok .brk, hq' => exact False.elim hq'
  | .ok .cont, hq' => exact False.elim hq'
theorem pe_makeG (M : Mk X.K C f) (F : FnG X.prog X.w X.K X.mg X.base CX k f fd ps sp) (hr : Rm (k + 1) X.A) (hg : Gl X x) (hm : X.mg x = some (.ref C)) (hb : Binds X.K fd ps ds) (hd : Vals dvs ds) (hx : Passes CX X E)
    (ha : PA X (e :: es) t) (hdb : (x == ("__debug__" : Str)) = false := by decide) (he : starEach (e :: es) X.env = (false, eval e X.env) :: starEach es X.env := by rfl) (hpl : (backTo pos (starEach es X.env)).any (·.1) = false := by rfl) :
    PE X (.Call (.Name x p) (e :: es) [] pos) (tMake C sp dvs E t) :=
  ⟨fun pins s σ H Q I h => wpAny_Call_Name_kw (ld_glob I hg hm (PySem.W.callWith_K (h₀ := X.base) I.ok.mod.kin M.kp (thn (ha.run pos pins s σ H _ I h) fun us s1 ⟨vs, H1, I1, r, q⟩ => ⟨I1.kIn, run_makeG M F hr hb hd hx I1 r q⟩) he hpl) hdb)⟩
theorem pe_make0G (M : Mk X.K C f) (F : FnG X.prog X.w X.K X.mg X.base CX k f fd ps sp) (hr : Rm (k + 1) X.A) (hg : Gl X x) (hm : X.mg x = some (.ref C)) (hb : Binds X.K fd ps ds) (hd : Vals dvs ds) (hx : Passes CX X E)
    (hdb : (x == ("__debug__" : Str)) = false := by decide) : PE X (.Call (.Name x p) [] [] pos) (tMake C sp dvs E tNil) :=
  ⟨fun pins s σ H Q I h => wpAny_Call_Name_kw (ld_glob I hg hm (PySem.W.callWith_K0 I.kIn M.kp (run_makeG (us := []) M F hr hb hd hx I .nil h)) hdb)⟩
end
end LL

set_option Elab.async false
set_option linter.all false
set_option maxRecDepth 100000
set_option maxHeartbeats 2000000
/-! LLOwn: operators, ==, !=, str, repr of instances of own classes; repr of data. -/
namespace LL
open PySem PySem.Spec PyProof.Rows L2
/-! ### != by an own __eq__ -/
section
variable {prog : Program} {w : World} {A : Around} {E : Value → Shared → Prop} {s : Shared} {K : PySem.W.Frag} {x C f : Addr} {ox : Obj} {od : Option Obj} {b tb : Value}
/-- a special method that is a built-in's, bound if it can be -/
theorem ifBound_b {M : Model} {name : Str} {id : String} {args : List Value} {Q : Option Value → Shared → Prop} (X : K.In s.heap) (I : PySem.W.InstAt s.heap x ox C od) (hs : PySem.W.findIn K (.ref C) name = some (some (.builtin id)))
    (hb : ∀ self, bindSpecial (.builtin id) self = pure (.builtin id, [self])) (h : wpAny M A (call (.builtin id) (.ref x :: args)) (fun v => Q (some v)) E s) : wpAny M A (callSpecialIfBound? (.ref x) name args) Q E s := by
  have fin : wpAny M A (call (.builtin id) ([.ref x] ++ args) >>= fun v => pure (some v)) Q E s := wpAny_bind (thn h fun _ _ z => wpAny_pure z)
  have bnd : PySem.W.Looks M s.heap (bindSpecial (.builtin id) (.ref x)) (.builtin id, [.ref x]) := PySem.W.Looks.of_pure (hb _)
  unfold callSpecialIfBound? bindSpecialIfBound?
  refine wpAny_holding (wpAny_bind (wpAny_bind (wpAny_bind (I.type.here ((PySem.W.looks_findIn X hs).here ?_)))))
  refine wpAny_bind (wpAny_askSetting (wpAny_ite ?_))
  split
  · exact wpAny_bind (bnd.here (wpAny_pure (by exact fin)))
  · exact wpAny_tryCatch (wpAny_bind (bnd.here (wpAny_pure (by exact fin))))
open Builtin in
theorem ne_own {Q : Value → Shared → Prop} (hu : A.units + 1 < cLine) (X : K.In s.heap) (I : PySem.W.InstAt s.heap x ox C od) (hb : PySem.W.Looks (model prog w) s.heap (typeOf b) tb) (hn : PySem.W.notFirst K C tb = true) (hm : PySem.W.mroIn K C (.type "object") = some true)
    (hs : PySem.W.findIn K (.ref C) "__eq__" = some (some (.ref f))) (hf : PySem.W.isFn K (.ref f) = true) (hne : PySem.W.findIn K (.ref C) "__ne__" = some (some (.builtin "object.__ne__")))
    (h : wpAny (model prog w) A.in1 (call (.ref f) [.ref x, b]) (fun v s' => ∃ c, v = .bool c ∧ Q (.bool (!c)) s') E s) : wpAny (model prog w) A (richCompare .NotEq (.ref x) b) Q E s := by
  have one : wpAny (model prog w) A (tryCompare (.ref x) (cmpInfo .NotEq).2.1 b) (fun r s' => ∃ v, r = some v ∧ Q v s') E s := by
    unfold tryCompare
    refine wpAny_bind (ifBound_b (name := "__ne__") X I hne PySem.F.slot_tuple_iterator_ne.bind ?_)
    refine wpAny_call (codeAny_call_builtin PySem.F.slot_tuple_iterator_ne.plain PySem.F.cmpEntry_ne (PySem.W.check_slot PySem.F.cmpKind_ne PySem.F.cmpSplit_ne (I.type.andThen (PySem.W.looks_mroIn X hm)) (PySem.F.cmpArgs_ne _ _) ?_))
    unfold Builtin.«object.__ne__»
    refine wpAny_bind (m := slotArgs "__ne__" 1 _) (wpAny_pure ?_)
    refine wpAny_bind (m := cRoomFor _ _) (wpAny_cRoomFor hu ?_)
    refine wpAny_bind (m := callSpecialIfBound? (.ref x) (Str.ofString "__eq__") _) (PySem.W.ifBound_K X I hs hf (thn h fun r s' hr => ?_))
    obtain ⟨c, rfl, hq⟩ := hr
    refine wpAny_bind (wpAny_truthy_bool (wpAny_pure ?_))
    exact wpAny_pure ⟨_, rfl, hq⟩
  unfold richCompare
  simp only [oneThing_ref]
  refine wpAny_holding (wpAny_bind (wpAny_cRoomFor (by omega) ?_))
  refine wpAny_bind (I.type.here (wpAny_bind (hb.here ?_)))
  split
  · rename_i q
    have e : PySem.W.subIn K tb (.ref C) = some false := by
      rcases Bool.or_eq_true_iff.mp hn with e | e
      · rw [beq_iff_eq.mp e] at q
        simp at q
      · exact beq_iff_eq.mp e
    refine wpAny_bind ((PySem.W.looks_subIn X e).here ?_)
    simp only [Bool.false_eq_true, if_false]
    refine wpAny_bind (thn one fun r s' z => ?_)
    obtain ⟨v, rfl, hq⟩ := z
    exact wpAny_pure hq
  · refine wpAny_bind (wpAny_pure ?_)
    simp only [Bool.false_eq_true, if_false]
    refine wpAny_bind (thn one fun r s' z => ?_)
    obtain ⟨v, rfl, hq⟩ := z
    exact wpAny_pure hq
end
/-! ### rules -/
section
variable {X : Cx} {CX : CXT} {k : Nat} {f C : Addr} {fd : FuncData} {ps : List Str} {sp : Sp} {E : XK}
/-- the object's own record -/
theorem inst_of {pins : List (Addr × Obj)} {σ : L2.St} {H : Hp} {s : Shared} {a dx : Addr} {fs : List (Str × V)} (I : Inv X pins σ H s) (e : H a = some (.ins C dx fs)) : ∃ od, PySem.W.InstAt s.heap a (PySem.W.instObj C dx) C (some od) := by
  obtain ⟨mA, O, _⟩ := ins_get I.hok e
  obtain ⟨od, J, _⟩ := O.look
  exact ⟨od, J⟩
/-- a number's operator that the class at C has as a def -/
structure OpAt (K : PySem.W.Frag) (C : Addr) (op : Operator) (f : Addr) : Prop where
  first : PySem.W.selfFirst K C = true
  at_ : PySem.W.findIn K (.ref C) (PySem.dunder op.info.2) = some (some (.ref f))
  fn : PySem.W.isFn K (.ref f) = true
/-- .. asked with an int at the right -/
structure OpInt (K : PySem.W.Frag) (C : Addr) (op : Operator) : Prop where
  back : PySem.W.findIn K (.ref C) (PySem.dunderR op.info.2) = some none
  io : ∃ fo, PySem.W.findIn K (.type "int") (PySem.dunder op.info.2) = some fo
  ir : ∃ ro, PySem.W.findIn K (.type "int") (PySem.dunderR op.info.2) = some ro
  sub : PySem.W.subIn K (.type "int") (.ref C) = some false
/-- x op y: both of the class at C; or y an int -/
def rBin (C : Addr) (sp : Sp) (E : XK) : R2 := fun x y H Q => ∃ a dx fs, x = .ref a ∧ H a = some (.ins C dx fs) ∧ ((∃ b dy gs, y = .ref b ∧ H b = some (.ins C dy gs)) ∨ ∃ i, y = .int i) ∧ sp [x, y] H Q E
theorem op_bin {op : Operator} (O : OpAt X.K C op f) (OI : OpInt X.K C op) (F : FnG X.prog X.w X.K X.mg X.base CX k f fd ps sp) (hr : Rm k X.A) (hb : Binds X.K fd ps []) (hx : Passes CX X E) : OpR X (binaryOp op) (rBin C sp E) := by
  intro pins s σ H x y v u Q I rx ry h
  obtain ⟨a, dx, fs, rfl, ha, hy, q⟩ := h
  cases (show v = Value.ref a from rx)
  obtain ⟨od, J⟩ := inst_of I ha
  obtain ⟨m, hF⟩ := I.fr
  have go : wpAny (model X.prog X.w) X.A (call (.ref f) [.ref a, u]) (PySem.W.CmpBack (EP X pins σ Q)) X.xe s := by
    refine thn (run_g (us := [.ref a, u]) (vs := [.ref a, y]) (dvs := []) F hr I.env0 hb .nil hx I (.cons rfl (.cons ry .nil)) q) fun w s' z => ?_
    obtain ⟨z', H', I', rz, qz⟩ := z
    exact SlX.cmpback rz ⟨z', H', I', rz, qz⟩
  rcases hy with ⟨b, dy, gs, rfl, hb⟩ | ⟨i, rfl⟩
  · cases (show u = Value.ref b from ry)
    obtain ⟨od', J'⟩ := inst_of I hb
    exact PySem.W.binop_K hF I.ok.mod.kin J J'.type O.first O.at_ O.fn go
  · obtain ⟨t, rfl⟩ := (show ∃ t, u = Value.int i t from ry)
    obtain ⟨fo, h1⟩ := OI.io
    obtain ⟨ro, h2⟩ := OI.ir
    exact PySem.W.ksp_binT (T := "int") hF I.ok.mod.kin J (by rfl) O.first O.at_ O.fn OI.back (.inl rfl) h1 h2 OI.sub go
/-- -x -/
def rNeg (C : Addr) (sp : Sp) (E : XK) : V → Hp → VK → Prop := fun x H Q => ∃ a dx fs, x = .ref a ∧ H a = some (.ins C dx fs) ∧ sp [x] H Q E
theorem un_own (hs : PySem.W.findIn X.K (.ref C) "__neg__" = some (some (.ref f))) (hf : PySem.W.isFn X.K (.ref f) = true) (F : FnG X.prog X.w X.K X.mg X.base CX k f fd ps sp) (hr : Rm k X.A) (hb : Binds X.K fd ps []) (hx : Passes CX X E) : UnR X (unaryOp .USub) (rNeg C sp E) := by
  intro pins s σ H x v Q I rx h
  obtain ⟨a, dx, fs, rfl, ha, q⟩ := h
  cases (show v = Value.ref a from rx)
  obtain ⟨od, J⟩ := inst_of I ha
  obtain ⟨m, hF⟩ := I.fr
  exact PySem.W.ksp_neg hF I.ok.mod.kin J hs hf (run_g (us := [.ref a]) (vs := [.ref a]) (dvs := []) F hr I.env0 hb .nil hx I (.cons rfl .nil) q)
/-- x == y by x's own __eq__, whatever y is -/
def rEqO (K : PySem.W.Frag) (C : Addr) (sp : Sp) (E : XK) : R2 := fun x y H Q => ∃ a dx fs t, x = .ref a ∧ H a = some (.ins C dx fs) ∧ TyX K H y t ∧ PySem.W.notFirst K C t = true ∧ sp [x, y] H Q E
theorem op_eqO (hs : PySem.W.findIn X.K (.ref C) "__eq__" = some (some (.ref f))) (hf : PySem.W.isFn X.K (.ref f) = true) (F : FnG X.prog X.w X.K X.mg X.base CX k f fd ps sp) (hr : Rm k X.A) (hb : Binds X.K fd ps []) (hx : Passes CX X E) : OpR X (compareOp .Eq) (rEqO X.K C sp E) := by
  intro pins s σ H x y v u Q I rx ry h
  obtain ⟨a, dx, fs, t, rfl, ha, ty, hn, q⟩ := h
  cases (show v = Value.ref a from rx)
  obtain ⟨od, J⟩ := inst_of I ha
  obtain ⟨m, hF⟩ := I.fr
  obtain ⟨P, Z, hp, _⟩ := kit_of I ry ty
  refine PySem.W.cmp_K (op := .Eq) hr.r.units0 hF I.ok.mod.kin J (Z.ty _ _ I.kIn hp) hn hs hf ?_
  refine thn (run_g (us := [.ref a, u]) (vs := [.ref a, y]) (dvs := []) F hr I.env0 hb .nil hx I (.cons rfl (.cons ry .nil)) q) fun w s' z => ?_
  obtain ⟨z', H', I', rz, qz⟩ := z
  exact SlX.cmpback rz ⟨z', H', I', rz, qz⟩
/-- x != y by x's own __eq__ -/
def rNeO (K : PySem.W.Frag) (C : Addr) (sp : Sp) (E : XK) : R2 := fun x y H Q => ∃ a dx fs t, x = .ref a ∧ H a = some (.ins C dx fs) ∧ TyX K H y t ∧ PySem.W.notFirst K C t = true ∧ sp [x, y] H (fun z H' => ∃ c, z = .bl c ∧ Q (.bl (!c)) H') E
theorem op_neO (hs : PySem.W.findIn X.K (.ref C) "__eq__" = some (some (.ref f))) (hf : PySem.W.isFn X.K (.ref f) = true) (hne : PySem.W.findIn X.K (.ref C) "__ne__" = some (some (.builtin "object.__ne__"))) (hm : PySem.W.mroIn X.K C (.type "object") = some true)
    (F : FnG X.prog X.w X.K X.mg X.base CX k f fd ps sp) (hr : Rm (k + 1) X.A) (hb : Binds X.K fd ps []) (hx : Passes CX X E) : OpR X (compareOp .NotEq) (rNeO X.K C sp E) := by
  intro pins s σ H x y v u Q I rx ry h
  obtain ⟨a, dx, fs, t, rfl, ha, ty, hn, q⟩ := h
  cases (show v = Value.ref a from rx)
  obtain ⟨od, J⟩ := inst_of I ha
  obtain ⟨P, Z, hp, _⟩ := kit_of I ry ty
  have hu := hr.r.units
  refine ne_own (by omega) I.kIn J (Z.ty _ _ I.kIn hp) hn hm hs hf hne ?_
  refine thn (run_g (us := [.ref a, u]) (vs := [.ref a, y]) (dvs := []) F hr.in1 I.env0.in1 hb .nil hx I (.cons rfl (.cons ry .nil)) q) fun w s' z => ?_
  obtain ⟨z', H', I', rz, c, rfl, qz⟩ := z
  cases (show w = Value.bool c from rz)
  exact ⟨c, rfl, .bl (!c), H', I', rfl, qz⟩
/-- repr(x), str(x) by the class's own def -/
def rShow (C : Addr) (sp : Sp) (E : XK) : List V → Hp → VK → Prop := fun xs H Q => ∃ a dx fs, xs = [.ref a] ∧ H a = some (.ins C dx fs) ∧ sp [.ref a] H (fun z H' => ∃ y, z = .str y ∧ Q z H') E
theorem call_reprO (hs : PySem.W.findIn X.K (.ref C) "__repr__" = some (some (.ref f))) (hf : PySem.W.isFn X.K (.ref f) = true) (F : FnG X.prog X.w X.K X.mg X.base CX k f fd ps sp) (hr : Rm (k + 1) X.A) (hb : Binds X.K fd ps []) (hx : Passes CX X E) : CallR X (.builtin "repr") (rShow C sp E) := by
  intro pins s σ H xs us Q I r h
  obtain ⟨a, dx, fs, rfl, ha, q⟩ := h
  obtain ⟨u, rfl, ru⟩ := r.one
  cases (show u = Value.ref a from ru)
  obtain ⟨od, J⟩ := inst_of I ha
  obtain ⟨m, hF⟩ := I.fr
  refine PySem.W.repr_K hr.in1.r.units0 hF I.ok.mod.kin J hs hf (thn (run_g (us := [.ref a]) (vs := [.ref a]) (dvs := []) F hr.in1 I.env0.in1 hb .nil hx I (.cons rfl .nil) q) fun w s' z => ?_)
  obtain ⟨z', H', I', rz, y, rfl, qz⟩ := z
  obtain ⟨t, rfl⟩ := (show ∃ t, w = Value.str y t from rz)
  exact ⟨.str y, H', I', ⟨t, rfl⟩, qz⟩
theorem call_strO (hs : PySem.W.findIn X.K (.ref C) "__str__" = some (some (.ref f))) (hf : PySem.W.isFn X.K (.ref f) = true) (F : FnG X.prog X.w X.K X.mg X.base CX k f fd ps sp) (hr : Rm (k + 2) X.A) (hb : Binds X.K fd ps []) (hx : Passes CX X E) : CallR X (.type "str") (rShow C sp E) := by
  intro pins s σ H xs us Q I r h
  obtain ⟨a, dx, fs, rfl, ha, q⟩ := h
  obtain ⟨u, rfl, ru⟩ := r.one
  cases (show u = Value.ref a from ru)
  obtain ⟨od, J⟩ := inst_of I ha
  have hr2 : Rm k X.A.in1.in1 := (show Rm (k + 1) X.A.in1 from hr.in1).in1
  refine PySem.W.kso_call hr2.r.units0 I.kIn J hs hf (thn (run_g (us := [.ref a]) (vs := [.ref a]) (dvs := []) F hr2 I.env0.in1.in1 hb .nil hx I (.cons rfl .nil) q) fun w s' z => ?_)
  obtain ⟨z', H', I', rz, y, rfl, qz⟩ := z
  obtain ⟨t, rfl⟩ := (show ∃ t, w = Value.str y t from rz)
  exact ⟨.str y, H', I', ⟨t, rfl⟩, qz⟩
/-- repr of data: ints, texts, bools, None, lists and tuples of these -/
def rRepD (K : PySem.W.Frag) : List V → Hp → VK → Prop := fun xs H Q => ∃ a d, xs = [.ref a] ∧ Dp K H (.ref a) d ∧ d.showable = true ∧ d.hasDict = false ∧ d.depth ≤ 40 ∧ d.shown.length ≤ sizeLine ∧ Q (.str d.shown) H
theorem call_reprD (hr : Rm k X.A) : CallR X (.builtin "repr") (rRepD X.K) := by
  intro pins s σ H xs us Q I r h
  obtain ⟨a, d, rfl, hd, hs, hn, hp, hz, q⟩ := h
  obtain ⟨u, rfl, ru⟩ := r.one
  obtain ⟨as, rd⟩ := Dp.reads I d _ _ hd ru
  cases (show u = Value.ref a from ru)
  have hu := hr.r.units
  exact repr_of_reads' rd hs (fun z => by rw [hn] at z; cases z) hr.g (by omega) (fun _ _ e => e) (fun h' u tk hk => ⟨.str d.shown, H, I.kept hk, ⟨_, rfl⟩, q⟩) hz
end
end LL

set_option Elab.async false
set_option linter.all false
set_option maxRecDepth 100000
set_option maxHeartbeats 2000000
/-! LLCall: a def, a method, a maker, a property, each as one fact; some operators. -/
namespace LL
open PySem PySem.Spec PyProof.Rows L2
section
variable (P : Program) (w : World) (K : PySem.W.Frag) (mg : Str → Option Value) (base : Heap) (CX : CXT) (k : Nat)
/-- the module's name x is a def that keeps sp; dvs fill up -/
structure Fnc (x : Str) (dvs : List V) (sp : Sp) : Prop where
  ex : ∃ (f : Addr) (fd : FuncData) (ps : List Str) (ds : List Value), mg x = some (.ref f) ∧ PySem.W.keepIn K (.ref f) = true ∧ Binds K fd ps ds ∧ Vals dvs ds ∧ FnG P w K mg base CX k f fd ps sp
/-- the class at C has the method m -/
structure Mth (C : Addr) (m : Str) (dvs : List V) (sp : Sp) : Prop where
  cl : Cls K C
  ex : ∃ (f : Addr) (fd : FuncData) (ps : List Str) (ds : List Value), Meth K C m f ∧ Binds K fd ps ds ∧ Vals dvs ds ∧ FnG P w K mg base CX k f fd ps sp
/-- the module's name x is the class at C, made by an __init__ that keeps sp -/
structure Mkr (x : Str) (C : Addr) (dvs : List V) (sp : Sp) : Prop where
  ex : ∃ (f : Addr) (fd : FuncData) (ps : List Str) (ds : List Value), Mk K C f ∧ mg x = some (.ref C) ∧ Binds K fd ps ds ∧ Vals dvs ds ∧ FnG P w K mg base CX k f fd ps sp
/-- the class at C has the property m -/
structure Prp (C : Addr) (m : Str) (sp : Sp) : Prop where
  cl : Cls K C
  ex : ∃ (p g : Addr) (fd : FuncData) (ps : List Str), PropOf K C m p g ∧ Binds K fd ps [] ∧ FnG P w K mg base CX k g fd ps sp
end
section
variable {X : Cx} {CX : CXT} {k : Nat} {C : Addr} {sp : Sp} {dvs : List V} {E : XK} {x m : Str} {p pos apos : Pos} {e o : Expr} {es : List Expr} {ta : TE} {t : TA}
theorem pe_fn (G : Fnc X.prog X.w X.K X.mg X.base CX k x dvs sp) (hr : Rm k X.A) (hx : Passes CX X E) (ha : PA X (e :: es) t) (hg : Gl X x := by rfl) (hdb : (x == ("__debug__" : Str)) = false := by decide)
    (he : starEach (e :: es) X.env = (false, eval e X.env) :: starEach es X.env := by rfl) (hpl : (backTo pos (starEach es X.env)).any (·.1) = false := by rfl) : PE X (.Call (.Name x p) (e :: es) [] pos) (tCall sp dvs E t) := by
  obtain ⟨f, fd, ps, ds, hm, hk, hb, hd, F⟩ := G.ex
  exact pe_callG F hr hg hm hk hb hd hx ha hdb he hpl
theorem pe_fn0 (G : Fnc X.prog X.w X.K X.mg X.base CX k x dvs sp) (hr : Rm k X.A) (hx : Passes CX X E) (hg : Gl X x := by rfl) (hdb : (x == ("__debug__" : Str)) = false := by decide) : PE X (.Call (.Name x p) [] [] pos) (tCall sp dvs E tNil) := by
  obtain ⟨f, fd, ps, ds, hm, hk, hb, hd, F⟩ := G.ex
  exact pe_call0G F hr hg hm hk hb hd hx hdb
theorem pe_mt {pl : Sem Bool} (G : Mth X.prog X.w X.K X.mg X.base CX k C m dvs sp) (hr : Rm k X.A) (hx : Passes CX X E) (he : PE X o ta) (ha : PA X (e :: es) t)
    (hst : starEach (e :: es) X.env = (false, eval e X.env) :: starEach es X.env := by rfl) (hpl : (backTo pos (starEach es X.env)).any (·.1) = false := by rfl)
    (ht : eval (.Call (.Attribute o m apos) (e :: es) [] pos) X.env = (do
      let ov ← eval o X.env
      standAt apos.atName
      let (f, first) ← holding [ov] (getMethod ov m pl)
      callWith pos f first (backTo pos (starEach (e :: es) X.env)) (backToKw pos (keywordEach [] X.env))) := by rfl) : PE X (.Call (.Attribute o m apos) (e :: es) [] pos) (tMeth C m sp dvs E ta t) := by
  obtain ⟨f, fd, ps, ds, hm, hb, hd, F⟩ := G.ex
  exact pe_methG he G.cl hm F hr hb hd hx ha hst hpl ht
theorem pe_mt0 {pl : Sem Bool} (G : Mth X.prog X.w X.K X.mg X.base CX k C m dvs sp) (hr : Rm k X.A) (hx : Passes CX X E) (he : PE X o ta)
    (ht : eval (.Call (.Attribute o m apos) [] [] pos) X.env = (do
      let ov ← eval o X.env
      standAt apos.atName
      let (f, first) ← holding [ov] (getMethod ov m pl)
      callWith pos f first (backTo pos (starEach [] X.env)) (backToKw pos (keywordEach [] X.env))) := by rfl) : PE X (.Call (.Attribute o m apos) [] [] pos) (tMeth C m sp dvs E ta tNil) := by
  obtain ⟨f, fd, ps, ds, hm, hb, hd, F⟩ := G.ex
  exact pe_meth0G he G.cl hm F hr hb hd hx ht
theorem pe_mk (G : Mkr X.prog X.w X.K X.mg X.base CX k x C dvs sp) (hr : Rm (k + 1) X.A) (hx : Passes CX X E) (ha : PA X (e :: es) t) (hg : Gl X x := by rfl) (hdb : (x == ("__debug__" : Str)) = false := by decide)
    (he : starEach (e :: es) X.env = (false, eval e X.env) :: starEach es X.env := by rfl) (hpl : (backTo pos (starEach es X.env)).any (·.1) = false := by rfl) : PE X (.Call (.Name x p) (e :: es) [] pos) (tMake C sp dvs E t) := by
  obtain ⟨f, fd, ps, ds, M, hm, hb, hd, F⟩ := G.ex
  exact pe_makeG M F hr hg hm hb hd hx ha hdb he hpl
theorem pe_mk0 (G : Mkr X.prog X.w X.K X.mg X.base CX k x C dvs sp) (hr : Rm (k + 1) X.A) (hx : Passes CX X E) (hg : Gl X x := by rfl) (hdb : (x == ("__debug__" : Str)) = false := by decide) : PE X (.Call (.Name x p) [] [] pos) (tMake C sp dvs E tNil) := by
  obtain ⟨f, fd, ps, ds, M, hm, hb, hd, F⟩ := G.ex
  exact pe_make0G M F hr hg hm hb hd hx hdb
/-- e.m, a property -/
def tPr (C : Addr) (sp : Sp) (E : XK) (ta : TE) : TE := fun σ H Q => ta σ H fun x H1 => ∃ a dx fs, x = .ref a ∧ H1 a = some (.ins C dx fs) ∧ sp [.ref a] H1 Q E
theorem pe_pr (G : Prp X.prog X.w X.K X.mg X.base CX k C m sp) (hr : Rm (k + 1) X.A) (hx : Passes CX X.nox E) (he : PE X e ta) (hab : attributeBase e m X.env (eval e X.env) = eval e X.env := by rfl) : PE X (.Attribute e m pos) (tPr C sp E ta) := by
  obtain ⟨p, g, fd, ps, hp, hb, F⟩ := G.ex
  refine ⟨fun pins s σ H Q I h => attr_of hab (thn (he.run pins s σ H _ I h) fun u s1 hh => ?_)⟩
  obtain ⟨x, H1, I1, rx, a, dx, fs, rfl, ea, q⟩ := hh
  obtain rfl : u = Value.ref a := rx
  obtain ⟨od, J⟩ := inst_of I1 ea
  have c := G.cl
  have hc : (PySem.W.clsIn X.K C).isSome = true := by
    obtain ⟨cd, hc, _⟩ := PySem.W.any_some c.hd
    rw [hc]
    rfl
  obtain ⟨rest, hrec⟩ := hp.rec_
  have I2 : Inv X pins σ H1 { s1 with toks := s1.toks + 1 } := I1.tok _
  have hl : ([Value.ref a] : List Value).length = ps.length := F.len _ _ _ _ q
  refine PySem.W.get_bind I1.kIn J (PySem.W.plainGet_of (c.get m)).1 (PySem.W.findObj_data hc hp.at_ hp.get hp.tak) (PySem.W.plainGet_of (c.get m)).2 (wpAny_call (PySem.W.prop_get (s := { s1 with toks := s1.toks + 1 }) I1.kIn hrec ?_))
  have go := F.run X.A.in1 X.stack { s1 with toks := s1.toks + 1 } H1 ⟨[.ref a], []⟩ [.ref a] [.ref a] Q E hr.in1 I2.env0.in1 (hb _ [.ref a] I2.kIn hl) (.cons rfl .nil) q
  refine codeAny_mono go fun r s' hq => ?_
  match r, hq with
  | .error er, hq => exact False.elim (hx pins σ H1 _ er s' (I2.wish _) hq)
  | .ok (.ret u), hq =>
    obtain ⟨v, H', I3, rv, q3⟩ := I2.after hq
    exact wpAny_of_eq (PySem.W.handedOut_of (handed_of rv)) ⟨v, H', I3, rv, q3⟩
  | .ok .next, hq => exact False.elim hq
  | .ok .brk, hq => exact False.elim hq
  | .ok .cont, hq => exact False.elim hq
/-! ### some operators -/
/-- // by any number but 0 -/
def CDivZ (_ j : Int) : Prop := j ≠ 0 ∧ j.natAbs.log2 < 9000
theorem op_fdivZ : OpR X (binaryOp .FloorDiv) (rI CDivZ fun i j => .int (i.fdiv j)) := opI fun _ _ _ _ _ _ _ hc q => floordiv_int hc.1 q (.inl (PyProof.noPylong_of_log2 hc.2))
theorem wide_divZ {i j : Int} {b : Nat} (h : j ≠ 0) (hb : j.natAbs < 2 ^ b) (h0 : 0 < b) (h9 : b ≤ 9000) : CDivZ i j := ⟨h, Nat.lt_of_lt_of_le (PySem.Flt.log2_lt_of h0 hb) h9⟩
end
/-! ### tests -/
theorem iteY {c : Bool} {A B : Prop} (h : c = true) (a : A) : if c = true then A else B := by
  rw [if_pos h]
  exact a
theorem iteN {c : Bool} {A B : Prop} (h : c = false) (b : B) : if c = true then A else B := by
  rw [if_neg (by rw [h]; exact Bool.false_ne_true)]
  exact b
theorem iteB {c : Bool} {A B : Prop} (h1 : c = true → A) (h2 : c = false → B) : if c = true then A else B := by
  cases c with
  | true => exact iteT (h1 rfl)
  | false => exact iteF (h2 rfl)
theorem dec_ne {i j : Int} (h : i ≠ j) : decide (V.int i = V.int j) = false := decide_eq_false fun z => h (V.int.inj z)
theorem dec_eq {i j : Int} (h : i = j) : decide (V.int i = V.int j) = true := decide_eq_true (by rw [h])
/-! ### heaps -/
/-- all that was tracked but p is as it was -/
def But (p : Addr) (H H' : Hp) : Prop := ∀ b o, H b = some o → b ≠ p → H' b = some o
theorem But.refl {p : Addr} {H : Hp} : But p H H := fun _ _ e _ => e
theorem But.trans {p : Addr} {H H1 H2 : Hp} (a : But p H H1) (b : But p H1 H2) : But p H H2 := fun c o e n => b c o (a c o e n) n
theorem But.of {p : Addr} {H H' : Hp} (a : Same H H') : But p H H' := fun c o e _ => a c o e
theorem same_upd {H : Hp} {p : Addr} {o : HO} (h : H p = none) : Same H (upd H p o) := fun b x e => by
  rw [upd_ne (ne_of_none e h)]
  exact e
theorem but_upd {H : Hp} {p : Addr} {o : HO} : But p H (upd H p o) := fun b x e n => by
  rw [upd_ne n]
  exact e
/-- what was new at p stands beside what was -/
theorem But.same {p : Addr} {H H' : Hp} (a : But p H H') (n : H p = none) : Same H H' := fun b o e => a b o e (ne_of_none e n)
theorem But.free {p : Addr} {H H' : Hp} (a : But p H H') {b : Addr} (hb : b ≠ p) (h : H' b = none) : H b = none := by
  cases q : H b with
  | none => rfl
  | some o =>
    rw [a b o q hb] at h
    cases h
end LL

set_option Elab.async false
set_option linter.all false
set_option maxRecDepth 100000
set_option maxHeartbeats 2000000
/-! LLData: what repr of data is, how long it is. -/
namespace LL
open PySem PySem.Spec PyProof.Rows L2
/-- signs as texts have them -/
def Asc (x : Str) : Prop := ∀ c ∈ x.cps.toList, c < 16 ^ 8
theorem asc_of (s : String) : Asc (Str.ofString s) := by
  intro c hc
  rw [signs_ofString] at hc
  obtain ⟨k, _, rfl⟩ := List.mem_map.mp hc
  have h : k.toNat < 1114112 := by
    have := k.valid
    rcases this with h | ⟨_, h⟩
    · exact Nat.lt_trans h (by decide)
    · exact h
  exact Nat.lt_trans h (by decide)
theorem Asc.app {x y : Str} (hx : Asc x) (hy : Asc y) : Asc (x ++ y) := by
  intro c hc
  rw [Str.cps_append, Array.toList_append] at hc
  rcases List.mem_append.mp hc with h | h
  · exact hx c h
  · exact hy c h
theorem textFrom_size : ∀ (ts : List Str) (k : Nat) (acc : Str), (textFrom k acc ts).length ≤ acc.length + piled ts
  | [], _, acc => Nat.le_add_right _ _
  | t :: r, k, acc => by
    have h := textFrom_size r (k + 1) (acc ++ (if k > 0 then ", " else "" : String) ++ t)
    have e : (((if k > 0 then ", " else "" : String) : Str)).length ≤ 2 := by split <;> decide +kernel
    rw [strLen_append, strLen_append] at h
    rw [piled_cons]
    show (textFrom (k + 1) _ r).length ≤ _
    omega
theorem listText_size (ts : List Str) : (listText ts).length ≤ piled ts + 2 := by
  have h := textFrom_size ts 0 "["
  unfold listText
  rw [strLen_append]
  have e1 : ((("[" : String) : Str)).length = 1 := rfl
  have e2 : ((("]" : String) : Str)).length = 1 := rfl
  omega
mutual
/-- a bound on the signs that are shown -/
def cost : PyData → Nat
  | .none => 5
  | .bool _ => 5
  | .int _ => 1930
  | .str x => 10 * x.length + 2
  | .list xs => costAll xs + 2
  | .tuple xs => costAll xs + 2
  | .dict _ => 0
def costAll : List PyData → Nat
  | [] => 0
  | x :: xs => cost x + 2 + costAll xs
end
mutual
/-- data without dicts that repr can show -/
def Shw : PyData → Prop
  | .none => True
  | .bool _ => True
  | .int i => i.natAbs.log2 < 1920
  | .str x => Asc x
  | .list xs => ShwAll xs
  | .tuple xs => ShwAll xs
  | .dict _ => False
def ShwAll : List PyData → Prop
  | [] => True
  | x :: xs => Shw x ∧ ShwAll xs
end
mutual
theorem Shw.all : ∀ d : PyData, Shw d → d.shown.length ≤ cost d ∧ d.showable = true ∧ d.hasDict = false
  | .none, _ => ⟨by simp only [PyData.shown, cost]; decide +kernel, by simp only [PyData.showable], by simp only [PyData.hasDict]⟩
  | .bool b, _ => ⟨by simp only [PyData.shown, cost]; cases b <;> decide +kernel, by simp only [PyData.showable], by simp only [PyData.hasDict]⟩
  | .int i, h => by
    simp only [Shw] at h
    refine ⟨?_, by simp only [PyData.showable]; exact decide_eq_true h, by simp only [PyData.hasDict]⟩
    simp only [PyData.shown, cost]
    have e := int_text_length_le (k := 1920) (by decide) h
    rw [PySem.ofString_length]
    omega
  | .str x, h => by
    simp only [Shw] at h
    exact ⟨by simp only [PyData.shown, cost]; exact StrLaws.reprText_len x h, by simp only [PyData.showable], by simp only [PyData.hasDict]⟩
  | .list xs, h => by
    simp only [Shw] at h
    obtain ⟨h1, h2, h3⟩ := ShwAll.all xs h
    refine ⟨?_, by simp only [PyData.showable]; exact h2, by simp only [PyData.hasDict]; exact h3⟩
    simp only [PyData.shown, cost]
    exact Nat.le_trans (listText_size _) (by omega)
  | .tuple xs, h => by
    simp only [Shw] at h
    obtain ⟨h1, h2, h3⟩ := ShwAll.all xs h
    refine ⟨?_, by simp only [PyData.showable]; exact h2, by simp only [PyData.hasDict]; exact h3⟩
    simp only [PyData.shown, cost]
    exact Nat.le_trans (fmt_text _) (by omega)
  | .dict _, h => by
    simp only [Shw] at h
theorem ShwAll.all : ∀ xs : List PyData, ShwAll xs → piled (PyData.shownAll xs) ≤ costAll xs ∧ PyData.showableAll xs = true ∧ PyData.hasDictAll xs = false
  | [], _ => ⟨by simp only [PyData.shownAll, costAll]; exact Nat.le_refl _, by simp only [PyData.showableAll], by simp only [PyData.hasDictAll]⟩
  | x :: xs, h => by
    simp only [ShwAll] at h
    obtain ⟨a1, a2, a3⟩ := Shw.all x h.1
    obtain ⟨b1, b2, b3⟩ := ShwAll.all xs h.2
    refine ⟨?_, by simp only [PyData.showableAll]; rw [a2, b2]; rfl, by simp only [PyData.hasDictAll]; rw [a3, b3]; rfl⟩
    simp only [PyData.shownAll, costAll]
    rw [piled_cons]
    omega
end
section
variable {X : Cx} {k : Nat}
/-- repr of a list or tuple of such -/
def rRepS (K : PySem.W.Frag) : List V → Hp → VK → Prop := fun xs H Q => ∃ a d, xs = [.ref a] ∧ Dp K H (.ref a) d ∧ Shw d ∧ d.depth ≤ 40 ∧ cost d ≤ sizeLine ∧ Q (.str d.shown) H
theorem call_reprS (hr : Rm k X.A) : CallR X (.builtin "repr") (rRepS X.K) := by
  intro pins s σ H xs us Q I r h
  obtain ⟨a, d, rfl, hd, hs, hp, hz, q⟩ := h
  obtain ⟨h1, h2, h3⟩ := Shw.all d hs
  exact call_reprD hr pins s σ H _ us Q I r ⟨a, d, rfl, hd, h2, h3, hp, Nat.le_trans h1 hz, q⟩
/-- repr of what is no object: None, a bool, an int, a text -/
def rRepF : List V → Hp → VK → Prop := fun xs H Q => (∃ i, xs = [.int i] ∧ i.natAbs.log2 < 1920 ∧ Q (.str (toString i)) H) ∨ (∃ b, xs = [.bl b] ∧ Q (.str (if b then "True" else "False")) H) ∨ (xs = [.non] ∧ Q (.str "None") H) ∨
  (∃ x, xs = [.str x] ∧ (reprText x).length ≤ sizeLine ∧ Q (.str (reprText x)) H)
theorem call_reprF : CallR X (.builtin "repr") rRepF := by
  intro pins s σ H xs us Q I r h
  rcases h with ⟨i, rfl, hi, q⟩ | ⟨b, rfl, q⟩ | ⟨rfl, q⟩ | ⟨x, rfl, hx, q⟩
  · obtain ⟨u, rfl, ru⟩ := r.one
    obtain ⟨t, rfl⟩ := (show ∃ t, u = Value.int i t from ru)
    exact PySem.P.repr_of_int hi ⟨.str _, H, I.tok _, ⟨_, rfl⟩, q⟩
  · obtain ⟨u, rfl, ru⟩ := r.one
    cases (show u = Value.bool b from ru)
    exact PySem.P.repr_of_bool ⟨.str _, H, I.tok _, ⟨_, rfl⟩, q⟩
  · obtain ⟨u, rfl, ru⟩ := r.one
    cases (show u = Value.none from ru)
    exact PySem.P.repr_of_none ⟨.str _, H, I.tok _, ⟨_, rfl⟩, q⟩
  · obtain ⟨u, rfl, ru⟩ := r.one
    obtain ⟨t, rfl⟩ := (show ∃ t, u = Value.str x t from ru)
    exact PySem.P.repr_of_str ⟨.str _, H, I.tok _, ⟨_, rfl⟩, q⟩ hx
end
/-! ### an operator, a special method of an own class, each as one fact -/
section
variable (P : Program) (w : World) (K : PySem.W.Frag) (mg : Str → Option Value) (base : Heap) (CX : CXT) (k : Nat)
structure OpF (C : Addr) (op : Operator) (sp : Sp) : Prop where
  ex : ∃ (f : Addr) (fd : FuncData) (ps : List Str), OpAt K C op f ∧ OpInt K C op ∧ Binds K fd ps [] ∧ FnG P w K mg base CX k f fd ps sp
structure SpF (C : Addr) (m : Str) (sp : Sp) : Prop where
  ex : ∃ (f : Addr) (fd : FuncData) (ps : List Str), PySem.W.findIn K (.ref C) m = some (some (.ref f)) ∧ PySem.W.isFn K (.ref f) = true ∧ Binds K fd ps [] ∧ FnG P w K mg base CX k f fd ps sp
end
section
variable {X : Cx} {CX : CXT} {k : Nat} {C : Addr} {sp : Sp} {E : XK}
theorem op_binF {op : Operator} (O : OpF X.prog X.w X.K X.mg X.base CX k C op sp) (hr : Rm k X.A) (hx : Passes CX X E) : OpR X (binaryOp op) (rBin C sp E) := by
  obtain ⟨f, fd, ps, o1, o2, hb, F⟩ := O.ex
  exact op_bin o1 o2 F hr hb hx
theorem un_negF (O : SpF X.prog X.w X.K X.mg X.base CX k C "__neg__" sp) (hr : Rm k X.A) (hx : Passes CX X E) : UnR X (unaryOp .USub) (rNeg C sp E) := by
  obtain ⟨f, fd, ps, o1, o2, hb, F⟩ := O.ex
  exact un_own o1 o2 F hr hb hx
theorem op_eqF (O : SpF X.prog X.w X.K X.mg X.base CX k C "__eq__" sp) (hr : Rm k X.A) (hx : Passes CX X E) : OpR X (compareOp .Eq) (rEqO X.K C sp E) := by
  obtain ⟨f, fd, ps, o1, o2, hb, F⟩ := O.ex
  exact op_eqO o1 o2 F hr hb hx
theorem op_neF (O : SpF X.prog X.w X.K X.mg X.base CX k C "__eq__" sp) (hne : PySem.W.findIn X.K (.ref C) "__ne__" = some (some (.builtin "object.__ne__"))) (hm : PySem.W.mroIn X.K C (.type "object") = some true) (hr : Rm (k + 1) X.A) (hx : Passes CX X E) : OpR X (compareOp .NotEq) (rNeO X.K C sp E) := by
  obtain ⟨f, fd, ps, o1, o2, hb, F⟩ := O.ex
  exact op_neO o1 o2 hne hm F hr hb hx
theorem call_reprOF (O : SpF X.prog X.w X.K X.mg X.base CX k C "__repr__" sp) (hr : Rm (k + 1) X.A) (hx : Passes CX X E) : CallR X (.builtin "repr") (rShow C sp E) := by
  obtain ⟨f, fd, ps, o1, o2, hb, F⟩ := O.ex
  exact call_reprO o1 o2 F hr hb hx
theorem call_strOF (O : SpF X.prog X.w X.K X.mg X.base CX k C "__str__" sp) (hr : Rm (k + 2) X.A) (hx : Passes CX X E) : CallR X (.type "str") (rShow C sp E) := by
  obtain ⟨f, fd, ps, o1, o2, hb, F⟩ := O.ex
  exact call_strO o1 o2 F hr hb hx
end
end LL

set_option Elab.async false
set_option linter.all false
set_option maxRecDepth 100000
set_option maxHeartbeats 2000000
/-! LLEnd: the law's end over FnG; the head's facts as any tests of the written part. -/
namespace LL
open PySem PySem.Spec PyProof.Rows L2
section
variable {P : Program} {w : World} {K : PySem.W.Frag} {mg mb : Str → Option Value} {CX : CXT} {k : Nat} {fa a : Addr} {fd : FuncData} {x : Str} {sp : Sp} {t : Shared} {us : List Value} {ns : List Int}
/-- what the caller asks of the law's call -/
abbrev LawEnd (t : Shared) (r : Result) (t' : Shared) : Prop := r = .ok (.ret (.bool true)) ∧ OldK t.heap t'.heap ∧ t'.os = t.os ∧ AllBare t'.gens
/-- the law's call where H tracks at most the script -/
theorem lawAt {H : Hp} {osc : Obj} (KX : K.In t.heap) (hns : t.heap.Ns mainGlobals mg) (hb : t.heap.Ns builtinsNs mb) (hbb : ∀ x : Str, x ≠ "__name__" → mb x = bootBuiltins x) (hlim : t.heap.NoLimit) (hg : t.gens = #[])
    (ha : t.heap.get? a = some osc) (hd : ∀ es ep, osc.data ≠ .dict es ep) (hr : Rm k callerA) (F : ∀ base : Heap, K.In base → base.Ns mainGlobals mg → FnG P w K mg base CX k fa fd [x] sp)
    (bd : ∀ (s : Shared) (u : Value), BindsTo s fd ⟨[u], []⟩ [(x, u)]) (hsp : sp [.ref a] H (fun v _ => v = .bl true) fun _ _ _ => False) (hCX : ∀ e s', CX [] H t (fun _ _ _ => False) e s' → False)
    (only : ∀ b, H b = none ∨ (b = a ∧ K.lookup a = none ∧ ∃ o l, H b = some (.frz o (.lst l)))) (hok : HOk P w H t.heap) : codeAny (model P w) callerA (.call (.ref fa) ⟨[.ref a], []⟩) (LawEnd t) t := by
  have free : ∀ {b : Addr} {o : Obj}, t.heap.get? b = some o → (b = a → K.lookup a = none → False) → H b = none := fun {b o} _ h =>
    (only b).elim id fun q => (h q.1 q.2.1).elim
  have nsB : ∀ {b : Addr} {m : Str → Option Value}, t.heap.Ns b m → (hidT t.heap H).Ns b m := by
    rintro b m ⟨o, es, ep, e, d, r⟩
    refine ⟨o, es, ep, hidT_get e (free e fun z _ => ?_), d, r⟩
    subst z
    rw [ha] at e
    cases e
    exact hd _ _ d
  have kB : K.In (hidT t.heap H) := by
    intro b o e
    refine hidT_get (KX b o e) (free (KX b o e) fun z q => ?_)
    rw [z, q] at e
    cases e
  obtain ⟨ml, l1, l2⟩ := hlim
  have env : Env0 P w K mg (hidT t.heap H) callerA [] t H :=
    { frames := rfl
      mod := ⟨kB, nsB hns, ⟨mb, nsB hb, hbb⟩, ⟨ml, nsB l1, l2⟩⟩
      bs := fun _ _ e => of_hidT e
      bsz := Nat.le_of_eq (hidT_size _ _)
      funs := trivial
      frf := fun _ z => by cases (show _ ∈ ([] : List Addr) from z)
      hok := hok
      bare := .of_eq hg }
  have go := (F _ kB (nsB hns)).run callerA [] t H ⟨[.ref a], []⟩ [.ref a] [.ref a] _ _ hr env (bd t (.ref a)) (.cons rfl .nil) hsp
  refine codeAny_mono go fun r t' h => ?_
  match r, h with
  | .error e, h => exact (hCX e t' h).elim
  | .ok .next, h => exact False.elim h
  | .ok .brk, h => exact False.elim h
  | .ok .cont, h => exact False.elim h
  | .ok (.ret u), h =>
    obtain ⟨v, H', e1, e2, un, hok', rv, (rfl : v = .bl true)⟩ := h
    cases (show u = Value.bool true from rv)
    refine ⟨rfl, OldK.of_keep fun b o e => ?_, e1, e2⟩
    rcases only b with n | ⟨_, _, ob, l, z⟩
    · exact un.keep b o e n (fun z => by cases (show b ∈ ([] : List Addr) from z)) (fun z => by cases z)
    · have z1 := (hok b _ z).1
      have z2 := (hok' b _ (un.frzs b ob _ z)).1
      rw [e] at z1
      cases z1
      exact z2
/-- the law's call -/
theorem lawG (KX : K.In t.heap) (hns : t.heap.Ns mainGlobals mg) (hb : t.heap.Ns builtinsNs mb) (hbb : ∀ x : Str, x ≠ "__name__" → mb x = bootBuiltins x) (hlim : t.heap.NoLimit) (hg : t.gens = #[])
    (ha : t.heap.get? a = some { cls := .type "list", data := .seq us.toArray }) (hi : IntsAre us ns) (hl : ns.length ≤ sizeLine) (hr : Rm k callerA) (F : ∀ base : Heap, K.In base → base.Ns mainGlobals mg → FnG P w K mg base CX k fa fd [x] sp)
    (bd : ∀ (s : Shared) (u : Value), BindsTo s fd ⟨[u], []⟩ [(x, u)]) (hsp : ∀ H : Hp, SqL K H a (ns.map V.int) → sp [.ref a] H (fun v _ => v = .bl true) fun _ _ _ => False) (hCX : ∀ H e s', CX [] H t (fun _ _ _ => False) e s' → False) :
    codeAny (model P w) callerA (.call (.ref fa) ⟨[.ref a], []⟩) (LawEnd t) t := by
  have rv := vals_ints hi
  have dd : ∀ es ep, ({ cls := .type "list", data := .seq us.toArray } : Obj).data ≠ .dict es ep := fun _ _ z => by cases z
  cases q : K.lookup a with
  | none =>
    let H : Hp := fun b => if b = a then some (.frz { cls := .type "list", data := .seq us.toArray } (.lst (ns.map V.int))) else none
    have Ha : H a = some (.frz { cls := .type "list", data := .seq us.toArray } (.lst (ns.map V.int))) := if_pos rfl
    have Hn : ∀ b, b ≠ a → H b = none := fun b n => if_neg n
    refine lawAt (H := H) KX hns hb hbb hlim hg ha dd hr F bd (hsp H (.inl (.inr ⟨_, Ha⟩))) (hCX H) (fun b => ?_) fun b u z => ?_
    · by_cases c : b = a
      · exact .inr ⟨c, q, _, _, by rw [c]; exact Ha⟩
      · exact .inl (Hn b c)
    · by_cases c : b = a
      · subst c
        rw [Ha] at z
        cases z
        exact ⟨ha, by rw [List.length_map]; exact hl, us, _, rv, ha⟩
      · rw [Hn b c] at z
        cases z
  | some o =>
    have e := KX a o q
    rw [ha] at e
    cases e
    refine lawAt (H := fun _ => none) KX hns hb hbb hlim hg ha dd hr F bd (hsp _ (.inr ⟨_, us.toArray, _, q, rfl, rfl, rfl, ?_, by simpa using rv⟩)) (hCX _) (fun _ => .inl rfl) fun b u z => by cases z
    rw [List.size_toArray, hi.length]
    exact hl
end
/-- the goal that the head leaves, from the law's promise -/
theorem walkG {l : PySem.W.OpenLaw} {n k : Nat} {q : Program} {loose : List Str} {XP : (Str → Option Value) → Heap → Prop} {YP : World → Heap → Prop} {d : DefRec} {CX : CXT} {x : Str} (hn : l.most = some n) (hn2 : n ≤ sizeLine) (hdf : d.params.defaults = []) (hr : Rm k callerA)
    (F : ∀ (w : World) (mg : Str → Option Value) (fa : Addr) (h : Heap), YP w h → h.Ns mainGlobals mg → mg d.name = some (.ref fa) →
      ∃ (K : PySem.W.Frag) (fd : FuncData) (sp : Sp), K.In h ∧ (∀ (s : Shared) (u : Value), BindsTo s fd ⟨[u], []⟩ [(x, u)]) ∧
        (∀ (H : Hp) (a : Addr) (ns : List Int), ns.length ≤ n → (∀ i ∈ ns, Builtin.Int.intBits i ≤ 1048576) → SqL K H a (ns.map V.int) → sp [.ref a] H (fun v _ => v = .bl true) fun _ _ _ => False) ∧ ∀ base : Heap, K.In base → base.Ns mainGlobals mg → FnG l.prog w K mg base CX k fa fd [x] sp)
    (hCX : ∀ (H : Hp) (s : Shared) (e : Value) (s' : Shared), CX [] H s (fun _ _ _ => False) e s' → False) : PySem.W.WalkO q loose XP YP l.row.toRowW d [] (fun f vs => PySem.call f vs) := by
  refine Att.attach_callB hn hdf fun w _ t mg mb fa _ _ _ _ a us ns G Y _ _ _ hm ho hi hlen hbits hg => ?_
  obtain ⟨K, fd, sp, KX, bd, hs, hF⟩ := F w mg fa _ Y G.T.g hm
  exact lawG KX G.T.g G.T.b G.T.builtins G.T.nolimit hg ho hi (Nat.le_trans hlen hn2) hr hF bd (fun H hS => hs H a ns hlen hbits hS) fun H e s' => hCX H t e s'
/-! ### the Hook: tests of the written part, and defs -/
abbrev Ft : Type := PySem.W.Frag → Bool
def obsX (ft : List Ft) (fn : List He.DefD) (K : PySem.W.Frag) : He.AlD := ((ft.all fun f => f K) && fn.all fun d => d.ok K, fn.map fun d => He.fnW K d.at_)
def SaysX (ft : List Ft) (fn : List He.DefD) (K : PySem.W.Frag) : Prop := obsX ft fn K = He.valD fn
def obsXG (n : Nat) (ft : List Ft) (fn : List He.DefD) (g : Addr → Option Obj) : He.AlD := obsX ft fn (He.frG g (He.asD g n))
def hookX (n : Nat) (ft : List Ft) (fn : List He.DefD) : PySem.W.Hook where
  α := He.AlD
  obs := fun s => obsXG n ft fn s.heap.get?
  val := fun _ => He.valD fn
  says := fun _ h => ∃ K : PySem.W.Frag, K.In h ∧ SaysX ft fn K
  of := fun _ _ e => ⟨_, He.frG_in, e⟩
  keeps := fun _ _ _ ⟨K, hK, c⟩ k => ⟨K, PySem.W.Frag.In.keeps hK k, c⟩
theorem obsXG_eq {n : Nat} {ft : List Ft} {fn : List He.DefD} {g : Addr → Option Obj} {s : Shared} (h : ∀ a, g a = s.heap.get? a) : obsXG n ft fn g = (hookX n ft fn).obs s := by
  have e : g = s.heap.get? := funext h
  rw [e] <;> rfl
theorem SaysX.fact {ft : List Ft} {fn : List He.DefD} {K : PySem.W.Frag} (c : SaysX ft fn K) (i : Nat) {f : Ft} (h : ft[i]? = some f := by rfl) : f K = true := by
  have e : ((ft.all fun f => f K) && fn.all fun d => d.ok K) = true := congrArg Prod.fst c
  exact List.all_eq_true.mp (He.ba e).1 f (List.mem_of_getElem? h)
theorem SaysX.def_ {ft : List Ft} {fn : List He.DefD} {K : PySem.W.Frag} (c : SaysX ft fn K) (i : Nat) {d : He.DefD} (h : fn[i]? = some d := by rfl) : ∃ fd, FunD K d.name d.qual d.params d.body d.scope (d.dvs K) (d.kws K) (He.fAd K d.at_) fd := by
  have e : ((ft.all fun f => f K) && fn.all fun d => d.ok K) = true := congrArg Prod.fst c
  have e1 : (fn.map fun d => He.fnW K d.at_)[i]? = (fn.map He.DefD.val)[i]? := congrArg (fun z : He.AlD => z.2[i]?) c
  rw [List.getElem?_map, List.getElem?_map, h] at e1
  exact He.DefD.funD (Option.some.inj e1) (List.all_eq_true.mp (He.ba e).2 d (List.mem_of_getElem? h))
end LL

set_option Elab.async false
set_option linter.all false
set_option maxRecDepth 100000
set_option maxHeartbeats 2000000
/-! LLCut: a reading cut in two: what stands between is told once. -/
namespace LL
open PySem PySem.Spec PyProof.Rows L2
/-- behind a statement I holds -/
theorem seq_cut {t u : TS} {D : Ends} {σ : L2.St} {H : Hp} (I : L2.St → Hp → Prop) (h1 : ∀ N : L2.St → Hp → Prop, (∀ σ' H', I σ' H' → N σ' H') → t { D with nx := N } σ H) (h2 : ∀ σ' H', I σ' H' → u D σ' H') : tSeq t u D σ H := h1 _ h2
/-- an expression has a value of which I holds -/
theorem ex_cut {t : TE} {σ : L2.St} {H : Hp} {Q : VK} (I : VK) (h1 : ∀ R : VK, (∀ x H', I x H' → R x H') → t σ H R) (h2 : ∀ x H', I x H' → Q x H') : t σ H Q := h1 Q h2
/-- a test has an answer of which I holds -/
theorem tt_cut {t : TT} {σ : L2.St} {H : Hp} {Q : Bool → Hp → Prop} (I : Bool → Hp → Prop) (h1 : ∀ R : Bool → Hp → Prop, (∀ x H', I x H' → R x H') → t σ H R) (h2 : ∀ x H', I x H' → Q x H') : t σ H Q := h1 Q h2
/-- a and b, both without an effect -/
theorem and_of {ta tb : TE} {σ : L2.St} {H : Hp} {Q : VK} (c d : Bool) (h1 : ∀ R : VK, R (.bl c) H → ta σ H R) (h2 : c = true → ∀ R : VK, R (.bl d) H → tb σ H R) (q : Q (.bl (c && d)) H) : tAndV ta tb σ H Q := by
  refine h1 _ ⟨c, rfl, ?_⟩
  cases c with
  | true => exact iteT (h2 rfl _ q)
  | false => exact iteF q
theorem or_of {ta tb : TE} {σ : L2.St} {H : Hp} {Q : VK} (c d : Bool) (h1 : ∀ R : VK, R (.bl c) H → ta σ H R) (h2 : c = false → ∀ R : VK, R (.bl d) H → tb σ H R) (q : Q (.bl (c || d)) H) : tOrV ta tb σ H Q := by
  refine h1 _ ⟨c, rfl, ?_⟩
  cases c with
  | true => exact iteT q
  | false => exact iteF (h2 rfl _ q)
theorem seq_asg {te : TE} {g : TG} {u : TS} {D : Ends} {σ : L2.St} {H : Hp} (h : te σ H fun x H1 => g x σ H1 (u D)) : tSeq (tAsg te g) u D σ H := h
theorem ret_of {te : TE} {D : Ends} {σ : L2.St} {H : Hp} (h : te σ H D.rt) : tRet te D σ H := h
theorem nm_of {i : Nat} {v : V} {σ : L2.St} {H : Hp} {N : L2.St → Hp → Prop} (h : N (σ.set i (some v)) H) : gName i v σ H N := h
theorem nx_of {D : Ends} {σ : L2.St} {H : Hp} (h : D.nx σ H) : tNext D σ H := h
/-! ### a class called, as a def is -/
section
variable (P : Program) (w : World) (K : PySem.W.Frag) (mg : Str → Option Value) (base : Heap) (CX : CXT) (k : Nat)
/-- C(..) keeps sp: its __init__ does, at each new instance -/
structure Mkf (x : Str) (sp : Sp) : Prop where
  ex : ∃ (C : Addr) (dvs : List V) (si : Sp), Mkr P w K mg base CX k x C dvs si ∧ ∀ vs H Q E, sp vs H Q E → ∀ a dx, H a = none → H dx = none → dx ≠ a → si (.ref a :: (vs ++ dvs)) (upd (upd H dx (.own a)) a (.ins C dx [])) (fun v H2 => v = .non ∧ Q (.ref a) H2) E
end
section
variable {X : Cx} {CX : CXT} {k : Nat} {sp : Sp} {E : XK} {x : Str} {p pos : Pos} {e : Expr} {es : List Expr} {t : TA}
theorem pe_mf (G : Mkf X.prog X.w X.K X.mg X.base CX k x sp) (hr : Rm (k + 1) X.A) (hx : Passes CX X E) (ha : PA X (e :: es) t) (hg : Gl X x := by rfl) (hdb : (x == ("__debug__" : Str)) = false := by decide)
    (he : starEach (e :: es) X.env = (false, eval e X.env) :: starEach es X.env := by rfl) (hpl : (backTo pos (starEach es X.env)).any (·.1) = false := by rfl) : PE X (.Call (.Name x p) (e :: es) [] pos) (tCall sp [] E t) := by
  obtain ⟨C, dvs, si, ⟨f, fd, ps, ds, M, hm, hb, hd, F⟩, conv⟩ := G.ex
  refine ⟨fun pins s σ H Q I h => wpAny_Call_Name_kw (ld_glob I hg hm (PySem.W.callWith_K (h₀ := X.base) I.ok.mod.kin M.kp (thn (ha.run pos pins s σ H _ I h) fun us s1 z => ?_) he hpl) hdb)⟩
  obtain ⟨vs, H1, I1, r, q⟩ := z
  exact ⟨I1.kIn, run_makeG M F hr hb hd hx I1 r (conv vs H1 Q E (by simpa using q))⟩
theorem pe_mf0 (G : Mkf X.prog X.w X.K X.mg X.base CX k x sp) (hr : Rm (k + 1) X.A) (hx : Passes CX X E) (hg : Gl X x := by rfl) (hdb : (x == ("__debug__" : Str)) = false := by decide) : PE X (.Call (.Name x p) [] [] pos) (tCall sp [] E tNil) := by
  obtain ⟨C, dvs, si, ⟨f, fd, ps, ds, M, hm, hb, hd, F⟩, conv⟩ := G.ex
  exact ⟨fun pins s σ H Q I h => wpAny_Call_Name_kw (ld_glob I hg hm (PySem.W.callWith_K0 I.kIn M.kp (run_makeG (us := []) M F hr hb hd hx I .nil (conv [] H Q E h))) hdb)⟩
end
/-! ### rules within a comprehension: the written part by its name -/
theorem ix_tupK {X : Cx} {K : PySem.W.Frag} (h : X.K = K) : IxR X (rIxT K) := h ▸ ix_tup
theorem ix_listK {X : Cx} {K : PySem.W.Frag} (h : X.K = K) : IxR X (rIxL K) := h ▸ ix_list
/-! ### texts that == can read -/
theorem okt_iff {x : Str} : PyData.strOk x = true ↔ ∀ c ∈ x.cps.toList, c < 1114112 := by
  unfold PyData.strOk
  rw [← Array.all_toList, List.all_eq_true]
  exact ⟨fun h c hc => of_decide_eq_true (h c hc), fun h c hc => decide_eq_true (h c hc)⟩
theorem okt_of (s : String) : PyData.strOk (Str.ofString s) = true := by
  rw [okt_iff]
  intro c hc
  rw [signs_ofString] at hc
  obtain ⟨k, _, rfl⟩ := List.mem_map.mp hc
  rcases k.valid with h | ⟨_, h⟩
  · exact Nat.lt_trans h (by decide)
  · exact h
theorem okt_app {x y : Str} (hx : PyData.strOk x = true) (hy : PyData.strOk y = true) : PyData.strOk (x ++ y) = true := by
  rw [okt_iff] at *
  intro c hc
  rw [Str.cps_append, Array.toList_append] at hc
  rcases List.mem_append.mp hc with h | h
  · exact hx c h
  · exact hy c h
/-! ### all but lists stay -/
def Kp (H H' : Hp) : Prop := ∀ b o, H b = some o → (∀ xs, o ≠ .lst xs) → H' b = some o
theorem Kp.refl {H : Hp} : Kp H H := fun _ _ e _ => e
theorem Kp.trans {H H1 H2 : Hp} (a : Kp H H1) (b : Kp H1 H2) : Kp H H2 := fun c o e n => b c o (a c o e n) n
theorem Kp.of {H H' : Hp} (a : Same H H') : Kp H H' := fun c o e _ => a c o e
theorem But.kp {p : Addr} {H H' : Hp} {xs : List V} (a : But p H H') (h : H p = some (.lst xs)) : Kp H H' := fun c o e n => a c o e fun z => by
  rw [z, h] at e
  exact n xs (Option.some.inj e).symm
theorem kp_upd {H : Hp} {p : Addr} {o : HO} {xs : List V} (h : H p = some (.lst xs)) : Kp H (upd H p o) := (but_upd (o := o)).kp h
end LL

set_option Elab.async false
set_option linter.all false
set_option maxRecDepth 100000
set_option maxHeartbeats 2000000
/-! LLHead: defs of the text at any address of the written part; the Hook over them; facts as tests. -/
namespace LL
open PySem PySem.Spec PyProof.Rows L2
/-- a def: where it stands, what it is -/
structure DefX where
  adr : PySem.W.Frag → Addr
  name : Str
  qual : Str
  params : Arguments
  body : List Stmt
  scope : Scope
  dfl : List V := []
def dX (adr : PySem.W.Frag → Addr) (name qual : Str) (st : Stmt) (dfl : List V := []) : DefX := ⟨adr, name, qual, defArgs st, defBody st, defScope st, dfl⟩
/-- the function object at a -/
def fdAt (K : PySem.W.Frag) (a : Addr) : Option FuncData := match K.lookup a with
  | some ⟨_, _, .func g, _⟩ => some g
  | _ => none
def shapeX (g : FuncData) : Str × Str × Arguments × FuncBody × Scope × Addr × List (Str × Addr) × Addr := (g.name, g.qualname, g.params, g.body, g.scope, g.globals, g.closure, g.builtins)
def DefX.shape (d : DefX) : Option (Str × Str × Arguments × FuncBody × Scope × Addr × List (Str × Addr) × Addr) := some (d.name, d.qual, d.params, .stmts d.body, d.scope, mainGlobals, [], builtinsNs)
def DefX.fine (K : PySem.W.Frag) (d : DefX) : Bool := PySem.W.keepIn K (.ref (d.adr K)) && ((fdAt K (d.adr K)).any fun g => PySem.W.codeIn K g.code d.qual && He.dflB K g.defaults d.dfl)
theorem fdAt_look {K : PySem.W.Frag} {a : Addr} {g : FuncData} (e : fdAt K a = some g) : ∃ oc od osl, K.lookup a = some ⟨oc, od, .func g, osl⟩ := by
  unfold fdAt at e
  split at e
  · rename_i c d z sl q
    cases e
    exact ⟨c, d, sl, q⟩
  · cases e
theorem DefX.fun_ {K : PySem.W.Frag} {d : DefX} (e : (fdAt K (d.adr K)).map shapeX = d.shape) (c : d.fine K = true) : ∃ fd, FunD K d.name d.qual d.params d.body d.scope d.dfl [] (d.adr K) fd := by
  obtain ⟨kp, c2⟩ := He.ba c
  obtain ⟨g, eg, es⟩ := Option.map_eq_some_iff.mp e
  rw [eg] at c2
  obtain ⟨c3, c4⟩ := He.ba (show (PySem.W.codeIn K g.code d.qual && He.dflB K g.defaults d.dfl) = true from c2)
  obtain ⟨oc, od, osl, lk⟩ := fdAt_look eg
  unfold shapeX at es
  simp only [Prod.mk.injEq] at es
  obtain ⟨e1, e2, e3, e4, e5, e6, e7, e8⟩ := es
  refine ⟨g, ⟨oc, od, g.defaults, g.kwdefaults, g.doc, g.pyModule, g.annotations, g.code, g.closureTuple, osl, ?_, lk, c3, He.dflB_ok c4, .inl rfl⟩, kp⟩
  obtain ⟨a1, a2, a3, a4, a5, a6, a7, a8, a9, a10, a11, a12, a13, a14, a15⟩ := g
  subst e1 e2 e3 e4 e5 e6 e7 e8
  rfl
/-! ### the Hook -/
abbrev AlX : Type := Bool × List (Option (Str × Str × Arguments × FuncBody × Scope × Addr × List (Str × Addr) × Addr))
def obsY (ft : List Ft) (fn : List DefX) (K : PySem.W.Frag) : AlX := ((ft.all fun f => f K) && fn.all fun d => d.fine K, fn.map fun d => (fdAt K (d.adr K)).map shapeX)
def valY (fn : List DefX) : AlX := (true, fn.map DefX.shape)
def SaysY (ft : List Ft) (fn : List DefX) (K : PySem.W.Frag) : Prop := obsY ft fn K = valY fn
def obsYG (n : Nat) (ft : List Ft) (fn : List DefX) (g : Addr → Option Obj) : AlX := obsY ft fn (He.frG g (He.asD g n))
def hookY (n : Nat) (ft : List Ft) (fn : List DefX) : PySem.W.Hook where
  α := AlX
  obs := fun s => obsYG n ft fn s.heap.get?
  val := fun _ => valY fn
  says := fun _ h => ∃ K : PySem.W.Frag, K.In h ∧ SaysY ft fn K
  of := fun _ _ e => ⟨_, He.frG_in, e⟩
  keeps := fun _ _ _ ⟨K, hK, c⟩ k => ⟨K, PySem.W.Frag.In.keeps hK k, c⟩
theorem obsYG_eq {n : Nat} {ft : List Ft} {fn : List DefX} {g : Addr → Option Obj} {s : Shared} (h : ∀ a, g a = s.heap.get? a) : obsYG n ft fn g = (hookY n ft fn).obs s := by
  cases (funext h : g = s.heap.get?)
  rfl
theorem SaysY.fact {ft : List Ft} {fn : List DefX} {K : PySem.W.Frag} (c : SaysY ft fn K) (i : Nat) {f : Ft} (h : ft[i]? = some f := by rfl) : f K = true := by
  have e : ((ft.all fun f => f K) && fn.all fun d => d.fine K) = true := congrArg Prod.fst c
  exact List.all_eq_true.mp (He.ba e).1 f (List.mem_of_getElem? h)
theorem SaysY.fn_ {ft : List Ft} {fn : List DefX} {K : PySem.W.Frag} (c : SaysY ft fn K) (i : Nat) {d : DefX} (h : fn[i]? = some d := by rfl) : ∃ fd, FunD K d.name d.qual d.params d.body d.scope d.dfl [] (d.adr K) fd := by
  have e : ((ft.all fun f => f K) && fn.all fun d => d.fine K) = true := congrArg Prod.fst c
  have e1 : (fn.map fun d => (fdAt K (d.adr K)).map shapeX)[i]? = (fn.map DefX.shape)[i]? := congrArg (fun z : AlX => z.2[i]?) c
  rw [List.getElem?_map, List.getElem?_map, h] at e1
  exact DefX.fun_ (Option.some.inj e1) (List.all_eq_true.mp (He.ba e).2 d (List.mem_of_getElem? h))
/-! ### addresses and tests -/
/-- a global, a method, a property's getter -/
def gA (x : Str) (K : PySem.W.Frag) : Addr := He.ga K x
def mA (x m : Str) (K : PySem.W.Frag) : Addr := He.ma K (He.ga K x) m
def pA (x m : Str) (K : PySem.W.Frag) : Addr := match PySem.W.recIn K (mA x m K) "property" with
  | some (.ref g :: _) => g
  | _ => 0
def fGlo (x : Str) : Ft := fun K => (He.Fa.glo x).ok K
def fFree (x : Str) : Ft := fun K => (He.Fa.free x).ok K
def fCls (x : Str) : Ft := fun K => (He.Fa.cls x).ok K
def fNo (x f : Str) : Ft := fun K => (He.Fa.noat x f).ok K
def fMeth (x m : Str) : Ft := fun K => (He.Fa.meth x m).ok K
def fMkr (x : Str) : Ft := fun K => (He.Fa.mkr x).ok K
def fSame (a b : PySem.W.Frag → Option (Option Value)) : Ft := fun K => He.eqO (a K) (b K)
def fBool (a : PySem.W.Frag → Option Bool) (b : Bool) : Ft := fun K => decide (a K = some b)
def fProp (x m : Str) : Ft := fun K => He.eqO (PySem.W.findIn K (.ref (He.ga K x)) m) (some (some (.ref (mA x m K)))) && (He.eqO (PySem.W.specialIn K (.ref (mA x m K)) "__get__") (some (some (.builtin "property.__get__"))) && (decide (PySem.W.takesIn K (.ref (mA x m K)) = some true) &&
  (match PySem.W.recIn K (mA x m K) "property" with
  | some (.ref _ :: _) => true
  | _ => false)))
theorem fProp_ok {K : PySem.W.Frag} {x m : Str} (h : fProp x m K = true) : PropOf K (He.ga K x) m (mA x m K) (pA x m K) := by
  obtain ⟨h1, h2⟩ := He.ba h
  obtain ⟨h3, h4⟩ := He.ba h2
  obtain ⟨h5, h6⟩ := He.ba h4
  refine ⟨He.eqO_ok h1, He.eqO_ok h3, of_decide_eq_true h5, ?_⟩
  unfold pA
  split at h6
  · rename_i g rest q
    exact ⟨rest, by rw [q]⟩
  · cases h6
/-- an operator of the class x -/
def fOper (x : Str) (op : Operator) : Ft := fun K => PySem.W.selfFirst K (He.ga K x) && (He.eqO (PySem.W.findIn K (.ref (He.ga K x)) (PySem.dunder op.info.2)) (some (some (.ref (mA x (PySem.dunder op.info.2) K)))) && PySem.W.isFn K (.ref (mA x (PySem.dunder op.info.2) K)))
theorem fOper_ok {K : PySem.W.Frag} {x : Str} {op : Operator} (h : fOper x op K = true) : OpAt K (He.ga K x) op (mA x (PySem.dunder op.info.2) K) := by
  obtain ⟨h1, h2⟩ := He.ba h
  obtain ⟨h3, h4⟩ := He.ba h2
  exact ⟨h1, He.eqO_ok h3, h4⟩
def fOpInt (x : Str) (op : Operator) : Ft := fun K => He.eqO (PySem.W.findIn K (.ref (He.ga K x)) (PySem.dunderR op.info.2)) (some none) && ((PySem.W.findIn K (.type "int") (PySem.dunder op.info.2)).isSome && ((PySem.W.findIn K (.type "int") (PySem.dunderR op.info.2)).isSome && decide (PySem.W.subIn K (.type "int") (.ref (He.ga K x)) = some false)))
theorem fOpInt_ok {K : PySem.W.Frag} {x : Str} {op : Operator} (h : fOpInt x op K = true) : OpInt K (He.ga K x) op := by
  obtain ⟨h1, h2⟩ := He.ba h
  obtain ⟨h3, h4⟩ := He.ba h2
  obtain ⟨h5, h6⟩ := He.ba h4
  exact ⟨He.eqO_ok h1, Option.isSome_iff_exists.mp h3, Option.isSome_iff_exists.mp h5, of_decide_eq_true h6⟩
/-- a special method of the class x -/
def fSpec (x m : Str) : Ft := fun K => He.eqO (PySem.W.findIn K (.ref (He.ga K x)) m) (some (some (.ref (mA x m K)))) && PySem.W.isFn K (.ref (mA x m K))
theorem fSpec_ok {K : PySem.W.Frag} {x m : Str} (h : fSpec x m K = true) : PySem.W.findIn K (.ref (He.ga K x)) m = some (some (.ref (mA x m K))) ∧ PySem.W.isFn K (.ref (mA x m K)) = true := by
  obtain ⟨h1, h2⟩ := He.ba h
  exact ⟨He.eqO_ok h1, h2⟩
end LL

set_option Elab.async false
set_option linter.all false
set_option maxRecDepth 100000
set_option maxHeartbeats 2000000
/-! LLTry: try .. with several clauses 'except x as n', all of one name. -/
namespace LL
open PySem PySem.Spec PyProof.Rows L2
/-- behind a suite the clause's name is gone -/
def Dgone (D : Ends) (i : Nat) : Ends := { nx := fun τ G => D.nx (τ.set i none) G, rt := D.rt, bk := fun τ G => D.bk (τ.set i none) G, ct := fun τ G => D.ct (τ.set i none) G }
abbrev Clause : Type := Value × (Addr → Value → Option Addr → TS)
/-- what the clauses wish of what the body lets out -/
def wRow (K : PySem.W.Frag) (Wo : WX) (D : Ends) (i : Nat) : List Clause → WX
  | [] => Wo
  | q :: r => fun cls d τ G => ∃ b, PySem.W.exmOne K cls q.1 = some b ∧ (b = true → ∀ e, G e = none → q.2 e cls d (Dgone D i) (τ.set i (some (.ref e))) G) ∧ (b = false → wRow K Wo D i r cls d τ G)
inductive RowOk (X : Cx) (n : Str) : List ExceptHandler → List Clause → Prop
  | nil : RowOk X n [] []
  | cons {x : Str} {c : Value} {ts : Addr → Value → Option Addr → TS} {t₀ : Stmt} {more : List Stmt} {q1 q2 : Pos} {hs : List ExceptHandler} {l : List Clause} (nm : Names X x c)
      (su : ∀ (e : Addr) (oe : Obj) (cls : Value) (d : Option Addr) (pn : List (Addr × Obj)), Zc cls d oe → (∃ fs, oe.data = .fields fs) → PSs (X.suite e ((e, oe) :: pn)) (t₀ :: more) (ts e cls d)) (r : RowOk X n hs l) :
      RowOk X n (.ExceptHandler (some (.Name x q1)) (some n) (t₀ :: more) q2 :: hs) ((c, ts) :: l)
section
variable {X : Cx} {n : Str} {i : Nat} {body : List Stmt} {h₀ : ExceptHandler} {hs : List ExceptHandler} {l : List Clause} {pos : Pos} {tb : WX → TS} {Wo : WX}
theorem ps_tryRow (st : X.stack = X.env :: X.outer) (fr : X.env.frame = some X.env.locals) (nd : X.N.Nodup) (ni : X.N[i]? = some n) (nl : X.env.kindOf n = some .local) (tk : Takes X Wo)
    (bd : ∀ (W : WX) (pn : List (Addr × Obj)) (xe : Value → Shared → Prop), Takes (X.tr pn xe) W → PassesOwn (model X.prog X.w) X.A X.env xe → PSs (X.tr pn xe) body (tb W)) (hh : RowOk X n (h₀ :: hs) l) :
    PS X (.Try body (h₀ :: hs) [] [] pos) (fun D τ G => tb (wRow X.K Wo D i l) D τ G) := by
  constructor
  intro pins s τ G D I h
  have ok := I.ok
  have frs' : X.A.frames = some (X.env :: X.outer) := ok.frames.trans (by rw [st])
  refine wpAny_Try_except ?_
  let after : Value → Shared → Prop := fun e u => wpAny (model X.prog X.w) X.A (noteFrame e X.env)
    (fun _ u2 => wpAny (model X.prog X.w) X.A (setFlight e none)
      (fun _ u3 => wpAny (model X.prog X.w) X.A (handleBy e X.env (h₀ :: hs)) (SP X pins D) X.xe u3) X.xe u2) X.xe u
  have catch_ : Takes (X.tr (X.pn ++ pins) after) (wRow X.K Wo D i l) := by
    intro u s' xx
    obtain ⟨e, B, sI, pn', τ', G', cls, d, eu, J', nb, up, sky, ne, os, ag, w⟩ := xx
    subst eu
    have J : Inv X pins τ' G' sI := J'.ofTry ok
    have sky2 : Sky B (X.env :: X.outer) e (Zc cls d) X.env.locals s'.heap := st ▸ sky
    show wpAny (model X.prog X.w) X.A (noteFrame (.ref e) X.env) _ _ _
    refine Sky.land Zc.steady frs' fr sky2 fun h3 fl up3 => ?_
    have J3 : Inv X pins τ' G' { s' with heap := h3 } := J.landed nb fl.1 (up.trans up3) os ag
    obtain ⟨oe, fs, at3, z3, d3⟩ := fl.there
    have out : e ∉ frs (X.env :: X.outer) := fun hm => by
      obtain ⟨_, o', q, hnf⟩ := fl.2.2.1.mem hm
      rw [at3] at q
      cases q
      exact hnf _ d3
    have nL : e ≠ X.env.locals := fun z => out (List.mem_filterMap.mpr ⟨X.env, List.mem_cons_self, by rw [fr, z]⟩)
    have nF : e ∉ X.fs := fun hm => by
      obtain ⟨v, hv, q⟩ := List.mem_filterMap.mp hm
      exact out (List.mem_filterMap.mpr ⟨v, List.mem_cons_of_mem _ hv, q⟩)
    have S3 := J3.suite at3 d3 ne nL nF
    have row : ∀ {hs' : List ExceptHandler} {l' : List Clause}, RowOk X n hs' l' → wRow X.K Wo D i l' cls d τ' G' → wpAny (model X.prog X.w) X.A (handleBy (.ref e) X.env hs') (SP X pins D) X.xe { s' with heap := h3 } := by
      intro hs' l' hk
      induction hk with
      | nil =>
        intro w
        refine wpAny_handleBy_nil ?_
        obtain ⟨k1, k2, k3, o1, v1, T1, oT, t1, g1, g2, g3, g4, g5⟩ := id fl
        unfold PySem.passOn
        refine wpAny_bind (wpAny_field g1 g3 g4 ?_)
        rw [if_neg (by simp)]
        have go : wpAny (model X.prog X.w) X.A (setFlight (.ref e) X.env.frame) (fun _ u4 => wpAny (model X.prog X.w) X.A (throw (.ref e) : Sem Flow) (SP X pins D) X.xe u4) X.xe { s' with heap := h3 } := by
          rw [fr]
          refine HandSPX.setFlight_upZ fl fun h4 up4 upb => wpAny_throw (tk _ _ ?_)
          exact ⟨e, B, sI, pins, τ', G', cls, d, rfl, J, nb, (up.trans up3).trans upb, .inr (.inr (by rw [st]; exact up4)), ne, os, ag, w⟩
        first
          | exact wpAny_bind (wpAny_pure (wpAny_bind go))
          | exact wpAny_bind go
      | @cons x c ts t₀ more q1 q2 hs2 l2 nm su r ih =>
        intro w
        obtain ⟨b, e1, yes, no⟩ := w
        refine wpAny_handleBy_cons (codeAny_handlers_test ?_) (fun q => by cases q)
        have isC : PySem.W.Looks (model X.prog X.w) h3 (typeOf (.ref e)) cls := fun A Q E s k q => wpAny_typeOf_ref (k _ _ at3) (z3.1 ▸ q)
        have ask := PySem.W.exm_one (M := model X.prog X.w) J3.kIn isC e1
        have name_ : ∀ {Q : Value → Shared → Prop} {E : Value → Shared → Prop}, Q c { s' with heap := h3 } → wpAny (model X.prog X.w) (X.A.mark (some (.ref e))) (eval (.Name x q1) X.env) Q E { s' with heap := h3 } := by
          intro Q E q
          rcases nm with ⟨y1, y2, y3 | ⟨y3, y4, y5⟩⟩
          · exact ld_glob (X := X.suite e ((e, oe) :: (X.pn ++ pins))) S3 y1 y3 q y2
          · exact ld_blt (X := X.suite e ((e, oe) :: (X.pn ++ pins))) S3 y1 y3 y4 q y5 y2
        refine name_ (ask.here ?_)
        cases b with
        | false =>
          show wpAny _ X.A (handleBy (.ref e) X.env hs2) _ _ _
          exact ih (no rfl)
        | true =>
          refine codeAny_handlers_suite_as ?_
          refine HandSPX.lands_againZ fl fun h4 fl4 up4 => ?_
          have J4 : Inv X pins τ' G' { s' with heap := h4 } := J.landed nb fl4.1 ((up.trans up3).trans up4) os ag
          obtain ⟨oe4, fs4, at4, z4, d4⟩ := fl4.there
          have S4 := J4.suite at4 d4 ne nL nF
          refine store_ok (X := X.suite e ((e, oe4) :: (X.pn ++ pins))) (v := .ref e) S4 nd ni (.inl nl) rfl (fun s5 S5 => ?_) (.inr nl)
          refine wpAny_mono ((su e oe4 cls d (X.pn ++ pins) z4 ⟨_, d4⟩).run [] s5 _ G' _ S5 (yes rfl e ne)) (fun f s6 z => ?_) (fun _ _ z => z.elim)
          have fin : ∀ {τ6 : L2.St} {G6 : Hp} {Q : Shared → Prop}, Inv (X.suite e ((e, oe4) :: (X.pn ++ pins))) [] τ6 G6 s6 → (∀ s7, Inv X pins (τ6.set i none) G6 s7 → Q s7) →
              wpAny (model X.prog X.w) X.A (do bindName X.env n .none; unbindBehindTheSuite X.env n q2) (fun _ s7 => Q s7) X.xe s6 := fun S6 hq => gone_ok (S6.unsuite ok) nd ni nl hq
          match f, z with
          | .next, ⟨_, _, S6, q6⟩ => exact fin S6 fun s7 J7 => ⟨_, _, J7, q6⟩
          | .brk, ⟨_, _, S6, q6⟩ => exact fin S6 fun s7 J7 => ⟨_, _, J7, q6⟩
          | .cont, ⟨_, _, S6, q6⟩ => exact fin S6 fun s7 J7 => ⟨_, _, J7, q6⟩
          | .ret u, ⟨_, _, _, S6, r6, q6⟩ => exact fin S6 fun s7 J7 => ⟨_, _, _, J7, r6, q6⟩
    exact row hh w
  refine wpAny_mono ((bd (wRow X.K Wo D i l) (X.pn ++ pins) after catch_ PassesOwn.looking).run [] s τ G D (I.toTry _) h) (fun f s1 z => ?_) (fun _ _ z => z)
  match f, z with
  | .next, ⟨_, _, J', q⟩ => exact wpAny_execs_nil ⟨_, _, J'.ofTry ok, q⟩
  | .brk, ⟨_, _, J', q⟩ => exact ⟨_, _, J'.ofTry ok, q⟩
  | .cont, ⟨_, _, J', q⟩ => exact ⟨_, _, J'.ofTry ok, q⟩
  | .ret u, ⟨_, _, _, J', r, q⟩ => exact ⟨_, _, _, J'.ofTry ok, r, q⟩
end
end LL

set_option Elab.async false
set_option linter.all false
set_option maxRecDepth 100000
set_option maxHeartbeats 2000000
/-! LLExc: own error classes with one field; what a suite asks of the error it holds; repr of any data. -/
namespace LL
open PySem PySem.Spec PyProof.Rows L2
/-! ### B.__init__(self, ..), B an own class over ValueError without one -/
structure LeC (K : PySem.W.Frag) (B : Addr) : Prop where
  sp : PySem.W.specialIn K (.ref B) "__getattribute__" = some (some (.builtin "type.__getattribute__"))
  rd : PySem.W.readsIn K B (.type "type") = true
  fi : PySem.W.findCls K (.ref B) (.type "type") "__init__" = some (.val (.builtin "ValueError.__init__"))
section
variable {X : Cx} {B : Addr} {x : Str} {e : Expr} {es : List Expr} {ta : TA} {p1 p2 pos : Pos}
theorem pe_leinit {pl : Sem Bool} (L : LeC X.K B) (hg : Gl X x) (hm : X.mg x = some (.ref B)) (ha : PA X (e :: es) ta) (hdb : (x == ("__debug__" : Str)) = false := by decide)
    (ev : eval (.Call (.Attribute (.Name x p1) "__init__" p2) (e :: es) [] pos) X.env = (do
      let o ← eval (.Name x p1) X.env
      standAt p2.atName
      let (g, first) ← holding [o] (getMethod o "__init__" pl)
      callWith pos g first (backTo pos (starEach (e :: es) X.env)) (backToKw pos (keywordEach [] X.env))) := by rfl)
    (se : starEach (e :: es) X.env = (false, eval e X.env) :: starEach es X.env := by rfl) (sn : (backTo pos (starEach es X.env)).any (·.1) = false := by rfl) : PE X (.Call (.Attribute (.Name x p1) "__init__" p2) (e :: es) [] pos) (tVeI X.K ta) := by
  constructor
  intro pins s σ H Q I h
  refine PySem.W.methodCall_KW (ld_glob I hg hm ?_ hdb) ev
  refine PySem.W.method_cls I.kIn L.sp (PySem.W.cls_value I.kIn L.rd L.fi (by decide +kernel) ?_)
  show wpAny _ _ (callWith pos (Value.builtin "ValueError.__init__") [] (backTo pos (starEach (e :: es) X.env)) []) _ _ _
  refine PyProof.Rows.callWith_method1 (thn (ha.run pos pins _ σ H _ (I.tok _) h) fun us s1 z => ?_) se sn
  obtain ⟨vs, H1, I1, r, a, C, ws, rfl, hl, T, ea, q⟩ := z
  cases r with
  | @cons _ u _ ur ru rr =>
    cases (show u = Value.ref a from ru)
    have hz : ur.length ≤ sizeLine := Nat.le_trans (Nat.le_of_eq (Paired.length rr).symm) (Nat.le_trans hl (by rw [sizeLine_eq]; decide))
    exact oinit_ok T I1 ea hz fun s2 J => ⟨.non, H1, J, rfl, q⟩
end
/-! ### raise C(v) -/
/-- the promise of an __init__ that keeps one value in the field f -/
def spXI (C : Addr) (f : Str) : Sp := fun vs H Q _ => ∃ a v, vs = [.ref a, v] ∧ H a = some (exo a C none) ∧ ∀ dx, H dx = none → dx ≠ a → Q .non (upd (upd H dx (exd dx [(f, v)])) a (exo a C (some dx)))
section
variable (P : Program) (w : World) (K : PySem.W.Frag) (mg : Str → Option Value) (base : Heap) (k : Nat)
/-- the module's name x is the error class at C, its field is f -/
structure Xcl (x : Str) (C : Addr) (f : Str) : Prop where
  T : OexC K C
  nf : PySem.W.findIn K (.ref C) f = some none
  mx : mg x = some (.ref C)
  ex : ∃ (fI : Addr) (fd : FuncData) (ps : List Str), PySem.W.findIn K (.ref C) "__init__" = some (some (.ref fI)) ∧ PySem.W.typeIn K (.ref fI) = some (.type "function") ∧ Binds K fd ps [] ∧ FnOk P w K mg base CX0 k fI fd ps (spXI C f)
  xf : XfC K C
  ec : ExcC K C
end
section
variable {X : Cx} {k : Nat} {C : Addr} {x f : Str} {W : WX} {e : Expr} {te : TE} {p pos rpos : Pos}
theorem ps_raiseX (G : Xcl X.prog X.w X.K X.mg X.base k x C f) (hr : Room (k + 1) X.A) (tk : Takes X W) (he : PE X e te) (hc : X.calm = true := by rfl) (hg : Gl X x := by rfl) (hdb : (x == ("__debug__" : Str)) = false := by decide)
    (se : starEach [e] X.env = (false, eval e X.env) :: starEach [] X.env := by rfl) (sn : (backTo pos (starEach [] X.env)).any (·.1) = false := by rfl) :
    PS X (.Raise (some (.Call (.Name x p) [e] [] pos)) none rpos) (fun _ σ H => tMkO C (spXI C f) [] (tCons te tNil) σ H fun cls d H' => W cls d σ H') := by
  obtain ⟨fI, fd, ps, h1, h2, h3, h4⟩ := G.ex
  exact ps_raise hc tk (pmk_oex G.T h1 h2 h4 hr h3 .nil pass0 hg G.mx (pa_cons he pa_nil (hs := se)) hdb se sn)
/-- the error's own dict is new -/
theorem raise_of {v : V} {H : Hp} {Q : XK} (h : ∀ d, H d = none → Q (.ref C) (some d) (upd H d (.xd [(f, v)]))) : ([v] : List V).length ≤ 1000 ∧ ∀ a, H a = none → spXI C f (.ref a :: ([v] ++ [])) (upd H a (exo a C none))
    (fun z H2 => z = .non ∧ ∃ (d : Addr) (fs : List (Str × V)), H2 a = some (exo a C (some d)) ∧ H2 d = some (exd d fs) ∧ H d = none ∧ Q (.ref C) (some d) (upd (del H2 a) d (.xd fs))) (fun _ _ _ => False) := by
  refine ⟨(by show 1 ≤ 1000; decide), fun a ha => ⟨a, v, rfl, upd_same, fun dx hd ne => ⟨rfl, dx, [(f, v)], upd_same, ?_, ?_, ?_⟩⟩⟩
  · rw [upd_ne ne, upd_same]
  · rw [upd_ne ne] at hd
    exact hd
  · rw [upd_ne ne] at hd
    have e : upd (del (upd (upd (upd H a (exo a C none)) dx (exd dx [(f, v)])) a (exo a C (some dx))) a) dx (.xd [(f, v)]) = upd H dx (.xd [(f, v)]) := by
      funext b
      by_cases h1 : b = dx
      · rw [h1, upd_same, upd_same]
      · rw [upd_ne h1, upd_ne h1]
        by_cases h2 : b = a
        · rw [h2, del_same, ha]
        · rw [del_ne h2, upd_ne h2, upd_ne h1, upd_ne h2]
    rw [e]
    exact h dx hd
end
/-! ### isinstance(e, c) of a caught error that has its dict -/
section
variable {prog : Program} {w : World} {A : Around} {E : Value → Shared → Prop} {s : Shared} {K : PySem.W.Frag} {z D : Addr} {oz : Obj} {od : Option Obj}
open PySem.W in
theorem clsE {Q : Option Value → Shared → Prop} (C : ExcC K D) (kin : K.In s.heap) (I : InstAt s.heap z oz D od) (h : Q (some (.ref D)) { s with toks := s.toks + 1 }) : wpAny (model prog w) A (getAttr? (.ref z) "__class__") Q E s := by
  have isc : (clsIn K D).isSome = true := by
    obtain ⟨cd, hc, _⟩ := any_some C.hd
    rw [hc]
    rfl
  have found : findObj K D od "__class__" = some (.bind (.builtin "getset_descriptor.__get__") (.builtin "object.__class__")) := by
    cases od with
    | none => exact findObj_dataN isc C.ha C.hn C.ht
    | some o => exact findObj_data isc C.ha C.hn C.ht
  obtain ⟨hh, gg, dd, tt, oo⟩ := s
  have T0 := I.type (M := model prog w)
  have T1 := looks_findIn (M := model prog w) kin C.hg
  have T2 := looks_findIn (M := model prog w) kin C.hk
  have T3 := looks_find (M := model prog w) kin I found
  have isB : Looks (model prog w) hh (isInstance (.ref z) (.type "BaseException")) true := T0.andThen (looks_subIn kin C.hs)
  have n2 : (Value.builtin "BaseException.__getattribute__" == Value.builtin "object.__getattribute__") = false := by
    decide +kernel
  have n1 : (onTheHeap (Value.ref D) && Value.builtin "BaseException.__getattribute__" == Value.builtin "object.__getattribute__") = false := by
    rw [n2]
    rfl
  unfold getAttr?
  unfold getAttrBy?
  unfold getAttrBy
  refine wpAny_bind (wpAny_mkText (wpAny_bind (wpAny_attempt (wpAny_holding (wpAny_bind (T0.at (wpAny_bind (T1.at ?_))))))))
  show wpAny _ _ (ite ((onTheHeap (Value.ref D) && Value.builtin "BaseException.__getattribute__" == Value.builtin "object.__getattribute__") = true) _ _) _ _ _
  rw [n1]
  rw [if_neg Bool.false_ne_true]
  unfold getAttrByItsOwn
  unfold hookBefore
  refine wpAny_bind ?_
  rw [if_pos (show onTheHeap (.ref D) = true from rfl)]
  refine T2.at (wpAny_bind (wpAny_attempt (wpAny_holding ?_)))
  unfold callGetattribute
  rw [show (false && onTheHeap (Value.builtin "BaseException.__getattribute__")) = false from rfl]
  rw [if_neg Bool.false_ne_true]
  unfold boundAndCalled
  rw [PySem.F.excAttr_ValueError.ga.bind (.ref z)]
  refine wpAny_bind (wpAny_pure ?_)
  show wpAny _ _ (call (.builtin "BaseException.__getattribute__") [.ref z, .str "__class__" tt]) _ _ _
  refine wpAny_call (codeAny_call_builtin PySem.F.excAttr_ValueError.ga.plain PySem.F.entry_bexc_ga (@check_slot (model prog w) _ _ ⟨hh, gg, dd, tt + 1, oo⟩ "BaseException.__getattribute__" "BaseException" "__getattribute__" (.ref z) [.str "__class__" tt] [] _ (by decide +kernel) (by decide +kernel) isB (PySem.F.args_bexc_ga (.ref z) (.str "__class__" tt)) ?_))
  unfold Builtin.«object.__getattribute__»
  refine wpAny_bind (wpAny_of_eq (a := ((Value.ref z : Value), [Value.str "__class__" tt])) (by first | rfl | (simp only [slotArgs]; rfl)) ?_)
  refine wpAny_bind (wpAny_pure (wpAny_bind (T0.at (wpAny_bind (T3.at ?_)))))
  show wpAny _ _ (holding [Value.builtin "object.__class__"] (call (.builtin "getset_descriptor.__get__") [.builtin "object.__class__", .ref z, .ref D]) >>= ret) _ _ _
  refine wpAny_bind (wpAny_holding (wpAny_call (class_get (s := ⟨hh, gg, dd, tt + 1, oo⟩) (ox := oz) (od := od) kin I C.hm (wpAny_pure ?_))))
  show wpAny _ _ (handedOut (.ref D)) _ _ _
  rw [handedOut_of (v := .ref D) rfl]
  first
    | exact wpAny_pure (wpAny_pure h)
    | exact wpAny_pure h
    | exact wpAny_pure (wpAny_bind (wpAny_pure (wpAny_pure h)))
open PySem.W in
theorem kitE (C : ExcC K D) : KitX K (.ref z) (.ref D) (fun h => ∃ od, InstAt h z oz D od) where
  ty := fun _ _ _ ⟨_, I⟩ => I.type
  it := fun _ _ kin _ => by
    obtain ⟨cd, hc, _⟩ := any_some C.hd
    unfold clsIn at hc
    split at hc
    · rename_i ho
      intro A' Q' E' s' kp q
      unfold isType loadHead
      exact wpAny_bind (wpAny_loadPart (kp _ _ (kin _ _ ho)) (wpAny_pure q))
    · cases hc
  ne := fun h tp dd its n sl kin htp => by
    obtain ⟨cd, hc, _⟩ := any_some C.hd
    rw [Bool.eq_false_iff]
    intro q
    cases (Value.ref.inj (beq_iff_eq.mp q) : D = tp)
    unfold clsIn at hc
    split at hc
    · rename_i ho
      cases (kin _ _ ho).symm.trans htp
    · cases hc
  ca := fun kin ⟨_, I⟩ q => clsE C kin I q
end
/-- isinstance(e, c) in a suite: a the error, cls its class, d its dict -/
def rIsD (K : PySem.W.Frag) (D a : Addr) (cls : Value) (d : Option Addr) : List V → Hp → VK → Prop := fun xs H Q => ∃ (c : V) (cv : Value) (b : Bool) (dd : Addr) (fs : List (Str × V)), xs = [.ref a, c] ∧ (∀ u, RelV c u → u = cv) ∧ cls = .ref D ∧ d = some dd ∧ H dd = some (.xd fs) ∧ PySem.W.kitOne K (.ref D) cv = some b ∧ Q (.bl b) H
theorem call_isD {X : Cx} {a D : Addr} {oe : Obj} {cls : Value} {d : Option Addr} {pn : List (Addr × Obj)} (C : ExcC X.K D) (hz : Zc cls d oe) (hf : ∃ vs, oe.data = .fields vs) : CallR (X.suite a ((a, oe) :: pn)) (.builtin "isinstance") (rIsD X.K D a cls d) := by
  intro pins s σ H xs us Q I r h
  obtain ⟨c, cv, b, dd, fs, rfl, hcv, rfl, rfl, ed, e, q⟩ := h
  cases r with
  | cons rx rr =>
    cases rr with
    | cons rt rr =>
      cases rr
      cases rx
      cases hcv _ rt
      obtain ⟨at_, _⟩ := I.pin (a, oe) (List.mem_append.mpr (.inl List.mem_cons_self))
      obtain ⟨vs, hv⟩ := hf
      obtain ⟨mA, hns, _⟩ := (show ObjOk X.prog X.w H s.heap dd (.xd fs) from I.hok dd _ ed)
      obtain ⟨od, ho, _⟩ := lookIn_ns hns
      have J : PySem.W.InstAt s.heap a oe D (some od) := ⟨at_, hz.1, by unfold PySem.W.notCls; rw [hv] <;> rfl, by rw [hz.2]; exact ho⟩
      exact PySem.W.kia_one (kitE C) I.kIn ⟨_, J⟩ e (fun z => nomatch z) fun tk => ⟨.bl b, H, I.kept (t' := tk) fun _ _ z => z, rfl, q⟩
/-! ### repr of any data, an empty dict among it -/
/-- data, or an empty dict -/
inductive Dq (K : PySem.W.Frag) (H : Hp) : V → PyData → Prop
  | dat {v : V} {d : PyData} : Dp K H v d → Shw d → d.depth ≤ 40 → cost d ≤ sizeLine → Dq K H v d
  | emp {a : Addr} : H a = some (.dK []) → Dq K H (.ref a) (.dict [])
theorem empty_reads {X : Cx} {pins : List (Addr × Obj)} {σ : L2.St} {H : Hp} {s : Shared} {a : Addr} (I : Inv X pins σ H s) (e : H a = some (.dK [])) : Reads s.heap (.ref a) (.dict []) (a :: [] ++ []) ∧ a ≠ sysModules := by
  obtain ⟨_, ns, vs, kv, o, es, ep, h1, h2, h3, _, h5, _⟩ := (show ObjOk X.prog X.w H s.heap a (.dK []) from I.hok a _ e)
  cases kv
  have e0 : es.toList = [] := by
    cases q : es.toList with
    | nil => rfl
    | cons y ys =>
      rw [q] at h5
      cases h5
  refine ⟨.dict h1 h2.1 h3 ?_ ?_, fun z => ?_⟩
  · rw [e0]
    exact .nil
  · rw [e0]
    exact .nil
  · rw [z] at ns
    simp at ns
def rRepV (K : PySem.W.Frag) : List V → Hp → VK → Prop := fun xs H Q => ∃ v d, xs = [v] ∧ Dq K H v d ∧ Q (.str d.shown) H
theorem call_reprV {X : Cx} {K : PySem.W.Frag} (hk : X.K = K) (g : X.A.guards = some []) (hu : X.A.units + 64 < cLine) : CallR X (.builtin "repr") (rRepV K) := by
  subst hk
  intro pins s σ H xs us Q I r h
  obtain ⟨v, d, rfl, hd, q⟩ := h
  obtain ⟨u, rfl, ru⟩ := r.one
  cases hd with
  | emp e =>
    cases (show u = Value.ref _ from ru)
    obtain ⟨rd, ns⟩ := empty_reads I e
    refine repr_of_reads' rd (by decide +kernel) (fun _ z => ns (List.mem_singleton.mp z).symm) g ?_ (fun _ _ e => e) (fun h' u tk hk => ⟨.str _, H, I.kept hk, ⟨_, rfl⟩, q⟩) (by decide +kernel)
    have : (PyData.dict []).depth ≤ 2 := by decide +kernel
    omega
  | dat hp hs hd hc =>
    obtain ⟨h1, h2, h3⟩ := Shw.all d hs
    have fin : ∀ h' t' tk, (∀ b o, s.heap.get? b = some o → h'.get? b = some o) → EP X pins σ Q (.str d.shown t') { s with heap := h', toks := tk } := fun h' t' tk hk => ⟨.str d.shown, H, I.kept hk, ⟨_, rfl⟩, q⟩
    have ref_ : ∀ a : Addr, v = .ref a → wpAny (model X.prog X.w) X.A (call (.builtin "repr") [u]) (EP X pins σ Q) X.xe s := fun a ea => by
      subst ea
      obtain ⟨as, rd⟩ := Dp.reads I d _ _ hp ru
      cases (show u = Value.ref a from ru)
      exact repr_of_reads' rd h2 (fun z => by rw [h3] at z; cases z) g (by omega) (fun _ _ e => e) fin (Nat.le_trans h1 hc)
    cases hp with
    | non =>
      cases (show u = Value.none from ru)
      refine PySem.P.repr_of_none ⟨.str _, H, I.tok _, ⟨_, rfl⟩, ?_⟩
      simp only [PyData.shown] at q
      exact q
    | bl b =>
      cases (show u = Value.bool b from ru)
      refine PySem.P.repr_of_bool ⟨.str _, H, I.tok _, ⟨_, rfl⟩, ?_⟩
      simp only [PyData.shown] at q
      exact q
    | int i =>
      obtain ⟨t, rfl⟩ := (show ∃ t, u = Value.int i t from ru)
      simp only [Shw] at hs
      refine PySem.P.repr_of_int hs ⟨.str _, H, I.tok _, ⟨_, rfl⟩, ?_⟩
      simp only [PyData.shown] at q
      exact q
    | str x =>
      obtain ⟨t, rfl⟩ := (show ∃ t, u = Value.str x t from ru)
      simp only [PyData.shown] at q h1
      exact PySem.P.repr_of_str ⟨.str _, H, I.tok _, ⟨_, rfl⟩, q⟩ (Nat.le_trans h1 hc)
    | lst _ _ => exact ref_ _ rfl
    | tup _ _ => exact ref_ _ rfl
end LL

set_option Elab.async false
set_option linter.all false
set_option maxRecDepth 100000
set_option maxHeartbeats 2000000
/-! LLLam: x(lambda: body), with no repr under way; LamX's own layer for it lacks that. -/
namespace LL
open PySem PySem.Spec PyProof.Rows L2 LamX
section
variable {X : Cx} {pins : List (Addr × Obj)} {σ : L2.St} {H : Hp} {s : Shared}
/-- the call of the lambda, in the def that got it -/
theorem pe_run {CXg : CXT} {Eg : XK} {Ng : List Str} {qg : Str} {sg : Scope} {g f c' : Addr} {cdg pm ctv : Value} {params : Arguments} {body : Expr} {scope : Scope} {k i : Nat} {y : Str} {pn : List (Addr × Obj)} {xe : Value → Shared → Prop} {W : WX} {E : XK} {tb : TE} {p1 p2 : Pos}
    (I : Inv X pins σ H s) (L : LamS X.env.scope scope) (of : s.heap.get? f = some (PySem.W.kla_obj "<lambda>" (X.env.qual ++ "<lambda>") params body scope (cloFrom X.env.cells scope.names []) pm c' ctv)) (fn : H f = none) (fo : f ∉ frs X.stack)
    (ba : bindArgs (PySem.W.kla_fn "<lambda>" (X.env.qual ++ "<lambda>") params body scope (cloFrom X.env.cells scope.names []) pm (.ref c') ctv) ⟨[], []⟩ = pure [])
    (tk : Takes ((cxOf CXg X.prog X.w X.K X.mg X.base Ng qg sg g cdg X.A X.stack s H Eg).tr pn xe) W) (hr : Rm (k + 1) (X.A.deeper (envOfC qg sg s.heap.objs.size g cdg)))
    (hb : ∀ (A : Around) (outer : List Env) (s : Shared) (H : Hp), Rm k (A.deeper (lamEnv X scope s.heap.objs.size f c')) → PE (lamCx X A outer s H E scope f c') body tb)
    (hN : Ng[i]? = some y) (hv : Vis sg y) (hd : (y == ("__debug__" : Str)) = false := by decide) (hcd : (y == ("__classdict__" : Str)) = false := by decide) :
    PE ((cxOf CXg X.prog X.w X.K X.mg X.base Ng qg sg g cdg X.A X.stack s H Eg).tr pn xe) (.Call (.Name y p1) [] [] p2)
      (fun τ G Q => τ[i]? = some (some (.ref f)) ∧ G c' = some (CodeO c' (X.env.qual ++ "<lambda>")) ∧ (∀ cls d G', E cls d G' → W cls d τ G') ∧ tb σ G Q) := by
  constructor
  intro pz sz τ G Q J h
  obtain ⟨h1, h2, hW, h3⟩ := h
  have look := (pe_var (pos := p1) (i := i) hN hv hd hcd).run pz sz τ G (fun v G1 => v = .ref f ∧ G1 = G) J ⟨.ref f, h1, rfl, rfl⟩
  refine wpAny_Call_Name_kw (thn look fun u s1 z => ?_)
  obtain ⟨v, G1, J1, rv, rfl, rfl⟩ := z
  cases (show u = Value.ref f from rv)
  have of1 := J1.base.keep f _ of fn fo (fun z => nomatch (show f ∈ ([] : List Addr) from z))
  refine PySem.W.callWith_F0 ⟨_, _, _, _, of1⟩ ?_
  obtain ⟨⟨oc, vs, t, co1, co2, co3⟩, _, _⟩ := J1.hok c' _ h2
  have run : codeAny (model X.prog X.w) (X.A.deeper (envOfC qg sg s.heap.objs.size g cdg)) (.call (.ref f) ⟨[], []⟩) (CR (L2.CX X.prog X.w) (envOfC qg sg s.heap.objs.size g cdg :: X.stack) X.prog X.w G1 s1 Q E) s1 := by
    refine PySem.W.kla_callFunE hr.r.depth of1 rfl L.co L.gen rfl ⟨c', oc, vs, t, rfl, co1, co2, co3⟩ ?_
    rw [ba]
    refine wpAny_pure (wpAny_newFunctionEnv (fun n hn => (L.own n hn).2) (fun n hn => absurd hn (by simp)) (fun h₁ ns1 sb => ⟨J1.nolimit.fresh _ sb, ?_⟩) L.kind)
    show codeAny _ _ (.expr body (lamEnv X scope s1.heap.objs.size f c')) _ _
    have kp : ∀ b o, s1.heap.get? b = some o → h₁.get? b = some o := fun b o e => sb.extBut b o (Nat.ne_of_lt (Heap.lt_size e)) (Heap.get?_push_of_some _ e)
    have S : Inv (lamCx X (X.A.deeper (envOfC qg sg s.heap.objs.size g cdg)) (envOfC qg sg s.heap.objs.size g cdg :: X.stack) s1 G1 E scope f c') [] σ G1 { s1 with heap := h₁, toks := s1.toks + ([] : List (Str × Value)).length } :=
      lam_start2 I L J1.env0 hr.r.hd J1.base ns1 kp
    refine PySem.W.kla_codeExpr (wpAny_mono ((hb _ _ s1 G1 (hr.deeper _)).run [] _ _ G1 Q S h3) (fun v s2 z => ?_) fun _ _ z => z)
    obtain ⟨w', G2, S2, rv2, q⟩ := z
    exact ⟨w', G2, S2.os, S2.bare, S2.base, S2.hok, rv2, q⟩
  refine wpAny_call (codeAny_mono run fun r s2 z => ?_)
  match r, z with
  | .error e, z => exact tk _ _ (XE.of_call J1 hW z)
  | .ok (.ret u), z => exact J1.after z
  | .ok .next, z => exact z.elim
  | .ok .brk, z => exact z.elim
  | .ok .cont, z => exact z.elim
end
/-- the def x that calls what it got by its one name y: TT is what it makes of the lambda's reading -/
def Gives (X : Cx) (k : Nat) (Ng : List Str) (x : Str) (sg : Scope) (g : Addr) (cdg : Value) (bg : List Stmt) (y : Str) (q : Str) (TT : (XK → Hp → VK → Prop) → Hp → VK → Prop) : Prop :=
  ∀ (f c' : Addr) (s : Shared) (H : Hp) (Q : VK) (tl : XK → Hp → VK → Prop), Rm k (X.A.deeper (envOfC x sg s.heap.objs.size g cdg)) →
    (∀ (W : WX) (pn : List (Addr × Obj)) (xe : Value → Shared → Prop) (E : XK) (p1 p2 : Pos), Takes ((cxOf CX0 X.prog X.w X.K X.mg X.base Ng x sg g cdg X.A X.stack s H E0).tr pn xe) W →
      PE ((cxOf CX0 X.prog X.w X.K X.mg X.base Ng x sg g cdg X.A X.stack s H E0).tr pn xe) (.Call (.Name y p1) [] [] p2) (fun τ G Q => τ[0]? = some (some (.ref f)) ∧ G c' = some (CodeO c' q) ∧ (∀ cls d G', E cls d G' → W cls d τ G') ∧ tl E G Q)) →
    H c' = some (CodeO c' q) → TT tl H Q →
    ∃ t, PSs (cxOf CX0 X.prog X.w X.K X.mg X.base Ng x sg g cdg X.A X.stack s H E0).nox bg t ∧ t { nx := fun _ H' => Q .non H', rt := Q } (L2.start Ng [.ref f]) H
/-- the def x, as one fact: it calls what it gets, and makes TT of it -/
structure Taker (P : Program) (w : World) (K : PySem.W.Frag) (mg : Str → Option Value) (base : Heap) (k : Nat) (x y : Str) (TT : (XK → Hp → VK → Prop) → Hp → VK → Prop) : Prop where
  ex : ∃ (g : Addr) (fd : FuncData) (pg : Arguments) (bg : List Stmt) (sg : Scope) (Ng : List Str), mg x = some (.ref g) ∧ FunD K x x pg bg sg [] [] g fd ∧ FnScope Ng [y] sg ∧ Ng[0]? = some y ∧ Vis sg y ∧ Binds K fd [y] [] ∧
    ∀ (X : Cx) (cdg : Value) (q : Str), X.prog = P → X.w = w → X.K = K → X.mg = mg → X.base = base → Gives X k Ng x sg g cdg bg y q TT
section
variable {X : Cx}
/-- x(lambda: body) -/
theorem pe_lamG {T : List (Addr × Str)} {TT : (XK → Hp → VK → Prop) → Hp → VK → Prop} {x y : Str} {c P : Addr} {k : Nat} {params : Arguments} {body : Expr} {scope : Scope} {t : XK → TE} {p lpos pos : Pos} (G : Taker X.prog X.w X.K X.mg X.base (k + 1) x y TT)
    (TB : TabB X.base X.mg c P) (hcode : X.env.code = .ref c) (hmT : (P, X.env.qual ++ "<lambda>") ∈ T) (hu : ∀ p ∈ T, p.1 = P → p.2 = X.env.qual ++ "<lambda>") (hr : Rm (k + 2) X.A) (L : LamS X.env.scope scope)
    (hbody : ∀ (A : Around) (outer : List Env) (s : Shared) (H : Hp) (E : XK) (f c' : Addr), Rm k (A.deeper (lamEnv X scope s.heap.objs.size f c')) → PE (lamCx X A outer s H E scope f c') body (t E)) (hg : Gl X x := by rfl)
    (hdef : defaultsOf params X.env = ([], []) := by rfl) (hbind : ∀ (q : Str) (cl : List (Str × Addr)) (pm cv ctv : Value), bindArgs (PySem.W.kla_fn "<lambda>" q params body scope cl pm cv ctv) ⟨[], []⟩ = pure [] := by intros; rfl)
    (hdb : (x == ("__debug__" : Str)) = false := by decide) (hd : (y == ("__debug__" : Str)) = false := by decide) (hcd : (y == ("__classdict__" : Str)) = false := by decide) :
    PE X (.Call (.Name x p) [.Lambda params body scope lpos] [] pos) (tLam T TT t) := by
  obtain ⟨g, fd, pg, bg, sg, Ng, hm, FF, Sg, hNg, hva, hb, hG⟩ := G.ex
  obtain ⟨oc, od, dV, kV, doc, pm, an, cdv, ct, osl, rfl, lk, hcg, _, _⟩ := FF.ex
  constructor
  intro pins s σ H Q I h
  obtain ⟨hT, h⟩ := h
  refine wpAny_Call_Name_kw (ld_glob I hg hm (PySem.W.callWith_K (h₀ := X.base) I.ok.mod.kin FF.kp ?_ (by rfl) (by rfl)) hdb)
  show wpAny _ _ (spliced ((false, eval (.Lambda params body scope lpos) X.env) :: backTo pos (starEach [] X.env))) _ _ s
  refine Calls.spliced_cons (lam_make2 I TB hcode hmT hu hT hdef (L.has I.ok) fun f c' pm' ctv H1 s1 I1 eN T1 of fn fo co => Calls.spliced_nil ⟨I1.kIn, ?_⟩)
  have run : codeAny (model X.prog X.w) X.A (.call (.ref g) ⟨[.ref f], []⟩) (CR CX0 X.stack X.prog X.w H1 s1 Q E0) s1 := by
    refine run_ofS (N := Ng) (ps := [y]) (us := [.ref f]) (vs := [.ref f]) lk hcg Sg hr.r I1.env0 (hb s1 [.ref f] I1.kIn rfl) (.cons rfl .nil) rfl fun _ => ?_
    have hr1 : Rm (k + 1) (X.A.deeper (envOfC x sg s1.heap.objs.size g cdv)) := hr.deeper _
    obtain ⟨t', ht, hq⟩ := hG X cdv (X.env.qual ++ "<lambda>") rfl rfl rfl rfl rfl f c' s1 H1 Q (fun E H' Q' => t E σ H' Q') hr1
      (fun W pn xe E p1 p2 tk => pe_run (i := 0) I1 L of fn fo (hbind _ _ _ _ _) tk hr1 (fun A outer s H hr2 => hbody A outer s H E f c' hr2) hNg hva hd hcd) co (h H1 eN T1)
    exact ⟨t', ht.nox, hq⟩
  refine wpAny_call (codeAny_mono run fun r s2 z => ?_)
  match r, z with
  | .error e, z => exact (show False from z).elim
  | .ok (.ret u), z => exact I1.after z
  | .ok .next, z => exact z.elim
  | .ok .brk, z => exact z.elim
  | .ok .cont, z => exact z.elim
end
end LL

set_option Elab.async false
set_option linter.all false
set_option maxRecDepth 100000
set_option maxHeartbeats 2000000
/-! LLTab: the law's end, and the head's Hook, where some defs make lambdas (tables of code objects). -/
namespace LL
open PySem PySem.Spec PyProof.Rows L2 LamX
/-! ### a def by its body, its code object known -/
section
variable {P : Program} {w : World} {K : PySem.W.Frag} {mg : Str → Option Value} {base : Heap} {CX : CXT} {k : Nat} {f : Addr} {fd : FuncData} {ps : List Str} {sp : Sp}
theorem okC {x qual : Str} {params : Arguments} {body : List Stmt} {scope : Scope} {dvs : List V} {kws : List (Str × V)} {N : List Str} (F : FunD K x qual params body scope dvs kws f fd) (S : FnScope N ps scope) (len : ∀ vs H Q E, sp vs H Q E → vs.length = ps.length)
    (hbody : ∀ (cdv : Value), (fdAt K f).map FuncData.code = some cdv → ∀ (A : Around) (outer : List Env) (s : Shared) (H : Hp) (vs : List V) (Q : VK) (E : XK), Rm k (A.deeper (envOfC qual scope s.heap.objs.size f cdv)) → sp vs H Q E →
      ∃ t, PSs (cxOf CX0 P w K mg base N qual scope f cdv A outer s H E).nox body t ∧ t { nx := fun _ H' => Q .non H', rt := Q } (L2.start N vs) H) : FnG P w K mg base CX0 (k + 1) f fd ps sp := by
  obtain ⟨oc, od, dV, kV, doc, pm, an, cdv, ct, osl, rfl, lk, hcd, _, _⟩ := F.ex
  have ec : (fdAt K f).map FuncData.code = some cdv := by
    unfold fdAt
    rw [lk]
    rfl
  refine ⟨len, fun A outer s H args us vs Q E hr e0 hb r hsp => ?_⟩
  refine LamX.run_ofS (CX := CX0) lk hcd S hr.r e0 hb r (len _ _ _ _ hsp) fun _ => ?_
  obtain ⟨t, ht, q⟩ := hbody cdv ec A outer s H vs Q E (hr.deeper _) hsp
  exact ⟨t, ht.nox, q⟩
end
/-- the code object of the def at a, its table -/
def cOf (K : PySem.W.Frag) (a : Addr) : Addr := match (fdAt K a).map FuncData.code with
  | some (Value.ref c) => c
  | _ => 0
theorem cOf_of {K : PySem.W.Frag} {a c : Addr} (e : (fdAt K a).map FuncData.code = some (Value.ref c)) : cOf K a = c := by
  unfold cOf
  rw [e]
def tOf (K : PySem.W.Frag) (a : Addr) : Addr := He.tabOf K (cOf K a)
/-! ### the law's call -/
section
variable {P : Program} {w : World} {K : PySem.W.Frag} {mg mb : Str → Option Value} {CX : CXT} {k : Nat} {fa a : Addr} {fd : FuncData} {x : Str} {sp : Sp} {t : Shared} {us : List Value} {ns : List Int} {cs : List (Addr × Addr)}
/-- an empty table -/
abbrev tab0 : Obj := { cls := .none, data := .fields #[] }
theorem lawAtT {H : Hp} (KX : K.In t.heap) (hns : t.heap.Ns mainGlobals mg) (hb : t.heap.Ns builtinsNs mb) (hbb : ∀ x : Str, x ≠ "__name__" → mb x = bootBuiltins x) (hlim : t.heap.NoLimit) (hg : t.gens = #[])
    (tT : ∀ p ∈ cs, t.heap.get? p.2 = some tab0) (tK : ∀ p ∈ cs, K.lookup p.2 = none) (tC : ∀ p ∈ cs, PySem.W.codeHdIn K p.1 p.2 = true)
    (bm : ∃ (m : Addr) (om : Obj), mg "__builtins__" = some (.ref m) ∧ m ≠ builtinsNs ∧ t.heap.get? m = some om ∧ om.cls = .type "module" ∧ om.dict = some builtinsNs ∧ om.data = .plain)
    (ha : t.heap.get? a = some { cls := .type "list", data := .seq us.toArray }) (hr : Rm k callerA) (F : ∀ base : Heap, K.In base → base.Ns mainGlobals mg → (∀ p ∈ cs, TabB base mg p.1 p.2) → FnG P w K mg base CX k fa fd [x] sp)
    (bd : ∀ (s : Shared) (u : Value), BindsTo s fd ⟨[u], []⟩ [(x, u)]) (hsp : sp [.ref a] H (fun v _ => v = .bl true) fun _ _ _ => False) (hCX : ∀ e s', CX [] H t (fun _ _ _ => False) e s' → False)
    (only : ∀ b, H b = none ∨ (b = a ∧ K.lookup a = none ∧ ∃ o l, H b = some (.frz o (.lst l))) ∨ ∃ p ∈ cs, b = p.2 ∧ H b = some (.tbl #[])) (hok : HOk P w H t.heap) : codeAny (model P w) callerA (.call (.ref fa) ⟨[.ref a], []⟩) (LawEnd t) t := by
  -- what is neither a list nor a table is free
  have free : ∀ {b : Addr} {o : Obj}, t.heap.get? b = some o → (∀ vs m, o.data ≠ .seq vs m) → (o.data ≠ .fields #[]) → H b = none := fun {b o} e n1 n2 => by
    rcases only b with z | ⟨rfl, _, _⟩ | ⟨p, hp, rfl, _⟩
    · exact z
    · rw [ha] at e
      cases e
      exact (n1 _ _ rfl).elim
    · rw [tT p hp] at e
      cases e
      exact (n2 rfl).elim
  have nsB : ∀ {b : Addr} {m : Str → Option Value}, t.heap.Ns b m → (hidT t.heap H).Ns b m := by
    rintro b m ⟨o, es, ep, e, d, r⟩
    refine ⟨o, es, ep, hidT_get e (free e (fun vs m z => ?_) fun z => ?_), d, r⟩ <;> rw [d] at z <;> cases z
  have kB : K.In (hidT t.heap H) := by
    intro b o e
    refine hidT_get (KX b o e) ?_
    rcases only b with z | ⟨z, q, _⟩ | ⟨p, hp, z, _⟩
    · exact z
    · rw [z, q] at e
      cases e
    · rw [z, tK p hp] at e
      cases e
  have TB : ∀ p ∈ cs, TabB (hidT t.heap H) mg p.1 p.2 := fun p hp => by
    refine ⟨PySem.W.codeHd_of_K kB (tC p hp), ?_, fun z => ?_⟩
    · obtain ⟨m, om, m1, m2, m3, m4, m5, m6⟩ := bm
      refine ⟨m, om, m1, m2, fun z => ?_, fun z => ?_, hidT_get m3 (free m3 (fun vs n z => ?_) fun z => ?_), m4, m5, m6⟩
      · obtain ⟨o, es, ep, e, d, _⟩ := hns
        rw [z, e] at m3
        cases m3
        rw [d] at m6
        cases m6
      · rw [z, tT p hp] at m3
        cases m3
        cases m6
      · rw [m6] at z
        cases z
      · rw [m6] at z
        cases z
    · obtain ⟨o, es, ep, e, d, _⟩ := hns
      rw [z, tT p hp] at e
      cases e
      cases d
  obtain ⟨ml, l1, l2⟩ := hlim
  have env : Env0 P w K mg (hidT t.heap H) callerA [] t H :=
    { frames := rfl
      mod := ⟨kB, nsB hns, ⟨mb, nsB hb, hbb⟩, ⟨ml, nsB l1, l2⟩⟩
      bs := fun _ _ e => of_hidT e
      bsz := Nat.le_of_eq (hidT_size _ _)
      funs := trivial
      frf := fun _ z => by cases (show _ ∈ ([] : List Addr) from z)
      hok := hok
      bare := .of_eq hg }
  have go := (F _ kB (nsB hns) TB).run callerA [] t H ⟨[.ref a], []⟩ [.ref a] [.ref a] _ _ hr env (bd t (.ref a)) (.cons rfl .nil) hsp
  refine codeAny_mono go fun r t' h => ?_
  match r, h with
  | .error e, h => exact (hCX e t' h).elim
  | .ok .next, h => exact False.elim h
  | .ok .brk, h => exact False.elim h
  | .ok .cont, h => exact False.elim h
  | .ok (.ret u), h =>
    obtain ⟨v, H', e1, e2, un, hok', rv, (rfl : v = .bl true)⟩ := h
    cases (show u = Value.bool true from rv)
    have key : ∀ b o, t.heap.get? b = some o → t'.heap.get? b = some o ∨ ∃ p ∈ cs, b = p.2 ∧ o = tab0 ∧ ∃ more : Array Value, t'.heap.get? b = some { cls := .none, data := .fields more } := fun b o e => by
      rcases only b with n | ⟨_, _, ob, l, z⟩ | ⟨p, hp, rfl, z⟩
      · exact .inl (un.keep b o e n (fun z => by cases (show b ∈ ([] : List Addr) from z)) (fun z => by cases z))
      · have z1 := (hok b _ z).1
        have z2 := (hok' b _ (un.frzs b ob _ z)).1
        rw [e] at z1
        cases z1
        exact .inl z2
      · obtain ⟨more, y⟩ := un.tbls p.2 #[] z
        have y2 := tT p hp
        rw [e] at y2
        exact .inr ⟨p, hp, rfl, Option.some.inj y2, _, hok' p.2 _ y⟩
    refine ⟨rfl, ⟨fun b o e => ?_, fun b o e => ?_⟩, e1, e2⟩
    · rcases key b o e with z | ⟨p, hp, rfl, rfl, more, z⟩
      · exact .inl z
      · exact .inr (.inl ⟨((PySem.W.codeHd_of_K KX (tC p hp)).tab (tT p hp)).isCodeTable, rfl, #[], more, rfl, by rw [Array.empty_append]; exact z⟩)
    · rcases key b o e with z | ⟨p, hp, rfl, rfl, more, z⟩
      · exact ⟨o, z⟩
      · exact ⟨_, z⟩
theorem lawT (KX : K.In t.heap) (hns : t.heap.Ns mainGlobals mg) (hb : t.heap.Ns builtinsNs mb) (hbb : ∀ x : Str, x ≠ "__name__" → mb x = bootBuiltins x) (hlim : t.heap.NoLimit) (hg : t.gens = #[])
    (tT : ∀ p ∈ cs, t.heap.get? p.2 = some tab0) (tK : ∀ p ∈ cs, K.lookup p.2 = none) (tC : ∀ p ∈ cs, PySem.W.codeHdIn K p.1 p.2 = true)
    (bm : ∃ (m : Addr) (om : Obj), mg "__builtins__" = some (.ref m) ∧ m ≠ builtinsNs ∧ t.heap.get? m = some om ∧ om.cls = .type "module" ∧ om.dict = some builtinsNs ∧ om.data = .plain)
    (ha : t.heap.get? a = some { cls := .type "list", data := .seq us.toArray }) (hi : IntsAre us ns) (hl : ns.length ≤ sizeLine) (hr : Rm k callerA) (F : ∀ base : Heap, K.In base → base.Ns mainGlobals mg → (∀ p ∈ cs, TabB base mg p.1 p.2) → FnG P w K mg base CX k fa fd [x] sp)
    (bd : ∀ (s : Shared) (u : Value), BindsTo s fd ⟨[u], []⟩ [(x, u)]) (hsp : ∀ H : Hp, (∀ p ∈ cs, H p.2 = some (.tbl #[])) → SqL K H a (ns.map V.int) → sp [.ref a] H (fun v _ => v = .bl true) fun _ _ _ => False) (hCX : ∀ H e s', CX [] H t (fun _ _ _ => False) e s' → False) :
    codeAny (model P w) callerA (.call (.ref fa) ⟨[.ref a], []⟩) (LawEnd t) t := by
  classical
  have rv := vals_ints hi
  have na : ∀ p ∈ cs, p.2 ≠ a := fun p hp z => by
    have e := tT p hp
    rw [z, ha] at e
    cases e
  let T : Hp := fun b => if ∃ p ∈ cs, b = p.2 then some (.tbl #[]) else none
  have T1 : ∀ p ∈ cs, T p.2 = some (.tbl #[]) := fun p hp => if_pos ⟨p, hp, rfl⟩
  have T2 : ∀ b u, T b = some u → (∃ p ∈ cs, b = p.2) ∧ u = .tbl #[] := fun b u e => by
    by_cases c : ∃ p ∈ cs, b = p.2
    · have e' : some (HO.tbl #[]) = some u := (if_pos c).symm.trans e
      exact ⟨c, (Option.some.inj e').symm⟩
    · have e' : none = some u := (if_neg c).symm.trans e
      cases e'
  have T3 : ∀ b, T b = none ∨ ∃ p ∈ cs, b = p.2 ∧ T b = some (.tbl #[]) := fun b => by
    by_cases c : ∃ p ∈ cs, b = p.2
    · obtain ⟨p, hp, e⟩ := c
      exact .inr ⟨p, hp, e, e ▸ T1 p hp⟩
    · exact .inl (if_neg c)
  have T4 : HOk P w T t.heap := fun b u e => by
    obtain ⟨⟨p, hp, rfl⟩, rfl⟩ := T2 b u e
    exact tT p hp
  cases q : K.lookup a with
  | none =>
    let o : Obj := { cls := .type "list", data := .seq us.toArray }
    have Ha : upd T a (.frz o (.lst (ns.map V.int))) a = some (.frz o (.lst (ns.map V.int))) := upd_same
    refine lawAtT (H := upd T a (.frz o (.lst (ns.map V.int)))) KX hns hb hbb hlim hg tT tK tC bm ha hr F bd (hsp _ (fun p hp => ?_) (.inl (.inr ⟨_, Ha⟩))) (hCX _) (fun b => ?_) fun b u z => ?_
    · rw [upd_ne (na p hp)]
      exact T1 p hp
    · by_cases c : b = a
      · exact .inr (.inl ⟨c, q, o, _, by rw [c]; exact Ha⟩)
      · rw [upd_ne c]
        exact (T3 b).imp id fun z => .inr z
    · by_cases c : b = a
      · subst c
        rw [Ha] at z
        cases z
        exact ⟨ha, by rw [List.length_map]; exact hl, us, _, rv, ha⟩
      · rw [upd_ne c] at z
        obtain ⟨⟨p, hp, rfl⟩, rfl⟩ := T2 b u z
        exact tT p hp
  | some o =>
    have e := KX a o q
    rw [ha] at e
    cases e
    refine lawAtT (H := T) KX hns hb hbb hlim hg tT tK tC bm ha hr F bd (hsp _ T1 (.inr ⟨_, us.toArray, _, q, rfl, rfl, rfl, ?_, by simpa using rv⟩)) (hCX _) (fun b => (T3 b).imp id fun z => .inr z) T4
    rw [List.size_toArray, hi.length]
    exact hl
end
/-- the goal that the head leaves, from the law's promise -/
theorem walkT {l : PySem.W.OpenLaw} {n k : Nat} {q : Program} {loose : List Str} {XP : (Str → Option Value) → Heap → Prop} {YP : World → Heap → Prop} {d : DefRec} {CX : CXT} {x : Str} (hn : l.most = some n) (hn2 : n ≤ sizeLine) (hdf : d.params.defaults = []) (hr : Rm k callerA)
    (F : ∀ (w : World) (mg : Str → Option Value) (fa : Addr) (h : Heap), YP w h → h.Ns mainGlobals mg → mg d.name = some (.ref fa) →
      ∃ (K : PySem.W.Frag) (fd : FuncData) (sp : Sp) (cs : List (Addr × Addr)), K.In h ∧ (∀ p ∈ cs, h.get? p.2 = some tab0) ∧ (∀ p ∈ cs, K.lookup p.2 = none) ∧ (∀ p ∈ cs, PySem.W.codeHdIn K p.1 p.2 = true) ∧ (∀ (s : Shared) (u : Value), BindsTo s fd ⟨[u], []⟩ [(x, u)]) ∧
        (∀ (H : Hp) (a : Addr) (ns : List Int), ns.length ≤ n → (∀ i ∈ ns, Builtin.Int.intBits i ≤ 1048576) → (∀ p ∈ cs, H p.2 = some (.tbl #[])) → SqL K H a (ns.map V.int) → sp [.ref a] H (fun v _ => v = .bl true) fun _ _ _ => False) ∧
        ∀ base : Heap, K.In base → base.Ns mainGlobals mg → (∀ p ∈ cs, TabB base mg p.1 p.2) → FnG l.prog w K mg base CX k fa fd [x] sp)
    (hCX : ∀ (H : Hp) (s : Shared) (e : Value) (s' : Shared), CX [] H s (fun _ _ _ => False) e s' → False) : PySem.W.WalkO q loose XP YP l.row.toRowW d [] (fun f vs => PySem.call f vs) := by
  refine Att.attach_callB hn hdf fun w _ t mg mb fa _ _ _ _ a us ns G Y _ _ _ hm ho hi hlen hbits hg => ?_
  obtain ⟨K, fd, sp, cs, KX, tT, tK, tC, bd, hs, hF⟩ := F w mg fa _ Y G.T.g hm
  exact lawT KX G.T.g G.T.b G.T.builtins G.T.nolimit hg tT tK tC G.T.bmain ho hi (Nat.le_trans hlen hn2) hr hF bd (fun H hT hS => hs H a ns hlen hbits hT hS) fun H e s' => hCX H t e s'
/-! ### the Hook -/
/-- what the module's names reach in n steps, and the statics -/
def asY (g : Addr → Option Obj) : Nat → List Addr
  | 0 => [mainGlobals, cStatics]
  | n + 1 => He.growD g (asY g n)
def frY (n : Nat) (g : Addr → Option Obj) : PySem.W.Frag := He.frT g (asY g n)
def tabY (g : Addr → Option Obj) (tf : List (PySem.W.Frag → Addr)) (K : PySem.W.Frag) : Bool := tf.all fun a => PySem.W.codeHdIn K (cOf K (a K)) (tOf K (a K)) && (g (tOf K (a K))).any He.emptyTab
abbrev AlT : Type := AlX × Bool
def obsTG (n : Nat) (ft : List Ft) (fn : List DefX) (tf : List (PySem.W.Frag → Addr)) (g : Addr → Option Obj) : AlT := (obsY ft fn (frY n g), tabY g tf (frY n g))
structure SaysT (ft : List Ft) (fn : List DefX) (tf : List (PySem.W.Frag → Addr)) (h : Heap) (K : PySem.W.Frag) : Prop where
  y : SaysY ft fn K
  hd : ∀ a ∈ tf, PySem.W.codeHdIn K (cOf K (a K)) (tOf K (a K)) = true
  out : ∀ a ∈ tf, K.lookup (tOf K (a K)) = none
  emp : ∀ a ∈ tf, h.get? (tOf K (a K)) = some tab0
theorem saysT_of {n : Nat} {ft : List Ft} {fn : List DefX} {tf : List (PySem.W.Frag → Addr)} {h : Heap} (e : obsTG n ft fn tf h.get? = (valY fn, true)) : SaysT ft fn tf h (frY n h.get?) := by
  have e1 : obsY ft fn (frY n h.get?) = valY fn := congrArg Prod.fst e
  have e2 : tabY h.get? tf (frY n h.get?) = true := congrArg Prod.snd e
  have key : ∀ a ∈ tf, PySem.W.codeHdIn (frY n h.get?) (cOf (frY n h.get?) (a (frY n h.get?))) (tOf (frY n h.get?) (a (frY n h.get?))) = true ∧ ∃ o, h.get? (tOf (frY n h.get?) (a (frY n h.get?))) = some o ∧ He.emptyTab o = true := fun a ha => by
    obtain ⟨h1, h2⟩ := He.ba (List.all_eq_true.mp e2 a ha)
    cases q : h.get? (tOf (frY n h.get?) (a (frY n h.get?))) with
    | none =>
      rw [q] at h2
      cases h2
    | some o =>
      rw [q] at h2
      exact ⟨h1, o, rfl, h2⟩
  refine ⟨e1, fun a ha => (key a ha).1, fun a ha => ?_, fun a ha => ?_⟩
  · obtain ⟨_, o, q, z⟩ := key a ha
    exact He.frT_none q z
  · obtain ⟨_, o, q, z⟩ := key a ha
    rw [q, He.emptyTab_eq z]
def hookT (n : Nat) (ft : List Ft) (fn : List DefX) (tf : List (PySem.W.Frag → Addr)) : PySem.W.Hook where
  α := AlT
  obs := fun s => obsTG n ft fn tf s.heap.get?
  val := fun _ => (valY fn, true)
  says := fun _ h => ∃ K : PySem.W.Frag, K.In h ∧ SaysT ft fn tf h K
  of := fun _ _ e => ⟨_, He.frT_in, saysT_of e⟩
  keeps := fun _ _ _ ⟨K, hK, c⟩ k => ⟨K, PySem.W.Frag.In.keeps hK k, ⟨c.y, c.hd, c.out, fun a ha => k _ _ (c.emp a ha)⟩⟩
theorem obsTG_eq {n : Nat} {ft : List Ft} {fn : List DefX} {tf : List (PySem.W.Frag → Addr)} {g : Addr → Option Obj} {s : Shared} (h : ∀ a, g a = s.heap.get? a) : obsTG n ft fn tf g = (hookT n ft fn tf).obs s := by
  cases (funext h : g = s.heap.get?)
  rfl
/-! ### an error class of the text, over ValueError -/
def oexB (K : PySem.W.Frag) (C : Addr) : Bool := match K.lookup C with
  | some ⟨.type c, _, .cls cd, sl⟩ => c == "type" && (match cd.mro, sl.toList with
    | .ref D :: bm, [_, _, _, _, some (.builtin n), _] => D == C && (n == "ValueError.__new__" && (!cd.hasDel && (cd.hasDict && PySem.HandSPX.refsVE bm)))
    | _, _ => false)
  | _ => false
theorem oexB_ok {K : PySem.W.Frag} {C : Addr} (h : oexB K C = true) : ∃ nm q N bs bm sn sub ab col dd k0 k1 k2 k3 k5, K.lookup C = some (excClassObj nm q C N bs bm true sn sub ab col dd k0 k1 k2 k3 k5 "ValueError.__new__") ∧ PySem.HandSPX.refsVE bm = true := by
  unfold oexB at h
  split at h
  · rename_i c dd cd sl lk
    obtain ⟨h1, h2⟩ := He.ba h
    split at h2
    · rename_i D bm k0 k1 k2 k3 n k5 hm hs
      obtain ⟨g1, g2⟩ := He.ba h2
      obtain ⟨g3, g4⟩ := He.ba g2
      obtain ⟨g5, g6⟩ := He.ba g4
      obtain ⟨g7, g8⟩ := He.ba g6
      obtain ⟨c1, c2, c3, c4, c5, c6, c7, c8, c9, c10, c11⟩ := cd
      have es : sl = #[k0, k1, k2, k3, some (.builtin n), k5] := by
        have : sl = sl.toList.toArray := by simp
        rw [this, hs]
      have e1 : c = "type" := beq_iff_eq.mp h1
      have e2 : D = C := beq_iff_eq.mp g1
      have e3 : n = "ValueError.__new__" := beq_iff_eq.mp g3
      have e4 : c11 = false := by simpa using g5
      have e5 : c6 = true := g7
      have e6 : c3 = .ref D :: bm := hm
      subst es e1 e2 e3 e4 e5 e6
      exact ⟨_, _, _, _, _, _, _, _, _, _, _, _, _, _, _, lk, g8⟩
    · cases h2
  · cases h
/-- all that is asked of an error class x with the field f -/
def fXcl (x f : Str) : Ft := fun K => oexB K (He.ga K x) && (He.eqO (PySem.W.findIn K (.ref (He.ga K x)) "__setattr__") (some (some (.builtin "object.__setattr__"))) && (decide (PySem.W.subIn K (.ref (He.ga K x)) (.type "BaseException") = some true) && (decide (PySem.W.typeIn K (.ref (He.ga K x)) = some (.type "type")) &&
  (PySem.W.keepIn K (.ref (He.ga K x)) && (He.eqO (PySem.W.findIn K (.ref (He.ga K x)) f) (some none) && (He.eqO (PySem.W.findIn K (.ref (He.ga K x)) "__init__") (some (some (.ref (mA x "__init__" K)))) && (decide (PySem.W.typeIn K (.ref (mA x "__init__" K)) = some (.type "function")) &&
  (xfB K (He.ga K x) && (He.eqO (PySem.W.findIn K (.ref (He.ga K x)) "__class__") (some (some (.builtin "object.__class__"))) && (He.eqO (PySem.W.specialIn K (.builtin "object.__class__") "__get__") (some (some (.builtin "getset_descriptor.__get__"))) && (decide (PySem.W.takesIn K (.builtin "object.__class__") = some true) && decide (PySem.W.mroIn K (He.ga K x) (.type "object") = some true))))))))))))
theorem fXcl_ok {P : Program} {w : World} {K : PySem.W.Frag} {mg : Str → Option Value} {base : Heap} {k : Nat} {x f : Str} {fd : FuncData} {ps : List Str} (c : fXcl x f K = true) (hm : mg x = some (.ref (He.ga K x))) (B : Binds K fd ps []) (F : FnOk P w K mg base CX0 k (mA x "__init__" K) fd ps (spXI (He.ga K x) f)) :
    Xcl P w K mg base k x (He.ga K x) f := by
  obtain ⟨c1, c⟩ := He.ba c
  obtain ⟨c2, c⟩ := He.ba c
  obtain ⟨c3, c⟩ := He.ba c
  obtain ⟨c4, c⟩ := He.ba c
  obtain ⟨c5, c⟩ := He.ba c
  obtain ⟨c6, c⟩ := He.ba c
  obtain ⟨c7, c⟩ := He.ba c
  obtain ⟨c8, c⟩ := He.ba c
  obtain ⟨c9, c⟩ := He.ba c
  obtain ⟨c10, c⟩ := He.ba c
  obtain ⟨c11, c⟩ := He.ba c
  obtain ⟨c12, c13⟩ := He.ba c
  have xf := xfB_ok c9
  exact ⟨⟨oexB_ok c1, He.eqO_ok c2, of_decide_eq_true c3, of_decide_eq_true c4, c5⟩, He.eqO_ok c6, hm, ⟨_, fd, ps, He.eqO_ok c7, of_decide_eq_true c8, B, F⟩, xf, ⟨xf.ga, xf.gg, xf.exC, xf.hdC, He.eqO_ok c10, He.eqO_ok c11, of_decide_eq_true c12, of_decide_eq_true c13⟩⟩
theorem fXcl_pre {K : PySem.W.Frag} {x f : Str} (c : fXcl x f K = true) : OexC K (He.ga K x) ∧ PySem.W.findIn K (.ref (He.ga K x)) f = some none := by
  obtain ⟨c1, c⟩ := He.ba c
  obtain ⟨c2, c⟩ := He.ba c
  obtain ⟨c3, c⟩ := He.ba c
  obtain ⟨c4, c⟩ := He.ba c
  obtain ⟨c5, c⟩ := He.ba c
  obtain ⟨c6, _⟩ := He.ba c
  exact ⟨⟨oexB_ok c1, He.eqO_ok c2, of_decide_eq_true c3, of_decide_eq_true c4, c5⟩, He.eqO_ok c6⟩
/-- the class B over ValueError that has no __init__ of its own -/
def fLe (x : Str) : Ft := fun K => He.eqO (PySem.W.specialIn K (.ref (He.ga K x)) "__getattribute__") (some (some (.builtin "type.__getattribute__"))) && (PySem.W.readsIn K (He.ga K x) (.type "type") && (match PySem.W.findCls K (.ref (He.ga K x)) (.type "type") "__init__" with
  | some (.val (.builtin n)) => n == "ValueError.__init__"
  | _ => false))
theorem fLe_ok {K : PySem.W.Frag} {x : Str} (c : fLe x K = true) : LeC K (He.ga K x) := by
  obtain ⟨c1, c⟩ := He.ba c
  obtain ⟨c2, c3⟩ := He.ba c
  refine ⟨He.eqO_ok c1, c2, ?_⟩
  split at c3
  · rename_i n e
    rw [e, beq_iff_eq.mp c3]
  · cases c3
end LL

set_option Elab.async false
set_option linter.all false
set_option maxRecDepth 100000
set_option maxHeartbeats 2000000
/-! LLVal: values that are refused, and how repr tells them; heaps with tables; constants of the module. -/
namespace LL
open PySem PySem.Spec PyProof.Rows L2
theorem small {n : Nat} (h : n ≤ 100000) : n ≤ sizeLine := Nat.le_trans h (by rw [sizeLine_eq]; decide)
theorem passF {X : Cx} : Passes (L2.CX X.prog X.w) X E0 := fun _ _ _ _ _ _ _ h => by
  obtain ⟨_, _, _, _, _, _, _, _, _, _, _, _, z⟩ := h
  exact z.elim
/-- a constant of the module -/
theorem pe_gS {X : Cx} {x z : Str} {pos : Pos} (h : ∃ t, X.mg x = some (.str z t)) (hg : Gl X x := by rfl) (hd : (x == ("__debug__" : Str)) = false := by decide) : PE X (.Name x pos) (tC (.str z)) := by
  obtain ⟨t, h⟩ := h
  exact pe_glob hg h ⟨t, rfl⟩ hd
theorem pe_gI {X : Cx} {x : Str} {i : Int} {pos : Pos} (h : ∃ t, X.mg x = some (.int i t)) (hg : Gl X x := by rfl) (hd : (x == ("__debug__" : Str)) = false := by decide) : PE X (.Name x pos) (tC (.int i)) := by
  obtain ⟨t, h⟩ := h
  exact pe_glob hg h ⟨t, rfl⟩ hd
def fStr (x z : Str) : Ft := fun K => (He.Fa.str x z).ok K
def fInt (x : Str) (i : Int) : Ft := fun K => (He.Fa.int x i).ok K
/-- a value that is no text -/
def NoTxt (K : PySem.W.Frag) (H : Hp) (v : V) : Prop := ∃ t, (∀ H', LamX.ExtN H H' → TyX K H' v t) ∧ PySem.W.kitOne K t (.type "str") = some false
theorem NoTxt.ext {K : PySem.W.Frag} {H H' : Hp} {v : V} (h : NoTxt K H v) (s : LamX.ExtN H H') : NoTxt K H' v := let ⟨t, a, b⟩ := h; ⟨t, fun H2 s2 => a H2 (s.trans s2), b⟩
theorem NoTxt.same {K : PySem.W.Frag} {H H' : Hp} {v : V} (h : NoTxt K H v) (s : Same H H') : NoTxt K H' v := h.ext (.of s)
/-- an error with this value -/
def Err (Cx : Addr) (H : Hp) (v : V) (E : XK) : Prop := ∀ H' d, Same H H' → H d = none → H' d = some (.xd [("value", v)]) → E (.ref Cx) (some d) H'
theorem Err.now {Cx : Addr} {H : Hp} {v : V} {E : XK} (h : Err Cx H v E) : ∀ d, H d = none → E (.ref Cx) (some d) (upd H d (.xd [("value", v)])) := fun d hd => h _ d (same_upd hd) hd upd_same
theorem Err.same {Cx : Addr} {H H1 : Hp} {v : V} {E : XK} (h : Err Cx H v E) (s : Same H H1) : Err Cx H1 v E := fun H' d s2 hd e => h H' d (s.trans s2) (s.free hd) e
theorem kStr {K : PySem.W.Frag} : PySem.W.kitOne K (.type "str") (.type "str") = some true := kit_ty (by decide +kernel)
/-! ### heaps with tables -/
def ButN (p : Addr) (H H' : Hp) : Prop := ∀ b o, H b = some o → b ≠ p → (∀ ps, o ≠ .tbl ps) → H' b = some o
theorem ButN.trans {p : Addr} {H H1 H2 : Hp} (a : ButN p H H1) (b : ButN p H1 H2) : ButN p H H2 := fun c o e n t => b c o (a c o e n t) n t
theorem ButN.of {p : Addr} {H H' : Hp} (a : But p H H') : ButN p H H' := fun c o e n _ => a c o e n
theorem ButN.ext {p : Addr} {H H' : Hp} (a : LamX.ExtN H H') : ButN p H H' := fun c o e _ t => a c o e t
theorem ButN.same {p : Addr} {H H' : Hp} (a : Same H H') : ButN p H H' := fun c o e _ _ => a c o e
theorem lst_ext {H H' : Hp} {l : Addr} {xs : List V} (h : H l = some (.lst xs)) (b : LamX.ExtN H H') : H' l = some (.lst xs) := b _ _ h (fun _ z => by cases z)
theorem tabs_kp {T : List (Addr × Str)} {H H' : Hp} (t : LamX.Tabs T H) (k : Kp H H') : LamX.Tabs T H' := fun p hp => by
  obtain ⟨ps, h1, h2, h3⟩ := t p hp
  refine ⟨ps, k _ _ h1 (fun _ z => by cases z), h2, fun pos cv hc => ?_⟩
  obtain ⟨c, e1, e2⟩ := h3 pos cv hc
  exact ⟨c, e1, k _ _ e2 (fun _ z => by unfold LamX.CodeO at z; cases z)⟩
theorem tabs_same {T : List (Addr × Str)} {H H' : Hp} (t : LamX.Tabs T H) (k : Same H H') : LamX.Tabs T H' := tabs_kp t (Kp.of k)
theorem asc_okt {z : Str} (h : PyData.strOk z = true) : Asc z := fun c hc => Nat.lt_trans (okt_iff.mp h c hc) (by decide)
theorem log_small {n : Int} (h : n.natAbs < 2 ^ 100) : n.natAbs.log2 < 1920 := Nat.lt_of_lt_of_le (PySem.Flt.log2_lt_of (by decide) h) (by decide)
section
variable {K : PySem.W.Frag}
theorem dq_of {H : Hp} {v : V} {d : PyData} (h : Dp K H v d) (s : Shw d) (p : d.depth ≤ 40) (c : cost d ≤ sizeLine) : Dq K H v d := .dat h s p c
/-- told by repr as d, whatever else is made -/
def Tld (K : PySem.W.Frag) (H : Hp) (v : V) (d : PyData) : Prop := PyData.strOk d.shown = true ∧ ∀ H', LamX.ExtN H H' → Dq K H' v d
theorem Tld.ext {H H' : Hp} {v : V} {d : PyData} (h : Tld K H v d) (s : LamX.ExtN H H') : Tld K H' v d := ⟨h.1, fun H2 s2 => h.2 H2 (s.trans s2)⟩
theorem okt_int (i : Int) : PyData.strOk (PyData.shown (.int i)) = true := by
  simp only [PyData.shown]
  exact okt_of _
theorem tld_non {H : Hp} : Tld K H .non .none := ⟨by decide +kernel, fun _ _ => dq_of .non (by simp only [Shw]) (by decide +kernel) (by decide +kernel)⟩
theorem tld_bl {H : Hp} (b : Bool) : Tld K H (.bl b) (.bool b) := ⟨by cases b <;> decide +kernel, fun _ _ => dq_of (.bl b) (by simp only [Shw]) (by cases b <;> decide +kernel) (by cases b <;> decide +kernel)⟩
theorem tld_int {H : Hp} {i : Int} (h : i.natAbs < 2 ^ 100) : Tld K H (.int i) (.int i) := by
  refine ⟨okt_int i, fun _ _ => dq_of (.int i) (by simp only [Shw]; exact log_small h) ?_ ?_⟩
  · simp only [PyData.depth]
    decide
  · simp only [cost]
    exact small (by decide)
theorem tld_zero {H : Hp} : Tld K H (.str "0") (.str "0") := ⟨by decide +kernel, fun _ _ => dq_of (.str _) (by simp only [Shw]; exact asc_of _) (by decide +kernel) (by decide +kernel)⟩
theorem tld_list1 {H : Hp} {l : Addr} {i : Int} (h : i.natAbs < 2 ^ 100) (hl : H l = some (.lst [.int i])) : Tld K H (.ref l) (.list [.int i]) := by
  refine ⟨?_, fun H' s => dq_of (.lst (SqL.of (lst_ext hl s)) (.cons (.int _) .nil)) (by simp only [Shw, ShwAll]; exact ⟨log_small h, trivial⟩) ?_ ?_⟩
  · simp only [PyData.shown, PyData.shownAll, listText, textFrom]
    exact okt_app (okt_app (okt_app (okt_of _) (okt_of _)) (okt_of _)) (okt_of _)
  · simp only [PyData.depth, PyData.depthAll]
    decide
  · simp only [cost, costAll]
    exact small (by decide)
theorem tld_a {H : Hp} {l : Addr} (hl : H l = some (.lst [.str "a"])) : Tld K H (.ref l) (.list [.str "a"]) :=
  ⟨by decide +kernel, fun H' s => dq_of (.lst (SqL.of (lst_ext hl s)) (.cons (.str _) .nil)) (by simp only [Shw, ShwAll]; exact ⟨asc_of _, trivial⟩) (by decide +kernel) (by decide +kernel)⟩
theorem tld_nil {H : Hp} {l : Addr} (hl : H l = some (.lst [])) : Tld K H (.ref l) (.list []) :=
  ⟨by decide +kernel, fun H' s => dq_of (.lst (SqL.of (lst_ext hl s)) .nil) (by simp only [Shw, ShwAll]) (by decide +kernel) (by decide +kernel)⟩
theorem tld_t0 {H : Hp} {l : Addr} (hl : H l = some (.tup [.int 0])) : Tld K H (.ref l) (.tuple [.int 0]) :=
  ⟨by decide +kernel, fun H' s => dq_of (.tup (SqT.of (s _ _ hl (fun _ z => by cases z))) (.cons (.int _) .nil)) (by simp only [Shw, ShwAll]; decide +kernel) (by decide +kernel) (by decide +kernel)⟩
theorem tld_tnil {H : Hp} {l : Addr} (hl : H l = some (.tup [])) : Tld K H (.ref l) (.tuple []) :=
  ⟨by decide +kernel, fun H' s => dq_of (.tup (SqT.of (s _ _ hl (fun _ z => by cases z))) .nil) (by simp only [Shw, ShwAll]) (by decide +kernel) (by decide +kernel)⟩
theorem tld_d {H : Hp} {l : Addr} (hl : H l = some (.dK [])) : Tld K H (.ref l) (.dict []) := ⟨by decide +kernel, fun H' s => .emp (s _ _ hl (fun _ z => by cases z))⟩
theorem kNoneI : PySem.W.kitOne K (.type "NoneType") (.type "int") = some false := kit_ty (by decide +kernel)
theorem kStrI : PySem.W.kitOne K (.type "str") (.type "int") = some false := kit_ty (by decide +kernel)
theorem kLstI : PySem.W.kitOne K (.type "list") (.type "int") = some false := kit_ty (by decide +kernel)
theorem kTupI : PySem.W.kitOne K (.type "tuple") (.type "int") = some false := kit_ty (by decide +kernel)
theorem kDicI : PySem.W.kitOne K (.type "dict") (.type "int") = some false := kit_ty (by decide +kernel)
theorem kNoneS : PySem.W.kitOne K (.type "NoneType") (.type "str") = some false := kit_ty (by decide +kernel)
theorem kIntS : PySem.W.kitOne K (.type "int") (.type "str") = some false := kit_ty (by decide +kernel)
theorem kBoolS : PySem.W.kitOne K (.type "bool") (.type "str") = some false := kit_ty (by decide +kernel)
theorem kLstS : PySem.W.kitOne K (.type "list") (.type "str") = some false := kit_ty (by decide +kernel)
theorem kTupS : PySem.W.kitOne K (.type "tuple") (.type "str") = some false := kit_ty (by decide +kernel)
theorem kDicS : PySem.W.kitOne K (.type "dict") (.type "str") = some false := kit_ty (by decide +kernel)
theorem ty_lst {H H' : Hp} {l : Addr} {xs : List V} (h : H l = some (.lst xs)) (s : LamX.ExtN H H') : TyX K H' (.ref l) (.type "list") := .base (.lst (lst_ext h s))
theorem ty_tup {H H' : Hp} {l : Addr} {xs : List V} (h : H l = some (.tup xs)) (s : LamX.ExtN H H') : TyX K H' (.ref l) (.type "tuple") := .base (.tup (s _ _ h (fun _ z => by cases z)))
theorem ty_dK {H H' : Hp} {l : Addr} (h : H l = some (.dK [])) (s : LamX.ExtN H H') : TyX K H' (.ref l) (.type "dict") := .base (.dK (s _ _ h (fun _ z => by cases z)))
/-- a refusal as a tuple, and the one that is due -/
def rfs (x s : Str) : PyData := .tuple [.str x, .str s, .bool true]
theorem rfs_lay {x s : Str} (hx : PyData.strOk x = true) (hs : PyData.strOk s = true) : PyData.canLay0 (rfs x s) = true := by
  simp [rfs, PyData.canLay0, PyData.canLayAll0, hx, hs]
theorem rfs_shp {x s : Str} (hx : PyData.strOk x = true) (hs : PyData.strOk s = true) : SeqAt.shaped (rfs x s) = true := by
  unfold SeqAt.shaped
  rw [rfs_lay hx hs]
  simp [rfs, PyData.depth, PyData.depthAll]
theorem rfs_dp {H : Hp} {t : Addr} {x s : Str} (h : H t = some (.tup [.str x, .str s, .bl true])) : Dp K H (.ref t) (rfs x s) := .tup (SqT.of h) (.cons (.str _) (.cons (.str _) (.cons (.bl _) .nil)))
end
def Fre (H : Hp) (a : Addr) : Prop := ∀ o, H a = some o → ∃ ps, o = HO.tbl ps
/-- beside what was there, but p, an own a is changed -/
theorem bn_own {p a : Addr} {H H1 H2 : Hp} (b : ButN p H H1) (f : Fre H a) (c : But a H1 H2) : ButN p H H2 := fun x o e n t => c x o (b x o e n t) fun z => by
  obtain ⟨ps, q⟩ := f o (z ▸ e)
  exact t ps q
theorem code_ref {K : PySem.W.Frag} {f : Addr} {fd : FuncData} {x qual : Str} {params : Arguments} {body : List Stmt} {scope : Scope} {dvs : List V} {kws : List (Str × V)} (F : FunD K x qual params body scope dvs kws f fd) : (fdAt K f).map FuncData.code = some (.ref (cOf K f)) := by
  obtain ⟨oc, od, dV, kV, doc, pm, an, cdv, ct, osl, rfl, lk, hcd, _, _⟩ := F.ex
  obtain ⟨c, rfl⟩ := He.codeIn_ref hcd
  have e : (fdAt K f).map FuncData.code = some (.ref c) := by
    unfold fdAt
    rw [lk]
    rfl
  rw [cOf_of e]
  exact e
theorem look_v (v : V) : ([(("value" : Str), v)] : List (Str × V)).lookup ("value" : Str) = some v := by
  rw [show ([(("value" : Str), v)] : List (Str × V)) = putF "value" v [] from rfl, lookup_putF, if_pos rfl]
theorem sq_ext {K : PySem.W.Frag} {H H' : Hp} {a : Addr} {xs : List V} (h : SqL K H a xs) (e : LamX.ExtN H H') : SqL K H' a xs := by
  rcases h with (h | ⟨o, h⟩) | h
  · exact .inl (.inl (e _ _ h (fun _ z => by cases z)))
  · exact .inl (.inr ⟨o, e _ _ h (fun _ z => by cases z)⟩)
  · exact .inr h
/-! ### slices -/
theorem cutV_to (xs : List V) (n : Nat) : cutV xs none (some (n : Int)) = xs.take n := by
  unfold cutV
  rw [HT.sIx_none, HT.sIx_nat, List.drop_zero, Nat.sub_zero, List.take_eq_take_iff]
  omega
theorem cutV_from (xs : List V) (n : Nat) : cutV xs (some (n : Int)) none = xs.drop n := by
  unfold cutV
  rw [HT.sIx_none, HT.sIx_nat]
  by_cases h : n ≤ xs.length
  · rw [Nat.min_eq_left h, List.take_of_length_le (by rw [List.length_drop]; omega)]
  · rw [Nat.min_eq_right (by omega), List.drop_of_length_le (Nat.le_refl _), List.drop_of_length_le (by omega)]
    simp
theorem cutV_one (xs : List V) (n : Nat) : cutV xs (some (n : Int)) (some ((n : Int) + 1)) = (xs.drop n).take 1 := by
  unfold cutV
  rw [show ((n : Int) + 1) = ((n + 1 : Nat) : Int) by omega, HT.sIx_nat, HT.sIx_nat]
  by_cases h : n < xs.length
  · rw [Nat.min_eq_left (by omega), Nat.min_eq_left (by omega), Nat.add_sub_cancel_left]
  · rw [show min n xs.length = xs.length by omega, List.drop_of_length_le (Nat.le_refl _), List.drop_of_length_le (by omega)]
    simp
theorem cutV_last (xs : List V) : cutV xs none (some (-1)) = xs.dropLast := by
  unfold cutV
  have e : HT.sIx xs.length xs.length (some (-1)) = xs.length - 1 := by
    show (if (-1 : Int) < 0 then ((-1 : Int) + (xs.length : Int)).toNat else min (-1 : Int).toNat xs.length) = _
    rw [if_pos (by decide)]
    omega
  rw [HT.sIx_none, e, List.drop_zero, Nat.sub_zero, List.dropLast_eq_take]
theorem cutS_to (z : Str) (n : Nat) : cutS z none (some (n : Int)) = ⟨(z.cps.toList.take n).toArray⟩ := by
  have h : z.cps.toList.length = z.length := rfl
  unfold cutS
  rw [HT.sIx_none, HT.sIx_nat, List.drop_zero, Nat.sub_zero]
  congr 2
  rw [List.take_eq_take_iff]
  omega
theorem cutS_from (z : Str) (n : Nat) : cutS z (some (n : Int)) none = ⟨(z.cps.toList.drop n).toArray⟩ := by
  have e : z.cps.toList.length = z.length := rfl
  unfold cutS
  rw [HT.sIx_none, HT.sIx_nat]
  by_cases h : n ≤ z.length
  · rw [Nat.min_eq_left h, List.take_of_length_le (by rw [List.length_drop]; omega)]
  · rw [Nat.min_eq_right (by omega), List.drop_of_length_le (by omega), List.drop_of_length_le (by omega)]
    simp
/-! ### a text times a number; texts told by repr -/
def rMulS : R2 := fun x y H Q => ∃ z k, x = .str z ∧ y = .int k ∧ MulOk z k ∧ Q (.str (Txt.mul z k)) H
theorem op_mulS {X : Cx} : OpR X (binaryOp .Mult) rMulS := by
  intro pins s σ H x y v u Q I rx ry h
  obtain ⟨i, j, rfl, rfl, hz, q⟩ := h
  obtain ⟨t, rfl⟩ := rx
  obtain ⟨t', rfl⟩ := ry
  exact PySem.SB.mul hz (fun t' tk => ⟨.str (Txt.mul i j), H, I.tok _, ⟨_, rfl⟩, q⟩)
theorem repr_char (q c : Nat) (hq : q < 1114112) (h : c < 1114112) : ∀ d ∈ Builtin.Str.reprChar q c, d < 1114112 := by
  have hx : ∀ w d, d ∈ List.replicate (w - ((Nat.toDigits 16 c).map Char.toNat).length) 48 ++ (Nat.toDigits 16 c).map Char.toNat → d < 1114112 := fun w d hd => by
    rcases List.mem_append.mp hd with hd | hd
    · rw [List.eq_of_mem_replicate hd]
      decide
    · obtain ⟨k, _, rfl⟩ := List.mem_map.mp hd
      rcases k.valid with h | ⟨_, h⟩
      · exact Nat.lt_trans h (by decide)
      · exact h
  intro d hd
  unfold Builtin.Str.reprChar at hd
  dsimp only at hd
  repeat' split at hd
  all_goals first
    | (rcases List.mem_append.mp hd with z | z
       · rcases List.mem_cons.mp z with rfl | z
         · decide
         · rw [List.mem_singleton.mp z]; decide
       · exact hx _ _ z)
    | (rcases List.mem_cons.mp hd with rfl | z
       · decide
       · rw [List.mem_singleton.mp z]; first | decide | exact h)
    | (rw [List.mem_singleton.mp hd]; exact h)
theorem fold_repr (q : Nat) (hq : q < 1114112) : ∀ (l : List Nat) (acc : Array Nat), (∀ c ∈ l, c < 1114112) → (∀ c ∈ acc.toList, c < 1114112) → ∀ c ∈ (l.foldl (fun out c => out ++ (Builtin.Str.reprChar q c).toArray) acc).toList, c < 1114112
  | [], _, _, h => h
  | d :: r, acc, hl, h => by
    refine fold_repr q hq r _ (fun c hc => hl c (List.mem_cons_of_mem _ hc)) fun c hc => ?_
    rw [Array.toList_append] at hc
    rcases List.mem_append.mp hc with z | z
    · exact h c z
    · exact repr_char q d hq (hl d (List.mem_cons_self ..)) c z
theorem okt_repr {z : Str} (h : PyData.strOk z = true) : PyData.strOk (PyData.shown (.str z)) = true := by
  simp only [PyData.shown]
  rw [okt_iff] at h ⊢
  have hq : reprQuote z < 1114112 := by
    unfold reprQuote
    split <;> decide
  intro c hc
  unfold reprText at hc
  rw [Array.toList_push, ← Array.foldl_toList] at hc
  rcases List.mem_append.mp hc with w | w
  · refine fold_repr _ hq _ _ h (fun c hc => ?_) c w
    rw [List.mem_singleton.mp hc]
    exact hq
  · rw [List.mem_singleton.mp w]
    exact hq
theorem tld_str {K : PySem.W.Frag} {H : Hp} {z : Str} (h : PyData.strOk z = true) (l : z.length ≤ 9000) : Tld K H (.str z) (.str z) := by
  refine ⟨okt_repr h, fun _ _ => dq_of (.str _) (by simp only [Shw]; exact asc_okt h) ?_ ?_⟩
  · simp only [PyData.depth]
    decide
  · simp only [cost]
    exact small (by omega)
theorem kDicS' {K : PySem.W.Frag} : PySem.W.kitOne K (.type "dict") (.type "str") = some false := kit_ty (by decide +kernel)
end LL

set_option linter.all false
set_option maxRecDepth 100000
/-! M75: sealed rows, as lists of signs. -/
namespace K75
open PySem
/-- the check of a record, from c on -/
def chkF (c : Nat) (l : List Nat) : Nat := l.foldl (fun c x => (31 * c + x) % 1000003) c
def chk (l : List Nat) : Nat := chkF 7 l
abbrev dg (n : Nat) : List Nat := TL.numL n
/-- a sealed row -/
def row (r : List Nat) : List Nat := dg r.length ++ 32 :: (dg (chk r) ++ 32 :: (r ++ [10]))
theorem dg32 (n : Nat) : 32 ∉ dg n := TL.numL_free (.inl (by decide))
theorem dg10 (n : Nat) : 10 ∉ dg n := TL.numL_free (.inl (by decide))
theorem dg_len : ∀ (n m : Nat), m ≤ n → (dg m).length ≤ (dg n).length := by
  intro n
  induction n using Nat.strongRecOn with
  | _ n ih =>
    intro m h
    by_cases hm : m < 10
    · rw [show dg m = _ from TL.numL_lt hm]
      exact List.length_pos_iff.mpr (TL.numL_ne n)
    · rw [show dg m = _ from TL.numL_step (by omega), show dg n = _ from TL.numL_step (by omega), List.length_append, List.length_append]
      have := ih (n / 10) (by omega) (m / 10) (by omega)
      show (dg (m / 10)).length + 1 ≤ (dg (n / 10)).length + 1
      omega
/-- what stands ahead of the first s is one's own -/
theorem cut_inj {s : Nat} : ∀ {a b x y : List Nat}, s ∉ a → s ∉ b → a ++ s :: x = b ++ s :: y → a = b ∧ x = y
  | [], [], _, _, _, _, h => ⟨rfl, (List.cons.inj h).2⟩
  | [], c :: b, _, _, _, hb, h => absurd (List.mem_cons.mpr (.inl (List.cons.inj h).1)) hb
  | c :: a, [], _, _, ha, _, h => absurd (List.mem_cons.mpr (.inl (List.cons.inj h).1.symm)) ha
  | c :: a, d :: b, x, y, ha, hb, h => by
    obtain ⟨h1, h2⟩ := List.cons.inj h
    obtain ⟨e1, e2⟩ := cut_inj (fun z => ha (List.mem_cons_of_mem _ z)) (fun z => hb (List.mem_cons_of_mem _ z)) h2
    exact ⟨by rw [h1, e1], e2⟩
/-! ### the check -/
theorem chkF_lt {c : Nat} (h : c < 1000003) : ∀ l : List Nat, chkF c l < 1000003
  | [] => h
  | x :: l => chkF_lt (c := (31 * c + x) % 1000003) (Nat.mod_lt _ (by decide)) l
theorem chkF_inj : ∀ (l : List Nat) {c d : Nat}, c < 1000003 → d < 1000003 → chkF c l = chkF d l → c = d
  | [], _, _, _, _, h => h
  | x :: l, c, d, hc, hd, h => by
    have e := chkF_inj l (c := (31 * c + x) % 1000003) (d := (31 * d + x) % 1000003) (Nat.mod_lt _ (by decide)) (Nat.mod_lt _ (by decide)) h
    omega
theorem chkF_set : ∀ (l : List Nat) (j s c : Nat), c < 1000003 → (h : j < l.length) → s < 1000003 → l[j] < 1000003 → chkF c (l.set j s) = chkF c l → s = l[j]
  | [], j, _, _, _, h, _, _, _ => absurd h (Nat.not_lt_zero j)
  | x :: l, 0, s, c, hc, _, hs, hx, e => by
    have e' : chkF ((31 * c + s) % 1000003) l = chkF ((31 * c + x) % 1000003) l := e
    have q := chkF_inj l (Nat.mod_lt _ (by decide)) (Nat.mod_lt _ (by decide)) e'
    have hx' : x < 1000003 := hx
    show s = x
    omega
  | x :: l, j + 1, s, c, hc, h, hs, hx, e => chkF_set l j s ((31 * c + x) % 1000003) (Nat.mod_lt _ (by decide)) (Nat.lt_of_succ_lt_succ h) hs hx e
/-! ### a row with another sign is none -/
theorem set_mem_not {l : List Nat} {j s t : Nat} (h : t ∉ l) (ne : s ≠ t) : t ∉ l.set j s := fun z => by
  rcases List.mem_or_eq_of_mem_set z with e | e
  · exact h e
  · exact ne e.symm
theorem set_eq_take {l : List Nat} {j s : Nat} (h : j < l.length) : l.set j s = l.take j ++ s :: l.drop (j + 1) := List.set_eq_take_append_cons_drop.trans (if_pos h)
theorem set_self_eq {l : List Nat} {j s : Nat} (h : j < l.length) (e : l.set j s = l) : s = l[j] := by
  have := List.getElem_set_self (l := l) (i := j) (a := s) (by simpa using h)
  simp only [e] at this
  exact this.symm
theorem no_row {rec r rest tail l1 : List Nat} {i s : Nat} (h10 : 10 ∉ rec) (hlt : ∀ c ∈ rec, c < 1000) (hs : s < 1000) (hi : i < (row rec).length) (hne : s ≠ (row rec)[i]) (h1 : 10 ∉ l1) (hp : (row rec).set i s ++ rest = l1 ++ 10 :: tail) (hr : row r = l1 ++ [10]) : False := by
  have el : l1 = dg r.length ++ 32 :: (dg (chk r) ++ 32 :: r) := by
    have e : l1 ++ [10] = (dg r.length ++ 32 :: (dg (chk r) ++ 32 :: r)) ++ [10] := by
      rw [← hr]
      unfold row
      simp
    exact (List.append_inj' e rfl).1
  have r10 : 10 ∉ r := fun z => h1 (by rw [el]; simp [z])
  have l32 : 32 ∈ l1 := by
    rw [el]
    simp
  have a32 := dg32 rec.length
  have b32 := dg32 (chk rec)
  have a10 := dg10 rec.length
  have b10 := dg10 (chk rec)
  have a32' := dg32 r.length
  have b32' := dg32 (chk r)
  have lenR : (dg r.length).length ≤ (dg rec.length).length ∨ rec.length < r.length := by
    by_cases c : r.length ≤ rec.length
    · exact .inl (dg_len _ _ c)
    · exact .inr (by omega)
  have lenM : rec.length ≤ r.length → (dg rec.length).length ≤ (dg r.length).length := fun c => dg_len _ _ c
  have injA : dg r.length = dg rec.length → r.length = rec.length := fun e => TL.numL_inj e
  have injB : dg (chk r) = dg (chk rec) → chk r = chk rec := fun e => TL.numL_inj e
  have hp2 : (row rec).set i s ++ rest = dg r.length ++ 32 :: (dg (chk r) ++ 32 :: (r ++ 10 :: tail)) := by
    rw [hp, el]
    simp
  unfold row at hp hp2 hi hne
  generalize eA : dg rec.length = A at *
  generalize eB : dg (chk rec) = B at *
  generalize eA' : dg r.length = A' at *
  generalize eB' : dg (chk r) = B' at *
  have ne' : (A ++ 32 :: (B ++ 32 :: (rec ++ [10])))[i]? = some ((A ++ 32 :: (B ++ 32 :: (rec ++ [10])))[i]) := List.getElem?_eq_getElem hi
  by_cases c1 : i < A.length
  · -- in the length
    have lhs : (A ++ 32 :: (B ++ 32 :: (rec ++ [10]))).set i s = A.set i s ++ 32 :: (B ++ 32 :: (rec ++ [10])) := by rw [List.set_append, if_pos c1]
    rw [lhs] at hp hp2
    have hA : s ≠ A[i] := fun z => hne (by rw [List.getElem_append_left c1]; exact z)
    by_cases z10 : s = 10
    · subst z10
      rw [set_eq_take c1] at hp
      have e : A.take i ++ 10 :: (A.drop (i + 1) ++ 32 :: (B ++ 32 :: (rec ++ [10])) ++ rest) = l1 ++ 10 :: tail := by
        rw [← hp]
        simp
      obtain ⟨e1, _⟩ := cut_inj (fun z => a10 (List.mem_of_mem_take z)) h1 e
      exact a32 (List.mem_of_mem_take (e1 ▸ l32))
    by_cases z32 : s = 32
    · subst z32
      rw [set_eq_take c1] at hp2
      have e : A.take i ++ 32 :: (A.drop (i + 1) ++ 32 :: (B ++ 32 :: (rec ++ 10 :: rest))) = A' ++ 32 :: (B' ++ 32 :: (r ++ 10 :: tail)) := by
        rw [← hp2]
        simp
      obtain ⟨e1, e2⟩ := cut_inj (fun z => a32 (List.mem_of_mem_take z)) a32' e
      obtain ⟨_, e3⟩ := cut_inj (fun z => a32 (List.mem_of_mem_drop z)) b32' e2
      have e4 : (B ++ 32 :: rec) ++ 10 :: rest = r ++ 10 :: tail := by
        rw [← e3]
        simp
      obtain ⟨e5, _⟩ := cut_inj (by simp [b10, h10]) r10 e4
      have lr : r.length = B.length + 1 + rec.length := by
        rw [← e5, List.length_append, List.length_cons]
        omega
      have := lenM (by omega)
      have l2 := congrArg List.length e1
      rw [List.length_take] at l2
      omega
    · have e : A.set i s ++ 32 :: (B ++ 32 :: (rec ++ 10 :: rest)) = A' ++ 32 :: (B' ++ 32 :: (r ++ 10 :: tail)) := by
        rw [← hp2]
        simp
      obtain ⟨e1, e2⟩ := cut_inj (set_mem_not a32 z32) a32' e
      obtain ⟨_, e3⟩ := cut_inj b32 b32' e2
      obtain ⟨e4, _⟩ := cut_inj h10 r10 e3
      subst e4
      rw [eA] at eA'
      rw [← eA'] at e1
      exact hA (set_self_eq c1 e1)
  by_cases c2 : i = A.length
  · subst c2
    have hs32 : s ≠ 32 := fun z => hne (by simp [z])
    have lhs : (A ++ 32 :: (B ++ 32 :: (rec ++ [10]))).set A.length s = A ++ s :: (B ++ 32 :: (rec ++ [10])) := by
      rw [List.set_append, if_neg (by omega), Nat.sub_self]
      rfl
    rw [lhs] at hp hp2
    by_cases z10 : s = 10
    · subst z10
      have e : A ++ 10 :: (B ++ 32 :: (rec ++ [10]) ++ rest) = l1 ++ 10 :: tail := by
        rw [← hp]
        simp
      obtain ⟨e1, _⟩ := cut_inj a10 h1 e
      exact a32 (e1 ▸ l32)
    · have e : (A ++ s :: B) ++ 32 :: (rec ++ 10 :: rest) = A' ++ 32 :: (B' ++ 32 :: (r ++ 10 :: tail)) := by
        rw [← hp2]
        simp
      obtain ⟨e1, e2⟩ := cut_inj (by simp [a32, b32, Ne.symm hs32]) a32' e
      have e3 : rec ++ 10 :: rest = (B' ++ 32 :: r) ++ 10 :: tail := by
        rw [e2]
        simp
      have b10' : 10 ∉ B' := eB' ▸ dg10 _
      obtain ⟨e4, _⟩ := cut_inj h10 (by simp [b10', r10]) e3
      have l2 := congrArg List.length e1
      have l3 := congrArg List.length e4
      rw [List.length_append, List.length_cons] at l2 l3
      omega
  -- behind the first blank
  have lhs1 : (A ++ 32 :: (B ++ 32 :: (rec ++ [10]))).set i s = A ++ 32 :: (B ++ 32 :: (rec ++ [10])).set (i - A.length - 1) s := by
    rw [List.set_append, if_neg (by omega)]
    obtain ⟨k, hk⟩ : ∃ k, i - A.length = k + 1 := ⟨i - A.length - 1, by omega⟩
    rw [hk]
    rfl
  generalize hj : i - A.length - 1 = j at lhs1
  have hij : i = A.length + 1 + j := by omega
  have hne2 : (B ++ 32 :: (rec ++ [10]))[j]? ≠ some s := fun z => by
    apply hne
    have q : (A ++ 32 :: (B ++ 32 :: (rec ++ [10])))[i]? = some s := by
      rw [hij, List.getElem?_append_right (by omega), show A.length + 1 + j - A.length = j + 1 by omega, List.getElem?_cons_succ]
      exact z
    rw [ne'] at q
    exact (Option.some.inj q).symm
  rw [lhs1] at hp2
  have e0 : A ++ 32 :: ((B ++ 32 :: (rec ++ [10])).set j s ++ rest) = A' ++ 32 :: (B' ++ 32 :: (r ++ 10 :: tail)) := by
    rw [← hp2]
    simp
  obtain ⟨eAA, e0⟩ := cut_inj a32 a32' e0
  have lrr : r.length = rec.length := injA eAA.symm
  by_cases c3 : j < B.length
  · have lhs : (B ++ 32 :: (rec ++ [10])).set j s = B.set j s ++ 32 :: (rec ++ [10]) := by rw [List.set_append, if_pos c3]
    rw [lhs] at e0
    have hB : s ≠ B[j] := fun z => hne2 (by rw [List.getElem?_append_left c3, List.getElem?_eq_getElem c3, z])
    by_cases z10 : s = 10
    · subst z10
      rw [set_eq_take c3] at e0
      have b10' : 10 ∉ B' := eB' ▸ dg10 _
      have e : B.take j ++ 10 :: (B.drop (j + 1) ++ 32 :: (rec ++ [10]) ++ rest) = (B' ++ 32 :: r) ++ 10 :: tail := by
        rw [show (B' ++ 32 :: r) ++ 10 :: tail = B' ++ 32 :: (r ++ 10 :: tail) by simp, ← e0]
        simp
      obtain ⟨e1, _⟩ := cut_inj (fun z => b10 (List.mem_of_mem_take z)) (by simp [b10', r10]) e
      exact b32 (List.mem_of_mem_take (i := j) (by rw [e1]; simp))
    by_cases z32 : s = 32
    · subst z32
      rw [set_eq_take c3] at e0
      have e : B.take j ++ 32 :: (B.drop (j + 1) ++ 32 :: (rec ++ 10 :: rest)) = B' ++ 32 :: (r ++ 10 :: tail) := by
        rw [← e0]
        simp
      obtain ⟨_, e2⟩ := cut_inj (fun z => b32 (List.mem_of_mem_take z)) b32' e
      have e3 : (B.drop (j + 1) ++ 32 :: rec) ++ 10 :: rest = r ++ 10 :: tail := by
        rw [← e2]
        simp
      obtain ⟨e4, _⟩ := cut_inj (by simp only [List.mem_append, List.mem_cons, not_or]; exact ⟨fun z => b10 (List.mem_of_mem_drop z), by decide, h10⟩) r10 e3
      have l3 := congrArg List.length e4
      rw [List.length_append, List.length_cons] at l3
      omega
    · have e : B.set j s ++ 32 :: (rec ++ 10 :: rest) = B' ++ 32 :: (r ++ 10 :: tail) := by
        rw [← e0]
        simp
      obtain ⟨e1, e2⟩ := cut_inj (set_mem_not b32 z32) b32' e
      obtain ⟨e3, _⟩ := cut_inj h10 r10 e2
      subst e3
      rw [eB] at eB'
      rw [← eB'] at e1
      exact hB (set_self_eq c3 e1)
  by_cases c4 : j = B.length
  · subst c4
    have hs32 : s ≠ 32 := fun z => hne2 (by simp [z])
    have lhs : (B ++ 32 :: (rec ++ [10])).set B.length s = B ++ s :: (rec ++ [10]) := by
      rw [List.set_append, if_neg (by omega), Nat.sub_self]
      rfl
    rw [lhs] at e0
    have b10' : 10 ∉ B' := eB' ▸ dg10 _
    by_cases z10 : s = 10
    · subst z10
      have e : B ++ 10 :: (rec ++ [10] ++ rest) = (B' ++ 32 :: r) ++ 10 :: tail := by
        rw [show (B' ++ 32 :: r) ++ 10 :: tail = B' ++ 32 :: (r ++ 10 :: tail) by simp, ← e0]
        simp
      obtain ⟨e1, _⟩ := cut_inj b10 (by simp [b10', r10]) e
      exact b32 (by rw [e1]; simp)
    · have e : (B ++ s :: rec) ++ 10 :: rest = (B' ++ 32 :: r) ++ 10 :: tail := by
        rw [show (B' ++ 32 :: r) ++ 10 :: tail = B' ++ 32 :: (r ++ 10 :: tail) by simp, ← e0]
        simp
      obtain ⟨e1, _⟩ := cut_inj (by simp [b10, h10, Ne.symm z10]) (by simp [b10', r10]) e
      have l3 := congrArg List.length e1
      rw [List.length_append, List.length_append, List.length_cons, List.length_cons] at l3
      obtain ⟨_, e3⟩ := List.append_inj e1 (by omega)
      exact hs32 (List.cons.inj e3).1
  -- behind the second blank
  have lhs2 : (B ++ 32 :: (rec ++ [10])).set j s = B ++ 32 :: (rec ++ [10]).set (j - B.length - 1) s := by
    rw [List.set_append, if_neg (by omega)]
    obtain ⟨k, hk⟩ : ∃ k, j - B.length = k + 1 := ⟨j - B.length - 1, by omega⟩
    rw [hk]
    rfl
  generalize hm : j - B.length - 1 = m at lhs2
  have hjm : j = B.length + 1 + m := by omega
  have hne3 : (rec ++ [10])[m]? ≠ some s := fun z => hne2 (by
    rw [hjm, List.getElem?_append_right (by omega), show B.length + 1 + m - B.length = m + 1 by omega, List.getElem?_cons_succ]
    exact z)
  rw [lhs2] at e0
  have e1 : B ++ 32 :: ((rec ++ [10]).set m s ++ rest) = B' ++ 32 :: (r ++ 10 :: tail) := by
    rw [← e0]
    simp
  obtain ⟨eBB, e1⟩ := cut_inj b32 b32' e1
  have cc := injB eBB.symm
  by_cases c5 : m < rec.length
  · rw [List.set_append, if_pos c5] at e1
    have hR : s ≠ rec[m] := fun z => hne3 (by rw [List.getElem?_append_left c5, List.getElem?_eq_getElem c5, z])
    by_cases z10 : s = 10
    · subst z10
      rw [set_eq_take c5] at e1
      have e : rec.take m ++ 10 :: (rec.drop (m + 1) ++ [10] ++ rest) = r ++ 10 :: tail := by
        rw [← e1]
        simp
      obtain ⟨e2, _⟩ := cut_inj (fun z => h10 (List.mem_of_mem_take z)) r10 e
      have l2 := congrArg List.length e2
      rw [List.length_take] at l2
      omega
    · have e : rec.set m s ++ 10 :: rest = r ++ 10 :: tail := by
        rw [← e1]
        simp
      obtain ⟨e2, _⟩ := cut_inj (set_mem_not h10 z10) r10 e
      subst e2
      exact hR (chkF_set rec m s 7 (by decide) c5 (by omega) (by have := hlt _ (List.getElem_mem c5); omega) cc)
  · have hm2 : m = rec.length := by
      have hl : i < (A ++ 32 :: (B ++ 32 :: (rec ++ [10]))).length := hi
      simp only [List.length_append, List.length_cons, List.length_nil] at hl
      omega
    subst hm2
    have hs10 : s ≠ 10 := fun z => hne3 (by simp [z])
    have lhs3 : (rec ++ [10]).set rec.length s = rec ++ [s] := by
      rw [List.set_append, if_neg (by omega), Nat.sub_self]
      rfl
    rw [lhs3] at e1
    have e : rec ++ s :: rest = r ++ 10 :: tail := by
      rw [← e1]
      simp
    obtain ⟨_, e3⟩ := List.append_inj e lrr.symm
    exact hs10 (List.cons.inj e3).1
end K75

set_option linter.all false
set_option maxRecDepth 100000
/-! M75b: lines, whole records; what split, index and partition tell of them. -/
namespace K75
open PySem PySem.StrLaws PySem.Builtin.Str
/-- behind the first blank -/
def aft : List Nat → List Nat
  | [] => []
  | c :: r => if c = 32 then r else aft r
theorem aft_app : ∀ {a x : List Nat}, 32 ∉ a → aft (a ++ 32 :: x) = x
  | [], _, _ => if_pos rfl
  | c :: a, x, h => by
    show (if c = 32 then a ++ 32 :: x else aft (a ++ 32 :: x)) = x
    rw [if_neg (fun z => h (List.mem_cons.mpr (.inl z.symm)))]
    exact aft_app fun z => h (List.mem_cons_of_mem _ z)
theorem aft_no : ∀ {a : List Nat}, 32 ∉ a → aft a = []
  | [], _ => rfl
  | c :: a, h => by
    show (if c = 32 then a else aft a) = []
    rw [if_neg (fun z => h (List.mem_cons.mpr (.inl z.symm)))]
    exact aft_no fun z => h (List.mem_cons_of_mem _ z)
def cand (l : List Nat) : List Nat := aft (aft l)
theorem row_line {r l : List Nat} (h : row r = l ++ [10]) : l = dg r.length ++ 32 :: (dg (chk r) ++ 32 :: r) := by
  have e : l ++ [10] = (dg r.length ++ 32 :: (dg (chk r) ++ 32 :: r)) ++ [10] := by
    rw [← h]
    unfold row
    simp
  exact (List.append_inj' e rfl).1
theorem cand_row {r l : List Nat} (h : row r = l ++ [10]) : cand l = r := by
  rw [row_line h]
  unfold cand
  rw [aft_app (dg32 _), aft_app (dg32 _)]
/-- the record in a line -/
def rin (l : List Nat) : Option (List Nat) := if row (cand l) = l ++ [10] then some (cand l) else none
theorem rin_some {r l : List Nat} (h : row r = l ++ [10]) : rin l = some r := by
  unfold rin
  rw [cand_row h, if_pos h]
theorem rin_none {l : List Nat} (h : ∀ r, row r ≠ l ++ [10]) : rin l = none := if_neg (h _)
theorem rin_of {r l : List Nat} (h : rin l = some r) : row r = l ++ [10] := by
  unfold rin at h
  split at h
  · rename_i c
    cases h
    exact c
  · cases h
/-- a line of fewer than two blanks holds none -/
theorem rin_few {l : List Nat} (h : 32 ∉ aft l ∨ 32 ∉ l) : rin l = none := by
  refine rin_none fun r e => ?_
  have el := row_line e
  rcases h with h | h
  · apply h
    rw [el, aft_app (dg32 _)]
    simp
  · apply h
    rw [el]
    simp
/-! ### lines -/
def lin (t : List Nat) : List (List Nat) := TL.spl [10] 0 [] t
theorem lin_app {l t : List Nat} (h : 10 ∉ l) : lin (l ++ 10 :: t) = l :: lin t := by
  have := TL.spl_part1 (s := 10) (S := []) (p := l) (rest := t) (acc := []) h
  simpa [lin] using this
theorem lin_one {l : List Nat} (h : 10 ∉ l) : lin l = [l] := by
  have := TL.spl_last1 (s := 10) (S := []) (p := l) (acc := []) h
  simpa [lin] using this
/-- a text is cut at its first s, or has none -/
theorem cut_cases (s : Nat) (t : List Nat) : s ∉ t ∨ ∃ l r, s ∉ l ∧ t = l ++ s :: r := by
  induction t with
  | nil => exact .inl (by simp)
  | cons c t ih =>
    by_cases h : c = s
    · exact .inr ⟨[], t, by simp, by rw [h]; rfl⟩
    · rcases ih with ih | ⟨l, r, hl, rfl⟩
      · exact .inl (by simp [ih, Ne.symm h])
      · exact .inr ⟨c :: l, r, by simp [hl, Ne.symm h], rfl⟩
theorem line_cases (t : List Nat) : 10 ∉ t ∨ ∃ l r, 10 ∉ l ∧ t = l ++ 10 :: r := cut_cases 10 t
theorem lin_ne (t : List Nat) : lin t ≠ [] := by
  rcases line_cases t with h | ⟨l, r, hl, rfl⟩
  · rw [lin_one h]
    simp
  · rw [lin_app hl]
    simp
def wh : List (List Nat) → List (List Nat)
  | [] => []
  | l :: ls => match rin l with
    | some r => r :: wh ls
    | none => []
/-- the whole records of a text -/
def whole (t : List Nat) : List (List Nat) := wh (lin t).dropLast
theorem whole_no {t : List Nat} (h : 10 ∉ t) : whole t = [] := by
  unfold whole
  rw [lin_one h]
  rfl
theorem whole_line {l t : List Nat} (h : 10 ∉ l) : whole (l ++ 10 :: t) = match rin l with | some r => r :: whole t | none => [] := by
  unfold whole
  rw [lin_app h]
  obtain ⟨a, as, e⟩ : ∃ a as, lin t = a :: as := by
    cases q : lin t with
    | nil => exact absurd q (lin_ne t)
    | cons a as => exact ⟨a, as, rfl⟩
  rw [e]
  rfl
theorem row_split (r : List Nat) (t : List Nat) : row r ++ t = (dg r.length ++ 32 :: (dg (chk r) ++ 32 :: r)) ++ 10 :: t := by
  unfold row
  simp
theorem row_no {r : List Nat} (h : 10 ∉ r) : 10 ∉ dg r.length ++ 32 :: (dg (chk r) ++ 32 :: r) := by
  simp [dg10, h]
theorem whole_row {r : List Nat} (h : 10 ∉ r) (t : List Nat) : whole (row r ++ t) = r :: whole t := by
  rw [row_split, whole_line (row_no h)]
  have e : rin (dg r.length ++ 32 :: (dg (chk r) ++ 32 :: r)) = some r := rin_some (by unfold row; simp)
  rw [e]
theorem whole_rows : ∀ {rs : List (List Nat)}, (∀ r ∈ rs, 10 ∉ r) → ∀ t, whole (rs.flatMap row ++ t) = rs ++ whole t
  | [], _, t => rfl
  | r :: rs, h, t => by
    rw [List.flatMap_cons, List.append_assoc, whole_row (h r (List.mem_cons_self ..)), whole_rows (fun x hx => h x (List.mem_cons_of_mem _ hx))]
    rfl
theorem whole_all {rs : List (List Nat)} (h : ∀ r ∈ rs, 10 ∉ r) : whole (rs.flatMap row) = rs := by
  have := whole_rows h []
  have e : whole [] = [] := whole_no (by simp)
  rw [List.append_nil, e, List.append_nil] at this
  exact this
/-- a beginning of the rows -/
theorem whole_take : ∀ {rs : List (List Nat)}, (∀ r ∈ rs, 10 ∉ r) → ∀ k, ∃ j, whole ((rs.flatMap row).take k) = rs.take j
  | [], _, k => ⟨0, by simp [whole_no]⟩
  | r :: rs, h, k => by
    rw [List.flatMap_cons]
    by_cases c : k < (row r).length
    · refine ⟨0, ?_⟩
      rw [List.take_append_of_le_length (by omega)]
      refine whole_no fun z => ?_
      have e : row r = (dg r.length ++ 32 :: (dg (chk r) ++ 32 :: r)) ++ [10] := by
        have := row_split r []
        rwa [List.append_nil] at this
      rw [e] at c z
      rw [List.length_append] at c
      have c2 : k ≤ (dg r.length ++ 32 :: (dg (chk r) ++ 32 :: r)).length := by
        have : ([10] : List Nat).length = 1 := rfl
        omega
      rw [List.take_append_of_le_length c2] at z
      exact row_no (h r (List.mem_cons_self ..)) (List.mem_of_mem_take z)
    · obtain ⟨j, e⟩ := whole_take (fun x hx => h x (List.mem_cons_of_mem _ hx)) (k - (row r).length)
      refine ⟨j + 1, ?_⟩
      rw [List.take_append, List.take_of_length_le (by omega), whole_row (h r (List.mem_cons_self ..)), e]
      rfl
/-- one sign exchanged -/
theorem whole_set {rec : List Nat} (h10 : 10 ∉ rec) (hlt : ∀ c ∈ rec, c < 1000) {i s : Nat} (hs : s < 1000) (hi : i < (row rec).length) (hne : s ≠ (row rec)[i]) (rest : List Nat) : whole ((row rec).set i s ++ rest) = [] := by
  rcases line_cases ((row rec).set i s ++ rest) with h | ⟨l, r, hl, e⟩
  · exact whole_no h
  · rw [e, whole_line hl, rin_none fun x hx => no_row h10 hlt hs hi hne hl e hx]
/-! ### texts -/
abbrev tl (x : Str) : List Nat := TL.tl x
/-- the text of these signs -/
def S (l : List Nat) : Str := ⟨l.toArray⟩
theorem tl_S (l : List Nat) : tl (S l) = l := rfl
theorem S_tl (x : Str) : S (tl x) = x := TL.mk_tl x
theorem tl_one (c : Nat) : tl ⟨#[c]⟩ = [c] := rfl
theorem split_lin (x : Str) : (Txt.split x ⟨#[10]⟩).map tl = lin (tl x) := TL.split_spl x ⟨#[10]⟩ (fun z => by cases (show ([10] : List Nat) = [] from z)) (TL.kind_ok (by decide +kernel))
theorem part_aft (x : Str) : tl (Txt.partition x ⟨#[32]⟩).2.2 = aft (tl x) := by
  rcases cut_cases 32 (tl x) with h | ⟨a, b, hn, e⟩
  · rw [TL.partition_none (s := 32) (S := []) rfl h, aft_no h]
    rfl
  · have ex : x = S a ++ ⟨#[32]⟩ ++ S b := TL.ext_tl (by rw [TL.tl_append, TL.tl_append, show TL.tl x = _ from e]; simp [S, TL.tl])
    have := TL.partition_app (y := ⟨#[32]⟩) (s := 32) (S := []) rfl (a := S a) (b := S b) (by simpa [S, TL.tl] using hn)
    rw [← ex] at this
    rw [this, e, aft_app hn]
    rfl
/-! ### occurrences of one sign, at most so many -/
theorem lim_run (s sub : Str) (hi limit lo : Nat) (hw : 1 ≤ sub.length) : ∀ (m cur : Nat) (st : Array Nat × Nat), ChainG s sub hi lo st.fst.toList st.snd → (st.fst.size < limit → ∀ k, st.snd ≤ k → k < cur → ¬ At s sub hi k) → st.fst.size ≤ limit →
    ChainG s sub hi lo (forIn (List.range' cur m) st (occBody s sub hi limit)).run.fst.toList (forIn (List.range' cur m) st (occBody s sub hi limit)).run.snd ∧ (forIn (List.range' cur m) st (occBody s sub hi limit)).run.fst.size ≤ limit ∧
    ((forIn (List.range' cur m) st (occBody s sub hi limit)).run.fst.size < limit → ∀ k, (forIn (List.range' cur m) st (occBody s sub hi limit)).run.snd ≤ k → k < cur + m → ¬ At s sub hi k)
  | 0, cur, st, h, hn, hl => ⟨h, hl, hn⟩
  | m + 1, cur, st, h, hn, hl => by
    rw [List.range'_succ, List.forIn_cons]
    unfold occBody
    rw [show cur + (m + 1) = (cur + 1) + m by omega]
    split
    · rename_i hc
      refine lim_run s sub hi limit lo hw m (cur + 1) _ ?_ ?_ ?_
      · show ChainG s sub hi lo (st.fst.push cur).toList (cur + sub.length)
        rw [Array.toList_push]
        exact chainG_snoc h hc.1.1.2 ⟨hc.1.2, hc.2⟩ (hn hc.1.1.1)
      · intro _ k h1 h2
        have h3 : cur + sub.length ≤ k := h1
        omega
      · show (st.fst.push cur).size ≤ limit
        rw [Array.size_push]
        exact hc.1.1.1
    · rename_i hc
      refine lim_run s sub hi limit lo hw m (cur + 1) _ h (fun hz k h1 h2 hA => ?_) hl
      by_cases hk : k < cur
      · exact hn hz k h1 hk hA
      · have ek : k = cur := by omega
        subst ek
        exact hc ⟨⟨⟨hz, h1⟩, hA.1⟩, hA.2⟩
theorem lim_tight (x y : Str) (limit : Nat) (hw : 1 ≤ y.length) : ∃ f, ChainG x y x.length 0 (occurrences x y 0 x.length limit) f ∧ (occurrences x y 0 x.length limit).length ≤ limit ∧ ((occurrences x y 0 x.length limit).length < limit → ∀ k, f ≤ k → ¬ At x y x.length k) := by
  rw [occ_eq]
  have key := lim_run x y x.length limit 0 hw (x.length + 1 - 0) 0 ((#[] : Array Nat), 0) rfl (fun _ k _ h => by omega) (by simp)
  refine ⟨_, key.1, key.2.1, fun hl k hk hA => ?_⟩
  exact key.2.2 hl k hk (by have := hA.1; omega) hA
theorem at_one {x : Str} {c i : Nat} : At x ⟨#[c]⟩ x.length i ↔ (tl x)[i]? = some c := subAt_one x c i
theorem free_take {l : List Nat} {c i : Nat} (h : ∀ k, k < i → l[k]? ≠ some c) : c ∉ l.take i := fun z => by
  obtain ⟨k, hk, e⟩ := List.mem_iff_getElem.mp z
  rw [List.length_take] at hk
  refine h k (by omega) ?_
  rw [List.getElem_take] at e
  rw [List.getElem?_eq_getElem (by omega), e]
/-- x.index(c) -/
theorem index_one {x : Str} {c : Nat} {l r : List Nat} (h : c ∉ l) (e : tl x = l ++ c :: r) : ∃ rest, occurrences x ⟨#[c]⟩ 0 x.length 1 = l.length :: rest := by
  obtain ⟨f, ch, len, no⟩ := lim_tight x ⟨#[c]⟩ 1 (Nat.le_refl 1)
  have hit : (tl x)[l.length]? = some c := by rw [e]; simp
  cases q : occurrences x ⟨#[c]⟩ 0 x.length 1 with
  | nil =>
    rw [q] at ch no
    have ef : f = 0 := ch
    exact absurd (at_one.mpr hit) (no (by decide) l.length (by omega))
  | cons i rest =>
    rw [q] at ch
    obtain ⟨_, h2, h3, _⟩ := ch
    refine ⟨rest, ?_⟩
    congr 1
    have h2 := at_one.mp h2
    rcases Nat.lt_trichotomy i l.length with z | z | z
    · rw [e, List.getElem?_append_left z] at h2
      exact absurd (List.mem_of_getElem? h2) h
    · exact z
    · exact absurd (at_one.mpr hit) (h3 l.length (by omega) z)
/-- x.split(' ', 2) -/
theorem split_two (x : Str) (hx : 1 ≤ x.length) : (∃ ws, Txt.splitMax x ⟨#[32]⟩ 2 = ws ∧ ws.length < 3 ∧ rin (tl x) = none) ∨ ∃ a b c, Txt.splitMax x ⟨#[32]⟩ 2 = [a, b, c] ∧ tl c = cand (tl x) := by
  have lx := TL.len_tl x
  obtain ⟨f, ch, len, no⟩ := lim_tight x ⟨#[32]⟩ 2 (by decide)
  have lim : Txt.splitMax x ⟨#[32]⟩ 2 = if (occurrences x ⟨#[32]⟩ 0 x.length 2).isEmpty = true then [x] else partsBetween x (occurrences x ⟨#[32]⟩ 0 x.length 2) 1 := by
    unfold Txt.splitMax
    have c1 : (decide (x.length < (⟨#[32]⟩ : Str).length) || decide (strKind x < strKind ⟨#[32]⟩)) = false := by
      rw [Bool.or_eq_false_iff]
      refine ⟨decide_eq_false (by show ¬ x.length < 1; omega), decide_eq_false (TL.kind_ok (by decide +kernel))⟩
    rw [if_neg (by rw [c1]; decide)]
    rfl
  cases q : occurrences x ⟨#[32]⟩ 0 x.length 2 with
  | nil =>
    rw [q] at ch no lim
    have ef : f = 0 := ch
    refine .inl ⟨_, lim, (by show 1 < 3; decide), rin_few (.inr fun z => ?_)⟩
    obtain ⟨k, hk, e⟩ := List.mem_iff_getElem.mp z
    exact no (by decide) k (by omega) (at_one.mpr (by rw [List.getElem?_eq_getElem hk, e]))
  | cons i rest =>
    rw [q] at ch no len lim
    obtain ⟨_, h2, h3, h4⟩ := ch
    have h2 := at_one.mp h2
    have hi := (List.getElem?_eq_some_iff.mp h2).1
    have e1 : tl x = (tl x).take i ++ 32 :: (tl x).drop (i + 1) := by
      have := List.drop_eq_getElem_cons hi
      rw [List.getElem?_eq_getElem hi] at h2
      rw [Option.some.inj h2] at this
      rw [← this, List.take_append_drop]
    have f1 : 32 ∉ (tl x).take i := free_take fun k hk z => h3 k (Nat.zero_le _) hk (at_one.mpr z)
    have a1 : aft (tl x) = (tl x).drop (i + 1) := by rw [e1, aft_app f1, ← e1]
    rw [partsBetween_eq] at lim
    cases rest with
    | nil =>
      have ef : f = i + 1 := h4
      refine .inl ⟨_, lim, (by show 2 < 3; decide), rin_few (.inl fun z => ?_)⟩
      rw [a1] at z
      obtain ⟨k, hk, e⟩ := List.mem_iff_getElem.mp z
      rw [List.getElem_drop] at e
      rw [List.length_drop] at hk
      exact no (by show 1 < 2; decide) (i + 1 + k) (by omega) (at_one.mpr (by rw [List.getElem?_eq_getElem (by omega), e]))
    | cons j rest =>
      cases rest with
      | cons k r =>
        simp at len
      | nil =>
        obtain ⟨g1, g2, g3, _⟩ := h4
        have g2 := at_one.mp g2
        have hj := (List.getElem?_eq_some_iff.mp g2).1
        have g1' : i + 1 ≤ j := g1
        refine .inr ⟨_, _, _, lim, ?_⟩
        rw [show tl (strSub x (j + 1) x.length) = _ from TL.tl_strSub_end x (j + 1)]
        unfold cand
        rw [a1]
        have e2 : (tl x).drop (i + 1) = ((tl x).drop (i + 1)).take (j - (i + 1)) ++ 32 :: (tl x).drop (j + 1) := by
          have d := List.drop_eq_getElem_cons hj
          rw [List.getElem?_eq_getElem hj] at g2
          rw [Option.some.inj g2] at d
          have dd : (tl x).drop j = ((tl x).drop (i + 1)).drop (j - (i + 1)) := by
            rw [List.drop_drop, show i + 1 + (j - (i + 1)) = j by omega]
          rw [← d, dd, List.take_append_drop]
        rw [e2, aft_app]
        refine free_take fun k hk z => ?_
        rw [List.getElem?_drop] at z
        exact g3 (i + 1 + k) (by show i + 1 ≤ _; omega) (by omega) (at_one.mpr z)
end K75

set_option Elab.async false
set_option linter.all false
set_option maxRecDepth 100000
set_option maxHeartbeats 4000000
/-! P75: the program's seals. -/
namespace K75
open PySem PySem.Spec PyProof.Rows L2 LL
def top (i : Nat) : Stmt := PySem.Challenge.pw_leastlog_k75_sealed_rows.main.body.getD i (.Pass ⟨0, 0, 0, 0⟩)
abbrev s_InvalidRecordinit : Stmt := inClass (top 2) 0
abbrev n_InvalidRecordinit : List Str := ["self", "value"]
theorem sc_InvalidRecordinit : FnScope n_InvalidRecordinit ["self", "value"] (defScope s_InvalidRecordinit) := ⟨rfl, rfl, rfl, by decide +kernel, rfl, by decide +kernel, by decide +kernel⟩
abbrev s_is_record : Stmt := top 9
abbrev n_is_record : List Str := ["value"]
theorem sc_is_record : FnScope n_is_record ["value"] (defScope s_is_record) := ⟨rfl, rfl, rfl, by decide +kernel, rfl, by decide +kernel, by decide +kernel⟩
abbrev s_check_of : Stmt := top 10
abbrev n_check_of : List Str := ["record", "check", "character"]
theorem sc_check_of : FnScope n_check_of ["record"] (defScope s_check_of) := ⟨rfl, rfl, rfl, by decide +kernel, rfl, by decide +kernel, by decide +kernel⟩
abbrev s_sealed : Stmt := top 11
abbrev n_sealed : List Str := ["record"]
theorem sc_sealed : FnScope n_sealed ["record"] (defScope s_sealed) := ⟨rfl, rfl, rfl, by decide +kernel, rfl, by decide +kernel, by decide +kernel⟩
abbrev s_record_in : Stmt := top 12
abbrev n_record_in : List Str := ["line", "length", "space", "rest", "check", "gap", "record"]
theorem sc_record_in : FnScope n_record_in ["line"] (defScope s_record_in) := ⟨rfl, rfl, rfl, by decide +kernel, rfl, by decide +kernel, by decide +kernel⟩
abbrev s_whole_records : Stmt := top 13
abbrev n_whole_records : List Str := ["text", "found", "line", "record"]
theorem sc_whole_records : FnScope n_whole_records ["text"] (defScope s_whole_records) := ⟨rfl, rfl, rfl, by decide +kernel, rfl, by decide +kernel, by decide +kernel⟩
structure Tx (K : PySem.W.Frag) (mg : Str → Option Value) (CE CR : Addr) : Prop where
  g_LeastlogError : mg "LeastlogError" = some (.ref CE)
  g_InvalidRecord : mg "InvalidRecord" = some (.ref CR)
  g_FEED : ∃ t, mg "FEED" = some (.str ⟨#[10]⟩ t)
  g_SPACE : ∃ t, mg "SPACE" = some (.str ⟨#[32]⟩ t)
  g_FIRST_CHECK : ∃ t, mg "FIRST_CHECK" = some (.int 7 t)
  g_FACTOR : ∃ t, mg "FACTOR" = some (.int 31 t)
  g_MODULUS : ∃ t, mg "MODULUS" = some (.int 1000003 t)
  le : LeC K CE
  kRE : PySem.W.kitOne K (.ref CR) (.ref CE) = some true
  xRR : PySem.W.exmOne K (.ref CR) (.ref CR) = some true
  n_isinstance : mg "isinstance" = none
  n_int : mg "int" = none
  n_abs : mg "abs" = none
  n_str : mg "str" = none
  n_repr : mg "repr" = none
  n_range : mg "range" = none
  n_len : mg "len" = none
  n_max : mg "max" = none
  n_min : mg "min" = none
  n_divmod : mg "divmod" = none
  n_all : mg "all" = none
  n_ord : mg "ord" = none
section
variable {P : Program} {w : World} {K : PySem.W.Frag} {mg : Str → Option Value} {base : Heap} {CE CR : Addr} {f : Addr} {fd : FuncData}
abbrev FD (K : PySem.W.Frag) (x qual : Str) (st : Stmt) (dvs : List V) (f : Addr) (fd : FuncData) : Prop := FunD K x qual (defArgs st) (defBody st) (defScope st) dvs [] f fd
theorem ok_rec (T : Tx K mg CE CR) (O : OexC K CR) (nf : PySem.W.findIn K (.ref CR) "value" = some none) (F : FD K "__init__" "InvalidRecord.__init__" s_InvalidRecordinit [] f fd) : FnOk P w K mg base CX0 1 f fd ["self", "value"] (spXI CR "value") := by
  refine F.ok sc_InvalidRecordinit (fun vs H Q E h => ?_) (fun cdv A outer s H vs Q E hr h => ?_)
  · obtain ⟨a, v, rfl, _⟩ := h
    rfl
  · obtain ⟨a, v, rfl, ha, q⟩ := h
    refine ⟨_, PSs.nox (pss_cons (ps_expr (pe_leinit T.le (by rfl) T.g_LeastlogError (pa_cons (pv 0) (pa_cons pe_str pa_nil)))) (pss_one (ps_ost (pv 0) (pv 1)))), ?_⟩
    refine ⟨_, rfl, a, CR, _, rfl, (by show 1 ≤ 1000; decide), O, ha, _, rfl, _, rfl, a, CR, rfl, O, nf, .inl ⟨ha, fun dx hd ne => q dx hd ne⟩⟩
/-! ### is_record -/
def spIs (K : PySem.W.Frag) : Sp := fun vs H Q _ => ∃ v, vs = [v] ∧ ((∃ z : Str, v = .str z ∧ Q (.bl (!decide (10 ∈ tl z))) H) ∨ (NoTxt K H v ∧ Q (.bl false) H))
theorem ok_is_record (T : Tx K mg CE CR) (F : FD K "is_record" "is_record" s_is_record [] f fd) : FnG P w K mg base CX0 1 f fd ["value"] (spIs K) := by
  refine ok0 F sc_is_record (fun vs H Q E h => ?_) (fun cdv A outer s H vs Q E hr h => ?_)
  · obtain ⟨v, rfl, _⟩ := h
    rfl
  · obtain ⟨v, rfl, h⟩ := h
    refine ⟨_, (pss_one (ps_ret (pe_and (pe_callB call_isi (by rfl) T.n_isinstance (by decide +kernel) (pa_cons (pv 0) (pa_cons (pe_bltn (v := .ty "str") (by rfl) T.n_str (by decide +kernel) rfl) pa_nil))) (pe_one (pe_cmpR op_notIn_sign (pe_gS T.g_FEED) (pv 0) (by rfl)))))), ?_⟩
    rcases h with ⟨z, rfl, q⟩ | ⟨⟨t, ty, kt⟩, q⟩
    · exact ⟨_, rfl, _, _, .type "str", _, _, rfl, .ty "str", .base (.str _), kStr, _, rfl, iteT ⟨_, rfl, 10, z, rfl, rfl, q⟩⟩
    · exact ⟨_, rfl, _, _, t, _, _, rfl, .ty "str", ty H (.refl H), kt, _, rfl, iteF q⟩
/-! ### check_of -/
def spChk : Sp := fun vs H Q _ => ∃ z : Str, vs = [.str z] ∧ Q (.int (chk (tl z) : Nat)) H
theorem chk_snoc (c : Nat) (l : List Nat) (x : Nat) : chkF c (l ++ [x]) = (31 * chkF c l + x) % 1000003 := by
  unfold chkF
  rw [List.foldl_append]
  rfl
theorem ok_check_of (T : Tx K mg CE CR) (F : FD K "check_of" "check_of" s_check_of [] f fd) : FnG P w K mg base CX0 1 f fd ["record"] spChk := by
  refine ok0 F sc_check_of (fun vs H Q E h => ?_) (fun cdv A outer s H vs Q E hr h => ?_)
  · obtain ⟨z, rfl, _⟩ := h
    rfl
  · obtain ⟨z, rfl, q⟩ := h
    refine ⟨_, (pss_cons (ps_set (i := 1) sc_check_of.nd rfl (by first | exact Or.inl rfl | exact Or.inr rfl) (pe_gI T.g_FIRST_CHECK))
      (pss_cons (ps_for PassesOwn.never rfl (pi_str (pv 0)) (pg_name (i := 2) sc_check_of.nd rfl (by first | exact Or.inl rfl | exact Or.inr rfl)) (pss_one (ps_set (i := 1) sc_check_of.nd rfl (by first | exact Or.inl rfl | exact Or.inr rfl) (pe_op op_mod (pe_op op_add (pe_op op_mulX (pe_gI T.g_FACTOR) (pv 1)) (pe_callB call_ord (by rfl) T.n_ord (by decide +kernel) (pa_cons (pv 2) pa_nil))) (pe_gI T.g_MODULUS)))))
      (pss_one (ps_ret (pv 1))))), ?_⟩
    refine ⟨_, rfl, z, rfl, ?_⟩
    refine for_it (walk_str (z := z)) (fun i σ H' => H' = H ∧ ∃ v, σ = [some (.str z), some (.int (chkF 7 ((tl z).take i) : Nat)), v]) ⟨rfl, none, rfl⟩ (fun _ _ _ _ _ => trivial) ?_ ?_
    · rintro i x σ H' H2 hi ⟨rfl, v, rfl⟩ ⟨rfl, c, hc, rfl⟩
      have hl := chkF_lt (c := 7) (by decide) ((tl z).take i)
      have hc' : (tl z)[i]? = some c := by rw [← Array.getElem?_toList] at hc; exact hc
      refine ⟨_, rfl, _, _, rfl, rfl, mulx_ok (a := 5) (b := 20) (by decide) (by omega) (by decide), _, rfl, _, rfl, rfl, _, _, rfl, rfl, _, _, rfl, rfl, (show (0 : Int) < 1000003 by decide), ?_⟩
      refine ⟨rfl, some (.str ⟨#[c]⟩), ?_⟩
      rw [List.take_add_one, hc', Option.toList_some, chk_snoc]
      rfl
    · rintro σ H' ⟨rfl, v, rfl⟩
      have e : (tl z).take z.cps.size = tl z := List.take_of_length_le (by show (z.cps.toList).length ≤ _; simp)
      rw [e]
      exact ⟨_, rfl, q⟩
/-! ### sealed -/
theorem tl_app (x y : Str) : tl (x ++ y) = tl x ++ tl y := TL.tl_append x y
theorem tl_num (n : Nat) : tl (Str.ofString (toString ((n : Nat) : Int))) = dg n := TL.tl_num n
theorem chk_lt (l : List Nat) : chk l < 1000003 := chkF_lt (by decide) l
theorem num_len {n : Nat} (h : n < 10 ^ 9) : (Str.ofString (toString ((n : Nat) : Int))).length ≤ 9 := by
  rw [TL.len_tl, TL.tl_num]
  exact TL.numL_len (by decide) h
theorem log_nat {n : Nat} (h : n < 10 ^ 9) : (n : Int).natAbs.log2 < 1920 := log_small (Nat.lt_of_lt_of_le (show (n : Int).natAbs < 10 ^ 9 by omega) (by decide))
/-- what is refused -/
def BadRec (K : PySem.W.Frag) (H : Hp) (v : V) : Prop := (∃ z : Str, v = .str z ∧ 10 ∈ tl z) ∨ NoTxt K H v
def spSealed (K : PySem.W.Frag) (CR : Addr) : Sp := fun vs H Q E => ∃ v, vs = [v] ∧ ((∃ z : Str, v = .str z ∧ 10 ∉ tl z ∧ z.length ≤ 50000 ∧ Q (.str (S (row (tl z)))) H) ∨ (BadRec K H v ∧ Err CR H v E))
theorem row_str (z : Str) : Str.ofString (toString ((z.length : Nat) : Int)) ++ ⟨#[32]⟩ ++ Str.ofString (toString ((chk (tl z) : Nat) : Int)) ++ ⟨#[32]⟩ ++ z ++ ⟨#[10]⟩ = S (row (tl z)) := by
  apply TL.ext_tl
  show tl _ = row (tl z)
  rw [tl_app, tl_app, tl_app, tl_app, tl_app, tl_num, tl_num, tl_one, tl_one, TL.len_tl]
  unfold row
  simp
theorem ok_sealed (T : Tx K mg CE CR) (X_InvalidRecord : Xcl P w K mg base 1 "InvalidRecord" CR "value") (G_is_record : Fnc P w K mg base CX0 1 "is_record" [] (spIs K)) (G_check_of : Fnc P w K mg base CX0 1 "check_of" [] spChk) (F : FD K "sealed" "sealed" s_sealed [] f fd) : FnG P w K mg base (L2.CX P w) 3 f fd ["record"] (spSealed K CR) := by
  refine okX F sc_sealed (fun vs H Q E h => ?_) (fun cdv A outer s H vs Q E hr h => ?_)
  · obtain ⟨v, rfl, _⟩ := h
    rfl
  · obtain ⟨v, rfl, h⟩ := h
    refine ⟨_, (pss_cons (ps_if (pt_not (pt_val (pe_fn G_is_record (hr.mono (by decide)) pass0 (pa_cons (pv 0) pa_nil)))) (pss_one (ps_raiseX X_InvalidRecord (hr.r.mono (by decide)) (takes_of rfl rfl rfl rfl) (pv 0))) pss_nil)
      (pss_one (ps_ret (pe_op op_add_str (pe_op op_add_str (pe_op op_add_str (pe_op op_add_str (pe_op op_add_str (pe_callTy call_str_int (by rfl) T.n_str (by decide +kernel) (pa_cons (pe_callB call_len_str (by rfl) T.n_len (by decide +kernel) (pa_cons (pv 0) pa_nil)) pa_nil)) (pe_gS T.g_SPACE)) (pe_callTy call_str_int (by rfl) T.n_str (by decide +kernel) (pa_cons (pe_fn G_check_of (hr.mono (by decide)) pass0 (pa_cons (pv 0) pa_nil)) pa_nil))) (pe_gS T.g_SPACE)) (pv 0)) (pe_gS T.g_FEED))))), ?_⟩
    rcases h with ⟨z, rfl, hz, lz, q⟩ | ⟨bad, er⟩
    · refine ⟨_, rfl, _, rfl, .inl ⟨z, rfl, _, rfl, iteN (by rw [decide_eq_false hz]; rfl) ?_⟩⟩
      have h1 := chk_lt (tl z)
      have n1 : (Str.ofString (toString ((z.length : Nat) : Int))).length ≤ 9 := num_len (by omega)
      have n2 : (Str.ofString (toString ((chk (tl z) : Nat) : Int))).length ≤ 9 := num_len (by omega)
      have b1 : ((⟨#[32]⟩ : Str)).length = 1 := rfl
      have b2 : ((⟨#[10]⟩ : Str)).length = 1 := rfl
      rw [← row_str] at q
      refine ⟨_, rfl, _, rfl, small (by omega), _, rfl, log_nat (by omega), _, _, rfl, rfl, small (by omega), _, rfl, z, rfl, _, rfl, log_nat (by omega), _, _, rfl, rfl, ?_, _, _, rfl, rfl, ?_, _, rfl, _, _, rfl, rfl, ?_, _, _, rfl, rfl, ?_, q⟩
      · rw [strLen_append]
        exact small (by omega)
      · rw [strLen_append, strLen_append]
        exact small (by omega)
      · rw [strLen_append, strLen_append, strLen_append]
        exact small (by omega)
      · rw [strLen_append, strLen_append, strLen_append, strLen_append]
        exact small (by omega)
    · rcases bad with ⟨z, rfl, hz⟩ | nt
      · exact ⟨_, rfl, _, rfl, .inl ⟨z, rfl, _, rfl, iteY (by rw [decide_eq_true hz]; rfl) ⟨_, rfl, raise_of er.now⟩⟩⟩
      · exact ⟨_, rfl, _, rfl, .inr ⟨nt, _, rfl, iteT ⟨_, rfl, raise_of er.now⟩⟩⟩
/-! ### record_in -/
def optV : Option (List Nat) → V
  | some r => .str (S r)
  | none => .non
theorem mem_aft {x : Nat} : ∀ {l : List Nat}, x ∈ aft l → x ∈ l
  | [], h => h
  | c :: r, h => by
    have h' : x ∈ (if c = 32 then r else aft r) := h
    split at h'
    · exact List.mem_cons_of_mem _ h'
    · exact List.mem_cons_of_mem _ (mem_aft h')
theorem len_aft : ∀ l : List Nat, (aft l).length ≤ l.length
  | [] => Nat.le_refl _
  | c :: r => by
    show (if c = 32 then r else aft r).length ≤ _
    split
    · exact Nat.le_succ _
    · exact Nat.le_trans (len_aft r) (Nat.le_succ _)
def spRin : Sp := fun vs H Q _ => ∃ z : Str, vs = [.str z] ∧ 10 ∉ tl z ∧ z.length ≤ 40000 ∧ ∀ H', Same H H' → Q (optV (rin (tl z))) H'
theorem ok_record_in (T : Tx K mg CE CR) (G_sealed : Fnc P w K mg base (L2.CX P w) 3 "sealed" [] (spSealed K CR)) (F : FD K "record_in" "record_in" s_record_in [] f fd) : FnG P w K mg base CX0 4 f fd ["line"] spRin := by
  refine ok0 F sc_record_in (fun vs H Q E h => ?_) (fun cdv A outer s H vs Q E hr h => ?_)
  · obtain ⟨z, rfl, _⟩ := h
    rfl
  · obtain ⟨z, rfl, hz, lz, q⟩ := h
    refine ⟨_, (pss_cons (ps_asg (pe_partition (pv 0) (pe_gS T.g_SPACE)) (pg_tup rfl (pgs_cons (pg_name (i := 1) sc_record_in.nd rfl (by first | exact Or.inl rfl | exact Or.inr rfl)) (pgs_cons (pg_name (i := 2) sc_record_in.nd rfl (by first | exact Or.inl rfl | exact Or.inr rfl)) (pgs_cons (pg_name (i := 3) sc_record_in.nd rfl (by first | exact Or.inl rfl | exact Or.inr rfl)) pgs_nil)))))
      (pss_cons (ps_asg (pe_partition (pv 3) (pe_gS T.g_SPACE)) (pg_tup rfl (pgs_cons (pg_name (i := 4) sc_record_in.nd rfl (by first | exact Or.inl rfl | exact Or.inr rfl)) (pgs_cons (pg_name (i := 5) sc_record_in.nd rfl (by first | exact Or.inl rfl | exact Or.inr rfl)) (pgs_cons (pg_name (i := 6) sc_record_in.nd rfl (by first | exact Or.inl rfl | exact Or.inr rfl)) pgs_nil)))))
      (pss_one (ps_ret (pe_ifExp (pt_cmpR op_eq (pe_fn G_sealed (hr.mono (by decide)) passF (pa_cons (pv 6) pa_nil)) (pe_op op_add_str (pv 0) (pe_gS T.g_FEED)) (nomark _)) (pv 6) pe_non))))), ?_⟩
    have b1 : (((⟨#[32]⟩ : Str)).length == 0) = false := by decide +kernel
    refine ⟨_, rfl, ⟨_, rfl⟩, z, _, rfl, rfl, b1, small (by omega), fun t nt => ?_⟩
    refine ⟨t, _, rfl, SqT.of upd_same, rfl, _, _, rfl, _, _, rfl, _, _, rfl, rfl, ?_⟩
    have e1 := part_aft z
    generalize Txt.partition z ⟨#[32]⟩ = p1 at *
    have l1 : p1.2.2.length ≤ z.length := by
      rw [TL.len_tl, TL.len_tl, show TL.tl p1.2.2 = _ from e1]
      exact len_aft _
    refine ⟨_, rfl, ⟨_, rfl⟩, p1.2.2, _, rfl, rfl, b1, small (by omega), fun u nu => ?_⟩
    refine ⟨u, _, rfl, SqT.of upd_same, rfl, _, _, rfl, _, _, rfl, _, _, rfl, rfl, ?_⟩
    have e2 := part_aft p1.2.2
    generalize Txt.partition p1.2.2 ⟨#[32]⟩ = p2 at *
    have l2 : p2.2.2.length ≤ p1.2.2.length := by
      rw [TL.len_tl, TL.len_tl, show TL.tl p2.2.2 = _ from e2]
      exact len_aft _
    have e3 : tl p2.2.2 = cand (tl z) := by rw [e2, e1]; rfl
    have h10 : 10 ∉ tl p2.2.2 := fun w => hz (mem_aft (mem_aft (show 10 ∈ aft (aft (tl z)) from (by rw [e3] at w; exact w))))
    refine ⟨_, rfl, _, rfl, .inl ⟨_, rfl, h10, by omega, _, rfl, _, _, rfl, rfl, small (by show z.length + 1 ≤ _; omega), rfl, _, rfl, ?_⟩⟩
    have same := (same_upd (o := .tup [.str p1.1, .str p1.2.1, .str p1.2.2]) nt).trans (same_upd (o := .tup [.str p2.1, .str p2.2.1, .str p2.2.2]) nu)
    have qq := q _ same
    have cmp : (V.str (S (row (tl p2.2.2))) = V.str (z ++ ⟨#[10]⟩)) ↔ row (cand (tl z)) = tl z ++ [10] := by
      rw [e3]
      constructor
      · intro h
        have := congrArg tl (V.str.inj h)
        rw [tl_app, tl_S] at this
        exact this
      · intro h
        rw [h]
        congr 1
        exact TL.ext_tl (by show tl (S _) = tl _; rw [tl_S, tl_app])
    unfold rin at qq
    refine iteB (fun c => ?_) (fun c => ?_)
    · rw [if_pos (cmp.mp (of_decide_eq_true c))] at qq
      refine ⟨_, rfl, ?_⟩
      have e4 : optV (some (cand (tl z))) = V.str p2.2.2 := congrArg V.str (TL.ext_tl e3).symm
      rw [e4] at qq
      exact qq
    · rw [if_neg (fun h => of_decide_eq_false c (cmp.mpr h))] at qq
      exact qq
/-! ### whole_records -/
theorem lin_ok : ∀ (n : Nat) (t : List Nat), t.length ≤ n → (∀ l ∈ lin t, 10 ∉ l ∧ l.length ≤ t.length) ∧ (lin t).length ≤ t.length + 1
  | 0, t, h => by
    have e : t = [] := List.length_eq_zero_iff.mp (by omega)
    subst e
    rw [lin_one (by simp)]
    exact ⟨fun l hl => by rw [List.mem_singleton.mp hl]; simp, by simp⟩
  | n + 1, t, h => by
    rcases line_cases t with c | ⟨l, r, hl, rfl⟩
    · rw [lin_one c]
      exact ⟨fun l hl => by rw [List.mem_singleton.mp hl]; exact ⟨c, Nat.le_refl _⟩, by simp⟩
    · rw [List.length_append, List.length_cons] at h
      obtain ⟨a, b⟩ := lin_ok n r (by omega)
      rw [lin_app hl, List.length_append, List.length_cons]
      refine ⟨fun x hx => ?_, by rw [List.length_cons]; omega⟩
      rcases List.mem_cons.mp hx with rfl | hx
      · exact ⟨hl, by omega⟩
      · exact ⟨(a x hx).1, by have := (a x hx).2; omega⟩
theorem wh_len : ∀ ls : List (List Nat), (wh ls).length ≤ ls.length
  | [] => Nat.le_refl _
  | l :: ls => by
    show (match rin l with | some r => r :: wh ls | none => []).length ≤ _
    have := wh_len ls
    split
    · rw [List.length_cons, List.length_cons]
      omega
    · exact Nat.zero_le _
theorem whole_len (t : List Nat) : (whole t).length ≤ t.length := by
  have h1 := (lin_ok _ t (Nat.le_refl _)).2
  have h2 := wh_len (lin t).dropLast
  rw [List.length_dropLast] at h2
  unfold whole
  omega
abbrev stV (rs : List (List Nat)) : List V := rs.map fun r => .str (S r)
def spWhole (K : PySem.W.Frag) (CR : Addr) : Sp := fun vs H Q E => ∃ v, vs = [v] ∧ ((∃ z : Str, v = .str z ∧ z.length ≤ 40000 ∧ ∀ H' p, Same H H' → H p = none → H' p = some (.lst (stV (whole (tl z)))) → Q (.ref p) H') ∨ (NoTxt K H v ∧ Err CR H v E))
theorem ok_whole (T : Tx K mg CE CR) (X_InvalidRecord : Xcl P w K mg base 1 "InvalidRecord" CR "value") (G_record_in : Fnc P w K mg base CX0 4 "record_in" [] spRin) (F : FD K "whole_records" "whole_records" s_whole_records [] f fd) : FnG P w K mg base (L2.CX P w) 5 f fd ["text"] (spWhole K CR) := by
  refine okX F sc_whole_records (fun vs H Q E h => ?_) (fun cdv A outer s H vs Q E hr h => ?_)
  · obtain ⟨v, rfl, _⟩ := h
    rfl
  · obtain ⟨v, rfl, h⟩ := h
    refine ⟨_, (pss_cons (ps_if (pt_not (pt_val (pe_callB call_isi (by rfl) T.n_isinstance (by decide +kernel) (pa_cons (pv 0) (pa_cons (pe_bltn (v := .ty "str") (by rfl) T.n_str (by decide +kernel) rfl) pa_nil))))) (pss_one (ps_raiseX X_InvalidRecord (hr.r.mono (by decide)) (takes_of rfl rfl rfl rfl) (pv 0))) pss_nil)
      (pss_cons (ps_set (i := 1) sc_whole_records.nd rfl (by first | exact Or.inl rfl | exact Or.inr rfl) (pe_lst pa_nil))
      (pss_cons (ps_for (passes_of rfl) rfl (pi_list (pe_slice sl_list (pe_split (pv 0) (pe_gS T.g_FEED)) po_none (po_some (pe_un un_neg pe_int)))) (pg_name (i := 2) sc_whole_records.nd rfl (by first | exact Or.inl rfl | exact Or.inr rfl)) (pss_cons (ps_set (i := 3) sc_whole_records.nd rfl (by first | exact Or.inl rfl | exact Or.inr rfl) (pe_fn G_record_in (hr.mono (by decide)) pass0 (pa_cons (pv 2) pa_nil)))
      (pss_cons (ps_if (pt_cmpR op_isN (pv 3) pe_non (nomark _)) (pss_one ps_break) pss_nil)
      (pss_one (ps_expr (pe_bm PySem.F.plainAttrs_list PySem.F.slot_list_append PySem.F.type_list_append mt_append (pv 1) (pa_cons (pv 3) pa_nil)))))))
      (pss_one (ps_ret (pv 1)))))), ?_⟩
    rcases h with ⟨z, rfl, lz, q⟩ | ⟨⟨t, ty, kt⟩, er⟩
    · refine ⟨_, rfl, _, _, .type "str", _, _, rfl, .ty "str", .base (.str _), kStr, _, rfl, iteF ?_⟩
      refine ⟨(by show 0 ≤ sizeLine; decide), fun D nD => ?_⟩
      have b1 : (((⟨#[10]⟩ : Str)).length == 0) = false := by decide +kernel
      refine ⟨_, rfl, ⟨_, rfl⟩, z, _, rfl, rfl, b1, small (by omega), fun p1 n1 => ?_⟩
      have nDp : D ≠ p1 := fun e => by rw [← e, upd_same] at n1; cases n1
      refine ⟨_, rfl, _, rfl, p1, _, rfl, SqL.of upd_same, fun p2 n2 => ?_⟩
      rw [cutV_last]
      have eL : (List.map V.str (Txt.split z ⟨#[10]⟩)).dropLast = stV (lin (tl z)).dropLast := by
        rw [← split_lin, ← List.map_dropLast, ← List.map_dropLast, stV, List.map_map]
        refine List.map_congr_left fun x _ => ?_
        show V.str x = V.str (S (tl x))
        rw [S_tl]
      rw [eL]
      have nDp2 : D ≠ p2 := fun e => by rw [← e, upd_ne nDp, upd_same] at n2; cases n2
      obtain ⟨ok, many⟩ := lin_ok _ (tl z) (Nat.le_refl _)
      have lt : (tl z).length = z.length := (TL.len_tl z).symm
      refine ⟨p2, rfl, ⟨_, SqL.of upd_same⟩, ?_⟩
      refine for_list (xs := stV (lin (tl z)).dropLast) (fun i σ H' => Same H H' ∧ H' p2 = some (.lst (stV (lin (tl z)).dropLast)) ∧ ∃ R v w, R.length = i ∧ H' D = some (.lst (stV R)) ∧ whole (tl z) = R ++ wh ((lin (tl z)).dropLast.drop i) ∧ σ = [some (.str z), some (.ref D), v, w]) ?_ ?_ ?_ ?_
      · refine ⟨((same_upd nD).trans (same_upd n1)).trans (same_upd n2), upd_same, [], none, none, rfl, ?_, rfl, rfl⟩
        rw [upd_ne nDp2, upd_ne nDp, upd_same]
        rfl
      · rintro i σ H' _ ⟨_, h2, _⟩
        exact SqL.of h2
      · rintro i x σ H' hx ⟨s1, h2, R, v, w, lR, hD, eR, rfl⟩
        obtain ⟨l, hl, rfl⟩ : ∃ l, (lin (tl z)).dropLast[i]? = some l ∧ x = .str (S l) := by
          rw [List.getElem?_map] at hx
          cases q : (lin (tl z)).dropLast[i]? with
          | none => rw [q] at hx; cases hx
          | some l => rw [q] at hx; exact ⟨l, rfl, (Option.some.inj hx).symm⟩
        obtain ⟨hi, hl'⟩ := List.getElem?_eq_some_iff.mp hl
        have ml : l ∈ lin (tl z) := List.dropLast_subset _ (List.mem_of_getElem? hl)
        have ll : (S l).length = l.length := TL.len_tl (S l)
        have e1 : wh ((lin (tl z)).dropLast.drop i) = match rin l with | some r => r :: wh ((lin (tl z)).dropLast.drop (i + 1)) | none => [] := by
          rw [List.drop_eq_getElem_cons hi, hl']
          rfl
        rw [List.length_dropLast] at hi
        refine ⟨_, rfl, _, rfl, (ok l ml).1, by have := (ok l ml).2; omega, fun H2 s2 => ?_⟩
        rw [tl_S]
        rw [e1] at eR
        cases hr : rin l with
        | none =>
          rw [hr] at eR
          refine ⟨_, rfl, rfl, _, rfl, iteY rfl ?_⟩
          refine ⟨_, rfl, q _ D (s1.trans s2) nD ?_⟩
          rw [eR, List.append_nil]
          exact s2 _ _ hD
        | some r =>
          rw [hr] at eR
          refine ⟨_, rfl, rfl, _, rfl, iteN rfl ?_⟩
          refine ⟨_, rfl, .inl ⟨rfl, _, SqL.of (s2 _ _ hD)⟩, _, rfl, D, _, _, rfl, rfl, s2 _ _ hD, ?_, ?_⟩
          · rw [List.length_map, lR]
            exact Nat.lt_of_lt_of_le (show i < 100000 by omega) (small (Nat.le_refl _))
          · refine ⟨fun b o e => ?_, by rw [upd_ne nDp2.symm]; exact s2 _ _ h2, R ++ [r], some (.str (S l)), some (.str (S r)), by rw [List.length_append, lR]; rfl, ?_, ?_, rfl⟩
            · rw [upd_ne (ne_of_none e nD)]
              exact s2 _ _ (s1 _ _ e)
            · rw [upd_same, stV, stV, List.map_append]
              rfl
            · rw [eR, List.append_assoc]
              rfl
      · rintro σ H' ⟨s1, h2, R, v, w, lR, hD, eR, rfl⟩
        refine ⟨_, rfl, q _ D s1 nD ?_⟩
        rw [stV, List.length_map, List.drop_length, show wh [] = [] from rfl, List.append_nil] at eR
        rw [eR]
        exact hD
    · exact ⟨_, rfl, _, _, t, _, _, rfl, .ty "str", ty H (.refl H), kt, _, rfl, iteT ⟨_, rfl, raise_of er.now⟩⟩
end
end K75

set_option Elab.async false
set_option linter.all false
set_option maxRecDepth 100000
set_option maxHeartbeats 4000000
/-! L75: the law's small helpers. -/
namespace K75
open PySem PySem.Spec PyProof.Rows L2 LL
abbrev s_l_pot : Stmt := top 15
abbrev n_l_pot : List Str := ["_law_script", "_law_k", "_law_cell"]
theorem sc_l_pot : FnScope n_l_pot ["_law_script", "_law_k"] (defScope s_l_pot) := ⟨rfl, rfl, rfl, by decide +kernel, rfl, by decide +kernel, by decide +kernel⟩
abbrev s_l_take : Stmt := top 16
abbrev n_l_take : List Str := ["_law_pot_here", "_law_many", "_law_digit"]
theorem sc_l_take : FnScope n_l_take ["_law_pot_here", "_law_many"] (defScope s_l_take) := ⟨rfl, rfl, rfl, by decide +kernel, rfl, by decide +kernel, by decide +kernel⟩
abbrev s_l_pick : Stmt := top 17
abbrev n_l_pick : List Str := ["_law_pot_here", "_law_some"]
theorem sc_l_pick : FnScope n_l_pick ["_law_pot_here", "_law_some"] (defScope s_l_pick) := ⟨rfl, rfl, rfl, by decide +kernel, rfl, by decide +kernel, by decide +kernel⟩
abbrev s_l_check : Stmt := top 18
abbrev n_l_check : List Str := ["_law_record_here", "_law_check_here", "_law_sign"]
theorem sc_l_check : FnScope n_l_check ["_law_record_here"] (defScope s_l_check) := ⟨rfl, rfl, rfl, by decide +kernel, rfl, by decide +kernel, by decide +kernel⟩
abbrev s_l_row : Stmt := top 19
abbrev n_l_row : List Str := ["_law_record_here"]
theorem sc_l_row : FnScope n_l_row ["_law_record_here"] (defScope s_l_row) := ⟨rfl, rfl, rfl, by decide +kernel, rfl, by decide +kernel, by decide +kernel⟩
abbrev s_l_record : Stmt := top 20
abbrev n_l_record : List Str := ["_law_pot_here", "_law_signs", "_law_many", "_law_k"]
theorem sc_l_record : FnScope n_l_record ["_law_pot_here"] (defScope s_l_record) := ⟨rfl, rfl, rfl, by decide +kernel, rfl, by decide +kernel, by decide +kernel⟩
section
variable {P : Program} {w : World} {K : PySem.W.Frag} {mg : Str → Option Value} {base : Heap} {CE CR : Addr} {f : Addr} {fd : FuncData}
def Pot (x y : Int) : Prop := 0 ≤ x ∧ 0 ≤ y ∧ y < 1099511627776
def PotAt (H : Hp) (p : Addr) : Prop := ∃ x y, H p = some (.lst [.int x, .int y]) ∧ Pot x y
theorem PotAt.ne {H : Hp} {p r : Addr} (h : PotAt H p) (n : H r = none) : r ≠ p := fun z => by
  obtain ⟨x, y, e, _⟩ := h
  rw [z, e] at n
  cases n
theorem PotAt.upd {H : Hp} {p r : Addr} {o : HO} (h : PotAt H p) (n : H r = none) : PotAt (L2.upd H r o) p := by
  obtain ⟨x, y, e, q⟩ := id h
  exact ⟨x, y, by rw [upd_ne (h.ne n).symm]; exact e, q⟩
theorem PotAt.same {H H' : Hp} {p : Addr} (h : PotAt H p) (b : Same H H') : PotAt H' p := let ⟨x, y, e, z⟩ := h; ⟨x, y, b _ _ e, z⟩
theorem PotAt.but {H H' : Hp} {p q : Addr} (h : PotAt H p) (b : But q H H') (n : p ≠ q) : PotAt H' p := let ⟨x, y, e, z⟩ := h; ⟨x, y, b _ _ e n, z⟩
theorem PotAt.kp {H H' : Hp} {p : Addr} (h : PotAt H p) (b : But p H H') : Kp H H' := let ⟨_, _, e, _⟩ := h; b.kp e
/-! ### _law_pot -/
def spPot (K : PySem.W.Frag) : Sp := fun vs H Q _ => ∃ (a : Addr) (ns : List Int) (k : Nat), vs = [.ref a, .int k] ∧ SqL K H a (ns.map V.int) ∧ ns.length ≤ 63 ∧ k < 100 ∧ ∀ H' p, Same H H' → H p = none → PotAt H' p → Q (.ref p) H'
theorem at_map {ns : List Int} {k : Nat} (h : k < ns.length) : atI (ns.map V.int) (k : Int) = some (.int ns[k]) := atI_nat (by rw [List.getElem?_map, List.getElem?_eq_getElem h]; rfl)
theorem ok_l_pot (T : Tx K mg CE CR) (F : FD K "_law_pot" "_law_pot" s_l_pot [] f fd) : FnG P w K mg base CX0 1 f fd ["_law_script", "_law_k"] (spPot K) := by
  refine ok0 F sc_l_pot (fun vs H Q E h => ?_) (fun cdv A outer s H vs Q E hr h => ?_)
  · obtain ⟨a, ns, k, rfl, _⟩ := h
    rfl
  · obtain ⟨a, ns, k, rfl, hS, hl, hk, q⟩ := h
    refine ⟨_, (pss_cons (ps_set (i := 2) sc_l_pot.nd rfl (by first | exact Or.inl rfl | exact Or.inr rfl) (pe_op op_add (pe_op op_mulX pe_int (pv 1)) pe_int))
      (pss_cons (ps_if (pt_cmpR op_lt (pv 1) (pe_callB call_len_seq (by rfl) T.n_len (by decide +kernel) (pa_cons (pv 0) pa_nil)) (nomark _)) (pss_one (ps_set (i := 2) sc_l_pot.nd rfl (by first | exact Or.inl rfl | exact Or.inr rfl) (pe_callB call_abs (by rfl) T.n_abs (by decide +kernel) (pa_cons (pe_ix ix_list (pv 0) (pv 1) (fun _ _ => rfl)) pa_nil)))) pss_nil)
      (pss_one (ps_ret (pe_lst (pa_cons (pe_callB (call_max2 rfl) (by rfl) T.n_max (by decide +kernel) (pa_cons pe_int (pa_cons (pe_op op_sub (pv 2) (pe_op op_pow pe_int pe_int)) pa_nil))) (pa_cons (pe_op op_add (pe_op op_add (pe_op op_mulX (pe_op op_mod (pe_callTy call_int1 (by rfl) T.n_int (by decide +kernel) (pa_cons (pv 2) pa_nil)) pe_int) pe_int) (pe_op op_mulX pe_int (pv 1))) pe_int) pa_nil))))))), ?_⟩
    refine ⟨_, rfl, _, _, rfl, rfl, mulx_ok (a := 4) (b := 7) (by decide) (by omega) (by decide), _, _, rfl, rfl, ?_⟩
    refine nm_of ?_
    dsimp only
    refine seq_cut (fun σ' H' => H' = H ∧ ∃ c : Int, 0 ≤ c ∧ σ' = [some (.ref a), some (.int k), some (.int c)]) (fun N hN => ?_) ?_
    · refine ⟨_, rfl, _, rfl, a, _, rfl, .inl hS, _, _, rfl, rfl, _, rfl, iteB (fun e => ?_) (fun e => ?_)⟩
      · have hkl : k < ns.length := by
          have := of_decide_eq_true e
          rw [List.length_map] at this
          omega
        refine ⟨_, rfl, _, rfl, a, _, _, _, rfl, rfl, hS, at_map hkl, _, rfl, hN _ _ ⟨rfl, _, ?_, rfl⟩⟩
        split <;> omega
      · exact hN _ _ ⟨rfl, _, by omega, rfl⟩
    rintro σ H' ⟨rfl, c, hc, rfl⟩
    refine ⟨_, rfl, _, _, rfl, rfl, ⟨by decide, by decide, by decide⟩, _, _, rfl, rfl, _, _, rfl, ?_⟩
    refine ⟨_, rfl, .inl ⟨_, rfl, _, _, rfl, rfl, (show (0 : Int) < 2147483549 by decide), _, _, rfl, rfl, mulx_ok (a := 32) (b := 6) (by omega) (by decide) (by decide), _, rfl, _, _, rfl, rfl, mulx_ok (a := 10) (b := 7) (by decide) (by omega) (by decide), _, _, rfl, rfl, _, _, rfl, rfl, ?_⟩⟩
    refine ⟨(by show 2 ≤ sizeLine; decide), fun p hp => q _ p (same_upd hp) hp ⟨_, _, upd_same, ?_, by omega, by omega⟩⟩
    split <;> omega
/-! ### _law_take -/
def spTake : Sp := fun vs H Q _ => ∃ (p : Addr) (m : Int), vs = [.ref p, .int m] ∧ PotAt H p ∧ 0 < m ∧ m < 1000000 ∧ ∀ H' d, But p H H' → PotAt H' p → 0 ≤ d → d < m → Q (.int d) H'
theorem ok_l_take (T : Tx K mg CE CR) (F : FD K "_law_take" "_law_take" s_l_take [] f fd) : FnG P w K mg base CX0 1 f fd ["_law_pot_here", "_law_many"] spTake := by
  refine ok0 F sc_l_take (fun vs H Q E h => ?_) (fun cdv A outer s H vs Q E hr h => ?_)
  · obtain ⟨p, m, rfl, _⟩ := h
    rfl
  · obtain ⟨p, m, rfl, ⟨x, y, hp, hx, hy, hy2⟩, m0, m1, q⟩ := h
    refine ⟨_, (pss_cons (ps_if (pt_cmpR op_gt (pe_ix ix_list (pv 0) pe_int (fun _ _ => rfl)) pe_int (nomark _)) (pss_cons (ps_asg (pe_callB call_divmodW (by rfl) T.n_divmod (by decide +kernel) (pa_cons (pe_ix ix_list (pv 0) pe_int (fun _ _ => rfl)) (pa_cons (pv 1) pa_nil))) (pg_tup rfl (pgs_cons (pg_sub (pv 0) pe_int set_list) (pgs_cons (pg_name (i := 2) sc_l_take.nd rfl (by first | exact Or.inl rfl | exact Or.inr rfl)) pgs_nil))))
      (pss_one (ps_ret (pv 2)))) pss_nil)
      (pss_cons (ps_asg (pe_op op_mod (pe_callTy call_int1 (by rfl) T.n_int (by decide +kernel) (pa_cons (pe_op op_add (pe_op op_mulX (pe_ix ix_list (pv 0) pe_int (fun _ _ => rfl)) pe_int) pe_int) pa_nil)) pe_int) (pg_sub (pv 0) pe_int set_list))
      (pss_one (ps_ret (pe_op op_mod (pe_callTy call_int1 (by rfl) T.n_int (by decide +kernel) (pa_cons (pe_op op_fdivZ (pe_op op_mod (pe_callTy call_int1 (by rfl) T.n_int (by decide +kernel) (pa_cons (pe_op op_mulX (pe_ix ix_list (pv 0) pe_int (fun _ _ => rfl)) (pe_ix ix_list (pv 0) pe_int (fun _ _ => rfl))) pa_nil)) pe_int) pe_int) pa_nil)) (pv 1)))))), ?_⟩
    refine ⟨_, rfl, p, _, _, _, rfl, rfl, SqL.of hp, atI_nat (j := 0) rfl, _, _, rfl, rfl, _, rfl, iteB (fun e => ?_) (fun e => ?_)⟩
    · have x0 : 0 < x := of_decide_eq_true e
      refine ⟨_, rfl, p, _, _, _, rfl, rfl, SqL.of hp, atI_nat (j := 0) rfl, _, rfl, _, _, rfl, ⟨m0, PyProof.noPylong_small (by omega)⟩, fun t ht => ?_⟩
      have npt : p ≠ t := ne_of_none hp ht
      refine ⟨t, _, rfl, SqT.of upd_same, rfl, _, _, rfl, _, rfl, p, _, _, 0, rfl, rfl, (by rw [upd_ne npt]; exact hp), rfl, ?_⟩
      refine ⟨_, _, rfl, rfl, _, rfl, ?_⟩
      refine q _ _ (fun b o e n => ?_) ⟨_, _, upd_same, Int.ediv_nonneg hx (by omega), hy, hy2⟩ (Int.emod_nonneg _ (by omega)) (Int.emod_lt_of_pos _ m0)
      rw [upd_ne n, upd_ne (ne_of_none e ht)]
      exact e
    · have z0 : 0 ≤ (y * 48271 + 11027) % 2147483629 := Int.emod_nonneg _ (by decide)
      have z1 : (y * 48271 + 11027) % 2147483629 < 2147483629 := Int.emod_lt_of_pos _ (by decide)
      refine ⟨_, rfl, p, _, _, _, rfl, rfl, SqL.of hp, atI_nat (j := 1) rfl, _, _, rfl, rfl, mulx_ok (a := 40) (b := 16) (by omega) (by decide) (by decide), _, _, rfl, rfl, .inl ⟨_, rfl, _, _, rfl, rfl, (show (0 : Int) < 2147483629 by decide), ?_⟩⟩
      refine ⟨_, rfl, p, _, _, 1, rfl, rfl, hp, rfl, ?_⟩
      refine ⟨_, rfl, p, _, _, _, rfl, rfl, SqL.of upd_same, atI_nat (j := 1) rfl, _, rfl, p, _, _, _, rfl, rfl, SqL.of upd_same, atI_nat (j := 1) rfl, _, _, rfl, rfl, mulx_ok (a := 32) (b := 32) (by omega) (by omega) (by decide), .inl ⟨_, rfl, _, _, rfl, rfl, (show (0 : Int) < 2147483563 by decide), _, _, rfl, rfl, ⟨by decide, by decide⟩, .inl ⟨_, rfl, _, rfl, _, _, rfl, rfl, m0, ?_⟩⟩⟩
      exact q _ _ but_upd ⟨_, _, upd_same, hx, z0, by omega⟩ (Int.emod_nonneg _ (by omega)) (Int.emod_lt_of_pos _ m0)
/-! ### _law_pick -/
def spPick : Sp := fun vs H Q _ => ∃ (p : Addr) (x : V), vs = [.ref p, x] ∧ PotAt H p ∧ ((∃ l xs, x = .ref l ∧ H l = some (.lst xs) ∧ xs ≠ [] ∧ xs.length ≤ 1000 ∧ l ≠ p ∧ ∀ H' v, But p H H' → PotAt H' p → v ∈ xs → Q v H') ∨
  ∃ z : Str, x = .str z ∧ 0 < z.length ∧ z.length ≤ 1000 ∧ ∀ H' c, But p H H' → PotAt H' p → c ∈ z.cps.toList → Q (.str ⟨#[c]⟩) H')
theorem ok_l_pick (T : Tx K mg CE CR) (G_l_take : Fnc P w K mg base CX0 1 "_law_take" [] spTake) (F : FD K "_law_pick" "_law_pick" s_l_pick [] f fd) : FnG P w K mg base CX0 2 f fd ["_law_pot_here", "_law_some"] spPick := by
  refine ok0 F sc_l_pick (fun vs H Q E h => ?_) (fun cdv A outer s H vs Q E hr h => ?_)
  · obtain ⟨p, x, rfl, _⟩ := h
    rfl
  · obtain ⟨p, x, rfl, hp, h⟩ := h
    refine ⟨_, (pss_one (ps_ret (pe_ix ix_seq (pv 1) (pe_fn G_l_take (hr.mono (by decide)) pass0 (pa_cons (pv 0) (pa_cons (pe_callB call_len (by rfl) T.n_len (by decide +kernel) (pa_cons (pv 1) pa_nil)) pa_nil))) (fun _ _ => rfl)))), ?_⟩
    rcases h with ⟨l, xs, rfl, hl, hn, hz, hlp, q⟩ | ⟨z, rfl, h0, hz, q⟩
    · have h0 : 0 < xs.length := List.length_pos_iff.mpr hn
      refine ⟨_, rfl, _, rfl, _, rfl, _, xs.length, rfl, .inl ⟨xs, SqL.of hl, rfl⟩, p, xs.length, rfl, hp, by omega, by omega, fun H' d b hp' d0 d1 => ?_⟩
      obtain ⟨n, rfl⟩ := Int.eq_ofNat_of_zero_le d0
      have hn' : n < xs.length := by omega
      exact .inl ⟨l, xs, _, xs[n], rfl, rfl, SqL.of (b l _ hl hlp), atI_nat (List.getElem?_eq_getElem hn'), q H' _ b hp' (List.getElem_mem hn')⟩
    · refine ⟨_, rfl, _, rfl, _, rfl, _, z.length, rfl, ⟨small (by omega), rfl⟩, p, z.length, rfl, hp, by omega, by omega, fun H' d b hp' d0 d1 => ?_⟩
      obtain ⟨n, rfl⟩ := Int.eq_ofNat_of_zero_le d0
      have hn' : n < z.cps.toList.length := by
        have : z.cps.toList.length = z.length := rfl
        omega
      exact .inr (.inr ⟨z, _, z.cps.toList[n], rfl, rfl, small (by omega), atI_nat (List.getElem?_eq_getElem hn'), q H' _ b hp' (List.getElem_mem hn')⟩)

/-! ### texts -/
theorem len_S (l : List Nat) : (S l).length = l.length := TL.len_tl (S l)
theorem S_app (a b : List Nat) : S a ++ S b = S (a ++ b) := TL.ext_tl (by show tl _ = tl _; rw [tl_app, tl_S, tl_S, tl_S])
theorem S_inj {a b : List Nat} (h : S a = S b) : a = b := by rw [← tl_S a, h, tl_S]
theorem join_flat (ls : List (List Nat)) : Txt.join "" (ls.map S) = S ls.flatten := by
  rw [TL.join_eq]
  induction ls with
  | nil => rfl
  | cons x r ih =>
    cases r with
    | nil =>
      show S x = S (x ++ [])
      rw [List.append_nil]
    | cons y r =>
      show S x ++ ("" : Str) ++ Str.join "" ((y :: r).map S) = _
      rw [ih, show (("" : Str)) = S [] from rfl, S_app, S_app, List.append_nil]
      rfl
theorem sum_flat : ∀ ls : List (List Nat), ((ls.map S).map (·.length)).sum = ls.flatten.length
  | [] => rfl
  | x :: r => by
    rw [List.map_cons, List.map_cons, List.sum_cons, sum_flat r, len_S, List.flatten_cons, List.length_append]
theorem stV_eq (ls : List (List Nat)) : stV ls = (ls.map S).map V.str := by
  rw [List.map_map]
  rfl
theorem join_stV {H : Hp} {D : Addr} {ls : List (List Nat)} {Q : VK} (h : H D = some (.lst (stV ls))) (l : ls.flatten.length ≤ 100000) (q : Q (.str (S ls.flatten)) H) :
    ∃ a p, ∃ ys : List Str, V.str "" = .str a ∧ [V.ref D] = [.ref p] ∧ (SqL K H p (ys.map V.str) ∨ SqT K H p (ys.map V.str)) ∧ (ys.map (·.length)).sum + ys.length * a.length ≤ 16777216 ∧ Q (.str (Txt.join a ys)) H := by
  refine ⟨_, D, ls.map S, rfl, rfl, .inl (SqL.of (by rw [h, stV_eq])), ?_, ?_⟩
  · rw [sum_flat, show (("" : Str)).length = 0 from rfl]
    omega
  · rw [join_flat]
    exact q
/-! ### _law_check, _law_row -/
theorem ok_l_check (T : Tx K mg CE CR) (F : FD K "_law_check" "_law_check" s_l_check [] f fd) : FnG P w K mg base CX0 1 f fd ["_law_record_here"] spChk := by
  refine ok0 F sc_l_check (fun vs H Q E h => ?_) (fun cdv A outer s H vs Q E hr h => ?_)
  · obtain ⟨z, rfl, _⟩ := h
    rfl
  · obtain ⟨z, rfl, q⟩ := h
    refine ⟨_, (pss_cons (ps_set (i := 1) sc_l_check.nd rfl (by first | exact Or.inl rfl | exact Or.inr rfl) pe_int)
      (pss_cons (ps_for PassesOwn.never rfl (pi_str (pv 0)) (pg_name (i := 2) sc_l_check.nd rfl (by first | exact Or.inl rfl | exact Or.inr rfl)) (pss_one (ps_set (i := 1) sc_l_check.nd rfl (by first | exact Or.inl rfl | exact Or.inr rfl) (pe_op op_mod (pe_callTy call_int1 (by rfl) T.n_int (by decide +kernel) (pa_cons (pe_op op_add (pe_op op_mulX pe_int (pv 1)) (pe_callB call_ord (by rfl) T.n_ord (by decide +kernel) (pa_cons (pv 2) pa_nil))) pa_nil)) pe_int))))
      (pss_one (ps_ret (pv 1))))), ?_⟩
    refine ⟨_, rfl, z, rfl, ?_⟩
    refine for_it (walk_str (z := z)) (fun i σ H' => H' = H ∧ ∃ v, σ = [some (.str z), some (.int (chkF 7 ((tl z).take i) : Nat)), v]) ⟨rfl, none, rfl⟩ (fun _ _ _ _ _ => trivial) ?_ ?_
    · rintro i x σ H' H2 hi ⟨rfl, v, rfl⟩ ⟨rfl, c, hc, rfl⟩
      have hl := chkF_lt (c := 7) (by decide) ((tl z).take i)
      have hc' : (tl z)[i]? = some c := by rw [← Array.getElem?_toList] at hc; exact hc
      refine ⟨_, rfl, _, _, rfl, rfl, mulx_ok (a := 5) (b := 20) (by decide) (by omega) (by decide), _, rfl, _, rfl, rfl, _, _, rfl, rfl, .inl ⟨_, rfl, _, _, rfl, rfl, (show (0 : Int) < 1000003 by decide), ?_⟩⟩
      refine ⟨rfl, some (.str ⟨#[c]⟩), ?_⟩
      rw [List.take_add_one, hc', Option.toList_some, chk_snoc]
      rfl
    · rintro σ H' ⟨rfl, v, rfl⟩
      have e : (tl z).take z.cps.size = tl z := List.take_of_length_le (by show (z.cps.toList).length ≤ _; simp)
      rw [e]
      exact ⟨_, rfl, q⟩
def spRow : Sp := fun vs H Q _ => ∃ z : Str, vs = [.str z] ∧ z.length ≤ 50000 ∧ Q (.str (S (row (tl z)))) H
theorem ok_l_row (T : Tx K mg CE CR) (G_l_check : Fnc P w K mg base CX0 1 "_law_check" [] spChk) (F : FD K "_law_row" "_law_row" s_l_row [] f fd) : FnG P w K mg base CX0 2 f fd ["_law_record_here"] spRow := by
  refine ok0 F sc_l_row (fun vs H Q E h => ?_) (fun cdv A outer s H vs Q E hr h => ?_)
  · obtain ⟨z, rfl, _⟩ := h
    rfl
  · obtain ⟨z, rfl, lz, q⟩ := h
    refine ⟨_, (pss_one (ps_ret (pe_op op_add_str (pe_op op_add_str (pe_op op_add_str (pe_op op_add_str (pe_op op_add_str (pe_callTy call_str_int (by rfl) T.n_str (by decide +kernel) (pa_cons (pe_callB call_len_str (by rfl) T.n_len (by decide +kernel) (pa_cons (pv 0) pa_nil)) pa_nil)) pe_str) (pe_callTy call_str_int (by rfl) T.n_str (by decide +kernel) (pa_cons (pe_fn G_l_check (hr.mono (by decide)) pass0 (pa_cons (pv 0) pa_nil)) pa_nil))) pe_str) (pv 0)) pe_str))), ?_⟩
    have h1 := chk_lt (tl z)
    have n1 : (Str.ofString (toString ((z.length : Nat) : Int))).length ≤ 9 := num_len (by omega)
    have n2 : (Str.ofString (toString ((chk (tl z) : Nat) : Int))).length ≤ 9 := num_len (by omega)
    have b1 : ((" " : Str)).length = 1 := rfl
    have b2 : (("\n" : Str)).length = 1 := rfl
    rw [← row_str] at q
    refine ⟨_, rfl, _, rfl, small (by omega), _, rfl, log_nat (by omega), _, _, rfl, rfl, small (by omega), _, rfl, z, rfl, _, rfl, log_nat (by omega), _, _, rfl, rfl, ?_, _, _, rfl, rfl, ?_, _, rfl, _, _, rfl, rfl, ?_, _, _, rfl, rfl, ?_, q⟩
    · rw [strLen_append]
      exact small (by omega)
    · rw [strLen_append, strLen_append]
      exact small (by omega)
    · rw [strLen_append, strLen_append, strLen_append]
      exact small (by omega)
    · rw [strLen_append, strLen_append, strLen_append, strLen_append]
      exact small (by omega)
/-! ### _law_record -/
def RecOk (r : List Nat) : Prop := r.length ≤ 40 ∧ 10 ∉ r ∧ ∀ c ∈ r, c < 1000
def spRec : Sp := fun vs H Q _ => ∃ p : Addr, vs = [.ref p] ∧ PotAt H p ∧ ∀ H' r, But p H H' → PotAt H' p → RecOk r → Q (.str (S r)) H'
abbrev signs0 : Str := "abz019 .,-|~'\"AZ/"
theorem flat_one (l : List Nat) : (l.map fun c => [c]).flatten = l := by
  induction l with
  | nil => rfl
  | cons c l ih => rw [List.map_cons, List.flatten_cons, ih]; rfl
theorem ok_l_record (T : Tx K mg CE CR) (G_l_pick : Fnc P w K mg base CX0 2 "_law_pick" [] spPick) (F : FD K "_law_record" "_law_record" s_l_record [] f fd) : FnG P w K mg base CX0 3 f fd ["_law_pot_here"] spRec := by
  refine ok0 F sc_l_record (fun vs H Q E h => ?_) (fun cdv A outer s H vs Q E hr h => ?_)
  · obtain ⟨p, rfl, _⟩ := h
    rfl
  · obtain ⟨p, rfl, hp, q⟩ := h
    refine ⟨_, (pss_cons (ps_set (i := 1) sc_l_record.nd rfl (by first | exact Or.inl rfl | exact Or.inr rfl) pe_str)
      (pss_cons (ps_set (i := 2) sc_l_record.nd rfl (by first | exact Or.inl rfl | exact Or.inr rfl) (pe_fn G_l_pick (hr.mono (by decide)) pass0 (pa_cons (pv 0) (pa_cons (pe_lst (pa_cons pe_int (pa_cons pe_int (pa_cons pe_int (pa_cons pe_int (pa_cons pe_int (pa_cons pe_int (pa_cons pe_int (pa_cons pe_int pa_nil))))))))) pa_nil))))
      (pss_one (ps_ret (pe_join pe_str (pe_lc (own := [("_law_k", 3)]) rfl sc_l_record.nd (pi_range1 (by rfl) T.n_range (pa_cons (pv 2) pa_nil)) (blkOk_by (own := [("_law_k", 3)]) (N := n_l_record) (sc := defScope s_l_record) (by decide +kernel)) (fun _ _ _ _ _ => (pg_name (i := 3) sc_l_record.nd rfl (by first | exact Or.inl rfl | exact Or.inr rfl))) (fun _ _ _ _ _ => pts_nil) (fun _ _ _ _ _ => (pe_fn G_l_pick (hr.mono (by decide)) pass0 (pa_cons (pv 0) (pa_cons (pv 1) pa_nil)))))))))), ?_⟩
    refine ⟨_, rfl, (by show 8 ≤ sizeLine; decide), fun L nL => ?_⟩
    refine ⟨p, _, rfl, hp.upd nL, .inl ⟨L, _, rfl, upd_same, by simp, by simp, hp.ne nL, fun H1 v b1 hp1 hv => ?_⟩⟩
    obtain ⟨n, rfl, hn⟩ : ∃ n : Nat, v = .int n ∧ n ≤ 40 := by
      simp only [List.mem_cons, List.mem_nil_iff, or_false] at hv
      rcases hv with rfl | rfl | rfl | rfl | rfl | rfl | rfl | rfl
      · exact ⟨0, rfl, by decide⟩
      · exact ⟨1, rfl, by decide⟩
      · exact ⟨2, rfl, by decide⟩
      · exact ⟨5, rfl, by decide⟩
      · exact ⟨9, rfl, by decide⟩
      · exact ⟨10, rfl, by decide⟩
      · exact ⟨11, rfl, by decide⟩
      · exact ⟨40, rfl, by decide⟩
    have b0 : But p H H1 := (But.of (same_upd nL)).trans b1
    refine ⟨⟨_, rfl⟩, _, rfl, _, rfl, by omega, by omega, fun D hD => ?_⟩
    have nD : D ≠ p := hp1.ne hD
    refine lc_range (lo := 0) (n := n) (fun i H' => But p H H' ∧ PotAt H' p ∧ ∃ r : List Nat, H' D = some (.lst (stV (r.map fun c => [c]))) ∧ r.length = i ∧ ∀ c ∈ r, c ∈ signs0.cps.toList) ?_ ?_ ?_
    · exact ⟨b0.trans (But.of (same_upd hD)), hp1.upd hD, [], upd_same, rfl, fun y hy => by cases hy⟩
    · rintro i H2 hi ⟨b2, hp2, r, h2, l2, ok⟩
      refine ⟨rfl, _, rfl, _, rfl, p, _, rfl, hp2, .inr ⟨_, rfl, by decide +kernel, by decide +kernel, fun H3 c b3 hp3 hc => ?_⟩⟩
      have h3 := b3 _ _ h2 nD
      have n3 := b0.free nD hD
      refine ⟨_, h3, ?_, fun b o e n => ?_, hp3.but but_upd nD.symm, r ++ [c], ?_, ?_, ?_⟩
      · rw [List.length_map, List.length_map, l2]
        exact Nat.lt_of_lt_of_le (show i < 100000 by omega) (small (Nat.le_refl _))
      · rw [upd_ne (ne_of_none e n3)]
        exact (b2.trans b3) b o e n
      · rw [upd_same, List.map_append, stV, stV, List.map_append]
        rfl
      · rw [List.length_append, l2]
        rfl
      · intro y hy
        rcases List.mem_append.mp hy with z | z
        · exact ok y z
        · rw [List.mem_singleton.mp z]
          exact hc
    · rintro H2 ⟨b2, hp2, r, h2, l2, ok⟩
      have all : ∀ c ∈ signs0.cps.toList, c ≠ 10 ∧ c < 1000 := by decide +kernel
      refine join_stV h2 (by rw [flat_one]; omega) ?_
      rw [flat_one]
      exact q _ _ b2 hp2 ⟨by omega, fun z => (all _ (ok _ z)).1 rfl, fun c hc => (all _ (ok c hc)).2⟩
end
end K75

set_option Elab.async false
set_option linter.all false
set_option maxRecDepth 100000
set_option maxHeartbeats 4000000
/-! W75: the law's own reading. -/
namespace K75
open PySem PySem.Spec PyProof.Rows L2 LL
abbrev s_l_whole : Stmt := top 21
abbrev n_l_whole : List Str := ["_law_text", "_law_found", "_law_rest", "_law_line", "_law_words"]
theorem sc_l_whole : FnScope n_l_whole ["_law_text"] (defScope s_l_whole) := ⟨rfl, rfl, rfl, by decide +kernel, rfl, by decide +kernel, by decide +kernel⟩
section
variable {P : Program} {w : World} {K : PySem.W.Frag} {mg : Str → Option Value} {base : Heap} {CE CR : Addr} {f : Addr} {fd : FuncData}
theorem splt (l : List Nat) : (∃ ws : List Str, Txt.splitMax (S l) ⟨#[32]⟩ 2 = ws ∧ ws.length < 3 ∧ rin l = none) ∨ ∃ a b, Txt.splitMax (S l) ⟨#[32]⟩ 2 = [a, b, S (cand l)] := by
  by_cases h : l = []
  · subst h
    exact .inl ⟨[S []], by decide +kernel, by decide, rin_few (.inr (by simp))⟩
  · rcases split_two (S l) (by rw [len_S]; exact List.length_pos_iff.mpr h) with ⟨ws, e, n, r⟩ | ⟨a, b, c, e, r⟩
    · exact .inl ⟨ws, e, n, r⟩
    · refine .inr ⟨a, b, ?_⟩
      rw [e, show c = S (cand l) from TL.ext_tl r]
def spLw : Sp := fun vs H Q _ => ∃ z, vs = [.str (S z)] ∧ z.length ≤ 40000 ∧ ∀ H' p, Same H H' → H p = none → H' p = some (.lst (stV (whole z))) → Q (.ref p) H'
theorem ok_l_whole (T : Tx K mg CE CR) (G_l_row : Fnc P w K mg base CX0 2 "_law_row" [] spRow) (F : FD K "_law_whole" "_law_whole" s_l_whole [] f fd) : FnG P w K mg base CX0 3 f fd ["_law_text"] spLw := by
  refine ok0 F sc_l_whole (fun vs H Q E h => ?_) (fun cdv A outer s H vs Q E hr h => ?_)
  · obtain ⟨z, rfl, _⟩ := h
    rfl
  · obtain ⟨z, rfl, lz, q⟩ := h
    refine ⟨_, (pss_cons (ps_par (i := 1) (j := 2) rfl sc_l_whole.nd rfl rfl (by decide) rfl rfl (pa_cons (pe_lst pa_nil) (pa_cons (pv 0) pa_nil)) (by rfl))
      (pss_cons (ps_while PassesOwn.never (pt_cmpR op_in_sign pe_str (pv 2) (by rfl)) (pss_cons (ps_set (i := 3) sc_l_whole.nd rfl (by first | exact Or.inl rfl | exact Or.inr rfl) (pe_slice sl_str (pv 2) po_none (po_some (pe_bm PySem.F.plainAttrs_str PySem.F.slot_str_index PySem.F.type_str_index mt_sindex (pv 2) (pa_cons pe_str pa_nil)))))
      (pss_cons (ps_set (i := 4) sc_l_whole.nd rfl (by first | exact Or.inl rfl | exact Or.inr rfl) (pe_bm PySem.F.plainAttrs_str PySem.F.slot_str_split PySem.F.type_str_split mt_splitMax (pv 3) (pa_cons pe_str (pa_cons pe_int pa_nil))))
      (pss_cons (ps_if (PW.pt (pw_or (pt_cmpR op_lt (pe_callB call_len_seq (by rfl) T.n_len (by decide +kernel) (pa_cons (pv 4) pa_nil)) pe_int (nomark _)) (pw_or1 (pt_cmpR op_ne (pe_fn G_l_row (hr.mono (by decide)) pass0 (pa_cons (pe_ix ix_list (pv 4) pe_int (fun _ _ => rfl)) pa_nil)) (pe_op op_add_str (pv 3) pe_str) (nomark _))))) (pss_one (ps_ret (pv 1))) pss_nil)
      (pss_cons (ps_expr (pe_bm PySem.F.plainAttrs_list PySem.F.slot_list_append PySem.F.type_list_append mt_append (pv 1) (pa_cons (pe_ix ix_list (pv 4) pe_int (fun _ _ => rfl)) pa_nil)))
      (pss_one (ps_set (i := 2) sc_l_whole.nd rfl (by first | exact Or.inl rfl | exact Or.inr rfl) (pe_slice sl_str (pv 2) (po_some (pe_op op_add (pe_callB call_len_str (by rfl) T.n_len (by decide +kernel) (pa_cons (pv 3) pa_nil)) pe_int)) po_none))))))))
      (pss_one (ps_ret (pv 1))))), ?_⟩
    refine ⟨(by show 0 ≤ sizeLine; decide), fun D nD => ?_⟩
    refine ⟨_, rfl, _, _, rfl, ?_⟩
    refine ⟨fun m σ H' => Same H H' ∧ ∃ R y v w, y.length = m ∧ R.length + y.length ≤ z.length ∧ H' D = some (.lst (stV R)) ∧ whole z = R ++ whole y ∧ σ = [some (.str (S z)), some (.ref D), some (.str (S y)), v, w], ⟨z.length, ?_⟩, ?_⟩
    · exact ⟨same_upd nD, [], z, none, none, rfl, by simp, upd_same, rfl, rfl⟩
    · rintro m σ H' ⟨s1, R, y, v, w, rfl, lR, hD, eR, rfl⟩
      refine ⟨_, rfl, 10, _, rfl, rfl, _, rfl, ?_⟩
      refine iteB (fun c => ?_) (fun c => ?_)
      · obtain ⟨l, r, hl, rfl⟩ : ∃ l r, 10 ∉ l ∧ y = l ++ 10 :: r := by
          rcases line_cases y with h | h
          · exact absurd (of_decide_eq_true c) h
          · exact h
        refine ⟨_, fun _ _ h => h, ?_⟩
        obtain ⟨rest, oc⟩ := index_one (x := S (l ++ 10 :: r)) hl rfl
        rw [List.length_append, List.length_cons] at lR
        have ly : (S (l ++ 10 :: r)).length = l.length + (r.length + 1) := by rw [len_S, List.length_append, List.length_cons]
        refine ⟨_, rfl, _, rfl, rfl, _, _, _, rest, rfl, rfl, oc, _, rfl, _, rfl, small (by omega), ?_⟩
        have ec : cutS (S (l ++ 10 :: r)) none (some (l.length : Int)) = S l := by
          rw [cutS_to]
          show S ((l ++ 10 :: r).take l.length) = S l
          rw [List.take_left]
        rw [ec]
        have ll := len_S l
        have b1 : (((" " : Str)).length == 0) = false := by decide +kernel
        refine ⟨_, rfl, rfl, _, _, _, rfl, rfl, b1, by decide, by decide, small (by omega), fun W nW => ?_⟩
        have nDW : D ≠ W := ne_of_none hD nW
        have s2 := s1.trans (same_upd (o := .lst (List.map V.str (Txt.splitMax (S l) " " 2))) nW)
        have hD2 : (upd H' W (.lst (List.map V.str (Txt.splitMax (S l) " " 2)))) D = some (.lst (stV R)) := by rw [upd_ne nDW]; exact hD
        have hW : (upd H' W (.lst (List.map V.str (Txt.splitMax (S l) " " 2)))) W = some (.lst (List.map V.str (Txt.splitMax (S l) " " 2))) := upd_same
        generalize upd H' W (.lst (List.map V.str (Txt.splitMax (S l) " " 2))) = G at *
        rw [whole_line hl] at eR
        refine ⟨_, rfl, W, _, rfl, .inl (SqL.of hW), _, _, rfl, rfl, _, rfl, ?_⟩
        rcases splt l with ⟨ws, e, n, rn⟩ | ⟨a, b, e⟩
        · rw [rn] at eR
          have e' : Txt.splitMax (S l) " " 2 = ws := e
          rw [e'] at hW ⊢
          refine iteY (decide_eq_true (by rw [List.length_map]; omega)) (iteT ⟨_, rfl, q _ D s2 nD ?_⟩)
          rw [eR, List.append_nil]
          exact hD2
        · have e' : Txt.splitMax (S l) " " 2 = [a, b, S (cand l)] := e
          rw [e'] at hW ⊢
          have lc : (cand l).length ≤ l.length := Nat.le_trans (len_aft _) (len_aft _)
          refine iteF ⟨_, rfl, W, _, _, _, rfl, rfl, SqL.of hW, atI_nat (j := 2) rfl, _, rfl, by rw [len_S]; omega, _, rfl, _, _, rfl, rfl, small (by show (S l).length + 1 ≤ _; omega), rfl, _, rfl, ?_⟩
          rw [tl_S]
          have cmp : (V.str (S (row (cand l))) = V.str (S l ++ "\n")) ↔ row (cand l) = l ++ [10] := by
            rw [show (("\n" : Str)) = S [10] from rfl, S_app]
            exact ⟨fun h => S_inj (V.str.inj h), fun h => by rw [h]⟩
          refine iteB (fun c => ?_) (fun c => ?_)
          · have hn : ¬ row (cand l) = l ++ [10] := fun h => by
              rw [decide_eq_true (cmp.mpr h)] at c
              cases c
            rw [show rin l = none from if_neg hn] at eR
            refine ⟨_, rfl, q _ D s2 nD ?_⟩
            rw [eR, List.append_nil]
            exact hD2
          · have hn : row (cand l) = l ++ [10] := cmp.mp (by
              cases h : decide (V.str (S (row (cand l))) = V.str (S l ++ "\n")) with
              | true => exact of_decide_eq_true h
              | false => rw [h] at c; cases c)
            rw [show rin l = some (cand l) from if_pos hn] at eR
            refine ⟨_, rfl, .inl ⟨rfl, _, SqL.of hD2⟩, _, rfl, W, _, _, _, rfl, rfl, SqL.of hW, atI_nat (j := 2) rfl, D, _, _, rfl, rfl, hD2, ?_, ?_⟩
            · rw [List.length_map]
              exact Nat.lt_of_lt_of_le (show R.length < 100000 by omega) (small (Nat.le_refl _))
            · refine ⟨_, rfl, _, rfl, _, rfl, small (by omega), _, _, rfl, rfl, _, rfl, _, rfl, small (by omega), ?_⟩
              have ed : cutS (S (l ++ 10 :: r)) (some (((S l).length : Int) + 1)) none = S r := by
                rw [ll, show ((l.length : Int) + 1) = ((l.length + 1 : Nat) : Int) by omega, cutS_from]
                show S ((l ++ 10 :: r).drop (l.length + 1)) = S r
                rw [List.drop_append, List.drop_of_length_le (by omega), Nat.add_sub_cancel_left]
                rfl
              rw [ed]
              refine ⟨r.length, by simp; omega, fun b o e => ?_, R ++ [cand l], r, _, _, rfl, by rw [List.length_append, List.length_singleton]; omega, ?_, ?_, rfl⟩
              · rw [upd_ne (ne_of_none e nD)]
                exact s2 _ _ e
              · rw [upd_same, stV, stV, List.map_append]
                rfl
              · rw [eR, List.append_assoc]
                rfl
      · refine ⟨_, rfl, q _ D s1 nD ?_⟩
        have : 10 ∉ y := of_decide_eq_false c
        rw [eR, whole_no this, List.append_nil]
        exact hD
end
end K75

set_option Elab.async false
set_option linter.all false
set_option maxRecDepth 100000
set_option maxHeartbeats 4000000
/-! V75: odd rows, spoilt texts. -/
namespace K75
open PySem PySem.Spec PyProof.Rows L2 LL
abbrev s_l_odd_row : Stmt := top 22
abbrev n_l_odd_row : List Str := ["_law_pot_here", "_law_record_here", "_law_size", "_law_check_here", "_law_some", "_law_length", "_law_sum_text"]
theorem sc_l_odd_row : FnScope n_l_odd_row ["_law_pot_here", "_law_record_here"] (defScope s_l_odd_row) := ⟨rfl, rfl, rfl, by decide +kernel, rfl, by decide +kernel, by decide +kernel⟩
section
variable {P : Program} {w : World} {K : PySem.W.Frag} {mg : Str → Option Value} {base : Heap} {CE CR : Addr} {f : Addr} {fd : FuncData}
/-- signs that == can read -/
def Ok (l : List Nat) : Prop := ∀ c ∈ l, c < 1114112
theorem ok_str {z : Str} : PyData.strOk z = true ↔ Ok (tl z) := okt_iff
theorem okt_S {l : List Nat} (h : Ok l) : PyData.strOk (S l) = true := ok_str.mpr h
theorem fold_ok (x : Str) (h : ∀ c ∈ x.cps.toList, c < 1114112) : ∀ (n : Nat) (a : Array Nat), (∀ c ∈ a.toList, c < 1114112) → ∀ c ∈ ((List.replicate n x.cps).foldl (· ++ ·) a).toList, c < 1114112
  | 0, _, ha => ha
  | n + 1, a, ha => by
    rw [List.replicate_succ, List.foldl_cons]
    refine fold_ok x h n _ fun c hc => ?_
    rw [Array.toList_append] at hc
    rcases List.mem_append.mp hc with z | z
    · exact ha c z
    · exact h c z
theorem okt_mul {x : Str} {n : Int} (h : PyData.strOk x = true) : PyData.strOk (Txt.mul x n) = true := by
  unfold Txt.mul
  split
  · decide +kernel
  · split
    · exact h
    · rw [okt_iff] at h ⊢
      exact fold_ok x h _ _ (fun c hc => by cases hc)
/-- a pair of texts -/
def Pr (H : Hp) (v : V) : Prop := ∃ t a b, v = .ref t ∧ H t = some (.tup [.str a, .str b]) ∧ a.length ≤ 5000 ∧ b.length ≤ 5000 ∧ PyData.strOk a = true ∧ PyData.strOk b = true
def Prs (H : Hp) (vs : List V) : Prop := ∀ v ∈ vs, Pr H v
theorem Pr.same {H G : Hp} {v : V} (h : Pr H v) (s : Same H G) : Pr G v := let ⟨t, a, b, e, h, x⟩ := h; ⟨t, a, b, e, s _ _ h, x⟩
theorem Prs.same {H G : Hp} {v : List V} (h : Prs H v) (s : Same H G) : Prs G v := fun x hx => (h x hx).same s
theorem mkE {H : Hp} {p : Addr} (n : H p = none) (a b : Str) (la : a.length ≤ 5000) (lb : b.length ≤ 5000) (oa : PyData.strOk a = true) (ob : PyData.strOk b = true) : ∃ G, upd H p (.tup [.str a, .str b]) = G ∧ Same H G ∧ Pr G (.ref p) :=
  ⟨_, rfl, same_upd n, p, a, b, rfl, upd_same, la, lb, oa, ob⟩
theorem mkL {H : Hp} {p : Addr} (n : H p = none) (xs : List V) : ∃ G, upd H p (.lst xs) = G ∧ Same H G ∧ G p = some (.lst xs) := ⟨_, rfl, same_upd n, upd_same⟩
theorem two : 2 ≤ sizeLine := by decide
def spOdd : Sp := fun vs H Q _ => ∃ (p : Addr) (r : List Nat), vs = [.ref p, .str (S r)] ∧ PotAt H p ∧ RecOk r ∧ ∀ H' y, But p H H' → PotAt H' p → y.length ≤ 12000 → Ok y → Q (.str (S y)) H'
theorem ok_l_odd (T : Tx K mg CE CR) (G_l_check : Fnc P w K mg base CX0 1 "_law_check" [] spChk) (G_l_pick : Fnc P w K mg base CX0 2 "_law_pick" [] spPick) (F : FD K "_law_odd_row" "_law_odd_row" s_l_odd_row [] f fd) : FnG P w K mg base CX0 3 f fd ["_law_pot_here", "_law_record_here"] spOdd := by
  refine ok0 F sc_l_odd_row (fun vs H Q E h => ?_) (fun cdv A outer s H vs Q E hr h => ?_)
  · obtain ⟨p, r, rfl, _⟩ := h
    rfl
  · obtain ⟨p, r, rfl, hp, hr', q⟩ := h
    refine ⟨_, (pss_cons (ps_par (i := 2) (j := 3) rfl sc_l_odd_row.nd rfl rfl (by decide) rfl rfl (pa_cons (pe_callTy call_str_int (by rfl) T.n_str (by decide +kernel) (pa_cons (pe_callB call_len_str (by rfl) T.n_len (by decide +kernel) (pa_cons (pv 1) pa_nil)) pa_nil)) (pa_cons (pe_callTy call_str_int (by rfl) T.n_str (by decide +kernel) (pa_cons (pe_fn G_l_check (hr.mono (by decide)) pass0 (pa_cons (pv 1) pa_nil)) pa_nil)) pa_nil)) (by rfl))
      (pss_cons (ps_set (i := 4) sc_l_odd_row.nd rfl (by first | exact Or.inl rfl | exact Or.inr rfl) (pe_lst (pa_cons (pe_tup (pa_cons (pe_op op_add_str pe_str (pv 2)) (pa_cons (pv 3) pa_nil))) (pa_cons (pe_tup (pa_cons (pv 2) (pa_cons (pe_op op_add_str pe_str (pv 3)) pa_nil))) (pa_cons (pe_tup (pa_cons (pe_callTy call_str_int (by rfl) T.n_str (by decide +kernel) (pa_cons (pe_op op_add (pe_callB call_len_str (by rfl) T.n_len (by decide +kernel) (pa_cons (pv 1) pa_nil)) pe_int) pa_nil)) (pa_cons (pv 3) pa_nil))) (pa_cons (pe_tup (pa_cons (pe_op op_mulS pe_str pe_int) (pa_cons (pv 3) pa_nil))) pa_nil))))))
      (pss_cons (ps_set (i := 4) sc_l_odd_row.nd rfl (by first | exact Or.inl rfl | exact Or.inr rfl) (pe_op op_cat (pv 4) (pe_lst (pa_cons (pe_tup (pa_cons (pv 2) (pa_cons (pe_callTy call_str_int (by rfl) T.n_str (by decide +kernel) (pa_cons (pe_op op_add (pe_fn G_l_check (hr.mono (by decide)) pass0 (pa_cons (pv 1) pa_nil)) pe_int) pa_nil)) pa_nil))) (pa_cons (pe_tup (pa_cons (pe_op op_add_str pe_str (pv 2)) (pa_cons (pv 3) pa_nil))) (pa_cons (pe_tup (pa_cons (pv 2) (pa_cons (pe_op op_mulS pe_str pe_int) pa_nil))) (pa_cons (pe_tup (pa_cons (pe_op op_add_str pe_str (pv 2)) (pa_cons (pv 3) pa_nil))) pa_nil)))))))
      (pss_cons (ps_asg (pe_fn G_l_pick (hr.mono (by decide)) pass0 (pa_cons (pv 0) (pa_cons (pe_op op_cat (pv 4) (pe_lst (pa_cons (pe_tup (pa_cons (pe_op op_add_str (pv 2) pe_str) (pa_cons (pv 3) pa_nil))) (pa_cons (pe_tup (pa_cons pe_str (pa_cons (pv 3) pa_nil))) (pa_cons (pe_tup (pa_cons (pv 2) (pa_cons pe_str pa_nil))) (pa_cons (pe_tup (pa_cons (pv 2) (pa_cons (pe_op op_add_str (pv 3) pe_str) pa_nil))) pa_nil)))))) pa_nil))) (pg_tup rfl (pgs_cons (pg_name (i := 5) sc_l_odd_row.nd rfl (by first | exact Or.inl rfl | exact Or.inr rfl)) (pgs_cons (pg_name (i := 6) sc_l_odd_row.nd rfl (by first | exact Or.inl rfl | exact Or.inr rfl)) pgs_nil))))
      (pss_one (ps_ret (pe_op op_add_str (pe_op op_add_str (pe_op op_add_str (pe_op op_add_str (pe_op op_add_str (pv 5) pe_str) (pv 6)) pe_str) (pv 1)) pe_str))))))), ?_⟩
    have h1 := chk_lt (tl (S r))
    have lr : (S r).length ≤ 40 := by rw [len_S]; exact hr'.1
    have n1 : (Str.ofString (toString (((S r).length : Nat) : Int))).length ≤ 9 := num_len (by omega)
    have n2 : (Str.ofString (toString ((chk (tl (S r)) : Nat) : Int))).length ≤ 9 := num_len (by omega)
    have o1 : PyData.strOk (Str.ofString (toString (((S r).length : Nat) : Int))) = true := okt_of _
    have o2 : PyData.strOk (Str.ofString (toString ((chk (tl (S r)) : Nat) : Int))) = true := okt_of _
    refine ⟨_, rfl, _, rfl, small (by omega), _, rfl, log_nat (by omega), _, rfl, _, rfl, _, rfl, log_nat (by omega), _, _, rfl, ?_⟩
    generalize Str.ofString (toString (((S r).length : Nat) : Int)) = sz at *
    generalize Str.ofString (toString ((chk (tl (S r)) : Nat) : Int)) = ck at *
    have l1 (c : Str) (h : c.length = 1) : (c ++ sz).length ≤ 5000 := by rw [strLen_append]; omega
    have l2 (c : Str) (h : c.length = 1) : (c ++ ck).length ≤ 5000 := by rw [strLen_append]; omega
    have one (c : Str) (h : c.length = 1) (n : Nat) (hn : n ≤ 5000) : (Txt.mul c n).length ≤ 5000 := by
      have := PyProof.Rows.len_mul c n
      rw [h] at this
      split at this <;> omega
    refine ⟨_, rfl, _, _, rfl, rfl, small (by show 1 + sz.length ≤ _; omega), _, rfl, ?_⟩
    refine ⟨two, fun a1 m1 => ?_⟩
    obtain ⟨G1, e, s1, r1⟩ := mkE m1 ("0" ++ sz) (ck) (by exact l1 _ rfl) (by omega) (by repeat' (first | assumption | with_reducible exact okt_of _ | with_reducible apply okt_app)) (by repeat' (first | assumption | with_reducible exact okt_of _ | with_reducible apply okt_app))
    rw [e]
    clear e
    refine ⟨_, rfl, _, rfl, _, _, rfl, rfl, small (by show 1 + ck.length ≤ _; omega), ?_⟩
    refine ⟨two, fun a2 m2 => ?_⟩
    obtain ⟨G2, e, s2, r2⟩ := mkE m2 (sz) ("0" ++ ck) (by omega) (by exact l2 _ rfl) (by repeat' (first | assumption | with_reducible exact okt_of _ | with_reducible apply okt_app)) (by repeat' (first | assumption | with_reducible exact okt_of _ | with_reducible apply okt_app))
    rw [e]
    clear e
    refine ⟨_, rfl, _, rfl, small (by omega), _, _, rfl, rfl, _, rfl, log_nat (n := (S r).length + 1) (by omega), _, rfl, ?_⟩
    refine ⟨two, fun a3 m3 => ?_⟩
    obtain ⟨G3, e, s3, r3⟩ := mkE m3 (Str.ofString (toString (((S r).length : Int) + 1))) (ck) (by exact Nat.le_trans (num_len (n := (S r).length + 1) (by omega)) (by decide)) (by omega) (by repeat' (first | assumption | with_reducible exact okt_of _ | with_reducible apply okt_app)) (by repeat' (first | assumption | with_reducible exact okt_of _ | with_reducible apply okt_app))
    rw [e]
    clear e
    refine ⟨_, _, rfl, rfl, ⟨by decide, fun _ _ => by decide, fun _ _ => by decide⟩, _, rfl, ?_⟩
    refine ⟨two, fun a4 m4 => ?_⟩
    obtain ⟨G4, e, s4, r4⟩ := mkE m4 (Txt.mul "9" 5000) (ck) (by exact one _ rfl 5000 (by decide)) (by omega) (okt_mul (okt_of _)) o2
    rw [e]
    clear e
    refine ⟨by show 4 ≤ sizeLine; decide, fun L1 n5 => ?_⟩
    obtain ⟨G5, e, s5, h5⟩ := mkL n5 [.ref a1, .ref a2, .ref a3, .ref a4]
    rw [e]
    clear e
    have p5 : Prs G5 [.ref a1, .ref a2, .ref a3, .ref a4] := by
      intro v hv
      simp only [List.mem_cons, List.mem_nil_iff, or_false] at hv
      rcases hv with rfl | rfl | rfl | rfl
      · exact (((r1.same s2).same s3).same s4).same s5
      · exact ((r2.same s3).same s4).same s5
      · exact (r3.same s4).same s5
      · exact r4.same s5
    have t5 := (((s1.trans s2).trans s3).trans s4).trans s5
    clear s1 s2 s3 s4 s5 r1 r2 r3 r4
    refine ⟨_, rfl, _, rfl, _, rfl, _, rfl, _, _, rfl, rfl, _, rfl, log_nat (n := chk (tl (S r)) + 1) (by omega), ?_⟩
    refine ⟨two, fun a1 m5 => ?_⟩
    obtain ⟨G1, e, s1, r1⟩ := mkE m5 (sz) (Str.ofString (toString ((chk (tl (S r)) : Int) + 1))) (by omega) (by exact Nat.le_trans (num_len (n := chk (tl (S r)) + 1) (by omega)) (by decide)) (by repeat' (first | assumption | with_reducible exact okt_of _ | with_reducible apply okt_app)) (by repeat' (first | assumption | with_reducible exact okt_of _ | with_reducible apply okt_app))
    rw [e]
    clear e
    refine ⟨_, rfl, _, _, rfl, rfl, small (by show 1 + sz.length ≤ _; omega), _, rfl, ?_⟩
    refine ⟨two, fun a2 m6 => ?_⟩
    obtain ⟨G2, e, s2, r2⟩ := mkE m6 ("+" ++ sz) (ck) (by exact l1 _ rfl) (by omega) (by repeat' (first | assumption | with_reducible exact okt_of _ | with_reducible apply okt_app)) (by repeat' (first | assumption | with_reducible exact okt_of _ | with_reducible apply okt_app))
    rw [e]
    clear e
    refine ⟨_, rfl, _, _, rfl, rfl, ⟨by decide, fun _ _ => by decide, fun _ _ => by decide⟩, ?_⟩
    refine ⟨two, fun a3 m7 => ?_⟩
    obtain ⟨G3, e, s3, r3⟩ := mkE m7 (sz) (Txt.mul "7" 4500) (by omega) (by exact one _ rfl 4500 (by decide)) o1 (okt_mul (okt_of _))
    rw [e]
    clear e
    refine ⟨_, rfl, _, _, rfl, rfl, small (by show 1 + sz.length ≤ _; omega), _, rfl, ?_⟩
    refine ⟨two, fun a4 m8 => ?_⟩
    obtain ⟨G4, e, s4, r4⟩ := mkE m8 (" " ++ sz) (ck) (by exact l1 _ rfl) (by omega) (by repeat' (first | assumption | with_reducible exact okt_of _ | with_reducible apply okt_app)) (by repeat' (first | assumption | with_reducible exact okt_of _ | with_reducible apply okt_app))
    rw [e]
    clear e
    refine ⟨by show 4 ≤ sizeLine; decide, fun L2 n6 => ?_⟩
    obtain ⟨G6, e, s6, h6⟩ := mkL n6 [.ref a1, .ref a2, .ref a3, .ref a4]
    rw [e]
    clear e
    have t6 := (((s1.trans s2).trans s3).trans s4).trans s6
    refine ⟨L1, L2, _, _, rfl, rfl, t6 _ _ h5, h6, by show 8 ≤ sizeLine; decide, fun L3 n7 => ?_⟩
    obtain ⟨G7, e, s7, h7⟩ := mkL n7 _
    rw [e]
    clear e
    have p7 : Prs G7 ([.ref a1, .ref a2, .ref a3, .ref a4]) := by
      intro v hv
      simp only [List.mem_cons, List.mem_nil_iff, or_false] at hv
      rcases hv with rfl | rfl | rfl | rfl
      · exact ((((r1.same s2).same s3).same s4).same s6).same s7
      · exact (((r2.same s3).same s4).same s6).same s7
      · exact ((r3.same s4).same s6).same s7
      · exact (r4.same s6).same s7
    have q7 := (p5.same t6).same s7
    have t7 := (t5.trans t6).trans s7
    clear s1 s2 s3 s4 s6 s7 r1 r2 r3 r4 t5 t6 p5 h5 h6
    generalize hX : [V.ref a1, .ref a2, .ref a3, .ref a4] = X at *
    refine ⟨_, rfl, _, rfl, _, rfl, _, _, rfl, rfl, small (by show sz.length + 1 ≤ _; omega), _, rfl, ?_⟩
    refine ⟨two, fun c1 m9 => ?_⟩
    obtain ⟨G1, e, s1, r1⟩ := mkE m9 (sz ++ " ") (ck) (by rw [strLen_append]; show sz.length + 1 ≤ _; omega) (by omega) (by repeat' (first | assumption | with_reducible exact okt_of _ | with_reducible apply okt_app)) (by repeat' (first | assumption | with_reducible exact okt_of _ | with_reducible apply okt_app))
    rw [e]
    clear e
    refine ⟨_, rfl, ?_⟩
    refine ⟨two, fun c2 m10 => ?_⟩
    obtain ⟨G2, e, s2, r2⟩ := mkE m10 ("") (ck) (by show 0 ≤ 5000; decide) (by omega) (by repeat' (first | assumption | with_reducible exact okt_of _ | with_reducible apply okt_app)) (by repeat' (first | assumption | with_reducible exact okt_of _ | with_reducible apply okt_app))
    rw [e]
    clear e
    refine ⟨_, rfl, ?_⟩
    refine ⟨two, fun c3 m11 => ?_⟩
    obtain ⟨G3, e, s3, r3⟩ := mkE m11 (sz) ("") (by omega) (by show 0 ≤ 5000; decide) (by repeat' (first | assumption | with_reducible exact okt_of _ | with_reducible apply okt_app)) (by repeat' (first | assumption | with_reducible exact okt_of _ | with_reducible apply okt_app))
    rw [e]
    clear e
    refine ⟨_, rfl, _, rfl, _, _, rfl, rfl, small (by show ck.length + 1 ≤ _; omega), ?_⟩
    refine ⟨two, fun c4 m12 => ?_⟩
    obtain ⟨G4, e, s4, r4⟩ := mkE m12 (sz) (ck ++ ".") (by omega) (by rw [strLen_append]; show ck.length + 1 ≤ _; omega) (by repeat' (first | assumption | with_reducible exact okt_of _ | with_reducible apply okt_app)) (by repeat' (first | assumption | with_reducible exact okt_of _ | with_reducible apply okt_app))
    rw [e]
    clear e
    refine ⟨by show 4 ≤ sizeLine; decide, fun L4 n8 => ?_⟩
    obtain ⟨G8, e, s8, h8⟩ := mkL n8 [.ref c1, .ref c2, .ref c3, .ref c4]
    rw [e]
    clear e
    have t8 := (((s1.trans s2).trans s3).trans s4).trans s8
    refine ⟨L3, L4, _, _, rfl, rfl, t8 _ _ h7, h8, by rw [← hX]; show 12 ≤ sizeLine; decide, fun L5 n9 => ?_⟩
    obtain ⟨G9, e, s9, h9⟩ := mkL n9 _
    rw [e]
    clear e
    have p9 : Prs G9 ([.ref c1, .ref c2, .ref c3, .ref c4]) := by
      intro v hv
      simp only [List.mem_cons, List.mem_nil_iff, or_false] at hv
      rcases hv with rfl | rfl | rfl | rfl
      · exact ((((r1.same s2).same s3).same s4).same s8).same s9
      · exact (((r2.same s3).same s4).same s8).same s9
      · exact ((r3.same s4).same s8).same s9
      · exact (r4.same s8).same s9
    have x9 := (p7.same t8).same s9
    have y9 := (q7.same t8).same s9
    have t9 := (t7.trans t8).trans s9
    have hp9 : PotAt G9 p := hp.same t9
    have np : L5 ≠ p := (hp.same (t7.trans t8)).ne n9
    refine ⟨p, _, rfl, hp9, .inl ⟨L5, _, rfl, h9, by simp, by rw [← hX]; simp, np, fun H' v b hp' hv => ?_⟩⟩
    have pv : Pr G9 v := by
      rcases List.mem_append.mp hv with hv | hv
      · rcases List.mem_append.mp hv with hv | hv
        · exact y9 v hv
        · exact x9 v hv
      · exact p9 v hv
    obtain ⟨tt, a, b', rfl, ht, la, lb, oa, ob⟩ := pv
    have o3 : PyData.strOk (S r) = true := okt_S fun c hc => Nat.lt_trans (hr'.2.2 c hc) (by decide)
    have ht' := b _ _ ht (fun e => by
      obtain ⟨x, y, e2, _⟩ := hp9
      rw [e, e2] at ht
      cases ht)
    refine ⟨tt, _, rfl, SqT.of ht', rfl, _, _, rfl, _, _, rfl, rfl, ?_⟩
    refine ⟨_, rfl, _, _, rfl, rfl, small (by show a.length + 1 ≤ _; omega), _, rfl, _, _, rfl, rfl, ?_, _, _, rfl, rfl, ?_, _, rfl, _, _, rfl, rfl, ?_, _, _, rfl, rfl, ?_, ?_⟩
    · rw [strLen_append]
      exact small (by show a.length + 1 + b'.length ≤ _; omega)
    · rw [strLen_append, strLen_append]
      exact small (by show a.length + 1 + b'.length + 1 ≤ _; omega)
    · rw [strLen_append, strLen_append, strLen_append]
      exact small (by show a.length + 1 + b'.length + 1 + (S r).length ≤ _; omega)
    · rw [strLen_append, strLen_append, strLen_append, strLen_append]
      exact small (by show a.length + 1 + b'.length + 1 + (S r).length + 1 ≤ _; omega)
    · rw [← S_tl (_ ++ _)]
      refine q _ _ ((But.of t9).trans b) hp' ?_ (ok_str.mp (by repeat' (first | assumption | with_reducible exact okt_of _ | with_reducible apply okt_app)))
      rw [← TL.len_tl, strLen_append, strLen_append, strLen_append, strLen_append, strLen_append]
      show a.length + 1 + b'.length + 1 + (S r).length + 1 ≤ _
      omega
end
end K75

set_option Elab.async false
set_option linter.all false
set_option maxRecDepth 100000
set_option maxHeartbeats 4000000
/-! U75: spoilt texts. -/
namespace K75
open PySem PySem.Spec PyProof.Rows L2 LL
abbrev s_l_spoilt : Stmt := top 23
abbrev n_l_spoilt : List Str := ["_law_pot_here", "_law_rows", "_law_text", "_law_way", "_law_at", "_law_sign", "_law_ahead", "_law_behind", "_law_place"]
theorem sc_l_spoilt : FnScope n_l_spoilt ["_law_pot_here", "_law_rows"] (defScope s_l_spoilt) := ⟨rfl, rfl, rfl, by decide +kernel, rfl, by decide +kernel, by decide +kernel⟩
section
variable {P : Program} {w : World} {K : PySem.W.Frag} {mg : Str → Option Value} {base : Heap} {CE CR : Addr} {f : Addr} {fd : FuncData}
theorem fl_take (rs : List (List Nat)) (n : Nat) : (rs.take n).flatten.length ≤ rs.flatten.length := by
  have e := congrArg List.length (congrArg List.flatten (List.take_append_drop n rs))
  rw [List.flatten_append, List.length_append] at e
  omega
theorem fl_drop (rs : List (List Nat)) (n : Nat) : (rs.drop n).flatten.length ≤ rs.flatten.length := by
  have e := congrArg List.length (congrArg List.flatten (List.take_append_drop n rs))
  rw [List.flatten_append, List.length_append] at e
  omega
theorem st_take (rs : List (List Nat)) (n : Nat) : cutV (stV rs) none (some (n : Int)) = stV (rs.take n) := by rw [cutV_to, stV, stV, List.map_take]
theorem st_drop (rs : List (List Nat)) (n : Nat) : cutV (stV rs) (some (n : Int)) none = stV (rs.drop n) := by rw [cutV_from, stV, stV, List.map_drop]
theorem st_drop1 (rs : List (List Nat)) (n : Nat) : cutV (stV rs) (some ((n : Int) + 1)) none = stV (rs.drop (n + 1)) := st_drop rs (n + 1)
theorem st_one (rs : List (List Nat)) (n : Nat) : cutV (stV rs) (some (n : Int)) (some ((n : Int) + 1)) = stV ((rs.drop n).take 1) := by rw [cutV_one, stV, stV, List.map_take, List.map_drop]
theorem st_app (a b : List (List Nat)) : stV a ++ stV b = stV (a ++ b) := by rw [stV, stV, stV, List.map_append]
theorem st_two (a : List (List Nat)) : (List.replicate (2 : Int).toNat (stV a)).flatten = stV (a ++ a) := by
  show stV a ++ (stV a ++ []) = _
  rw [List.append_nil, st_app]
theorem ok_flat {ls : List (List Nat)} (h : ∀ r ∈ ls, Ok r) : Ok ls.flatten := fun c hc => by
  obtain ⟨l, hl, hc⟩ := List.mem_flatten.mp hc
  exact h l hl c hc
theorem ok_cut {z : Str} (h : PyData.strOk z = true) (lo hi : Option Int) : PyData.strOk (cutS z lo hi) = true := by
  rw [okt_iff] at h ⊢
  exact fun c hc => h c (List.mem_of_mem_drop (List.mem_of_mem_take hc))
theorem ok_app {a b : List (List Nat)} (ha : ∀ r ∈ a, Ok r) (hb : ∀ r ∈ b, Ok r) : ∀ r ∈ a ++ b, Ok r := fun r hr => (List.mem_append.mp hr).elim (ha r) (hb r)
theorem ok_take {a : List (List Nat)} {n : Nat} (ha : ∀ r ∈ a, Ok r) : ∀ r ∈ a.take n, Ok r := fun r hr => ha r (List.mem_of_mem_take hr)
theorem ok_drop {a : List (List Nat)} {n : Nat} (ha : ∀ r ∈ a, Ok r) : ∀ r ∈ a.drop n, Ok r := fun r hr => ha r (List.mem_of_mem_drop hr)
theorem ok_one {y : List Nat} (h : Ok y) : ∀ r ∈ [y], Ok r := fun r hr => by rw [List.mem_singleton.mp hr]; exact h
theorem sq_st {H : Hp} {D : Addr} {ls : List (List Nat)} (h : H D = some (.lst (stV ls))) : SqL K H D ((ls.map S).map V.str) := SqL.of (by rw [h, stV_eq])
theorem sz_st {ls : List (List Nat)} (l : ls.flatten.length ≤ 100000) : ((ls.map S).map (·.length)).sum + (ls.map S).length * (("" : Str)).length ≤ 16777216 := by
  rw [sum_flat, show (("" : Str)).length = 0 from rfl]
  omega
def spSpoilt : Sp := fun vs H Q _ => ∃ (p l : Addr) (rs : List (List Nat)), vs = [.ref p, .ref l] ∧ PotAt H p ∧ H l = some (.lst (stV rs)) ∧ rs.length ≤ 1000 ∧ rs.flatten.length ≤ 5000 ∧ (∀ r ∈ rs, Ok r) ∧ l ≠ p ∧ ∀ H' y, But p H H' → PotAt H' p → y.length ≤ 30000 → Ok y → Q (.str (S y)) H'
theorem ok_l_spoilt (T : Tx K mg CE CR) (G_l_take : Fnc P w K mg base CX0 1 "_law_take" [] spTake) (G_l_pick : Fnc P w K mg base CX0 2 "_law_pick" [] spPick) (G_l_record : Fnc P w K mg base CX0 3 "_law_record" [] spRec) (G_l_odd_row : Fnc P w K mg base CX0 3 "_law_odd_row" [] spOdd) (F : FD K "_law_spoilt" "_law_spoilt" s_l_spoilt [] f fd) : FnG P w K mg base CX0 4 f fd ["_law_pot_here", "_law_rows"] spSpoilt := by
  refine ok0 F sc_l_spoilt (fun vs H Q E h => ?_) (fun cdv A outer s H vs Q E hr h => ?_)
  · obtain ⟨p, l, rs, rfl, _⟩ := h
    rfl
  · obtain ⟨p, l, rs, rfl, hp, hl, nr, lr, okr, nlp, q⟩ := h
    refine ⟨_, (pss_cons (ps_par (i := 2) (j := 3) rfl sc_l_spoilt.nd rfl rfl (by decide) rfl rfl (pa_cons (pe_join pe_str (pv 1)) (pa_cons (pe_fn G_l_take (hr.mono (by decide)) pass0 (pa_cons (pv 0) (pa_cons pe_int pa_nil))) pa_nil)) (by rfl))
      (pss_cons (ps_par (i := 4) (j := 5) rfl sc_l_spoilt.nd rfl rfl (by decide) rfl rfl (pa_cons (pe_fn G_l_take (hr.mono (by decide)) pass0 (pa_cons (pv 0) (pa_cons (pe_op op_add (pe_callB call_len_str (by rfl) T.n_len (by decide +kernel) (pa_cons (pv 2) pa_nil)) pe_int) pa_nil))) (pa_cons (pe_fn G_l_pick (hr.mono (by decide)) pass0 (pa_cons (pv 0) (pa_cons pe_str pa_nil))) pa_nil)) (by rfl))
      (pss_cons (ps_if (pt_cmpR op_lt (pv 3) pe_int (nomark _)) (pss_cons (ps_par (i := 6) (j := 7) rfl sc_l_spoilt.nd rfl rfl (by decide) rfl rfl (pa_cons (pe_slice sl_str (pv 2) po_none (po_some (pv 4))) (pa_cons (pe_slice sl_str (pv 2) (po_some (pv 4)) po_none) pa_nil)) (by rfl))
      (pss_one (ps_ret (pe_ix ix_list (pe_lst (pa_cons (pv 6) (pa_cons (pe_op op_add_str (pe_op op_add_str (pv 6) (pv 5)) (pv 7)) (pa_cons (pe_op op_add_str (pv 6) (pe_slice sl_str (pv 7) (po_some pe_int) po_none)) (pa_cons (pe_op op_add_str (pe_op op_add_str (pv 6) (pv 5)) (pe_slice sl_str (pv 7) (po_some pe_int) po_none)) pa_nil))))) (pv 3) (fun _ _ => rfl))))) pss_nil)
      (pss_cons (ps_set (i := 8) sc_l_spoilt.nd rfl (by first | exact Or.inl rfl | exact Or.inr rfl) (pe_fn G_l_take (hr.mono (by decide)) pass0 (pa_cons (pv 0) (pa_cons (pe_op op_add (pe_callB call_len_seq (by rfl) T.n_len (by decide +kernel) (pa_cons (pv 1) pa_nil)) pe_int) pa_nil))))
      (pss_cons (ps_if (pt_cmpR op_eq (pv 3) pe_int (nomark _)) (pss_one (ps_ret (pe_join pe_str (pe_op op_cat (pe_op op_cat (pe_slice sl_list (pv 1) po_none (po_some (pv 8))) (pe_lst (pa_cons (pe_fn G_l_odd_row (hr.mono (by decide)) pass0 (pa_cons (pv 0) (pa_cons (pe_fn G_l_record (hr.mono (by decide)) pass0 (pa_cons (pv 0) pa_nil)) pa_nil))) pa_nil))) (pe_slice sl_list (pv 1) (po_some (pv 8)) po_none))))) pss_nil)
      (pss_cons (ps_if (pt_cmpR op_eq (pv 3) pe_int (nomark _)) (pss_one (ps_ret (pe_join pe_str (pe_op op_cat (pe_slice sl_list (pv 1) po_none (po_some (pv 8))) (pe_slice sl_list (pv 1) (po_some (pe_op op_add (pv 8) pe_int)) po_none))))) pss_nil)
      (pss_one (ps_ret (pe_join pe_str (pe_op op_cat (pe_op op_cat (pe_slice sl_list (pv 1) po_none (po_some (pv 8))) (pe_op op_rep (pe_slice sl_list (pv 1) (po_some (pv 8)) (po_some (pe_op op_add (pv 8) pe_int))) pe_int)) (pe_slice sl_list (pv 1) (po_some (pe_op op_add (pv 8) pe_int)) po_none))))))))))), ?_⟩
    refine ⟨⟨_, rfl⟩, _, rfl, _, l, rs.map S, rfl, rfl, .inl (sq_st hl), sz_st (by omega), ?_⟩
    rw [join_flat]
    refine ⟨_, rfl, p, 7, rfl, hp, by decide, by decide, fun H1 d b1 hp1 d0 d1 => ⟨_, _, rfl, ?_⟩⟩
    obtain ⟨way, rfl⟩ := Int.eq_ofNat_of_zero_le d0
    have lf := len_S rs.flatten
    have of := okt_S (ok_flat okr)
    refine ⟨_, rfl, _, rfl, _, rfl, small (by omega), _, _, rfl, rfl, p, _, rfl, hp1, by omega, by omega, fun H2 e b2 hp2 e0 e1 => ?_⟩
    obtain ⟨at', rfl⟩ := Int.eq_ofNat_of_zero_le e0
    refine ⟨_, rfl, p, _, rfl, hp2, .inr ⟨_, rfl, by decide +kernel, by decide +kernel, fun H3 c b3 hp3 hc => ⟨_, _, rfl, ?_⟩⟩⟩
    have b := (b1.trans b2).trans b3
    have hl3 := b _ _ hl nlp
    clear b1 b2 b3 hp1 hp2 hp
    generalize hz : S rs.flatten = z at *
    refine ⟨_, rfl, _, _, rfl, rfl, _, rfl, iteB (fun c4 => ?_) (fun c4 => ?_)⟩
    · refine ⟨_, rfl, _, rfl, _, rfl, _, rfl, small (by omega), _, rfl, _, rfl, _, rfl, _, rfl, small (by omega), _, _, rfl, ?_⟩
      have oc : PyData.strOk ⟨#[c]⟩ = true := by
        have all : ∀ c ∈ ((" \n0129abz.-" : String) : Str).cps.toList, PyData.strOk ⟨#[c]⟩ = true := by decide +kernel
        exact all c hc
      have oa := ok_cut of none (some (at' : Int))
      have ob := ok_cut of (some (at' : Int)) none
      have la := cutS_length z none (some (at' : Int))
      have lb := cutS_length z (some (at' : Int)) none
      generalize cutS z none (some (at' : Int)) = ah at *
      generalize cutS z (some (at' : Int)) none = be at *
      have lc := cutS_length be (some 1) none
      have l1 : (⟨#[c]⟩ : Str).length = 1 := rfl
      have x1 : (ah ++ ⟨#[c]⟩).length = ah.length + 1 := by rw [strLen_append, l1]
      refine ⟨_, rfl, _, rfl, _, rfl, _, _, rfl, rfl, small (by omega), _, rfl, _, _, rfl, rfl, small (by omega), _, rfl, _, rfl, _, rfl, _, rfl, small (by omega), _, _, rfl, rfl, small (by omega), _, rfl, _, rfl, _, _, rfl, rfl, small (by omega), _, rfl, _, rfl, _, rfl, small (by omega), _, _, rfl, rfl, small (by omega), by show 4 ≤ sizeLine; decide, fun L nL => ?_⟩
      have hw : way < 4 := by have := of_decide_eq_true c4; omega
      generalize hX : [V.str ah, V.str (ah ++ ⟨#[c]⟩ ++ be), V.str (ah ++ cutS be (some 1) none), V.str (ah ++ ⟨#[c]⟩ ++ cutS be (some 1) none)] = X
      have hn : way < X.length := by rw [← hX]; exact hw
      refine ⟨_, rfl, L, X, _, X[way], rfl, rfl, SqL.of (hX ▸ upd_same), atI_nat (List.getElem?_eq_getElem hn), ?_⟩
      have all : ∀ v ∈ X, ∃ y : Str, v = .str y ∧ y.length ≤ 30000 ∧ PyData.strOk y = true := by
        rw [← hX]
        intro v hv
        simp only [List.mem_cons, List.mem_nil_iff, or_false] at hv
        rcases hv with rfl | rfl | rfl | rfl
        · exact ⟨_, rfl, by omega, by repeat' (first | assumption | with_reducible exact okt_of _ | with_reducible apply okt_app | with_reducible apply ok_cut)⟩
        · exact ⟨_, rfl, by rw [strLen_append, x1]; omega, by repeat' (first | assumption | with_reducible exact okt_of _ | with_reducible apply okt_app | with_reducible apply ok_cut)⟩
        · exact ⟨_, rfl, by rw [strLen_append]; omega, by repeat' (first | assumption | with_reducible exact okt_of _ | with_reducible apply okt_app | with_reducible apply ok_cut)⟩
        · exact ⟨_, rfl, by rw [strLen_append, x1]; omega, by repeat' (first | assumption | with_reducible exact okt_of _ | with_reducible apply okt_app | with_reducible apply ok_cut)⟩
      obtain ⟨y, ey, ly, oy⟩ := all _ (List.getElem_mem hn)
      rw [ey, ← S_tl y]
      exact q _ _ (b.trans (But.of (same_upd nL))) (hp3.upd nL) (by rw [← TL.len_tl]; exact ly) (ok_str.mp oy)
    · refine ⟨_, rfl, _, rfl, l, _, rfl, .inl (SqL.of hl3), _, _, rfl, rfl, p, _, rfl, hp3, by omega, by rw [List.length_map]; omega, fun H4 e b4 hp4 g0 g1 => ?_⟩
      obtain ⟨pl, rfl⟩ := Int.eq_ofNat_of_zero_le g0
      have hl4 := b4 _ _ hl3 nlp
      have b5 := b.trans b4
      clear b b4 hp3 hl3
      refine ⟨_, rfl, rfl, _, rfl, iteB (fun _ => ?_) (fun _ => ?_)⟩
      · -- an odd row
        refine ⟨⟨_, rfl⟩, _, rfl, _, rfl, _, rfl, l, _, rfl, SqL.of hl4, fun a1 n1 => ?_⟩
        rw [st_take]
        obtain ⟨G1, e, s1, h1⟩ := mkL n1 (stV (rs.take pl))
        rw [e]
        clear e
        have np1 : a1 ≠ p := hp4.ne n1
        refine ⟨_, rfl, _, rfl, p, rfl, hp4.same s1, fun H5 r c5 hp5 ok => ⟨p, r, rfl, hp5, ok, fun H6 y c6 hp6 ly oy => ?_⟩⟩
        refine ⟨by show 1 ≤ sizeLine; decide, fun a2 n2 => ?_⟩
        obtain ⟨G2, e, s2, h2⟩ := mkL n2 (stV [y])
        rw [show [V.str (S y)] = stV [y] from rfl, e]
        clear e
        have bb := (((But.of s1).trans c5).trans c6).trans (But.of s2)
        have h1' := (((c5.trans c6).trans (But.of s2)) _ _ h1 np1)
        refine ⟨a1, a2, _, _, rfl, rfl, h1', h2, small (by rw [List.length_map, List.length_map, List.length_take]; show _ + 1 ≤ _; omega), fun a3 n3 => ?_⟩
        rw [st_app]
        obtain ⟨G3, e, s3, h3⟩ := mkL n3 (stV (rs.take pl ++ [y]))
        rw [e]
        clear e
        have bb3 := bb.trans (But.of s3)
        have hl6 := bb3 _ _ hl4 nlp
        refine ⟨_, rfl, _, rfl, _, rfl, l, _, rfl, SqL.of hl6, fun a4 n4 => ?_⟩
        rw [st_drop]
        obtain ⟨G4, e, s4, h4⟩ := mkL n4 (stV (rs.drop pl))
        rw [e]
        clear e
        refine ⟨a3, a4, _, _, rfl, rfl, s4 _ _ h3, h4, small (by rw [List.length_map, List.length_map, List.length_append, List.length_take, List.length_drop]; show _ + 1 + _ ≤ _; omega), fun a5 n5 => ?_⟩
        rw [st_app]
        obtain ⟨G5, e, s5, h5⟩ := mkL n5 (stV (rs.take pl ++ [y] ++ rs.drop pl))
        rw [e]
        clear e
        have f1 := fl_take rs pl
        have f2 := fl_drop rs pl
        have lt : (rs.take pl ++ [y] ++ rs.drop pl).flatten.length ≤ 30000 := by
          rw [List.flatten_append, List.flatten_append, List.length_append, List.length_append, List.flatten_singleton]
          omega
        refine ⟨_, a5, (rs.take pl ++ [y] ++ rs.drop pl).map S, rfl, rfl, .inl (sq_st h5), sz_st (by omega), ?_⟩
        rw [join_flat]
        exact q _ _ ((b5.trans bb3).trans ((But.of s4).trans (But.of s5))) (((hp6.same s2).same s3).same s4 |>.same s5) lt (ok_flat (by repeat' (first | assumption | apply ok_app | apply ok_take | apply ok_drop | apply ok_one)))
      · refine ⟨_, rfl, rfl, _, rfl, iteB (fun _ => ?_) (fun _ => ?_)⟩
        · -- a row left out
          refine ⟨⟨_, rfl⟩, _, rfl, _, rfl, _, rfl, l, _, rfl, SqL.of hl4, fun a1 n1 => ?_⟩
          rw [st_take]
          obtain ⟨G1, e, s1, h1⟩ := mkL n1 (stV (rs.take pl))
          rw [e]
          clear e
          refine ⟨_, rfl, _, rfl, _, _, rfl, rfl, _, rfl, l, _, rfl, SqL.of (s1 _ _ hl4), fun a2 n2 => ?_⟩
          rw [st_drop1]
          obtain ⟨G2, e, s2, h2⟩ := mkL n2 (stV (rs.drop (pl + 1)))
          rw [e]
          clear e
          refine ⟨a1, a2, _, _, rfl, rfl, s2 _ _ h1, h2, small (by rw [List.length_map, List.length_map, List.length_take, List.length_drop]; omega), fun a3 n3 => ?_⟩
          rw [st_app]
          obtain ⟨G3, e, s3, h3⟩ := mkL n3 (stV (rs.take pl ++ rs.drop (pl + 1)))
          rw [e]
          clear e
          have f1 := fl_take rs pl
          have f2 := fl_drop rs (pl + 1)
          have lt : (rs.take pl ++ rs.drop (pl + 1)).flatten.length ≤ 30000 := by
            rw [List.flatten_append, List.length_append]
            omega
          refine ⟨_, a3, (rs.take pl ++ rs.drop (pl + 1)).map S, rfl, rfl, .inl (sq_st h3), sz_st (by omega), ?_⟩
          rw [join_flat]
          have ss := (s1.trans s2).trans s3
          exact q _ _ (b5.trans (But.of ss)) (hp4.same ss) lt (ok_flat (by repeat' (first | assumption | apply ok_app | apply ok_take | apply ok_drop | apply ok_one)))
        · -- a row twice
          refine ⟨⟨_, rfl⟩, _, rfl, _, rfl, _, rfl, l, _, rfl, SqL.of hl4, fun a1 n1 => ?_⟩
          rw [st_take]
          obtain ⟨G1, e, s1, h1⟩ := mkL n1 (stV (rs.take pl))
          rw [e]
          clear e
          refine ⟨_, rfl, _, rfl, _, rfl, _, rfl, _, _, rfl, rfl, _, rfl, l, _, rfl, SqL.of (s1 _ _ hl4), fun a2 n2 => ?_⟩
          rw [st_one]
          obtain ⟨G2, e, s2, h2⟩ := mkL n2 (stV ((rs.drop pl).take 1))
          rw [e]
          clear e
          refine ⟨a2, _, _, rfl, rfl, h2, by decide, by decide, small (by show _ * 2 ≤ _; rw [List.length_map, List.length_take]; omega), fun a3 n3 => ?_⟩
          rw [st_two]
          obtain ⟨G3, e, s3, h3⟩ := mkL n3 (stV ((rs.drop pl).take 1 ++ (rs.drop pl).take 1))
          rw [e]
          clear e
          refine ⟨a1, a3, _, _, rfl, rfl, s3 _ _ (s2 _ _ h1), h3, small (by rw [List.length_map, List.length_map, List.length_append, List.length_take, List.length_take]; omega), fun a4 n4 => ?_⟩
          rw [st_app]
          obtain ⟨G4, e, s4, h4⟩ := mkL n4 (stV (rs.take pl ++ ((rs.drop pl).take 1 ++ (rs.drop pl).take 1)))
          rw [e]
          clear e
          have ss4 := ((s1.trans s2).trans s3).trans s4
          refine ⟨_, rfl, _, rfl, _, _, rfl, rfl, _, rfl, l, _, rfl, SqL.of (ss4 _ _ hl4), fun a5 n5 => ?_⟩
          rw [st_drop1]
          obtain ⟨G5, e, s5, h5⟩ := mkL n5 (stV (rs.drop (pl + 1)))
          rw [e]
          clear e
          refine ⟨a4, a5, _, _, rfl, rfl, s5 _ _ h4, h5, small (by simp only [List.length_map, List.length_append, List.length_take, List.length_drop]; omega), fun a6 n6 => ?_⟩
          rw [st_app]
          obtain ⟨G6, e, s6, h6⟩ := mkL n6 (stV (rs.take pl ++ ((rs.drop pl).take 1 ++ (rs.drop pl).take 1) ++ rs.drop (pl + 1)))
          rw [e]
          clear e
          have f1 := fl_take rs pl
          have f2 := fl_drop rs (pl + 1)
          have f3 := Nat.le_trans (fl_take (rs.drop pl) 1) (fl_drop rs pl)
          have lt : (rs.take pl ++ ((rs.drop pl).take 1 ++ (rs.drop pl).take 1) ++ rs.drop (pl + 1)).flatten.length ≤ 30000 := by
            rw [List.flatten_append, List.flatten_append, List.flatten_append, List.length_append, List.length_append, List.length_append]
            omega
          refine ⟨_, a6, (rs.take pl ++ ((rs.drop pl).take 1 ++ (rs.drop pl).take 1) ++ rs.drop (pl + 1)).map S, rfl, rfl, .inl (sq_st h6), sz_st (by omega), ?_⟩
          rw [join_flat]
          have ss := (ss4.trans s5).trans s6
          exact q _ _ (b5.trans (But.of ss)) (hp4.same ss) lt (ok_flat (by repeat' (first | assumption | apply ok_app | apply ok_take | apply ok_drop | apply ok_one)))
end
end K75

set_option Elab.async false
set_option linter.all false
set_option maxRecDepth 100000
set_option maxHeartbeats 1000000
/-! R75: _law_refused, _law_replaced_right. -/
namespace K75
open PySem PySem.Spec PyProof.Rows L2 LL
abbrev s_l_refused : Stmt := top 24
abbrev n_l_refused : List Str := ["_law_call", "_law_found", "e"]
theorem sc_l_refused : FnScope n_l_refused ["_law_call"] (defScope s_l_refused) := ⟨rfl, rfl, rfl, by decide +kernel, rfl, by decide +kernel, by decide +kernel⟩
abbrev s_l_replaced_right : Stmt := top 25
abbrev n_l_replaced_right : List Str := ["_law_pot_here", "_law_records", "_law_rows", "_law_place", "_law_row_here", "_law_at", "_law_sign", "_law_one", "_law_fresh", "_law_told"]
theorem sc_l_replaced_right : FnScope n_l_replaced_right ["_law_pot_here", "_law_records", "_law_rows"] (defScope s_l_replaced_right) := ⟨rfl, rfl, rfl, by decide +kernel, rfl, by decide +kernel, by decide +kernel⟩
section
variable {P : Program} {w : World} {K : PySem.W.Frag} {mg : Str → Option Value} {base : Heap} {CE CR : Addr} {f : Addr} {fd : FuncData}
/-! ### lists of texts, compared -/
def tx (ls : List (List Nat)) : PyData := .list (ls.map fun r => .str (S r))
theorem tx_dpa {H : Hp} : ∀ ls : List (List Nat), DpAll K H (stV ls) (ls.map fun r => .str (S r))
  | [] => .nil
  | _ :: ls => .cons (.str _) (tx_dpa ls)
theorem tx_dp {H : Hp} {p : Addr} {ls : List (List Nat)} (h : H p = some (.lst (stV ls))) : Dp K H (.ref p) (tx ls) := .lst (SqL.of h) (tx_dpa ls)
theorem tx_laya : ∀ ls : List (List Nat), (∀ r ∈ ls, Ok r) → PyData.canLayAll0 (ls.map fun r => .str (S r)) = true
  | [], _ => rfl
  | r :: ls, h => by
    rw [List.map_cons, PyData.canLayAll0, tx_laya ls (fun x hx => h x (List.mem_cons_of_mem _ hx)), PyData.canLay0, okt_S (h r (List.mem_cons_self ..))]
    rfl
theorem tx_lay {ls : List (List Nat)} (h : ∀ r ∈ ls, Ok r) : PyData.canLay0 (tx ls) = true := by
  rw [tx, PyData.canLay0]
  exact tx_laya ls h
theorem tx_dep : ∀ ls : List (List Nat), PyData.depthAll (ls.map fun r => .str (S r)) ≤ 5
  | [] => by simp [PyData.depthAll]
  | r :: ls => by
    rw [List.map_cons, PyData.depthAll]
    refine Nat.max_le.mpr ⟨?_, tx_dep ls⟩
    simp [PyData.depth]
theorem tx_shp {ls : List (List Nat)} (h : ∀ r ∈ ls, Ok r) : SeqAt.shaped (tx ls) = true := by
  unfold SeqAt.shaped
  rw [tx_lay h]
  have := tx_dep ls
  rw [Bool.true_and]
  refine decide_eq_true ?_
  rw [tx, PyData.depth]
  omega
theorem tx_eq {ls : List (List Nat)} (h : ∀ r ∈ ls, Ok r) : PyData.eqv (tx ls) (tx ls) = true := SeqAt.eqv_refl _ (tx_lay h)
theorem cmp_eq {H : Hp} {p q : Addr} {ls : List (List Nat)} (h : ∀ r ∈ ls, Ok r) (hp : H p = some (.lst (stV ls))) (hq : H q = some (.lst (stV ls))) {Q : VK} (k : Q (.bl true) H) : rEqD K (.ref p) (.ref q) H Q :=
  ⟨tx ls, tx ls, tx_dp hp, tx_dp hq, tx_shp h, tx_shp h, by rw [tx_eq h]; exact k⟩
/-! ### _law_refused -/
def Ech (K : PySem.W.Frag) (CR : Addr) (Q : VK) : XK := fun cls d G => ∃ v dd dv, d = some dd ∧ G dd = some (.xd [("value", v)]) ∧ Dq K G v dv ∧ cls = .ref CR ∧ ∀ t, G t = none → Q (.ref t) (upd G t (.tup [.str "refused", .str dv.shown, .bl true]))
def TTr (K : PySem.W.Frag) (CR : Addr) : (XK → Hp → VK → Prop) → Hp → VK → Prop := fun tl H Q => ∀ R : VK, (∀ v G, (∀ t, G t = none → Q (.ref t) (upd G t (.tup [.str "told", v]))) → R v G) → ∀ t0, H t0 = none → tl (Ech K CR Q) (upd H t0 (.tup [.str "told", .non])) R
theorem tk_refused {k : Nat} (T : Tx K mg CE CR) (XR : Xcl P w K mg base 1 "InvalidRecord" CR "value") (F : FD K "_law_refused" "_law_refused" s_l_refused [] f fd) (hm : mg "_law_refused" = some (.ref f)) (B : Binds K fd ["_law_call"] []) :
    Taker P w K mg base k "_law_refused" "_law_call" (TTr K CR) := by
  refine ⟨f, fd, _, _, _, n_l_refused, hm, F, sc_l_refused, rfl, .inl rfl, B, ?_⟩
  rintro X cdg q rfl rfl rfl rfl rfl g c' s H Q tl hr act hc h
  have gd : (X.A.deeper (envOfC "_law_refused" (defScope s_l_refused) s.heap.objs.size f cdg)).guards = some [] := hr.g
  have un := hr.r.units
  refine ⟨_, pss_cons (ps_set (i := 1) sc_l_refused.nd rfl (.inl rfl) (pe_tup (pa_cons pe_str (pa_cons pe_non pa_nil))))
    (pss_cons (ps_tryRow (i := 2) (n := "e") (Wo := fun _ _ _ _ => False) (tb := fun W D σ H => ∃ Ec : XK, (tAsg (tTup (tCons (tC (.str "told")) (tCons (fun τ G Q => τ[0]? = some (some (.ref g)) ∧ G c' = some (LamX.CodeO c' q) ∧ (∀ cls d G', Ec cls d G' → W cls d τ G') ∧ tl Ec G Q) tNil))) (gName 1)) D σ H)
        rfl rfl sc_l_refused.nd rfl rfl LamX.takes0 (fun W pn xe tk _ => ⟨fun pins s' σ H' D I z => ?_⟩)
      (.cons (c := .ref CR) ⟨by rfl, by decide, .inl T.g_InvalidRecord⟩ (fun e oe cls d pn hz hf => pss_one (ps_set (i := 1) sc_l_refused.nd rfl (.inl rfl) (pe_tup (pa_cons pe_str (pa_cons (pe_callB (call_reprV (K := X.K) (by rfl) gd un) (by rfl) T.n_repr (by decide +kernel) (pa_cons (pe_xf XR.xf XR.nf hz hf (pv 2)) pa_nil))
          (pa_cons (pe_callB (call_isD XR.ec hz hf) (by rfl) T.n_isinstance (by decide +kernel) (pa_cons (pv 2) (pa_cons (pe_glob (v := .ref CE) (by rfl) T.g_LeastlogError rfl) pa_nil))) pa_nil)))))) .nil))
    (pss_one (ps_ret (pv 1)))), ?_⟩
  · obtain ⟨Ec, z⟩ := z
    exact (pss_one (ps_set (i := 1) sc_l_refused.nd rfl (.inl rfl) (pe_tup (pa_cons pe_str (pa_cons (act W pn xe Ec _ _ tk) pa_nil))))).run pins s' σ H' D I z
  · refine ⟨(by show 2 ≤ sizeLine; decide), fun t0 n0 => ⟨Ech X.K CR Q, rfl, same_upd n0 _ _ hc, fun cls d G' z => ?_, ?_⟩⟩
    · obtain ⟨v, dd, dv, rfl, hd, dq, rfl, q⟩ := z
      exact ⟨true, T.xRR, fun _ e he => ⟨_, rfl, rfl, rfl, dd, _, v, rfl, hd, look_v v, v, dv, rfl, dq, _, rfl, _, _, _, dd, _, rfl, (fun u r => r), rfl, rfl, hd, T.kRE, (by show 3 ≤ sizeLine; decide), fun t ht => ⟨_, rfl, q t ht⟩⟩, fun z => nomatch z⟩
    · exact h _ (fun v G z => ⟨(by show 2 ≤ sizeLine; decide), fun t ht => ⟨_, rfl, z t ht⟩⟩) t0 n0
/-! ### _law_replaced_right -/
abbrev rws (rs : List (List Nat)) : List (List Nat) := rs.map row
theorem row_ok {r : List Nat} (h : RecOk r) : Ok (row r) := by
  have e : S (row (tl (S r))) = _ := (row_str (S r)).symm
  rw [tl_S] at e
  have o : PyData.strOk (S (row r)) = true := by
    rw [e]
    exact okt_app (okt_app (okt_app (okt_app (okt_app (okt_of _) (by decide +kernel)) (okt_of _)) (by decide +kernel)) (okt_S fun c hc => Nat.lt_trans (h.2.2 c hc) (by decide))) (by decide +kernel)
  exact ok_str.mp o
theorem row_len {r : List Nat} (h : RecOk r) : (row r).length ≤ 70 := by
  have e : S (row (tl (S r))) = _ := (row_str (S r)).symm
  rw [tl_S] at e
  rw [← len_S, e, strLen_append, strLen_append, strLen_append, strLen_append, strLen_append]
  have h1 := chk_lt r
  have h0 := h.1
  have l0 := len_S r
  have n1 : (Str.ofString (toString (((S r).length : Nat) : Int))).length ≤ 9 := num_len (by omega)
  have n2 : (Str.ofString (toString ((chk r : Nat) : Int))).length ≤ 9 := num_len (by omega)
  show _ + 1 + _ + 1 + _ + 1 ≤ _
  omega
theorem rows_len : ∀ {rs : List (List Nat)}, (∀ r ∈ rs, RecOk r) → (rws rs).flatten.length ≤ 70 * rs.length
  | [], _ => Nat.le_refl _
  | r :: rs, h => by
    have h1 := row_len (h r (List.mem_cons_self ..))
    have h2 := rows_len (fun x hx => h x (List.mem_cons_of_mem _ hx))
    rw [rws] at h2 ⊢
    rw [List.map_cons, List.flatten_cons, List.length_append, List.length_cons]
    omega
theorem rec_ok {r : List Nat} (h : RecOk r) : Ok r := fun c hc => Nat.lt_trans (h.2.2 c hc) (by decide)
theorem rows_ok {rs : List (List Nat)} (h : ∀ r ∈ rs, RecOk r) : ∀ y ∈ rws rs, Ok y := fun y hy => by
  obtain ⟨r, hr, rfl⟩ := List.mem_map.mp hy
  exact row_ok (h r hr)
theorem flat_map (rs : List (List Nat)) : (rws rs).flatten = rs.flatMap row := by rw [List.flatMap_def]
/-- the records, their rows -/
structure Rws (H : Hp) (p lr lw : Addr) (rs : List (List Nat)) : Prop where
  r : H lr = some (.lst (stV rs))
  w : H lw = some (.lst (stV (rws rs)))
  nr : lr ≠ p
  nw : lw ≠ p
  ok : ∀ r ∈ rs, RecOk r
  len : rs.length ≤ 9
abbrev sgs : Str := " 0789abz~\n"
def spRep : Sp := fun vs H Q _ => ∃ (p lr lw : Addr) (rs : List (List Nat)), vs = [.ref p, .ref lr, .ref lw] ∧ PotAt H p ∧ Rws H p lr lw rs ∧ ∀ H', But p H H' → PotAt H' p → Q (.bl true) H'
theorem ok_l_replaced (T : Tx K mg CE CR) (G_l_take : Fnc P w K mg base CX0 1 "_law_take" [] spTake) (G_l_pick : Fnc P w K mg base CX0 2 "_law_pick" [] spPick) (G_whole_records : Fnc P w K mg base (L2.CX P w) 5 "whole_records" [] (spWhole K CR)) (F : FD K "_law_replaced_right" "_law_replaced_right" s_l_replaced_right [] f fd) : FnG P w K mg base CX0 6 f fd ["_law_pot_here", "_law_records", "_law_rows"] spRep := by
  refine ok0 F sc_l_replaced_right (fun vs H Q E h => ?_) (fun cdv A outer s H vs Q E hr h => ?_)
  · obtain ⟨p, lr, lw, rs, rfl, _⟩ := h
    rfl
  · obtain ⟨p, lr, lw, rs, rfl, hp, W, q⟩ := h
    refine ⟨_, (pss_cons (ps_if (pt_cmpR (op_eqD hr.r.units) (pv 2) (pe_lst pa_nil) (nomark _)) (pss_one (ps_ret pe_bl)) pss_nil)
      (pss_cons (ps_set (i := 3) sc_l_replaced_right.nd rfl (by first | exact Or.inl rfl | exact Or.inr rfl) (pe_fn G_l_take (hr.mono (by decide)) pass0 (pa_cons (pv 0) (pa_cons (pe_callB call_len_seq (by rfl) T.n_len (by decide +kernel) (pa_cons (pv 2) pa_nil)) pa_nil))))
      (pss_cons (ps_set (i := 4) sc_l_replaced_right.nd rfl (by first | exact Or.inl rfl | exact Or.inr rfl) (pe_ix ix_list (pv 2) (pv 3) (fun _ _ => rfl)))
      (pss_cons (ps_set (i := 5) sc_l_replaced_right.nd rfl (by first | exact Or.inl rfl | exact Or.inr rfl) (pe_fn G_l_take (hr.mono (by decide)) pass0 (pa_cons (pv 0) (pa_cons (pe_callB call_len_str (by rfl) T.n_len (by decide +kernel) (pa_cons (pv 4) pa_nil)) pa_nil))))
      (pss_cons (ps_set (i := 6) sc_l_replaced_right.nd rfl (by first | exact Or.inl rfl | exact Or.inr rfl) (pe_fn G_l_pick (hr.mono (by decide)) pass0 (pa_cons (pv 0) (pa_cons (pe_lc (own := [("_law_one", 7)]) rfl sc_l_replaced_right.nd (pi_str pe_str) (blkOk_by (own := [("_law_one", 7)]) (N := n_l_replaced_right) (sc := defScope s_l_replaced_right) (by decide +kernel)) (fun _ _ _ _ _ => (pg_name (i := 7) sc_l_replaced_right.nd rfl (by first | exact Or.inl rfl | exact Or.inr rfl))) (fun _ _ _ _ _ => (pts_one (pt_cmpR op_ne (pv 7) (pe_ix ix_str (pv 4) (pv 5) (fun _ _ => rfl)) (nomark _)))) (fun _ _ _ _ _ => (pv 7))) pa_nil))))
      (pss_cons (ps_set (i := 8) sc_l_replaced_right.nd rfl (by first | exact Or.inl rfl | exact Or.inr rfl) (pe_op op_add_str (pe_op op_add_str (pe_slice sl_str (pv 4) po_none (po_some (pv 5))) (pv 6)) (pe_slice sl_str (pv 4) (po_some (pe_op op_add (pv 5) pe_int)) po_none)))
      (pss_cons (ps_set (i := 9) sc_l_replaced_right.nd rfl (by first | exact Or.inl rfl | exact Or.inr rfl) (pe_fn G_whole_records (hr.mono (by decide)) passF (pa_cons (pe_join pe_str (pe_op op_cat (pe_op op_cat (pe_slice sl_list (pv 2) po_none (po_some (pv 3))) (pe_lst (pa_cons (pv 8) pa_nil))) (pe_slice sl_list (pv 2) (po_some (pe_op op_add (pv 3) pe_int)) po_none))) pa_nil)))
      (pss_one (ps_ret (pe_cmpR (op_eqD hr.r.units) (pv 9) (pe_slice sl_list (pv 1) po_none (po_some (pv 3))) (nomark _))))))))))), ?_⟩
    refine ⟨_, rfl, (by show 0 ≤ sizeLine; decide), fun e0 n0 => ?_⟩
    obtain ⟨G0, e, s0, h0⟩ := mkL n0 []
    rw [e]
    clear e
    have hW := s0 _ _ W.w
    have hR := s0 _ _ W.r
    have okw := rows_ok W.ok
    have ln := W.len
    refine ⟨tx (rws rs), tx [], tx_dp hW, tx_dp h0, tx_shp okw, by decide +kernel, _, rfl, ?_⟩
    cases rs with
    | nil => exact iteT (q _ (But.of s0) (hp.same s0))
    | cons r0 rs0 =>
      refine iteF ?_
      generalize hrs : r0 :: rs0 = rs at *
      have pos : 0 < rs.length := by rw [← hrs]; exact Nat.succ_pos _
      have lw' : (rws rs).length = rs.length := List.length_map ..
      have hp0 := hp.same s0
      refine ⟨_, rfl, _, rfl, lw, _, rfl, .inl (SqL.of hW), p, _, rfl, hp0, by rw [List.length_map]; omega, by rw [List.length_map]; omega, fun H1 d b1 hp1 d0 d1 => ?_⟩
      obtain ⟨pl, rfl⟩ := Int.eq_ofNat_of_zero_le d0
      rw [List.length_map] at d1
      have hpl : pl < rs.length := by omega
      have hW1 := b1 _ _ hW W.nw
      have ri : (stV (rws rs))[pl]? = some (.str (S (row rs[pl]))) := by
        rw [List.getElem?_map, List.getElem?_map, List.getElem?_eq_getElem hpl]
        rfl
      refine ⟨_, rfl, _, rfl, lw, _, _, _, rfl, rfl, SqL.of hW1, atI_nat ri, ?_⟩
      have okr := W.ok _ (List.getElem_mem hpl)
      generalize hrec : rs[pl] = rc at *
      have lrow := row_len okr
      have lrS := len_S (row rc)
      have pr : 0 < (row rc).length := by
        have := congrArg List.length (row_split rc [])
        rw [List.append_nil, List.length_append, List.length_cons] at this
        omega
      refine ⟨_, rfl, _, rfl, _, rfl, small (by omega), p, _, rfl, hp1, by omega, by omega, fun H2 e b2 hp2 e0' e1 => ?_⟩
      obtain ⟨at', rfl⟩ := Int.eq_ofNat_of_zero_le e0'
      have hat : at' < (row rc).length := by omega
      refine ⟨_, rfl, _, rfl, fun D nD => ?_⟩
      have nDp : D ≠ p := hp2.ne nD
      have ci : (S (row rc)).cps.toList[at']? = some (row rc)[at'] := List.getElem?_eq_getElem hat
      generalize hc0 : (row rc)[at'] = c0 at *
      refine lc_it (walk_str (z := sgs)) (fun i H' => Same H2 H' ∧ H' D = some (.lst (stV (((sgs.cps.toList.take i).filter (· ≠ c0)).map fun c => [c])))) ?_ (fun _ _ _ _ => trivial) ?_ ?_
      · exact ⟨same_upd nD, upd_same⟩
      · rintro i x H3 H4 hi ⟨s3, h3⟩ ⟨rfl, c, hc, rfl⟩
        have hc' : sgs.cps.toList[i]? = some c := by rw [← Array.getElem?_toList] at hc; exact hc
        have et : (sgs.cps.toList.take (i + 1)).filter (· ≠ c0) = (sgs.cps.toList.take i).filter (· ≠ c0) ++ [c].filter (· ≠ c0) := by
          rw [List.take_add_one, hc', Option.toList_some, List.filter_append]
        refine ⟨rfl, _, rfl, _, rfl, _, rfl, _, _, _, rfl, rfl, small (by omega), atI_nat ci, rfl, _, rfl, ?_⟩
        have dc : (V.str ⟨#[c]⟩ = V.str ⟨#[c0]⟩) ↔ c = c0 := ⟨fun h => by cases h; rfl, fun h => by rw [h]⟩
        refine iteB (fun k => ?_) (fun k => ?_)
        · have ne : c ≠ c0 := fun h => by rw [decide_eq_true (dc.mpr h)] at k; cases k
          refine ⟨_, rfl, _, h3, ?_, fun b o e => ?_, ?_⟩
          · rw [List.length_map, List.length_map]
            have l1 := List.length_filter_le (· ≠ c0) (sgs.cps.toList.take i)
            rw [List.length_take] at l1
            have l2 : sgs.cps.toList.length = 10 := by decide +kernel
            exact Nat.lt_of_lt_of_le (show _ < 100000 by omega) (small (Nat.le_refl _))
          · rw [upd_ne (ne_of_none e nD)]
            exact s3 _ _ e
          · rw [upd_same, et, List.filter_cons_of_pos (by simpa using ne), List.filter_nil, List.map_append, stV, stV, List.map_append]
            rfl
        · have eq : c = c0 := dc.mp (by
            cases h : decide (V.str ⟨#[c]⟩ = V.str ⟨#[c0]⟩) with
            | true => exact of_decide_eq_true h
            | false => rw [h] at k; cases k)
          refine ⟨s3, ?_⟩
          rw [et, List.filter_cons_of_neg (by simpa using eq), List.filter_nil, List.append_nil]
          exact h3
      · rintro H3 ⟨s3, h3⟩
        have l2 : sgs.cps.toList.length = sgs.cps.size := Array.length_toList ..
        rw [List.take_of_length_le (by omega)] at h3
        have hp3 := hp2.same s3
        have ne : stV ((sgs.cps.toList.filter (· ≠ c0)).map fun c => [c]) ≠ [] := by
          intro z
          rw [stV, List.map_eq_nil_iff, List.map_eq_nil_iff, List.filter_eq_nil_iff] at z
          have m1 : 32 ∈ sgs.cps.toList := by decide +kernel
          have m2 : 48 ∈ sgs.cps.toList := by decide +kernel
          have z1 := z 32 m1
          have z2 := z 48 m2
          simp at z1 z2
          omega
        refine ⟨p, _, rfl, hp3, .inl ⟨D, _, rfl, h3, ne, ?_, nDp, fun H4 v b4 hp4 hv => ?_⟩⟩
        · rw [List.length_map, List.length_map]
          have l1 := List.length_filter_le (· ≠ c0) sgs.cps.toList
          have l3 : sgs.cps.toList.length = 10 := by decide +kernel
          omega
        obtain ⟨sg, rfl, hsg, nsg⟩ : ∃ sg, v = .str (S [sg]) ∧ sg < 1000 ∧ sg ≠ c0 := by
          rw [stV, List.map_map] at hv
          obtain ⟨sg, h1, rfl⟩ := List.mem_map.mp hv
          obtain ⟨h1, h2⟩ := List.mem_filter.mp h1
          have all : ∀ c ∈ sgs.cps.toList, c < 1000 := by decide +kernel
          exact ⟨sg, rfl, all sg h1, by simpa using h2⟩
        have l1 : (S [sg]).length = 1 := rfl
        refine ⟨_, rfl, _, rfl, _, rfl, _, rfl, small (by omega), _, rfl, _, _, rfl, rfl, small (by have := cutS_length (S (row rc)) none (some (at' : Int)); omega), _, rfl, _, rfl, _, _, rfl, rfl, _, rfl, _, rfl, small (by omega), _, _, rfl, rfl, ?_, ?_⟩
        · have k1 := cutS_length (S (row rc)) none (some (at' : Int))
          have k2 := cutS_length (S (row rc)) (some ((at' : Int) + 1)) none
          rw [strLen_append]
          exact small (by omega)
        have ef : cutS (S (row rc)) none (some (at' : Int)) ++ S [sg] ++ cutS (S (row rc)) (some ((at' : Int) + 1)) none = S ((row rc).set at' sg) := by
          rw [show ((at' : Int) + 1) = ((at' + 1 : Nat) : Int) by omega, cutS_to, cutS_from, List.set_eq_take_append_cons_drop, if_pos hat]
          show S ((row rc).take at') ++ S [sg] ++ S ((row rc).drop (at' + 1)) = _
          rw [S_app, S_app, List.append_assoc]
          rfl
        rw [ef]
        have bb := ((But.of s0).trans b1).trans (b2.trans ((But.of s3).trans b4))
        have hW4 := bb _ _ W.w W.nw
        have hR4 := bb _ _ W.r W.nr
        -- the text
        refine ⟨⟨_, rfl⟩, _, rfl, _, rfl, _, rfl, lw, _, rfl, SqL.of hW4, fun a1 n1 => ?_⟩
        rw [st_take]
        obtain ⟨G1, e, t1, k1⟩ := mkL n1 (stV ((rws rs).take pl))
        rw [e]
        clear e
        refine ⟨_, rfl, by show 1 ≤ sizeLine; decide, fun a2 n2 => ?_⟩
        obtain ⟨G2, e, t2, k2⟩ := mkL n2 (stV [(row rc).set at' sg])
        rw [show [V.str (S ((row rc).set at' sg))] = stV [(row rc).set at' sg] from rfl, e]
        clear e
        refine ⟨a1, a2, _, _, rfl, rfl, t2 _ _ k1, k2, small (by simp only [List.length_map, List.length_take, List.length_singleton]; omega), fun a3 n3 => ?_⟩
        rw [st_app]
        obtain ⟨G3, e, t3, k3⟩ := mkL n3 (stV ((rws rs).take pl ++ [(row rc).set at' sg]))
        rw [e]
        clear e
        have ss3 := (t1.trans t2).trans t3
        refine ⟨_, rfl, _, rfl, _, _, rfl, rfl, _, rfl, lw, _, rfl, SqL.of (ss3 _ _ hW4), fun a4 n4 => ?_⟩
        rw [st_drop1]
        obtain ⟨G4, e, t4, k4⟩ := mkL n4 (stV ((rws rs).drop (pl + 1)))
        rw [e]
        clear e
        refine ⟨a3, a4, _, _, rfl, rfl, t4 _ _ k3, k4, small (by simp only [List.length_map, List.length_append, List.length_take, List.length_drop, List.length_singleton]; omega), fun a5 n5 => ?_⟩
        rw [st_app]
        obtain ⟨G5, e, t5, k5⟩ := mkL n5 (stV ((rws rs).take pl ++ [(row rc).set at' sg] ++ (rws rs).drop (pl + 1)))
        rw [e]
        clear e
        have f1 := fl_take (rws rs) pl
        have f2 := fl_drop (rws rs) (pl + 1)
        have f3 := rows_len W.ok
        have lt : ((rws rs).take pl ++ [(row rc).set at' sg] ++ (rws rs).drop (pl + 1)).flatten.length ≤ 30000 := by
          rw [List.flatten_append, List.flatten_append, List.length_append, List.length_append, List.flatten_singleton, List.length_set]
          omega
        refine ⟨_, a5, ((rws rs).take pl ++ [(row rc).set at' sg] ++ (rws rs).drop (pl + 1)).map S, rfl, rfl, .inl (sq_st k5), sz_st (by omega), ?_⟩
        rw [join_flat]
        have ss5 := (ss3.trans t4).trans t5
        refine ⟨_, rfl, .inl ⟨_, rfl, by rw [len_S]; omega, fun H5 tp u5 n5' h5 => ?_⟩⟩
        have ew : whole (tl (S ((rws rs).take pl ++ [(row rc).set at' sg] ++ (rws rs).drop (pl + 1)).flatten)) = rs.take pl := by
          rw [tl_S, List.append_assoc, List.flatten_append, ← List.map_take, flat_map, whole_rows (fun r hr => (W.ok r (List.mem_of_mem_take hr)).2.1), List.singleton_append, List.flatten_cons]
          rw [whole_set okr.2.1 okr.2.2 hsg hat (by rw [hc0]; exact nsg), List.append_nil]
        rw [ew] at h5
        have bE := bb.trans (But.of (ss5.trans u5))
        refine ⟨_, rfl, _, rfl, _, rfl, _, rfl, lr, _, rfl, SqL.of (bE _ _ W.r W.nr), fun a6 n6 => ?_⟩
        rw [st_take]
        obtain ⟨G6, e, t6, k6⟩ := mkL n6 (stV (rs.take pl))
        rw [e]
        clear e
        exact cmp_eq (fun r hr => rec_ok (W.ok r (List.mem_of_mem_take hr))) (t6 _ _ h5) k6 (q _ (bE.trans (But.of t6)) (((hp4.same ss5).same u5).same t6))
end
end K75

set_option Elab.async false
set_option linter.all false
set_option maxRecDepth 100000
set_option maxHeartbeats 1000000
/-! X75: _law_more_right. -/
namespace K75
open PySem PySem.Spec PyProof.Rows L2 LL
abbrev s_l_more_right : Stmt := top 26
abbrev n_l_more_right : List Str := ["_law_pot_here", "_law_records", "_law_rows", "_law_text", "_law_turn", "_law_spoilt_here", "_law_told", "_law_begun", "_law_odd", "_law_wrong"]
theorem sc_l_more_right : FnScope n_l_more_right ["_law_pot_here", "_law_records", "_law_rows"] (defScope s_l_more_right) := ⟨rfl, rfl, rfl, by decide +kernel, rfl, by decide +kernel, by decide +kernel⟩
section
variable {P : Program} {w : World} {K : PySem.W.Frag} {mg : Str → Option Value} {base : Heap} {CE CR : Addr} {f : Addr} {fd : FuncData}
theorem PotAt.ext {H H' : Hp} {p : Addr} (h : PotAt H p) (b : LamX.ExtN H H') : PotAt H' p := let ⟨x, y, e, z⟩ := h; ⟨x, y, b _ _ e (fun _ z => by cases z), z⟩
theorem tld_ab {H : Hp} {l : Addr} (hl : H l = some (.tup [.str "a", .str "b"])) : Tld K H (.ref l) (.tuple [.str "a", .str "b"]) :=
  ⟨by decide +kernel, fun H' s => dq_of (.tup (SqT.of (s _ _ hl (fun _ z => by cases z))) (.cons (.str _) (.cons (.str _) .nil))) (by simp only [Shw, ShwAll]; exact ⟨asc_of _, asc_of _, trivial⟩) (by decide +kernel) (by decide +kernel)⟩
theorem odd_ok {H : Hp} {v : V} {l1 t1 d1 l2 : Addr} (hl : H l1 = some (.lst [.str "a"])) (ht : H t1 = some (.tup [.str "a", .str "b"])) (hd : H d1 = some (.dK [])) (h2 : H l2 = some (.lst []))
    (hv : v ∈ [V.non, .int 5, .bl true, .ref l1, .ref t1, .ref d1, .ref l2, .int 0]) : ∃ d, Tld K H v d ∧ NoTxt K H v := by
  simp only [List.mem_cons, List.not_mem_nil, or_false] at hv
  rcases hv with rfl | rfl | rfl | rfl | rfl | rfl | rfl | rfl
  · exact ⟨_, tld_non, _, fun _ _ => .base .non, kNoneS⟩
  · exact ⟨_, tld_int (by decide), _, fun _ _ => .base (.int _), kIntS⟩
  · exact ⟨_, tld_bl _, _, fun _ _ => .base (.bl _), kBoolS⟩
  · exact ⟨_, tld_a hl, _, fun _ s => ty_lst hl s, kLstS⟩
  · exact ⟨_, tld_ab ht, _, fun _ s => ty_tup ht s, kTupS⟩
  · exact ⟨_, tld_d hd, _, fun _ s => ty_dK hd s, kDicS⟩
  · exact ⟨_, tld_nil h2, _, fun _ s => ty_lst h2 s, kLstS⟩
  · exact ⟨_, tld_int (by decide), _, fun _ _ => .base (.int _), kIntS⟩
def Odd (H : Hp) (p : Addr) (v : V) : Prop := ∃ l1 t1 d1 l2, H l1 = some (.lst [.str "a"]) ∧ H t1 = some (.tup [.str "a", .str "b"]) ∧ H d1 = some (.dK []) ∧ H l2 = some (.lst []) ∧ l1 ≠ p ∧ t1 ≠ p ∧ d1 ≠ p ∧ l2 ≠ p ∧ v ∈ [V.non, .int 5, .bl true, .ref l1, .ref t1, .ref d1, .ref l2, .int 0]
theorem Odd.bn {H H' : Hp} {p : Addr} {v : V} (h : Odd H p v) (b : ButN p H H') : Odd H' p v :=
  let ⟨l1, t1, d1, l2, a1, a2, a3, a4, n1, n2, n3, n4, m⟩ := h
  ⟨l1, t1, d1, l2, b _ _ a1 n1 (fun _ z => by cases z), b _ _ a2 n2 (fun _ z => by cases z), b _ _ a3 n3 (fun _ z => by cases z), b _ _ a4 n4 (fun _ z => by cases z), n1, n2, n3, n4, m⟩
theorem Odd.ok {H : Hp} {p : Addr} {v : V} (h : Odd H p v) : ∃ d, Tld K H v d ∧ NoTxt K H v :=
  let ⟨l1, t1, d1, l2, a1, a2, a3, a4, n1, n2, n3, n4, m⟩ := h
  odd_ok a1 a2 a3 a4 m
theorem BadRec.ext {H H' : Hp} {v : V} (h : BadRec K H v) (s : LamX.ExtN H H') : BadRec K H' v := h.elim .inl fun h => .inr (h.ext s)
theorem bad_ok {H : Hp} {v o : V} {do' : PyData} {z : Str} (lo : Tld K H o do') (no : NoTxt K H o) (oz : PyData.strOk z = true) (lz : z.length ≤ 5000)
    (hv : v ∈ [o, .str "\n", .str "a\nb", .str (z ++ "\n"), .str "ab\n"]) : ∃ d, Tld K H v d ∧ BadRec K H v := by
  simp only [List.mem_cons, List.not_mem_nil, or_false] at hv
  rcases hv with rfl | rfl | rfl | rfl | rfl
  · exact ⟨_, lo, .inr no⟩
  · exact ⟨_, tld_str (okt_of _) (by decide +kernel), .inl ⟨_, rfl, by decide +kernel⟩⟩
  · exact ⟨_, tld_str (okt_of _) (by decide +kernel), .inl ⟨_, rfl, by decide +kernel⟩⟩
  · refine ⟨_, tld_str (okt_app oz (okt_of _)) (by rw [strLen_append]; show z.length + 1 ≤ _; omega), .inl ⟨_, rfl, ?_⟩⟩
    rw [tl_app]
    exact List.mem_append.mpr (.inr (by decide +kernel))
  · exact ⟨_, tld_str (okt_of _) (by decide +kernel), .inl ⟨_, rfl, by decide +kernel⟩⟩
/-! ### whole records of readable signs -/
theorem lin_mem : ∀ (n : Nat) (t : List Nat), t.length ≤ n → ∀ l ∈ lin t, ∀ c ∈ l, c ∈ t
  | 0, t, h, l, hl, c, hc => by
    have e : t = [] := List.length_eq_zero_iff.mp (by omega)
    subst e
    rw [lin_one (by simp)] at hl
    rw [List.mem_singleton.mp hl] at hc
    exact hc
  | n + 1, t, h, l, hl, c, hc => by
    rcases line_cases t with k | ⟨a, r, ha, rfl⟩
    · rw [lin_one k] at hl
      rw [List.mem_singleton.mp hl] at hc
      exact hc
    · rw [List.length_append, List.length_cons] at h
      rw [lin_app ha] at hl
      rcases List.mem_cons.mp hl with rfl | hl
      · exact List.mem_append.mpr (.inl hc)
      · exact List.mem_append.mpr (.inr (List.mem_cons_of_mem _ (lin_mem n r (by omega) l hl c hc)))
theorem wh_ok : ∀ ls : List (List Nat), (∀ l ∈ ls, Ok l) → ∀ r ∈ wh ls, Ok r
  | [], _, r, hr => by cases hr
  | l :: ls, h, r, hr => by
    have hr' : r ∈ (match rin l with | some r => r :: wh ls | none => []) := hr
    split at hr'
    · rename_i x hx
      rcases List.mem_cons.mp hr' with rfl | hr'
      · have e : r = cand l := by
          unfold rin at hx
          split at hx
          · exact (Option.some.inj hx).symm
          · cases hx
        rw [e]
        exact fun c hc => h l (List.mem_cons_self ..) c (mem_aft (mem_aft hc))
      · exact wh_ok ls (fun x hx => h x (List.mem_cons_of_mem _ hx)) r hr'
    · cases hr'
theorem whole_ok {t : List Nat} (h : Ok t) : ∀ r ∈ whole t, Ok r := wh_ok _ fun l hl c hc => h c (lin_mem _ t (Nat.le_refl _) l (List.dropLast_subset _ hl) c hc)
theorem cmp_ne {H : Hp} {p q : Addr} {ls : List (List Nat)} (h : ∀ r ∈ ls, Ok r) (hp : H p = some (.lst (stV ls))) (hq : H q = some (.lst (stV ls))) {Q : VK} (k : Q (.bl false) H) : rNeD K (.ref p) (.ref q) H Q :=
  ⟨tx ls, tx ls, tx_dp hp, tx_dp hq, tx_shp h, tx_shp h, by rw [tx_eq h]; exact k⟩
theorem Rws.but {H H' : Hp} {p lr lw : Addr} {rs : List (List Nat)} (W : Rws H p lr lw rs) (b : But p H H') : Rws H' p lr lw rs := ⟨b _ _ W.r W.nr, b _ _ W.w W.nw, W.nr, W.nw, W.ok, W.len⟩
theorem take_len (rs : List (List Nat)) (j : Nat) : rs.take (rs.take j).length = rs.take j := by
  rw [List.length_take, List.take_eq_take_iff]
  omega
/-- the lambdas' qualified name -/
def lamQ : Str := (envOfC "_law_more_right" (defScope s_l_more_right) 0 0 .none).qual ++ "<lambda>"
def spMore (T : List (Addr × Str)) : Sp := fun vs H Q _ => ∃ (p lr lw : Addr) (rs : List (List Nat)), vs = [.ref p, .ref lr, .ref lw] ∧ PotAt H p ∧ Rws H p lr lw rs ∧ LamX.Tabs T H ∧ ∀ H', ButN p H H' → PotAt H' p → LamX.Tabs T H' → Q (.bl true) H'
theorem ok_l_more (T : Tx K mg CE CR) (G_l_take : Fnc P w K mg base CX0 1 "_law_take" [] spTake) (G_l_pick : Fnc P w K mg base CX0 2 "_law_pick" [] spPick) (G_l_spoilt : Fnc P w K mg base CX0 4 "_law_spoilt" [] spSpoilt) (G_l_whole : Fnc P w K mg base CX0 3 "_law_whole" [] spLw)
    (G_whole_records : Fnc P w K mg base (L2.CX P w) 5 "whole_records" [] (spWhole K CR)) (G_sealed : Fnc P w K mg base (L2.CX P w) 3 "sealed" [] (spSealed K CR)) (G_l_replaced_right : Fnc P w K mg base CX0 6 "_law_replaced_right" [] spRep) (G_l_refused : Taker P w K mg base 9 "_law_refused" "_law_call" (TTr K CR))
    (F : FD K "_law_more_right" "_law_more_right" s_l_more_right [] f fd) (TB : LamX.TabB base mg (cOf K f) (tOf K f)) : FnG P w K mg base CX0 11 f fd ["_law_pot_here", "_law_records", "_law_rows"] (spMore [(tOf K f, lamQ)]) := by
  refine okC F sc_l_more_right (fun vs H Q E h => ?_) (fun cdv ec A outer s H vs Q E hr h => ?_)
  · obtain ⟨p, lr, lw, rs, rfl, _⟩ := h
    rfl
  · obtain ⟨p, lr, lw, rs, rfl, hp, W, tb, q1⟩ := h
    have ecd : cdv = .ref (cOf K f) := Option.some.inj (ec.symm.trans (code_ref F))
    subst ecd
    have hcode : (cxOf CX0 P w K mg base n_l_more_right "_law_more_right" (defScope s_l_more_right) f (.ref (cOf K f)) A outer s H E).nox.env.code = .ref (cOf K f) := rfl
    refine ⟨_, (pss_cons (ps_set (i := 3) sc_l_more_right.nd rfl (by first | exact Or.inl rfl | exact Or.inr rfl) (pe_join pe_str (pv 2)))
      (pss_cons (ps_for PassesOwn.never rfl (pi_range1 (by rfl) T.n_range (pa_cons pe_int pa_nil)) (pg_name (i := 4) sc_l_more_right.nd rfl (by first | exact Or.inl rfl | exact Or.inr rfl)) (pss_cons (ps_set (i := 5) sc_l_more_right.nd rfl (by first | exact Or.inl rfl | exact Or.inr rfl) (pe_fn G_l_spoilt (hr.mono (by decide)) pass0 (pa_cons (pv 0) (pa_cons (pv 2) pa_nil))))
      (pss_cons (ps_set (i := 6) sc_l_more_right.nd rfl (by first | exact Or.inl rfl | exact Or.inr rfl) (pe_fn G_whole_records (hr.mono (by decide)) passF (pa_cons (pv 5) pa_nil)))
      (pss_cons (ps_if (pt_cmpR (op_neD hr.r.units) (pv 6) (pe_fn G_l_whole (hr.mono (by decide)) pass0 (pa_cons (pv 5) pa_nil)) (nomark _)) (pss_one (ps_ret pe_bl)) pss_nil)
      (pss_cons (ps_expr (pe_bm PySem.F.plainAttrs_list PySem.F.slot_list_append PySem.F.type_list_append mt_append (pv 6) (pa_cons pe_str pa_nil)))
      (pss_one (ps_if (pt_cmpR (op_neD hr.r.units) (pe_fn G_whole_records (hr.mono (by decide)) passF (pa_cons (pv 5) pa_nil)) (pe_slice sl_list (pv 6) po_none (po_some (pe_un un_neg pe_int))) (nomark _)) (pss_one (ps_ret pe_bl)) pss_nil)))))))
      (pss_cons (ps_set (i := 7) sc_l_more_right.nd rfl (by first | exact Or.inl rfl | exact Or.inr rfl) (pe_fn G_whole_records (hr.mono (by decide)) passF (pa_cons (pe_slice sl_str (pv 3) po_none (po_some (pe_fn G_l_take (hr.mono (by decide)) pass0 (pa_cons (pv 0) (pa_cons (pe_op op_add (pe_callB call_len_str (by rfl) T.n_len (by decide +kernel) (pa_cons (pv 3) pa_nil)) pe_int) pa_nil))))) pa_nil)))
      (pss_cons (ps_if (PW.pt (pw_or (pt_cmpR (op_neD hr.r.units) (pv 7) (pe_slice sl_list (pv 1) po_none (po_some (pe_callB call_len_seq (by rfl) T.n_len (by decide +kernel) (pa_cons (pv 7) pa_nil)))) (nomark _)) (pw_or1 (pt_not (pt_val (pe_fn G_l_replaced_right (hr.mono (by decide)) pass0 (pa_cons (pv 0) (pa_cons (pv 1) (pa_cons (pv 2) pa_nil))))))))) (pss_one (ps_ret pe_bl)) pss_nil)
      (pss_cons (ps_set (i := 8) sc_l_more_right.nd rfl (by first | exact Or.inl rfl | exact Or.inr rfl) (pe_fn G_l_pick (hr.mono (by decide)) pass0 (pa_cons (pv 0) (pa_cons (pe_lst (pa_cons pe_non (pa_cons pe_int (pa_cons pe_bl (pa_cons (pe_lst (pa_cons pe_str pa_nil)) (pa_cons (pe_tup (pa_cons pe_str (pa_cons pe_str pa_nil))) (pa_cons pe_dnewK (pa_cons (pe_lst pa_nil) (pa_cons pe_int pa_nil))))))))) pa_nil))))
      (pss_cons (ps_if (pt_cmpR (op_neD hr.r.units) (pe_lamG G_l_refused TB hcode (List.mem_singleton.mpr rfl) (fun _ hp _ => congrArg Prod.snd (List.mem_singleton.mp hp)) (hr.mono (by decide)) (LamX.lamS_by (sc := defScope s_l_more_right) (by decide +kernel)) (fun _ _ _ _ _ _ _ hr => (pe_fn G_whole_records (hr.mono (by decide)) (passes_call (takes_of rfl rfl rfl rfl) (fun _ _ _ _ h => h)) (pa_cons (pv 8) pa_nil)))) (pe_tup (pa_cons pe_str (pa_cons (pe_callB (call_reprV (K := K) (by rfl) hr.g hr.r.units) (by rfl) T.n_repr (by decide +kernel) (pa_cons (pv 8) pa_nil)) (pa_cons pe_bl pa_nil)))) (nomark _)) (pss_one (ps_ret pe_bl)) pss_nil)
      (pss_cons (ps_set (i := 9) sc_l_more_right.nd rfl (by first | exact Or.inl rfl | exact Or.inr rfl) (pe_fn G_l_pick (hr.mono (by decide)) pass0 (pa_cons (pv 0) (pa_cons (pe_lst (pa_cons (pv 8) (pa_cons pe_str (pa_cons pe_str (pa_cons (pe_op op_add_str (pv 3) pe_str) (pa_cons pe_str pa_nil)))))) pa_nil))))
      (pss_one (ps_ret (pe_cmpR (op_eqD hr.r.units) (pe_lamG G_l_refused TB hcode (List.mem_singleton.mpr rfl) (fun _ hp _ => congrArg Prod.snd (List.mem_singleton.mp hp)) (hr.mono (by decide)) (LamX.lamS_by (sc := defScope s_l_more_right) (by decide +kernel)) (fun _ _ _ _ _ _ _ hr => (pe_fn G_sealed (hr.mono (by decide)) (passes_call (takes_of rfl rfl rfl rfl) (fun _ _ _ _ h => h)) (pa_cons (pv 9) pa_nil)))) (pe_tup (pa_cons pe_str (pa_cons (pe_callB (call_reprV (K := K) (by rfl) hr.g hr.r.units) (by rfl) T.n_repr (by decide +kernel) (pa_cons (pv 9) pa_nil)) (pa_cons pe_bl pa_nil)))) (nomark _))))))))))), ?_⟩
    have f3 := rows_len W.ok
    have ln := W.len
    have okw := rows_ok W.ok
    have lS := len_S (rws rs).flatten
    refine ⟨⟨_, rfl⟩, _, rfl, _, lw, (rws rs).map S, rfl, rfl, .inl (sq_st W.w), sz_st (by omega), ?_⟩
    rw [join_flat]
    refine nm_of ?_
    dsimp only
    refine seq_cut (fun σ' H' => But p H H' ∧ PotAt H' p ∧ ∃ v4 v5 v6, σ' = [some (.ref p), some (.ref lr), some (.ref lw), some (.str (S (rws rs).flatten)), v4, v5, v6, none, none, none]) (fun N hN => ?_) ?_
    · refine ⟨_, rfl, by decide, by decide, ?_⟩
      refine for_range (lo := 0) (n := 4) (fun i σ' H' => But p H H' ∧ PotAt H' p ∧ ∃ v4 v5 v6, σ' = [some (.ref p), some (.ref lr), some (.ref lw), some (.str (S (rws rs).flatten)), v4, v5, v6, none, none, none]) ?_ ?_ ?_
      · exact ⟨.refl, hp, none, none, none, rfl⟩
      · rintro i σ H0 hi ⟨b0, hp0, v4, v5, v6, rfl⟩
        have W0 := W.but b0
        refine ⟨_, rfl, _, rfl, p, lw, rws rs, rfl, hp0, W0.w, by rw [List.length_map]; omega, by omega, okw, W0.nw, fun H1 y b1 hp1 ly oy => ?_⟩
        refine ⟨_, rfl, _, rfl, .inl ⟨S y, rfl, by rw [len_S]; omega, fun H2 t1 s2 n2 h2 => ?_⟩⟩
        rw [tl_S] at h2
        have okn := whole_ok oy
        refine ⟨_, rfl, _, rfl, y, rfl, by omega, fun H3 t2 s3 n3 h3 => cmp_ne okn (s3 _ _ h2) h3 ⟨_, rfl, iteF ?_⟩⟩
        have lwh := whole_len y
        refine ⟨_, rfl, .inl ⟨rfl, _, SqL.of (s3 _ _ h2)⟩, t1, _, _, rfl, rfl, s3 _ _ h2, ?_, ?_⟩
        · rw [List.length_map]
          exact Nat.lt_of_lt_of_le (show _ < 100000 by omega) (small (Nat.le_refl _))
        have n1 : H1 t1 = none := n2
        have s4 : Same H1 (upd H3 t1 (.lst (stV (whole y) ++ [V.str "more"]))) := fun b o e => by
          rw [upd_ne (ne_of_none e n1)]
          exact s3 _ _ (s2 _ _ e)
        have h4 : (upd H3 t1 (.lst (stV (whole y) ++ [V.str "more"]))) t1 = some (.lst (stV (whole y) ++ [V.str "more"])) := upd_same
        generalize upd H3 t1 (.lst (stV (whole y) ++ [V.str "more"])) = H4 at *
        refine ⟨_, rfl, _, rfl, .inl ⟨S y, rfl, by rw [len_S]; omega, fun H5 t3 s5 n5 h5 => ?_⟩⟩
        rw [tl_S] at h5
        refine ⟨_, rfl, _, rfl, _, rfl, t1, _, rfl, SqL.of (s5 _ _ h4), fun a6 n6 => ?_⟩
        rw [cutV_last, List.dropLast_concat]
        obtain ⟨H6, e, s6, h6⟩ := mkL n6 (stV (whole y))
        rw [e]
        clear e
        refine cmp_ne okn (s6 _ _ h5) h6 ⟨_, rfl, iteF ?_⟩
        have ss := (s4.trans s5).trans s6
        exact ⟨(b0.trans b1).trans (But.of ss), hp1.same ss, _, _, _, rfl⟩
      · exact fun σ' H' h => hN _ _ h
    rintro σ H0 ⟨b0, hp0, v4, v5, v6, rfl⟩
    have W0 := W.but b0
    refine ⟨_, rfl, _, rfl, _, rfl, _, rfl, small (by omega), _, _, rfl, rfl, p, _, rfl, hp0, by omega, by omega, fun H1 d b1 hp1 d0 d1 => ?_⟩
    obtain ⟨k, rfl⟩ := Int.eq_ofNat_of_zero_le d0
    refine ⟨_, rfl, _, rfl, small (by omega), ?_⟩
    rw [cutS_to]
    obtain ⟨j, ej⟩ := whole_take (fun r hr => (W.ok r hr).2.1) k
    rw [← flat_map] at ej
    have lk : ((rws rs).flatten.take k).length ≤ (rws rs).flatten.length := by rw [List.length_take]; omega
    have lk2 := len_S ((rws rs).flatten.take k)
    refine ⟨_, rfl, .inl ⟨S ((rws rs).flatten.take k), rfl, by omega, fun H2 t1 s2 n2 h2 => ?_⟩⟩
    rw [tl_S, ej] at h2
    have b2 := (b0.trans b1).trans (But.of s2)
    have W2 := W.but b2
    have hp2 := hp1.same s2
    refine ⟨_, rfl, _, rfl, _, rfl, t1, _, rfl, .inl (SqL.of h2), _, rfl, lr, _, rfl, SqL.of W2.r, fun a3 n3 => ?_⟩
    rw [List.length_map, st_take, take_len]
    obtain ⟨H3, e, s3, h3⟩ := mkL n3 (stV (rs.take j))
    rw [e]
    clear e
    refine cmp_ne (fun r hr => rec_ok (W.ok r (List.mem_of_mem_take hr))) (s3 _ _ h2) h3 ⟨_, rfl, iteF ?_⟩
    have b3 := b2.trans (But.of s3)
    refine ⟨_, rfl, _, rfl, _, rfl, p, lr, lw, rs, rfl, hp2.same s3, W.but b3, fun H4 b4 hp4 => ⟨_, rfl, iteF ?_⟩⟩
    have bA := b3.trans b4
    have tbA := tabs_kp tb (hp.kp bA)
    clear hp0 hp1 hp2 b0 b1 b2 b3 b4 s2 s3 h2 h3 W2 W0 n2 n3 ej
    -- odd
    refine ⟨_, rfl, (by show 1 ≤ sizeLine; decide), fun l2 a1 => ⟨(by show 2 ≤ sizeLine; decide), fun t2 a2 => fun d2 a3 => ⟨(by show 0 ≤ sizeLine; decide), fun l3 a4 => ⟨(by show 8 ≤ sizeLine; decide), fun lo2 a5 => ?_⟩⟩⟩⟩
    have s1 := same_upd (o := .lst [.str "a"]) a1
    have s2 := same_upd (o := .tup [.str "a", .str "b"]) a2
    have s3 := same_upd (o := .dK []) a3
    have s4 := same_upd (o := .lst []) a4
    have s5 := same_upd (o := .lst [.non, .int 5, .bl true, .ref l2, .ref t2, .ref d2, .ref l3, .int 0]) a5
    have hl2 := s5 _ _ (s4 _ _ (s3 _ _ (s2 l2 _ upd_same)))
    have ht2 := s5 _ _ (s4 _ _ (s3 t2 _ upd_same))
    have hd2 := s5 _ _ (s4 d2 _ upd_same)
    have hl3 := s5 l3 _ upd_same
    have nl2 := hp4.ne a1
    have nt2 := (hp4.same s1).ne a2
    have nd2 := ((hp4.same s1).same s2).ne a3
    have nl3 := (((hp4.same s1).same s2).same s3).ne a4
    have nlo2 := ((((hp4.same s1).same s2).same s3).same s4).ne a5
    have sB := s1.trans (s2.trans (s3.trans (s4.trans s5)))
    have hpB := hp4.same sB
    refine ⟨p, _, rfl, hpB, .inl ⟨lo2, _, rfl, upd_same, by simp, (by show 8 ≤ 1000; decide), nlo2, fun H5 v b5 hp5 hv => ?_⟩⟩
    have hl5 := b5 _ _ hl2 nl2
    have ht5 := b5 _ _ ht2 nt2
    have hd5 := b5 _ _ hd2 nd2
    have hl6 := b5 _ _ hl3 nl3
    have k5 : Kp H4 H5 := (Kp.of sB).trans (hpB.kp b5)
    have bn5 : ButN p H H5 := (ButN.of bA).trans ((ButN.same sB).trans (.of b5))
    have tb5 := tabs_kp tbA k5
    have ov : Odd H5 p v := ⟨l2, t2, d2, l3, hl5, ht5, hd5, hl6, nl2, nt2, nd2, nl3, hv⟩
    obtain ⟨dv, td, no⟩ := ov.ok (K := K)
    have sx := okt_of "refused"
    clear hl5 ht5 hd5 hl6 hl2 ht2 hd2 hl3 a1 a2 a3 a4 a5 sB hpB b5 k5 tbA nl2 nt2 nd2 nl3 nlo2 s1 s2 s3 s4 s5 hv
    -- the first refusal
    refine ⟨tb5, fun H6 eN tb6 R hR t0 n0 => ?_⟩
    have e7 : LamX.ExtN H5 (upd H6 t0 (.tup [.str "told", .non])) := eN.trans (.of (same_upd n0))
    refine ⟨_, rfl, v, rfl, .inr ⟨no.ext e7, fun H8 d s8 nd ed => ⟨v, d, dv, rfl, ed, td.2 _ (e7.trans (.of s8)), rfl, fun t nt => ?_⟩⟩⟩
    have e9 : LamX.ExtN H5 (upd H8 t (.tup [.str "refused", .str dv.shown, .bl true])) := e7.trans ((LamX.ExtN.of s8).trans (.of (same_upd nt)))
    refine ⟨_, rfl, v, dv, rfl, td.2 _ e9, (by show 3 ≤ sizeLine; decide), fun u nu => ?_⟩
    refine ⟨rfs "refused" dv.shown, rfs "refused" dv.shown, rfs_dp (same_upd nu _ _ upd_same), rfs_dp upd_same, rfs_shp sx td.1, rfs_shp sx td.1, _, rfl, iteN (by rw [SeqAt.eqv_refl _ (rfs_lay sx td.1)]; rfl) ?_⟩
    have eA : LamX.ExtN H5 (upd (upd H8 t (.tup [.str "refused", .str dv.shown, .bl true])) u (.tup [.str "refused", .str dv.shown, .bl true])) := e9.trans (.of (same_upd nu))
    have tbA : LamX.Tabs [(tOf K f, lamQ)] (upd (upd H8 t (.tup [.str "refused", .str dv.shown, .bl true])) u (.tup [.str "refused", .str dv.shown, .bl true])) := tabs_same tb6 ((same_upd n0).trans (s8.trans ((same_upd nt).trans (same_upd nu))))
    have hpA := hp5.ext eA
    have ovA := ov.bn (ButN.ext eA)
    have bnA : ButN p H _ := bn5.trans (ButN.ext eA)
    clear e9 e7 eN tb6 hR n0 s8 nd ed nt nu no td tb5 hp5 bn5 eA ov
    generalize upd (upd H8 t (.tup [.str "refused", .str dv.shown, .bl true])) u (.tup [.str "refused", .str dv.shown, .bl true]) = HA at *
    -- wrong
    have oS := okt_S (ok_flat okw)
    refine ⟨_, rfl, _, rfl, _, rfl, _, _, rfl, rfl, small (by show _ + 1 ≤ _; omega), (by show 5 ≤ sizeLine; decide), fun lo a1 => ?_⟩
    have s1 := same_upd (o := .lst [v, .str "\n", .str "a\nb", .str (S (rws rs).flatten ++ "\n"), .str "ab\n"]) a1
    have nlo := hpA.ne a1
    refine ⟨p, _, rfl, hpA.same s1, .inl ⟨lo, _, rfl, upd_same, by simp, (by show 5 ≤ 1000; decide), nlo, fun H5 v2 b5 hp5 hv => ?_⟩⟩
    have k5 : Kp HA H5 := (Kp.of s1).trans ((hpA.same s1).kp b5)
    have bn5 : ButN p H H5 := bnA.trans ((ButN.same s1).trans (.of b5))
    have tb5 := tabs_kp tbA k5
    obtain ⟨d0', td0, no0⟩ := (ovA.bn ((ButN.same s1).trans (.of b5))).ok (K := K)
    obtain ⟨dv, td, bad⟩ := bad_ok td0 no0 oS (by omega) hv
    clear td0 no0 ovA hv b5 k5 tbA bnA hpA s1 nlo
    refine ⟨tb5, fun H6 eN tb6 R hR t0 n0 => ?_⟩
    have e7 : LamX.ExtN H5 (upd H6 t0 (.tup [.str "told", .non])) := eN.trans (.of (same_upd n0))
    refine ⟨_, rfl, v2, rfl, .inr ⟨bad.ext e7, fun H8 d s8 nd ed => ⟨v2, d, dv, rfl, ed, td.2 _ (e7.trans (.of s8)), rfl, fun t nt => ?_⟩⟩⟩
    have e9 : LamX.ExtN H5 (upd H8 t (.tup [.str "refused", .str dv.shown, .bl true])) := e7.trans ((LamX.ExtN.of s8).trans (.of (same_upd nt)))
    refine ⟨_, rfl, v2, dv, rfl, td.2 _ e9, (by show 3 ≤ sizeLine; decide), fun u nu => ?_⟩
    refine ⟨rfs "refused" dv.shown, rfs "refused" dv.shown, rfs_dp (same_upd nu _ _ upd_same), rfs_dp upd_same, rfs_shp sx td.1, rfs_shp sx td.1, ?_⟩
    rw [SeqAt.eqv_refl _ (rfs_lay sx td.1)]
    have eA : LamX.ExtN H5 (upd (upd H8 t (.tup [.str "refused", .str dv.shown, .bl true])) u (.tup [.str "refused", .str dv.shown, .bl true])) := e9.trans (.of (same_upd nu))
    exact q1 _ (bn5.trans (ButN.ext eA)) (hp5.ext eA) (tabs_same tb6 ((same_upd n0).trans (s8.trans ((same_upd nt).trans (same_upd nu)))))
end
end K75

set_option Elab.async false
set_option linter.all false
set_option maxRecDepth 100000
set_option maxHeartbeats 1000000
/-! Z75: _law_right, law. -/
namespace K75
open PySem PySem.Spec PyProof.Rows L2 LL
abbrev s_l_right : Stmt := top 27
abbrev n_l_right : List Str := ["_law_pot_here", "_law_records", "_law_k", "_law_rows", "_law_record_here"]
theorem sc_l_right : FnScope n_l_right ["_law_pot_here"] (defScope s_l_right) := ⟨rfl, rfl, rfl, by decide +kernel, rfl, by decide +kernel, by decide +kernel⟩
abbrev s_law : Stmt := top 28
abbrev n_law : List Str := ["_law_script", "_law_k"]
theorem sc_law : FnScope n_law ["_law_script"] (defScope s_law) := ⟨rfl, rfl, rfl, by decide +kernel, rfl, by decide +kernel, by decide +kernel⟩
section
variable {P : Program} {w : World} {K : PySem.W.Frag} {mg : Str → Option Value} {base : Heap} {CE CR : Addr} {f : Addr} {fd : FuncData}
theorem kp_upd {H : Hp} {D : Addr} {xs ys : List V} (h : H D = some (.lst xs)) : Kp H (upd H D (.lst ys)) := fun b o e n => by
  rw [upd_ne (fun z => by rw [z, h] at e; exact n xs (Option.some.inj e).symm)]
  exact e
def spRight (T : List (Addr × Str)) : Sp := fun vs H Q _ => ∃ p : Addr, vs = [.ref p] ∧ PotAt H p ∧ LamX.Tabs T H ∧ ∀ H', ButN p H H' → LamX.Tabs T H' → Q (.bl true) H'
theorem ok_l_right {Tb : List (Addr × Str)} (T : Tx K mg CE CR) (G_l_take : Fnc P w K mg base CX0 1 "_law_take" [] spTake) (G_l_record : Fnc P w K mg base CX0 3 "_law_record" [] spRec) (G_l_row : Fnc P w K mg base CX0 2 "_law_row" [] spRow) (G_sealed : Fnc P w K mg base (L2.CX P w) 3 "sealed" [] (spSealed K CR))
    (G_whole_records : Fnc P w K mg base (L2.CX P w) 5 "whole_records" [] (spWhole K CR)) (G_l_more_right : Fnc P w K mg base CX0 11 "_law_more_right" [] (spMore Tb)) (F : FD K "_law_right" "_law_right" s_l_right [] f fd) : FnG P w K mg base CX0 12 f fd ["_law_pot_here"] (spRight Tb) := by
  refine ok0 F sc_l_right (fun vs H Q E h => ?_) (fun cdv A outer s H vs Q E hr h => ?_)
  · obtain ⟨p, rfl, _⟩ := h
    rfl
  · obtain ⟨p, rfl, hp, tb, q⟩ := h
    refine ⟨_, (pss_cons (ps_setLc (i := 1) (own := [("_law_k", 2)]) rfl sc_l_right.nd rfl rfl (sw_true rfl rfl rfl (by decide +kernel)) (pi_range1 (by rfl) T.n_range (pa_cons (pe_fn G_l_take (hr.mono (by decide)) pass0 (pa_cons (pv 0) (pa_cons pe_int pa_nil))) pa_nil)) (blkOk_by (own := [("_law_k", 2)]) (N := n_l_right) (sc := defScope s_l_right) (by decide +kernel)) (fun _ _ _ _ _ => (pg_name (i := 2) sc_l_right.nd rfl (by first | exact Or.inl rfl | exact Or.inr rfl))) (fun _ _ _ _ _ => pts_nil) (fun _ _ _ _ _ => (pe_fn G_l_record (hr.mono (by decide)) pass0 (pa_cons (pv 0) pa_nil))))
      (pss_cons (ps_setLc (i := 3) (own := [("_law_record_here", 4)]) rfl sc_l_right.nd rfl rfl (sw_true rfl rfl rfl (by decide +kernel)) (pi_list (pv 1)) (blkOk_by (own := [("_law_record_here", 4)]) (N := n_l_right) (sc := defScope s_l_right) (by decide +kernel)) (fun _ _ _ _ _ => (pg_name (i := 4) sc_l_right.nd rfl (by first | exact Or.inl rfl | exact Or.inr rfl))) (fun _ _ _ _ _ => pts_nil) (fun _ _ _ _ _ => (pe_fn G_sealed (hr.mono (by decide)) passF (pa_cons (pv 4) pa_nil))))
      (pss_cons (ps_if (PW.pt (pw_or (pt_cmpR (op_neD hr.r.units) (pv 3) (pe_lc (own := [("_law_record_here", 4)]) rfl sc_l_right.nd (pi_list (pv 1)) (blkOk_by (own := [("_law_record_here", 4)]) (N := n_l_right) (sc := defScope s_l_right) (by decide +kernel)) (fun _ _ _ _ _ => (pg_name (i := 4) sc_l_right.nd rfl (by first | exact Or.inl rfl | exact Or.inr rfl))) (fun _ _ _ _ _ => pts_nil) (fun _ _ _ _ _ => (pe_fn G_l_row (hr.mono (by decide)) pass0 (pa_cons (pv 4) pa_nil)))) (nomark _)) (pw_or1 (pt_cmpR (op_neD hr.r.units) (pe_fn G_whole_records (hr.mono (by decide)) passF (pa_cons (pe_join pe_str (pv 3)) pa_nil)) (pv 1) (nomark _))))) (pss_one (ps_ret pe_bl)) pss_nil)
      (pss_one (ps_ret (pe_fn G_l_more_right (hr.mono (by decide)) pass0 (pa_cons (pv 0) (pa_cons (pv 1) (pa_cons (pv 3) pa_nil))))))))), ?_⟩
    refine ⟨_, rfl, p, 10, rfl, hp, by decide, by decide, fun H1 d b1 hp1 d0 d1 => ⟨_, rfl, by omega, by omega, fun D hD => ?_⟩⟩
    have nD : D ≠ p := hp1.ne hD
    refine lc_range (lo := 0) (n := d.toNat) (fun i H' => But p H H' ∧ PotAt H' p ∧ ∃ rs : List (List Nat), H' D = some (.lst (stV rs)) ∧ rs.length = i ∧ ∀ r ∈ rs, RecOk r) ?_ ?_ ?_
    · exact ⟨b1.trans (But.of (same_upd hD)), hp1.upd hD, [], upd_same, rfl, fun y hy => by cases hy⟩
    · rintro i H2 hi ⟨b2, hp2, rs, h2, l2, ok⟩
      refine ⟨rfl, _, rfl, p, rfl, hp2, fun H3 r b3 hp3 okr => ?_⟩
      have h3 := b3 _ _ h2 nD
      have n3 := b1.free nD hD
      refine ⟨_, h3, ?_, fun b o e n => ?_, hp3.but but_upd nD.symm, rs ++ [r], ?_, ?_, ?_⟩
      · rw [List.length_map, l2]
        exact Nat.lt_of_lt_of_le (show i < 100000 by omega) (small (Nat.le_refl _))
      · rw [upd_ne (ne_of_none e n3)]
        exact (b2.trans b3) b o e n
      · rw [upd_same, stV, stV, List.map_append]
        rfl
      · rw [List.length_append, l2]
        rfl
      · intro y hy
        rcases List.mem_append.mp hy with z | z
        · exact ok y z
        · rw [List.mem_singleton.mp z]
          exact okr
    · rintro H2 ⟨b2, hp2, rs, h2, l2, ok⟩
      have ln : rs.length ≤ 9 := by omega
      have elt (i : Nat) (x : V) (hx : (stV rs)[i]? = some x) : ∃ hi : i < rs.length, x = .str (S rs[i]) := by
        rw [List.getElem?_map] at hx
        cases q : rs[i]? with
        | none => rw [q] at hx; cases hx
        | some l =>
          rw [q] at hx
          obtain ⟨hi, e⟩ := List.getElem?_eq_some_iff.mp q
          exact ⟨hi, by rw [e]; exact (Option.some.inj hx).symm⟩
      have grow (i : Nat) (hi : i < rs.length) : stV (rws (rs.take i)) ++ [V.str (S (row rs[i]))] = stV (rws (rs.take (i + 1))) := by
        rw [List.take_succ_eq_append_getElem hi, rws, rws, List.map_append, stV, stV, List.map_append]
        rfl
      -- the rows
      refine ⟨_, rfl, D, rfl, ⟨_, SqL.of h2⟩, fun D2 n2 => ?_⟩
      refine lc_list (xs := stV rs) (fun i H' => Same H2 H' ∧ H' D2 = some (.lst (stV (rws (rs.take i))))) ⟨same_upd n2, upd_same⟩ (fun i H' _ h => SqL.of (h.1 _ _ h2)) ?_ ?_
      · rintro i x H3 hx ⟨s3, h3⟩
        obtain ⟨hi, rfl⟩ := elt i x hx
        have okr := ok _ (List.getElem_mem hi)
        refine ⟨rfl, _, rfl, _, rfl, .inl ⟨_, rfl, okr.2.1, by rw [len_S]; have := okr.1; omega, ?_⟩⟩
        refine ⟨_, h3, ?_, fun b o e => ?_, ?_⟩
        · simp only [List.length_map, List.length_take]
          exact Nat.lt_of_lt_of_le (show _ < 100000 by omega) (small (Nat.le_refl _))
        · rw [upd_ne (ne_of_none e n2)]
          exact s3 _ _ e
        · rw [upd_same, tl_S, grow i hi]
      rintro H3 ⟨s3, h3⟩
      rw [List.length_map, List.take_length] at h3
      -- the law's rows
      refine ⟨_, rfl, _, rfl, D, rfl, ⟨_, SqL.of (s3 _ _ h2)⟩, fun D3 n3 => ?_⟩
      refine lc_list (xs := stV rs) (fun i H' => Same H3 H' ∧ H' D3 = some (.lst (stV (rws (rs.take i))))) ⟨same_upd n3, upd_same⟩ (fun i H' _ h => SqL.of (h.1 _ _ (s3 _ _ h2))) ?_ ?_
      · rintro i x H4 hx ⟨s4, h4⟩
        obtain ⟨hi, rfl⟩ := elt i x hx
        have okr := ok _ (List.getElem_mem hi)
        refine ⟨rfl, _, rfl, _, rfl, by rw [len_S]; have := okr.1; omega, ?_⟩
        refine ⟨_, h4, ?_, fun b o e => ?_, ?_⟩
        · simp only [List.length_map, List.length_take]
          exact Nat.lt_of_lt_of_le (show _ < 100000 by omega) (small (Nat.le_refl _))
        · rw [upd_ne (ne_of_none e n3)]
          exact s4 _ _ e
        · rw [upd_same, tl_S, grow i hi]
      rintro H4 ⟨s4, h4⟩
      rw [List.length_map, List.take_length] at h4
      have okw := rows_ok ok
      have f3 := rows_len ok
      refine cmp_ne okw (s4 _ _ h3) h4 ⟨_, rfl, iteF ?_⟩
      refine ⟨⟨_, rfl⟩, _, rfl, _, D2, (rws rs).map S, rfl, rfl, .inl (sq_st (s4 _ _ h3)), sz_st (by omega), ?_⟩
      rw [join_flat]
      refine ⟨_, rfl, .inl ⟨_, rfl, by rw [len_S]; omega, fun H5 t1 s5 n5 h5 => ?_⟩⟩
      rw [tl_S, flat_map, whole_all (fun r hr => (ok r hr).2.1)] at h5
      have s35 := (s3.trans s4).trans s5
      refine ⟨_, rfl, cmp_ne (fun r hr => rec_ok (ok r hr)) h5 (s35 _ _ h2) ⟨_, rfl, iteF ?_⟩⟩
      have b5 := b2.trans (But.of s35)
      have W : Rws H5 p D D2 rs := ⟨s35 _ _ h2, s5 _ _ (s4 _ _ h3), nD, hp2.ne n2, ok, ln⟩
      exact ⟨_, rfl, _, rfl, _, rfl, p, D, D2, rs, rfl, hp2.same s35, W, tabs_kp tb (hp.kp b5), fun H' b' hp' tb' => q _ ((ButN.of b5).trans b') tb'⟩
def spLaw (K : PySem.W.Frag) (Tb : List (Addr × Str)) : Sp := fun vs H Q _ => ∃ (a : Addr) (ns : List Int), vs = [.ref a] ∧ SqL K H a (ns.map V.int) ∧ ns.length ≤ 63 ∧ LamX.Tabs Tb H ∧ ∀ H', Q (.bl true) H'
theorem sq_ext {H H' : Hp} {a : Addr} {xs : List V} (h : SqL K H a xs) (e : LamX.ExtN H H') : SqL K H' a xs := by
  rcases h with (h | ⟨o, h⟩) | h
  · exact .inl (.inl (e _ _ h (fun _ z => by cases z)))
  · exact .inl (.inr ⟨o, e _ _ h (fun _ z => by cases z)⟩)
  · exact .inr h
theorem ok_law {Tb : List (Addr × Str)} (T : Tx K mg CE CR) (G_l_pot : Fnc P w K mg base CX0 1 "_law_pot" [] (spPot K)) (G_l_right : Fnc P w K mg base CX0 12 "_law_right" [] (spRight Tb)) (F : FD K "law" "law" s_law [] f fd) : FnG P w K mg base CX0 13 f fd ["_law_script"] (spLaw K Tb) := by
  refine ok0 F sc_law (fun vs H Q E h => ?_) (fun cdv A outer s H vs Q E hr h => ?_)
  · obtain ⟨a, ns, rfl, _⟩ := h
    rfl
  · obtain ⟨a, ns, rfl, hS, hl, tb, q⟩ := h
    refine ⟨_, (pss_one (ps_ret (pe_callB (cr_all rfl) (by rfl) T.n_all (by decide +kernel) (pa_cons (pe_lc (own := [("_law_k", 1)]) rfl sc_law.nd (pi_range1 (by rfl) T.n_range (pa_cons (pe_callB (call_max2 rfl) (by rfl) T.n_max (by decide +kernel) (pa_cons pe_int (pa_cons (pe_callB (call_min2 rfl) (by rfl) T.n_min (by decide +kernel) (pa_cons (pe_callB call_len_seq (by rfl) T.n_len (by decide +kernel) (pa_cons (pv 0) pa_nil)) (pa_cons pe_int pa_nil))) pa_nil))) pa_nil)) (blkOk_by (own := [("_law_k", 1)]) (N := n_law) (sc := defScope s_law) (by decide +kernel)) (fun _ _ _ _ _ => (pg_name (i := 1) sc_law.nd rfl (by first | exact Or.inl rfl | exact Or.inr rfl))) (fun _ _ _ _ _ => pts_nil) (fun _ _ _ _ _ => (pe_fn G_l_right (hr.mono (by decide)) pass0 (pa_cons (pe_fn G_l_pot (hr.mono (by decide)) pass0 (pa_cons (pv 0) (pa_cons (pv 1) pa_nil))) pa_nil)))) pa_nil)))), ?_⟩
    refine ⟨_, rfl, a, _, rfl, .inl hS, _, _, rfl, _, _, rfl, _, rfl, ?_, ?_, fun D hD => ?_⟩
    · rw [List.length_map]
      split <;> split <;> omega
    · rw [List.length_map]
      split <;> split <;> omega
    refine lc_range (lo := 0) (fun i H' => LamX.ExtN H H' ∧ LamX.Tabs Tb H' ∧ H' D = some (.lst ((List.replicate i true).map V.bl))) ?_ ?_ ?_
    · exact ⟨.of (same_upd hD), tabs_same tb (same_upd hD), upd_same⟩
    · rintro i H2 hi ⟨s2, tb2, hD2⟩
      have hi' : i < 8 := by
        rw [List.length_map] at hi
        split at hi <;> split at hi <;> omega
      refine ⟨rfl, _, rfl, _, rfl, a, ns, i, ?_, sq_ext hS s2, hl, by omega, fun H3 p s3 np hp3 => ?_⟩
      · simp
      refine ⟨p, rfl, hp3, tabs_same tb2 s3, fun H4 b4 tb4 => ?_⟩
      have s24 : LamX.ExtN H2 H4 := fun b o e t => b4 b o (s3 _ _ e) (ne_of_none e np) t
      have hD4 := lst_ext hD2 s24
      refine ⟨_, hD4, ?_, ?_, tabs_kp tb4 (kp_upd hD4), ?_⟩
      · rw [List.length_map, List.length_replicate]
        exact Nat.lt_of_lt_of_le hi' (by decide)
      · intro b o e t
        rw [upd_ne (ne_of_none e hD)]
        exact s24 _ _ (s2 _ _ e t) t
      · rw [upd_same, List.replicate_succ', List.map_append]
        rfl
    · rintro H2 ⟨s2, tb2, hD2⟩
      refine ⟨D, _, rfl, SqL.of hD2, ?_⟩
      have e : ∀ n, (List.replicate n true).all id = true := by simp
      rw [e]
      exact q _
end
end K75

set_option Elab.async false
set_option linter.all false
set_option maxRecDepth 100000
set_option maxHeartbeats 0
/-! the head, the end. -/
namespace K75
open PySem PySem.Spec PyProof.Rows L2 LL
def d_is_record : DefX := dX (gA "is_record") "is_record" "is_record" s_is_record
def d_check_of : DefX := dX (gA "check_of") "check_of" "check_of" s_check_of
def d_sealed : DefX := dX (gA "sealed") "sealed" "sealed" s_sealed
def d_record_in : DefX := dX (gA "record_in") "record_in" "record_in" s_record_in
def d_whole_records : DefX := dX (gA "whole_records") "whole_records" "whole_records" s_whole_records
def d_l_pot : DefX := dX (gA "_law_pot") "_law_pot" "_law_pot" s_l_pot
def d_l_take : DefX := dX (gA "_law_take") "_law_take" "_law_take" s_l_take
def d_l_pick : DefX := dX (gA "_law_pick") "_law_pick" "_law_pick" s_l_pick
def d_l_check : DefX := dX (gA "_law_check") "_law_check" "_law_check" s_l_check
def d_l_row : DefX := dX (gA "_law_row") "_law_row" "_law_row" s_l_row
def d_l_record : DefX := dX (gA "_law_record") "_law_record" "_law_record" s_l_record
def d_l_whole : DefX := dX (gA "_law_whole") "_law_whole" "_law_whole" s_l_whole
def d_l_odd_row : DefX := dX (gA "_law_odd_row") "_law_odd_row" "_law_odd_row" s_l_odd_row
def d_l_spoilt : DefX := dX (gA "_law_spoilt") "_law_spoilt" "_law_spoilt" s_l_spoilt
def d_l_refused : DefX := dX (gA "_law_refused") "_law_refused" "_law_refused" s_l_refused
def d_l_replaced_right : DefX := dX (gA "_law_replaced_right") "_law_replaced_right" "_law_replaced_right" s_l_replaced_right
def d_l_more_right : DefX := dX (gA "_law_more_right") "_law_more_right" "_law_more_right" s_l_more_right
def d_l_right : DefX := dX (gA "_law_right") "_law_right" "_law_right" s_l_right
def d_law : DefX := dX (gA "law") "law" "law" s_law
def d_InvalidRecordinit : DefX := dX (mA "InvalidRecord" "__init__") "__init__" "InvalidRecord.__init__" s_InvalidRecordinit
def fn : List DefX := [d_is_record, d_check_of, d_sealed, d_record_in, d_whole_records, d_l_pot, d_l_take, d_l_pick, d_l_check, d_l_row, d_l_record, d_l_whole, d_l_odd_row, d_l_spoilt, d_l_refused, d_l_replaced_right, d_l_more_right, d_l_right, d_law, d_InvalidRecordinit]
def t0 : Ft := fGlo "is_record"
def t1 : Ft := fGlo "check_of"
def t2 : Ft := fGlo "sealed"
def t3 : Ft := fGlo "record_in"
def t4 : Ft := fGlo "whole_records"
def t5 : Ft := fGlo "_law_pot"
def t6 : Ft := fGlo "_law_take"
def t7 : Ft := fGlo "_law_pick"
def t8 : Ft := fGlo "_law_check"
def t9 : Ft := fGlo "_law_row"
def t10 : Ft := fGlo "_law_record"
def t11 : Ft := fGlo "_law_whole"
def t12 : Ft := fGlo "_law_odd_row"
def t13 : Ft := fGlo "_law_spoilt"
def t14 : Ft := fGlo "_law_refused"
def t15 : Ft := fGlo "_law_replaced_right"
def t16 : Ft := fGlo "_law_more_right"
def t17 : Ft := fGlo "_law_right"
def t18 : Ft := fGlo "law"
def t19 : Ft := fXcl "InvalidRecord" "value"
def t20 : Ft := fGlo "LeastlogError"
def t21 : Ft := fGlo "InvalidRecord"
def t22 : Ft := fLe "LeastlogError"
def t23 : Ft := fBool (fun K => PySem.W.kitOne K (.ref (He.ga K "InvalidRecord")) (.ref (He.ga K "LeastlogError"))) true
def t24 : Ft := fBool (fun K => PySem.W.exmOne K (.ref (He.ga K "InvalidRecord")) (.ref (He.ga K "InvalidRecord"))) true
def t25 : Ft := fStr "FEED" ⟨#[10]⟩
def t26 : Ft := fStr "SPACE" ⟨#[32]⟩
def t27 : Ft := fInt "FIRST_CHECK" 7
def t28 : Ft := fInt "FACTOR" 31
def t29 : Ft := fInt "MODULUS" 1000003
def t30 : Ft := fFree "isinstance"
def t31 : Ft := fFree "int"
def t32 : Ft := fFree "abs"
def t33 : Ft := fFree "str"
def t34 : Ft := fFree "repr"
def t35 : Ft := fFree "range"
def t36 : Ft := fFree "len"
def t37 : Ft := fFree "max"
def t38 : Ft := fFree "min"
def t39 : Ft := fFree "divmod"
def t40 : Ft := fFree "all"
def t41 : Ft := fFree "ord"
def ft0 : List Ft := [t0, t1, t2, t3, t4, t5, t6, t7, t8, t9, t10, t11, t12, t13, t14, t15, t16, t17, t18, t19, t20, t21, t22, t23, t24, t25, t26, t27, t28, t29]
def ft1 : List Ft := [t30, t31, t32, t33, t34, t35, t36, t37, t38, t39, t40, t41]
def ft : List Ft := ft0 ++ ft1
def tf : List (PySem.W.Frag → Addr) := [gA "_law_more_right"]
def loose0 : List PySem.Str := ["LeastlogError", "InvalidRecord", "FEED", "SPACE", "FIRST_CHECK", "FACTOR", "MODULUS", "is_record", "check_of", "sealed", "record_in", "whole_records", "_law_pot", "_law_take", "_law_pick", "_law_check", "_law_row", "_law_record", "_law_whole", "_law_odd_row", "_law_spoilt", "_law_refused", "_law_replaced_right", "_law_more_right", "_law_right"]
def loose : List PySem.Str := loose0
abbrev R : PySem.W.OpenRow := PySem.W.OpenLaw.row PySem.Challenge.rw_leastlog_k75_sealed_rows
abbrev hk : PySem.W.Hook := hookT 7 ft fn tf
def ob (s : PySem.W.SharedT) : LL.AlT := LL.obsTG 7 ft fn tf (HandSHeadRun.getT s)
theorem ob_eq (s : PySem.W.SharedT) : ob s = hk.obs s.abs := LL.obsTG_eq (HandSHeadRun.getT_eq s)
theorem run (w : World) : HandSHeadRun.RunEq R (PySem.W.view R.prog [28]) hk ob 8000 loose w := by
  intro os
  kernel_rfl
def csOf (K : PySem.W.Frag) : List (Addr × Addr) := tf.map fun a => (cOf K (a K), tOf K (a K))
section
variable {P : Program} {w : World} {K : PySem.W.Frag} {h : Heap} {mg : Str → Option Value} {fa : Addr}
theorem facts (X : K.In h) (G : h.Ns mainGlobals mg) (hfa : mg ("law" : Str) = some (.ref fa)) (c : SaysY ft fn K) :
    ∃ fd : FuncData, (∀ (s : Shared) (v : Value), BindsTo s fd ⟨[v], []⟩ [("_law_script", v)]) ∧ ∀ base : Heap, K.In base → base.Ns mainGlobals mg → (∀ p ∈ csOf K, LamX.TabB base mg p.1 p.2) → FnG P w K mg base CX0 13 fa fd ["_law_script"] (spLaw K [(tOf K (gA "_law_more_right" K), lamQ)]) := by
  obtain ⟨fd_is_record, F_is_record⟩ := c.fn_ 0
  obtain ⟨fd_check_of, F_check_of⟩ := c.fn_ 1
  obtain ⟨fd_sealed, F_sealed⟩ := c.fn_ 2
  obtain ⟨fd_record_in, F_record_in⟩ := c.fn_ 3
  obtain ⟨fd_whole_records, F_whole_records⟩ := c.fn_ 4
  obtain ⟨fd_l_pot, F_l_pot⟩ := c.fn_ 5
  obtain ⟨fd_l_take, F_l_take⟩ := c.fn_ 6
  obtain ⟨fd_l_pick, F_l_pick⟩ := c.fn_ 7
  obtain ⟨fd_l_check, F_l_check⟩ := c.fn_ 8
  obtain ⟨fd_l_row, F_l_row⟩ := c.fn_ 9
  obtain ⟨fd_l_record, F_l_record⟩ := c.fn_ 10
  obtain ⟨fd_l_whole, F_l_whole⟩ := c.fn_ 11
  obtain ⟨fd_l_odd_row, F_l_odd_row⟩ := c.fn_ 12
  obtain ⟨fd_l_spoilt, F_l_spoilt⟩ := c.fn_ 13
  obtain ⟨fd_l_refused, F_l_refused⟩ := c.fn_ 14
  obtain ⟨fd_l_replaced_right, F_l_replaced_right⟩ := c.fn_ 15
  obtain ⟨fd_l_more_right, F_l_more_right⟩ := c.fn_ 16
  obtain ⟨fd_l_right, F_l_right⟩ := c.fn_ 17
  obtain ⟨fd_law, F_law⟩ := c.fn_ 18
  obtain ⟨fd_InvalidRecordinit, F_InvalidRecordinit⟩ := c.fn_ 19
  have T : Tx K mg (He.ga K "LeastlogError") (He.ga K "InvalidRecord") := {
    le := fLe_ok (c.fact 22)
    g_LeastlogError := He.glo_ok X G (c.fact 20)
    g_InvalidRecord := He.glo_ok X G (c.fact 21)
    g_FEED := He.str_ok X G (c.fact 25)
    g_SPACE := He.str_ok X G (c.fact 26)
    g_FIRST_CHECK := He.int_ok X G (c.fact 27)
    g_FACTOR := He.int_ok X G (c.fact 28)
    g_MODULUS := He.int_ok X G (c.fact 29)
    kRE := of_decide_eq_true (c.fact 23)
    xRR := of_decide_eq_true (c.fact 24)
    n_isinstance := He.free_ok X G (c.fact 30)
    n_int := He.free_ok X G (c.fact 31)
    n_abs := He.free_ok X G (c.fact 32)
    n_str := He.free_ok X G (c.fact 33)
    n_repr := He.free_ok X G (c.fact 34)
    n_range := He.free_ok X G (c.fact 35)
    n_len := He.free_ok X G (c.fact 36)
    n_max := He.free_ok X G (c.fact 37)
    n_min := He.free_ok X G (c.fact 38)
    n_divmod := He.free_ok X G (c.fact 39)
    n_all := He.free_ok X G (c.fact 40)
    n_ord := He.free_ok X G (c.fact 41)
  }
  have B_is_record : Binds K fd_is_record ["value"] [] := F_is_record.bindsN fun _ _ _ _ _ _ us hl => match us, hl with | [_], _ => rfl
  have B_check_of : Binds K fd_check_of ["record"] [] := F_check_of.bindsN fun _ _ _ _ _ _ us hl => match us, hl with | [_], _ => rfl
  have B_sealed : Binds K fd_sealed ["record"] [] := F_sealed.bindsN fun _ _ _ _ _ _ us hl => match us, hl with | [_], _ => rfl
  have B_record_in : Binds K fd_record_in ["line"] [] := F_record_in.bindsN fun _ _ _ _ _ _ us hl => match us, hl with | [_], _ => rfl
  have B_whole_records : Binds K fd_whole_records ["text"] [] := F_whole_records.bindsN fun _ _ _ _ _ _ us hl => match us, hl with | [_], _ => rfl
  have B_l_pot : Binds K fd_l_pot ["_law_script", "_law_k"] [] := F_l_pot.bindsN fun _ _ _ _ _ _ us hl => match us, hl with | [_, _], _ => rfl
  have B_l_take : Binds K fd_l_take ["_law_pot_here", "_law_many"] [] := F_l_take.bindsN fun _ _ _ _ _ _ us hl => match us, hl with | [_, _], _ => rfl
  have B_l_pick : Binds K fd_l_pick ["_law_pot_here", "_law_some"] [] := F_l_pick.bindsN fun _ _ _ _ _ _ us hl => match us, hl with | [_, _], _ => rfl
  have B_l_check : Binds K fd_l_check ["_law_record_here"] [] := F_l_check.bindsN fun _ _ _ _ _ _ us hl => match us, hl with | [_], _ => rfl
  have B_l_row : Binds K fd_l_row ["_law_record_here"] [] := F_l_row.bindsN fun _ _ _ _ _ _ us hl => match us, hl with | [_], _ => rfl
  have B_l_record : Binds K fd_l_record ["_law_pot_here"] [] := F_l_record.bindsN fun _ _ _ _ _ _ us hl => match us, hl with | [_], _ => rfl
  have B_l_whole : Binds K fd_l_whole ["_law_text"] [] := F_l_whole.bindsN fun _ _ _ _ _ _ us hl => match us, hl with | [_], _ => rfl
  have B_l_odd_row : Binds K fd_l_odd_row ["_law_pot_here", "_law_record_here"] [] := F_l_odd_row.bindsN fun _ _ _ _ _ _ us hl => match us, hl with | [_, _], _ => rfl
  have B_l_spoilt : Binds K fd_l_spoilt ["_law_pot_here", "_law_rows"] [] := F_l_spoilt.bindsN fun _ _ _ _ _ _ us hl => match us, hl with | [_, _], _ => rfl
  have B_l_refused : Binds K fd_l_refused ["_law_call"] [] := F_l_refused.bindsN fun _ _ _ _ _ _ us hl => match us, hl with | [_], _ => rfl
  have B_l_replaced_right : Binds K fd_l_replaced_right ["_law_pot_here", "_law_records", "_law_rows"] [] := F_l_replaced_right.bindsN fun _ _ _ _ _ _ us hl => match us, hl with | [_, _, _], _ => rfl
  have B_l_more_right : Binds K fd_l_more_right ["_law_pot_here", "_law_records", "_law_rows"] [] := F_l_more_right.bindsN fun _ _ _ _ _ _ us hl => match us, hl with | [_, _, _], _ => rfl
  have B_l_right : Binds K fd_l_right ["_law_pot_here"] [] := F_l_right.bindsN fun _ _ _ _ _ _ us hl => match us, hl with | [_], _ => rfl
  have B_law : Binds K fd_law ["_law_script"] [] := F_law.bindsN fun _ _ _ _ _ _ us hl => match us, hl with | [_], _ => rfl
  have B_InvalidRecordinit : Binds K fd_InvalidRecordinit ["self", "value"] [] := F_InvalidRecordinit.bindsN fun _ _ _ _ _ _ us hl => match us, hl with | [_, _], _ => rfl
  have e := hfa.symm.trans (He.glo_ok X G (c.fact 18))
  cases e
  have b := FunD.bindsA (ps := ["_law_script"]) F_law fun _ _ _ _ _ _ us hl => match us, hl with | [_], _ => rfl
  refine ⟨fd_law, fun s v => b s [v] rfl, fun base kb nb tbs => ?_⟩
  have O_InvalidRecord : OexC K (He.ga K "InvalidRecord") ∧ PySem.W.findIn K (.ref (He.ga K "InvalidRecord")) "value" = some none := by
    have q := (c.fact 19)
    exact fXcl_pre q
  have X_InvalidRecord : Xcl P w K mg base 1 "InvalidRecord" (He.ga K "InvalidRecord") "value" := fXcl_ok (c.fact 19) (He.glo_ok X G (c.fact 21)) B_InvalidRecordinit (ok_rec T O_InvalidRecord.1 O_InvalidRecord.2 F_InvalidRecordinit)
  have G_is_record : Fnc P w K mg base CX0 1 "is_record" [] (spIs K) := ⟨_, _, _, [], He.glo_ok X G (c.fact 0), F_is_record.kp, B_is_record, .nil, ok_is_record T F_is_record⟩
  have G_check_of : Fnc P w K mg base CX0 1 "check_of" [] spChk := ⟨_, _, _, [], He.glo_ok X G (c.fact 1), F_check_of.kp, B_check_of, .nil, ok_check_of T F_check_of⟩
  have G_sealed : Fnc P w K mg base (L2.CX P w) 3 "sealed" [] (spSealed K (He.ga K "InvalidRecord")) := ⟨_, _, _, [], He.glo_ok X G (c.fact 2), F_sealed.kp, B_sealed, .nil, ok_sealed T X_InvalidRecord G_is_record G_check_of F_sealed⟩
  have G_record_in : Fnc P w K mg base CX0 4 "record_in" [] spRin := ⟨_, _, _, [], He.glo_ok X G (c.fact 3), F_record_in.kp, B_record_in, .nil, ok_record_in T G_sealed F_record_in⟩
  have G_whole_records : Fnc P w K mg base (L2.CX P w) 5 "whole_records" [] (spWhole K (He.ga K "InvalidRecord")) := ⟨_, _, _, [], He.glo_ok X G (c.fact 4), F_whole_records.kp, B_whole_records, .nil, ok_whole T X_InvalidRecord G_record_in F_whole_records⟩
  have G_l_pot : Fnc P w K mg base CX0 1 "_law_pot" [] (spPot K) := ⟨_, _, _, [], He.glo_ok X G (c.fact 5), F_l_pot.kp, B_l_pot, .nil, ok_l_pot T F_l_pot⟩
  have G_l_take : Fnc P w K mg base CX0 1 "_law_take" [] spTake := ⟨_, _, _, [], He.glo_ok X G (c.fact 6), F_l_take.kp, B_l_take, .nil, ok_l_take T F_l_take⟩
  have G_l_pick : Fnc P w K mg base CX0 2 "_law_pick" [] spPick := ⟨_, _, _, [], He.glo_ok X G (c.fact 7), F_l_pick.kp, B_l_pick, .nil, ok_l_pick T G_l_take F_l_pick⟩
  have G_l_check : Fnc P w K mg base CX0 1 "_law_check" [] spChk := ⟨_, _, _, [], He.glo_ok X G (c.fact 8), F_l_check.kp, B_l_check, .nil, ok_l_check T F_l_check⟩
  have G_l_row : Fnc P w K mg base CX0 2 "_law_row" [] spRow := ⟨_, _, _, [], He.glo_ok X G (c.fact 9), F_l_row.kp, B_l_row, .nil, ok_l_row T G_l_check F_l_row⟩
  have G_l_record : Fnc P w K mg base CX0 3 "_law_record" [] spRec := ⟨_, _, _, [], He.glo_ok X G (c.fact 10), F_l_record.kp, B_l_record, .nil, ok_l_record T G_l_pick F_l_record⟩
  have G_l_whole : Fnc P w K mg base CX0 3 "_law_whole" [] spLw := ⟨_, _, _, [], He.glo_ok X G (c.fact 11), F_l_whole.kp, B_l_whole, .nil, ok_l_whole T G_l_row F_l_whole⟩
  have G_l_odd_row : Fnc P w K mg base CX0 3 "_law_odd_row" [] spOdd := ⟨_, _, _, [], He.glo_ok X G (c.fact 12), F_l_odd_row.kp, B_l_odd_row, .nil, ok_l_odd T G_l_check G_l_pick F_l_odd_row⟩
  have G_l_spoilt : Fnc P w K mg base CX0 4 "_law_spoilt" [] spSpoilt := ⟨_, _, _, [], He.glo_ok X G (c.fact 13), F_l_spoilt.kp, B_l_spoilt, .nil, ok_l_spoilt T G_l_take G_l_pick G_l_record G_l_odd_row F_l_spoilt⟩
  have G_l_refused : Taker P w K mg base 9 "_law_refused" "_law_call" (TTr K (He.ga K "InvalidRecord")) := tk_refused T X_InvalidRecord F_l_refused (He.glo_ok X G (c.fact 14)) B_l_refused
  have G_l_replaced_right : Fnc P w K mg base CX0 6 "_law_replaced_right" [] spRep := ⟨_, _, _, [], He.glo_ok X G (c.fact 15), F_l_replaced_right.kp, B_l_replaced_right, .nil, ok_l_replaced T G_l_take G_l_pick G_whole_records F_l_replaced_right⟩
  have tbr : LamX.TabB base mg (cOf K (gA "_law_more_right" K)) (tOf K (gA "_law_more_right" K)) := tbs _ (List.mem_map.mpr ⟨_, List.mem_singleton.mpr rfl, rfl⟩)
  have G_l_more_right : Fnc P w K mg base CX0 11 "_law_more_right" [] (spMore [(tOf K (gA "_law_more_right" K), lamQ)]) := ⟨_, _, _, [], He.glo_ok X G (c.fact 16), F_l_more_right.kp, B_l_more_right, .nil, ok_l_more T G_l_take G_l_pick G_l_spoilt G_l_whole G_whole_records G_sealed G_l_replaced_right G_l_refused F_l_more_right tbr⟩
  have G_l_right : Fnc P w K mg base CX0 12 "_law_right" [] (spRight [(tOf K (gA "_law_more_right" K), lamQ)]) := ⟨_, _, _, [], He.glo_ok X G (c.fact 17), F_l_right.kp, B_l_right, .nil, ok_l_right T G_l_take G_l_record G_l_row G_sealed G_whole_records G_l_more_right F_l_right⟩
  exact ok_law T G_l_pot G_l_right F_law
end
end K75
open PySem PySem.W PySem.Calls PyProof.Rows
theorem PySem.Challenge.cw_leastlog_k75_sealed_rows_holds : PySem.Challenge.rw_leastlog_k75_sealed_rows.Holds := by
  w_on; o_law
  refine HandSHeadRun.head_any (r := OpenLaw.row PySem.Challenge.rw_leastlog_k75_sealed_rows) (q := view (OpenLaw.row PySem.Challenge.rw_leastlog_k75_sealed_rows).prog [28]) (H := K75.hk) (ob := K75.ob) (M := 8000) (loose := K75.loose) (d := HandSHeadRun.topDef (OpenLaw.row PySem.Challenge.rw_leastlog_k75_sealed_rows).prog 28) (kwd := []) K75.ob_eq
    (by kernel_rfl) (fun s => by kernel_rfl) K75.run (by kernel_rfl) (by kernel_rfl) (by kernel_rfl) (by rfl) (by first | assumption | decide +kernel) (by decide +kernel) ⟨rfl, rfl, rfl, rfl, rfl, by decide +kernel⟩ ?hw ?hc
  case hw => w_witness2
  case hc =>
    refine LL.walkT (l := PySem.Challenge.rw_leastlog_k75_sealed_rows) (n := 63) (k := 13) (x := "_law_script") (CX := L2.CX0) rfl (by decide) (by kernel_rfl) ⟨⟨rfl, by decide, by decide⟩, rfl⟩ ?F (fun _ _ _ _ z => z)
    intro w mg fa h Y G hmg0
    obtain ⟨K, KX, c⟩ := Y
    have hmg : mg ("law" : PySem.Str) = some (.ref fa) := by
      have e : (HandSHeadRun.topDef (OpenLaw.row PySem.Challenge.rw_leastlog_k75_sealed_rows).prog 28).name = ("law" : PySem.Str) := by kernel_rfl
      rw [← e]
      exact hmg0
    obtain ⟨fd, hb, hF⟩ := K75.facts (P := (PySem.Challenge.rw_leastlog_k75_sealed_rows).prog) (w := w) KX G hmg c.y
    have mem : ∀ p ∈ K75.csOf K, ∃ a ∈ K75.tf, p = (LL.cOf K (a K), LL.tOf K (a K)) := fun p hp => by
      obtain ⟨a, ha, e⟩ := List.mem_map.mp hp
      exact ⟨a, ha, e.symm⟩
    refine ⟨K, fd, K75.spLaw K [(LL.tOf K (LL.gA "_law_more_right" K), K75.lamQ)], K75.csOf K, KX, fun p hp => ?_, fun p hp => ?_, fun p hp => ?_, hb, fun H a ns hl _ hT hS => ⟨a, ns, rfl, hS, hl, fun p hp => by rw [List.mem_singleton.mp hp]; exact LamX.TabS.nil (hT _ (List.mem_map.mpr ⟨_, List.mem_singleton.mpr rfl, rfl⟩)), fun _ => rfl⟩, hF⟩
    · obtain ⟨a, ha, rfl⟩ := mem p hp
      exact c.emp a ha
    · obtain ⟨a, ha, rfl⟩ := mem p hp
      exact c.out a ha
    · obtain ⟨a, ha, rfl⟩ := mem p hp
      exact c.hd a ha
