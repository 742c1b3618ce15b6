import PyProof.Rows.All
import Wide.All
import OpenK.AllK
import Wide.FinOn
import KE.KOpsOwn
import KE.KCallOwn
import KE.KFmtOwn
import PyProof.ReprRoads
import HandS.ForMost
import HandS.Exc
import HandS.Lambda
import HandS.Defaults
import HandS.Property
import HandS.IsInst
import HandS.FStr
import HandS.WideBits
import HandS.EndTab
import HandS.SlotsOwn
import HandS.FStrTup
import HandS.RaiseMore
import HandS.Head0
import HandS.Head1
import HandS.Head2
import HandS.HeadEnd
import HandS.HeadHook1
import HandS.HeadHook2
import HandS.EndBits
import HandS.TryOnly
import HandS.TryMany
import HandS.ExcInit
import HandS.ExcField
import HandS.ExcIs
import HandS.HeadHook4
import HandS.Walk
import HandS.Zip
import KE.GoesZip
import KE.GoesMore
import HandS.SetFor
import HandS.Strs
import HandS.TupAny
import HandS.More
import HandS.Conv
import HandS.CallSlots
import HandS.ExcOwn
import HandS.Style
import HandS.MakeKw
import HandS.Small
import HandS.DictComp
import KE.KExcInit
import KE.KExcPX
import PyProof.ExcBaseAll.LookupError
import PyProof.ExcBaseAll.RuntimeError
import PyProof.ExcBaseAll.ArithmeticError
import HandS.ClsMeth
import HandS.HeadNt
import HandS.Deep
import PyProof.P3In
import HandS.SortRule
import HandS.TupLen
import PySem.Challenge.RW_leastlog_k63_whole_fewest_keeps
set_option Elab.async false
set_option linter.all false
set_option maxRecDepth 100000
set_option maxHeartbeats 2000000
/-! LLBase: the layer with one fact more: no repr is under way where a def is called. -/
namespace LL
open PySem PySem.Spec PyProof.Rows L2

/-- room for k calls, and no container's repr is under way -/
structure Rm (k : Nat) (A : Around) : Prop where
  r : Room k A
  g : A.guards = some []
theorem Rm.mono {j k : Nat} {A : Around} (h : Rm k A) (q : j ≤ k) : Rm j A := ⟨h.r.mono q, h.g⟩
theorem Rm.deeper {k : Nat} {A : Around} (h : Rm (k + 1) A) (env : Env) : Rm k (A.deeper env) := ⟨h.r.deeper env, h.g⟩
theorem Rm.in1 {k : Nat} {A : Around} (h : Rm (k + 1) A) : Rm k A.in1 := ⟨h.r.in1, h.g⟩
theorem Rm.make {k : Nat} {A : Around} (h : Rm (k + 1) A) (C : Addr) (us : List Value) (kw : List (Str × Value)) : Rm k (A.under (.builtin "type.__call__" ⟨.ref C :: us, kw⟩)) :=
  ⟨h.r.make C us kw, by
    have e : (Code.builtin "type.__call__" ⟨.ref C :: us, kw⟩).guards = [] := by
      first | rfl | simp [Code.guards, Code.isGuard, guardIds]
    unfold Around.under
    rw [e, h.g]
    rfl⟩

/-- a def keeps its promise wherever there is room and no repr is under way -/
structure FnG (P : Program) (w : World) (K : PySem.W.Frag) (mg : Str → Option Value) (base : Heap) (CX : CXT) (k : Nat) (f : Addr) (fd : FuncData) (ps : List Str) (sp : Sp) : Prop where
  len : ∀ vs H Q E, sp vs H Q E → vs.length = ps.length
  run : ∀ (A : Around) (outer : List Env) (s : Shared) (H : Hp) (args : Args) (us : List Value) (vs : List V) (Q : VK) (E : XK), Rm k A → Env0 P w K mg base A outer s H → BindsTo s fd args (ps.zip us) → Vals vs us → sp vs H Q E →
    codeAny (model P w) A (.call (.ref f) args) (CR CX outer P w H s Q E) s
section
variable {P : Program} {w : World} {K : PySem.W.Frag} {mg : Str → Option Value} {base : Heap} {CX : CXT} {k : Nat} {f : Addr} {fd : FuncData} {ps : List Str} {sp sp' : Sp}
theorem FnG.mono {j : Nat} (F : FnG P w K mg base CX j f fd ps sp) (h : j ≤ k) : FnG P w K mg base CX k f fd ps sp :=
  ⟨F.len, fun A outer s H args us vs Q E hr => F.run A outer s H args us vs Q E (hr.mono h)⟩
theorem FnG.imp (F : FnG P w K mg base CX k f fd ps sp) (h : ∀ vs H Q E, sp' vs H Q E → sp vs H Q E) : FnG P w K mg base CX k f fd ps sp' :=
  ⟨fun vs H Q E q => F.len vs H Q E (h _ _ _ _ q), fun A outer s H args us vs Q E hr he hb hv hs => F.run A outer s H args us vs Q E hr he hb hv (h _ _ _ _ hs)⟩
/-- a def by its body: it may raise -/
theorem okX {x qual : Str} {params : Arguments} {body : List Stmt} {scope : Scope} {dvs : List V} {kws : List (Str × V)} {N : List Str} (F : FunD K x qual params body scope dvs kws f fd) (S : FnScope N ps scope) (len : ∀ vs H Q E, sp vs H Q E → vs.length = ps.length)
    (hbody : ∀ (cdv : Value) (A : Around) (outer : List Env) (s : Shared) (H : Hp) (vs : List V) (Q : VK) (E : XK), Rm k (A.deeper (envOfC qual scope s.heap.objs.size f cdv)) → sp vs H Q E →
      ∃ t, PSs (cxOf CX P w K mg base N qual scope f cdv A outer s H E) body t ∧ t { nx := fun _ H' => Q .non H', rt := Q } (L2.start N vs) H) : FnG P w K mg base CX (k + 1) f fd ps sp := by
  obtain ⟨oc, od, dV, kV, doc, pm, an, cdv, ct, osl, rfl, lk, hcd, _, _⟩ := F.ex
  refine ⟨len, fun A outer s H args us vs Q E hr e0 hb r hsp => ?_⟩
  exact LamX.run_ofS (CX := CX) lk hcd S hr.r e0 hb r (len _ _ _ _ hsp) fun _ => hbody cdv A outer s H vs Q E (hr.deeper _) hsp
/-- a def by its body: nothing leaves it -/
theorem ok0 {x qual : Str} {params : Arguments} {body : List Stmt} {scope : Scope} {dvs : List V} {kws : List (Str × V)} {N : List Str} (F : FunD K x qual params body scope dvs kws f fd) (S : FnScope N ps scope) (len : ∀ vs H Q E, sp vs H Q E → vs.length = ps.length)
    (hbody : ∀ (cdv : Value) (A : Around) (outer : List Env) (s : Shared) (H : Hp) (vs : List V) (Q : VK) (E : XK), Rm k (A.deeper (envOfC qual scope s.heap.objs.size f cdv)) → sp vs H Q E →
      ∃ t, PSs (cxOf CX0 P w K mg base N qual scope f cdv A outer s H E).nox body t ∧ t { nx := fun _ H' => Q .non H', rt := Q } (L2.start N vs) H) : FnG P w K mg base CX0 (k + 1) f fd ps sp :=
  okX F S len fun cdv A outer s H vs Q E hr h => by
    obtain ⟨t, ht, q⟩ := hbody cdv A outer s H vs Q E hr h
    exact ⟨t, ht.nox, q⟩
end

section
variable {X : Cx} {CX : CXT} {k : Nat} {f C : Addr} {fd : FuncData} {ps : List Str} {sp : Sp} {dvs : List V} {ds : List Value} {E : XK} {x m : Str} {p pos apos : Pos} {e o : Expr} {es : List Expr} {ta : TE} {t : TA}
/-- the callee runs, at any place that stands for this body's -/
theorem run_g {pins : List (Addr × Obj)} {σ : L2.St} {H : Hp} {s : Shared} {Q : VK} {us : List Value} {vs : List V} {A : Around} (F : FnG X.prog X.w X.K X.mg X.base CX k f fd ps sp) (hr : Rm k A) (e0 : Env0 X.prog X.w X.K X.mg X.base A X.stack s H) (hb : Binds X.K fd ps ds) (hd : Vals dvs ds) (hx : Passes CX X E)
    (I : Inv X pins σ H s) (r : Vals vs us) (h : sp (vs ++ dvs) H Q E) : wpAny (model X.prog X.w) A (call (.ref f) us) (EP X pins σ Q) X.xe s := by
  have r2 : Vals (vs ++ dvs) (us ++ ds) := r.append hd
  have hl : (us ++ ds).length = ps.length := by
    have := F.len _ _ _ _ h
    rw [← this]
    exact r2.length.symm
  have go := F.run A X.stack s H ⟨us, []⟩ (us ++ ds) (vs ++ dvs) Q E hr e0 (hb s us I.kIn hl) r2 h
  refine wpAny_call (codeAny_mono go fun r s' hq => ?_)
  match r, hq with
  | .error er, hq => exact hx pins σ H s er s' I hq
  | .ok (.ret u), hq => exact I.after hq
  | .ok .next, hq => exact False.elim hq
  | .ok .brk, hq => exact False.elim hq
  | .ok .cont, hq => exact False.elim hq
/-- f(e, ..) -/
theorem pe_callG (F : FnG X.prog X.w X.K X.mg X.base CX k f fd ps sp) (hr : Rm k X.A) (hg : Gl X x) (hm : X.mg x = some (.ref f)) (hk : PySem.W.keepIn X.K (.ref f) = true) (hb : Binds X.K fd ps ds) (hd : Vals dvs ds) (hx : Passes CX X E)
    (ha : PA X (e :: es) t) (hdb : (x == ("__debug__" : Str)) = false := by decide) (he : starEach (e :: es) X.env = (false, eval e X.env) :: starEach es X.env := by rfl) (hpl : (backTo pos (starEach es X.env)).any (·.1) = false := by rfl) :
    PE X (.Call (.Name x p) (e :: es) [] pos) (tCall sp dvs E t) :=
  ⟨fun pins s σ H Q I h => wpAny_Call_Name_kw (ld_glob I hg hm (PySem.W.callWith_K (h₀ := X.base) I.ok.mod.kin hk (thn (ha.run pos pins s σ H _ I h) fun us s1 ⟨vs, H1, I1, r, q⟩ => ⟨I1.kIn, run_g F hr I1.env0 hb hd hx I1 r q⟩) he hpl) hdb)⟩
theorem pe_call0G (F : FnG X.prog X.w X.K X.mg X.base CX k f fd ps sp) (hr : Rm k X.A) (hg : Gl X x) (hm : X.mg x = some (.ref f)) (hk : PySem.W.keepIn X.K (.ref f) = true) (hb : Binds X.K fd ps ds) (hd : Vals dvs ds) (hx : Passes CX X E)
    (hdb : (x == ("__debug__" : Str)) = false := by decide) : PE X (.Call (.Name x p) [] [] pos) (tCall sp dvs E tNil) :=
  ⟨fun pins s σ H Q I h => wpAny_Call_Name_kw (ld_glob I hg hm (PySem.W.callWith_K0 I.kIn hk (run_g (us := []) F hr I.env0 hb hd hx I .nil h)) hdb)⟩
/-- o.m(e, ..) -/
theorem pe_methG {pl : Sem Bool} (he : PE X o ta) (c : Cls X.K C) (hm : Meth X.K C m f) (F : FnG X.prog X.w X.K X.mg X.base CX k f fd ps sp) (hr : Rm k X.A) (hb : Binds X.K fd ps ds) (hd : Vals dvs ds) (hx : Passes CX X E) (ha : PA X (e :: es) t)
    (hst : starEach (e :: es) X.env = (false, eval e X.env) :: starEach es X.env := by rfl) (hpl : (backTo pos (starEach es X.env)).any (·.1) = false := by rfl)
    (ht : eval (.Call (.Attribute o m apos) (e :: es) [] pos) X.env = (do
      let ov ← eval o X.env
      standAt apos.atName
      let (f, first) ← holding [ov] (getMethod ov m pl)
      callWith pos f first (backTo pos (starEach (e :: es) X.env)) (backToKw pos (keywordEach [] X.env))) := by rfl) :
    PE X (.Call (.Attribute o m apos) (e :: es) [] pos) (tMeth C m sp dvs E ta t) := by
  refine ⟨fun pins s σ H Q I h => PySem.W.methodCall_KW (pl := pl) (thn (he.run pins s σ H _ I h) fun u s1 hh => ?_) ht⟩
  obtain ⟨x, H1, I1, rx, a, dx, fs, rfl, ea, l, q⟩ := hh
  obtain rfl : u = Value.ref a := rx
  exact getmeth_ok I1 ea c hm l (PySem.W.callWith_K (first := [.ref a]) (h₀ := X.base) I.ok.mod.kin hm.kp (thn (ha.run pos pins s1 σ H1 _ I1 q) fun us s2 ⟨vs, H2, I2, r, q2⟩ =>
    ⟨I2.kIn, run_g (us := .ref a :: us) (vs := .ref a :: vs) F hr I2.env0 hb hd hx I2 (.cons rfl r) q2⟩) hst hpl)
theorem pe_meth0G {pl : Sem Bool} (he : PE X o ta) (c : Cls X.K C) (hm : Meth X.K C m f) (F : FnG X.prog X.w X.K X.mg X.base CX k f fd ps sp) (hr : Rm k X.A) (hb : Binds X.K fd ps ds) (hd : Vals dvs ds) (hx : Passes CX X E)
    (ht : eval (.Call (.Attribute o m apos) [] [] pos) X.env = (do
      let ov ← eval o X.env
      standAt apos.atName
      let (f, first) ← holding [ov] (getMethod ov m pl)
      callWith pos f first (backTo pos (starEach [] X.env)) (backToKw pos (keywordEach [] X.env))) := by rfl) :
    PE X (.Call (.Attribute o m apos) [] [] pos) (tMeth C m sp dvs E ta tNil) := by
  refine ⟨fun pins s σ H Q I h => PySem.W.methodCall_KW (pl := pl) (thn (he.run pins s σ H _ I h) fun u s1 hh => ?_) ht⟩
  obtain ⟨x, H1, I1, rx, a, dx, fs, rfl, ea, l, q⟩ := hh
  obtain rfl : u = Value.ref a := rx
  exact getmeth_ok I1 ea c hm l (PySem.W.callWith_K0 (first := [.ref a]) I1.kIn hm.kp (run_g (us := [.ref a]) (vs := [.ref a]) F hr I1.env0 hb hd hx I1 (.cons rfl .nil) q))
/-- C(e, ..): a new instance, then its __init__ -/
theorem run_makeG {pins : List (Addr × Obj)} {σ : L2.St} {H : Hp} {s : Shared} {Q : VK} {us : List Value} {vs : List V} (M : Mk X.K C f) (F : FnG X.prog X.w X.K X.mg X.base CX k f fd ps sp) (hr : Rm (k + 1) X.A) (hb : Binds X.K fd ps ds) (hd : Vals dvs ds)
    (hx : Passes CX X E) (I : Inv X pins σ H s) (r : Vals vs us)
    (h : ∀ x dx, H x = none → H dx = none → dx ≠ x → sp (.ref x :: (vs ++ dvs)) (upd (upd H dx (.own x)) x (.ins C dx [])) (fun v H2 => v = .non ∧ Q (.ref x) H2) E) :
    wpAny (model X.prog X.w) X.A (call (.ref C) us) (EP X pins σ Q) X.xe s := by
  have n1 : H (s.heap.objs.size + 1) = none := I.hok.fresh (Nat.le_succ _)
  have n0 : H s.heap.objs.size = none := I.hok.fresh (Nat.le_refl _)
  have hq := h (s.heap.objs.size + 1) s.heap.objs.size n1 n0 (Nat.ne_of_lt (Nat.lt_succ_self _))
  have I2 := Inv.made (C := C) I
  have r2 : Vals (V.ref (s.heap.objs.size + 1) :: (vs ++ dvs)) (Value.ref (s.heap.objs.size + 1) :: (us ++ ds)) := .cons rfl (r.append hd)
  have hl : (Value.ref (s.heap.objs.size + 1) :: us ++ ds).length = ps.length := r2.length.symm.trans (F.len _ _ _ _ hq)
  have go := F.run (X.A.under (.builtin "type.__call__" ⟨.ref C :: us, []⟩)) X.stack _ _ ⟨Value.ref (s.heap.objs.size + 1) :: us, []⟩ (Value.ref (s.heap.objs.size + 1) :: (us ++ ds)) _ _ E (hr.make C us [])
    (I2.env0.make C us []) (hb _ (Value.ref (s.heap.objs.size + 1) :: us) I2.kIn hl) r2 hq
  refine wpAny_call (make_map (f := f) I.kIn M.makes M.init (beq_iff_eq.mp M.fn) (codeAny_mono go fun r s' hq' => ?_))
  match r, hq' with
  | .error er, hq' => exact hx pins σ _ _ er s' I2 hq'
  | .ok (.ret u), hq' =>
    obtain ⟨v, H', I3, rv, rfl, q3⟩ := I2.after hq'
    exact ⟨rv, ⟨V.ref (s.heap.objs.size + 1), H', I3, rfl, q3⟩⟩
  | .ok .next, hq' => exact False.elim hq'
  | .ok .brk, hq' => exact False.elim hq'
  | .ok .cont, hq' => exact False.elim hq'
theorem pe_makeG (M : Mk X.K C f) (F : FnG X.prog X.w X.K X.mg X.base CX k f fd ps sp) (hr : Rm (k + 1) X.A) (hg : Gl X x) (hm : X.mg x = some (.ref C)) (hb : Binds X.K fd ps ds) (hd : Vals dvs ds) (hx : Passes CX X E)
    (ha : PA X (e :: es) t) (hdb : (x == ("__debug__" : Str)) = false := by decide) (he : starEach (e :: es) X.env = (false, eval e X.env) :: starEach es X.env := by rfl) (hpl : (backTo pos (starEach es X.env)).any (·.1) = false := by rfl) :
    PE X (.Call (.Name x p) (e :: es) [] pos) (tMake C sp dvs E t) :=
  ⟨fun pins s σ H Q I h => wpAny_Call_Name_kw (ld_glob I hg hm (PySem.W.callWith_K (h₀ := X.base) I.ok.mod.kin M.kp (thn (ha.run pos pins s σ H _ I h) fun us s1 ⟨vs, H1, I1, r, q⟩ => ⟨I1.kIn, run_makeG M F hr hb hd hx I1 r q⟩) he hpl) hdb)⟩
theorem pe_make0G (M : Mk X.K C f) (F : FnG X.prog X.w X.K X.mg X.base CX k f fd ps sp) (hr : Rm (k + 1) X.A) (hg : Gl X x) (hm : X.mg x = some (.ref C)) (hb : Binds X.K fd ps ds) (hd : Vals dvs ds) (hx : Passes CX X E)
    (hdb : (x == ("__debug__" : Str)) = false := by decide) : PE X (.Call (.Name x p) [] [] pos) (tMake C sp dvs E tNil) :=
  ⟨fun pins s σ H Q I h => wpAny_Call_Name_kw (ld_glob I hg hm (PySem.W.callWith_K0 I.kIn M.kp (run_makeG (us := []) M F hr hb hd hx I .nil h)) hdb)⟩
end
end LL

set_option Elab.async false
set_option linter.all false
set_option maxRecDepth 100000
set_option maxHeartbeats 2000000
/-! LLOwn: operators, ==, !=, str, repr of instances of own classes; repr of data. -/
namespace LL
open PySem PySem.Spec PyProof.Rows L2
/-! ### != by an own __eq__ -/
section
variable {prog : Program} {w : World} {A : Around} {E : Value → Shared → Prop} {s : Shared} {K : PySem.W.Frag} {x C f : Addr} {ox : Obj} {od : Option Obj} {b tb : Value}
/-- a special method that is a built-in's, bound if it can be -/
theorem ifBound_b {M : Model} {name : Str} {id : String} {args : List Value} {Q : Option Value → Shared → Prop} (X : K.In s.heap) (I : PySem.W.InstAt s.heap x ox C od) (hs : PySem.W.findIn K (.ref C) name = some (some (.builtin id)))
    (hb : ∀ self, bindSpecial (.builtin id) self = pure (.builtin id, [self])) (h : wpAny M A (call (.builtin id) (.ref x :: args)) (fun v => Q (some v)) E s) : wpAny M A (callSpecialIfBound? (.ref x) name args) Q E s := by
  have fin : wpAny M A (call (.builtin id) ([.ref x] ++ args) >>= fun v => pure (some v)) Q E s := wpAny_bind (thn h fun _ _ z => wpAny_pure z)
  have bnd : PySem.W.Looks M s.heap (bindSpecial (.builtin id) (.ref x)) (.builtin id, [.ref x]) := PySem.W.Looks.of_pure (hb _)
  unfold callSpecialIfBound? bindSpecialIfBound?
  refine wpAny_holding (wpAny_bind (wpAny_bind (wpAny_bind (I.type.here ((PySem.W.looks_findIn X hs).here ?_)))))
  refine wpAny_bind (wpAny_askSetting (wpAny_ite ?_))
  split
  · exact wpAny_bind (bnd.here (wpAny_pure (by exact fin)))
  · exact wpAny_tryCatch (wpAny_bind (bnd.here (wpAny_pure (by exact fin))))
open Builtin in
theorem ne_own {Q : Value → Shared → Prop} (hu : A.units + 1 < cLine) (X : K.In s.heap) (I : PySem.W.InstAt s.heap x ox C od) (hb : PySem.W.Looks (model prog w) s.heap (typeOf b) tb) (hn : PySem.W.notFirst K C tb = true) (hm : PySem.W.mroIn K C (.type "object") = some true)
    (hs : PySem.W.findIn K (.ref C) "__eq__" = some (some (.ref f))) (hf : PySem.W.isFn K (.ref f) = true) (hne : PySem.W.findIn K (.ref C) "__ne__" = some (some (.builtin "object.__ne__")))
    (h : wpAny (model prog w) A.in1 (call (.ref f) [.ref x, b]) (fun v s' => ∃ c, v = .bool c ∧ Q (.bool (!c)) s') E s) : wpAny (model prog w) A (richCompare .NotEq (.ref x) b) Q E s := by
  have one : wpAny (model prog w) A (tryCompare (.ref x) (cmpInfo .NotEq).2.1 b) (fun r s' => ∃ v, r = some v ∧ Q v s') E s := by
    unfold tryCompare
    refine wpAny_bind (ifBound_b (name := "__ne__") X I hne PySem.F.slot_tuple_iterator_ne.bind ?_)
    refine wpAny_call (codeAny_call_builtin PySem.F.slot_tuple_iterator_ne.plain PySem.F.cmpEntry_ne (PySem.W.check_slot PySem.F.cmpKind_ne PySem.F.cmpSplit_ne (I.type.andThen (PySem.W.looks_mroIn X hm)) (PySem.F.cmpArgs_ne _ _) ?_))
    unfold Builtin.«object.__ne__»
    refine wpAny_bind (m := slotArgs "__ne__" 1 _) (wpAny_pure ?_)
    refine wpAny_bind (m := cRoomFor _ _) (wpAny_cRoomFor hu ?_)
    refine wpAny_bind (m := callSpecialIfBound? (.ref x) (Str.ofString "__eq__") _) (PySem.W.ifBound_K X I hs hf (thn h fun r s' hr => ?_))
    obtain ⟨c, rfl, hq⟩ := hr
    refine wpAny_bind (wpAny_truthy_bool (wpAny_pure ?_))
    exact wpAny_pure ⟨_, rfl, hq⟩
  unfold richCompare
  simp only [oneThing_ref]
  refine wpAny_holding (wpAny_bind (wpAny_cRoomFor (by omega) ?_))
  refine wpAny_bind (I.type.here (wpAny_bind (hb.here ?_)))
  split
  · rename_i q
    have e : PySem.W.subIn K tb (.ref C) = some false := by
      rcases Bool.or_eq_true_iff.mp hn with e | e
      · rw [beq_iff_eq.mp e] at q
        simp at q
      · exact beq_iff_eq.mp e
    refine wpAny_bind ((PySem.W.looks_subIn X e).here ?_)
    simp only [Bool.false_eq_true, if_false]
    refine wpAny_bind (thn one fun r s' z => ?_)
    obtain ⟨v, rfl, hq⟩ := z
    exact wpAny_pure hq
  · refine wpAny_bind (wpAny_pure ?_)
    simp only [Bool.false_eq_true, if_false]
    refine wpAny_bind (thn one fun r s' z => ?_)
    obtain ⟨v, rfl, hq⟩ := z
    exact wpAny_pure hq
end
/-! ### rules -/
section
variable {X : Cx} {CX : CXT} {k : Nat} {f C : Addr} {fd : FuncData} {ps : List Str} {sp : Sp} {E : XK}
/-- the object's own record -/
theorem inst_of {pins : List (Addr × Obj)} {σ : L2.St} {H : Hp} {s : Shared} {a dx : Addr} {fs : List (Str × V)} (I : Inv X pins σ H s) (e : H a = some (.ins C dx fs)) : ∃ od, PySem.W.InstAt s.heap a (PySem.W.instObj C dx) C (some od) := by
  obtain ⟨mA, O, _⟩ := ins_get I.hok e
  obtain ⟨od, J, _⟩ := O.look
  exact ⟨od, J⟩
/-- a number's operator that the class at C has as a def -/
structure OpAt (K : PySem.W.Frag) (C : Addr) (op : Operator) (f : Addr) : Prop where
  first : PySem.W.selfFirst K C = true
  at_ : PySem.W.findIn K (.ref C) (PySem.dunder op.info.2) = some (some (.ref f))
  fn : PySem.W.isFn K (.ref f) = true
/-- .. asked with an int at the right -/
structure OpInt (K : PySem.W.Frag) (C : Addr) (op : Operator) : Prop where
  back : PySem.W.findIn K (.ref C) (PySem.dunderR op.info.2) = some none
  io : ∃ fo, PySem.W.findIn K (.type "int") (PySem.dunder op.info.2) = some fo
  ir : ∃ ro, PySem.W.findIn K (.type "int") (PySem.dunderR op.info.2) = some ro
  sub : PySem.W.subIn K (.type "int") (.ref C) = some false
/-- x op y: both of the class at C; or y an int -/
def rBin (C : Addr) (sp : Sp) (E : XK) : R2 := fun x y H Q => ∃ a dx fs, x = .ref a ∧ H a = some (.ins C dx fs) ∧ ((∃ b dy gs, y = .ref b ∧ H b = some (.ins C dy gs)) ∨ ∃ i, y = .int i) ∧ sp [x, y] H Q E
theorem op_bin {op : Operator} (O : OpAt X.K C op f) (OI : OpInt X.K C op) (F : FnG X.prog X.w X.K X.mg X.base CX k f fd ps sp) (hr : Rm k X.A) (hb : Binds X.K fd ps []) (hx : Passes CX X E) : OpR X (binaryOp op) (rBin C sp E) := by
  intro pins s σ H x y v u Q I rx ry h
  obtain ⟨a, dx, fs, rfl, ha, hy, q⟩ := h
  cases (show v = Value.ref a from rx)
  obtain ⟨od, J⟩ := inst_of I ha
  obtain ⟨m, hF⟩ := I.fr
  have go : wpAny (model X.prog X.w) X.A (call (.ref f) [.ref a, u]) (PySem.W.CmpBack (EP X pins σ Q)) X.xe s := by
    refine thn (run_g (us := [.ref a, u]) (vs := [.ref a, y]) (dvs := []) F hr I.env0 hb .nil hx I (.cons rfl (.cons ry .nil)) q) fun w s' z => ?_
    obtain ⟨z', H', I', rz, qz⟩ := z
    exact SlX.cmpback rz ⟨z', H', I', rz, qz⟩
  rcases hy with ⟨b, dy, gs, rfl, hb⟩ | ⟨i, rfl⟩
  · cases (show u = Value.ref b from ry)
    obtain ⟨od', J'⟩ := inst_of I hb
    exact PySem.W.binop_K hF I.ok.mod.kin J J'.type O.first O.at_ O.fn go
  · obtain ⟨t, rfl⟩ := (show ∃ t, u = Value.int i t from ry)
    obtain ⟨fo, h1⟩ := OI.io
    obtain ⟨ro, h2⟩ := OI.ir
    exact PySem.W.ksp_binT (T := "int") hF I.ok.mod.kin J (by rfl) O.first O.at_ O.fn OI.back (.inl rfl) h1 h2 OI.sub go
/-- -x -/
def rNeg (C : Addr) (sp : Sp) (E : XK) : V → Hp → VK → Prop := fun x H Q => ∃ a dx fs, x = .ref a ∧ H a = some (.ins C dx fs) ∧ sp [x] H Q E
theorem un_own (hs : PySem.W.findIn X.K (.ref C) "__neg__" = some (some (.ref f))) (hf : PySem.W.isFn X.K (.ref f) = true) (F : FnG X.prog X.w X.K X.mg X.base CX k f fd ps sp) (hr : Rm k X.A) (hb : Binds X.K fd ps []) (hx : Passes CX X E) : UnR X (unaryOp .USub) (rNeg C sp E) := by
  intro pins s σ H x v Q I rx h
  obtain ⟨a, dx, fs, rfl, ha, q⟩ := h
  cases (show v = Value.ref a from rx)
  obtain ⟨od, J⟩ := inst_of I ha
  obtain ⟨m, hF⟩ := I.fr
  exact PySem.W.ksp_neg hF I.ok.mod.kin J hs hf (run_g (us := [.ref a]) (vs := [.ref a]) (dvs := []) F hr I.env0 hb .nil hx I (.cons rfl .nil) q)
/-- x == y by x's own __eq__, whatever y is -/
def rEqO (K : PySem.W.Frag) (C : Addr) (sp : Sp) (E : XK) : R2 := fun x y H Q => ∃ a dx fs t, x = .ref a ∧ H a = some (.ins C dx fs) ∧ TyX K H y t ∧ PySem.W.notFirst K C t = true ∧ sp [x, y] H Q E
theorem op_eqO (hs : PySem.W.findIn X.K (.ref C) "__eq__" = some (some (.ref f))) (hf : PySem.W.isFn X.K (.ref f) = true) (F : FnG X.prog X.w X.K X.mg X.base CX k f fd ps sp) (hr : Rm k X.A) (hb : Binds X.K fd ps []) (hx : Passes CX X E) : OpR X (compareOp .Eq) (rEqO X.K C sp E) := by
  intro pins s σ H x y v u Q I rx ry h
  obtain ⟨a, dx, fs, t, rfl, ha, ty, hn, q⟩ := h
  cases (show v = Value.ref a from rx)
  obtain ⟨od, J⟩ := inst_of I ha
  obtain ⟨m, hF⟩ := I.fr
  obtain ⟨P, Z, hp, _⟩ := kit_of I ry ty
  refine PySem.W.cmp_K (op := .Eq) hr.r.units0 hF I.ok.mod.kin J (Z.ty _ _ I.kIn hp) hn hs hf ?_
  refine thn (run_g (us := [.ref a, u]) (vs := [.ref a, y]) (dvs := []) F hr I.env0 hb .nil hx I (.cons rfl (.cons ry .nil)) q) fun w s' z => ?_
  obtain ⟨z', H', I', rz, qz⟩ := z
  exact SlX.cmpback rz ⟨z', H', I', rz, qz⟩
/-- x != y by x's own __eq__ -/
def rNeO (K : PySem.W.Frag) (C : Addr) (sp : Sp) (E : XK) : R2 := fun x y H Q => ∃ a dx fs t, x = .ref a ∧ H a = some (.ins C dx fs) ∧ TyX K H y t ∧ PySem.W.notFirst K C t = true ∧ sp [x, y] H (fun z H' => ∃ c, z = .bl c ∧ Q (.bl (!c)) H') E
theorem op_neO (hs : PySem.W.findIn X.K (.ref C) "__eq__" = some (some (.ref f))) (hf : PySem.W.isFn X.K (.ref f) = true) (hne : PySem.W.findIn X.K (.ref C) "__ne__" = some (some (.builtin "object.__ne__"))) (hm : PySem.W.mroIn X.K C (.type "object") = some true)
    (F : FnG X.prog X.w X.K X.mg X.base CX k f fd ps sp) (hr : Rm (k + 1) X.A) (hb : Binds X.K fd ps []) (hx : Passes CX X E) : OpR X (compareOp .NotEq) (rNeO X.K C sp E) := by
  intro pins s σ H x y v u Q I rx ry h
  obtain ⟨a, dx, fs, t, rfl, ha, ty, hn, q⟩ := h
  cases (show v = Value.ref a from rx)
  obtain ⟨od, J⟩ := inst_of I ha
  obtain ⟨P, Z, hp, _⟩ := kit_of I ry ty
  have hu := hr.r.units
  refine ne_own (by omega) I.kIn J (Z.ty _ _ I.kIn hp) hn hm hs hf hne ?_
  refine thn (run_g (us := [.ref a, u]) (vs := [.ref a, y]) (dvs := []) F hr.in1 I.env0.in1 hb .nil hx I (.cons rfl (.cons ry .nil)) q) fun w s' z => ?_
  obtain ⟨z', H', I', rz, c, rfl, qz⟩ := z
  cases (show w = Value.bool c from rz)
  exact ⟨c, rfl, .bl (!c), H', I', rfl, qz⟩
/-- repr(x), str(x) by the class's own def -/
def rShow (C : Addr) (sp : Sp) (E : XK) : List V → Hp → VK → Prop := fun xs H Q => ∃ a dx fs, xs = [.ref a] ∧ H a = some (.ins C dx fs) ∧ sp [.ref a] H (fun z H' => ∃ y, z = .str y ∧ Q z H') E
theorem call_reprO (hs : PySem.W.findIn X.K (.ref C) "__repr__" = some (some (.ref f))) (hf : PySem.W.isFn X.K (.ref f) = true) (F : FnG X.prog X.w X.K X.mg X.base CX k f fd ps sp) (hr : Rm (k + 1) X.A) (hb : Binds X.K fd ps []) (hx : Passes CX X E) : CallR X (.builtin "repr") (rShow C sp E) := by
  intro pins s σ H xs us Q I r h
  obtain ⟨a, dx, fs, rfl, ha, q⟩ := h
  obtain ⟨u, rfl, ru⟩ := r.one
  cases (show u = Value.ref a from ru)
  obtain ⟨od, J⟩ := inst_of I ha
  obtain ⟨m, hF⟩ := I.fr
  refine PySem.W.repr_K hr.in1.r.units0 hF I.ok.mod.kin J hs hf (thn (run_g (us := [.ref a]) (vs := [.ref a]) (dvs := []) F hr.in1 I.env0.in1 hb .nil hx I (.cons rfl .nil) q) fun w s' z => ?_)
  obtain ⟨z', H', I', rz, y, rfl, qz⟩ := z
  obtain ⟨t, rfl⟩ := (show ∃ t, w = Value.str y t from rz)
  exact ⟨.str y, H', I', ⟨t, rfl⟩, qz⟩
theorem call_strO (hs : PySem.W.findIn X.K (.ref C) "__str__" = some (some (.ref f))) (hf : PySem.W.isFn X.K (.ref f) = true) (F : FnG X.prog X.w X.K X.mg X.base CX k f fd ps sp) (hr : Rm (k + 2) X.A) (hb : Binds X.K fd ps []) (hx : Passes CX X E) : CallR X (.type "str") (rShow C sp E) := by
  intro pins s σ H xs us Q I r h
  obtain ⟨a, dx, fs, rfl, ha, q⟩ := h
  obtain ⟨u, rfl, ru⟩ := r.one
  cases (show u = Value.ref a from ru)
  obtain ⟨od, J⟩ := inst_of I ha
  have hr2 : Rm k X.A.in1.in1 := (show Rm (k + 1) X.A.in1 from hr.in1).in1
  refine PySem.W.kso_call hr2.r.units0 I.kIn J hs hf (thn (run_g (us := [.ref a]) (vs := [.ref a]) (dvs := []) F hr2 I.env0.in1.in1 hb .nil hx I (.cons rfl .nil) q) fun w s' z => ?_)
  obtain ⟨z', H', I', rz, y, rfl, qz⟩ := z
  obtain ⟨t, rfl⟩ := (show ∃ t, w = Value.str y t from rz)
  exact ⟨.str y, H', I', ⟨t, rfl⟩, qz⟩
/-- repr of data: ints, texts, bools, None, lists and tuples of these -/
def rRepD (K : PySem.W.Frag) : List V → Hp → VK → Prop := fun xs H Q => ∃ a d, xs = [.ref a] ∧ Dp K H (.ref a) d ∧ d.showable = true ∧ d.hasDict = false ∧ d.depth ≤ 40 ∧ d.shown.length ≤ sizeLine ∧ Q (.str d.shown) H
theorem call_reprD (hr : Rm k X.A) : CallR X (.builtin "repr") (rRepD X.K) := by
  intro pins s σ H xs us Q I r h
  obtain ⟨a, d, rfl, hd, hs, hn, hp, hz, q⟩ := h
  obtain ⟨u, rfl, ru⟩ := r.one
  obtain ⟨as, rd⟩ := Dp.reads I d _ _ hd ru
  cases (show u = Value.ref a from ru)
  have hu := hr.r.units
  exact repr_of_reads' rd hs (fun z => by rw [hn] at z; cases z) hr.g (by omega) (fun _ _ e => e) (fun h' u tk hk => ⟨.str d.shown, H, I.kept hk, ⟨_, rfl⟩, q⟩) hz
end
end LL

set_option Elab.async false
set_option linter.all false
set_option maxRecDepth 100000
set_option maxHeartbeats 2000000
/-! LLCall: a def, a method, a maker, a property, each as one fact; some operators. -/
namespace LL
open PySem PySem.Spec PyProof.Rows L2
section
variable (P : Program) (w : World) (K : PySem.W.Frag) (mg : Str → Option Value) (base : Heap) (CX : CXT) (k : Nat)
/-- the module's name x is a def that keeps sp; dvs fill up -/
structure Fnc (x : Str) (dvs : List V) (sp : Sp) : Prop where
  ex : ∃ (f : Addr) (fd : FuncData) (ps : List Str) (ds : List Value), mg x = some (.ref f) ∧ PySem.W.keepIn K (.ref f) = true ∧ Binds K fd ps ds ∧ Vals dvs ds ∧ FnG P w K mg base CX k f fd ps sp
/-- the class at C has the method m -/
structure Mth (C : Addr) (m : Str) (dvs : List V) (sp : Sp) : Prop where
  cl : Cls K C
  ex : ∃ (f : Addr) (fd : FuncData) (ps : List Str) (ds : List Value), Meth K C m f ∧ Binds K fd ps ds ∧ Vals dvs ds ∧ FnG P w K mg base CX k f fd ps sp
/-- the module's name x is the class at C, made by an __init__ that keeps sp -/
structure Mkr (x : Str) (C : Addr) (dvs : List V) (sp : Sp) : Prop where
  ex : ∃ (f : Addr) (fd : FuncData) (ps : List Str) (ds : List Value), Mk K C f ∧ mg x = some (.ref C) ∧ Binds K fd ps ds ∧ Vals dvs ds ∧ FnG P w K mg base CX k f fd ps sp
/-- the class at C has the property m -/
structure Prp (C : Addr) (m : Str) (sp : Sp) : Prop where
  cl : Cls K C
  ex : ∃ (p g : Addr) (fd : FuncData) (ps : List Str), PropOf K C m p g ∧ Binds K fd ps [] ∧ FnG P w K mg base CX k g fd ps sp
end
section
variable {X : Cx} {CX : CXT} {k : Nat} {C : Addr} {sp : Sp} {dvs : List V} {E : XK} {x m : Str} {p pos apos : Pos} {e o : Expr} {es : List Expr} {ta : TE} {t : TA}
theorem pe_fn (G : Fnc X.prog X.w X.K X.mg X.base CX k x dvs sp) (hr : Rm k X.A) (hx : Passes CX X E) (ha : PA X (e :: es) t) (hg : Gl X x := by rfl) (hdb : (x == ("__debug__" : Str)) = false := by decide)
    (he : starEach (e :: es) X.env = (false, eval e X.env) :: starEach es X.env := by rfl) (hpl : (backTo pos (starEach es X.env)).any (·.1) = false := by rfl) : PE X (.Call (.Name x p) (e :: es) [] pos) (tCall sp dvs E t) := by
  obtain ⟨f, fd, ps, ds, hm, hk, hb, hd, F⟩ := G.ex
  exact pe_callG F hr hg hm hk hb hd hx ha hdb he hpl
theorem pe_fn0 (G : Fnc X.prog X.w X.K X.mg X.base CX k x dvs sp) (hr : Rm k X.A) (hx : Passes CX X E) (hg : Gl X x := by rfl) (hdb : (x == ("__debug__" : Str)) = false := by decide) : PE X (.Call (.Name x p) [] [] pos) (tCall sp dvs E tNil) := by
  obtain ⟨f, fd, ps, ds, hm, hk, hb, hd, F⟩ := G.ex
  exact pe_call0G F hr hg hm hk hb hd hx hdb
theorem pe_mt {pl : Sem Bool} (G : Mth X.prog X.w X.K X.mg X.base CX k C m dvs sp) (hr : Rm k X.A) (hx : Passes CX X E) (he : PE X o ta) (ha : PA X (e :: es) t)
    (hst : starEach (e :: es) X.env = (false, eval e X.env) :: starEach es X.env := by rfl) (hpl : (backTo pos (starEach es X.env)).any (·.1) = false := by rfl)
    (ht : eval (.Call (.Attribute o m apos) (e :: es) [] pos) X.env = (do
      let ov ← eval o X.env
      standAt apos.atName
      let (f, first) ← holding [ov] (getMethod ov m pl)
      callWith pos f first (backTo pos (starEach (e :: es) X.env)) (backToKw pos (keywordEach [] X.env))) := by rfl) : PE X (.Call (.Attribute o m apos) (e :: es) [] pos) (tMeth C m sp dvs E ta t) := by
  obtain ⟨f, fd, ps, ds, hm, hb, hd, F⟩ := G.ex
  exact pe_methG he G.cl hm F hr hb hd hx ha hst hpl ht
theorem pe_mt0 {pl : Sem Bool} (G : Mth X.prog X.w X.K X.mg X.base CX k C m dvs sp) (hr : Rm k X.A) (hx : Passes CX X E) (he : PE X o ta)
    (ht : eval (.Call (.Attribute o m apos) [] [] pos) X.env = (do
      let ov ← eval o X.env
      standAt apos.atName
      let (f, first) ← holding [ov] (getMethod ov m pl)
      callWith pos f first (backTo pos (starEach [] X.env)) (backToKw pos (keywordEach [] X.env))) := by rfl) : PE X (.Call (.Attribute o m apos) [] [] pos) (tMeth C m sp dvs E ta tNil) := by
  obtain ⟨f, fd, ps, ds, hm, hb, hd, F⟩ := G.ex
  exact pe_meth0G he G.cl hm F hr hb hd hx ht
theorem pe_mk (G : Mkr X.prog X.w X.K X.mg X.base CX k x C dvs sp) (hr : Rm (k + 1) X.A) (hx : Passes CX X E) (ha : PA X (e :: es) t) (hg : Gl X x := by rfl) (hdb : (x == ("__debug__" : Str)) = false := by decide)
    (he : starEach (e :: es) X.env = (false, eval e X.env) :: starEach es X.env := by rfl) (hpl : (backTo pos (starEach es X.env)).any (·.1) = false := by rfl) : PE X (.Call (.Name x p) (e :: es) [] pos) (tMake C sp dvs E t) := by
  obtain ⟨f, fd, ps, ds, M, hm, hb, hd, F⟩ := G.ex
  exact pe_makeG M F hr hg hm hb hd hx ha hdb he hpl
theorem pe_mk0 (G : Mkr X.prog X.w X.K X.mg X.base CX k x C dvs sp) (hr : Rm (k + 1) X.A) (hx : Passes CX X E) (hg : Gl X x := by rfl) (hdb : (x == ("__debug__" : Str)) = false := by decide) : PE X (.Call (.Name x p) [] [] pos) (tMake C sp dvs E tNil) := by
  obtain ⟨f, fd, ps, ds, M, hm, hb, hd, F⟩ := G.ex
  exact pe_make0G M F hr hg hm hb hd hx hdb
/-- e.m, a property -/
def tPr (C : Addr) (sp : Sp) (E : XK) (ta : TE) : TE := fun σ H Q => ta σ H fun x H1 => ∃ a dx fs, x = .ref a ∧ H1 a = some (.ins C dx fs) ∧ sp [.ref a] H1 Q E
theorem pe_pr (G : Prp X.prog X.w X.K X.mg X.base CX k C m sp) (hr : Rm (k + 1) X.A) (hx : Passes CX X.nox E) (he : PE X e ta) (hab : attributeBase e m X.env (eval e X.env) = eval e X.env := by rfl) : PE X (.Attribute e m pos) (tPr C sp E ta) := by
  obtain ⟨p, g, fd, ps, hp, hb, F⟩ := G.ex
  refine ⟨fun pins s σ H Q I h => attr_of hab (thn (he.run pins s σ H _ I h) fun u s1 hh => ?_)⟩
  obtain ⟨x, H1, I1, rx, a, dx, fs, rfl, ea, q⟩ := hh
  obtain rfl : u = Value.ref a := rx
  obtain ⟨od, J⟩ := inst_of I1 ea
  have c := G.cl
  have hc : (PySem.W.clsIn X.K C).isSome = true := by
    obtain ⟨cd, hc, _⟩ := PySem.W.any_some c.hd
    rw [hc]
    rfl
  obtain ⟨rest, hrec⟩ := hp.rec_
  have I2 : Inv X pins σ H1 { s1 with toks := s1.toks + 1 } := I1.tok _
  have hl : ([Value.ref a] : List Value).length = ps.length := F.len _ _ _ _ q
  refine PySem.W.get_bind I1.kIn J (PySem.W.plainGet_of (c.get m)).1 (PySem.W.findObj_data hc hp.at_ hp.get hp.tak) (PySem.W.plainGet_of (c.get m)).2 (wpAny_call (PySem.W.prop_get (s := { s1 with toks := s1.toks + 1 }) I1.kIn hrec ?_))
  have go := F.run X.A.in1 X.stack { s1 with toks := s1.toks + 1 } H1 ⟨[.ref a], []⟩ [.ref a] [.ref a] Q E hr.in1 I2.env0.in1 (hb _ [.ref a] I2.kIn hl) (.cons rfl .nil) q
  refine codeAny_mono go fun r s' hq => ?_
  match r, hq with
  | .error er, hq => exact False.elim (hx pins σ H1 _ er s' (I2.wish _) hq)
  | .ok (.ret u), hq =>
    obtain ⟨v, H', I3, rv, q3⟩ := I2.after hq
    exact wpAny_of_eq (PySem.W.handedOut_of (handed_of rv)) ⟨v, H', I3, rv, q3⟩
  | .ok .next, hq => exact False.elim hq
  | .ok .brk, hq => exact False.elim hq
  | .ok .cont, hq => exact False.elim hq
/-! ### some operators -/
/-- // by any number but 0 -/
def CDivZ (_ j : Int) : Prop := j ≠ 0 ∧ j.natAbs.log2 < 9000
theorem op_fdivZ : OpR X (binaryOp .FloorDiv) (rI CDivZ fun i j => .int (i.fdiv j)) := opI fun _ _ _ _ _ _ _ hc q => floordiv_int hc.1 q (.inl (PyProof.noPylong_of_log2 hc.2))
theorem wide_divZ {i j : Int} {b : Nat} (h : j ≠ 0) (hb : j.natAbs < 2 ^ b) (h0 : 0 < b) (h9 : b ≤ 9000) : CDivZ i j := ⟨h, Nat.lt_of_lt_of_le (PySem.Flt.log2_lt_of h0 hb) h9⟩
end
/-! ### tests -/
theorem iteY {c : Bool} {A B : Prop} (h : c = true) (a : A) : if c = true then A else B := by
  rw [if_pos h]
  exact a
theorem iteN {c : Bool} {A B : Prop} (h : c = false) (b : B) : if c = true then A else B := by
  rw [if_neg (by rw [h]; exact Bool.false_ne_true)]
  exact b
theorem iteB {c : Bool} {A B : Prop} (h1 : c = true → A) (h2 : c = false → B) : if c = true then A else B := by
  cases c with
  | true => exact iteT (h1 rfl)
  | false => exact iteF (h2 rfl)
theorem dec_ne {i j : Int} (h : i ≠ j) : decide (V.int i = V.int j) = false := decide_eq_false fun z => h (V.int.inj z)
theorem dec_eq {i j : Int} (h : i = j) : decide (V.int i = V.int j) = true := decide_eq_true (by rw [h])
/-! ### heaps -/
/-- all that was tracked but p is as it was -/
def But (p : Addr) (H H' : Hp) : Prop := ∀ b o, H b = some o → b ≠ p → H' b = some o
theorem But.refl {p : Addr} {H : Hp} : But p H H := fun _ _ e _ => e
theorem But.trans {p : Addr} {H H1 H2 : Hp} (a : But p H H1) (b : But p H1 H2) : But p H H2 := fun c o e n => b c o (a c o e n) n
theorem But.of {p : Addr} {H H' : Hp} (a : Same H H') : But p H H' := fun c o e _ => a c o e
theorem same_upd {H : Hp} {p : Addr} {o : HO} (h : H p = none) : Same H (upd H p o) := fun b x e => by
  rw [upd_ne (ne_of_none e h)]
  exact e
theorem but_upd {H : Hp} {p : Addr} {o : HO} : But p H (upd H p o) := fun b x e n => by
  rw [upd_ne n]
  exact e
/-- what was new at p stands beside what was -/
theorem But.same {p : Addr} {H H' : Hp} (a : But p H H') (n : H p = none) : Same H H' := fun b o e => a b o e (ne_of_none e n)
theorem But.free {p : Addr} {H H' : Hp} (a : But p H H') {b : Addr} (hb : b ≠ p) (h : H' b = none) : H b = none := by
  cases q : H b with
  | none => rfl
  | some o =>
    rw [a b o q hb] at h
    cases h
end LL

set_option Elab.async false
set_option linter.all false
set_option maxRecDepth 100000
set_option maxHeartbeats 2000000
/-! LLData: what repr of data is, how long it is. -/
namespace LL
open PySem PySem.Spec PyProof.Rows L2
/-- signs as texts have them -/
def Asc (x : Str) : Prop := ∀ c ∈ x.cps.toList, c < 16 ^ 8
theorem asc_of (s : String) : Asc (Str.ofString s) := by
  intro c hc
  rw [signs_ofString] at hc
  obtain ⟨k, _, rfl⟩ := List.mem_map.mp hc
  have h : k.toNat < 1114112 := by
    have := k.valid
    rcases this with h | ⟨_, h⟩
    · exact Nat.lt_trans h (by decide)
    · exact h
  exact Nat.lt_trans h (by decide)
theorem Asc.app {x y : Str} (hx : Asc x) (hy : Asc y) : Asc (x ++ y) := by
  intro c hc
  rw [Str.cps_append, Array.toList_append] at hc
  rcases List.mem_append.mp hc with h | h
  · exact hx c h
  · exact hy c h
theorem textFrom_size : ∀ (ts : List Str) (k : Nat) (acc : Str), (textFrom k acc ts).length ≤ acc.length + piled ts
  | [], _, acc => Nat.le_add_right _ _
  | t :: r, k, acc => by
    have h := textFrom_size r (k + 1) (acc ++ (if k > 0 then ", " else "" : String) ++ t)
    have e : (((if k > 0 then ", " else "" : String) : Str)).length ≤ 2 := by split <;> decide +kernel
    rw [strLen_append, strLen_append] at h
    rw [piled_cons]
    show (textFrom (k + 1) _ r).length ≤ _
    omega
theorem listText_size (ts : List Str) : (listText ts).length ≤ piled ts + 2 := by
  have h := textFrom_size ts 0 "["
  unfold listText
  rw [strLen_append]
  have e1 : ((("[" : String) : Str)).length = 1 := rfl
  have e2 : ((("]" : String) : Str)).length = 1 := rfl
  omega
mutual
/-- a bound on the signs that are shown -/
def cost : PyData → Nat
  | .none => 5
  | .bool _ => 5
  | .int _ => 1930
  | .str x => 10 * x.length + 2
  | .list xs => costAll xs + 2
  | .tuple xs => costAll xs + 2
  | .dict _ => 0
def costAll : List PyData → Nat
  | [] => 0
  | x :: xs => cost x + 2 + costAll xs
end
mutual
/-- data without dicts that repr can show -/
def Shw : PyData → Prop
  | .none => True
  | .bool _ => True
  | .int i => i.natAbs.log2 < 1920
  | .str x => Asc x
  | .list xs => ShwAll xs
  | .tuple xs => ShwAll xs
  | .dict _ => False
def ShwAll : List PyData → Prop
  | [] => True
  | x :: xs => Shw x ∧ ShwAll xs
end
mutual
theorem Shw.all : ∀ d : PyData, Shw d → d.shown.length ≤ cost d ∧ d.showable = true ∧ d.hasDict = false
  | .none, _ => ⟨by simp only [PyData.shown, cost]; decide +kernel, by simp only [PyData.showable], by simp only [PyData.hasDict]⟩
  | .bool b, _ => ⟨by simp only [PyData.shown, cost]; cases b <;> decide +kernel, by simp only [PyData.showable], by simp only [PyData.hasDict]⟩
  | .int i, h => by
    simp only [Shw] at h
    refine ⟨?_, by simp only [PyData.showable]; exact decide_eq_true h, by simp only [PyData.hasDict]⟩
    simp only [PyData.shown, cost]
    have e := int_text_length_le (k := 1920) (by decide) h
    rw [PySem.ofString_length]
    omega
  | .str x, h => by
    simp only [Shw] at h
    exact ⟨by simp only [PyData.shown, cost]; exact StrLaws.reprText_len x h, by simp only [PyData.showable], by simp only [PyData.hasDict]⟩
  | .list xs, h => by
    simp only [Shw] at h
    obtain ⟨h1, h2, h3⟩ := ShwAll.all xs h
    refine ⟨?_, by simp only [PyData.showable]; exact h2, by simp only [PyData.hasDict]; exact h3⟩
    simp only [PyData.shown, cost]
    exact Nat.le_trans (listText_size _) (by omega)
  | .tuple xs, h => by
    simp only [Shw] at h
    obtain ⟨h1, h2, h3⟩ := ShwAll.all xs h
    refine ⟨?_, by simp only [PyData.showable]; exact h2, by simp only [PyData.hasDict]; exact h3⟩
    simp only [PyData.shown, cost]
    exact Nat.le_trans (fmt_text _) (by omega)
  | .dict _, h => by
    simp only [Shw] at h
theorem ShwAll.all : ∀ xs : List PyData, ShwAll xs → piled (PyData.shownAll xs) ≤ costAll xs ∧ PyData.showableAll xs = true ∧ PyData.hasDictAll xs = false
  | [], _ => ⟨by simp only [PyData.shownAll, costAll]; exact Nat.le_refl _, by simp only [PyData.showableAll], by simp only [PyData.hasDictAll]⟩
  | x :: xs, h => by
    simp only [ShwAll] at h
    obtain ⟨a1, a2, a3⟩ := Shw.all x h.1
    obtain ⟨b1, b2, b3⟩ := ShwAll.all xs h.2
    refine ⟨?_, by simp only [PyData.showableAll]; rw [a2, b2]; rfl, by simp only [PyData.hasDictAll]; rw [a3, b3]; rfl⟩
    simp only [PyData.shownAll, costAll]
    rw [piled_cons]
    omega
end
section
variable {X : Cx} {k : Nat}
/-- repr of a list or tuple of such -/
def rRepS (K : PySem.W.Frag) : List V → Hp → VK → Prop := fun xs H Q => ∃ a d, xs = [.ref a] ∧ Dp K H (.ref a) d ∧ Shw d ∧ d.depth ≤ 40 ∧ cost d ≤ sizeLine ∧ Q (.str d.shown) H
theorem call_reprS (hr : Rm k X.A) : CallR X (.builtin "repr") (rRepS X.K) := by
  intro pins s σ H xs us Q I r h
  obtain ⟨a, d, rfl, hd, hs, hp, hz, q⟩ := h
  obtain ⟨h1, h2, h3⟩ := Shw.all d hs
  exact call_reprD hr pins s σ H _ us Q I r ⟨a, d, rfl, hd, h2, h3, hp, Nat.le_trans h1 hz, q⟩
/-- repr of what is no object: None, a bool, an int, a text -/
def rRepF : List V → Hp → VK → Prop := fun xs H Q => (∃ i, xs = [.int i] ∧ i.natAbs.log2 < 1920 ∧ Q (.str (toString i)) H) ∨ (∃ b, xs = [.bl b] ∧ Q (.str (if b then "True" else "False")) H) ∨ (xs = [.non] ∧ Q (.str "None") H) ∨
  (∃ x, xs = [.str x] ∧ (reprText x).length ≤ sizeLine ∧ Q (.str (reprText x)) H)
theorem call_reprF : CallR X (.builtin "repr") rRepF := by
  intro pins s σ H xs us Q I r h
  rcases h with ⟨i, rfl, hi, q⟩ | ⟨b, rfl, q⟩ | ⟨rfl, q⟩ | ⟨x, rfl, hx, q⟩
  · obtain ⟨u, rfl, ru⟩ := r.one
    obtain ⟨t, rfl⟩ := (show ∃ t, u = Value.int i t from ru)
    exact PySem.P.repr_of_int hi ⟨.str _, H, I.tok _, ⟨_, rfl⟩, q⟩
  · obtain ⟨u, rfl, ru⟩ := r.one
    cases (show u = Value.bool b from ru)
    exact PySem.P.repr_of_bool ⟨.str _, H, I.tok _, ⟨_, rfl⟩, q⟩
  · obtain ⟨u, rfl, ru⟩ := r.one
    cases (show u = Value.none from ru)
    exact PySem.P.repr_of_none ⟨.str _, H, I.tok _, ⟨_, rfl⟩, q⟩
  · obtain ⟨u, rfl, ru⟩ := r.one
    obtain ⟨t, rfl⟩ := (show ∃ t, u = Value.str x t from ru)
    exact PySem.P.repr_of_str ⟨.str _, H, I.tok _, ⟨_, rfl⟩, q⟩ hx
end
/-! ### an operator, a special method of an own class, each as one fact -/
section
variable (P : Program) (w : World) (K : PySem.W.Frag) (mg : Str → Option Value) (base : Heap) (CX : CXT) (k : Nat)
structure OpF (C : Addr) (op : Operator) (sp : Sp) : Prop where
  ex : ∃ (f : Addr) (fd : FuncData) (ps : List Str), OpAt K C op f ∧ OpInt K C op ∧ Binds K fd ps [] ∧ FnG P w K mg base CX k f fd ps sp
structure SpF (C : Addr) (m : Str) (sp : Sp) : Prop where
  ex : ∃ (f : Addr) (fd : FuncData) (ps : List Str), PySem.W.findIn K (.ref C) m = some (some (.ref f)) ∧ PySem.W.isFn K (.ref f) = true ∧ Binds K fd ps [] ∧ FnG P w K mg base CX k f fd ps sp
end
section
variable {X : Cx} {CX : CXT} {k : Nat} {C : Addr} {sp : Sp} {E : XK}
theorem op_binF {op : Operator} (O : OpF X.prog X.w X.K X.mg X.base CX k C op sp) (hr : Rm k X.A) (hx : Passes CX X E) : OpR X (binaryOp op) (rBin C sp E) := by
  obtain ⟨f, fd, ps, o1, o2, hb, F⟩ := O.ex
  exact op_bin o1 o2 F hr hb hx
theorem un_negF (O : SpF X.prog X.w X.K X.mg X.base CX k C "__neg__" sp) (hr : Rm k X.A) (hx : Passes CX X E) : UnR X (unaryOp .USub) (rNeg C sp E) := by
  obtain ⟨f, fd, ps, o1, o2, hb, F⟩ := O.ex
  exact un_own o1 o2 F hr hb hx
theorem op_eqF (O : SpF X.prog X.w X.K X.mg X.base CX k C "__eq__" sp) (hr : Rm k X.A) (hx : Passes CX X E) : OpR X (compareOp .Eq) (rEqO X.K C sp E) := by
  obtain ⟨f, fd, ps, o1, o2, hb, F⟩ := O.ex
  exact op_eqO o1 o2 F hr hb hx
theorem op_neF (O : SpF X.prog X.w X.K X.mg X.base CX k C "__eq__" sp) (hne : PySem.W.findIn X.K (.ref C) "__ne__" = some (some (.builtin "object.__ne__"))) (hm : PySem.W.mroIn X.K C (.type "object") = some true) (hr : Rm (k + 1) X.A) (hx : Passes CX X E) : OpR X (compareOp .NotEq) (rNeO X.K C sp E) := by
  obtain ⟨f, fd, ps, o1, o2, hb, F⟩ := O.ex
  exact op_neO o1 o2 hne hm F hr hb hx
theorem call_reprOF (O : SpF X.prog X.w X.K X.mg X.base CX k C "__repr__" sp) (hr : Rm (k + 1) X.A) (hx : Passes CX X E) : CallR X (.builtin "repr") (rShow C sp E) := by
  obtain ⟨f, fd, ps, o1, o2, hb, F⟩ := O.ex
  exact call_reprO o1 o2 F hr hb hx
theorem call_strOF (O : SpF X.prog X.w X.K X.mg X.base CX k C "__str__" sp) (hr : Rm (k + 2) X.A) (hx : Passes CX X E) : CallR X (.type "str") (rShow C sp E) := by
  obtain ⟨f, fd, ps, o1, o2, hb, F⟩ := O.ex
  exact call_strO o1 o2 F hr hb hx
end
end LL

set_option Elab.async false
set_option linter.all false
set_option maxRecDepth 100000
set_option maxHeartbeats 2000000
/-! LLEnd: the law's end over FnG; the head's facts as any tests of the written part. -/
namespace LL
open PySem PySem.Spec PyProof.Rows L2
section
variable {P : Program} {w : World} {K : PySem.W.Frag} {mg mb : Str → Option Value} {CX : CXT} {k : Nat} {fa a : Addr} {fd : FuncData} {x : Str} {sp : Sp} {t : Shared} {us : List Value} {ns : List Int}
/-- what the caller asks of the law's call -/
abbrev LawEnd (t : Shared) (r : Result) (t' : Shared) : Prop := r = .ok (.ret (.bool true)) ∧ OldK t.heap t'.heap ∧ t'.os = t.os ∧ AllBare t'.gens
/-- the law's call where H tracks at most the script -/
theorem lawAt {H : Hp} {osc : Obj} (KX : K.In t.heap) (hns : t.heap.Ns mainGlobals mg) (hb : t.heap.Ns builtinsNs mb) (hbb : ∀ x : Str, x ≠ "__name__" → mb x = bootBuiltins x) (hlim : t.heap.NoLimit) (hg : t.gens = #[])
    (ha : t.heap.get? a = some osc) (hd : ∀ es ep, osc.data ≠ .dict es ep) (hr : Rm k callerA) (F : ∀ base : Heap, K.In base → base.Ns mainGlobals mg → FnG P w K mg base CX k fa fd [x] sp)
    (bd : ∀ (s : Shared) (u : Value), BindsTo s fd ⟨[u], []⟩ [(x, u)]) (hsp : sp [.ref a] H (fun v _ => v = .bl true) fun _ _ _ => False) (hCX : ∀ e s', CX [] H t (fun _ _ _ => False) e s' → False)
    (only : ∀ b, H b = none ∨ (b = a ∧ K.lookup a = none ∧ ∃ o l, H b = some (.frz o (.lst l)))) (hok : HOk P w H t.heap) : codeAny (model P w) callerA (.call (.ref fa) ⟨[.ref a], []⟩) (LawEnd t) t := by
  have free : ∀ {b : Addr} {o : Obj}, t.heap.get? b = some o → (b = a → K.lookup a = none → False) → H b = none := fun {b o} _ h =>
    (only b).elim id fun q => (h q.1 q.2.1).elim
  have nsB : ∀ {b : Addr} {m : Str → Option Value}, t.heap.Ns b m → (hidT t.heap H).Ns b m := by
    rintro b m ⟨o, es, ep, e, d, r⟩
    refine ⟨o, es, ep, hidT_get e (free e fun z _ => ?_), d, r⟩
    subst z
    rw [ha] at e
    cases e
    exact hd _ _ d
  have kB : K.In (hidT t.heap H) := by
    intro b o e
    refine hidT_get (KX b o e) (free (KX b o e) fun z q => ?_)
    rw [z, q] at e
    cases e
  obtain ⟨ml, l1, l2⟩ := hlim
  have env : Env0 P w K mg (hidT t.heap H) callerA [] t H :=
    { frames := rfl
      mod := ⟨kB, nsB hns, ⟨mb, nsB hb, hbb⟩, ⟨ml, nsB l1, l2⟩⟩
      bs := fun _ _ e => of_hidT e
      bsz := Nat.le_of_eq (hidT_size _ _)
      funs := trivial
      frf := fun _ z => by cases (show _ ∈ ([] : List Addr) from z)
      hok := hok
      bare := .of_eq hg }
  have go := (F _ kB (nsB hns)).run callerA [] t H ⟨[.ref a], []⟩ [.ref a] [.ref a] _ _ hr env (bd t (.ref a)) (.cons rfl .nil) hsp
  refine codeAny_mono go fun r t' h => ?_
  match r, h with
  | .error e, h => exact (hCX e t' h).elim
  | .ok .next, h => exact False.elim h
  | .ok .brk, h => exact False.elim h
  | .ok .cont, h => exact False.elim h
  | .ok (.ret u), h =>
    obtain ⟨v, H', e1, e2, un, hok', rv, (rfl : v = .bl true)⟩ := h
    cases (show u = Value.bool true from rv)
    refine ⟨rfl, OldK.of_keep fun b o e => ?_, e1, e2⟩
    rcases only b with n | ⟨_, _, ob, l, z⟩
    · exact un.keep b o e n (fun z => by cases (show b ∈ ([] : List Addr) from z)) (fun z => by cases z)
    · have z1 := (hok b _ z).1
      have z2 := (hok' b _ (un.frzs b ob _ z)).1
      rw [e] at z1
      cases z1
      exact z2
/-- the law's call -/
theorem lawG (KX : K.In t.heap) (hns : t.heap.Ns mainGlobals mg) (hb : t.heap.Ns builtinsNs mb) (hbb : ∀ x : Str, x ≠ "__name__" → mb x = bootBuiltins x) (hlim : t.heap.NoLimit) (hg : t.gens = #[])
    (ha : t.heap.get? a = some { cls := .type "list", data := .seq us.toArray }) (hi : IntsAre us ns) (hl : ns.length ≤ sizeLine) (hr : Rm k callerA) (F : ∀ base : Heap, K.In base → base.Ns mainGlobals mg → FnG P w K mg base CX k fa fd [x] sp)
    (bd : ∀ (s : Shared) (u : Value), BindsTo s fd ⟨[u], []⟩ [(x, u)]) (hsp : ∀ H : Hp, SqL K H a (ns.map V.int) → sp [.ref a] H (fun v _ => v = .bl true) fun _ _ _ => False) (hCX : ∀ H e s', CX [] H t (fun _ _ _ => False) e s' → False) :
    codeAny (model P w) callerA (.call (.ref fa) ⟨[.ref a], []⟩) (LawEnd t) t := by
  have rv := vals_ints hi
  have dd : ∀ es ep, ({ cls := .type "list", data := .seq us.toArray } : Obj).data ≠ .dict es ep := fun _ _ z => by cases z
  cases q : K.lookup a with
  | none =>
    let H : Hp := fun b => if b = a then some (.frz { cls := .type "list", data := .seq us.toArray } (.lst (ns.map V.int))) else none
    have Ha : H a = some (.frz { cls := .type "list", data := .seq us.toArray } (.lst (ns.map V.int))) := if_pos rfl
    have Hn : ∀ b, b ≠ a → H b = none := fun b n => if_neg n
    refine lawAt (H := H) KX hns hb hbb hlim hg ha dd hr F bd (hsp H (.inl (.inr ⟨_, Ha⟩))) (hCX H) (fun b => ?_) fun b u z => ?_
    · by_cases c : b = a
      · exact .inr ⟨c, q, _, _, by rw [c]; exact Ha⟩
      · exact .inl (Hn b c)
    · by_cases c : b = a
      · subst c
        rw [Ha] at z
        cases z
        exact ⟨ha, by rw [List.length_map]; exact hl, us, _, rv, ha⟩
      · rw [Hn b c] at z
        cases z
  | some o =>
    have e := KX a o q
    rw [ha] at e
    cases e
    refine lawAt (H := fun _ => none) KX hns hb hbb hlim hg ha dd hr F bd (hsp _ (.inr ⟨_, us.toArray, _, q, rfl, rfl, rfl, ?_, by simpa using rv⟩)) (hCX _) (fun _ => .inl rfl) fun b u z => by cases z
    rw [List.size_toArray, hi.length]
    exact hl
end
/-- the goal that the head leaves, from the law's promise -/
theorem walkG {l : PySem.W.OpenLaw} {n k : Nat} {q : Program} {loose : List Str} {XP : (Str → Option Value) → Heap → Prop} {YP : World → Heap → Prop} {d : DefRec} {CX : CXT} {x : Str} (hn : l.most = some n) (hn2 : n ≤ sizeLine) (hdf : d.params.defaults = []) (hr : Rm k callerA)
    (F : ∀ (w : World) (mg : Str → Option Value) (fa : Addr) (h : Heap), YP w h → h.Ns mainGlobals mg → mg d.name = some (.ref fa) →
      ∃ (K : PySem.W.Frag) (fd : FuncData) (sp : Sp), K.In h ∧ (∀ (s : Shared) (u : Value), BindsTo s fd ⟨[u], []⟩ [(x, u)]) ∧
        (∀ (H : Hp) (a : Addr) (ns : List Int), ns.length ≤ n → (∀ i ∈ ns, Builtin.Int.intBits i ≤ 1048576) → SqL K H a (ns.map V.int) → sp [.ref a] H (fun v _ => v = .bl true) fun _ _ _ => False) ∧ ∀ base : Heap, K.In base → base.Ns mainGlobals mg → FnG l.prog w K mg base CX k fa fd [x] sp)
    (hCX : ∀ (H : Hp) (s : Shared) (e : Value) (s' : Shared), CX [] H s (fun _ _ _ => False) e s' → False) : PySem.W.WalkO q loose XP YP l.row.toRowW d [] (fun f vs => PySem.call f vs) := by
  refine Att.attach_callB hn hdf fun w _ t mg mb fa _ _ _ _ a us ns G Y _ _ _ hm ho hi hlen hbits hg => ?_
  obtain ⟨K, fd, sp, KX, bd, hs, hF⟩ := F w mg fa _ Y G.T.g hm
  exact lawG KX G.T.g G.T.b G.T.builtins G.T.nolimit hg ho hi (Nat.le_trans hlen hn2) hr hF bd (fun H hS => hs H a ns hlen hbits hS) fun H e s' => hCX H t e s'
/-! ### the Hook: tests of the written part, and defs -/
abbrev Ft : Type := PySem.W.Frag → Bool
def obsX (ft : List Ft) (fn : List He.DefD) (K : PySem.W.Frag) : He.AlD := ((ft.all fun f => f K) && fn.all fun d => d.ok K, fn.map fun d => He.fnW K d.at_)
def SaysX (ft : List Ft) (fn : List He.DefD) (K : PySem.W.Frag) : Prop := obsX ft fn K = He.valD fn
def obsXG (n : Nat) (ft : List Ft) (fn : List He.DefD) (g : Addr → Option Obj) : He.AlD := obsX ft fn (He.frG g (He.asD g n))
def hookX (n : Nat) (ft : List Ft) (fn : List He.DefD) : PySem.W.Hook where
  α := He.AlD
  obs := fun s => obsXG n ft fn s.heap.get?
  val := fun _ => He.valD fn
  says := fun _ h => ∃ K : PySem.W.Frag, K.In h ∧ SaysX ft fn K
  of := fun _ _ e => ⟨_, He.frG_in, e⟩
  keeps := fun _ _ _ ⟨K, hK, c⟩ k => ⟨K, PySem.W.Frag.In.keeps hK k, c⟩
theorem obsXG_eq {n : Nat} {ft : List Ft} {fn : List He.DefD} {g : Addr → Option Obj} {s : Shared} (h : ∀ a, g a = s.heap.get? a) : obsXG n ft fn g = (hookX n ft fn).obs s := by
  have e : g = s.heap.get? := funext h
  rw [e] <;> rfl
theorem SaysX.fact {ft : List Ft} {fn : List He.DefD} {K : PySem.W.Frag} (c : SaysX ft fn K) (i : Nat) {f : Ft} (h : ft[i]? = some f := by rfl) : f K = true := by
  have e : ((ft.all fun f => f K) && fn.all fun d => d.ok K) = true := congrArg Prod.fst c
  exact List.all_eq_true.mp (He.ba e).1 f (List.mem_of_getElem? h)
theorem SaysX.def_ {ft : List Ft} {fn : List He.DefD} {K : PySem.W.Frag} (c : SaysX ft fn K) (i : Nat) {d : He.DefD} (h : fn[i]? = some d := by rfl) : ∃ fd, FunD K d.name d.qual d.params d.body d.scope (d.dvs K) (d.kws K) (He.fAd K d.at_) fd := by
  have e : ((ft.all fun f => f K) && fn.all fun d => d.ok K) = true := congrArg Prod.fst c
  have e1 : (fn.map fun d => He.fnW K d.at_)[i]? = (fn.map He.DefD.val)[i]? := congrArg (fun z : He.AlD => z.2[i]?) c
  rw [List.getElem?_map, List.getElem?_map, h] at e1
  exact He.DefD.funD (Option.some.inj e1) (List.all_eq_true.mp (He.ba e).2 d (List.mem_of_getElem? h))
end LL

set_option Elab.async false
set_option linter.all false
set_option maxRecDepth 100000
set_option maxHeartbeats 2000000
/-! LLCut: a reading cut in two: what stands between is told once. -/
namespace LL
open PySem PySem.Spec PyProof.Rows L2
/-- behind a statement I holds -/
theorem seq_cut {t u : TS} {D : Ends} {σ : L2.St} {H : Hp} (I : L2.St → Hp → Prop) (h1 : ∀ N : L2.St → Hp → Prop, (∀ σ' H', I σ' H' → N σ' H') → t { D with nx := N } σ H) (h2 : ∀ σ' H', I σ' H' → u D σ' H') : tSeq t u D σ H := h1 _ h2
/-- an expression has a value of which I holds -/
theorem ex_cut {t : TE} {σ : L2.St} {H : Hp} {Q : VK} (I : VK) (h1 : ∀ R : VK, (∀ x H', I x H' → R x H') → t σ H R) (h2 : ∀ x H', I x H' → Q x H') : t σ H Q := h1 Q h2
/-- a test has an answer of which I holds -/
theorem tt_cut {t : TT} {σ : L2.St} {H : Hp} {Q : Bool → Hp → Prop} (I : Bool → Hp → Prop) (h1 : ∀ R : Bool → Hp → Prop, (∀ x H', I x H' → R x H') → t σ H R) (h2 : ∀ x H', I x H' → Q x H') : t σ H Q := h1 Q h2
/-- a and b, both without an effect -/
theorem and_of {ta tb : TE} {σ : L2.St} {H : Hp} {Q : VK} (c d : Bool) (h1 : ∀ R : VK, R (.bl c) H → ta σ H R) (h2 : c = true → ∀ R : VK, R (.bl d) H → tb σ H R) (q : Q (.bl (c && d)) H) : tAndV ta tb σ H Q := by
  refine h1 _ ⟨c, rfl, ?_⟩
  cases c with
  | true => exact iteT (h2 rfl _ q)
  | false => exact iteF q
theorem or_of {ta tb : TE} {σ : L2.St} {H : Hp} {Q : VK} (c d : Bool) (h1 : ∀ R : VK, R (.bl c) H → ta σ H R) (h2 : c = false → ∀ R : VK, R (.bl d) H → tb σ H R) (q : Q (.bl (c || d)) H) : tOrV ta tb σ H Q := by
  refine h1 _ ⟨c, rfl, ?_⟩
  cases c with
  | true => exact iteT q
  | false => exact iteF (h2 rfl _ q)
theorem seq_asg {te : TE} {g : TG} {u : TS} {D : Ends} {σ : L2.St} {H : Hp} (h : te σ H fun x H1 => g x σ H1 (u D)) : tSeq (tAsg te g) u D σ H := h
theorem ret_of {te : TE} {D : Ends} {σ : L2.St} {H : Hp} (h : te σ H D.rt) : tRet te D σ H := h
theorem nm_of {i : Nat} {v : V} {σ : L2.St} {H : Hp} {N : L2.St → Hp → Prop} (h : N (σ.set i (some v)) H) : gName i v σ H N := h
theorem nx_of {D : Ends} {σ : L2.St} {H : Hp} (h : D.nx σ H) : tNext D σ H := h
/-! ### a class called, as a def is -/
section
variable (P : Program) (w : World) (K : PySem.W.Frag) (mg : Str → Option Value) (base : Heap) (CX : CXT) (k : Nat)
/-- C(..) keeps sp: its __init__ does, at each new instance -/
structure Mkf (x : Str) (sp : Sp) : Prop where
  ex : ∃ (C : Addr) (dvs : List V) (si : Sp), Mkr P w K mg base CX k x C dvs si ∧ ∀ vs H Q E, sp vs H Q E → ∀ a dx, H a = none → H dx = none → dx ≠ a → si (.ref a :: (vs ++ dvs)) (upd (upd H dx (.own a)) a (.ins C dx [])) (fun v H2 => v = .non ∧ Q (.ref a) H2) E
end
section
variable {X : Cx} {CX : CXT} {k : Nat} {sp : Sp} {E : XK} {x : Str} {p pos : Pos} {e : Expr} {es : List Expr} {t : TA}
theorem pe_mf (G : Mkf X.prog X.w X.K X.mg X.base CX k x sp) (hr : Rm (k + 1) X.A) (hx : Passes CX X E) (ha : PA X (e :: es) t) (hg : Gl X x := by rfl) (hdb : (x == ("__debug__" : Str)) = false := by decide)
    (he : starEach (e :: es) X.env = (false, eval e X.env) :: starEach es X.env := by rfl) (hpl : (backTo pos (starEach es X.env)).any (·.1) = false := by rfl) : PE X (.Call (.Name x p) (e :: es) [] pos) (tCall sp [] E t) := by
  obtain ⟨C, dvs, si, ⟨f, fd, ps, ds, M, hm, hb, hd, F⟩, conv⟩ := G.ex
  refine ⟨fun pins s σ H Q I h => wpAny_Call_Name_kw (ld_glob I hg hm (PySem.W.callWith_K (h₀ := X.base) I.ok.mod.kin M.kp (thn (ha.run pos pins s σ H _ I h) fun us s1 z => ?_) he hpl) hdb)⟩
  obtain ⟨vs, H1, I1, r, q⟩ := z
  exact ⟨I1.kIn, run_makeG M F hr hb hd hx I1 r (conv vs H1 Q E (by simpa using q))⟩
theorem pe_mf0 (G : Mkf X.prog X.w X.K X.mg X.base CX k x sp) (hr : Rm (k + 1) X.A) (hx : Passes CX X E) (hg : Gl X x := by rfl) (hdb : (x == ("__debug__" : Str)) = false := by decide) : PE X (.Call (.Name x p) [] [] pos) (tCall sp [] E tNil) := by
  obtain ⟨C, dvs, si, ⟨f, fd, ps, ds, M, hm, hb, hd, F⟩, conv⟩ := G.ex
  exact ⟨fun pins s σ H Q I h => wpAny_Call_Name_kw (ld_glob I hg hm (PySem.W.callWith_K0 I.kIn M.kp (run_makeG (us := []) M F hr hb hd hx I .nil (conv [] H Q E h))) hdb)⟩
end
/-! ### rules within a comprehension: the written part by its name -/
theorem ix_tupK {X : Cx} {K : PySem.W.Frag} (h : X.K = K) : IxR X (rIxT K) := h ▸ ix_tup
theorem ix_listK {X : Cx} {K : PySem.W.Frag} (h : X.K = K) : IxR X (rIxL K) := h ▸ ix_list
/-! ### texts that == can read -/
theorem okt_iff {x : Str} : PyData.strOk x = true ↔ ∀ c ∈ x.cps.toList, c < 1114112 := by
  unfold PyData.strOk
  rw [← Array.all_toList, List.all_eq_true]
  exact ⟨fun h c hc => of_decide_eq_true (h c hc), fun h c hc => decide_eq_true (h c hc)⟩
theorem okt_of (s : String) : PyData.strOk (Str.ofString s) = true := by
  rw [okt_iff]
  intro c hc
  rw [signs_ofString] at hc
  obtain ⟨k, _, rfl⟩ := List.mem_map.mp hc
  rcases k.valid with h | ⟨_, h⟩
  · exact Nat.lt_trans h (by decide)
  · exact h
theorem okt_app {x y : Str} (hx : PyData.strOk x = true) (hy : PyData.strOk y = true) : PyData.strOk (x ++ y) = true := by
  rw [okt_iff] at *
  intro c hc
  rw [Str.cps_append, Array.toList_append] at hc
  rcases List.mem_append.mp hc with h | h
  · exact hx c h
  · exact hy c h
/-! ### all but lists stay -/
def Kp (H H' : Hp) : Prop := ∀ b o, H b = some o → (∀ xs, o ≠ .lst xs) → H' b = some o
theorem Kp.refl {H : Hp} : Kp H H := fun _ _ e _ => e
theorem Kp.trans {H H1 H2 : Hp} (a : Kp H H1) (b : Kp H1 H2) : Kp H H2 := fun c o e n => b c o (a c o e n) n
theorem Kp.of {H H' : Hp} (a : Same H H') : Kp H H' := fun c o e _ => a c o e
theorem But.kp {p : Addr} {H H' : Hp} {xs : List V} (a : But p H H') (h : H p = some (.lst xs)) : Kp H H' := fun c o e n => a c o e fun z => by
  rw [z, h] at e
  exact n xs (Option.some.inj e).symm
theorem kp_upd {H : Hp} {p : Addr} {o : HO} {xs : List V} (h : H p = some (.lst xs)) : Kp H (upd H p o) := (but_upd (o := o)).kp h
end LL

set_option Elab.async false
set_option linter.all false
set_option maxRecDepth 100000
set_option maxHeartbeats 2000000
/-! LLHead: defs of the text at any address of the written part; the Hook over them; facts as tests. -/
namespace LL
open PySem PySem.Spec PyProof.Rows L2
/-- a def: where it stands, what it is -/
structure DefX where
  adr : PySem.W.Frag → Addr
  name : Str
  qual : Str
  params : Arguments
  body : List Stmt
  scope : Scope
  dfl : PySem.W.Frag → List V := fun _ => []
def dX (adr : PySem.W.Frag → Addr) (name qual : Str) (st : Stmt) (dfl : List V := []) : DefX := ⟨adr, name, qual, defArgs st, defBody st, defScope st, fun _ => dfl⟩
/-- .. with defaults that lie in the written part -/
def dXK (adr : PySem.W.Frag → Addr) (name qual : Str) (st : Stmt) (dfl : PySem.W.Frag → List V) : DefX := ⟨adr, name, qual, defArgs st, defBody st, defScope st, dfl⟩
/-- the function object at a -/
def fdAt (K : PySem.W.Frag) (a : Addr) : Option FuncData := match K.lookup a with
  | some ⟨_, _, .func g, _⟩ => some g
  | _ => none
def shapeX (g : FuncData) : Str × Str × Arguments × FuncBody × Scope × Addr × List (Str × Addr) × Addr := (g.name, g.qualname, g.params, g.body, g.scope, g.globals, g.closure, g.builtins)
def DefX.shape (d : DefX) : Option (Str × Str × Arguments × FuncBody × Scope × Addr × List (Str × Addr) × Addr) := some (d.name, d.qual, d.params, .stmts d.body, d.scope, mainGlobals, [], builtinsNs)
def DefX.fine (K : PySem.W.Frag) (d : DefX) : Bool := PySem.W.keepIn K (.ref (d.adr K)) && ((fdAt K (d.adr K)).any fun g => PySem.W.codeIn K g.code d.qual && He.dflB K g.defaults (d.dfl K))
theorem fdAt_look {K : PySem.W.Frag} {a : Addr} {g : FuncData} (e : fdAt K a = some g) : ∃ oc od osl, K.lookup a = some ⟨oc, od, .func g, osl⟩ := by
  unfold fdAt at e
  split at e
  · rename_i c d z sl q
    cases e
    exact ⟨c, d, sl, q⟩
  · cases e
theorem DefX.fun_ {K : PySem.W.Frag} {d : DefX} (e : (fdAt K (d.adr K)).map shapeX = d.shape) (c : d.fine K = true) : ∃ fd, FunD K d.name d.qual d.params d.body d.scope (d.dfl K) [] (d.adr K) fd := by
  obtain ⟨kp, c2⟩ := He.ba c
  obtain ⟨g, eg, es⟩ := Option.map_eq_some_iff.mp e
  rw [eg] at c2
  obtain ⟨c3, c4⟩ := He.ba (show (PySem.W.codeIn K g.code d.qual && He.dflB K g.defaults (d.dfl K)) = true from c2)
  obtain ⟨oc, od, osl, lk⟩ := fdAt_look eg
  unfold shapeX at es
  simp only [Prod.mk.injEq] at es
  obtain ⟨e1, e2, e3, e4, e5, e6, e7, e8⟩ := es
  refine ⟨g, ⟨oc, od, g.defaults, g.kwdefaults, g.doc, g.pyModule, g.annotations, g.code, g.closureTuple, osl, ?_, lk, c3, He.dflB_ok c4, .inl rfl⟩, kp⟩
  obtain ⟨a1, a2, a3, a4, a5, a6, a7, a8, a9, a10, a11, a12, a13, a14, a15⟩ := g
  subst e1 e2 e3 e4 e5 e6 e7 e8
  rfl
/-! ### the Hook -/
abbrev AlX : Type := Bool × List (Option (Str × Str × Arguments × FuncBody × Scope × Addr × List (Str × Addr) × Addr))
def obsY (ft : List Ft) (fn : List DefX) (K : PySem.W.Frag) : AlX := ((ft.all fun f => f K) && fn.all fun d => d.fine K, fn.map fun d => (fdAt K (d.adr K)).map shapeX)
def valY (fn : List DefX) : AlX := (true, fn.map DefX.shape)
def SaysY (ft : List Ft) (fn : List DefX) (K : PySem.W.Frag) : Prop := obsY ft fn K = valY fn
def obsYG (n : Nat) (ft : List Ft) (fn : List DefX) (g : Addr → Option Obj) : AlX := obsY ft fn (He.frG g (He.asD g n))
def hookY (n : Nat) (ft : List Ft) (fn : List DefX) : PySem.W.Hook where
  α := AlX
  obs := fun s => obsYG n ft fn s.heap.get?
  val := fun _ => valY fn
  says := fun _ h => ∃ K : PySem.W.Frag, K.In h ∧ SaysY ft fn K
  of := fun _ _ e => ⟨_, He.frG_in, e⟩
  keeps := fun _ _ _ ⟨K, hK, c⟩ k => ⟨K, PySem.W.Frag.In.keeps hK k, c⟩
theorem obsYG_eq {n : Nat} {ft : List Ft} {fn : List DefX} {g : Addr → Option Obj} {s : Shared} (h : ∀ a, g a = s.heap.get? a) : obsYG n ft fn g = (hookY n ft fn).obs s := by
  cases (funext h : g = s.heap.get?)
  rfl
theorem SaysY.fact {ft : List Ft} {fn : List DefX} {K : PySem.W.Frag} (c : SaysY ft fn K) (i : Nat) {f : Ft} (h : ft[i]? = some f := by rfl) : f K = true := by
  have e : ((ft.all fun f => f K) && fn.all fun d => d.fine K) = true := congrArg Prod.fst c
  exact List.all_eq_true.mp (He.ba e).1 f (List.mem_of_getElem? h)
theorem SaysY.fn_ {ft : List Ft} {fn : List DefX} {K : PySem.W.Frag} (c : SaysY ft fn K) (i : Nat) {d : DefX} (h : fn[i]? = some d := by rfl) : ∃ fd, FunD K d.name d.qual d.params d.body d.scope (d.dfl K) [] (d.adr K) fd := by
  have e : ((ft.all fun f => f K) && fn.all fun d => d.fine K) = true := congrArg Prod.fst c
  have e1 : (fn.map fun d => (fdAt K (d.adr K)).map shapeX)[i]? = (fn.map DefX.shape)[i]? := congrArg (fun z : AlX => z.2[i]?) c
  rw [List.getElem?_map, List.getElem?_map, h] at e1
  exact DefX.fun_ (Option.some.inj e1) (List.all_eq_true.mp (He.ba e).2 d (List.mem_of_getElem? h))
/-! ### addresses and tests -/
/-- a global, a method, a property's getter -/
def gA (x : Str) (K : PySem.W.Frag) : Addr := He.ga K x
def mA (x m : Str) (K : PySem.W.Frag) : Addr := He.ma K (He.ga K x) m
def pA (x m : Str) (K : PySem.W.Frag) : Addr := match PySem.W.recIn K (mA x m K) "property" with
  | some (.ref g :: _) => g
  | _ => 0
def fGlo (x : Str) : Ft := fun K => (He.Fa.glo x).ok K
def fFree (x : Str) : Ft := fun K => (He.Fa.free x).ok K
def fCls (x : Str) : Ft := fun K => (He.Fa.cls x).ok K
def fNo (x f : Str) : Ft := fun K => (He.Fa.noat x f).ok K
def fMeth (x m : Str) : Ft := fun K => (He.Fa.meth x m).ok K
def fMkr (x : Str) : Ft := fun K => (He.Fa.mkr x).ok K
def fSame (a b : PySem.W.Frag → Option (Option Value)) : Ft := fun K => He.eqO (a K) (b K)
def fBool (a : PySem.W.Frag → Option Bool) (b : Bool) : Ft := fun K => decide (a K = some b)
def fProp (x m : Str) : Ft := fun K => He.eqO (PySem.W.findIn K (.ref (He.ga K x)) m) (some (some (.ref (mA x m K)))) && (He.eqO (PySem.W.specialIn K (.ref (mA x m K)) "__get__") (some (some (.builtin "property.__get__"))) && (decide (PySem.W.takesIn K (.ref (mA x m K)) = some true) &&
  (match PySem.W.recIn K (mA x m K) "property" with
  | some (.ref _ :: _) => true
  | _ => false)))
theorem fProp_ok {K : PySem.W.Frag} {x m : Str} (h : fProp x m K = true) : PropOf K (He.ga K x) m (mA x m K) (pA x m K) := by
  obtain ⟨h1, h2⟩ := He.ba h
  obtain ⟨h3, h4⟩ := He.ba h2
  obtain ⟨h5, h6⟩ := He.ba h4
  refine ⟨He.eqO_ok h1, He.eqO_ok h3, of_decide_eq_true h5, ?_⟩
  unfold pA
  split at h6
  · rename_i g rest q
    exact ⟨rest, by rw [q]⟩
  · cases h6
/-- an operator of the class x -/
def fOper (x : Str) (op : Operator) : Ft := fun K => PySem.W.selfFirst K (He.ga K x) && (He.eqO (PySem.W.findIn K (.ref (He.ga K x)) (PySem.dunder op.info.2)) (some (some (.ref (mA x (PySem.dunder op.info.2) K)))) && PySem.W.isFn K (.ref (mA x (PySem.dunder op.info.2) K)))
theorem fOper_ok {K : PySem.W.Frag} {x : Str} {op : Operator} (h : fOper x op K = true) : OpAt K (He.ga K x) op (mA x (PySem.dunder op.info.2) K) := by
  obtain ⟨h1, h2⟩ := He.ba h
  obtain ⟨h3, h4⟩ := He.ba h2
  exact ⟨h1, He.eqO_ok h3, h4⟩
def fOpInt (x : Str) (op : Operator) : Ft := fun K => He.eqO (PySem.W.findIn K (.ref (He.ga K x)) (PySem.dunderR op.info.2)) (some none) && ((PySem.W.findIn K (.type "int") (PySem.dunder op.info.2)).isSome && ((PySem.W.findIn K (.type "int") (PySem.dunderR op.info.2)).isSome && decide (PySem.W.subIn K (.type "int") (.ref (He.ga K x)) = some false)))
theorem fOpInt_ok {K : PySem.W.Frag} {x : Str} {op : Operator} (h : fOpInt x op K = true) : OpInt K (He.ga K x) op := by
  obtain ⟨h1, h2⟩ := He.ba h
  obtain ⟨h3, h4⟩ := He.ba h2
  obtain ⟨h5, h6⟩ := He.ba h4
  exact ⟨He.eqO_ok h1, Option.isSome_iff_exists.mp h3, Option.isSome_iff_exists.mp h5, of_decide_eq_true h6⟩
/-- a special method of the class x -/
def fSpec (x m : Str) : Ft := fun K => He.eqO (PySem.W.findIn K (.ref (He.ga K x)) m) (some (some (.ref (mA x m K)))) && PySem.W.isFn K (.ref (mA x m K))
theorem fSpec_ok {K : PySem.W.Frag} {x m : Str} (h : fSpec x m K = true) : PySem.W.findIn K (.ref (He.ga K x)) m = some (some (.ref (mA x m K))) ∧ PySem.W.isFn K (.ref (mA x m K)) = true := by
  obtain ⟨h1, h2⟩ := He.ba h
  exact ⟨He.eqO_ok h1, h2⟩
end LL

set_option Elab.async false
set_option linter.all false
set_option maxRecDepth 100000
set_option maxHeartbeats 2000000
/-! LLTry: try .. with several clauses 'except x as n', all of one name. -/
namespace LL
open PySem PySem.Spec PyProof.Rows L2
/-- behind a suite the clause's name is gone -/
def Dgone (D : Ends) (i : Nat) : Ends := { nx := fun τ G => D.nx (τ.set i none) G, rt := D.rt, bk := fun τ G => D.bk (τ.set i none) G, ct := fun τ G => D.ct (τ.set i none) G }
abbrev Clause : Type := Value × (Addr → Value → Option Addr → TS)
/-- what the clauses wish of what the body lets out -/
def wRow (K : PySem.W.Frag) (Wo : WX) (D : Ends) (i : Nat) : List Clause → WX
  | [] => Wo
  | q :: r => fun cls d τ G => ∃ b, PySem.W.exmOne K cls q.1 = some b ∧ (b = true → ∀ e, G e = none → q.2 e cls d (Dgone D i) (τ.set i (some (.ref e))) G) ∧ (b = false → wRow K Wo D i r cls d τ G)
inductive RowOk (X : Cx) (n : Str) : List ExceptHandler → List Clause → Prop
  | nil : RowOk X n [] []
  | cons {x : Str} {c : Value} {ts : Addr → Value → Option Addr → TS} {t₀ : Stmt} {more : List Stmt} {q1 q2 : Pos} {hs : List ExceptHandler} {l : List Clause} (nm : Names X x c)
      (su : ∀ (e : Addr) (oe : Obj) (cls : Value) (d : Option Addr) (pn : List (Addr × Obj)), Zc cls d oe → (∃ fs, oe.data = .fields fs) → PSs (X.suite e ((e, oe) :: pn)) (t₀ :: more) (ts e cls d)) (r : RowOk X n hs l) :
      RowOk X n (.ExceptHandler (some (.Name x q1)) (some n) (t₀ :: more) q2 :: hs) ((c, ts) :: l)
section
variable {X : Cx} {n : Str} {i : Nat} {body : List Stmt} {h₀ : ExceptHandler} {hs : List ExceptHandler} {l : List Clause} {pos : Pos} {tb : WX → TS} {Wo : WX}
theorem ps_tryRow (st : X.stack = X.env :: X.outer) (fr : X.env.frame = some X.env.locals) (nd : X.N.Nodup) (ni : X.N[i]? = some n) (nl : X.env.kindOf n = some .local) (tk : Takes X Wo)
    (bd : ∀ (W : WX) (pn : List (Addr × Obj)) (xe : Value → Shared → Prop), Takes (X.tr pn xe) W → PassesOwn (model X.prog X.w) X.A X.env xe → PSs (X.tr pn xe) body (tb W)) (hh : RowOk X n (h₀ :: hs) l) :
    PS X (.Try body (h₀ :: hs) [] [] pos) (fun D τ G => tb (wRow X.K Wo D i l) D τ G) := by
  constructor
  intro pins s τ G D I h
  have ok := I.ok
  have frs' : X.A.frames = some (X.env :: X.outer) := ok.frames.trans (by rw [st])
  refine wpAny_Try_except ?_
  let after : Value → Shared → Prop := fun e u => wpAny (model X.prog X.w) X.A (noteFrame e X.env)
    (fun _ u2 => wpAny (model X.prog X.w) X.A (setFlight e none)
      (fun _ u3 => wpAny (model X.prog X.w) X.A (handleBy e X.env (h₀ :: hs)) (SP X pins D) X.xe u3) X.xe u2) X.xe u
  have catch_ : Takes (X.tr (X.pn ++ pins) after) (wRow X.K Wo D i l) := by
    intro u s' xx
    obtain ⟨e, B, sI, pn', τ', G', cls, d, eu, J', nb, up, sky, ne, os, ag, w⟩ := xx
    subst eu
    have J : Inv X pins τ' G' sI := J'.ofTry ok
    have sky2 : Sky B (X.env :: X.outer) e (Zc cls d) X.env.locals s'.heap := st ▸ sky
    show wpAny (model X.prog X.w) X.A (noteFrame (.ref e) X.env) _ _ _
    refine Sky.land Zc.steady frs' fr sky2 fun h3 fl up3 => ?_
    have J3 : Inv X pins τ' G' { s' with heap := h3 } := J.landed nb fl.1 (up.trans up3) os ag
    obtain ⟨oe, fs, at3, z3, d3⟩ := fl.there
    have out : e ∉ frs (X.env :: X.outer) := fun hm => by
      obtain ⟨_, o', q, hnf⟩ := fl.2.2.1.mem hm
      rw [at3] at q
      cases q
      exact hnf _ d3
    have nL : e ≠ X.env.locals := fun z => out (List.mem_filterMap.mpr ⟨X.env, List.mem_cons_self, by rw [fr, z]⟩)
    have nF : e ∉ X.fs := fun hm => by
      obtain ⟨v, hv, q⟩ := List.mem_filterMap.mp hm
      exact out (List.mem_filterMap.mpr ⟨v, List.mem_cons_of_mem _ hv, q⟩)
    have S3 := J3.suite at3 d3 ne nL nF
    have row : ∀ {hs' : List ExceptHandler} {l' : List Clause}, RowOk X n hs' l' → wRow X.K Wo D i l' cls d τ' G' → wpAny (model X.prog X.w) X.A (handleBy (.ref e) X.env hs') (SP X pins D) X.xe { s' with heap := h3 } := by
      intro hs' l' hk
      induction hk with
      | nil =>
        intro w
        refine wpAny_handleBy_nil ?_
        obtain ⟨k1, k2, k3, o1, v1, T1, oT, t1, g1, g2, g3, g4, g5⟩ := id fl
        unfold PySem.passOn
        refine wpAny_bind (wpAny_field g1 g3 g4 ?_)
        rw [if_neg (by simp)]
        have go : wpAny (model X.prog X.w) X.A (setFlight (.ref e) X.env.frame) (fun _ u4 => wpAny (model X.prog X.w) X.A (throw (.ref e) : Sem Flow) (SP X pins D) X.xe u4) X.xe { s' with heap := h3 } := by
          rw [fr]
          refine HandSPX.setFlight_upZ fl fun h4 up4 upb => wpAny_throw (tk _ _ ?_)
          exact ⟨e, B, sI, pins, τ', G', cls, d, rfl, J, nb, (up.trans up3).trans upb, .inr (.inr (by rw [st]; exact up4)), ne, os, ag, w⟩
        first
          | exact wpAny_bind (wpAny_pure (wpAny_bind go))
          | exact wpAny_bind go
      | @cons x c ts t₀ more q1 q2 hs2 l2 nm su r ih =>
        intro w
        obtain ⟨b, e1, yes, no⟩ := w
        refine wpAny_handleBy_cons (codeAny_handlers_test ?_) (fun q => by cases q)
        have isC : PySem.W.Looks (model X.prog X.w) h3 (typeOf (.ref e)) cls := fun A Q E s k q => wpAny_typeOf_ref (k _ _ at3) (z3.1 ▸ q)
        have ask := PySem.W.exm_one (M := model X.prog X.w) J3.kIn isC e1
        have name_ : ∀ {Q : Value → Shared → Prop} {E : Value → Shared → Prop}, Q c { s' with heap := h3 } → wpAny (model X.prog X.w) (X.A.mark (some (.ref e))) (eval (.Name x q1) X.env) Q E { s' with heap := h3 } := by
          intro Q E q
          rcases nm with ⟨y1, y2, y3 | ⟨y3, y4, y5⟩⟩
          · exact ld_glob (X := X.suite e ((e, oe) :: (X.pn ++ pins))) S3 y1 y3 q y2
          · exact ld_blt (X := X.suite e ((e, oe) :: (X.pn ++ pins))) S3 y1 y3 y4 q y5 y2
        refine name_ (ask.here ?_)
        cases b with
        | false =>
          show wpAny _ X.A (handleBy (.ref e) X.env hs2) _ _ _
          exact ih (no rfl)
        | true =>
          refine codeAny_handlers_suite_as ?_
          refine HandSPX.lands_againZ fl fun h4 fl4 up4 => ?_
          have J4 : Inv X pins τ' G' { s' with heap := h4 } := J.landed nb fl4.1 ((up.trans up3).trans up4) os ag
          obtain ⟨oe4, fs4, at4, z4, d4⟩ := fl4.there
          have S4 := J4.suite at4 d4 ne nL nF
          refine store_ok (X := X.suite e ((e, oe4) :: (X.pn ++ pins))) (v := .ref e) S4 nd ni (.inl nl) rfl (fun s5 S5 => ?_) (.inr nl)
          refine wpAny_mono ((su e oe4 cls d (X.pn ++ pins) z4 ⟨_, d4⟩).run [] s5 _ G' _ S5 (yes rfl e ne)) (fun f s6 z => ?_) (fun _ _ z => z.elim)
          have fin : ∀ {τ6 : L2.St} {G6 : Hp} {Q : Shared → Prop}, Inv (X.suite e ((e, oe4) :: (X.pn ++ pins))) [] τ6 G6 s6 → (∀ s7, Inv X pins (τ6.set i none) G6 s7 → Q s7) →
              wpAny (model X.prog X.w) X.A (do bindName X.env n .none; unbindBehindTheSuite X.env n q2) (fun _ s7 => Q s7) X.xe s6 := fun S6 hq => gone_ok (S6.unsuite ok) nd ni nl hq
          match f, z with
          | .next, ⟨_, _, S6, q6⟩ => exact fin S6 fun s7 J7 => ⟨_, _, J7, q6⟩
          | .brk, ⟨_, _, S6, q6⟩ => exact fin S6 fun s7 J7 => ⟨_, _, J7, q6⟩
          | .cont, ⟨_, _, S6, q6⟩ => exact fin S6 fun s7 J7 => ⟨_, _, J7, q6⟩
          | .ret u, ⟨_, _, _, S6, r6, q6⟩ => exact fin S6 fun s7 J7 => ⟨_, _, _, J7, r6, q6⟩
    exact row hh w
  refine wpAny_mono ((bd (wRow X.K Wo D i l) (X.pn ++ pins) after catch_ PassesOwn.looking).run [] s τ G D (I.toTry _) h) (fun f s1 z => ?_) (fun _ _ z => z)
  match f, z with
  | .next, ⟨_, _, J', q⟩ => exact wpAny_execs_nil ⟨_, _, J'.ofTry ok, q⟩
  | .brk, ⟨_, _, J', q⟩ => exact ⟨_, _, J'.ofTry ok, q⟩
  | .cont, ⟨_, _, J', q⟩ => exact ⟨_, _, J'.ofTry ok, q⟩
  | .ret u, ⟨_, _, _, J', r, q⟩ => exact ⟨_, _, _, J'.ofTry ok, r, q⟩
end
end LL

set_option Elab.async false
set_option linter.all false
set_option maxRecDepth 100000
set_option maxHeartbeats 2000000
/-! LLExc: own error classes with one field; what a suite asks of the error it holds; repr of any data. -/
namespace LL
open PySem PySem.Spec PyProof.Rows L2
/-! ### B.__init__(self, ..), B an own class over ValueError without one -/
structure LeC (K : PySem.W.Frag) (B : Addr) : Prop where
  sp : PySem.W.specialIn K (.ref B) "__getattribute__" = some (some (.builtin "type.__getattribute__"))
  rd : PySem.W.readsIn K B (.type "type") = true
  fi : PySem.W.findCls K (.ref B) (.type "type") "__init__" = some (.val (.builtin "ValueError.__init__"))
section
variable {X : Cx} {B : Addr} {x : Str} {e : Expr} {es : List Expr} {ta : TA} {p1 p2 pos : Pos}
theorem pe_leinit {pl : Sem Bool} (L : LeC X.K B) (hg : Gl X x) (hm : X.mg x = some (.ref B)) (ha : PA X (e :: es) ta) (hdb : (x == ("__debug__" : Str)) = false := by decide)
    (ev : eval (.Call (.Attribute (.Name x p1) "__init__" p2) (e :: es) [] pos) X.env = (do
      let o ← eval (.Name x p1) X.env
      standAt p2.atName
      let (g, first) ← holding [o] (getMethod o "__init__" pl)
      callWith pos g first (backTo pos (starEach (e :: es) X.env)) (backToKw pos (keywordEach [] X.env))) := by rfl)
    (se : starEach (e :: es) X.env = (false, eval e X.env) :: starEach es X.env := by rfl) (sn : (backTo pos (starEach es X.env)).any (·.1) = false := by rfl) : PE X (.Call (.Attribute (.Name x p1) "__init__" p2) (e :: es) [] pos) (tVeI X.K ta) := by
  constructor
  intro pins s σ H Q I h
  refine PySem.W.methodCall_KW (ld_glob I hg hm ?_ hdb) ev
  refine PySem.W.method_cls I.kIn L.sp (PySem.W.cls_value I.kIn L.rd L.fi (by decide +kernel) ?_)
  show wpAny _ _ (callWith pos (Value.builtin "ValueError.__init__") [] (backTo pos (starEach (e :: es) X.env)) []) _ _ _
  refine PyProof.Rows.callWith_method1 (thn (ha.run pos pins _ σ H _ (I.tok _) h) fun us s1 z => ?_) se sn
  obtain ⟨vs, H1, I1, r, a, C, ws, rfl, hl, T, ea, q⟩ := z
  cases r with
  | @cons _ u _ ur ru rr =>
    cases (show u = Value.ref a from ru)
    have hz : ur.length ≤ sizeLine := Nat.le_trans (Nat.le_of_eq (Paired.length rr).symm) (Nat.le_trans hl (by rw [sizeLine_eq]; decide))
    exact oinit_ok T I1 ea hz fun s2 J => ⟨.non, H1, J, rfl, q⟩
end
/-! ### raise C(v) -/
/-- the promise of an __init__ that keeps one value in the field f -/
def spXI (C : Addr) (f : Str) : Sp := fun vs H Q _ => ∃ a v, vs = [.ref a, v] ∧ H a = some (exo a C none) ∧ ∀ dx, H dx = none → dx ≠ a → Q .non (upd (upd H dx (exd dx [(f, v)])) a (exo a C (some dx)))
section
variable (P : Program) (w : World) (K : PySem.W.Frag) (mg : Str → Option Value) (base : Heap) (k : Nat)
/-- the module's name x is the error class at C, its field is f -/
structure Xcl (x : Str) (C : Addr) (f : Str) : Prop where
  T : OexC K C
  nf : PySem.W.findIn K (.ref C) f = some none
  mx : mg x = some (.ref C)
  ex : ∃ (fI : Addr) (fd : FuncData) (ps : List Str), PySem.W.findIn K (.ref C) "__init__" = some (some (.ref fI)) ∧ PySem.W.typeIn K (.ref fI) = some (.type "function") ∧ Binds K fd ps [] ∧ FnOk P w K mg base CX0 k fI fd ps (spXI C f)
  xf : XfC K C
  ec : ExcC K C
end
section
variable {X : Cx} {k : Nat} {C : Addr} {x f : Str} {W : WX} {e : Expr} {te : TE} {p pos rpos : Pos}
theorem ps_raiseX (G : Xcl X.prog X.w X.K X.mg X.base k x C f) (hr : Room (k + 1) X.A) (tk : Takes X W) (he : PE X e te) (hc : X.calm = true := by rfl) (hg : Gl X x := by rfl) (hdb : (x == ("__debug__" : Str)) = false := by decide)
    (se : starEach [e] X.env = (false, eval e X.env) :: starEach [] X.env := by rfl) (sn : (backTo pos (starEach [] X.env)).any (·.1) = false := by rfl) :
    PS X (.Raise (some (.Call (.Name x p) [e] [] pos)) none rpos) (fun _ σ H => tMkO C (spXI C f) [] (tCons te tNil) σ H fun cls d H' => W cls d σ H') := by
  obtain ⟨fI, fd, ps, h1, h2, h3, h4⟩ := G.ex
  exact ps_raise hc tk (pmk_oex G.T h1 h2 h4 hr h3 .nil pass0 hg G.mx (pa_cons he pa_nil (hs := se)) hdb se sn)
/-- the error's own dict is new -/
theorem raise_of {v : V} {H : Hp} {Q : XK} (h : ∀ d, H d = none → Q (.ref C) (some d) (upd H d (.xd [(f, v)]))) : ([v] : List V).length ≤ 1000 ∧ ∀ a, H a = none → spXI C f (.ref a :: ([v] ++ [])) (upd H a (exo a C none))
    (fun z H2 => z = .non ∧ ∃ (d : Addr) (fs : List (Str × V)), H2 a = some (exo a C (some d)) ∧ H2 d = some (exd d fs) ∧ H d = none ∧ Q (.ref C) (some d) (upd (del H2 a) d (.xd fs))) (fun _ _ _ => False) := by
  refine ⟨(by show 1 ≤ 1000; decide), fun a ha => ⟨a, v, rfl, upd_same, fun dx hd ne => ⟨rfl, dx, [(f, v)], upd_same, ?_, ?_, ?_⟩⟩⟩
  · rw [upd_ne ne, upd_same]
  · rw [upd_ne ne] at hd
    exact hd
  · rw [upd_ne ne] at hd
    have e : upd (del (upd (upd (upd H a (exo a C none)) dx (exd dx [(f, v)])) a (exo a C (some dx))) a) dx (.xd [(f, v)]) = upd H dx (.xd [(f, v)]) := by
      funext b
      by_cases h1 : b = dx
      · rw [h1, upd_same, upd_same]
      · rw [upd_ne h1, upd_ne h1]
        by_cases h2 : b = a
        · rw [h2, del_same, ha]
        · rw [del_ne h2, upd_ne h2, upd_ne h1, upd_ne h2]
    rw [e]
    exact h dx hd
end
/-! ### isinstance(e, c) of a caught error that has its dict -/
section
variable {prog : Program} {w : World} {A : Around} {E : Value → Shared → Prop} {s : Shared} {K : PySem.W.Frag} {z D : Addr} {oz : Obj} {od : Option Obj}
open PySem.W in
theorem clsE {Q : Option Value → Shared → Prop} (C : ExcC K D) (kin : K.In s.heap) (I : InstAt s.heap z oz D od) (h : Q (some (.ref D)) { s with toks := s.toks + 1 }) : wpAny (model prog w) A (getAttr? (.ref z) "__class__") Q E s := by
  have isc : (clsIn K D).isSome = true := by
    obtain ⟨cd, hc, _⟩ := any_some C.hd
    rw [hc]
    rfl
  have found : findObj K D od "__class__" = some (.bind (.builtin "getset_descriptor.__get__") (.builtin "object.__class__")) := by
    cases od with
    | none => exact findObj_dataN isc C.ha C.hn C.ht
    | some o => exact findObj_data isc C.ha C.hn C.ht
  obtain ⟨hh, gg, dd, tt, oo⟩ := s
  have T0 := I.type (M := model prog w)
  have T1 := looks_findIn (M := model prog w) kin C.hg
  have T2 := looks_findIn (M := model prog w) kin C.hk
  have T3 := looks_find (M := model prog w) kin I found
  have isB : Looks (model prog w) hh (isInstance (.ref z) (.type "BaseException")) true := T0.andThen (looks_subIn kin C.hs)
  have n2 : (Value.builtin "BaseException.__getattribute__" == Value.builtin "object.__getattribute__") = false := by
    decide +kernel
  have n1 : (onTheHeap (Value.ref D) && Value.builtin "BaseException.__getattribute__" == Value.builtin "object.__getattribute__") = false := by
    rw [n2]
    rfl
  unfold getAttr?
  unfold getAttrBy?
  unfold getAttrBy
  refine wpAny_bind (wpAny_mkText (wpAny_bind (wpAny_attempt (wpAny_holding (wpAny_bind (T0.at (wpAny_bind (T1.at ?_))))))))
  show wpAny _ _ (ite ((onTheHeap (Value.ref D) && Value.builtin "BaseException.__getattribute__" == Value.builtin "object.__getattribute__") = true) _ _) _ _ _
  rw [n1]
  rw [if_neg Bool.false_ne_true]
  unfold getAttrByItsOwn
  unfold hookBefore
  refine wpAny_bind ?_
  rw [if_pos (show onTheHeap (.ref D) = true from rfl)]
  refine T2.at (wpAny_bind (wpAny_attempt (wpAny_holding ?_)))
  unfold callGetattribute
  rw [show (false && onTheHeap (Value.builtin "BaseException.__getattribute__")) = false from rfl]
  rw [if_neg Bool.false_ne_true]
  unfold boundAndCalled
  rw [PySem.F.excAttr_ValueError.ga.bind (.ref z)]
  refine wpAny_bind (wpAny_pure ?_)
  show wpAny _ _ (call (.builtin "BaseException.__getattribute__") [.ref z, .str "__class__" tt]) _ _ _
  refine wpAny_call (codeAny_call_builtin PySem.F.excAttr_ValueError.ga.plain PySem.F.entry_bexc_ga (@check_slot (model prog w) _ _ ⟨hh, gg, dd, tt + 1, oo⟩ "BaseException.__getattribute__" "BaseException" "__getattribute__" (.ref z) [.str "__class__" tt] [] _ (by decide +kernel) (by decide +kernel) isB (PySem.F.args_bexc_ga (.ref z) (.str "__class__" tt)) ?_))
  unfold Builtin.«object.__getattribute__»
  refine wpAny_bind (wpAny_of_eq (a := ((Value.ref z : Value), [Value.str "__class__" tt])) (by first | rfl | (simp only [slotArgs]; rfl)) ?_)
  refine wpAny_bind (wpAny_pure (wpAny_bind (T0.at (wpAny_bind (T3.at ?_)))))
  show wpAny _ _ (holding [Value.builtin "object.__class__"] (call (.builtin "getset_descriptor.__get__") [.builtin "object.__class__", .ref z, .ref D]) >>= ret) _ _ _
  refine wpAny_bind (wpAny_holding (wpAny_call (class_get (s := ⟨hh, gg, dd, tt + 1, oo⟩) (ox := oz) (od := od) kin I C.hm (wpAny_pure ?_))))
  show wpAny _ _ (handedOut (.ref D)) _ _ _
  rw [handedOut_of (v := .ref D) rfl]
  first
    | exact wpAny_pure (wpAny_pure h)
    | exact wpAny_pure h
    | exact wpAny_pure (wpAny_bind (wpAny_pure (wpAny_pure h)))
open PySem.W in
theorem kitE (C : ExcC K D) : KitX K (.ref z) (.ref D) (fun h => ∃ od, InstAt h z oz D od) where
  ty := fun _ _ _ ⟨_, I⟩ => I.type
  it := fun _ _ kin _ => by
    obtain ⟨cd, hc, _⟩ := any_some C.hd
    unfold clsIn at hc
    split at hc
    · rename_i ho
      intro A' Q' E' s' kp q
      unfold isType loadHead
      exact wpAny_bind (wpAny_loadPart (kp _ _ (kin _ _ ho)) (wpAny_pure q))
    · cases hc
  ne := fun h tp dd its n sl kin htp => by
    obtain ⟨cd, hc, _⟩ := any_some C.hd
    rw [Bool.eq_false_iff]
    intro q
    cases (Value.ref.inj (beq_iff_eq.mp q) : D = tp)
    unfold clsIn at hc
    split at hc
    · rename_i ho
      cases (kin _ _ ho).symm.trans htp
    · cases hc
  ca := fun kin ⟨_, I⟩ q => clsE C kin I q
end
/-- isinstance(e, c) in a suite: a the error, cls its class, d its dict -/
def rIsD (K : PySem.W.Frag) (D a : Addr) (cls : Value) (d : Option Addr) : List V → Hp → VK → Prop := fun xs H Q => ∃ (c : V) (cv : Value) (b : Bool) (dd : Addr) (fs : List (Str × V)), xs = [.ref a, c] ∧ (∀ u, RelV c u → u = cv) ∧ cls = .ref D ∧ d = some dd ∧ H dd = some (.xd fs) ∧ PySem.W.kitOne K (.ref D) cv = some b ∧ Q (.bl b) H
theorem call_isD {X : Cx} {a D : Addr} {oe : Obj} {cls : Value} {d : Option Addr} {pn : List (Addr × Obj)} (C : ExcC X.K D) (hz : Zc cls d oe) (hf : ∃ vs, oe.data = .fields vs) : CallR (X.suite a ((a, oe) :: pn)) (.builtin "isinstance") (rIsD X.K D a cls d) := by
  intro pins s σ H xs us Q I r h
  obtain ⟨c, cv, b, dd, fs, rfl, hcv, rfl, rfl, ed, e, q⟩ := h
  cases r with
  | cons rx rr =>
    cases rr with
    | cons rt rr =>
      cases rr
      cases rx
      cases hcv _ rt
      obtain ⟨at_, _⟩ := I.pin (a, oe) (List.mem_append.mpr (.inl List.mem_cons_self))
      obtain ⟨vs, hv⟩ := hf
      obtain ⟨mA, hns, _⟩ := (show ObjOk X.prog X.w H s.heap dd (.xd fs) from I.hok dd _ ed)
      obtain ⟨od, ho, _⟩ := lookIn_ns hns
      have J : PySem.W.InstAt s.heap a oe D (some od) := ⟨at_, hz.1, by unfold PySem.W.notCls; rw [hv] <;> rfl, by rw [hz.2]; exact ho⟩
      exact PySem.W.kia_one (kitE C) I.kIn ⟨_, J⟩ e (fun z => nomatch z) fun tk => ⟨.bl b, H, I.kept (t' := tk) fun _ _ z => z, rfl, q⟩
/-! ### repr of any data, an empty dict among it -/
/-- data, or an empty dict -/
inductive Dq (K : PySem.W.Frag) (H : Hp) : V → PyData → Prop
  | dat {v : V} {d : PyData} : Dp K H v d → Shw d → d.depth ≤ 40 → cost d ≤ sizeLine → Dq K H v d
  | emp {a : Addr} : H a = some (.dK []) → Dq K H (.ref a) (.dict [])
theorem empty_reads {X : Cx} {pins : List (Addr × Obj)} {σ : L2.St} {H : Hp} {s : Shared} {a : Addr} (I : Inv X pins σ H s) (e : H a = some (.dK [])) : Reads s.heap (.ref a) (.dict []) (a :: [] ++ []) ∧ a ≠ sysModules := by
  obtain ⟨_, ns, vs, kv, o, es, ep, h1, h2, h3, _, h5, _⟩ := (show ObjOk X.prog X.w H s.heap a (.dK []) from I.hok a _ e)
  cases kv
  have e0 : es.toList = [] := by
    cases q : es.toList with
    | nil => rfl
    | cons y ys =>
      rw [q] at h5
      cases h5
  refine ⟨.dict h1 h2.1 h3 ?_ ?_, fun z => ?_⟩
  · rw [e0]
    exact .nil
  · rw [e0]
    exact .nil
  · rw [z] at ns
    simp at ns
def rRepV (K : PySem.W.Frag) : List V → Hp → VK → Prop := fun xs H Q => ∃ v d, xs = [v] ∧ Dq K H v d ∧ Q (.str d.shown) H
theorem call_reprV {X : Cx} {K : PySem.W.Frag} (hk : X.K = K) (g : X.A.guards = some []) (hu : X.A.units + 64 < cLine) : CallR X (.builtin "repr") (rRepV K) := by
  subst hk
  intro pins s σ H xs us Q I r h
  obtain ⟨v, d, rfl, hd, q⟩ := h
  obtain ⟨u, rfl, ru⟩ := r.one
  cases hd with
  | emp e =>
    cases (show u = Value.ref _ from ru)
    obtain ⟨rd, ns⟩ := empty_reads I e
    refine repr_of_reads' rd (by decide +kernel) (fun _ z => ns (List.mem_singleton.mp z).symm) g ?_ (fun _ _ e => e) (fun h' u tk hk => ⟨.str _, H, I.kept hk, ⟨_, rfl⟩, q⟩) (by decide +kernel)
    have : (PyData.dict []).depth ≤ 2 := by decide +kernel
    omega
  | dat hp hs hd hc =>
    obtain ⟨h1, h2, h3⟩ := Shw.all d hs
    have fin : ∀ h' t' tk, (∀ b o, s.heap.get? b = some o → h'.get? b = some o) → EP X pins σ Q (.str d.shown t') { s with heap := h', toks := tk } := fun h' t' tk hk => ⟨.str d.shown, H, I.kept hk, ⟨_, rfl⟩, q⟩
    have ref_ : ∀ a : Addr, v = .ref a → wpAny (model X.prog X.w) X.A (call (.builtin "repr") [u]) (EP X pins σ Q) X.xe s := fun a ea => by
      subst ea
      obtain ⟨as, rd⟩ := Dp.reads I d _ _ hp ru
      cases (show u = Value.ref a from ru)
      exact repr_of_reads' rd h2 (fun z => by rw [h3] at z; cases z) g (by omega) (fun _ _ e => e) fin (Nat.le_trans h1 hc)
    cases hp with
    | non =>
      cases (show u = Value.none from ru)
      refine PySem.P.repr_of_none ⟨.str _, H, I.tok _, ⟨_, rfl⟩, ?_⟩
      simp only [PyData.shown] at q
      exact q
    | bl b =>
      cases (show u = Value.bool b from ru)
      refine PySem.P.repr_of_bool ⟨.str _, H, I.tok _, ⟨_, rfl⟩, ?_⟩
      simp only [PyData.shown] at q
      exact q
    | int i =>
      obtain ⟨t, rfl⟩ := (show ∃ t, u = Value.int i t from ru)
      simp only [Shw] at hs
      refine PySem.P.repr_of_int hs ⟨.str _, H, I.tok _, ⟨_, rfl⟩, ?_⟩
      simp only [PyData.shown] at q
      exact q
    | str x =>
      obtain ⟨t, rfl⟩ := (show ∃ t, u = Value.str x t from ru)
      simp only [PyData.shown] at q h1
      exact PySem.P.repr_of_str ⟨.str _, H, I.tok _, ⟨_, rfl⟩, q⟩ (Nat.le_trans h1 hc)
    | lst _ _ => exact ref_ _ rfl
    | tup _ _ => exact ref_ _ rfl
end LL

set_option Elab.async false
set_option linter.all false
set_option maxRecDepth 100000
set_option maxHeartbeats 2000000
/-! LLLam: x(lambda: body), with no repr under way; LamX's own layer for it lacks that. -/
namespace LL
open PySem PySem.Spec PyProof.Rows L2 LamX
section
variable {X : Cx} {pins : List (Addr × Obj)} {σ : L2.St} {H : Hp} {s : Shared}
/-- the call of the lambda, in the def that got it -/
theorem pe_run {CXg : CXT} {Eg : XK} {Ng : List Str} {qg : Str} {sg : Scope} {g f c' : Addr} {cdg pm ctv : Value} {params : Arguments} {body : Expr} {scope : Scope} {k i : Nat} {y : Str} {pn : List (Addr × Obj)} {xe : Value → Shared → Prop} {W : WX} {E : XK} {tb : TE} {p1 p2 : Pos}
    (I : Inv X pins σ H s) (L : LamS X.env.scope scope) (of : s.heap.get? f = some (PySem.W.kla_obj "<lambda>" (X.env.qual ++ "<lambda>") params body scope (cloFrom X.env.cells scope.names []) pm c' ctv)) (fn : H f = none) (fo : f ∉ frs X.stack)
    (ba : bindArgs (PySem.W.kla_fn "<lambda>" (X.env.qual ++ "<lambda>") params body scope (cloFrom X.env.cells scope.names []) pm (.ref c') ctv) ⟨[], []⟩ = pure [])
    (tk : Takes ((cxOf CXg X.prog X.w X.K X.mg X.base Ng qg sg g cdg X.A X.stack s H Eg).tr pn xe) W) (hr : Rm (k + 1) (X.A.deeper (envOfC qg sg s.heap.objs.size g cdg)))
    (hb : ∀ (A : Around) (outer : List Env) (s : Shared) (H : Hp), Rm k (A.deeper (lamEnv X scope s.heap.objs.size f c')) → PE (lamCx X A outer s H E scope f c') body tb)
    (hN : Ng[i]? = some y) (hv : Vis sg y) (hd : (y == ("__debug__" : Str)) = false := by decide) (hcd : (y == ("__classdict__" : Str)) = false := by decide) :
    PE ((cxOf CXg X.prog X.w X.K X.mg X.base Ng qg sg g cdg X.A X.stack s H Eg).tr pn xe) (.Call (.Name y p1) [] [] p2)
      (fun τ G Q => τ[i]? = some (some (.ref f)) ∧ G c' = some (CodeO c' (X.env.qual ++ "<lambda>")) ∧ (∀ cls d G', E cls d G' → W cls d τ G') ∧ tb σ G Q) := by
  constructor
  intro pz sz τ G Q J h
  obtain ⟨h1, h2, hW, h3⟩ := h
  have look := (pe_var (pos := p1) (i := i) hN hv hd hcd).run pz sz τ G (fun v G1 => v = .ref f ∧ G1 = G) J ⟨.ref f, h1, rfl, rfl⟩
  refine wpAny_Call_Name_kw (thn look fun u s1 z => ?_)
  obtain ⟨v, G1, J1, rv, rfl, rfl⟩ := z
  cases (show u = Value.ref f from rv)
  have of1 := J1.base.keep f _ of fn fo (fun z => nomatch (show f ∈ ([] : List Addr) from z))
  refine PySem.W.callWith_F0 ⟨_, _, _, _, of1⟩ ?_
  obtain ⟨⟨oc, vs, t, co1, co2, co3⟩, _, _⟩ := J1.hok c' _ h2
  have run : codeAny (model X.prog X.w) (X.A.deeper (envOfC qg sg s.heap.objs.size g cdg)) (.call (.ref f) ⟨[], []⟩) (CR (L2.CX X.prog X.w) (envOfC qg sg s.heap.objs.size g cdg :: X.stack) X.prog X.w G1 s1 Q E) s1 := by
    refine PySem.W.kla_callFunE hr.r.depth of1 rfl L.co L.gen rfl ⟨c', oc, vs, t, rfl, co1, co2, co3⟩ ?_
    rw [ba]
    refine wpAny_pure (wpAny_newFunctionEnv (fun n hn => (L.own n hn).2) (fun n hn => absurd hn (by simp)) (fun h₁ ns1 sb => ⟨J1.nolimit.fresh _ sb, ?_⟩) L.kind)
    show codeAny _ _ (.expr body (lamEnv X scope s1.heap.objs.size f c')) _ _
    have kp : ∀ b o, s1.heap.get? b = some o → h₁.get? b = some o := fun b o e => sb.extBut b o (Nat.ne_of_lt (Heap.lt_size e)) (Heap.get?_push_of_some _ e)
    have S : Inv (lamCx X (X.A.deeper (envOfC qg sg s.heap.objs.size g cdg)) (envOfC qg sg s.heap.objs.size g cdg :: X.stack) s1 G1 E scope f c') [] σ G1 { s1 with heap := h₁, toks := s1.toks + ([] : List (Str × Value)).length } :=
      lam_start2 I L J1.env0 hr.r.hd J1.base ns1 kp
    refine PySem.W.kla_codeExpr (wpAny_mono ((hb _ _ s1 G1 (hr.deeper _)).run [] _ _ G1 Q S h3) (fun v s2 z => ?_) fun _ _ z => z)
    obtain ⟨w', G2, S2, rv2, q⟩ := z
    exact ⟨w', G2, S2.os, S2.bare, S2.base, S2.hok, rv2, q⟩
  refine wpAny_call (codeAny_mono run fun r s2 z => ?_)
  match r, z with
  | .error e, z => exact tk _ _ (XE.of_call J1 hW z)
  | .ok (.ret u), z => exact J1.after z
  | .ok .next, z => exact z.elim
  | .ok .brk, z => exact z.elim
  | .ok .cont, z => exact z.elim
end
/-- the def x that calls what it got by its one name y: TT is what it makes of the lambda's reading -/
def Gives (X : Cx) (k : Nat) (Ng : List Str) (x : Str) (sg : Scope) (g : Addr) (cdg : Value) (bg : List Stmt) (y : Str) (q : Str) (TT : (XK → Hp → VK → Prop) → Hp → VK → Prop) : Prop :=
  ∀ (f c' : Addr) (s : Shared) (H : Hp) (Q : VK) (tl : XK → Hp → VK → Prop), Rm k (X.A.deeper (envOfC x sg s.heap.objs.size g cdg)) →
    (∀ (W : WX) (pn : List (Addr × Obj)) (xe : Value → Shared → Prop) (E : XK) (p1 p2 : Pos), Takes ((cxOf CX0 X.prog X.w X.K X.mg X.base Ng x sg g cdg X.A X.stack s H E0).tr pn xe) W →
      PE ((cxOf CX0 X.prog X.w X.K X.mg X.base Ng x sg g cdg X.A X.stack s H E0).tr pn xe) (.Call (.Name y p1) [] [] p2) (fun τ G Q => τ[0]? = some (some (.ref f)) ∧ G c' = some (CodeO c' q) ∧ (∀ cls d G', E cls d G' → W cls d τ G') ∧ tl E G Q)) →
    H c' = some (CodeO c' q) → TT tl H Q →
    ∃ t, PSs (cxOf CX0 X.prog X.w X.K X.mg X.base Ng x sg g cdg X.A X.stack s H E0).nox bg t ∧ t { nx := fun _ H' => Q .non H', rt := Q } (L2.start Ng [.ref f]) H
/-- the def x, as one fact: it calls what it gets, and makes TT of it -/
structure Taker (P : Program) (w : World) (K : PySem.W.Frag) (mg : Str → Option Value) (base : Heap) (k : Nat) (x y : Str) (TT : (XK → Hp → VK → Prop) → Hp → VK → Prop) : Prop where
  ex : ∃ (g : Addr) (fd : FuncData) (pg : Arguments) (bg : List Stmt) (sg : Scope) (Ng : List Str), mg x = some (.ref g) ∧ FunD K x x pg bg sg [] [] g fd ∧ FnScope Ng [y] sg ∧ Ng[0]? = some y ∧ Vis sg y ∧ Binds K fd [y] [] ∧
    ∀ (X : Cx) (cdg : Value) (q : Str), X.prog = P → X.w = w → X.K = K → X.mg = mg → X.base = base → Gives X k Ng x sg g cdg bg y q TT
section
variable {X : Cx}
/-- x(lambda: body) -/
theorem pe_lamG {T : List (Addr × Str)} {TT : (XK → Hp → VK → Prop) → Hp → VK → Prop} {x y : Str} {c P : Addr} {k : Nat} {params : Arguments} {body : Expr} {scope : Scope} {t : XK → TE} {p lpos pos : Pos} (G : Taker X.prog X.w X.K X.mg X.base (k + 1) x y TT)
    (TB : TabB X.base X.mg c P) (hcode : X.env.code = .ref c) (hmT : (P, X.env.qual ++ "<lambda>") ∈ T) (hu : ∀ p ∈ T, p.1 = P → p.2 = X.env.qual ++ "<lambda>") (hr : Rm (k + 2) X.A) (L : LamS X.env.scope scope)
    (hbody : ∀ (A : Around) (outer : List Env) (s : Shared) (H : Hp) (E : XK) (f c' : Addr), Rm k (A.deeper (lamEnv X scope s.heap.objs.size f c')) → PE (lamCx X A outer s H E scope f c') body (t E)) (hg : Gl X x := by rfl)
    (hdef : defaultsOf params X.env = ([], []) := by rfl) (hbind : ∀ (q : Str) (cl : List (Str × Addr)) (pm cv ctv : Value), bindArgs (PySem.W.kla_fn "<lambda>" q params body scope cl pm cv ctv) ⟨[], []⟩ = pure [] := by intros; rfl)
    (hdb : (x == ("__debug__" : Str)) = false := by decide) (hd : (y == ("__debug__" : Str)) = false := by decide) (hcd : (y == ("__classdict__" : Str)) = false := by decide) :
    PE X (.Call (.Name x p) [.Lambda params body scope lpos] [] pos) (tLam T TT t) := by
  obtain ⟨g, fd, pg, bg, sg, Ng, hm, FF, Sg, hNg, hva, hb, hG⟩ := G.ex
  obtain ⟨oc, od, dV, kV, doc, pm, an, cdv, ct, osl, rfl, lk, hcg, _, _⟩ := FF.ex
  constructor
  intro pins s σ H Q I h
  obtain ⟨hT, h⟩ := h
  refine wpAny_Call_Name_kw (ld_glob I hg hm (PySem.W.callWith_K (h₀ := X.base) I.ok.mod.kin FF.kp ?_ (by rfl) (by rfl)) hdb)
  show wpAny _ _ (spliced ((false, eval (.Lambda params body scope lpos) X.env) :: backTo pos (starEach [] X.env))) _ _ s
  refine Calls.spliced_cons (lam_make2 I TB hcode hmT hu hT hdef (L.has I.ok) fun f c' pm' ctv H1 s1 I1 eN T1 of fn fo co => Calls.spliced_nil ⟨I1.kIn, ?_⟩)
  have run : codeAny (model X.prog X.w) X.A (.call (.ref g) ⟨[.ref f], []⟩) (CR CX0 X.stack X.prog X.w H1 s1 Q E0) s1 := by
    refine run_ofS (N := Ng) (ps := [y]) (us := [.ref f]) (vs := [.ref f]) lk hcg Sg hr.r I1.env0 (hb s1 [.ref f] I1.kIn rfl) (.cons rfl .nil) rfl fun _ => ?_
    have hr1 : Rm (k + 1) (X.A.deeper (envOfC x sg s1.heap.objs.size g cdv)) := hr.deeper _
    obtain ⟨t', ht, hq⟩ := hG X cdv (X.env.qual ++ "<lambda>") rfl rfl rfl rfl rfl f c' s1 H1 Q (fun E H' Q' => t E σ H' Q') hr1
      (fun W pn xe E p1 p2 tk => pe_run (i := 0) I1 L of fn fo (hbind _ _ _ _ _) tk hr1 (fun A outer s H hr2 => hbody A outer s H E f c' hr2) hNg hva hd hcd) co (h H1 eN T1)
    exact ⟨t', ht.nox, hq⟩
  refine wpAny_call (codeAny_mono run fun r s2 z => ?_)
  match r, z with
  | .error e, z => exact (show False from z).elim
  | .ok (.ret u), z => exact I1.after z
  | .ok .next, z => exact z.elim
  | .ok .brk, z => exact z.elim
  | .ok .cont, z => exact z.elim
end
end LL

set_option Elab.async false
set_option linter.all false
set_option maxRecDepth 100000
set_option maxHeartbeats 2000000
/-! LLTab: the law's end, and the head's Hook, where some defs make lambdas (tables of code objects). -/
namespace LL
open PySem PySem.Spec PyProof.Rows L2 LamX
/-! ### a def by its body, its code object known -/
section
variable {P : Program} {w : World} {K : PySem.W.Frag} {mg : Str → Option Value} {base : Heap} {CX : CXT} {k : Nat} {f : Addr} {fd : FuncData} {ps : List Str} {sp : Sp}
theorem okC {x qual : Str} {params : Arguments} {body : List Stmt} {scope : Scope} {dvs : List V} {kws : List (Str × V)} {N : List Str} (F : FunD K x qual params body scope dvs kws f fd) (S : FnScope N ps scope) (len : ∀ vs H Q E, sp vs H Q E → vs.length = ps.length)
    (hbody : ∀ (cdv : Value), (fdAt K f).map FuncData.code = some cdv → ∀ (A : Around) (outer : List Env) (s : Shared) (H : Hp) (vs : List V) (Q : VK) (E : XK), Rm k (A.deeper (envOfC qual scope s.heap.objs.size f cdv)) → sp vs H Q E →
      ∃ t, PSs (cxOf CX0 P w K mg base N qual scope f cdv A outer s H E).nox body t ∧ t { nx := fun _ H' => Q .non H', rt := Q } (L2.start N vs) H) : FnG P w K mg base CX0 (k + 1) f fd ps sp := by
  obtain ⟨oc, od, dV, kV, doc, pm, an, cdv, ct, osl, rfl, lk, hcd, _, _⟩ := F.ex
  have ec : (fdAt K f).map FuncData.code = some cdv := by
    unfold fdAt
    rw [lk]
    rfl
  refine ⟨len, fun A outer s H args us vs Q E hr e0 hb r hsp => ?_⟩
  refine LamX.run_ofS (CX := CX0) lk hcd S hr.r e0 hb r (len _ _ _ _ hsp) fun _ => ?_
  obtain ⟨t, ht, q⟩ := hbody cdv ec A outer s H vs Q E (hr.deeper _) hsp
  exact ⟨t, ht.nox, q⟩
end
/-- the code object of the def at a, its table -/
def cOf (K : PySem.W.Frag) (a : Addr) : Addr := match (fdAt K a).map FuncData.code with
  | some (Value.ref c) => c
  | _ => 0
theorem cOf_of {K : PySem.W.Frag} {a c : Addr} (e : (fdAt K a).map FuncData.code = some (Value.ref c)) : cOf K a = c := by
  unfold cOf
  rw [e]
def tOf (K : PySem.W.Frag) (a : Addr) : Addr := He.tabOf K (cOf K a)
/-! ### the law's call -/
section
variable {P : Program} {w : World} {K : PySem.W.Frag} {mg mb : Str → Option Value} {CX : CXT} {k : Nat} {fa a : Addr} {fd : FuncData} {x : Str} {sp : Sp} {t : Shared} {us : List Value} {ns : List Int} {cs : List (Addr × Addr)}
/-- an empty table -/
abbrev tab0 : Obj := { cls := .none, data := .fields #[] }
theorem lawAtT {H : Hp} (KX : K.In t.heap) (hns : t.heap.Ns mainGlobals mg) (hb : t.heap.Ns builtinsNs mb) (hbb : ∀ x : Str, x ≠ "__name__" → mb x = bootBuiltins x) (hlim : t.heap.NoLimit) (hg : t.gens = #[])
    (tT : ∀ p ∈ cs, t.heap.get? p.2 = some tab0) (tK : ∀ p ∈ cs, K.lookup p.2 = none) (tC : ∀ p ∈ cs, PySem.W.codeHdIn K p.1 p.2 = true)
    (bm : ∃ (m : Addr) (om : Obj), mg "__builtins__" = some (.ref m) ∧ m ≠ builtinsNs ∧ t.heap.get? m = some om ∧ om.cls = .type "module" ∧ om.dict = some builtinsNs ∧ om.data = .plain)
    (ha : t.heap.get? a = some { cls := .type "list", data := .seq us.toArray }) (hr : Rm k callerA) (F : ∀ base : Heap, K.In base → base.Ns mainGlobals mg → (∀ p ∈ cs, TabB base mg p.1 p.2) → FnG P w K mg base CX k fa fd [x] sp)
    (bd : ∀ (s : Shared) (u : Value), BindsTo s fd ⟨[u], []⟩ [(x, u)]) (hsp : sp [.ref a] H (fun v _ => v = .bl true) fun _ _ _ => False) (hCX : ∀ e s', CX [] H t (fun _ _ _ => False) e s' → False)
    (only : ∀ b, H b = none ∨ (b = a ∧ K.lookup a = none ∧ ∃ o l, H b = some (.frz o (.lst l))) ∨ ∃ p ∈ cs, b = p.2 ∧ H b = some (.tbl #[])) (hok : HOk P w H t.heap) : codeAny (model P w) callerA (.call (.ref fa) ⟨[.ref a], []⟩) (LawEnd t) t := by
  -- what is neither a list nor a table is free
  have free : ∀ {b : Addr} {o : Obj}, t.heap.get? b = some o → (∀ vs m, o.data ≠ .seq vs m) → (o.data ≠ .fields #[]) → H b = none := fun {b o} e n1 n2 => by
    rcases only b with z | ⟨rfl, _, _⟩ | ⟨p, hp, rfl, _⟩
    · exact z
    · rw [ha] at e
      cases e
      exact (n1 _ _ rfl).elim
    · rw [tT p hp] at e
      cases e
      exact (n2 rfl).elim
  have nsB : ∀ {b : Addr} {m : Str → Option Value}, t.heap.Ns b m → (hidT t.heap H).Ns b m := by
    rintro b m ⟨o, es, ep, e, d, r⟩
    refine ⟨o, es, ep, hidT_get e (free e (fun vs m z => ?_) fun z => ?_), d, r⟩ <;> rw [d] at z <;> cases z
  have kB : K.In (hidT t.heap H) := by
    intro b o e
    refine hidT_get (KX b o e) ?_
    rcases only b with z | ⟨z, q, _⟩ | ⟨p, hp, z, _⟩
    · exact z
    · rw [z, q] at e
      cases e
    · rw [z, tK p hp] at e
      cases e
  have TB : ∀ p ∈ cs, TabB (hidT t.heap H) mg p.1 p.2 := fun p hp => by
    refine ⟨PySem.W.codeHd_of_K kB (tC p hp), ?_, fun z => ?_⟩
    · obtain ⟨m, om, m1, m2, m3, m4, m5, m6⟩ := bm
      refine ⟨m, om, m1, m2, fun z => ?_, fun z => ?_, hidT_get m3 (free m3 (fun vs n z => ?_) fun z => ?_), m4, m5, m6⟩
      · obtain ⟨o, es, ep, e, d, _⟩ := hns
        rw [z, e] at m3
        cases m3
        rw [d] at m6
        cases m6
      · rw [z, tT p hp] at m3
        cases m3
        cases m6
      · rw [m6] at z
        cases z
      · rw [m6] at z
        cases z
    · obtain ⟨o, es, ep, e, d, _⟩ := hns
      rw [z, tT p hp] at e
      cases e
      cases d
  obtain ⟨ml, l1, l2⟩ := hlim
  have env : Env0 P w K mg (hidT t.heap H) callerA [] t H :=
    { frames := rfl
      mod := ⟨kB, nsB hns, ⟨mb, nsB hb, hbb⟩, ⟨ml, nsB l1, l2⟩⟩
      bs := fun _ _ e => of_hidT e
      bsz := Nat.le_of_eq (hidT_size _ _)
      funs := trivial
      frf := fun _ z => by cases (show _ ∈ ([] : List Addr) from z)
      hok := hok
      bare := .of_eq hg }
  have go := (F _ kB (nsB hns) TB).run callerA [] t H ⟨[.ref a], []⟩ [.ref a] [.ref a] _ _ hr env (bd t (.ref a)) (.cons rfl .nil) hsp
  refine codeAny_mono go fun r t' h => ?_
  match r, h with
  | .error e, h => exact (hCX e t' h).elim
  | .ok .next, h => exact False.elim h
  | .ok .brk, h => exact False.elim h
  | .ok .cont, h => exact False.elim h
  | .ok (.ret u), h =>
    obtain ⟨v, H', e1, e2, un, hok', rv, (rfl : v = .bl true)⟩ := h
    cases (show u = Value.bool true from rv)
    have key : ∀ b o, t.heap.get? b = some o → t'.heap.get? b = some o ∨ ∃ p ∈ cs, b = p.2 ∧ o = tab0 ∧ ∃ more : Array Value, t'.heap.get? b = some { cls := .none, data := .fields more } := fun b o e => by
      rcases only b with n | ⟨_, _, ob, l, z⟩ | ⟨p, hp, rfl, z⟩
      · exact .inl (un.keep b o e n (fun z => by cases (show b ∈ ([] : List Addr) from z)) (fun z => by cases z))
      · have z1 := (hok b _ z).1
        have z2 := (hok' b _ (un.frzs b ob _ z)).1
        rw [e] at z1
        cases z1
        exact .inl z2
      · obtain ⟨more, y⟩ := un.tbls p.2 #[] z
        have y2 := tT p hp
        rw [e] at y2
        exact .inr ⟨p, hp, rfl, Option.some.inj y2, _, hok' p.2 _ y⟩
    refine ⟨rfl, ⟨fun b o e => ?_, fun b o e => ?_⟩, e1, e2⟩
    · rcases key b o e with z | ⟨p, hp, rfl, rfl, more, z⟩
      · exact .inl z
      · exact .inr (.inl ⟨((PySem.W.codeHd_of_K KX (tC p hp)).tab (tT p hp)).isCodeTable, rfl, #[], more, rfl, by rw [Array.empty_append]; exact z⟩)
    · rcases key b o e with z | ⟨p, hp, rfl, rfl, more, z⟩
      · exact ⟨o, z⟩
      · exact ⟨_, z⟩
theorem lawT (KX : K.In t.heap) (hns : t.heap.Ns mainGlobals mg) (hb : t.heap.Ns builtinsNs mb) (hbb : ∀ x : Str, x ≠ "__name__" → mb x = bootBuiltins x) (hlim : t.heap.NoLimit) (hg : t.gens = #[])
    (tT : ∀ p ∈ cs, t.heap.get? p.2 = some tab0) (tK : ∀ p ∈ cs, K.lookup p.2 = none) (tC : ∀ p ∈ cs, PySem.W.codeHdIn K p.1 p.2 = true)
    (bm : ∃ (m : Addr) (om : Obj), mg "__builtins__" = some (.ref m) ∧ m ≠ builtinsNs ∧ t.heap.get? m = some om ∧ om.cls = .type "module" ∧ om.dict = some builtinsNs ∧ om.data = .plain)
    (ha : t.heap.get? a = some { cls := .type "list", data := .seq us.toArray }) (hi : IntsAre us ns) (hl : ns.length ≤ sizeLine) (hr : Rm k callerA) (F : ∀ base : Heap, K.In base → base.Ns mainGlobals mg → (∀ p ∈ cs, TabB base mg p.1 p.2) → FnG P w K mg base CX k fa fd [x] sp)
    (bd : ∀ (s : Shared) (u : Value), BindsTo s fd ⟨[u], []⟩ [(x, u)]) (hsp : ∀ H : Hp, (∀ p ∈ cs, H p.2 = some (.tbl #[])) → SqL K H a (ns.map V.int) → sp [.ref a] H (fun v _ => v = .bl true) fun _ _ _ => False) (hCX : ∀ H e s', CX [] H t (fun _ _ _ => False) e s' → False) :
    codeAny (model P w) callerA (.call (.ref fa) ⟨[.ref a], []⟩) (LawEnd t) t := by
  classical
  have rv := vals_ints hi
  have na : ∀ p ∈ cs, p.2 ≠ a := fun p hp z => by
    have e := tT p hp
    rw [z, ha] at e
    cases e
  let T : Hp := fun b => if ∃ p ∈ cs, b = p.2 then some (.tbl #[]) else none
  have T1 : ∀ p ∈ cs, T p.2 = some (.tbl #[]) := fun p hp => if_pos ⟨p, hp, rfl⟩
  have T2 : ∀ b u, T b = some u → (∃ p ∈ cs, b = p.2) ∧ u = .tbl #[] := fun b u e => by
    by_cases c : ∃ p ∈ cs, b = p.2
    · have e' : some (HO.tbl #[]) = some u := (if_pos c).symm.trans e
      exact ⟨c, (Option.some.inj e').symm⟩
    · have e' : none = some u := (if_neg c).symm.trans e
      cases e'
  have T3 : ∀ b, T b = none ∨ ∃ p ∈ cs, b = p.2 ∧ T b = some (.tbl #[]) := fun b => by
    by_cases c : ∃ p ∈ cs, b = p.2
    · obtain ⟨p, hp, e⟩ := c
      exact .inr ⟨p, hp, e, e ▸ T1 p hp⟩
    · exact .inl (if_neg c)
  have T4 : HOk P w T t.heap := fun b u e => by
    obtain ⟨⟨p, hp, rfl⟩, rfl⟩ := T2 b u e
    exact tT p hp
  cases q : K.lookup a with
  | none =>
    let o : Obj := { cls := .type "list", data := .seq us.toArray }
    have Ha : upd T a (.frz o (.lst (ns.map V.int))) a = some (.frz o (.lst (ns.map V.int))) := upd_same
    refine lawAtT (H := upd T a (.frz o (.lst (ns.map V.int)))) KX hns hb hbb hlim hg tT tK tC bm ha hr F bd (hsp _ (fun p hp => ?_) (.inl (.inr ⟨_, Ha⟩))) (hCX _) (fun b => ?_) fun b u z => ?_
    · rw [upd_ne (na p hp)]
      exact T1 p hp
    · by_cases c : b = a
      · exact .inr (.inl ⟨c, q, o, _, by rw [c]; exact Ha⟩)
      · rw [upd_ne c]
        exact (T3 b).imp id fun z => .inr z
    · by_cases c : b = a
      · subst c
        rw [Ha] at z
        cases z
        exact ⟨ha, by rw [List.length_map]; exact hl, us, _, rv, ha⟩
      · rw [upd_ne c] at z
        obtain ⟨⟨p, hp, rfl⟩, rfl⟩ := T2 b u z
        exact tT p hp
  | some o =>
    have e := KX a o q
    rw [ha] at e
    cases e
    refine lawAtT (H := T) KX hns hb hbb hlim hg tT tK tC bm ha hr F bd (hsp _ T1 (.inr ⟨_, us.toArray, _, q, rfl, rfl, rfl, ?_, by simpa using rv⟩)) (hCX _) (fun b => (T3 b).imp id fun z => .inr z) T4
    rw [List.size_toArray, hi.length]
    exact hl
end
/-- the goal that the head leaves, from the law's promise -/
theorem walkT {l : PySem.W.OpenLaw} {n k : Nat} {q : Program} {loose : List Str} {XP : (Str → Option Value) → Heap → Prop} {YP : World → Heap → Prop} {d : DefRec} {CX : CXT} {x : Str} (hn : l.most = some n) (hn2 : n ≤ sizeLine) (hdf : d.params.defaults = []) (hr : Rm k callerA)
    (F : ∀ (w : World) (mg : Str → Option Value) (fa : Addr) (h : Heap), YP w h → h.Ns mainGlobals mg → mg d.name = some (.ref fa) →
      ∃ (K : PySem.W.Frag) (fd : FuncData) (sp : Sp) (cs : List (Addr × Addr)), K.In h ∧ (∀ p ∈ cs, h.get? p.2 = some tab0) ∧ (∀ p ∈ cs, K.lookup p.2 = none) ∧ (∀ p ∈ cs, PySem.W.codeHdIn K p.1 p.2 = true) ∧ (∀ (s : Shared) (u : Value), BindsTo s fd ⟨[u], []⟩ [(x, u)]) ∧
        (∀ (H : Hp) (a : Addr) (ns : List Int), ns.length ≤ n → (∀ i ∈ ns, Builtin.Int.intBits i ≤ 1048576) → (∀ p ∈ cs, H p.2 = some (.tbl #[])) → SqL K H a (ns.map V.int) → sp [.ref a] H (fun v _ => v = .bl true) fun _ _ _ => False) ∧
        ∀ base : Heap, K.In base → base.Ns mainGlobals mg → (∀ p ∈ cs, TabB base mg p.1 p.2) → FnG l.prog w K mg base CX k fa fd [x] sp)
    (hCX : ∀ (H : Hp) (s : Shared) (e : Value) (s' : Shared), CX [] H s (fun _ _ _ => False) e s' → False) : PySem.W.WalkO q loose XP YP l.row.toRowW d [] (fun f vs => PySem.call f vs) := by
  refine Att.attach_callB hn hdf fun w _ t mg mb fa _ _ _ _ a us ns G Y _ _ _ hm ho hi hlen hbits hg => ?_
  obtain ⟨K, fd, sp, cs, KX, tT, tK, tC, bd, hs, hF⟩ := F w mg fa _ Y G.T.g hm
  exact lawT KX G.T.g G.T.b G.T.builtins G.T.nolimit hg tT tK tC G.T.bmain ho hi (Nat.le_trans hlen hn2) hr hF bd (fun H hT hS => hs H a ns hlen hbits hT hS) fun H e s' => hCX H t e s'
/-! ### the Hook -/
/-- what the module's names reach in n steps, and the statics -/
def asY (g : Addr → Option Obj) : Nat → List Addr
  | 0 => [mainGlobals, cStatics]
  | n + 1 => He.growD g (asY g n)
def frY (n : Nat) (g : Addr → Option Obj) : PySem.W.Frag := He.frT g (asY g n)
def tabY (g : Addr → Option Obj) (tf : List (PySem.W.Frag → Addr)) (K : PySem.W.Frag) : Bool := tf.all fun a => PySem.W.codeHdIn K (cOf K (a K)) (tOf K (a K)) && (g (tOf K (a K))).any He.emptyTab
abbrev AlT : Type := AlX × Bool
def obsTG (n : Nat) (ft : List Ft) (fn : List DefX) (tf : List (PySem.W.Frag → Addr)) (g : Addr → Option Obj) : AlT := (obsY ft fn (frY n g), tabY g tf (frY n g))
structure SaysT (ft : List Ft) (fn : List DefX) (tf : List (PySem.W.Frag → Addr)) (h : Heap) (K : PySem.W.Frag) : Prop where
  y : SaysY ft fn K
  hd : ∀ a ∈ tf, PySem.W.codeHdIn K (cOf K (a K)) (tOf K (a K)) = true
  out : ∀ a ∈ tf, K.lookup (tOf K (a K)) = none
  emp : ∀ a ∈ tf, h.get? (tOf K (a K)) = some tab0
theorem saysT_of {n : Nat} {ft : List Ft} {fn : List DefX} {tf : List (PySem.W.Frag → Addr)} {h : Heap} (e : obsTG n ft fn tf h.get? = (valY fn, true)) : SaysT ft fn tf h (frY n h.get?) := by
  have e1 : obsY ft fn (frY n h.get?) = valY fn := congrArg Prod.fst e
  have e2 : tabY h.get? tf (frY n h.get?) = true := congrArg Prod.snd e
  have key : ∀ a ∈ tf, PySem.W.codeHdIn (frY n h.get?) (cOf (frY n h.get?) (a (frY n h.get?))) (tOf (frY n h.get?) (a (frY n h.get?))) = true ∧ ∃ o, h.get? (tOf (frY n h.get?) (a (frY n h.get?))) = some o ∧ He.emptyTab o = true := fun a ha => by
    obtain ⟨h1, h2⟩ := He.ba (List.all_eq_true.mp e2 a ha)
    cases q : h.get? (tOf (frY n h.get?) (a (frY n h.get?))) with
    | none =>
      rw [q] at h2
      cases h2
    | some o =>
      rw [q] at h2
      exact ⟨h1, o, rfl, h2⟩
  refine ⟨e1, fun a ha => (key a ha).1, fun a ha => ?_, fun a ha => ?_⟩
  · obtain ⟨_, o, q, z⟩ := key a ha
    exact He.frT_none q z
  · obtain ⟨_, o, q, z⟩ := key a ha
    rw [q, He.emptyTab_eq z]
def hookT (n : Nat) (ft : List Ft) (fn : List DefX) (tf : List (PySem.W.Frag → Addr)) : PySem.W.Hook where
  α := AlT
  obs := fun s => obsTG n ft fn tf s.heap.get?
  val := fun _ => (valY fn, true)
  says := fun _ h => ∃ K : PySem.W.Frag, K.In h ∧ SaysT ft fn tf h K
  of := fun _ _ e => ⟨_, He.frT_in, saysT_of e⟩
  keeps := fun _ _ _ ⟨K, hK, c⟩ k => ⟨K, PySem.W.Frag.In.keeps hK k, ⟨c.y, c.hd, c.out, fun a ha => k _ _ (c.emp a ha)⟩⟩
theorem obsTG_eq {n : Nat} {ft : List Ft} {fn : List DefX} {tf : List (PySem.W.Frag → Addr)} {g : Addr → Option Obj} {s : Shared} (h : ∀ a, g a = s.heap.get? a) : obsTG n ft fn tf g = (hookT n ft fn tf).obs s := by
  cases (funext h : g = s.heap.get?)
  rfl
/-! ### an error class of the text, over ValueError -/
def oexB (K : PySem.W.Frag) (C : Addr) : Bool := match K.lookup C with
  | some ⟨.type c, _, .cls cd, sl⟩ => c == "type" && (match cd.mro, sl.toList with
    | .ref D :: bm, [_, _, _, _, some (.builtin n), _] => D == C && (n == "ValueError.__new__" && (!cd.hasDel && (cd.hasDict && PySem.HandSPX.refsVE bm)))
    | _, _ => false)
  | _ => false
theorem oexB_ok {K : PySem.W.Frag} {C : Addr} (h : oexB K C = true) : ∃ nm q N bs bm sn sub ab col dd k0 k1 k2 k3 k5, K.lookup C = some (excClassObj nm q C N bs bm true sn sub ab col dd k0 k1 k2 k3 k5 "ValueError.__new__") ∧ PySem.HandSPX.refsVE bm = true := by
  unfold oexB at h
  split at h
  · rename_i c dd cd sl lk
    obtain ⟨h1, h2⟩ := He.ba h
    split at h2
    · rename_i D bm k0 k1 k2 k3 n k5 hm hs
      obtain ⟨g1, g2⟩ := He.ba h2
      obtain ⟨g3, g4⟩ := He.ba g2
      obtain ⟨g5, g6⟩ := He.ba g4
      obtain ⟨g7, g8⟩ := He.ba g6
      obtain ⟨c1, c2, c3, c4, c5, c6, c7, c8, c9, c10, c11⟩ := cd
      have es : sl = #[k0, k1, k2, k3, some (.builtin n), k5] := by
        have : sl = sl.toList.toArray := by simp
        rw [this, hs]
      have e1 : c = "type" := beq_iff_eq.mp h1
      have e2 : D = C := beq_iff_eq.mp g1
      have e3 : n = "ValueError.__new__" := beq_iff_eq.mp g3
      have e4 : c11 = false := by simpa using g5
      have e5 : c6 = true := g7
      have e6 : c3 = .ref D :: bm := hm
      subst es e1 e2 e3 e4 e5 e6
      exact ⟨_, _, _, _, _, _, _, _, _, _, _, _, _, _, _, lk, g8⟩
    · cases h2
  · cases h
/-- all that is asked of an error class x with the field f -/
def fXcl (x f : Str) : Ft := fun K => oexB K (He.ga K x) && (He.eqO (PySem.W.findIn K (.ref (He.ga K x)) "__setattr__") (some (some (.builtin "object.__setattr__"))) && (decide (PySem.W.subIn K (.ref (He.ga K x)) (.type "BaseException") = some true) && (decide (PySem.W.typeIn K (.ref (He.ga K x)) = some (.type "type")) &&
  (PySem.W.keepIn K (.ref (He.ga K x)) && (He.eqO (PySem.W.findIn K (.ref (He.ga K x)) f) (some none) && (He.eqO (PySem.W.findIn K (.ref (He.ga K x)) "__init__") (some (some (.ref (mA x "__init__" K)))) && (decide (PySem.W.typeIn K (.ref (mA x "__init__" K)) = some (.type "function")) &&
  (xfB K (He.ga K x) && (He.eqO (PySem.W.findIn K (.ref (He.ga K x)) "__class__") (some (some (.builtin "object.__class__"))) && (He.eqO (PySem.W.specialIn K (.builtin "object.__class__") "__get__") (some (some (.builtin "getset_descriptor.__get__"))) && (decide (PySem.W.takesIn K (.builtin "object.__class__") = some true) && decide (PySem.W.mroIn K (He.ga K x) (.type "object") = some true))))))))))))
theorem fXcl_ok {P : Program} {w : World} {K : PySem.W.Frag} {mg : Str → Option Value} {base : Heap} {k : Nat} {x f : Str} {fd : FuncData} {ps : List Str} (c : fXcl x f K = true) (hm : mg x = some (.ref (He.ga K x))) (B : Binds K fd ps []) (F : FnOk P w K mg base CX0 k (mA x "__init__" K) fd ps (spXI (He.ga K x) f)) :
    Xcl P w K mg base k x (He.ga K x) f := by
  obtain ⟨c1, c⟩ := He.ba c
  obtain ⟨c2, c⟩ := He.ba c
  obtain ⟨c3, c⟩ := He.ba c
  obtain ⟨c4, c⟩ := He.ba c
  obtain ⟨c5, c⟩ := He.ba c
  obtain ⟨c6, c⟩ := He.ba c
  obtain ⟨c7, c⟩ := He.ba c
  obtain ⟨c8, c⟩ := He.ba c
  obtain ⟨c9, c⟩ := He.ba c
  obtain ⟨c10, c⟩ := He.ba c
  obtain ⟨c11, c⟩ := He.ba c
  obtain ⟨c12, c13⟩ := He.ba c
  have xf := xfB_ok c9
  exact ⟨⟨oexB_ok c1, He.eqO_ok c2, of_decide_eq_true c3, of_decide_eq_true c4, c5⟩, He.eqO_ok c6, hm, ⟨_, fd, ps, He.eqO_ok c7, of_decide_eq_true c8, B, F⟩, xf, ⟨xf.ga, xf.gg, xf.exC, xf.hdC, He.eqO_ok c10, He.eqO_ok c11, of_decide_eq_true c12, of_decide_eq_true c13⟩⟩
theorem fXcl_pre {K : PySem.W.Frag} {x f : Str} (c : fXcl x f K = true) : OexC K (He.ga K x) ∧ PySem.W.findIn K (.ref (He.ga K x)) f = some none := by
  obtain ⟨c1, c⟩ := He.ba c
  obtain ⟨c2, c⟩ := He.ba c
  obtain ⟨c3, c⟩ := He.ba c
  obtain ⟨c4, c⟩ := He.ba c
  obtain ⟨c5, c⟩ := He.ba c
  obtain ⟨c6, _⟩ := He.ba c
  exact ⟨⟨oexB_ok c1, He.eqO_ok c2, of_decide_eq_true c3, of_decide_eq_true c4, c5⟩, He.eqO_ok c6⟩
/-- the class B over ValueError that has no __init__ of its own -/
def fLe (x : Str) : Ft := fun K => He.eqO (PySem.W.specialIn K (.ref (He.ga K x)) "__getattribute__") (some (some (.builtin "type.__getattribute__"))) && (PySem.W.readsIn K (He.ga K x) (.type "type") && (match PySem.W.findCls K (.ref (He.ga K x)) (.type "type") "__init__" with
  | some (.val (.builtin n)) => n == "ValueError.__init__"
  | _ => false))
theorem fLe_ok {K : PySem.W.Frag} {x : Str} (c : fLe x K = true) : LeC K (He.ga K x) := by
  obtain ⟨c1, c⟩ := He.ba c
  obtain ⟨c2, c3⟩ := He.ba c
  refine ⟨He.eqO_ok c1, c2, ?_⟩
  split at c3
  · rename_i n e
    rw [e, beq_iff_eq.mp c3]
  · cases c3
end LL

set_option Elab.async false
set_option linter.all false
set_option maxRecDepth 100000
set_option maxHeartbeats 2000000
/-! LLVal: values that are refused, and how repr tells them; heaps with tables; constants of the module. -/
namespace LL
open PySem PySem.Spec PyProof.Rows L2
theorem small {n : Nat} (h : n ≤ 100000) : n ≤ sizeLine := Nat.le_trans h (by rw [sizeLine_eq]; decide)
theorem passF {X : Cx} : Passes (L2.CX X.prog X.w) X E0 := fun _ _ _ _ _ _ _ h => by
  obtain ⟨_, _, _, _, _, _, _, _, _, _, _, _, z⟩ := h
  exact z.elim
/-- a constant of the module -/
theorem pe_gS {X : Cx} {x z : Str} {pos : Pos} (h : ∃ t, X.mg x = some (.str z t)) (hg : Gl X x := by rfl) (hd : (x == ("__debug__" : Str)) = false := by decide) : PE X (.Name x pos) (tC (.str z)) := by
  obtain ⟨t, h⟩ := h
  exact pe_glob hg h ⟨t, rfl⟩ hd
theorem pe_gI {X : Cx} {x : Str} {i : Int} {pos : Pos} (h : ∃ t, X.mg x = some (.int i t)) (hg : Gl X x := by rfl) (hd : (x == ("__debug__" : Str)) = false := by decide) : PE X (.Name x pos) (tC (.int i)) := by
  obtain ⟨t, h⟩ := h
  exact pe_glob hg h ⟨t, rfl⟩ hd
def fStr (x z : Str) : Ft := fun K => (He.Fa.str x z).ok K
def fInt (x : Str) (i : Int) : Ft := fun K => (He.Fa.int x i).ok K
/-- a value that is no text -/
def NoTxt (K : PySem.W.Frag) (H : Hp) (v : V) : Prop := ∃ t, (∀ H', LamX.ExtN H H' → TyX K H' v t) ∧ PySem.W.kitOne K t (.type "str") = some false
theorem NoTxt.ext {K : PySem.W.Frag} {H H' : Hp} {v : V} (h : NoTxt K H v) (s : LamX.ExtN H H') : NoTxt K H' v := let ⟨t, a, b⟩ := h; ⟨t, fun H2 s2 => a H2 (s.trans s2), b⟩
theorem NoTxt.same {K : PySem.W.Frag} {H H' : Hp} {v : V} (h : NoTxt K H v) (s : Same H H') : NoTxt K H' v := h.ext (.of s)
/-- an error with this value -/
def Err (Cx : Addr) (H : Hp) (v : V) (E : XK) : Prop := ∀ H' d, Same H H' → H d = none → H' d = some (.xd [("value", v)]) → E (.ref Cx) (some d) H'
theorem Err.now {Cx : Addr} {H : Hp} {v : V} {E : XK} (h : Err Cx H v E) : ∀ d, H d = none → E (.ref Cx) (some d) (upd H d (.xd [("value", v)])) := fun d hd => h _ d (same_upd hd) hd upd_same
theorem Err.same {Cx : Addr} {H H1 : Hp} {v : V} {E : XK} (h : Err Cx H v E) (s : Same H H1) : Err Cx H1 v E := fun H' d s2 hd e => h H' d (s.trans s2) (s.free hd) e
theorem kStr {K : PySem.W.Frag} : PySem.W.kitOne K (.type "str") (.type "str") = some true := kit_ty (by decide +kernel)
/-! ### heaps with tables -/
def ButN (p : Addr) (H H' : Hp) : Prop := ∀ b o, H b = some o → b ≠ p → (∀ ps, o ≠ .tbl ps) → H' b = some o
theorem ButN.trans {p : Addr} {H H1 H2 : Hp} (a : ButN p H H1) (b : ButN p H1 H2) : ButN p H H2 := fun c o e n t => b c o (a c o e n t) n t
theorem ButN.of {p : Addr} {H H' : Hp} (a : But p H H') : ButN p H H' := fun c o e n _ => a c o e n
theorem ButN.ext {p : Addr} {H H' : Hp} (a : LamX.ExtN H H') : ButN p H H' := fun c o e _ t => a c o e t
theorem ButN.same {p : Addr} {H H' : Hp} (a : Same H H') : ButN p H H' := fun c o e _ _ => a c o e
theorem lst_ext {H H' : Hp} {l : Addr} {xs : List V} (h : H l = some (.lst xs)) (b : LamX.ExtN H H') : H' l = some (.lst xs) := b _ _ h (fun _ z => by cases z)
theorem tabs_kp {T : List (Addr × Str)} {H H' : Hp} (t : LamX.Tabs T H) (k : Kp H H') : LamX.Tabs T H' := fun p hp => by
  obtain ⟨ps, h1, h2, h3⟩ := t p hp
  refine ⟨ps, k _ _ h1 (fun _ z => by cases z), h2, fun pos cv hc => ?_⟩
  obtain ⟨c, e1, e2⟩ := h3 pos cv hc
  exact ⟨c, e1, k _ _ e2 (fun _ z => by unfold LamX.CodeO at z; cases z)⟩
theorem tabs_same {T : List (Addr × Str)} {H H' : Hp} (t : LamX.Tabs T H) (k : Same H H') : LamX.Tabs T H' := tabs_kp t (Kp.of k)
theorem asc_okt {z : Str} (h : PyData.strOk z = true) : Asc z := fun c hc => Nat.lt_trans (okt_iff.mp h c hc) (by decide)
theorem log_small {n : Int} (h : n.natAbs < 2 ^ 100) : n.natAbs.log2 < 1920 := Nat.lt_of_lt_of_le (PySem.Flt.log2_lt_of (by decide) h) (by decide)
section
variable {K : PySem.W.Frag}
theorem dq_of {H : Hp} {v : V} {d : PyData} (h : Dp K H v d) (s : Shw d) (p : d.depth ≤ 40) (c : cost d ≤ sizeLine) : Dq K H v d := .dat h s p c
/-- told by repr as d, whatever else is made -/
def Tld (K : PySem.W.Frag) (H : Hp) (v : V) (d : PyData) : Prop := PyData.strOk d.shown = true ∧ ∀ H', LamX.ExtN H H' → Dq K H' v d
theorem Tld.ext {H H' : Hp} {v : V} {d : PyData} (h : Tld K H v d) (s : LamX.ExtN H H') : Tld K H' v d := ⟨h.1, fun H2 s2 => h.2 H2 (s.trans s2)⟩
theorem okt_int (i : Int) : PyData.strOk (PyData.shown (.int i)) = true := by
  simp only [PyData.shown]
  exact okt_of _
theorem tld_non {H : Hp} : Tld K H .non .none := ⟨by decide +kernel, fun _ _ => dq_of .non (by simp only [Shw]) (by decide +kernel) (by decide +kernel)⟩
theorem tld_bl {H : Hp} (b : Bool) : Tld K H (.bl b) (.bool b) := ⟨by cases b <;> decide +kernel, fun _ _ => dq_of (.bl b) (by simp only [Shw]) (by cases b <;> decide +kernel) (by cases b <;> decide +kernel)⟩
theorem tld_int {H : Hp} {i : Int} (h : i.natAbs < 2 ^ 100) : Tld K H (.int i) (.int i) := by
  refine ⟨okt_int i, fun _ _ => dq_of (.int i) (by simp only [Shw]; exact log_small h) ?_ ?_⟩
  · simp only [PyData.depth]
    decide
  · simp only [cost]
    exact small (by decide)
theorem tld_zero {H : Hp} : Tld K H (.str "0") (.str "0") := ⟨by decide +kernel, fun _ _ => dq_of (.str _) (by simp only [Shw]; exact asc_of _) (by decide +kernel) (by decide +kernel)⟩
theorem tld_list1 {H : Hp} {l : Addr} {i : Int} (h : i.natAbs < 2 ^ 100) (hl : H l = some (.lst [.int i])) : Tld K H (.ref l) (.list [.int i]) := by
  refine ⟨?_, fun H' s => dq_of (.lst (SqL.of (lst_ext hl s)) (.cons (.int _) .nil)) (by simp only [Shw, ShwAll]; exact ⟨log_small h, trivial⟩) ?_ ?_⟩
  · simp only [PyData.shown, PyData.shownAll, listText, textFrom]
    exact okt_app (okt_app (okt_app (okt_of _) (okt_of _)) (okt_of _)) (okt_of _)
  · simp only [PyData.depth, PyData.depthAll]
    decide
  · simp only [cost, costAll]
    exact small (by decide)
theorem tld_a {H : Hp} {l : Addr} (hl : H l = some (.lst [.str "a"])) : Tld K H (.ref l) (.list [.str "a"]) :=
  ⟨by decide +kernel, fun H' s => dq_of (.lst (SqL.of (lst_ext hl s)) (.cons (.str _) .nil)) (by simp only [Shw, ShwAll]; exact ⟨asc_of _, trivial⟩) (by decide +kernel) (by decide +kernel)⟩
theorem tld_nil {H : Hp} {l : Addr} (hl : H l = some (.lst [])) : Tld K H (.ref l) (.list []) :=
  ⟨by decide +kernel, fun H' s => dq_of (.lst (SqL.of (lst_ext hl s)) .nil) (by simp only [Shw, ShwAll]) (by decide +kernel) (by decide +kernel)⟩
theorem tld_t0 {H : Hp} {l : Addr} (hl : H l = some (.tup [.int 0])) : Tld K H (.ref l) (.tuple [.int 0]) :=
  ⟨by decide +kernel, fun H' s => dq_of (.tup (SqT.of (s _ _ hl (fun _ z => by cases z))) (.cons (.int _) .nil)) (by simp only [Shw, ShwAll]; decide +kernel) (by decide +kernel) (by decide +kernel)⟩
theorem tld_tnil {H : Hp} {l : Addr} (hl : H l = some (.tup [])) : Tld K H (.ref l) (.tuple []) :=
  ⟨by decide +kernel, fun H' s => dq_of (.tup (SqT.of (s _ _ hl (fun _ z => by cases z))) .nil) (by simp only [Shw, ShwAll]) (by decide +kernel) (by decide +kernel)⟩
theorem tld_d {H : Hp} {l : Addr} (hl : H l = some (.dK [])) : Tld K H (.ref l) (.dict []) := ⟨by decide +kernel, fun H' s => .emp (s _ _ hl (fun _ z => by cases z))⟩
theorem kNoneI : PySem.W.kitOne K (.type "NoneType") (.type "int") = some false := kit_ty (by decide +kernel)
theorem kStrI : PySem.W.kitOne K (.type "str") (.type "int") = some false := kit_ty (by decide +kernel)
theorem kLstI : PySem.W.kitOne K (.type "list") (.type "int") = some false := kit_ty (by decide +kernel)
theorem kTupI : PySem.W.kitOne K (.type "tuple") (.type "int") = some false := kit_ty (by decide +kernel)
theorem kDicI : PySem.W.kitOne K (.type "dict") (.type "int") = some false := kit_ty (by decide +kernel)
theorem kNoneS : PySem.W.kitOne K (.type "NoneType") (.type "str") = some false := kit_ty (by decide +kernel)
theorem kIntS : PySem.W.kitOne K (.type "int") (.type "str") = some false := kit_ty (by decide +kernel)
theorem kBoolS : PySem.W.kitOne K (.type "bool") (.type "str") = some false := kit_ty (by decide +kernel)
theorem kLstS : PySem.W.kitOne K (.type "list") (.type "str") = some false := kit_ty (by decide +kernel)
theorem kTupS : PySem.W.kitOne K (.type "tuple") (.type "str") = some false := kit_ty (by decide +kernel)
theorem kDicS : PySem.W.kitOne K (.type "dict") (.type "str") = some false := kit_ty (by decide +kernel)
theorem ty_lst {H H' : Hp} {l : Addr} {xs : List V} (h : H l = some (.lst xs)) (s : LamX.ExtN H H') : TyX K H' (.ref l) (.type "list") := .base (.lst (lst_ext h s))
theorem ty_tup {H H' : Hp} {l : Addr} {xs : List V} (h : H l = some (.tup xs)) (s : LamX.ExtN H H') : TyX K H' (.ref l) (.type "tuple") := .base (.tup (s _ _ h (fun _ z => by cases z)))
theorem ty_dK {H H' : Hp} {l : Addr} (h : H l = some (.dK [])) (s : LamX.ExtN H H') : TyX K H' (.ref l) (.type "dict") := .base (.dK (s _ _ h (fun _ z => by cases z)))
/-- a refusal as a tuple, and the one that is due -/
def rfs (x s : Str) : PyData := .tuple [.str x, .str s, .bool true]
theorem rfs_lay {x s : Str} (hx : PyData.strOk x = true) (hs : PyData.strOk s = true) : PyData.canLay0 (rfs x s) = true := by
  simp [rfs, PyData.canLay0, PyData.canLayAll0, hx, hs]
theorem rfs_shp {x s : Str} (hx : PyData.strOk x = true) (hs : PyData.strOk s = true) : SeqAt.shaped (rfs x s) = true := by
  unfold SeqAt.shaped
  rw [rfs_lay hx hs]
  simp [rfs, PyData.depth, PyData.depthAll]
theorem rfs_dp {H : Hp} {t : Addr} {x s : Str} (h : H t = some (.tup [.str x, .str s, .bl true])) : Dp K H (.ref t) (rfs x s) := .tup (SqT.of h) (.cons (.str _) (.cons (.str _) (.cons (.bl _) .nil)))
end
def Fre (H : Hp) (a : Addr) : Prop := ∀ o, H a = some o → ∃ ps, o = HO.tbl ps
/-- beside what was there, but p, an own a is changed -/
theorem bn_own {p a : Addr} {H H1 H2 : Hp} (b : ButN p H H1) (f : Fre H a) (c : But a H1 H2) : ButN p H H2 := fun x o e n t => c x o (b x o e n t) fun z => by
  obtain ⟨ps, q⟩ := f o (z ▸ e)
  exact t ps q
theorem code_ref {K : PySem.W.Frag} {f : Addr} {fd : FuncData} {x qual : Str} {params : Arguments} {body : List Stmt} {scope : Scope} {dvs : List V} {kws : List (Str × V)} (F : FunD K x qual params body scope dvs kws f fd) : (fdAt K f).map FuncData.code = some (.ref (cOf K f)) := by
  obtain ⟨oc, od, dV, kV, doc, pm, an, cdv, ct, osl, rfl, lk, hcd, _, _⟩ := F.ex
  obtain ⟨c, rfl⟩ := He.codeIn_ref hcd
  have e : (fdAt K f).map FuncData.code = some (.ref c) := by
    unfold fdAt
    rw [lk]
    rfl
  rw [cOf_of e]
  exact e
theorem look_v (v : V) : ([(("value" : Str), v)] : List (Str × V)).lookup ("value" : Str) = some v := by
  rw [show ([(("value" : Str), v)] : List (Str × V)) = putF "value" v [] from rfl, lookup_putF, if_pos rfl]
theorem sq_ext {K : PySem.W.Frag} {H H' : Hp} {a : Addr} {xs : List V} (h : SqL K H a xs) (e : LamX.ExtN H H') : SqL K H' a xs := by
  rcases h with (h | ⟨o, h⟩) | h
  · exact .inl (.inl (e _ _ h (fun _ z => by cases z)))
  · exact .inl (.inr ⟨o, e _ _ h (fun _ z => by cases z)⟩)
  · exact .inr h
/-! ### slices -/
theorem cutV_to (xs : List V) (n : Nat) : cutV xs none (some (n : Int)) = xs.take n := by
  unfold cutV
  rw [HT.sIx_none, HT.sIx_nat, List.drop_zero, Nat.sub_zero, List.take_eq_take_iff]
  omega
theorem cutV_from (xs : List V) (n : Nat) : cutV xs (some (n : Int)) none = xs.drop n := by
  unfold cutV
  rw [HT.sIx_none, HT.sIx_nat]
  by_cases h : n ≤ xs.length
  · rw [Nat.min_eq_left h, List.take_of_length_le (by rw [List.length_drop]; omega)]
  · rw [Nat.min_eq_right (by omega), List.drop_of_length_le (Nat.le_refl _), List.drop_of_length_le (by omega)]
    simp
theorem cutV_one (xs : List V) (n : Nat) : cutV xs (some (n : Int)) (some ((n : Int) + 1)) = (xs.drop n).take 1 := by
  unfold cutV
  rw [show ((n : Int) + 1) = ((n + 1 : Nat) : Int) by omega, HT.sIx_nat, HT.sIx_nat]
  by_cases h : n < xs.length
  · rw [Nat.min_eq_left (by omega), Nat.min_eq_left (by omega), Nat.add_sub_cancel_left]
  · rw [show min n xs.length = xs.length by omega, List.drop_of_length_le (Nat.le_refl _), List.drop_of_length_le (by omega)]
    simp
theorem cutV_last (xs : List V) : cutV xs none (some (-1)) = xs.dropLast := by
  unfold cutV
  have e : HT.sIx xs.length xs.length (some (-1)) = xs.length - 1 := by
    show (if (-1 : Int) < 0 then ((-1 : Int) + (xs.length : Int)).toNat else min (-1 : Int).toNat xs.length) = _
    rw [if_pos (by decide)]
    omega
  rw [HT.sIx_none, e, List.drop_zero, Nat.sub_zero, List.dropLast_eq_take]
theorem cutS_to (z : Str) (n : Nat) : cutS z none (some (n : Int)) = ⟨(z.cps.toList.take n).toArray⟩ := by
  have h : z.cps.toList.length = z.length := rfl
  unfold cutS
  rw [HT.sIx_none, HT.sIx_nat, List.drop_zero, Nat.sub_zero]
  congr 2
  rw [List.take_eq_take_iff]
  omega
theorem cutS_from (z : Str) (n : Nat) : cutS z (some (n : Int)) none = ⟨(z.cps.toList.drop n).toArray⟩ := by
  have e : z.cps.toList.length = z.length := rfl
  unfold cutS
  rw [HT.sIx_none, HT.sIx_nat]
  by_cases h : n ≤ z.length
  · rw [Nat.min_eq_left h, List.take_of_length_le (by rw [List.length_drop]; omega)]
  · rw [Nat.min_eq_right (by omega), List.drop_of_length_le (by omega), List.drop_of_length_le (by omega)]
    simp
/-! ### a text times a number; texts told by repr -/
def rMulS : R2 := fun x y H Q => ∃ z k, x = .str z ∧ y = .int k ∧ MulOk z k ∧ Q (.str (Txt.mul z k)) H
theorem op_mulS {X : Cx} : OpR X (binaryOp .Mult) rMulS := by
  intro pins s σ H x y v u Q I rx ry h
  obtain ⟨i, j, rfl, rfl, hz, q⟩ := h
  obtain ⟨t, rfl⟩ := rx
  obtain ⟨t', rfl⟩ := ry
  exact PySem.SB.mul hz (fun t' tk => ⟨.str (Txt.mul i j), H, I.tok _, ⟨_, rfl⟩, q⟩)
theorem repr_char (q c : Nat) (hq : q < 1114112) (h : c < 1114112) : ∀ d ∈ Builtin.Str.reprChar q c, d < 1114112 := by
  have hx : ∀ w d, d ∈ List.replicate (w - ((Nat.toDigits 16 c).map Char.toNat).length) 48 ++ (Nat.toDigits 16 c).map Char.toNat → d < 1114112 := fun w d hd => by
    rcases List.mem_append.mp hd with hd | hd
    · rw [List.eq_of_mem_replicate hd]
      decide
    · obtain ⟨k, _, rfl⟩ := List.mem_map.mp hd
      rcases k.valid with h | ⟨_, h⟩
      · exact Nat.lt_trans h (by decide)
      · exact h
  intro d hd
  unfold Builtin.Str.reprChar at hd
  dsimp only at hd
  repeat' split at hd
  all_goals first
    | (rcases List.mem_append.mp hd with z | z
       · rcases List.mem_cons.mp z with rfl | z
         · decide
         · rw [List.mem_singleton.mp z]; decide
       · exact hx _ _ z)
    | (rcases List.mem_cons.mp hd with rfl | z
       · decide
       · rw [List.mem_singleton.mp z]; first | decide | exact h)
    | (rw [List.mem_singleton.mp hd]; exact h)
theorem fold_repr (q : Nat) (hq : q < 1114112) : ∀ (l : List Nat) (acc : Array Nat), (∀ c ∈ l, c < 1114112) → (∀ c ∈ acc.toList, c < 1114112) → ∀ c ∈ (l.foldl (fun out c => out ++ (Builtin.Str.reprChar q c).toArray) acc).toList, c < 1114112
  | [], _, _, h => h
  | d :: r, acc, hl, h => by
    refine fold_repr q hq r _ (fun c hc => hl c (List.mem_cons_of_mem _ hc)) fun c hc => ?_
    rw [Array.toList_append] at hc
    rcases List.mem_append.mp hc with z | z
    · exact h c z
    · exact repr_char q d hq (hl d (List.mem_cons_self ..)) c z
theorem okt_repr {z : Str} (h : PyData.strOk z = true) : PyData.strOk (PyData.shown (.str z)) = true := by
  simp only [PyData.shown]
  rw [okt_iff] at h ⊢
  have hq : reprQuote z < 1114112 := by
    unfold reprQuote
    split <;> decide
  intro c hc
  unfold reprText at hc
  rw [Array.toList_push, ← Array.foldl_toList] at hc
  rcases List.mem_append.mp hc with w | w
  · refine fold_repr _ hq _ _ h (fun c hc => ?_) c w
    rw [List.mem_singleton.mp hc]
    exact hq
  · rw [List.mem_singleton.mp w]
    exact hq
theorem tld_str {K : PySem.W.Frag} {H : Hp} {z : Str} (h : PyData.strOk z = true) (l : z.length ≤ 9000) : Tld K H (.str z) (.str z) := by
  refine ⟨okt_repr h, fun _ _ => dq_of (.str _) (by simp only [Shw]; exact asc_okt h) ?_ ?_⟩
  · simp only [PyData.depth]
    decide
  · simp only [cost]
    exact small (by omega)
theorem kDicS' {K : PySem.W.Frag} : PySem.W.kitOne K (.type "dict") (.type "str") = some false := kit_ty (by decide +kernel)
end LL

set_option Elab.async false
set_option linter.all false
set_option maxRecDepth 100000
set_option maxHeartbeats 2000000
/-! LLZip: enumerate of a list or a tuple; zip of three lists or tuples. -/
namespace LL
open PySem PySem.Spec PyProof.Rows L2
/-! ### a list or a tuple -/
/-- a list (k) or a tuple -/
def sqK (k : Bool) (K : PySem.W.Frag) (H : Hp) (a : Addr) (xs : List V) : Prop := match k with | true => SqL K H a xs | false => SqT K H a xs
def itK (k : Bool) (h : Heap) (it a : Addr) (i : Nat) : Prop := match k with | true => h.IsListIter it a i | false => h.IsTupleIter it a i
def hpK (k : Bool) (h : Heap) (a : Addr) (items : Array Value) : Prop := match k with | true => h.IsList a items | false => h.IsTuple a items
def obK (k : Bool) (a : Addr) : Obj := match k with | true => { cls := .type "list_iterator", data := .fields #[.ref a, .int 0 0] } | false => { cls := .type "tuple_iterator", data := .fields #[.ref a, .int 0 0] }
theorem itK.at {k : Bool} {h h' : Heap} {it a : Addr} {i : Nat} (x : itK k h it a i) (e : ∀ o, h.get? it = some o → h'.get? it = some o) : itK k h' it a i := by
  cases k with
  | true => exact Heap.IsListIter.at x e
  | false => exact Heap.IsTupleIter.at x e
theorem itK.ob {k : Bool} {h : Heap} {it a : Addr} {i : Nat} (x : itK k h it a i) : ∃ o, h.get? it = some o ∧ ∀ v, o.data ≠ .cell v := by
  cases k with
  | true => obtain ⟨o, e, _, d⟩ := x; exact ⟨o, e, fun v q => by rw [d] at q; cases q⟩
  | false => obtain ⟨o, e, _, d⟩ := x; exact ⟨o, e, fun v q => by rw [d] at q; cases q⟩
theorem itK.new {k : Bool} {h : Heap} {it a : Addr} (e : h.get? it = some (obK k a)) : itK k h it a 0 := by
  cases k with
  | true => exact ⟨_, e, rfl, rfl⟩
  | false => exact ⟨_, e, rfl, rfl⟩
theorem begK (k : Bool) (a : Addr) (items : Array Value) : Begins (.ref a) (obK k a) fun h => hpK k h a items := by
  cases k with
  | true => exact begins_list a items
  | false => exact begins_tuple a items
theorem drwK {prog : Program} {w : World} {A : Around} (hh : A.handled = none) (k : Bool) (it a : Addr) (hne : a ≠ it) (items : Array Value) :
    Draws prog w A it [it, a] items.size (fun i v => items[i]? = some v) (fun i h => itK k h it a i ∧ hpK k h a items) := by
  cases k with
  | true => exact Draws.list hh it a hne items
  | false => exact Draws.tuple hh it a hne items
section
variable {X : Cx} {pins : List (Addr × Obj)} {σ : L2.St} {H : Hp} {s : Shared}
theorem inv_K {k : Bool} {a : Addr} {xs : List V} (I : Inv X pins σ H s) (h : sqK k X.K H a xs) : ∃ its : List Value, Vals xs its ∧ hpK k s.heap a its.toArray ∧ ∃ o, s.heap.get? a = some o := by
  cases k with
  | true =>
    obtain ⟨its, r, p, _⟩ := I.list h
    obtain ⟨o, e, _⟩ := id p.isList
    exact ⟨its, r, p.isList, o, e⟩
  | false =>
    obtain ⟨its, r, p, _⟩ := I.tuple h
    obtain ⟨o, e, _⟩ := id p
    exact ⟨its, r, p, o, e⟩
theorem inj_K {k : Bool} {a : Addr} {xs ys : List V} (I : Inv X pins σ H s) (h : sqK k X.K H a xs) (h' : sqK k X.K H a ys) : xs = ys := by
  cases k with
  | true => exact I.list_inj h h'
  | false => exact I.tuple_inj h h'
end
/-! ### enumerate -/
/-- enumerate(v) makes two new objects -/
theorem enum_new {v : Value} {o : Obj} {G : Heap → Prop} (B : Begins v o G) :
    Meets (Builtin.«enumerate.__new__» ⟨[.type "enumerate", v], []⟩) (fun _ R s => G s.heap ∧ R (.ok (.ret (.ref (s.heap.push o).objs.size)))
      { s with heap := (s.heap.push o).push { cls := .type "enumerate", data := .fields #[.none, .bool false, .ref s.heap.objs.size, rawInt 0, .none, .none] } }) :=
  .of_wp fun prog w A R s h => by
    obtain ⟨hp, g, d, tk, os⟩ := s
    have sub := sub_enumerate
    have it : ∀ {A' : Around} {E : Value → Shared → Prop} {Q : Value → Shared → Prop}, Q (.ref hp.objs.size) ⟨hp.push o, g, d, tk, os⟩ → wpAny (model prog w) A' (pyIter v) Q E ⟨hp, g, d, tk, os⟩ := fun q => B.iter _ _ _ _ _ _ h.1 q
    wp_walk using it
    refine wpAny_stack_any fun st => wpAny_pure ?_
    split <;> try (rename_i c _ _ _ _ _; cases (c == Value.type "enumerate"))
    all_goals
      wp_walk using it
      exact ⟨_, rfl, h.2⟩
/-- the things at a as they stand at each turn, each in a new pair behind its number -/
def IteK (K : PySem.W.Frag) (k : Bool) (a : Addr) : It where
  go := fun i H => ∃ (xs : List V) (x : V), sqK k K H a xs ∧ xs[i]? = some x
  yld := fun i H v H' => ∃ T x, v = .ref T ∧ H T = none ∧ H' = upd H T (.tup [.int (i : Nat), x]) ∧ ∀ xs, sqK k K H a xs → xs[i]? = some x
  stop := fun i H => ∃ xs : List V, sqK k K H a xs ∧ xs.length = i
theorem two_mem {x a b : Addr} (h : x ∈ [a, b]) : x = a ∨ x = b := (List.mem_cons.mp h).imp id List.mem_singleton.mp
theorem turn_enumK {P : Program} {w : World} {K : PySem.W.Frag} {elts : List Expr} {kk : Nat} {tpos : Pos} {k : Bool} (a e it : Addr) (n1 : a ≠ it) (n2 : e ≠ a) (n3 : e ≠ it) :
    Turn P w K (.Tuple elts kk tpos) (IteK K k a) [e, it] e (fun i h => (∃ v, IsEnum h e it (i : Nat) v) ∧ itK k h it a i) where
  mem := List.mem_cons_self ..
  obj := fun i h st b hb => (two_mem hb).elim (fun z => z ▸ let ⟨_, he⟩ := st.1; ⟨_, he, fun _ q => nomatch q⟩) fun z => z ▸ st.2.ob
  keep := fun i h h' st hk => ⟨st.1.imp fun v he => hk e (List.mem_cons_self ..) _ he, st.2.at fun o q => hk it (List.mem_cons_of_mem _ (List.mem_cons_self ..)) o q⟩
  item := by
    rintro X rfl rfl rfl calm i pins s σ H E I own ⟨⟨v0, he⟩, hit⟩ ⟨xs, x, hq, hx⟩
    obtain ⟨its, rv, p, _⟩ := inv_K I hq
    obtain ⟨u, hu, ru⟩ := rv.get hx
    have bound : ∀ b ∈ [e, it], b < s.heap.objs.size := fun b hb => (two_mem hb).elim (fun z => z ▸ Heap.lt_size he) fun z => z ▸ let ⟨_, q, _⟩ := hit.ob; Heap.lt_size q
    have eu : its.toArray[i]? = some u := by simpa using hu
    refine wpAny_pyNext_enum_itemD (drwK (A := X.A.in1) (show X.A.in1.handled = none from I.ok.hd calm) k it a n1 its.toArray) he ⟨hit, p⟩ (Array.getElem?_eq_some_iff.mp eu).1 n3 (fun q => (two_mem q).elim n3 n2) fun y h1 tk py ho st' hT _ far => ?_
    cases Option.some.inj ((show its.toArray[i]? = some y from py).symm.trans eu)
    refine ⟨_, rfl, wpAny_letOwnedTupleGo_enum (s := { s with heap := h1, toks := tk + 1 }) ho fun h2 he2 sb => ?_⟩
    have off {b : Addr} (hb : b ∉ [e, it]) : b ≠ e ∧ b ≠ it := ⟨fun z => hb (z ▸ List.mem_cons_self ..), fun z => hb (z ▸ List.mem_cons_of_mem _ (List.mem_cons_self ..))⟩
    have pair : h2.get? s.heap.objs.size = some { cls := .type "tuple", data := .seq #[.int i tk, u] } := (sb.2 _ (Nat.ne_of_gt (Heap.lt_size he))).trans hT
    have I1 : Inv X pins σ (upd H s.heap.objs.size (.tup [.int (i : Nat), x])) { s with heap := h2, toks := tk + 1 } :=
      I.turnedNew (ch := [e, it]) (fun b o hb q => (sb.2 b (off hb).1).trans (far b o (off hb).1 (off hb).2 q)) own (Nat.le_refl _) ⟨by show 2 ≤ sizeLine; decide, [.int i tk, u], .cons ⟨_, rfl⟩ (.cons ru .nil), ⟨_, pair, rfl, _, rfl⟩⟩
    refine ⟨.ref s.heap.objs.size, _, I1, rfl, ⟨_, x, rfl, I.hok.fresh (Nat.le_refl _), rfl, fun ys hy => inj_K I hy hq ▸ hx⟩, ⟨⟨u, ?_⟩, st'.1.at fun o q => (sb.2 it n3.symm).trans q⟩, fun b hb => ?_⟩
    · rw [show ((i + 1 : Nat) : Int) = (i : Int) + 1 by omega]
      exact he2
    · rw [upd_ne (Nat.ne_of_lt (bound b hb))]
      exact (own b hb).1
  done := by
    rintro X rfl rfl rfl calm i pins s σ H E I own ⟨⟨v0, he⟩, hit⟩ ⟨xs, hq, rfl⟩
    obtain ⟨its, rv, p, _⟩ := inv_K I hq
    have len : xs.length = its.toArray.size := by rw [List.size_toArray]; exact rv.length
    rw [len] at hit
    obtain ⟨f0, f1, _, f3, f4, f5⟩ := own it (List.mem_cons_of_mem _ (List.mem_cons_self ..))
    exact wpAny_pyNext_enum_endD (drwK (A := X.A.in1) (show X.A.in1.handled = none from I.ok.hd calm) k it a n1 its.toArray) he ⟨hit, p⟩ fun h1 far => ⟨rfl, I.turned (t' := s.toks) (fun b o hb q => far b o hb q) f0 f1 f3 f4 f5⟩
  self := fun A i s Q E st h => let ⟨_, he⟩ := st.1; wpAny_pyIter_enum he h
def iEnumA (K : PySem.W.Frag) (ta : TA) : TI := fun σ H R => ta σ H fun vs H1 => ∃ k a xs, vs = [.ref a] ∧ sqK k K H1 a xs ∧ R (IteK K k a) H1
theorem pi_enumA {X : Cx} {e : Expr} {ta : TA} {p pos tpos : Pos} {elts : List Expr} {kk : Nat} (hg : Gl X "enumerate") (hm : X.mg "enumerate" = none) (ha : PA X [e] ta) (hs : starEach [e] X.env = [(false, eval e X.env)] := by rfl) :
    PI X (.Tuple elts kk tpos) (.Call (.Name "enumerate" p) [e] [] pos) (iEnumA X.K ta) := by
  refine ⟨fun pins s σ H R I h => Call_ (ld_blt I hg hm boot_enumerate (PyProof.Rows.callWith_type1 (thn (ha.run pos pins s σ H _ I h) fun us s1 ⟨vs, H1, I1, r1, k, a, xs, ex, hq, q⟩ => ?_) hs rfl))⟩
  subst ex
  obtain ⟨u, rfl, ru⟩ := vals1 r1
  cases ru
  obtain ⟨its, rv, p1, o1, ho1⟩ := inv_K I1 hq
  have la := Heap.lt_size ho1
  refine callType_new F.called_enumerate (by decide) (F.typeCall_enumerate_1 _) (F.newCall_enumerate_1 _) (fun obj => F.args_object_init_2 obj _) F.entry_enumerate_new (enum_new (begK k a its.toArray)) ⟨p1, ?_⟩
  have sz : (s1.heap.push (obK k a)).objs.size = s1.heap.objs.size + 1 := Heap.size_push ..
  have he := Heap.get?_push_size (s1.heap.push (obK k a)) (o := { cls := .type "enumerate", data := .fields #[.none, .bool false, .ref s1.heap.objs.size, rawInt 0, .none, .none] }) rfl
  rw [sz] at he
  have hi : ((s1.heap.push (obK k a)).push { cls := .type "enumerate", data := .fields #[.none, .bool false, .ref s1.heap.objs.size, rawInt 0, .none, .none] }).get? s1.heap.objs.size = some (obK k a) := Heap.get?_push_of_some _ (Heap.get?_push_size _ (begK k a its.toArray).free)
  show _ ∧ _
  rw [sz]
  refine ⟨⟨_, he, rfl⟩, wpAny_pyIter_enum he ?_⟩
  refine ⟨s1.heap.objs.size + 1, [s1.heap.objs.size + 1, s1.heap.objs.size], _, _, H1, rfl, I1.kept (t' := s1.toks) (fun b o x => Heap.get?_push_of_some _ (Heap.get?_push_of_some _ x)), turn_enumK a _ _ (Nat.ne_of_lt la) (Nat.ne_of_gt (Nat.lt_succ_of_lt la)) (Nat.succ_ne_self _), ⟨⟨.none, he⟩, .new hi⟩, fun b hb => ?_, q⟩
  have hle : s1.heap.objs.size ≤ b := (two_mem hb).elim (fun z => z ▸ Nat.le_succ _) fun z => z ▸ Nat.le_refl _
  exact I1.fpOk hle (I1.hok.fresh hle)
theorem walk_enumK {K : PySem.W.Frag} {k : Bool} {a : Addr} {xs : List V} : Walk (IteK K k a) xs.length (fun H => sqK k K H a xs) (YPair (fun i => some (.int (i : Nat))) (fun i => xs[i]?)) where
  goes := fun i H hi h => ⟨xs, xs[i], h, List.getElem?_eq_getElem hi⟩
  stops := fun H h => ⟨xs, h, rfl⟩
  yields := fun i H x H' hi h y => let ⟨T, v, e1, e2, e3, e4⟩ := y; ⟨T, _, v, e1, e2, e3, rfl, e4 xs h⟩
/-! ### zip of three -/
/-- the three as they stand at each turn, the items in new triples -/
def Itz3 (K : PySem.W.Frag) (k1 k2 k3 : Bool) (a b c : Addr) : It :=
  ⟨fun i H => ∃ (xs ys zs : List V) (x y z : V), sqK k1 K H a xs ∧ sqK k2 K H b ys ∧ sqK k3 K H c zs ∧ xs[i]? = some x ∧ ys[i]? = some y ∧ zs[i]? = some z,
    fun i H v H' => ∃ T x y z, v = .ref T ∧ H T = none ∧ H' = upd H T (.tup [x, y, z]) ∧ (∀ xs, sqK k1 K H a xs → xs[i]? = some x) ∧ (∀ ys, sqK k2 K H b ys → ys[i]? = some y) ∧ ∀ zs, sqK k3 K H c zs → zs[i]? = some z,
    fun i H => ∃ xs ys zs : List V, sqK k1 K H a xs ∧ sqK k2 K H b ys ∧ sqK k3 K H c zs ∧ i ≤ xs.length ∧ i ≤ ys.length ∧ i ≤ zs.length ∧ (i = xs.length ∨ i = ys.length ∨ i = zs.length)⟩
theorem turn_zip3 {P : Program} {w : World} {K : PySem.W.Frag} {elts : List Expr} {kk : Nat} {tpos : Pos} {k1 k2 k3 : Bool} {a b c z TI TO i1 i2 i3 : Addr} (S : ZipSep3 z TI TO i1 i2 i3 [i1, a] [i2, b] [i3, c]) (n1 : a ≠ i1) (n2 : b ≠ i2) (n3 : c ≠ i3) :
    Turn P w K (.Tuple elts kk tpos) (Itz3 K k1 k2 k3 a b c) [z, TI, TO, i1, i2, i3] z (fun i h => IsZip h z TI TO .none ∧ IsTupOf3 h TI (.ref i1) (.ref i2) (.ref i3) ∧ (∃ x y u, IsTupOf3 h TO x y u) ∧ itK k1 h i1 a i ∧ itK k2 h i2 b i ∧ itK k3 h i3 c i) where
  mem := by simp
  obj := fun i h st d hd => by
    obtain ⟨hz, hTI, ⟨x, y, u, hTO⟩, h1, h2, h3⟩ := st
    have e' : d = z ∨ d = TI ∨ d = TO ∨ d = i1 ∨ d = i2 ∨ d = i3 := by simpa using hd
    rcases e' with q | q | q | q | q | q
    · rw [q]; exact ⟨_, hz, fun v q => nomatch q⟩
    · rw [q]; exact ⟨_, hTI, fun v q => nomatch q⟩
    · rw [q]; exact ⟨_, hTO, fun v q => nomatch q⟩
    · rw [q]; exact h1.ob
    · rw [q]; exact h2.ob
    · rw [q]; exact h3.ob
  keep := fun i h h' st k => by
    obtain ⟨hz, hTI, ⟨x, y, u, hTO⟩, h1, h2, h3⟩ := st
    exact ⟨k z (by simp) _ hz, k TI (by simp) _ hTI, ⟨x, y, u, k TO (by simp) _ hTO⟩, h1.at fun o q => k i1 (by simp) o q, h2.at fun o q => k i2 (by simp) o q, h3.at fun o q => k i3 (by simp) o q⟩
  item := by
    intro X hP hw hK hc i pins s σ H E I hf st hg
    subst hP hw hK
    obtain ⟨hz, hTI, ⟨x0, y0, u0, hTO⟩, h1, h2, h3⟩ := st
    obtain ⟨xs, ys, zs, x, y, u, hqx, hqy, hqz, hx, hy, hu⟩ := hg
    obtain ⟨its, rv, p, _⟩ := inv_K I hqx
    obtain ⟨its2, rv2, p2, _⟩ := inv_K I hqy
    obtain ⟨its3, rv3, p3, _⟩ := inv_K I hqz
    obtain ⟨w1, hw1, rw1⟩ := rv.get hx
    obtain ⟨w2, hw2, rw2⟩ := rv2.get hy
    obtain ⟨w3, hw3, rw3⟩ := rv3.get hu
    have hzl : z < s.heap.objs.size := Heap.lt_size hz
    have hA : X.A.in1.handled = none := I.ok.hd hc
    have lt {l : List Value} {v : Value} (q : l[i]? = some v) : i < l.toArray.size := by
      have := (List.getElem?_eq_some_iff.mp q).1
      simpa using this
    have same {l : List Value} {v v' : Value} (q : l[i]? = some v) (q' : l.toArray[i]? = some v') : v' = v := by
      have : l[i]? = some v' := by simpa using q'
      rw [q] at this
      exact (Option.some.inj this).symm
    refine wpAny_pyNext_zipD3_item S (drwK hA k1 i1 a n1 its.toArray) (drwK hA k2 i2 b n2 its2.toArray) (drwK hA k3 i3 c n3 its3.toArray) hz hTI hTO ⟨h1, p⟩ ⟨h2, p2⟩ ⟨h3, p3⟩ (lt hw1) (lt hw2) (lt hw3) fun v1 v2 v3 h' tk y1 y2 y3 z' TO' d1 d2 d3 hT hsz hk => ?_
    have e1 := same hw1 y1
    have e2 := same hw2 y2
    have e3 := same hw3 y3
    subst e1 e2 e3
    refine ⟨_, rfl, wpAny_letOwnedTupleGo_zip (s := { s with heap := h', toks := tk }) z' fun h'' z'' sb => ?_⟩
    have hT2 : h''.get? s.heap.objs.size = some { cls := .type "tuple", data := .seq #[v1, v2, v3] } := (sb.2 _ (Nat.ne_of_gt hzl)).trans hT
    have new : ObjOk X.prog X.w (upd H s.heap.objs.size (.tup [x, y, u])) h'' s.heap.objs.size (.tup [x, y, u]) :=
      ⟨by show 3 ≤ sizeLine; decide, [v1, v2, v3], .cons rw1 (.cons rw2 (.cons rw3 .nil)), ⟨_, hT2, rfl, _, rfl⟩⟩
    have I1 : Inv X pins σ (upd H s.heap.objs.size (.tup [x, y, u])) { s with heap := h'', toks := tk } :=
      I.turnedNew (ch := [z, TI, TO, i1, i2, i3]) (fun d o hb q => (sb.2 d (fun q' => hb (by simp [q']))).trans (hk d o (fun q' => hb (by simp [q'])) (fun q' => hb (by simp [q'])) (fun q' => hb (by simp [q'])) (fun q' => hb (by simp [q'])) (fun q' => hb (by simp [q'])) q)) hf (Nat.le_refl _) new
    refine ⟨.ref s.heap.objs.size, _, I1, rfl, ⟨_, x, y, u, rfl, I.hok.fresh (Nat.le_refl _), rfl, fun l hl => by rw [inj_K I hl hqx]; exact hx, fun l hl => by rw [inj_K I hl hqy]; exact hy, fun l hl => by rw [inj_K I hl hqz]; exact hu⟩, ⟨z'', ?_, ⟨v1, v2, v3, ?_⟩, ?_, ?_, ?_⟩, fun d hdm => ?_⟩
    · exact (sb.2 _ S.TIz).trans (hk _ _ S.TIz S.TITO S.TIi1 S.TIi2 S.TIi3 hTI)
    · exact (sb.2 _ S.TOz).trans TO'
    · exact d1.1.at fun o q => (sb.2 _ S.zi1.symm).trans q
    · exact d2.1.at fun o q => (sb.2 _ S.zi2.symm).trans q
    · exact d3.1.at fun o q => (sb.2 _ S.zi3.symm).trans q
    · have hlt : d < s.heap.objs.size := by
        have e' : d = z ∨ d = TI ∨ d = TO ∨ d = i1 ∨ d = i2 ∨ d = i3 := by simpa using hdm
        rcases e' with q | q | q | q | q | q
        · rw [q]; exact hzl
        · rw [q]; exact Heap.lt_size hTI
        · rw [q]; exact Heap.lt_size hTO
        · rw [q]; obtain ⟨_, e1, _⟩ := h1.ob; exact Heap.lt_size e1
        · rw [q]; obtain ⟨_, e2, _⟩ := h2.ob; exact Heap.lt_size e2
        · rw [q]; obtain ⟨_, e2, _⟩ := h3.ob; exact Heap.lt_size e2
      rw [upd_ne (Nat.ne_of_lt hlt)]
      exact (hf d hdm).1
  done := by
    intro X hP hw hK hc i pins s σ H E I hf st hg
    subst hP hw hK
    obtain ⟨hz, hTI, ⟨x0, y0, u0, hTO⟩, h1, h2, h3⟩ := st
    obtain ⟨xs, ys, zs, hqx, hqy, hqz, g1, g2, g3, g4⟩ := hg
    obtain ⟨its, rv, p, _⟩ := inv_K I hqx
    obtain ⟨its2, rv2, p2, _⟩ := inv_K I hqy
    obtain ⟨its3, rv3, p3, _⟩ := inv_K I hqz
    have l1 := rv.length
    have l2 := rv2.length
    have l3 := rv3.length
    have hA : X.A.in1.handled = none := I.ok.hd hc
    have z1 : its.toArray.size = its.length := List.size_toArray
    have z2 : its2.toArray.size = its2.length := List.size_toArray
    have z3 : its3.toArray.size = its3.length := List.size_toArray
    exact wpAny_pyNext_zipD3_end S (drwK hA k1 i1 a n1 its.toArray) (drwK hA k2 i2 b n2 its2.toArray) (drwK hA k3 i3 c n3 its3.toArray) hz hTI hTO ⟨h1, p⟩ ⟨h2, p2⟩ ⟨h3, p3⟩ (by omega) (by omega) (by omega) (by omega) fun h' tk hk => ⟨rfl, I.turnedL (ch := [z, TI, TO, i1, i2, i3]) (fun d o hb q =>
      hk d o (fun q' => hb (by simp [q'])) (fun q' => hb (by simp [q'])) (fun q' => hb (by simp [q'])) (fun q' => hb (by simp [q'])) (fun q' => hb (by simp [q'])) q) hf⟩
  self := fun A i s Q E st h => wpAny_pyIter_zip st.1 h
theorem no2 {x y z : Nat} (h1 : x ≠ y) (h2 : x ≠ z) : x ∉ [y, z] := fun q => (List.mem_cons.mp q).elim h1 fun q => h2 (List.mem_singleton.mp q)
theorem sep3 (N a b c : Nat) (la : a < N) (lb : b < N) (lc : c < N) : ZipSep3 (N + 5) (N + 3) (N + 4) N (N + 1) (N + 2) [N, a] [N + 1, b] [N + 2, c] where
  TIz := fun (q : N + 3 = N + 5) => by omega
  TOz := fun (q : N + 4 = N + 5) => by omega
  TITO := fun (q : N + 3 = N + 4) => by omega
  TIi1 := fun (q : N + 3 = N) => by omega
  mem1 := List.mem_cons_self ..
  zf1 := no2 (by omega) (by omega)
  Tf1 := no2 (by omega) (by omega)
  TIi2 := fun (q : N + 3 = N + 1) => by omega
  mem2 := List.mem_cons_self ..
  zf2 := no2 (by omega) (by omega)
  Tf2 := no2 (by omega) (by omega)
  TIi3 := fun (q : N + 3 = N + 2) => by omega
  mem3 := List.mem_cons_self ..
  zf3 := no2 (by omega) (by omega)
  Tf3 := no2 (by omega) (by omega)
  sep1_2 := no2 (by omega) (by omega)
  sep1_3 := no2 (by omega) (by omega)
  sep2_1 := no2 (by omega) (by omega)
  sep2_3 := no2 (by omega) (by omega)
  sep3_1 := no2 (by omega) (by omega)
  sep3_2 := no2 (by omega) (by omega)
def iZip3 (K : PySem.W.Frag) (ta : TA) : TI := fun σ H R => ta σ H fun vs H1 => ∃ k1 k2 k3 a b c xs ys zs, vs = [.ref a, .ref b, .ref c] ∧ sqK k1 K H1 a xs ∧ sqK k2 K H1 b ys ∧ sqK k3 K H1 c zs ∧ R (Itz3 K k1 k2 k3 a b c) H1
theorem pi_zip3 {X : Cx} {e e2 e3 : Expr} {ta : TA} {p pos tpos : Pos} {elts : List Expr} {kk : Nat} (hg : Gl X "zip") (hm : X.mg "zip" = none) (ha : PA X [e, e2, e3] ta)
    (hs : starEach [e, e2, e3] X.env = (false, eval e X.env) :: starEach [e2, e3] X.env := by rfl) (hpl : (backTo pos (starEach [e2, e3] X.env)).any (·.1) = false := by rfl) :
    PI X (.Tuple elts kk tpos) (.Call (.Name "zip" p) [e, e2, e3] [] pos) (iZip3 X.K ta) := by
  refine ⟨fun pins s σ H R I h => ?_⟩
  refine Call_ (ld_blt I hg hm PyProof.Rows.boot_zip (PyProof.Rows.callWith_type1 (thn (ha.run pos pins s σ H _ I h) fun us s1 ⟨vs, H1, I1, r1, q1⟩ => ?_) hs hpl))
  obtain ⟨k1, k2, k3, a, b, c, xs, ys, zs, ex, hqx, hqy, hqz, q⟩ := q1
  subst ex
  cases r1 with
  | cons r rr =>
    cases rr with
    | cons r' rr =>
      cases rr with
      | cons r'' rr =>
        cases rr
        cases r
        cases r'
        cases r''
        obtain ⟨its, rv, p1, o1, ho1⟩ := inv_K I1 hqx
        obtain ⟨its2, rv2, p2, o2, ho2⟩ := inv_K I1 hqy
        obtain ⟨its3, rv3, p3, o3, ho3⟩ := inv_K I1 hqz
        have la : a < s1.heap.objs.size := Heap.lt_size ho1
        have lb : b < s1.heap.objs.size := Heap.lt_size ho2
        have lc : c < s1.heap.objs.size := Heap.lt_size ho3
        refine zip_begins3 (begK k1 a its.toArray) (begK k2 b its2.toArray) (begK k3 c its3.toArray) p1 p2 p3 fun h' hz hTI hTO h1 h2 h3 hsz hk => wpAny_pyIter_zip hz ?_
        have I2 : Inv X pins σ H1 { s1 with heap := h' } := I1.kept (t' := s1.toks) hk
        have sep : ZipSep3 (s1.heap.objs.size + 5) (s1.heap.objs.size + 3) (s1.heap.objs.size + 4) s1.heap.objs.size (s1.heap.objs.size + 1) (s1.heap.objs.size + 2) [s1.heap.objs.size, a] [s1.heap.objs.size + 1, b] [s1.heap.objs.size + 2, c] := sep3 _ a b c la lb lc
        refine ⟨s1.heap.objs.size + 5, [s1.heap.objs.size + 5, s1.heap.objs.size + 3, s1.heap.objs.size + 4, s1.heap.objs.size, s1.heap.objs.size + 1, s1.heap.objs.size + 2], _, _, H1, rfl, I2, turn_zip3 sep (Nat.ne_of_lt la) (Nat.ne_of_lt (Nat.lt_succ_of_lt lb)) (Nat.ne_of_lt (Nat.lt_succ_of_lt (Nat.lt_succ_of_lt lc))), ⟨hz, hTI, ⟨_, _, _, hTO⟩, .new h1, .new h2, .new h3⟩, fun d hd => ?_, q⟩
        have hle : s1.heap.objs.size ≤ d := by
          simp only [List.mem_cons, List.not_mem_nil, or_false] at hd
          rcases hd with z | z | z | z | z | z
          · rw [z]; exact Nat.le_add_right _ _
          · rw [z]; exact Nat.le_add_right _ _
          · rw [z]; exact Nat.le_add_right _ _
          · rw [z]; exact Nat.le_refl _
          · rw [z]; exact Nat.le_add_right _ _
          · rw [z]; exact Nat.le_add_right _ _
        exact I1.fpOk hle (I1.hok.fresh hle)
theorem walk_zip3 {K : PySem.W.Frag} {k1 k2 k3 : Bool} {a b c : Addr} {xs ys zs : List V} (h1 : xs.length = ys.length) (h2 : xs.length = zs.length) : Walk (Itz3 K k1 k2 k3 a b c) xs.length (fun H => sqK k1 K H a xs ∧ sqK k2 K H b ys ∧ sqK k3 K H c zs)
    (fun i H v H' => ∃ T x y z, v = .ref T ∧ H T = none ∧ H' = upd H T (.tup [x, y, z]) ∧ xs[i]? = some x ∧ ys[i]? = some y ∧ zs[i]? = some z) where
  goes := fun i H hi h => ⟨xs, ys, zs, xs[i], ys[i], zs[i], h.1, h.2.1, h.2.2, List.getElem?_eq_getElem hi, List.getElem?_eq_getElem (by omega), List.getElem?_eq_getElem (by omega)⟩
  stops := fun H h => ⟨xs, ys, zs, h.1, h.2.1, h.2.2, Nat.le_refl _, by omega, by omega, .inl rfl⟩
  yields := fun i H x H' hi h y => by
    obtain ⟨T, x, y, z, e1, e2, e3, e4, e5, e6⟩ := y
    exact ⟨T, x, y, z, e1, e2, e3, e4 xs h.1, e5 ys h.2.1, e6 zs h.2.2⟩
end LL

set_option Elab.async false
set_option linter.all false
set_option maxRecDepth 100000
set_option maxHeartbeats 3200000
/-! LLSet: set(a list of ints). -/
namespace LL
open PySem PySem.Spec PyProof.Rows L2
/-- a set as it is born -/
abbrev born (w : World) : Obj := { cls := .type "set", dict := none, data := .set #[] 0 (.fresh 0 0 (!w.params.followText "set-order")) }
abbrev walker (l : Addr) : Obj := { cls := .type "list_iterator", data := .fields #[.ref l, .int 0 0] }
section
variable {P : Program} {w : World} {A : Around} {E : Value → Shared → Prop} {s : Shared}
/-- what is left when the set is filled -/
def Filled (w : World) (s : Shared) (ns : List Int) (s2 : Shared) : Prop := ∃ (h' : Heap) (tk c : Nat), s2 = { s with heap := h', toks := tk } ∧ SetR w h' s.heap.objs.size (fun j => decide (j ∈ ns)) c ∧ c ≤ ns.length ∧ ∀ b o, s.heap.get? b = some o → h'.get? b = some o
theorem set_of_ints {l : Addr} {items : Array Value} (ns : List Int) {Q : Value → Shared → Prop} (hh : A.handled = none) (hl : s.heap.IsList l items) (hit : IntsAre items.toList ns) (hb : ns.length + 1 < scanBound)
    (h : ∀ s2, Filled w s ns s2 → Q (.ref s.heap.objs.size) s2) : wpAny (model P w) A (call (.type "set") [.ref l]) Q E s := by
  have many : items.size = ns.length := by have q := IntsAre.length hit; rwa [Array.length_toList] at q
  obtain ⟨⟨_, dc, _, sl⟩, at0, cl, nn, dt⟩ := hl
  cases cl
  cases dt
  have below : l < s.heap.objs.size := Heap.lt_size at0
  have me : (s.heap.push (born w)).get? s.heap.objs.size = some (born w) := Heap.get?_push_size _ rfl
  have at1 : (s.heap.push (born w)).get? l = some { cls := .type "list", dict := dc, data := .seq items nn, slots := sl } := Heap.get?_push_of_some _ at0
  have lst : (s.heap.push (born w)).IsList l items := ⟨_, at1, rfl, nn, rfl⟩
  -- the class is called
  obtain ⟨_, _, g1⟩ := F.called_set.mro
  have g2 := F.called_set.made
  have g3 := F.called_set.sub
  have g4 := F.called_set.notType
  have g5 := F.called_set.canCreate
  have g6 := F.typeCall_set_1 (.ref l)
  refine wpAny_call (codeAny_of_tree (show wpAny _ _ (callAny (.type "set") _) _ _ _ from wpAny_pure ⟨Code.quiet_builtin _ (by decide +kernel), codeAny_builtin F.entry_type_call ?_⟩))
  rw [Around.under_plain (weight_type_call_type "set" [.ref l] []) rfl]
  repeat (any_goals (first | assumption | wp_step))
  -- it is born
  refine codeAny_mono (code_set_led1 (.ref l) (E := E) (Q₁ := fun v s1 => v = .ref s.heap.objs.size ∧ s1 = { s with heap := s.heap.push (born w) }) ⟨rfl, rfl⟩) fun r s1 e1 => ?_
  rcases r with _ | fl
  · exact e1
  rcases fl with _ | _ | _ | v
  any_goals exact e1.elim
  all_goals
    obtain ⟨rfl, rfl⟩ := e1
    have ty : Shared.TypeIs { s with heap := s.heap.push (born w) } (.ref s.heap.objs.size) "set" := ⟨_, me, rfl⟩
    have k1 := F.called_set.init.lookup
    have k2 := F.called_set.init.bind (.ref s.heap.objs.size)
    repeat (any_goals (first | assumption | wp_step))
    -- it is filled
    refine codeAny_mono (codeAny_call_builtin (R := wants (fun v s2 => v = .none ∧ Filled w s ns s2) E) F.called_set.init.plain F.entry_set_init (check_set_init_1 ty ?_)) fun r s2 e2 => ?_
    · have u1 := F.sub_list_set
      have u2 := F.sub_list_frozenset
      have u3 : (Value.type "list" == Value.type "dict") = false := by decide
      unfold Builtin.«set.__init__» noKeywords Builtin.Frozenset.updateFrom
      generalize keep : pyIter = pi
      wp_walk
      subst keep
      refine wpAny_pyIter_list lst (wpAny_bind (wpAny_runValue ?_))
      have size1 : (s.heap.push (born w)).objs.size = s.heap.objs.size + 1 := Heap.size_push ..
      have out : s.heap.objs.size ∉ [(s.heap.push (born w)).objs.size, l] := fun q => by
        rw [size1] at q
        rcases List.mem_cons.mp q with q | q
        · exact absurd q (Nat.ne_of_lt (Nat.lt_succ_self _))
        · exact absurd (List.mem_singleton.mp q) (Nat.ne_of_gt below)
      have val : ∀ (i : Nat) (v : Value), items[i]? = some v → ∃ k t, ns[i]? = some k ∧ v = .int k t := fun i v hv => by
        have hi : i < ns.length := many ▸ (Array.getElem?_eq_some_iff.mp hv).1
        obtain ⟨t, e⟩ := IntsAre.int_at hit i v (by rw [Array.getElem?_toList]; exact hv)
        exact ⟨ns[i], t, List.getElem?_eq_getElem hi, by rw [e, List.getD_eq_getElem?_getD, List.getElem?_eq_getElem hi]; rfl⟩
      refine set_update_ints ((Walks.list (by simp [hh]) _ l (by rw [size1]; exact Nat.ne_of_lt (Nat.lt_succ_of_lt below)) items).toS) s.heap.objs.size out ns many hb val items.size 0 _ rfl (Nat.zero_le _)
        ⟨⟨_, Heap.get?_push_size _ rfl, rfl, rfl⟩, lst.push _⟩ ⟨0, Nat.le_refl 0, setR_new_at (Heap.get?_push_of_some (walker l) me)⟩ ?_
      rintro ⟨h2, g', d', tk, os'⟩ c mv hc R
      cases (show g' = s.gens from mv.gens)
      cases (show d' = s.drawn from mv.drawn)
      cases (show os' = s.os from mv.os)
      refine wpAny_pure (wpAny_pure ⟨rfl, h2, tk, c, rfl, R, many ▸ hc, fun b o e => ?_⟩)
      have lt := Heap.lt_size e
      refine mv.heap b o (fun q => ?_) (Heap.get?_push_of_some _ (Heap.get?_push_of_some _ e))
      rcases List.mem_cons.mp q with q | q
      · exact Nat.ne_of_lt lt q
      · have q := List.mem_singleton.mp q
        rw [size1] at q
        exact Nat.ne_of_lt (Nat.lt_succ_of_lt lt) q
    · rcases r with _ | fl
      · exact e2
      rcases fl with _ | _ | _ | v
      any_goals exact e2.elim
      all_goals
        obtain ⟨rfl, e2⟩ := e2
        have done := h _ e2
        obtain ⟨h2, tk, c, rfl, _⟩ := e2
        repeat (any_goals (first | assumption | wp_step))
end
section
variable {X : Cx}
/-- set(a list of ints) -/
def rSetL (K : PySem.W.Frag) (w : World) : List V → Hp → VK → Prop := fun vs H Q => ∃ (p : Addr) (ns : List Int), vs = [.ref p] ∧ SqL K H p (ns.map V.int) ∧ ns.length ≤ 1000 ∧ ∀ a c, (∀ D : List Int, (∀ x ∈ ns, x ∈ D) → c ≤ D.length) → H a = none → Q (.ref a) (upd H a (SetO w a (fun j => decide (j ∈ ns)) c))
theorem cr_setL (hc : X.calm = true) : CallR X (.type "set") (rSetL X.K X.w) := by
  intro pins s σ H xs us Q I r h
  obtain ⟨p, ns, rfl, hq, hl, q⟩ := h
  obtain ⟨u, rfl, rx⟩ := vals1 r
  cases rx
  obtain ⟨its, rv, pt, hz⟩ := I.list hq
  refine set_of_ints ns (I.ok.hd hc) pt.isList (by simpa using ints_of_vals rv) (by unfold scanBound; omega) fun s2 z => ?_
  obtain ⟨h2, tk, c, rfl, R, hc2, hk⟩ := z
  refine ⟨.ref _, _, I.laid (t' := tk) hk (Nat.le_refl _) (setO_new R), rfl, q _ c (fun D hD => ?_) (I.hok.fresh (Nat.le_refl _))⟩
  obtain ⟨o, es, ep, t, _, _, _, _, nd, mem, _, _, sz, _⟩ := R
  rw [← sz, ← Array.length_toList, ← List.length_map (f := keyOf)]
  exact nd.length_le_of_subset fun x hx => hD x (of_decide_eq_true ((mem x).mpr hx))
end
end LL

set_option Elab.async false
set_option linter.all false
set_option maxRecDepth 100000
set_option maxHeartbeats 2000000
/-! LLSeq: lists or tuples; small rules. -/
namespace LL
open PySem PySem.Spec PyProof.Rows L2
theorem un1 {n : Nat} (h : n + 64 < cLine) : n + 1 < cLine := by omega
section
variable {X : Cx} {tg l : Expr} {tl : TE}
/-- for x in s, s a list or a tuple -/
def iSeqA (K : PySem.W.Frag) (tl : TE) : TI := fun σ H R => iList K tl σ H R ∨ iTup K tl σ H R
theorem pi_seqA (hl : PE X l tl) : PI X tg l (iSeqA X.K tl) := ⟨fun pins s σ H R I h => h.elim ((pi_list hl).run pins s σ H R I) ((pi_tup hl).run pins s σ H R I)⟩
theorem ix_seqK {K : PySem.W.Frag} (h : X.K = K) : IxR X (rIx K) := h ▸ ix_seq
end
/-- s stands at a -/
def Sq (K : PySem.W.Frag) (H : Hp) (a : Addr) (xs : List V) : Prop := SqL K H a xs ∨ SqT K H a xs
theorem Sq.k {K : PySem.W.Frag} {H : Hp} {a : Addr} {xs : List V} (h : Sq K H a xs) : ∃ k, sqK k K H a xs := h.elim (fun h => ⟨true, h⟩) fun h => ⟨false, h⟩
theorem sqL_same {K : PySem.W.Frag} {H H' : Hp} {a : Addr} {xs : List V} (h : SqL K H a xs) (s : Same H H') : SqL K H' a xs := sq_ext h (.of s)
theorem sqT_same {K : PySem.W.Frag} {H H' : Hp} {a : Addr} {xs : List V} (h : SqT K H a xs) (s : Same H H') : SqT K H' a xs := by
  rcases h with (h | ⟨o, h⟩) | h
  · exact .inl (.inl (s _ _ h))
  · exact .inl (.inr ⟨o, s _ _ h⟩)
  · exact .inr h
theorem Sq.same {K : PySem.W.Frag} {H H' : Hp} {a : Addr} {xs : List V} (h : Sq K H a xs) (s : Same H H') : Sq K H' a xs := h.imp (sqL_same · s) (sqT_same · s)
end LL

set_option Elab.async false
set_option linter.all false
set_option maxRecDepth 100000
set_option maxHeartbeats 2000000
/-! LLMix: sorted of a tuple, rules by the name of the written part, errors by their field, lists or tuples that are tracked. -/
namespace LL
open PySem PySem.Spec PyProof.Rows L2
section
variable {prog : Program} {w : World} {A : Around} {E : Value → Shared → Prop} {s : Shared}
/-- what is drawn of a list or a tuple -/
theorem collect_q {l : Addr} {vs : List Value} {T : String} {o : Obj} {n : Nat} {Q : List Value → Shared → Prop} (hT : T = "list" ∨ T = "tuple") (ho : s.heap.get? l = some o) (hc : o.cls = .type T) (hd : o.data = .seq vs.toArray n) (hsz : vs.length ≤ sizeLine)
    (h : Q vs { s with heap := (s.heap.push (seqObj "list" #[] 0)).update s.heap.objs.size (Obj.mapSeq (· ++ vs.toArray)) }) : wpAny (model prog w) A (collect (.ref l)) Q E s := by
  have ho' : (s.heap.push (seqObj "list" #[] 0)).get? l = some o := Heap.get?_push_of_some _ ho
  have ht : (Builtin.List.listSameRef (.ref s.heap.objs.size) (.ref l) || Value.type T == Value.type "list" || Value.type T == Value.type "tuple") = true := by
    rcases hT with rfl | rfl <;> simp
  unfold collect; refine wpAny_bind (wpAny_runValue (codeAny_builtin entry_proto_collect' ?_))
  show wpAny _ _ (do again (.builtin "list.__iadd__" ⟨[← newList [], .ref l], []⟩)) _ _ s; refine wpAny_bind (wpAny_newList (wpAny_pure ⟨Code.quiet_builtin _ (by decide +kernel), codeAny_builtin entry_list_iadd' ?_⟩))
  show wpAny _ _ (Builtin.List.listExtendWith (.ref s.heap.objs.size) (.ref l) (.ref s.heap.objs.size)) _ _ { s with heap := s.heap.push (seqObj "list" #[] 0) }; unfold Builtin.List.listExtendWith
  refine wpAny_bind (wpAny_typeOf (T := T) ⟨o, ho', hc⟩ ?_); rw [if_pos ht]
  refine wpAny_bind (listItems_at ho' hd (wpAny_bind (listItems_at (xs := #[]) (n := 0) (Heap.get?_push_size _ rfl) rfl ?_))); rw [if_neg (by simp)]
  refine wpAny_bind (listUpdate_at (xs := #[]) (n := 0) (Heap.get?_push_size _ rfl) rfl (wpAny_pure ?_) (Nat.zero_le _) (by show (#[] ++ vs.toArray).size ≤ sizeLine + 1; simp only [Array.size_append, List.size_toArray, List.length_nil]; omega))
  refine wpAny_bind (m := load s.heap.objs.size) (wpAny_load (get?_update_seq (Heap.get?_push_size _ rfl) _) ?_)
  show wpAny _ _ (pure ((#[] : Array Value) ++ vs.toArray).toList) Q E _; rw [show ((#[] : Array Value) ++ vs.toArray).toList = vs by simp]; exact wpAny_pure h
theorem sorted_q {l : Addr} {vs : List Value} {ns : List Int} {T : String} {o : Obj} {n : Nat} {Q : Value → Shared → Prop} (hT : T = "list" ∨ T = "tuple") (ho : s.heap.get? l = some o) (hc : o.cls = .type T) (hd : o.data = .seq vs.toArray n) (hI : IntsAre vs ns) (h64 : vs.length < 64)
    (h : ∀ (out : Array Value) (ns' : List Int), IntsAre out.toList ns' → ns'.Perm ns → ns'.Pairwise (· ≤ ·) → Q (.ref (s.heap.objs.size + 1)) { s with heap := sortedAll s.heap vs out }) : wpAny (model prog w) A (call (.builtin "sorted") [.ref l]) Q E s := by
  have hsz : ((s.heap.push (seqObj "list" #[] 0)).update s.heap.objs.size (Obj.mapSeq (· ++ vs.toArray))).objs.size = s.heap.objs.size + 1 := (by rw [Heap.size_update, size_push'])
  have hoL : (((s.heap.push (seqObj "list" #[] 0)).update s.heap.objs.size (Obj.mapSeq (· ++ vs.toArray))).push (seqObj "list" vs.toArray 0)).get? (s.heap.objs.size + 1) = some (seqObj "list" vs.toArray 0) := (by rw [← hsz]; exact Heap.get?_push_size _ rfl)
  refine Calls.call_function_entry kind_sorted plain_sorted entry_sorted (args_sorted1 _) ?_; unfold Builtin.«sorted»
  refine wpAny_bind (m := checkCount "sorted" 1 1 _) (wpAny_pure (wpAny_bind (collect_q hT ho hc hd (by rw [sizeLine_eq]; omega) (wpAny_bind (wpAny_newList ?_)))))
  show wpAny _ _ _ _ _ { s with heap := ((s.heap.push (seqObj "list" #[] 0)).update s.heap.objs.size (Obj.mapSeq (· ++ vs.toArray))).push (seqObj "list" vs.toArray 0) }; rw [hsz]
  exact wpAny_bind (wpAny_holding (wpAny_call_entry slot_list_sort ⟨_, hoL, rfl⟩ entry_list_sort (list_sort_tree hoL hI h64 fun out ns' a1 a2 a3 => ⟨_, rfl, wpAny_pure ⟨_, rfl, h out ns' a1 a2 a3⟩⟩) (args_list_sort _)))
end
/-- a list or a tuple that is tracked -/
def Lt (H : Hp) (a : Addr) (vs : List V) : Prop := H a = some (.lst vs) ∨ H a = some (.tup vs)
theorem Lt.sq {K : PySem.W.Frag} {H : Hp} {a : Addr} {vs : List V} (h : Lt H a vs) : SqL K H a vs ∨ SqT K H a vs := h.imp SqL.of SqT.of
theorem Lt.same {H H' : Hp} {a : Addr} {vs : List V} (h : Lt H a vs) (s : Same H H') : Lt H' a vs := h.imp (s _ _) (s _ _)
theorem Lt.uniq {H : Hp} {a : Addr} {vs us : List V} (h : Lt H a vs) (g : Lt H a us) : vs = us := by
  rcases h with h | h <;> rcases g with g | g <;> rw [h] at g <;> cases g <;> rfl
theorem Lt.k {K : PySem.W.Frag} {H : Hp} {a : Addr} {vs : List V} (h : Lt H a vs) : ∃ k, sqK k K H a vs := h.elim (fun h => ⟨true, SqL.of h⟩) fun h => ⟨false, SqT.of h⟩
theorem sqK_same {k : Bool} {K : PySem.W.Frag} {H H' : Hp} {a : Addr} {xs : List V} (h : sqK k K H a xs) (s : Same H H') : sqK k K H' a xs := by
  cases k with
  | true => exact sqL_same h s
  | false => exact sqT_same h s
section
variable {X : Cx}
def rSortQ : List V → Hp → VK → Prop := fun vs H Q => ∃ (a : Addr) (ns : List Int), vs = [V.ref a] ∧ Lt H a (ns.map V.int) ∧ ns.length < 64 ∧ ∀ (ns' : List Int) (p : Addr), ns'.Perm ns → ns'.Pairwise (· ≤ ·) → H p = none → Q (.ref p) (upd H p (.lst (ns'.map V.int)))
theorem cr_sortedQ : CallR X (.builtin "sorted") rSortQ := by
  intro pins s σ H vs us Q I r h
  obtain ⟨a, ns, rfl, hs, h64, q⟩ := h
  rcases hs with hs | hs
  · exact cr_sorted pins s σ H _ us Q I r ⟨a, ns, rfl, SqL.of hs, h64, q⟩
  · obtain ⟨its, rv, hl, _⟩ := I.tuple (SqT.of (K := X.K) hs)
    obtain ⟨o, h1, h2, n, h3⟩ := hl
    rw [Vals.ref1 r]
    have hi := rv.ints
    refine sorted_q (.inr rfl) h1 h2 h3 hi (by rw [hi.length]; exact h64) fun out ns' a1 a2 a3 => ?_
    obtain ⟨ep, he'⟩ := PyProof.Rows.sortedAll_at s.heap its out
    exact ⟨.ref _, upd H (s.heap.objs.size + 1) (.lst (ns'.map V.int)), I.laid (t' := s.toks) (fun _ _ => PyProof.Rows.sortedAll_old) (Nat.le_succ _) ⟨by rw [List.length_map, a2.length_eq]; exact small64 h64, out.toList, ep, vals_of_ints a1, he'⟩, rfl, q ns' _ a2 a3 (I.hok.fresh (Nat.le_succ _))⟩
theorem op_in_seqK {K : PySem.W.Frag} (h : X.K = K) : OpR X (compareOp .In) (rIn K false) := h ▸ op_in_seq
theorem op_notIn_seqK {K : PySem.W.Frag} (h : X.K = K) : OpR X (compareOp .NotIn) (rIn K true) := h ▸ op_notIn_seq
end
/-- an error with the field f -/
def ErF (C : Addr) (f : Str) (H : Hp) (v : V) (E : XK) : Prop := ∀ H' d, Same H H' → H d = none → H' d = some (.xd [(f, v)]) → E (.ref C) (some d) H'
theorem ErF.now {C : Addr} {f : Str} {H : Hp} {v : V} {E : XK} (h : ErF C f H v E) : ∀ d, H d = none → E (.ref C) (some d) (upd H d (.xd [(f, v)])) := fun d hd => h _ d (same_upd hd) hd upd_same
theorem ErF.same {C : Addr} {f : Str} {H H1 : Hp} {v : V} {E : XK} (h : ErF C f H v E) (s : Same H H1) : ErF C f H1 v E := fun H' d s2 hd e => h H' d (s.trans s2) (s.free hd) e
/-- texts in a list of texts -/
theorem inV_str (c : Str) (l : List Str) : inV (.str c) (l.map V.str) = decide (c ∈ l) := by
  induction l with
  | nil => rfl
  | cons d l ih =>
    unfold inV at ih ⊢
    rw [List.map_cons, List.any_cons, ih]
    have e : eqV (.str d) (.str c) = decide (d = c) := by
      show (d == c) = _
      rw [Bool.eq_iff_iff, beq_iff_eq, decide_eq_true_iff]
    rw [e]
    by_cases h : d = c
    · simp [h]
    · have h' : c ≠ d := fun z => h z.symm
      simp [h, h']
theorem inV_int (c : Int) (l : List Int) : inV (.int c) (l.map V.int) = decide (c ∈ l) := by
  induction l with
  | nil => rfl
  | cons d l ih =>
    unfold inV at ih ⊢
    rw [List.map_cons, List.any_cons, ih]
    have e : eqV (.int d) (.int c) = decide (d = c) := by
      show (d == c) = _
      rw [Bool.eq_iff_iff, beq_iff_eq, decide_eq_true_iff]
    rw [e]
    by_cases h : d = c
    · simp [h]
    · have h' : c ≠ d := fun z => h z.symm
      simp [h, h']
theorem flatS (l : List Str) : (l.map V.str).all flatV = true := by
  rw [List.all_map]
  exact List.all_eq_true.mpr fun _ _ => rfl
theorem flatI (l : List Int) : (l.map V.int).all flatV = true := by
  rw [List.all_map]
  exact List.all_eq_true.mpr fun _ _ => rfl
/-- a list or a tuple at an index -/
theorem ix_lt {K : PySem.W.Frag} {H : Hp} {a : Addr} {vs : List V} {i : Int} {v : V} {Q : VK} (h : Lt H a vs) (e : atI vs i = some v) (q : Q v H) : rIx K (.ref a) (.int i) H Q :=
  h.elim (fun h => .inl ⟨a, vs, i, v, rfl, rfl, SqL.of h, e, q⟩) fun h => .inr (.inl ⟨a, vs, i, v, rfl, rfl, SqT.of h, e, q⟩)
/-! ### comprehensions by what they have made so far -/
section
variable {J : It} {n : Nat} {G : Hp → Prop} {Y : Nat → Hp → V → Hp → Prop} {g : TG} {tt : TT} {te : TE} {vs : List Nat} {σ : L2.St} {H1 : Hp} {D : Addr} {Qd : Hp → Prop}
theorem lc_inv (w : Walk J n G Y) (I : Nat → List V → Hp → Prop) (bl : ∀ i acc H xs, I i acc H → I i acc (upd H D (.lst xs))) (h0 : I 0 [] H1) (hl : ∀ i acc H, i < n → I i acc H → acc.length < sizeLine) (hG : ∀ i acc H, i ≤ n → I i acc H → G H)
    (hs : ∀ i x acc H H', i < n → I i acc H → H D = some (.lst acc) → Y i H x H' → ∀ (N : V → Hp → Prop) (S : Hp → Prop), (∀ v H4, H4 D = some (.lst acc) → I (i + 1) (acc ++ [v]) H4 → N v H4) → (∀ H4, H4 D = some (.lst acc) → I (i + 1) acc H4 → S H4) →
      g x (wipe σ vs) H' fun σ2 H2 => wipe σ2 vs = wipe σ vs ∧ tt σ2 H2 fun b H3 => if b = true then te σ2 H3 N else S H3) (hd : ∀ acc H, H D = some (.lst acc) → I n acc H → Qd H) :
    ∃ W : Nat → Nat → Hp → Prop, (∃ m, W 0 m (upd H1 D (.lst []))) ∧ ∀ i m H, W i m H →
      (J.stop i H ∧ Qd H) ∨ (J.go i H ∧ ∃ Nx : Hp → Prop, (∀ H', Nx H' → ∃ m', m' < m ∧ W (i + 1) m' H') ∧ ∀ x H', J.yld i H x H' → g x (wipe σ vs) H' fun σ2 H2 => wipe σ2 vs = wipe σ vs ∧ tt σ2 H2 fun b H3 =>
        if b = true then te σ2 H3 fun y H4 => ∃ acc, H4 D = some (.lst acc) ∧ acc.length < sizeLine ∧ Nx (upd H4 D (.lst (acc ++ [y]))) else Nx H3) := by
  refine lc_it w (fun i H => ∃ acc, H D = some (.lst acc) ∧ I i acc H) ⟨[], upd_same, bl _ _ _ _ h0⟩ (fun i H hi ⟨acc, _, h⟩ => hG i acc H hi h) ?_ (fun H ⟨acc, e, h⟩ => hd acc H e h)
  rintro i x H H' hi ⟨acc, e, h⟩ y
  exact hs i x acc H H' hi h e y _ _ (fun v H4 e4 h4 => ⟨acc, e4, hl i acc H hi h, _, upd_same, bl _ _ _ _ h4⟩) fun H4 e4 h4 => ⟨acc, e4, h4⟩
/-- all stays beside the new list -/
theorem lc_acc (w : Walk J n G Y) (nD : H1 D = none) (out : Nat → List V) (o0 : out 0 = []) (ol : ∀ i, i < n → (out i).length ≤ 99999) (hG : ∀ H, Same H1 H → G H)
    (hs : ∀ i x H H', i < n → Same H1 H → Y i H x H' → ∀ (N : V → Hp → Prop) (S : Hp → Prop), (∀ v H4, Same H H4 → out (i + 1) = out i ++ [v] → N v H4) → (∀ H4, Same H H4 → out (i + 1) = out i → S H4) →
      g x (wipe σ vs) H' fun σ2 H2 => wipe σ2 vs = wipe σ vs ∧ tt σ2 H2 fun b H3 => if b = true then te σ2 H3 N else S H3) (hd : ∀ H, Same H1 H → H D = some (.lst (out n)) → Qd H) :
    ∃ W : Nat → Nat → Hp → Prop, (∃ m, W 0 m (upd H1 D (.lst []))) ∧ ∀ i m H, W i m H →
      (J.stop i H ∧ Qd H) ∨ (J.go i H ∧ ∃ Nx : Hp → Prop, (∀ H', Nx H' → ∃ m', m' < m ∧ W (i + 1) m' H') ∧ ∀ x H', J.yld i H x H' → g x (wipe σ vs) H' fun σ2 H2 => wipe σ2 vs = wipe σ vs ∧ tt σ2 H2 fun b H3 =>
        if b = true then te σ2 H3 fun y H4 => ∃ acc, H4 D = some (.lst acc) ∧ acc.length < sizeLine ∧ Nx (upd H4 D (.lst (acc ++ [y]))) else Nx H3) := by
  refine lc_inv w (fun i acc H => Same H1 H ∧ acc = out i) (fun i acc H xs h => ⟨fun b o e => ?_, h.2⟩) ⟨fun _ _ e => e, o0.symm⟩ (fun i acc H hi h => ?_) (fun i acc H _ h => hG H h.1) ?_ (fun acc H e h => hd H h.1 (h.2 ▸ e))
  · rw [upd_ne (ne_of_none e nD)]
    exact h.1 b o e
  · rw [h.2]
    exact Nat.lt_of_lt_of_le (Nat.lt_succ_of_le (ol i hi)) (small (by decide))
  · rintro i x acc H H' hi ⟨s, rfl⟩ e y N S hN hS
    exact hs i x H H' hi s y N S (fun v H4 s4 eo => hN v H4 (s4 _ _ e) ⟨s.trans s4, eo.symm⟩) fun H4 s4 eo => hS H4 (s4 _ _ e) ⟨s.trans s4, eo.symm⟩
end
theorem take_map {α : Type} {β : Type} {xs : List α} {i : Nat} {x : α} (f : α → β) (h : xs[i]? = some x) : (xs.take (i + 1)).map f = (xs.take i).map f ++ [f x] := by
  rw [List.take_add_one, h, Option.toList_some, List.map_append]
  rfl
theorem take_fil {α : Type} {xs : List α} {i : Nat} {x : α} (p : α → Bool) (h : xs[i]? = some x) : (xs.take (i + 1)).filter p = (xs.take i).filter p ++ (if p x then [x] else []) := by
  rw [List.take_add_one, h, Option.toList_some, List.filter_append]
  cases e : p x <;> simp [e]
theorem rep_succ (n : Nat) : (List.replicate (n + 1) true).map V.bl = (List.replicate n true).map V.bl ++ [V.bl true] := by
  rw [List.replicate_succ', List.map_append]
  rfl
theorem rep_all (n : Nat) : (List.replicate n true).all id = true := by simp
theorem Same.rfl' {H : Hp} : Same H H := fun _ _ e => e
/-- a new object beside what was there -/
theorem mkO {H : Hp} {a : Addr} (n : H a = none) (o : HO) : ∃ G : Hp, upd H a o = G ∧ Same H G ∧ G a = some o := ⟨_, rfl, same_upd n, upd_same⟩
/-- an own object is changed beside what was there -/
theorem own_same {H0 H : Hp} {D : Addr} {o : HO} (s : Same H0 H) (n : H0 D = none) : Same H0 (upd H D o) := fun b x e => by
  rw [upd_ne (ne_of_none e n)]
  exact s b x e
/-- t + u, in whatever way -/
theorem cat_of {K : PySem.W.Frag} {H : Hp} {a b : Addr} {xs ys : List V} {Q : VK} (ha : H a = some (.tup xs)) (hb : H b = some (.tup ys)) (hz : xs.length + ys.length ≤ 100000) (q : ∀ p H', Same H H' → H' p = some (.tup (xs ++ ys)) → Q (.ref p) H') : rCatA K (.ref a) (.ref b) H Q := by
  refine ⟨a, b, xs, ys, rfl, rfl, SqT.of ha, SqT.of hb, small hz, fun e => ?_, fun _ e => ?_, fun _ _ p hp => q p _ (same_upd hp) upd_same⟩
  · subst e
    exact q b H Same.rfl' hb
  · subst e
    exact q a H Same.rfl' (by rw [List.append_nil]; exact ha)
theorem fil_pos {α : Type} {l : List α} {x : α} {p : α → Bool} (h : p x = true) : (l ++ [x]).filter p = l.filter p ++ [x] := by rw [List.filter_append, List.filter_cons_of_pos h, List.filter_nil]
theorem fil_neg {α : Type} {l : List α} {x : α} {p : α → Bool} (h : p x = false) : (l ++ [x]).filter p = l.filter p := by rw [List.filter_append, List.filter_cons_of_neg (by rw [h]; exact Bool.false_ne_true), List.filter_nil, List.append_nil]
theorem own_but {H0 H : Hp} {p D : Addr} {o : HO} (b : But p H0 H) (n : H0 D = none) : But p H0 (upd H D o) := fun c x e ne => by
  rw [upd_ne (ne_of_none e n)]
  exact b c x e ne
theorem but_same {p : Addr} {H H1 H2 : Hp} (b : But p H H1) (s : Same H1 H2) : But p H H2 := fun c x e ne => s _ _ (b c x e ne)
/-! ### texts of one sign, joined -/
abbrev tls (x : Str) : List Nat := TL.tl x
def mkS (l : List Nat) : Str := ⟨l.toArray⟩
theorem tls_mk (l : List Nat) : tls (mkS l) = l := rfl
theorem len_mk (l : List Nat) : (mkS l).length = l.length := TL.len_tl (mkS l)
theorem mk_app (a b : List Nat) : mkS a ++ mkS b = mkS (a ++ b) := TL.ext_tl (by show tls _ = tls _; rw [show tls (mkS a ++ mkS b) = tls (mkS a) ++ tls (mkS b) from TL.tl_append _ _, tls_mk, tls_mk, tls_mk])
abbrev sgV (r : List Nat) : List V := r.map fun c => V.str ⟨#[c]⟩
theorem join_sg (r : List Nat) : Txt.join "" (r.map fun c => (⟨#[c]⟩ : Str)) = mkS r := by
  rw [TL.join_eq]
  induction r with
  | nil => rfl
  | cons x r ih =>
    cases r with
    | nil => rfl
    | cons y r =>
      show mkS [x] ++ mkS [] ++ Str.join "" ((y :: r).map fun c => (⟨#[c]⟩ : Str)) = _
      rw [ih, mk_app, mk_app]
      rfl
abbrev sgs (r : List Nat) : List Str := r.map fun c => (⟨#[c]⟩ : Str)
theorem sq_sg {K : PySem.W.Frag} {H : Hp} {D : Addr} {r : List Nat} (h : H D = some (.lst (sgV r))) : SqL K H D ((sgs r).map V.str) := SqL.of (by rw [h, List.map_map]; rfl)
theorem sz_sg {r : List Nat} (l : r.length ≤ 100000) : ((sgs r).map (·.length)).sum + (sgs r).length * (("" : Str)).length ≤ 16777216 := by
  have e : ∀ r : List Nat, ((sgs r).map (·.length)).sum = r.length := fun r => by
    induction r with
    | nil => rfl
    | cons c r ih =>
      show 1 + ((sgs r).map (·.length)).sum = _
      rw [ih, List.length_cons]
      omega
  rw [e, show (("" : Str)).length = 0 from rfl]
  omega
end LL

set_option Elab.async false
set_option linter.all false
set_option maxRecDepth 100000
set_option maxHeartbeats 2000000
/-! LLEq: data of None, ints, texts, lists and tuples: == is equality. -/
namespace LL
open PySem PySem.Spec PyProof.Rows L2
/-- such data, at most n deep -/
def Pn : Nat → PyData → Prop
  | _, .none => True
  | _, .int _ => True
  | _, .str x => PyData.strOk x = true
  | n + 1, .list xs => ∀ d ∈ xs, Pn n d
  | n + 1, .tuple xs => ∀ d ∈ xs, Pn n d
  | _, _ => False
theorem lay_all : ∀ {xs : List PyData}, (∀ d ∈ xs, d.canLay0 = true) → PyData.canLayAll0 xs = true
  | [], _ => by simp only [PyData.canLayAll0]
  | x :: xs, h => by
    simp only [PyData.canLayAll0]
    rw [h x (List.mem_cons_self ..), lay_all fun d hd => h d (List.mem_cons_of_mem _ hd)]
    rfl
theorem depth_all {n : Nat} : ∀ {xs : List PyData}, (∀ d ∈ xs, d.depth ≤ n) → PyData.depthAll xs ≤ n
  | [], _ => by simp only [PyData.depthAll]; exact Nat.zero_le _
  | x :: xs, h => by
    simp only [PyData.depthAll]
    exact Nat.max_le.mpr ⟨h x (List.mem_cons_self ..), depth_all fun d hd => h d (List.mem_cons_of_mem _ hd)⟩
theorem Pn.lay : ∀ {n : Nat} {d : PyData}, Pn n d → d.canLay0 = true ∧ d.depth ≤ n
  | n, .none, _ => ⟨by simp only [PyData.canLay0], by simp only [PyData.depth]; exact Nat.zero_le _⟩
  | n, .int _, _ => ⟨by simp only [PyData.canLay0], by simp only [PyData.depth]; exact Nat.zero_le _⟩
  | n, .str x, h => ⟨by simp only [PyData.canLay0]; cases n <;> exact h, by simp only [PyData.depth]; exact Nat.zero_le _⟩
  | n + 1, .list xs, h => ⟨by simp only [PyData.canLay0]; exact lay_all fun d hd => (Pn.lay (h d hd)).1, by simp only [PyData.depth]; exact Nat.succ_le_succ (depth_all fun d hd => (Pn.lay (h d hd)).2)⟩
  | n + 1, .tuple xs, h => ⟨by simp only [PyData.canLay0]; exact lay_all fun d hd => (Pn.lay (h d hd)).1, by simp only [PyData.depth]; exact Nat.succ_le_succ (depth_all fun d hd => (Pn.lay (h d hd)).2)⟩
  | 0, .list _, h => h.elim
  | 0, .tuple _, h => h.elim
  | 0, .bool _, h => h.elim
  | n + 1, .bool _, h => h.elim
  | 0, .dict _, h => h.elim
  | n + 1, .dict _, h => h.elim
theorem Pn.shp {n : Nat} {d : PyData} (h : Pn n d) (hn : n ≤ 60) : SeqAt.shaped d = true := by
  obtain ⟨a, b⟩ := h.lay
  unfold SeqAt.shaped
  rw [a, Bool.true_and]
  exact decide_eq_true (by omega)
theorem eqv_all : ∀ {xs ys : List PyData}, (∀ d ∈ xs, ∀ e ∈ ys, (PyData.eqv d e = true ↔ d = e)) → (PyData.eqvAll xs ys = true ↔ xs = ys)
  | [], [], _ => by simp [PyData.eqvAll]
  | [], _ :: _, _ => by simp [PyData.eqvAll]
  | _ :: _, [], _ => by simp [PyData.eqvAll]
  | x :: xs, y :: ys, h => by
    simp only [PyData.eqvAll, Bool.and_eq_true, List.cons.injEq]
    exact and_congr (h x (List.mem_cons_self ..) y (List.mem_cons_self ..)) (eqv_all fun d hd e he => h d (List.mem_cons_of_mem _ hd) e (List.mem_cons_of_mem _ he))
theorem Pn.no_bool {n : Nat} {b : Bool} : ¬ Pn n (.bool b) := by cases n <;> exact fun h => h
theorem Pn.no_dict {n : Nat} {b : List (PyData × PyData)} : ¬ Pn n (.dict b) := by cases n <;> exact fun h => h
theorem Pn.eqv : ∀ {n m : Nat} {d e : PyData}, Pn n d → Pn m e → (PyData.eqv d e = true ↔ d = e) := by
  intro n
  induction n with
  | zero =>
    intro m d e hd he
    cases d <;> cases e <;> first | exact hd.elim | exact absurd he Pn.no_bool | exact absurd he Pn.no_dict | simp [PyData.eqv]
  | succ n ih =>
    intro m d e hd he
    cases d with
    | list xs =>
      cases e with
      | list ys =>
        cases m with
        | zero => exact he.elim
        | succ m =>
          simp only [PyData.eqv, PyData.list.injEq]
          exact eqv_all fun d hd' e he' => ih (hd d hd') (he e he')
      | bool b => exact absurd he Pn.no_bool
      | dict b => exact absurd he Pn.no_dict
      | _ => simp [PyData.eqv]
    | tuple xs =>
      cases e with
      | tuple ys =>
        cases m with
        | zero => exact he.elim
        | succ m =>
          simp only [PyData.eqv, PyData.tuple.injEq]
          exact eqv_all fun d hd' e he' => ih (hd d hd') (he e he')
      | bool b => exact absurd he Pn.no_bool
      | dict b => exact absurd he Pn.no_dict
      | _ => simp [PyData.eqv]
    | bool b => exact hd.elim
    | dict b => exact hd.elim
    | _ => cases e <;> first | exact absurd he Pn.no_bool | exact absurd he Pn.no_dict | simp [PyData.eqv]
theorem dec_b {b : Bool} {p : Prop} (h : b = true ↔ p) : (p → b = true) ∧ (¬ p → b = false) := ⟨h.mpr, fun n => Bool.eq_false_iff.mpr fun z => n (h.mp z)⟩
section
variable {K : PySem.W.Frag} {H : Hp} {x y : V} {d e : PyData} {n m : Nat} {Q : VK}
theorem eq_pd (hx : Dp K H x d) (hy : Dp K H y e) (pd : Pn n d) (pe : Pn m e) (q : ∀ b, (b = true ↔ d = e) → Q (.bl b) H) (hn : n ≤ 60 := by decide) (hm : m ≤ 60 := by decide) : rEqD K x y H Q := ⟨d, e, hx, hy, pd.shp hn, pe.shp hm, q _ (pd.eqv pe)⟩
theorem ne_pd (hx : Dp K H x d) (hy : Dp K H y e) (pd : Pn n d) (pe : Pn m e) (q : ∀ b, (b = true ↔ d = e) → Q (.bl (!b)) H) (hn : n ≤ 60 := by decide) (hm : m ≤ 60 := by decide) : rNeD K x y H Q := ⟨d, e, hx, hy, pd.shp hn, pe.shp hm, q _ (pd.eqv pe)⟩
end
mutual
theorem Dp.same {K : PySem.W.Frag} {H H' : Hp} (s : Same H H') : ∀ {v : V} {d : PyData}, Dp K H v d → Dp K H' v d
  | _, _, .non => .non
  | _, _, .bl b => .bl b
  | _, _, .int i => .int i
  | _, _, .str x => .str x
  | _, _, .lst h a => .lst (sqL_same h s) (DpAll.same s a)
  | _, _, .tup h a => .tup (sqT_same h s) (DpAll.same s a)
theorem DpAll.same {K : PySem.W.Frag} {H H' : Hp} (s : Same H H') : ∀ {vs : List V} {ds : List PyData}, DpAll K H vs ds → DpAll K H' vs ds
  | _, _, .nil => .nil
  | _, _, .cons h a => .cons (Dp.same s h) (DpAll.same s a)
end
theorem dpa_map {K : PySem.W.Frag} {H : Hp} {α : Type} {f : α → V} {g : α → PyData} : ∀ {l : List α}, (∀ x ∈ l, Dp K H (f x) (g x)) → DpAll K H (l.map f) (l.map g)
  | [], _ => .nil
  | x :: l, h => .cons (h x (List.mem_cons_self ..)) (dpa_map fun y hy => h y (List.mem_cons_of_mem _ hy))
theorem dpa_at {K : PySem.W.Frag} {H : Hp} : ∀ {vs : List V} {ds : List PyData}, vs.length = ds.length → (∀ (i : Nat) v d, vs[i]? = some v → ds[i]? = some d → Dp K H v d) → DpAll K H vs ds
  | [], [], _, _ => .nil
  | v :: vs, d :: ds, hl, h => .cons (h 0 v d rfl rfl) (dpa_at (by simpa using hl) fun i v d h1 h2 => h (i + 1) v d h1 h2)
  | [], _ :: _, hl, _ => by cases hl
  | _ :: _, [], hl, _ => by cases hl
theorem pn_ints (l : List Int) : Pn 1 (.list (l.map PyData.int)) := fun d hd => by
  obtain ⟨i, _, rfl⟩ := List.mem_map.mp hd
  trivial
theorem dp_ints {K : PySem.W.Frag} {H : Hp} {a : Addr} {l : List Int} (h : H a = some (.lst (l.map V.int))) : Dp K H (.ref a) (.list (l.map PyData.int)) := .lst (SqL.of h) (dpa_map fun i _ => .int i)
theorem int_inj {a b : List Int} (h : a.map PyData.int = b.map PyData.int) : a = b := List.map_inj_right (fun x y e => PyData.int.inj e) |>.mp h
theorem Lt.keep {H H' : Hp} {a : Addr} {us : List V} (h : Lt H a us) (s : Same H H') : H' a = H a := by
  rcases h with h | h <;> rw [h, s _ _ h]
/-- a walk of a list or a tuple that stands -/
theorem seq_lt {K : PySem.W.Frag} {tl : TE} {σ : L2.St} {H : Hp} {a : Addr} {us : List V} {R : It → Hp → Prop} (h : Lt H a us) (hq : ∀ Q : VK, Q (.ref a) H → tl σ H Q) (k : ∀ J, Walk J us.length (fun H' => H' a = H a) (YAt us) → R J H) : iSeqA K tl σ H R := by
  rcases h with h | h
  · exact .inl (hq _ ⟨a, rfl, ⟨us, SqL.of h⟩, k _ ((walk_list (K := K)).mono (fun H' s => SqL.of (s.trans h)) fun _ _ _ _ _ _ y => y)⟩)
  · exact .inr (hq _ ⟨a, rfl, ⟨us, SqT.of h⟩, k _ ((walk_tup (K := K)).mono (fun H' s => SqT.of (s.trans h)) fun _ _ _ _ _ _ y => y)⟩)
theorem putK_len {κ : Type} [DecidableEq κ] (kvs : List (κ × V)) (k : κ) (v : V) : (putK kvs k v).length ≤ kvs.length + 1 := by
  unfold putK
  split
  · rw [List.length_map]
    exact Nat.le_succ _
  · rw [List.length_append]
    exact Nat.le_refl _
theorem all_dec {α : Type} (l : List α) (p : α → Bool) : ((l.map p).all id) = l.all p := by rw [List.all_map]; rfl
end LL

set_option Elab.async false
set_option linter.all false
set_option maxRecDepth 100000
set_option maxHeartbeats 2000000
/-! LLNest: rules for what stands within a comprehension; the scope of a comprehension in a text. -/
namespace LL
open PySem PySem.Spec PyProof.Rows L2
section
variable {X : Cx} {K : PySem.W.Frag} {tg l : Expr} {tl : TE}
theorem pi_listK (h : X.K = K) (hl : PE X l tl) : PI X tg l (iList K tl) := h ▸ pi_list hl
theorem op_eqDK (h : X.K = K) (hu : X.A.units + 64 < cLine) : OpR X (compareOp .Eq) (rEqD K) := h ▸ op_eqD hu
theorem op_neDK (h : X.K = K) (hu : X.A.units + 64 < cLine) : OpR X (compareOp .NotEq) (rNeD K) := h ▸ op_neD hu
theorem sl_listK (h : X.K = K) : SlR X (rSlL K) := h ▸ sl_list
end
def stIn (b : List Stmt) (i : Nat) : Stmt := b.getD i (.Pass ⟨0, 0, 0, 0⟩)
def forBody : Stmt → List Stmt
  | .For _ _ b _ _ => b
  | _ => []
def asgVal : Stmt → Expr
  | .Assign _ e _ => e
  | _ => .Name "" ⟨0, 0, 0, 0⟩
def compSc : Expr → Scope
  | .ListComp _ _ sc _ => sc
  | _ => defScope (.Pass ⟨0, 0, 0, 0⟩)
end LL

set_option Elab.async false
set_option linter.all false
set_option maxRecDepth 100000
set_option maxHeartbeats 2000000
/-! LLSlots: a def called in a try's body: what is raised is wished for at the slots that stand then. -/
namespace LL
open PySem PySem.Spec PyProof.Rows L2
section
variable {X : Cx} {CX : CXT} {k : Nat} {sp : Sp} {dvs : List V} {E : L2.St → XK} {x : Str} {p pos : Pos} {e : Expr} {es : List Expr} {t : TA}
theorem pe_fnS (G : Fnc X.prog X.w X.K X.mg X.base CX k x dvs sp) (hr : Rm k X.A) (hx : ∀ σ, PassesAt CX X σ (E σ)) (ha : PA X (e :: es) t) (hg : Gl X x := by rfl) (hdb : (x == ("__debug__" : Str)) = false := by decide)
    (he : starEach (e :: es) X.env = (false, eval e X.env) :: starEach es X.env := by rfl) (hpl : (backTo pos (starEach es X.env)).any (·.1) = false := by rfl) : PE X (.Call (.Name x p) (e :: es) [] pos) (tCallSD sp dvs E t) := by
  obtain ⟨f, fd, ps, ds, hm, hk, hb, hd, F⟩ := G.ex
  refine ⟨fun pins s σ H Q I h => wpAny_Call_Name_kw (ld_glob I hg hm (PySem.W.callWith_K (h₀ := X.base) I.ok.mod.kin hk (thn (ha.run pos pins s σ H _ I h) fun us s1 z => ?_) he hpl) hdb)⟩
  obtain ⟨vs, H1, I1, r, q⟩ := z
  have r2 : Vals (vs ++ dvs) (us ++ ds) := r.append hd
  have hl : (us ++ ds).length = ps.length := r2.length.symm.trans (F.len _ _ _ _ q)
  refine ⟨I1.kIn, wpAny_call (codeAny_mono (F.run X.A X.stack s1 H1 ⟨us, []⟩ (us ++ ds) (vs ++ dvs) Q (E σ) hr I1.env0 (hb s1 us I1.kIn hl) r2 q) fun r s' hq => ?_)⟩
  match r, hq with
  | .error er, hq => exact hx σ pins H1 s1 er s' I1 hq
  | .ok (.ret u), hq => exact I1.after hq
  | .ok .next, hq => exact False.elim hq
  | .ok .brk, hq => exact False.elim hq
  | .ok .cont, hq => exact False.elim hq
end
theorem look_f (f : Str) (v : V) : ([(f, v)] : List (Str × V)).lookup f = some v := by
  rw [show ([(f, v)] : List (Str × V)) = putF f v [] from rfl, lookup_putF, if_pos rfl]
section
variable {K : PySem.W.Frag}
theorem kNoneL : PySem.W.kitOne K (.type "NoneType") (.type "list") = some false := kit_ty (by decide +kernel)
theorem kNoneT : PySem.W.kitOne K (.type "NoneType") (.type "tuple") = some false := kit_ty (by decide +kernel)
theorem kIntL : PySem.W.kitOne K (.type "int") (.type "list") = some false := kit_ty (by decide +kernel)
theorem kIntT : PySem.W.kitOne K (.type "int") (.type "tuple") = some false := kit_ty (by decide +kernel)
theorem kStrL : PySem.W.kitOne K (.type "str") (.type "list") = some false := kit_ty (by decide +kernel)
theorem kStrT : PySem.W.kitOne K (.type "str") (.type "tuple") = some false := kit_ty (by decide +kernel)
theorem kDicL : PySem.W.kitOne K (.type "dict") (.type "list") = some false := kit_ty (by decide +kernel)
theorem kDicT : PySem.W.kitOne K (.type "dict") (.type "tuple") = some false := kit_ty (by decide +kernel)
end
end LL

set_option Elab.async false
set_option linter.all false
set_option maxRecDepth 100000
set_option maxHeartbeats 2000000
/-! LLKw: a class called with keywords; t[::-1] of a tuple; {x!r} of data. -/
namespace LL
open PySem PySem.Spec PyProof.Rows L2
section
variable (P : Program) (w : World) (K : PySem.W.Frag) (mg : Str → Option Value) (base : Heap) (CX : CXT) (k : Nat)
/-- C(e, .., k = v, ..): n values and the keywords ks; sp of all in the order in which they are written -/
structure Mkk (x : Str) (n : Nat) (ks : List Str) (sp : Sp) : Prop where
  ex : ∃ (C f : Addr) (fd : FuncData) (ps : List Str) (g : List Value → List Value → List Value) (gV : List V → List V → List V) (si : Sp), Mk K C f ∧ mg x = some (.ref C) ∧ KBn K fd ps (n + 1) ks g gV ∧ FnG P w K mg base CX k f fd ps si ∧
    ∀ vs zs H Q E, vs.length = n → zs.length = ks.length → sp (vs ++ zs) H Q E → ∀ a dx, H a = none → H dx = none → dx ≠ a → si (gV (.ref a :: vs) zs) (upd (upd H dx (.own a)) a (.ins C dx [])) (fun v H2 => v = .non ∧ Q (.ref a) H2) E
end
def tKw (n m : Nat) (sp : Sp) (E : XK) (t tk : TA) : TE := fun σ H Q => t σ H fun vs H1 => tk σ H1 fun zs H2 => vs.length = n ∧ zs.length = m ∧ sp (vs ++ zs) H2 Q E
section
variable {X : Cx} {CX : CXT} {k n : Nat} {f C : Addr} {fd : FuncData} {ps ks : List Str} {sp : Sp} {E : XK} {x : Str} {p pos : Pos} {e : Expr} {es : List Expr} {kws : List Keyword} {t tk : TA} {g : List Value → List Value → List Value} {gV : List V → List V → List V}
theorem run_makeW {pins : List (Addr × Obj)} {σ : L2.St} {H : Hp} {s : Shared} {Q : VK} {us ws : List Value} {vs zs : List V} (M : Mk X.K C f) (F : FnG X.prog X.w X.K X.mg X.base CX k f fd ps sp) (hr : Rm (k + 1) X.A) (hb : KBn X.K fd ps (n + 1) ks g gV)
    (hx : Passes CX X E) (I : Inv X pins σ H s) (r : Vals vs us) (rz : Vals zs ws) (l1 : vs.length = n) (l2 : zs.length = ks.length)
    (h : ∀ x dx, H x = none → H dx = none → dx ≠ x → sp (gV (.ref x :: vs) zs) (upd (upd H dx (.own x)) x (.ins C dx [])) (fun v H2 => v = .non ∧ Q (.ref x) H2) E) :
    wpAny (model X.prog X.w) X.A (call (.ref C) us (ks.zip ws)) (EP X pins σ Q) X.xe s := by
  have hq := h (s.heap.objs.size + 1) s.heap.objs.size (I.hok.fresh (Nat.le_succ _)) (I.hok.fresh (Nat.le_refl _)) (Nat.ne_of_lt (Nat.lt_succ_self _))
  have I2 := Inv.made (C := C) I
  have r1 : Vals (V.ref (s.heap.objs.size + 1) :: vs) (Value.ref (s.heap.objs.size + 1) :: us) := .cons rfl r
  have r2 := hb.rel r1 rz
  have e1 : (Value.ref (s.heap.objs.size + 1) :: us).length = n + 1 := r1.length.symm.trans (congrArg Nat.succ l1)
  have e2 : ws.length = ks.length := rz.length.symm.trans l2
  refine wpAny_call (make_map (f := f) I.kIn M.makes M.init (beq_iff_eq.mp M.fn) (codeAny_mono (F.run _ X.stack _ _ ⟨Value.ref (s.heap.objs.size + 1) :: us, ks.zip ws⟩ (g (Value.ref (s.heap.objs.size + 1) :: us) ws) _ _ E (hr.make C us (ks.zip ws))
    (I2.env0.make C us (ks.zip ws)) (hb.to _ (Value.ref (s.heap.objs.size + 1) :: us) ws I2.kIn e1 e2) r2 hq) fun r s' hq' => ?_))
  match r, hq' with
  | .error er, hq' => exact hx pins σ _ _ er s' I2 hq'
  | .ok (.ret u), hq' =>
    obtain ⟨v, H', I3, rv, rfl, q3⟩ := I2.after hq'
    exact ⟨rv, ⟨V.ref (s.heap.objs.size + 1), H', I3, rfl, q3⟩⟩
  | .ok .next, hq' => exact False.elim hq'
  | .ok .brk, hq' => exact False.elim hq'
  | .ok .cont, hq' => exact False.elim hq'
theorem pe_mkk (G : Mkk X.prog X.w X.K X.mg X.base CX k x n ks sp) (hr : Rm (k + 1) X.A) (hx : Passes CX X E) (ha : PA X (e :: es) t) (hkw : PK X kws tk) (hg : Gl X x := by rfl)
    (hall : (backToKw pos (keywordEach kws X.env)).all (·.1.isSome) = true := by rfl) (hks : (backToKw pos (keywordEach kws X.env)).filterMap (·.1) = ks := by rfl)
    (hdb : (x == ("__debug__" : Str)) = false := by decide) (he : starEach (e :: es) X.env = (false, eval e X.env) :: starEach es X.env := by rfl)
    (hpl : ((backTo pos (starEach (e :: es) X.env)).any (·.1) || (backToKw pos (keywordEach kws X.env)).any (·.1.isNone)) = false := by rfl) :
    PE X (.Call (.Name x p) (e :: es) kws pos) (tKw n ks.length sp E t tk) := by
  obtain ⟨C, f, fd, ps, g, gV, si, M, hm, hb, F, conv⟩ := G.ex
  refine ⟨fun pins s σ H Q I h => ?_⟩
  refine wpAny_Call_Name_kw (ld_glob I hg hm ?_ hdb)
  refine PySem.W.callWith_KW (h₀ := X.base) I.ok.mod.kin M.kp hall (thn (ha.run pos pins s σ H _ I h) fun us s1 z => ?_) hpl he
  obtain ⟨vs, H1, I1, r, q⟩ := z
  refine thn (hkw.run pos pins s1 σ H1 _ I1 q) fun ws s2 z => ?_
  obtain ⟨zs, H2, I2, rz, l1, l2, q2⟩ := z
  refine ⟨I2.kIn, ?_⟩
  rw [hks]
  exact run_makeW M F hr hb hx I2 r rz l1 l2 (conv vs zs H2 Q E l1 l2 q2)
theorem pe_mkk0 (G : Mkk X.prog X.w X.K X.mg X.base CX k x 0 ks sp) (hr : Rm (k + 1) X.A) (hx : Passes CX X E) (hkw : PK X kws tk) (hg : Gl X x := by rfl)
    (hall : (backToKw pos (keywordEach kws X.env)).all (·.1.isSome) = true := by rfl) (hks : (backToKw pos (keywordEach kws X.env)).filterMap (·.1) = ks := by rfl) (hdb : (x == ("__debug__" : Str)) = false := by decide)
    (hpl : ((backTo pos (starEach [] X.env)).any (·.1) || (backToKw pos (keywordEach kws X.env)).any (·.1.isNone)) = false := by rfl) :
    PE X (.Call (.Name x p) [] kws pos) (tKw 0 ks.length sp E tNil tk) := by
  obtain ⟨C, f, fd, ps, g, gV, si, M, hm, hb, F, conv⟩ := G.ex
  refine ⟨fun pins s σ H Q I h => ?_⟩
  refine wpAny_Call_Name_kw (ld_glob I hg hm ?_ hdb)
  refine PySem.W.callWith_KW0 (h₀ := X.base) I.ok.mod.kin M.kp hall ?_ hpl
  refine thn (hkw.run pos pins s σ H _ I h) fun ws s2 z => ?_
  obtain ⟨zs, H2, I2, rz, l1, l2, q2⟩ := z
  refine ⟨I2.kIn, ?_⟩
  rw [hks]
  exact run_makeW (us := []) (vs := []) M F hr hb hx I2 .nil rz rfl l2 (conv [] zs H2 Q E rfl l2 q2)
end
/-! ### t[::-1] -/
section
variable {prog : Program} {w : World} {A : Around} {E : Value → Shared → Prop} {s : Shared}
theorem adjust_rev (n : Nat) : Builtin.Slice.sliceAdjust none none (-1) (n : Int) = ((n : Int) - 1, -1) := rfl
theorem places_rev (n : Nat) : Builtin.Slice.slicePlaces ((n : Int) - 1) (-1) (-1) = n := by
  unfold Builtin.Slice.slicePlaces
  rw [if_neg (by decide)]
  have e : (-(-1) : Int) = 1 := rfl
  rw [e, Int.ediv_one]
  split <;> omega
theorem fm_congr {α β : Type} {f g : α → Option β} : ∀ {l : List α}, (∀ a ∈ l, f a = g a) → l.filterMap f = l.filterMap g
  | [], _ => rfl
  | a :: l, h => by rw [List.filterMap_cons, List.filterMap_cons, h a (List.mem_cons_self ..), fm_congr fun b hb => h b (List.mem_cons_of_mem _ hb)]
theorem pick_rev (xs : Array Value) : ((List.range xs.size).filterMap fun (m : Nat) => xs[((xs.size : Int) - 1 + (m : Int) * -1).toNat]?).toArray = xs.toList.reverse.toArray := by
  have e := HT.pick_gen xs.toList.reverse.toArray 0 xs.size
  rw [List.drop_zero, List.take_of_length_le (by rw [List.length_reverse, Array.length_toList]; exact Nat.le_refl _)] at e
  refine Eq.trans (congrArg List.toArray (fm_congr fun m hm => ?_)) e
  have hm := List.mem_range.mp hm
  have q : ((xs.size : Int) - 1 + (m : Int) * -1).toNat = xs.size - 1 - m := by omega
  have q2 : (((0 : Nat) : Int) + (m : Int) * 1).toNat = m := by omega
  rw [q, q2, show xs.toList.reverse.toArray[m]? = xs.toList.reverse[m]? from List.getElem?_toArray .., List.getElem?_reverse (by rw [Array.length_toList]; exact hm), Array.length_toList, Array.getElem?_toList]
theorem getItem_tuple_rev {t sl : Addr} {items : Array Value} {vl vu vs : Value} {Q : Value → Shared → Prop} (ht : IsTup s.heap t items) (hs : s.heap.IsSliceOf sl vl vu vs) (pl : IsPart vl none) (pu : IsPart vu none) (ps : IsPart vs (some (-1)))
    (h : Q (.ref s.heap.objs.size) { s with heap := s.heap.push { cls := .type "tuple", data := .seq items.toList.reverse.toArray } })
    (hsz : items.size ≤ sizeLine) : wpAny (model prog w) A (getItem (.ref t) (.ref sl)) Q E s := by
  have htake : sizeOk (.seq items.toList.reverse.toArray) := by
    show items.toList.reverse.toArray.size ≤ sizeLine
    rw [List.size_toArray, List.length_reverse, Array.length_toList]
    exact hsz
  obtain ⟨os, hos, hcs, hds⟩ := id hs
  have hTs : s.TypeIs (.ref sl) "slice" := ⟨os, hos, hcs⟩
  unfold getItem
  try with_reducible refine wpAny_holding ?_
  first | refine wpAny_bind (wpAny_pure ?_) | skip
  refine wpAny_bind (wpAny_sequenceKey ht.typeIs (by decide) ?_)
  refine wpAny_bind (wpAny_callSpecial?_slot (name := Str.ofString "__getitem__") ht.typeIs PyProof.Rows.slot_tuple_getitem
    (wpAny_call_entry PyProof.Rows.slot_tuple_getitem ht.typeIs entry_tuple_getitem ?_ (args_tuple_getitem _ _)))
  show wpAny _ _ (Builtin.Tuple.tupleItemsOf (.ref t) >>= _) _ _ s
  refine wpAny_bind (tupleItemsOf_ ht ?_)
  refine wpAny_bind (wpAny_typeOf hTs ?_)
  rw [if_pos (by decide)]
  have app : ∀ {A : Around} {Q : Int × Int × Nat → Shared → Prop}, Q ((items.size : Int) - 1, -1, items.size) s → wpAny (model prog w) A (Builtin.Slice.sliceApplied (.ref sl) (pure (items.size : Int))) Q E s := by
    intro A Q h
    unfold Builtin.Slice.sliceApplied Builtin.Slice.sliceFields
    refine wpAny_bind (wpAny_bind (wpAny_field hos hds (x := vl) rfl (wpAny_bind (wpAny_field hos hds (x := vu) rfl (wpAny_bind (wpAny_field hos hds (x := vs) rfl (wpAny_pure ?_)))))))
    refine wpAny_bind (HT.slicePart_ ps ?_)
    show wpAny _ _ (if ((-1 : Int) == 0) = true then _ else _) _ _ s
    rw [if_neg (by decide)]
    refine wpAny_bind (HT.slicePart_ pl (wpAny_bind (HT.slicePart_ pu (wpAny_bind (wpAny_pure ?_)))))
    show wpAny _ _ (match Builtin.Slice.sliceAdjust none none (-1) (items.size : Int) with | (lo, hi) => pure (lo, (-1 : Int), Builtin.Slice.slicePlaces lo hi (-1))) _ _ s
    rw [adjust_rev]
    show wpAny _ _ (pure ((items.size : Int) - 1, (-1 : Int), Builtin.Slice.slicePlaces ((items.size : Int) - 1) (-1) (-1))) _ _ s
    rw [places_rev]
    exact wpAny_pure h
  refine wpAny_bind (app ?_)
  have hno : ¬ ((((items.size : Int) - 1) == 0 && (-1 : Int) == 1 && items.size == items.size) = true) := by
    rw [show ((-1 : Int) == 1) = false from rfl, Bool.and_false, Bool.false_and]
    exact Bool.false_ne_true
  show wpAny _ _ (if (((items.size : Int) - 1) == 0 && (-1 : Int) == 1 && items.size == items.size) = true then _ else _) _ _ s
  rw [if_neg hno, pick_rev]
  first
    | exact wpAny_bind (m := Builtin.Tuple.tupleExact _) (wpAny_newObj_type (wpAny_pure ⟨_, rfl, wpAny_pure h⟩) htake)
    | exact wpAny_bind (m := Builtin.Tuple.tupleExact _) (wpAny_newObj_type (wpAny_bind (wpAny_pure (wpAny_pure ⟨_, rfl, wpAny_pure h⟩))) htake)
    | exact wpAny_bind (wpAny_bind (m := Builtin.Tuple.tupleExact _) (wpAny_newObj_type (wpAny_pure (wpAny_pure ⟨_, rfl, wpAny_pure h⟩)) htake))
    | exact wpAny_bind (wpAny_bind (m := Builtin.Tuple.tupleExact _) (wpAny_newObj_type (wpAny_pure ⟨_, rfl, wpAny_pure h⟩) htake))
end
section
variable {X : Cx}
def tRevT (K : PySem.W.Frag) (te : TE) : TE := fun σ H Q => te σ H fun x H1 => ∃ a xs, x = .ref a ∧ SqT K H1 a xs ∧ ∀ p, H1 p = none → Q (.ref p) (upd H1 p (.tup xs.reverse))
theorem pe_revT {e : Expr} {te : TE} {k : Nat} {p1 p2 p3 pos : Pos} (he : PE X e te) : PE X (.Subscript e (.Slice none none (some (.UnaryOp .USub (.Constant (.int 1) k p1) p2)) p3) pos) (tRevT X.K te) := by
  refine ⟨fun pins s σ H Q I h => ?_⟩
  refine Subscript_ (thn (he.run pins s σ H _ I h) fun v s1 z => ?_)
  obtain ⟨x, H1, I1, r1, q1⟩ := z
  obtain ⟨a, xs, ex, hx, q⟩ := q1
  subst ex
  cases r1
  have hst : PO X (some (.UnaryOp .USub (.Constant (.int 1) k p1) p2)) (tPart (tUn (rU fun i => .int (-i)) (tC (.int 1)))) := po_some (pe_un un_neg pe_int)
  refine wpAny_Slice (thn (po_none.run pins s1 σ H1 (fun o H2 => o = none ∧ H2 = H1) I1 ⟨rfl, rfl⟩) fun vl s2 z => ?_)
  obtain ⟨l, H2, I2, pl, el, e2⟩ := z
  subst el e2
  refine thn (po_none.run pins s2 σ H2 (fun o H3 => o = none ∧ H3 = H2) I2 ⟨rfl, rfl⟩) fun vu s3 z => ?_
  obtain ⟨u, H3, I3, pu, eu, e3⟩ := z
  subst eu e3
  refine thn (hst.run pins s3 σ H3 (fun o H4 => o = some (-1) ∧ H4 = H3) I3 ⟨1, rfl, -1, rfl, rfl, rfl⟩) fun vs s4 z => ?_
  obtain ⟨o, H4, I4, ps, eo, e4⟩ := z
  subst eo e4
  have I5 : Inv X pins σ H4 { s4 with heap := s4.heap.push { cls := .type "slice", data := .fields #[vl, vu, vs] } } := I4.kept (t' := s4.toks) fun b ob q => Heap.get?_push_of_some _ q
  obtain ⟨its, r, ht, hz⟩ := I5.tuple hx
  have hlen := r.length
  show wpAny (model X.prog X.w) X.A (subscriptTail e (.Slice none none (some (.UnaryOp .USub (.Constant (.int 1) k p1) p2)) p3) (.ref a) (.ref s4.heap.objs.size)) (EP X pins σ Q) X.xe { s4 with heap := s4.heap.push { cls := .type "slice", data := .fields #[vl, vu, vs] } }
  refine tail_any (ops := [.ref a, .ref s4.heap.objs.size]) ht.typeIs (PyProof.Rows.slot_tuple_getitem.lookup) ?_ (by with_unfolding_all rfl)
  refine getItem_tuple_rev ht (Heap.IsSliceOf.new _ vl vu vs) pl pu ps ?_ (by rw [List.size_toArray]; omega)
  refine ⟨.ref _, _, I5.laid (t' := s4.toks) (o := .tup xs.reverse) (fun b ob q => Heap.get?_push_of_some _ q) (Nat.le_refl _) ?_, rfl, q _ (I5.hok.fresh (Nat.le_refl _))⟩
  exact ⟨by rw [List.length_reverse]; exact hz, _, r.reverse, IsTup.new _ _⟩
end
/-! ### {x!r} of data -/
def tFmtRD (K : PySem.W.Frag) (te : TE) : TE := fun σ H Q => te σ H fun x H1 => ∃ a d, x = .ref a ∧ Dp K H1 (.ref a) d ∧ Shw d ∧ d.depth ≤ 40 ∧ cost d ≤ 1000000 ∧ Q (.str d.shown) H1
theorem pe_fmtRD {X : Cx} {k : Nat} {e : Expr} {te : TE} {pos : Pos} (hr : Rm k X.A) (he : PE X e te) : PE X (.FormattedValue e 114 none pos) (tFmtRD X.K te) := by
  refine ⟨fun pins s σ H Q I h => ?_⟩
  refine wpAny_FormattedValue_repr (thn (he.run pins s σ H _ I h) fun v s1 hv => ?_)
  obtain ⟨x, H1, I1, r1, a, d, rfl, hd, hs, hp, hc, q⟩ := hv
  obtain ⟨as, rd⟩ := Dp.reads I1 d _ _ hd r1
  cases (show v = Value.ref a from r1)
  have hu := hr.r.units
  obtain ⟨z1, z2, z3⟩ := hs.all
  have hz : d.shown.length ≤ sizeLine := Nat.le_trans (Nat.le_trans z1 hc) (by rw [sizeLine_eq]; decide)
  exact pyReprObj_of_reads rd z2 (fun z => by rw [z3] at z; cases z) hr.g (by omega) (fun _ _ e => e) (fun h' u tk hk => wpAny_formatField_str ⟨.str d.shown, H1, I1.kept hk, ⟨_, rfl⟩, q⟩ ⟨.str d.shown, H1, (I1.kept hk).tok _, ⟨_, rfl⟩, q⟩ hz) hz
/-- list(d) of a dict that may be walked -/
theorem listD_of {H : Hp} {p : Addr} {kvs : List (Key × V)} {Q : VK} (h : H p = some (.dK kvs)) (q : ∀ r H', Same H H' → H r = none → H' r = some (.lst (kvs.map fun kv => kV kv.1)) → Q (.ref r) H') : rListD [.ref p] H Q := ⟨p, kvs, rfl, h, fun r hr => q r _ (same_upd hr) hr upd_same⟩
section
variable {X : Cx} {K : PySem.W.Frag} {e : Expr} {f : Str} {pos : Pos} {ta : TE}
theorem pe_fldK (h : X.K = K) (he : PE X e ta) (hab : attributeBase e f X.env (eval e X.env) = eval e X.env := by rfl) : PE X (.Attribute e f pos) (tFld K ta f) := h ▸ pe_fld he hab
end
section
variable {X : Cx} {K : PySem.W.Frag} {o e : Expr} {es : List Expr} {to : TE} {t : TA} {name : Str} {apos cpos : Pos} {T id : String} {r : V → List V → Hp → VK → Prop}
theorem pe_bmN (hK : X.K = K) (pa : PlainAttrs T) (slot : Slot T name id) (hty : typeOf (.builtin id) = pure (.type "method_descriptor")) (hm : MtR X id r) (ho : PE X o to) (ha : PA X (e :: es) t)
    (hbase : attributeBase o name X.env (eval o X.env) = eval o X.env := by rfl)
    (hfew : ((backTo cpos (starEach (e :: es) X.env)).all (fun x => !x.1) && (backToKw cpos (keywordEach [] X.env)).all (fun x => x.1.isSome)
      && decide ((e :: es).length + ([] : List Keyword).length + (if ([] : List Keyword).isEmpty then 0 else 1) < 30)) = true := by rfl)
    (hline : (apos.endLine == cpos.line) = true := by rfl) (hs : starEach (e :: es) X.env = (false, eval e X.env) :: starEach es X.env := by rfl) (hplain : (backTo cpos (starEach es X.env)).any (·.1) = false := by rfl) :
    PE X (.Call (.Attribute o name apos) (e :: es) [] cpos) (tBM K T r to t) := hK ▸ pe_bm pa slot hty hm ho ha hbase hfew hline hs hplain
theorem call_len_seqK (hK : X.K = K) : CallR X (.builtin "len") (fun xs H Q => ∃ p ys, xs = [.ref p] ∧ (SqL K H p ys ∨ SqT K H p ys) ∧ Q (.int ys.length) H) := hK ▸ call_len_seq
end
/-! ### a default that is an empty tuple -/
/-- the first default of the def at adr -/
def d1A (adr : PySem.W.Frag → Addr) (K : PySem.W.Frag) : Addr := match fdAt K (adr K) with
  | some g => (match g.defaults with
    | .ref T => (match K.lookup T with
      | some ⟨_, _, .seq its _, _⟩ => (match its.toList with
        | .ref a :: _ => a
        | _ => 0)
      | _ => 0)
    | _ => 0)
  | none => 0
/-- the empty tuple lies at a -/
def fEmpT (ad : PySem.W.Frag → Addr) : Ft := fun K => match K.lookup (ad K) with
  | some ⟨c, _, .seq its _, _⟩ => (c == .type "tuple") && its.toList.isEmpty
  | _ => false
theorem fEmpT_ok {ad : PySem.W.Frag → Addr} {K : PySem.W.Frag} (h : fEmpT ad K = true) : ∃ (o : Obj) (its : Array Value) (n : Nat), K.lookup (ad K) = some o ∧ o.cls = .type "tuple" ∧ o.data = .seq its n ∧ its.size ≤ sizeLine ∧ Vals [] its.toList := by
  unfold fEmpT at h
  split at h
  · rename_i c d its n sl e
    obtain ⟨h1, h2⟩ := He.ba h
    refine ⟨_, its, n, e, beq_iff_eq.mp h1, rfl, ?_, ?_⟩
    · rw [← Array.length_toList, List.isEmpty_iff.mp h2]
      exact Nat.zero_le _
    · rw [List.isEmpty_iff.mp h2]
      exact .nil
  · cases h
end LL

set_option Elab.async false
set_option linter.all false
set_option maxRecDepth 100000
set_option maxHeartbeats 2000000
/-! LLDc: a dict comprehension whose keys are tuples (turned from the one with flat keys); a list's place in place. -/
namespace LL
open PySem PySem.Spec PyProof.Rows L2
/-- d[k] = v by a comprehension, k a tuple -/
theorem d_dictSetT {X : Cx} {pins : List (Addr × Obj)} {σ : L2.St} {H : Hp} {s : Shared} {E : Value → Shared → Prop} {D b : Addr} {kvs : List (List Key × V)} {k : List Key} {v : V} {u r : Value} {Q : Unit → Shared → Prop} (hu : X.A.units + 1 < cLine) (I : Inv X pins σ H s) (hD : H D = some (.dT kvs)) (eb : H b = some (.tup (k.map kV))) (hz : kvs.length < sizeLine)
    (ry : RelV (.ref b) u) (rv : RelV v r) (h : ∀ s', Inv X pins σ (upd H D (.dT (putK kvs k v))) s' → Q () s') : wpAny (model X.prog X.w) X.A (dictSet D u r) Q E s := by
  cases (show u = Value.ref b from ry)
  obtain ⟨z, hd, xs, rel, dd⟩ := dt_of I.hok hD
  have zx : xs.length ≤ sizeLine := by rw [← Paired.length rel]; exact z
  have hl : (putK kvs k v).length ≤ sizeLine := by have := length_putK kvs k v; omega
  refine wpAny_dictSet_heap (hsz := zx) ((show (tupleKind (mixKind X.prog X.w)).room X.A from Nat.lt_of_succ_lt hu)) (key_of I.hok eb) dd fun h' dd' hs => h _ ?_
  obtain ⟨q, es, ep, hq, h2, h3, h4, h6, h5⟩ := dd'
  refine d_write I (by rw [hD]; exact True.intro) hs ⟨q, hq⟩ ⟨hl, hd, _, (rel.put k eb rv).keeps fun c ys ec => ?_, q, es, ep, hq, h2, h3, h4, h5⟩
  rw [upd_ne (ne_of ec hD (fun z => nomatch z))]
  exact ec
section
variable {X : Cx}
/-- {k: v for ..}, keys tuples: D the new dict -/
def tDcT (wi : TI) (g : TG) (tt : TT) (tk tv : TE) (vs : List Nat) : TE := fun σ H Q => wi σ H fun J H1 => ∀ D, H1 D = none → ∃ W : Nat → Nat → Hp → Prop, (∃ m, W 0 m (upd H1 D (.dT []))) ∧ ∀ i m H, W i m H →
  (J.stop i H ∧ Q (.ref D) H) ∨ (J.go i H ∧ ∃ Nx : Hp → Prop, (∀ H', Nx H' → ∃ m', m' < m ∧ W (i + 1) m' H') ∧ ∀ x H', J.yld i H x H' → g x (wipe σ vs) H' fun σ2 H2 => wipe σ2 vs = wipe σ vs ∧ tt σ2 H2 fun b H3 =>
    if b = true then tk σ2 H3 fun y H4 => tv σ2 H4 fun z H5 => ∃ kvs k b, y = .ref b ∧ H5 b = some (.tup (k.map kV)) ∧ H5 D = some (.dT kvs) ∧ kvs.length < sizeLine ∧ Nx (upd H5 D (.dT (putK kvs k z))) else Nx H3)
theorem dcT_core {pins : List (Addr × Obj)} {s : Shared} {σ : L2.St} {H : Hp} {Q : VK} {kx vx tg iter : Expr} {ifs : List Expr} {scope : Scope} {own : List (Str × Nat)} {pos pos' : Pos} {wi : TI} {g : TG} {tt : TT} {tk tv : TE} {use : Option (Value → Sem Unit)} {Qf : Value → Shared → Prop}
    (hu : X.A.units + 1 < cLine) (hc : X.calm = true) (hN : X.N.Nodup) (I : Inv X pins σ H s) (hi : PI X tg iter wi) (ok : BlkOk X.N X.env.scope scope own)
    (hg : ∀ (s : Shared) (H : Hp) (C : Addr) (cl : List (Str × Addr)) (fp : List Addr), PG (X.blk s H scope (compEnvC scope cl C X.env) fp) tg g) (ht : ∀ (s : Shared) (H : Hp) (C : Addr) (cl : List (Str × Addr)) (fp : List Addr), PTs (X.blk s H scope (compEnvC scope cl C X.env) fp) ifs tt)
    (hk : ∀ (s : Shared) (H : Hp) (C : Addr) (cl : List (Str × Addr)) (fp : List Addr), PE (X.blk s H scope (compEnvC scope cl C X.env) fp) kx tk)
    (he : ∀ (s : Shared) (H : Hp) (C : Addr) (cl : List (Str × Addr)) (fp : List Addr), PE (X.blk s H scope (compEnvC scope cl C X.env) fp) vx tv) (hs : ∀ x, foldedSetIterable iter X.env x = pure x)
    (h : tDcT wi g tt tk tv (own.map (·.2)) σ H Q)
    (hRR : ∀ D C s' m H', Inv X pins σ H' s' → Q (.ref D) H' → s'.heap.Ns C m → FpOk X pins H' C → compPost (model X.prog X.w) X.A X.xe use Qf (.ref D) C (.ok .next) s') :
    wpAny (model X.prog X.w) X.A (comprehension (.DictComp kx vx [⟨tg, iter, ifs, 0⟩] scope pos) scope X.env pos' newDict false (eval iter X.env) use) Qf X.xe s := by
  have hfree : ∀ y ∈ scope.names, y.2 = .free → ∃ c, X.env.cells.lookup y.1 = some c := fun y hy e => by
    rcases ok.free y hy e with k | k
    · exact I.ok.has _ (.inl k)
    · exact I.ok.has _ (.inr k)
  refine wpAny_comprehension_free (use := use) rfl hs (closure_ok hfree) ok.kind (fun y hy e => by rw [ok.uniq y hy, e])
    (thn (hi.run pins s σ H _ I h) fun xv s1 hx => thn hx fun itv s2 h2 => ?_)
  obtain ⟨it, fp, tn, J, H2, e, I2, T, st2, f2, q⟩ := h2
  subst e
  refine wpAny_newObj_type (newEnv_comp ?_)
  generalize hD : s2.heap.objs.size = D
  have hDn : H2 D = none := I2.hok.fresh (Nat.le_of_eq hD)
  obtain ⟨W, ⟨m0, w0⟩, turn⟩ := q D hDn
  -- the new list
  generalize hs3 : ({ s2 with heap := s2.heap.push { cls := .type "dict", data := .dict #[] } } : Shared) = s3
  have I3 : Inv X pins σ (upd H2 D (.dT [])) s3 := by
    rw [← hs3]
    refine I2.laid (t' := s2.toks) (fun b o e => Heap.get?_push_of_some _ e) (Nat.le_of_eq hD) ?_
    rw [← hD]
    exact dt_empty s2.heap I2.big
  have h3 : s3.heap = s2.heap.push { cls := .type "dict", data := .dict #[] } := by rw [← hs3]
  have sz : ∀ b ∈ fp, b < s2.heap.objs.size := fun b hb => by
    obtain ⟨o, e, _⟩ := T.obj _ _ st2 b hb
    exact Heap.lt_size e
  have f3 : ∀ b ∈ fp, FpOk X pins (upd H2 D (.dT [])) b ∧ b < s3.heap.objs.size := fun b hb => by
    have hlt := sz b hb
    refine ⟨⟨?_, (f2 b hb).2⟩, by rw [h3, Heap.size_push]; exact Nat.lt_succ_of_lt hlt⟩
    rw [upd_ne (by rw [← hD]; exact Nat.ne_of_lt hlt)]
    exact (f2 b hb).1
  have st3 : tn 0 s3.heap := T.keep _ _ _ st2 fun b _ o e => by rw [h3]; exact Heap.get?_push_of_some _ e
  have I4 := block_start I3 ok hN f3
  have pg := hg s3 (upd H2 D (.dT [])) s3.heap.objs.size (cellsFrom (s3.heap.objs.size + 1) scope.names (cloFrom X.env.cells scope.names [])) fp
  have pt := ht s3 (upd H2 D (.dT [])) s3.heap.objs.size (cellsFrom (s3.heap.objs.size + 1) scope.names (cloFrom X.env.cells scope.names [])) fp
  have pk := hk s3 (upd H2 D (.dT [])) s3.heap.objs.size (cellsFrom (s3.heap.objs.size + 1) scope.names (cloFrom X.env.cells scope.names [])) fp
  have pe := he s3 (upd H2 D (.dT [])) s3.heap.objs.size (cellsFrom (s3.heap.objs.size + 1) scope.names (cloFrom X.env.cells scope.names [])) fp
  show codeAny _ _ (.compStart (.DictComp kx vx [⟨tg, iter, ifs, 0⟩] scope pos) 0 (.ref it) (.ref D) (compEnvC scope (cellsFrom (s3.heap.objs.size + 1) scope.names (cloFrom X.env.cells scope.names [])) s3.heap.objs.size X.env)) (compPost (model X.prog X.w) X.A X.xe use Qf (.ref D) s3.heap.objs.size) { s3 with heap := pushCells (s3.heap.push { cls := .type "dict", data := .dict #[] }) scope.names }
  have nfp : ∀ b ∈ fp, (upd H2 D (.dT [])) b = none := fun b hb => (f3 b hb).1.1
  generalize hce : compEnvC scope (cellsFrom (s3.heap.objs.size + 1) scope.names (cloFrom X.env.cells scope.names [])) s3.heap.objs.size X.env = ce at I4 pg pt pk pe ⊢
  have cL : ce.locals = s3.heap.objs.size := by subst hce; rfl
  generalize hH3 : upd H2 D (.dT []) = H3 at I3 I4 pg pt pk pe w0 nfp f3
  generalize hs4 : ({ s3 with heap := pushCells (s3.heap.push { cls := .type "dict", data := .dict #[] }) scope.names } : Shared) = s4 at I4 ⊢
  have st4 : tn 0 s4.heap := T.keep _ _ _ st3 fun b _ o e => by rw [← hs4]; exact pushCells_keeps _ _ _ _ (Heap.get?_push_of_some _ e)
  have stat : ∀ {σ' : L2.St} {H' : Hp} {s' : Shared}, Inv (X.blk s3 H3 scope ce fp) [] σ' H' s' → (∀ b ∈ fp, H' b = none) → ∀ b ∈ fp, FpOk (X.blk s3 H3 scope ce fp) [] H' b := fun {σ' H' s'} I' hn b hb =>
    ⟨hn b hb, (I'.ok.exf b hb).1, I'.ok.exfs b hb, .inl hb, fun x c e => (I'.ok.exf b hb).2 x c e, fun p hp => absurd (show p ∈ ([] : List (Addr × Obj)) ++ [] from hp) (by simp)⟩
  have loop : codeAny (model X.prog X.w) X.A (.compLoop (.DictComp kx vx [⟨tg, iter, ifs, 0⟩] scope pos) 0 (.ref it) (.ref D) ce) (compPost (model X.prog X.w) X.A X.xe use Qf (.ref D) s3.heap.objs.size) s4 := by
    refine compLoop_anyD (fun n s' => ∃ i H', Inv (X.blk s3 H3 scope ce fp) [] (wipe σ (own.map (·.2))) H' s' ∧ tn i s'.heap ∧ (∀ b ∈ fp, H' b = none) ∧ W i n H') ?_ m0 ⟨0, H3, I4, st4, nfp, w0⟩
    rintro n s5 ⟨i, H5, I5, st5, n5, w5⟩
    rcases turn i n H5 w5 with ⟨stop, qq⟩ | ⟨go, Nx, hNx, step⟩
    · have td := T.done (X.blk s3 H3 scope ce fp) rfl rfl rfl hc i [] s5 _ H5 (fun _ _ => False) I5 (stat I5 n5) st5 stop
      refine thnF td fun r s6 ⟨hr, I6⟩ => ?_
      subst hr
      -- back in the def's context
      have I7 : Inv X pins σ H5 s6 := I3.call' (ch := fp) I6.os I6.base I6.hok I6.bare fun b hb => ⟨(f3 b hb).1.2.2.2.1, (f3 b hb).1.2.1, (f3 b hb).1.2.2.2.2.1, (f3 b hb).1.2.2.2.2.2⟩
      have nC : H5 s3.heap.objs.size = none := by
        have z : H5 ce.locals = none := I6.free
        rw [cL] at z
        exact z
      obtain ⟨m, hn, _⟩ := I6.loc
      have hn : s6.heap.Ns ce.locals m := hn
      rw [cL] at hn
      exact hRR D s3.heap.objs.size s6 m H5 I7 qq hn (I3.fpOk (Nat.le_refl _) nC)
    · have ti := T.item (X.blk s3 H3 scope ce fp) rfl rfl rfl hc i [] s5 _ H5 (fun _ _ => False) I5 (stat I5 n5) st5 go
      refine thnF ti fun r s6 ⟨u, hr, h6⟩ => ?_
      subst hr
      refine thnF h6 fun _ s7 ⟨x, H7, I7, r7, y7, st7, n7⟩ => ?_
      have I7' := I7.pinned (stat I7 n7) (T.obj _ _ st7)
      refine thnF (pg.run _ s7 _ H7 x u _ I7' r7 (step x H7 y7)) fun _ s8 ⟨σ8, H8, I8, hw8, q8⟩ => ?_
      refine thnF (pt.run _ s8 σ8 H8 _ I8 q8) fun b s9 ⟨H9, I9, q9⟩ => ?_
      -- the turn's end
      have fin : ∀ {s' : Shared} {H' : Hp}, Inv (X.blk s3 H3 scope ce fp) ([] ++ pinsAt fp s7.heap) σ8 H' s' → Nx H' → ∃ m, m < n ∧ ∃ i H', Inv (X.blk s3 H3 scope ce fp) [] (wipe σ (own.map (·.2))) H' s' ∧ tn i s'.heap ∧ (∀ b ∈ fp, H' b = none) ∧ W i m H' := fun {s' H'} I' nx => by
        obtain ⟨m', hm, w'⟩ := hNx H' nx
        have pin' : ∀ b ∈ fp, ∀ o, s7.heap.get? b = some o → s'.heap.get? b = some o ∧ H' b = none := fun b hb o e =>
          let z := I'.pin (b, o) (List.mem_append_right _ (List.mem_append_right _ (mem_pinsAt hb e)))
          ⟨z.1, z.2.1⟩
        have hl : (wipe σ (own.map (·.2))).length = σ8.length := by rw [← hw8, wipe_length]
        refine ⟨m', hm, i + 1, H', (I'.unpinned (pins := [])).weak hl (fun j v e => ?_), T.keep _ _ _ st7 fun b hb o e => (pin' b hb o e).1, fun b hb => ?_, w'⟩
        · rw [← hw8] at e
          exact (wipe_some e).1
        · obtain ⟨o, e, _⟩ := T.obj _ _ st7 b hb
          exact (pin' b hb o e).2
      cases b with
      | false =>
        simp only [Bool.false_eq_true, if_false] at q9 ⊢
        exact fin I9 q9
      | true =>
        simp only [if_true] at q9 ⊢
        refine thnF (pk.run _ s9 σ8 H9 _ I9 q9) fun z s10 ⟨yk, H10, I10, r10, q10⟩ => ?_
        refine thnF (pe.run _ s10 σ8 H10 _ I10 q10) fun z2 s11 ⟨yv, H11, I11, r11, kvs, k, b, ek, eb, hD11, hz11, nx⟩ => ?_
        subst ek
        exact d_dictSetT (X := X.blk s3 H3 scope ce fp) hu I11 hD11 eb hz11 r10 r11 fun s12 I12 => fin I12 nx
  exact codeAny_compStart_dict loop (T.self X.A 0 _ _ _ st4 loop)
theorem pe_dcT {kx vx tg iter : Expr} {ifs : List Expr} {scope : Scope} {own : List (Str × Nat)} {pos : Pos} {wi : TI} {g : TG} {tt : TT} {tk tv : TE} (hu : X.A.units + 1 < cLine) (hc : X.calm = true) (hN : X.N.Nodup) (hi : PI X tg iter wi) (ok : BlkOk X.N X.env.scope scope own)
    (hg : ∀ (s : Shared) (H : Hp) (C : Addr) (cl : List (Str × Addr)) (fp : List Addr), PG (X.blk s H scope (compEnvC scope cl C X.env) fp) tg g) (ht : ∀ (s : Shared) (H : Hp) (C : Addr) (cl : List (Str × Addr)) (fp : List Addr), PTs (X.blk s H scope (compEnvC scope cl C X.env) fp) ifs tt)
    (hk : ∀ (s : Shared) (H : Hp) (C : Addr) (cl : List (Str × Addr)) (fp : List Addr), PE (X.blk s H scope (compEnvC scope cl C X.env) fp) kx tk)
    (he : ∀ (s : Shared) (H : Hp) (C : Addr) (cl : List (Str × Addr)) (fp : List Addr), PE (X.blk s H scope (compEnvC scope cl C X.env) fp) vx tv) (hs : ∀ x, foldedSetIterable iter X.env x = pure x := by intro _; rfl) :
    PE X (.DictComp kx vx [⟨tg, iter, ifs, 0⟩] scope pos) (tDcT wi g tt tk tv (own.map (·.2))) := by
  refine ⟨fun pins s σ H Q I h => ?_⟩
  rw [arm_eval_DictComp]
  refine dcT_core hu hc hN I hi ok hg ht hk he hs h fun D C s' m H' I' q hn f => ⟨m, hn, fun h'' sb => ?_⟩
  obtain ⟨f0, f1, f2, f3, f4, f5⟩ := f
  exact ⟨.ref D, H', I'.turned (t' := s'.toks) (fun b o hb e => (sb.2 b hb).trans e) f0 f1 f3 f4 f5, rfl, q⟩
/-- name = {..: .. for ..} on one line, the name a local -/
theorem ps_setDcT {i : Nat} {y : Str} {py : Pos} {kx vx tg iter : Expr} {ifs : List Expr} {scope : Scope} {own : List (Str × Nat)} {pos spos : Pos} {wi : TI} {g : TG} {tt : TT} {tk tv : TE} (hu : X.A.units + 1 < cLine) (hc : X.calm = true) (hN : X.N.Nodup) (hy : X.N[i]? = some y) (hyl : X.env.scope.names.lookup y = some .local)
    (hsw : swapsWith (.DictComp kx vx [⟨tg, iter, ifs, 0⟩] scope pos) (some (.Name y py)) spos.line X.env = pure true) (hi : PI X tg iter wi) (ok : BlkOk X.N X.env.scope scope own)
    (hg : ∀ (s : Shared) (H : Hp) (C : Addr) (cl : List (Str × Addr)) (fp : List Addr), PG (X.blk s H scope (compEnvC scope cl C X.env) fp) tg g) (ht : ∀ (s : Shared) (H : Hp) (C : Addr) (cl : List (Str × Addr)) (fp : List Addr), PTs (X.blk s H scope (compEnvC scope cl C X.env) fp) ifs tt)
    (hk : ∀ (s : Shared) (H : Hp) (C : Addr) (cl : List (Str × Addr)) (fp : List Addr), PE (X.blk s H scope (compEnvC scope cl C X.env) fp) kx tk)
    (he : ∀ (s : Shared) (H : Hp) (C : Addr) (cl : List (Str × Addr)) (fp : List Addr), PE (X.blk s H scope (compEnvC scope cl C X.env) fp) vx tv) (hs : ∀ x, foldedSetIterable iter X.env x = pure x := by intro _; rfl) :
    PS X (.Assign [.Name y py] (.DictComp kx vx [⟨tg, iter, ifs, 0⟩] scope pos) spos) (tAsg (tDcT wi g tt tk tv (own.map (·.2))) (gName i)) := by
  refine ⟨fun pins s σ H D I h => ?_⟩
  rw [exec_Assign_Name_used _ _ _ _ hsw]
  refine wpAny_bind (wpAny_standAt (wpAny_bind ?_))
  show wpAny _ X.A (do let _ ← comprehension (.DictComp kx vx [⟨tg, iter, ifs, 0⟩] scope pos) scope X.env (firstIterPos [⟨tg, iter, ifs, 0⟩] pos) newDict false (eval iter X.env) (some (assign (.Name y py) X.env))) _ _ s
  have h : tDcT wi g tt tk tv (own.map (·.2)) σ H (fun x H1 => gName i x σ H1 D.nx) := h
  refine wpAny_bind (thn (dcT_core (Qf := fun _ s' => SP X pins D .next s') hu hc hN I hi ok hg ht hk he hs h fun L C s' m H' I' q hn f => ?_) fun _ s' hq => wpAny_pure (wpAny_pure hq))
  show wpAny _ _ (assign (.Name y py) X.env (.ref L)) _ _ _
  refine wpAny_assign_Name (store_ok2 (v := V.ref L) I' hN hy (.inl hyl) rfl (fun s2 I2 ⟨a, sb, ha⟩ => ?_) (.inr hyl))
  obtain ⟨f0, f1, f2, f3, f4, f5⟩ := f
  have nC : C ≠ a := by
    rcases ha with z | z
    · rw [z]
      exact f1
    · exact fun e => f4 y a z e.symm
  exact ⟨m, hn.sameBut sb nC, fun h3 sb3 => ⟨_, H', I2.turned (t' := s2.toks) (fun b o hb e => (sb3.2 b hb).trans e) f0 f1 f3 f4 f5, q⟩⟩
theorem swD_true {kx vx : Expr} {gs : List Comprehension} {scope : Scope} {pos py : Pos} {y : Str} {l : Nat} {env : Env} (hk : env.scope.kind = .function) (hy : env.scope.names.lookup y = some .local) (hl : (py.line == pos.line) = true)
    (ha : (scope.names.any fun (n, k) => n == y && (k == .local || k == .cell)) = false) : swapsWith (.DictComp kx vx gs scope pos) (some (.Name y py)) l env = pure true := by
  have ky : env.kindOf y = some .local := hy
  have hb : env.blockKind = .function := by unfold Env.blockKind; rw [hk]; rfl
  unfold swapsWith
  simp only [hb, ky, ha, Expr.pos, hl]
  rfl
/-- such a comprehension by what it has made so far -/
theorem dcT_inv {J : It} {n : Nat} {G : Hp → Prop} {Y : Nat → Hp → V → Hp → Prop} {g : TG} {tt : TT} {tk tv : TE} {vs : List Nat} {σ : L2.St} {H1 : Hp} {D : Addr} {Qd : Hp → Prop} (w : Walk J n G Y) (I : Nat → List (List Key × V) → Hp → Prop) (bl : ∀ i kvs H o, I i kvs H → I i kvs (upd H D o)) (h0 : I 0 [] H1) (hl : ∀ i kvs H, i < n → I i kvs H → kvs.length < sizeLine) (hG : ∀ i kvs H, i ≤ n → I i kvs H → G H)
    (hs : ∀ i x kvs H H', i < n → I i kvs H → H D = some (.dT kvs) → Y i H x H' → ∀ (R : V → V → Hp → Prop) (S : Hp → Prop), (∀ k a v H4, H4 D = some (.dT kvs) → H4 a = some (.tup (k.map kV)) → I (i + 1) (putK kvs k v) H4 → R (.ref a) v H4) → (∀ H4, H4 D = some (.dT kvs) → I (i + 1) kvs H4 → S H4) →
      g x (wipe σ vs) H' fun σ2 H2 => wipe σ2 vs = wipe σ vs ∧ tt σ2 H2 fun b H3 => if b = true then tk σ2 H3 fun y H4 => tv σ2 H4 fun v H5 => R y v H5 else S H3) (hd : ∀ kvs H, H D = some (.dT kvs) → I n kvs H → Qd H) :
    ∃ W : Nat → Nat → Hp → Prop, (∃ m, W 0 m (upd H1 D (.dT []))) ∧ ∀ i m H, W i m H →
      (J.stop i H ∧ Qd H) ∨ (J.go i H ∧ ∃ Nx : Hp → Prop, (∀ H', Nx H' → ∃ m', m' < m ∧ W (i + 1) m' H') ∧ ∀ x H', J.yld i H x H' → g x (wipe σ vs) H' fun σ2 H2 => wipe σ2 vs = wipe σ vs ∧ tt σ2 H2 fun b H3 =>
        if b = true then tk σ2 H3 fun y H4 => tv σ2 H4 fun v H5 => ∃ kvs k a, y = .ref a ∧ H5 a = some (.tup (k.map kV)) ∧ H5 D = some (.dT kvs) ∧ kvs.length < sizeLine ∧ Nx (upd H5 D (.dT (putK kvs k v))) else Nx H3) := by
  refine ⟨fun i m H => m = n - i ∧ i ≤ n ∧ ∃ kvs, H D = some (.dT kvs) ∧ I i kvs H, ⟨n, by simp, Nat.zero_le _, [], upd_same, bl _ _ _ _ h0⟩, ?_⟩
  rintro i m H ⟨rfl, hi, kvs, e, p⟩
  by_cases hlt : i < n
  · refine .inr ⟨w.goes i H hlt (hG i kvs H hi p), fun H' => ∃ kvs, H' D = some (.dT kvs) ∧ I (i + 1) kvs H', fun H' p' => ⟨n - (i + 1), by omega, rfl, hlt, p'⟩, fun x H' y => ?_⟩
    exact hs i x kvs H H' hlt p e (w.yields i H x H' hlt (hG i kvs H hi p) y) _ _ (fun k a v H4 e4 ea p4 => ⟨kvs, k, a, rfl, ea, e4, hl i kvs H hlt p, _, upd_same, bl _ _ _ _ p4⟩) fun H4 e4 p4 => ⟨kvs, e4, p4⟩
  · have ei : i = n := by omega
    subst ei
    exact .inl ⟨w.stops H (hG _ kvs H hi p), hd kvs H e p⟩
/-- xs[i], to be written in place -/
def rGetL (K : PySem.W.Frag) : V → V → Hp → VK → Prop := fun x y H Q => ∃ (p : Addr) (xs : List V) (j : Nat) (v : V), x = .ref p ∧ y = .int (j : Nat) ∧ SqL K H p xs ∧ xs[j]? = some v ∧ Q v H
theorem get_list : PGet X (rGetL X.K) := by
  intro pins s σ H o i ov iv Q I ro ri h
  obtain ⟨p, xs, j, v, rfl, rfl, hq, he, q⟩ := h
  cases ro
  obtain ⟨t, rfl⟩ := ri
  obtain ⟨its, r, pl, hz⟩ := I.list hq
  obtain ⟨u, eu, ru⟩ := r.get he
  have hj := (List.getElem?_eq_some_iff.mp he).1
  have hn := line63
  exact wpAny_getItem_list pl.isList (by omega) (by omega) (by simpa using eu) ⟨v, H, I, ru, q⟩
end
end LL

set_option Elab.async false
set_option linter.all false
set_option maxRecDepth 100000
set_option maxHeartbeats 2000000
/-! LLExb: own error classes over LookupError, RuntimeError, ArithmeticError, with one field or two. -/
namespace LL
open PySem PySem.Spec PyProof.Rows L2
/-- what is known of a built-in error class -/
structure Bas (B nI iI : String) (tl : List Value) : Prop where
  eb : ExcBaseFacts B nI iI tl
  st : StoreFacts B tl "object.__setattr__" "object"
  ty : typeOf (.type B) = pure (.type "type")
  sb : Manifest.isStub B = false
  hi : PySem.W.handedIn (.builtin iI) = true
  bt : bootBuiltins (Str.ofString B) = some (.type B)
  n1 : Str.ofString B ≠ "__name__"
  n2 : (Str.ofString B == ("__debug__" : Str)) = false
theorem bas_L : Bas "LookupError" "LookupError.__new__" "LookupError.__init__" [.type "LookupError", .type "Exception", .type "BaseException", .type "object"] := ⟨F.excBase_LookupError, F.store_LookupError, by kernel_rfl, by decide +kernel, by decide +kernel, by decide +kernel, by decide +kernel, by decide +kernel⟩
theorem bas_R : Bas "RuntimeError" "RuntimeError.__new__" "RuntimeError.__init__" [.type "RuntimeError", .type "Exception", .type "BaseException", .type "object"] := ⟨F.excBase_RuntimeError, F.store_RuntimeError, by kernel_rfl, by decide +kernel, by decide +kernel, by decide +kernel, by decide +kernel, by decide +kernel⟩
theorem bas_A : Bas "ArithmeticError" "ArithmeticError.__new__" "ArithmeticError.__init__" [.type "ArithmeticError", .type "Exception", .type "BaseException", .type "object"] := ⟨F.excBase_ArithmeticError, F.store_ArithmeticError, by kernel_rfl, by decide +kernel, by decide +kernel, by decide +kernel, by decide +kernel, by decide +kernel⟩
/-- what the written part says of the own class at C -/
structure OexB (K : PySem.W.Frag) (C : Addr) (nI : String) (tl : List Value) : Prop where
  cls : PySem.W.excInitIn K C tl nI = true
  over : PySem.W.excOver K C tl = true
  hd : PySem.W.hasDictIn K C = true
  sa : PySem.W.findIn K (.ref C) "__setattr__" = some (some (.builtin "object.__setattr__"))
  exC : PySem.W.subIn K (.ref C) (.type "BaseException") = some true
  tyC : PySem.W.typeIn K (.ref C) = some (.type "type")
  kC : PySem.W.keepIn K (.ref C) = true
theorem taker_of {K : PySem.W.Frag} {C : Addr} {f : Str} (h : PySem.W.findIn K (.ref C) f = some none) : PySem.W.takerIn K C f = some none := by
  unfold PySem.W.takerIn
  rw [h]
  rfl
section
variable {X : Cx} {pins : List (Addr × Obj)} {σ : L2.St} {H : Hp} {s : Shared} {a C dx : Addr} {f : Str} {y : V} {u : Value} {fs : List (Str × V)} {Q : Unit → Shared → Prop} {E : Value → Shared → Prop} {A : Around} {B nI iI : String} {tl : List Value}
/-- the error has got its dict -/
theorem inv_dict {hp h' : Heap} {g : Array GenState} {d : Drawn} {t tk' : Nat} {os : OsState} {t1 : Addr} (I : Inv X pins σ H ⟨hp, g, d, t, os⟩) (e : H a = some (exo a C none)) (ry : RelV y u) (k : ∀ b o, b ≠ a → hp.get? b = some o → h'.get? b = some o) (dn : hp.objs.size ≤ dx)
    (hx : h'.get? a = some ({ cls := .ref C, dict := some dx, data := .fields #[.ref t1, .none, .none, .none, .bool false, .none] } : Obj)) (hn : h'.Ns1 dx fun y => if y = f then some u else none) :
    Inv X pins σ (upd (upd H dx (exd dx [(f, y)])) a (exo a C (some dx))) ⟨h', g, d, tk', os⟩ := by
  have free : H dx = none := I.hok.fresh dn
  have off : ∀ {b : Addr}, H b = none → b ≠ a := fun {b} n z => (by rw [z, e] at n; cases n)
  have low : ∀ {b : Addr} {o : Obj}, hp.get? b = some o → b ≠ dx := fun {b o} q => Nat.ne_of_lt (Nat.lt_of_lt_of_le (Heap.lt_size q) dn)
  have same : ∀ {b : Addr} {o : HO}, H b = some o → b ≠ a → upd (upd H dx (exd dx [(f, y)])) a (exo a C (some dx)) b = some o := fun {b o} q n => by rw [upd_ne n, upd_ne (ne_of_none q free)]; exact q
  refine I.un (t' := tk') ⟨fun b o q n _ _ => k b o (off n) q, fun b o q n _ _ => ⟨o.slots, k b o (off n) q⟩, fun b o q n _ => ?_, fun b o q _ => ?_, fun b xs q => same q (at_ne e q exo_tup), fun b o v q => same q (at_ne e q exo_frz), fun b ps q => ⟨#[], ?_⟩⟩ fun b o q => ?_
  · rw [upd_ne (off n), upd_ne (low q)]
    exact n
  · by_cases c : b = a
    · exact ⟨_, c ▸ hx⟩
    · exact ⟨o, k b o c q⟩
  · rw [same q (at_ne e q exo_tbl)]
    simp
  · by_cases c : b = a
    · subst c
      rw [upd_same] at q
      cases q
      exact exo_ok hx
    rw [upd_ne c] at q
    by_cases c2 : b = dx
    · subst c2
      rw [upd_same] at q
      cases q
      exact exd_ok hn (relO_put (fs := []) ry fun _ => trivial)
    rw [upd_ne c2] at q
    refine (I.hok b o q).stay (fun z v hz w => k z v ?_ w) (fun z hz => same hz (at_ne e hz exo_own)) fun z xs hz => same hz (at_ne e hz exo_tup)
    exact hz.elim (fun hz => hz ▸ c) fun hz => at_ne e hz exo_own
/-- self.f = y, the first one -/
theorem ostB_new (Z : Bas B nI iI tl) (T : OexB X.K C nI tl) (I : Inv X pins σ H s) (e : H a = some (exo a C none)) (hno : PySem.W.findIn X.K (.ref C) f = some none) (ry : RelV y u)
    (h : ∀ dx s', H dx = none → dx ≠ a → Inv X pins σ (upd (upd H dx (exd dx [(f, y)])) a (exo a C (some dx))) s' → Q () s') : wpAny (model X.prog X.w) A (setAttr (.ref a) f u) Q E s := by
  obtain ⟨t1, ho⟩ := exo_at I.hok e
  obtain ⟨hp, g, d, t, os⟩ := s
  have J : PySem.W.InstAt hp a { cls := .ref C, dict := none, data := .fields #[.ref t1, .none, .none, .none, .bool false, .none] } C none := ⟨ho, rfl, rfl, trivial⟩
  obtain ⟨cd, hc, hd'⟩ := PySem.W.any_some T.hd
  have as : a < hp.objs.size := Heap.lt_size ho
  refine PySem.W.set_plain I.kIn J T.sa (PySem.W.osa_openX (s := ⟨hp, g, d, t + 1, os⟩) Z.st I.kIn J T.over (taker_of hno) fun b => ?_)
  show wpAny _ _ (Builtin.ObjectAttr.storeInOwnDict (.ref a) (.ref C) (.str f t) f u b) _ _ _
  refine wpAny_bind (wpAny_pure (wpAny_bind (PySem.W.instanceDict_exc (t := t1) (c2 := .none) ho (PySem.W.looks_clsIn I.kIn hc) hd' ?_)))
  show wpAny _ _ (Builtin.ObjectAttr.storeInDict hp.objs.size (.str f t) f u) _ _ ⟨_, g, d, t + 1, os⟩
  have n0 : ((hp.push (PySem.W.dictOf [] 0)).update a fun o => { o with dict := some hp.objs.size }).Ns1 hp.objs.size fun _ => none :=
    ⟨_, #[], 0, (Heap.get?_update_ne _ _ _ _ (Nat.ne_of_gt as)).trans (Heap.get?_push_size _ rfl), rfl, fun e he => absurd he (by simp), List.Pairwise.nil, fun _ => rfl⟩
  refine PySem.OEX.store_in_old (ns := []) n0 (fun y hy => absurd rfl hy) (Nat.zero_le _) fun h' tk' hn' hs => ?_
  have ho1 : (hp.push (PySem.W.dictOf [] 0)).get? a = some { cls := .ref C, dict := none, data := .fields #[.ref t1, .none, .none, .none, .bool false, .none] } := Heap.get?_push_of_some _ ho
  refine h hp.objs.size _ (I.hok.fresh (Nat.le_refl _)) (Nat.ne_of_gt as) (inv_dict (t1 := t1) I e ry (fun b o nb q => ?_) (Nat.le_refl _) ?_ hn')
  · exact (hs.2 b (Nat.ne_of_lt (Heap.lt_size q))).trans ((Heap.get?_update_ne _ _ _ _ nb).trans (Heap.get?_push_of_some _ q))
  · exact (hs.2 a (Nat.ne_of_lt as)).trans (Heap.get?_update_self _ ho1 rfl)
/-- self.f = y, a further one -/
theorem ostB_old (Z : Bas B nI iI tl) (T : OexB X.K C nI tl) (I : Inv X pins σ H s) (e : H a = some (exo a C (some dx))) (ed : H dx = some (exd dx fs)) (hl : fs.length ≤ 900) (hno : PySem.W.findIn X.K (.ref C) f = some none) (ry : RelV y u)
    (h : ∀ s', Inv X pins σ (upd H dx (exd dx ((f, y) :: fs))) s' → Q () s') : wpAny (model X.prog X.w) A (setAttr (.ref a) f u) Q E s := by
  obtain ⟨t1, ho⟩ := exo_at I.hok e
  obtain ⟨mA, hns, rel⟩ := exd_at I.hok ed
  obtain ⟨hp, g, d, t, os⟩ := s
  obtain ⟨oD, _, _, hoD, _, _⟩ := hns.count (within_of rel)
  have J : PySem.W.InstAt hp a { cls := .ref C, dict := some dx, data := .fields #[.ref t1, .none, .none, .none, .bool false, .none] } C (some oD) := ⟨ho, rfl, rfl, hoD⟩
  obtain ⟨cd, hc, hd'⟩ := PySem.W.any_some T.hd
  have cl : PySem.W.Looks (model X.prog X.w) hp (classData C) cd := PySem.W.looks_clsIn I.kIn hc
  refine PySem.W.set_plain I.kIn J T.sa (PySem.W.osa_openX (s := ⟨hp, g, d, t + 1, os⟩) Z.st I.kIn J T.over (taker_of hno) fun b => ?_)
  show wpAny _ _ (Builtin.ObjectAttr.storeInOwnDict (.ref a) (.ref C) (.str f t) f u b) _ _ _
  have go : ∀ {Qf : Fin → Shared → Prop} {E' : Value → Shared → Prop}, (∀ s', Q () s' → Qf (.done (.ret .none)) s') → wpAny (model X.prog X.w) A.in1 (Builtin.ObjectAttr.storeInDict dx (.str f t) f u) Qf E' ⟨hp, g, d, t + 1, os⟩ := fun {Qf E'} hQ => by
    refine PySem.OEX.store_in_old hns (within_of rel) (by rw [List.length_map]; omega) fun h' tk' hn' hs => ?_
    have ex : ∃ o, h'.get? dx = some o := let ⟨o, _, _, e', _⟩ := hn'; ⟨o, e'⟩
    exact hQ _ (h _ (I.write (t' := tk') (x := dx) (e := dx) (o := exd dx ((f, y) :: fs)) (by rw [ed]; exact trivial) (.inl rfl) (fun b o nb q => (hs.2 b nb).trans q) ex (exd_ok hn' (relO_put ry rel))))
  refine wpAny_bind (wpAny_pure (wpAny_bind (show wpAny _ _ (instanceDict a true) _ _ _ from ?_)))
  unfold instanceDict
  refine wpAny_bind (wpAny_loadPart ho ?_)
  dsimp only
  refine wpAny_bind (cl.at ?_)
  rw [hd']
  first
    | exact wpAny_pure (by exact go fun _ z => z)
    | exact wpAny_bind (wpAny_pure (wpAny_pure (by exact go fun _ z => z)))
theorem oinitB {us : List Value} {Q : Value → Shared → Prop} (Z : Bas B nI iI tl) (T : OexB X.K C nI tl) (I : Inv X pins σ H s) (e : H a = some (exo a C none)) (hl : us.length ≤ sizeLine) (h : ∀ s', Inv X pins σ H s' → Q .none s') : wpAny (model X.prog X.w) A (call (.builtin iI) (.ref a :: us)) Q E s := by
  obtain ⟨nm, N, qn, bs, bm, hdct, sn, sub, ab, col, dd, k0, k1, k2, k3, k5, hC, hT⟩ := PySem.W.excInit_of I.kIn T.cls
  obtain ⟨t1, ho⟩ := exo_at I.hok e
  obtain ⟨hp, g, d, t, os⟩ := s
  refine wpAny_call (PySem.PX.init_base Z.eb hT hC ho hl fun h' t2 k hx => ?_)
  have J := I.write (t' := t) (x := a) (e := a) (o := exo a C none) (by rw [e]; exact trivial) (.inl rfl) k ⟨_, hx⟩ (exo_ok hx)
  have same : upd H a (exo a C none) = H := funext fun b => by
    by_cases c : b = a
    · rw [c, upd_same, e]
    · rw [upd_ne c]
  exact h _ (same ▸ J)
end
/-! ### readings -/
def tBeI (K : PySem.W.Frag) (nI : String) (tl : List Value) (ta : TA) : TE := fun σ H Q => ta σ H fun vs H1 => ∃ (a C : Addr) (ws : List V), vs = .ref a :: ws ∧ ws.length ≤ 1000 ∧ OexB K C nI tl ∧ H1 a = some (exo a C none) ∧ Q .non H1
def tOstB (K : PySem.W.Frag) (nI : String) (tl : List Value) (f : Str) (to te : TE) : TS := fun D σ H => te σ H fun y H1 => to σ H1 fun x H2 => ∃ a C : Addr, x = .ref a ∧ OexB K C nI tl ∧ PySem.W.findIn K (.ref C) f = some none ∧
  ((H2 a = some (exo a C none) ∧ ∀ dx, H2 dx = none → dx ≠ a → D.nx σ (upd (upd H2 dx (exd dx [(f, y)])) a (exo a C (some dx)))) ∨
    ∃ (dx : Addr) (fs : List (Str × V)), H2 a = some (exo a C (some dx)) ∧ H2 dx = some (exd dx fs) ∧ fs.length ≤ 900 ∧ D.nx σ (upd H2 dx (exd dx ((f, y) :: fs))))
section
variable {X : Cx} {o e : Expr} {es : List Expr} {to te : TE} {ta : TA} {f : Str} {p p' p1 p2 pos : Pos} {B nI iI : String} {tl : List Value}
/-- B.__init__(self, ..) -/
theorem pe_beinit {pl : Sem Bool} (Z : Bas B nI iI tl) (hm : X.mg (Str.ofString B) = none) (vV : PySem.W.findCls X.K (.type B) (.type "type") "__init__" = some (.val (.builtin iI))) (ha : PA X (e :: es) ta)
    (hg : Gl X (Str.ofString B) := by rfl) (ev : eval (.Call (.Attribute (.Name (Str.ofString B) p1) "__init__" p2) (e :: es) [] pos) X.env = (do
      let o ← eval (.Name (Str.ofString B) p1) X.env
      standAt p2.atName
      let (g, first) ← holding [o] (getMethod o "__init__" pl)
      callWith pos g first (backTo pos (starEach (e :: es) X.env)) (backToKw pos (keywordEach [] X.env))) := by rfl)
    (se : starEach (e :: es) X.env = (false, eval e X.env) :: starEach es X.env := by rfl) (sn : (backTo pos (starEach es X.env)).any (·.1) = false := by rfl) : PE X (.Call (.Attribute (.Name (Str.ofString B) p1) "__init__" p2) (e :: es) [] pos) (tBeI X.K nI tl ta) := by
  constructor
  intro pins s σ H Q I h
  obtain ⟨m, fr⟩ := I.fr
  refine PySem.W.methodCall_KW (ld_blt I hg hm Z.bt ?_ Z.n1 Z.n2) ev
  refine PySem.W.method_type fr I.ok.mod.kin Z.ty Z.sb vV Z.hi ?_
  show wpAny _ _ (callWith pos (Value.builtin iI) [] (backTo pos (starEach (e :: es) X.env)) []) _ _ _
  refine PyProof.Rows.callWith_method1 (thn (ha.run pos pins _ σ H _ (I.tok _) h) fun us s1 z => ?_) se sn
  obtain ⟨vs, H1, I1, r, a, C, ws, rfl, hl, T, ea, q⟩ := z
  cases r with
  | @cons _ u _ ur ru rr =>
    cases (show u = Value.ref a from ru)
    exact oinitB Z T I1 ea (Nat.le_trans (Nat.le_of_eq (Paired.length rr).symm) (Nat.le_trans hl (by rw [sizeLine_eq]; decide))) fun s2 J => ⟨.non, H1, J, rfl, q⟩
theorem ps_ostB (Z : Bas B nI iI tl) (ho : PE X o to) (he : PE X e te) (hs : swapsWith e (some (.Attribute o f p')) pos.line X.env = pure false := by rfl) : PS X (.Assign [.Attribute o f p'] e pos) (tOstB X.K nI tl f to te) := by
  constructor
  intro pins s σ H D I h
  refine plainObj_wpAny_Assign_Attribute (thn (he.run pins s σ H _ I h) fun v s1 z => ?_) hs
  obtain ⟨y, H1, I1, r1, q1⟩ := z
  refine thn (ho.run pins s1 σ H1 _ I1 q1) fun u s2 z => ?_
  obtain ⟨x, H2, I2, r2, a, C, rfl, T, hno, q⟩ := z
  cases (show u = Value.ref a from r2)
  rcases q with ⟨ea, q⟩ | ⟨dx, fs, ea, ed, hl, q⟩
  · exact ostB_new Z T I2 ea hno r1 fun dx s' n ne J => ⟨σ, _, J, q dx n ne⟩
  · exact ostB_old Z T I2 ea ed hl hno r1 fun s' J => ⟨σ, _, J, q⟩
theorem pmk_oexB {CX : CXT} {x : Str} {C fI : Addr} {k : Nat} {fd : FuncData} {ps : List Str} {sp : Sp} (Z : Bas B nI iI tl) (T : OexB X.K C nI tl) (iC : PySem.W.findIn X.K (.ref C) "__init__" = some (some (.ref fI))) (tI : PySem.W.typeIn X.K (.ref fI) = some (.type "function"))
    (F1 : FnOk X.prog X.w X.K X.mg X.base CX k fI fd ps sp) (hr : Room (k + 1) X.A) (hb : Binds X.K fd ps []) (hx : Passes CX X (fun _ _ _ => False)) (hg : Gl X x) (hm : X.mg x = some (.ref C)) (ha : PA X (e :: es) ta)
    (hdb : (x == ("__debug__" : Str)) = false := by decide) (he : starEach (e :: es) X.env = (false, eval e X.env) :: starEach es X.env := by rfl) (hpl : (backTo pos (starEach es X.env)).any (·.1) = false := by rfl) : PMk X (.Call (.Name x p) (e :: es) [] pos) (tMkO C sp [] ta) := by
  intro pins s σ H Q I h
  refine wpAny_Call_Name_kw (ld_glob I hg hm (PySem.W.callWith_K (h₀ := X.base) I.ok.mod.kin T.kC (thn (ha.run pos pins s σ H _ I h) fun us s1 z => ?_) he hpl) hdb)
  obtain ⟨vs, H1, I1, r1, hz, q1⟩ := z
  refine ⟨I1.kIn, show wpAny _ _ (call (.ref C) us) _ _ _ from ?_⟩
  obtain ⟨nm, N, qn, bs, bm, hdct, sn, sub, ab, col, dd, k0, k1, k2, k3, k5, hC, hT⟩ := PySem.W.excInit_of I1.kIn T.cls
  obtain ⟨hp, g, dr, tk, os⟩ := s1
  have up : hp.objs.size ≤ hp.objs.size + 1 := Nat.le_succ _
  have hq := q1 (hp.objs.size + 1) (I1.hok.fresh up)
  have kk : ∀ b o, hp.get? b = some o → ((hp.push (PySem.W.kdv_tup us)).push (PySem.PX.excO C hp.objs.size)).get? b = some o := fun b o e => Heap.get?_push_of_some _ (Heap.get?_push_of_some _ e)
  have got : ((hp.push (PySem.W.kdv_tup us)).push (PySem.PX.excO C hp.objs.size)).get? (hp.objs.size + 1) = some (PySem.PX.excO C hp.objs.size) := by heap_get
  have I2 : Inv X pins σ (upd H1 (hp.objs.size + 1) (exo (hp.objs.size + 1) C none)) ⟨(hp.push (PySem.W.kdv_tup us)).push (PySem.PX.excO C hp.objs.size), g, dr, tk, os⟩ := I1.laid (t' := tk) (o := exo (hp.objs.size + 1) C none) kk up (exo_ok got)
  have r2 : Vals (V.ref (hp.objs.size + 1) :: (vs ++ [])) (Value.ref (hp.objs.size + 1) :: (us ++ [])) := .cons rfl (r1.append .nil)
  have hl : (Value.ref (hp.objs.size + 1) :: us ++ []).length = ps.length := r2.length.symm.trans (F1.len _ _ _ _ hq)
  have hus : us.length ≤ sizeLine := Nat.le_trans (Nat.le_of_eq (Paired.length r1).symm) (Nat.le_trans hz (by rw [sizeLine_eq]; decide))
  have bd : BindsTo (⟨(hp.push (PySem.W.kdv_tup us)).push (PySem.PX.excO C hp.objs.size), g, dr, tk, os⟩ : Shared) fd ⟨Value.ref (hp.objs.size + 1) :: us, []⟩ (ps.zip (Value.ref (hp.objs.size + 1) :: (us ++ []))) := by
    have z := hb ⟨(hp.push (PySem.W.kdv_tup us)).push (PySem.PX.excO C hp.objs.size), g, dr, tk, os⟩ (Value.ref (hp.objs.size + 1) :: us) I2.kIn hl
    rw [List.cons_append] at z
    exact z
  refine wpAny_call (PySem.PX.call_own Z.eb hT hC (PySem.W.looks_findIn I1.kIn iC) (fun self => PySem.W.bind_fn I1.kIn self tI) hus (codeAny_mono (F1.run _ X.stack _ _ ⟨Value.ref (hp.objs.size + 1) :: us, []⟩ (Value.ref (hp.objs.size + 1) :: (us ++ [])) _ _ (fun _ _ _ => False) (hr.make C us []) (I2.env0.make C us []) bd r2 hq) fun r s' hq' => ?_))
  match r, hq' with
  | .error er, hq' => exact hx pins σ _ _ er s' I2 hq'
  | .ok (.ret u), hq' =>
    obtain ⟨v, H2, os2, bare2, un2, hok2, rv, rfl, d, fs, ea, ed, hd1, q2⟩ := hq'
    obtain ⟨h2, g2, d2, t2, os'⟩ := s'
    exact ⟨rv, mk_end (raises_own T.exC T.tyC) I1 up kk un2 hok2 os2 bare2 ea ed hd1 q2⟩
  | .ok .next, hq' => exact False.elim hq'
  | .ok .brk, hq' => exact False.elim hq'
  | .ok .cont, hq' => exact False.elim hq'
end
/-! ### the class as one fact -/
/-- an __init__ that keeps its arguments in the fields fs -/
def spXB (C : Addr) (fs : List Str) : Sp := fun vs H Q _ => ∃ a us, vs = .ref a :: us ∧ us.length = fs.length ∧ H a = some (exo a C none) ∧ ∀ dx, H dx = none → dx ≠ a → Q .non (upd (upd H dx (exd dx (fs.zip us).reverse)) a (exo a C (some dx)))
section
variable (P : Program) (w : World) (K : PySem.W.Frag) (mg : Str → Option Value) (base : Heap) (k : Nat)
structure XclB (x : Str) (C : Addr) (fs : List Str) : Prop where
  nf : ∀ f ∈ fs, PySem.W.findIn K (.ref C) f = some none
  mx : mg x = some (.ref C)
  ex : ∃ (B nI iI : String) (tl : List Value) (fI : Addr) (fd : FuncData) (ps : List Str), Bas B nI iI tl ∧ OexB K C nI tl ∧ PySem.W.findIn K (.ref C) "__init__" = some (some (.ref fI)) ∧ PySem.W.typeIn K (.ref fI) = some (.type "function") ∧ Binds K fd ps [] ∧ FnOk P w K mg base CX0 k fI fd ps (spXB C fs)
  xf : XfC K C
  ec : ExcC K C
end
section
variable {X : Cx} {k : Nat} {C : Addr} {x : Str} {fs : List Str} {W : WX} {e : Expr} {es : List Expr} {ta : TA} {p pos rpos : Pos}
theorem ps_raiseB (G : XclB X.prog X.w X.K X.mg X.base k x C fs) (hr : Room (k + 1) X.A) (tk : Takes X W) (ha : PA X (e :: es) ta) (hc : X.calm = true := by rfl) (hg : Gl X x := by rfl) (hdb : (x == ("__debug__" : Str)) = false := by decide)
    (se : starEach (e :: es) X.env = (false, eval e X.env) :: starEach es X.env := by rfl) (sn : (backTo pos (starEach es X.env)).any (·.1) = false := by rfl) :
    PS X (.Raise (some (.Call (.Name x p) (e :: es) [] pos)) none rpos) (fun _ σ H => tMkO C (spXB C fs) [] ta σ H fun cls d H' => W cls d σ H') := by
  obtain ⟨B, nI, iI, tl, fI, fd, ps, z, h0, h1, h2, h3, h4⟩ := G.ex
  exact ps_raise hc tk (pmk_oexB z h0 h1 h2 h4 hr h3 pass0 hg G.mx ha hdb se sn)
theorem raiseB_of {us : List V} {H : Hp} {Q : XK} (hl : us.length = fs.length) (h9 : us.length ≤ 1000) (h : ∀ d, H d = none → Q (.ref C) (some d) (upd H d (.xd (fs.zip us).reverse))) : us.length ≤ 1000 ∧ ∀ a, H a = none → spXB C fs (.ref a :: (us ++ [])) (upd H a (exo a C none))
    (fun z H2 => z = .non ∧ ∃ (d : Addr) (gs : List (Str × V)), H2 a = some (exo a C (some d)) ∧ H2 d = some (exd d gs) ∧ H d = none ∧ Q (.ref C) (some d) (upd (del H2 a) d (.xd gs))) (fun _ _ _ => False) := by
  refine ⟨h9, fun a ha => ⟨a, us, by rw [List.append_nil], hl, upd_same, fun dx hd ne => ⟨rfl, dx, (fs.zip us).reverse, upd_same, ?_, ?_, ?_⟩⟩⟩
  · rw [upd_ne ne, upd_same]
  · rw [upd_ne ne] at hd
    exact hd
  · rw [upd_ne ne] at hd
    have e : upd (del (upd (upd (upd H a (exo a C none)) dx (exd dx (fs.zip us).reverse)) a (exo a C (some dx))) a) dx (.xd (fs.zip us).reverse) = upd H dx (.xd (fs.zip us).reverse) := funext fun b => by
      by_cases h1 : b = dx
      · rw [h1, upd_same, upd_same]
      · rw [upd_ne h1, upd_ne h1]
        by_cases h2 : b = a
        · rw [h2, del_same, ha]
        · rw [del_ne h2, upd_ne h2, upd_ne h1, upd_ne h2]
    rw [e]
    exact h dx hd
end
/-! ### the __init__ with one field, with two -/
section
variable {P : Program} {w : World} {K : PySem.W.Frag} {mg : Str → Option Value} {base : Heap} {C f : Addr} {fd : FuncData} {nI iI : String} {tl : List Value}
theorem two_up {H : Hp} {a dx : Addr} {f1 f2 : Str} {v1 v2 : V} (ne : dx ≠ a) : upd (upd (upd H dx (exd dx [(f1, v1)])) a (exo a C (some dx))) dx (exd dx [(f2, v2), (f1, v1)]) = upd (upd H dx (exd dx [(f2, v2), (f1, v1)])) a (exo a C (some dx)) := funext fun b => by
  by_cases h1 : b = dx
  · rw [h1, upd_same, upd_ne ne, upd_same]
  · rw [upd_ne h1]
    by_cases h2 : b = a
    · rw [h2, upd_same, upd_same]
    · rw [upd_ne h2, upd_ne h2, upd_ne h1, upd_ne h1]
end
/-! ### tests -/
def oexBB (nI : String) (tl : List Value) (K : PySem.W.Frag) (C : Addr) : Bool := PySem.W.excInitIn K C tl nI && (PySem.W.excOver K C tl && (PySem.W.hasDictIn K C && (He.eqO (PySem.W.findIn K (.ref C) "__setattr__") (some (some (.builtin "object.__setattr__"))) && (decide (PySem.W.subIn K (.ref C) (.type "BaseException") = some true) && (decide (PySem.W.typeIn K (.ref C) = some (.type "type")) && PySem.W.keepIn K (.ref C))))))
theorem oexBB_ok {nI : String} {tl : List Value} {K : PySem.W.Frag} {C : Addr} (c : oexBB nI tl K C = true) : OexB K C nI tl := by
  obtain ⟨c1, c⟩ := He.ba c
  obtain ⟨c2, c⟩ := He.ba c
  obtain ⟨c3, c⟩ := He.ba c
  obtain ⟨c4, c⟩ := He.ba c
  obtain ⟨c5, c⟩ := He.ba c
  obtain ⟨c6, c7⟩ := He.ba c
  exact ⟨c1, c2, c3, He.eqO_ok c4, of_decide_eq_true c5, of_decide_eq_true c6, c7⟩
/-- all that is asked of an own error class x over the built-in with nI, tl; its fields are fs -/
def fXb (x : Str) (nI : String) (tl : List Value) (fs : List Str) : Ft := fun K => oexBB nI tl K (He.ga K x) && ((fs.all fun f => He.eqO (PySem.W.findIn K (.ref (He.ga K x)) f) (some none)) && (He.eqO (PySem.W.findIn K (.ref (He.ga K x)) "__init__") (some (some (.ref (mA x "__init__" K)))) && (decide (PySem.W.typeIn K (.ref (mA x "__init__" K)) = some (.type "function")) &&
  (xfB K (He.ga K x) && (He.eqO (PySem.W.findIn K (.ref (He.ga K x)) "__class__") (some (some (.builtin "object.__class__"))) && (He.eqO (PySem.W.specialIn K (.builtin "object.__class__") "__get__") (some (some (.builtin "getset_descriptor.__get__"))) && (decide (PySem.W.takesIn K (.builtin "object.__class__") = some true) && decide (PySem.W.mroIn K (He.ga K x) (.type "object") = some true))))))))
theorem fXb_pre {x : Str} {nI : String} {tl : List Value} {fs : List Str} {K : PySem.W.Frag} (c : fXb x nI tl fs K = true) : OexB K (He.ga K x) nI tl ∧ ∀ f ∈ fs, PySem.W.findIn K (.ref (He.ga K x)) f = some none := by
  obtain ⟨c1, c⟩ := He.ba c
  obtain ⟨c2, _⟩ := He.ba c
  exact ⟨oexBB_ok c1, fun f hf => He.eqO_ok (List.all_eq_true.mp c2 f hf)⟩
theorem fXb_ok {P : Program} {w : World} {K : PySem.W.Frag} {mg : Str → Option Value} {base : Heap} {k : Nat} {x : Str} {B nI iI : String} {tl : List Value} {fs : List Str} {fd : FuncData} {ps : List Str} (Z : Bas B nI iI tl) (c : fXb x nI tl fs K = true) (hm : mg x = some (.ref (He.ga K x))) (Bd : Binds K fd ps []) (F : FnOk P w K mg base CX0 k (mA x "__init__" K) fd ps (spXB (He.ga K x) fs)) :
    XclB P w K mg base k x (He.ga K x) fs := by
  obtain ⟨h1, h2⟩ := fXb_pre c
  obtain ⟨_, c⟩ := He.ba c
  obtain ⟨_, c⟩ := He.ba c
  obtain ⟨c3, c⟩ := He.ba c
  obtain ⟨c4, c⟩ := He.ba c
  obtain ⟨c5, c⟩ := He.ba c
  obtain ⟨c6, c⟩ := He.ba c
  obtain ⟨c7, c⟩ := He.ba c
  obtain ⟨c8, c9⟩ := He.ba c
  have xf := xfB_ok c5
  exact ⟨h2, hm, ⟨B, nI, iI, tl, _, fd, ps, Z, h1, He.eqO_ok c3, of_decide_eq_true c4, Bd, F⟩, xf, ⟨xf.ga, xf.gg, xf.exC, xf.hdC, He.eqO_ok c6, He.eqO_ok c7, of_decide_eq_true c8, of_decide_eq_true c9⟩⟩
/-- the built-in's __init__ -/
def fBi (B iI : String) : Ft := fun K => match PySem.W.findCls K (.type B) (.type "type") "__init__" with
  | some (.val (.builtin n)) => n == iI
  | _ => false
theorem fBi_ok {B iI : String} {K : PySem.W.Frag} (c : fBi B iI K = true) : PySem.W.findCls K (.type B) (.type "type") "__init__" = some (.val (.builtin iI)) := by
  unfold fBi at c
  split at c
  · rename_i n e
    rw [e, beq_iff_eq.mp c]
  · cases c
end LL

set_option Elab.async false
set_option linter.all false
set_option maxRecDepth 100000
set_option maxHeartbeats 2000000
/-! LLMeth: len of an own object; a class held by a local name; classmethods. -/
namespace LL
open PySem PySem.Spec PyProof.Rows L2
section
variable {X : Cx} {CX : CXT} {k : Nat} {C f : Addr} {fd : FuncData} {ps : List Str} {sp : Sp} {E : XK}
def rLenO (C : Addr) (sp : Sp) (E : XK) : List V → Hp → VK → Prop := fun xs H Q => ∃ a dx fs, xs = [.ref a] ∧ H a = some (.ins C dx fs) ∧ sp [.ref a] H (fun z H' => ∃ n : Nat, z = .int (n : Nat) ∧ n ≤ 100000 ∧ Q z H') E
theorem call_lenO (G : SpF X.prog X.w X.K X.mg X.base CX k C "__len__" sp) (hr : Rm (k + 1) X.A) (hx : Passes CX X E) : CallR X (.builtin "len") (rLenO C sp E) := by
  obtain ⟨f, fd, ps, hs, hf, hb, F⟩ := G.ex
  intro pins s σ H xs us Q I r h
  obtain ⟨a, dx, fs, rfl, ha, q⟩ := h
  obtain ⟨u, rfl, ru⟩ := r.one
  cases (show u = Value.ref a from ru)
  obtain ⟨od, J⟩ := inst_of I ha
  obtain ⟨m, hF⟩ := I.fr
  refine PySem.W.len_K hF I.ok.mod.kin J hs hf (thn (run_g (us := [.ref a]) (vs := [.ref a]) (dvs := []) F hr.in1 I.env0.in1 hb .nil hx I (.cons rfl .nil) q) fun w s' z => ?_)
  obtain ⟨z', H', I', rz, n, rfl, hn, qz⟩ := z
  obtain ⟨t, rfl⟩ := (show ∃ t, w = Value.int (n : Nat) t from rz)
  exact ⟨⟨by omega, by omega⟩, .int (n : Nat), H', I'.tok _, ⟨_, rfl⟩, qz⟩
/-- the class at C, made -/
structure MkC (P : Program) (w : World) (K : PySem.W.Frag) (mg : Str → Option Value) (base : Heap) (CX : CXT) (k : Nat) (C : Addr) (sp : Sp) : Prop where
  ex : ∃ (x : Str) (dvs : List V) (si : Sp), Mkr P w K mg base CX k x C dvs si ∧ ∀ vs H Q E, sp vs H Q E → ∀ a dx, H a = none → H dx = none → dx ≠ a → si (.ref a :: (vs ++ dvs)) (upd (upd H dx (.own a)) a (.ins C dx [])) (fun v H2 => v = .non ∧ Q (.ref a) H2) E
def tMkL (i : Nat) (C : Addr) (sp : Sp) (E : XK) (t : TA) : TE := fun σ H Q => σ[i]? = some (some (.ref C)) ∧ t σ H fun vs H1 => sp vs H1 Q E
theorem pe_mkL {i : Nat} {x : Str} {p pos : Pos} {e : Expr} {es : List Expr} {t : TA} (G : MkC X.prog X.w X.K X.mg X.base CX k C sp) (hr : Rm (k + 1) X.A) (hx : Passes CX X E) (hN : X.N[i]? = some x) (hv : Vis X.env.scope x) (ha : PA X (e :: es) t)
    (hdb : (x == ("__debug__" : Str)) = false := by decide) (hcd : (x == ("__classdict__" : Str)) = false := by decide)
    (he : starEach (e :: es) X.env = (false, eval e X.env) :: starEach es X.env := by rfl) (hpl : (backTo pos (starEach es X.env)).any (·.1) = false := by rfl) : PE X (.Call (.Name x p) (e :: es) [] pos) (tMkL i C sp E t) := by
  obtain ⟨y, dvs, si, ⟨f, fd, ps, ds, M, hm, hb, hd, F⟩, conv⟩ := G.ex
  refine ⟨fun pins s σ H Q I h => ?_⟩
  obtain ⟨hs, ht⟩ := h
  refine wpAny_Call_Name_kw (thn ((pe_var (pos := p) hN hv hdb hcd).run pins s σ H (fun v H1 => v = .ref C ∧ H1 = H) I ⟨.ref C, hs, rfl, rfl⟩) fun u s1 ⟨v, H1, I1, r1, q1⟩ => ?_)
  obtain ⟨rfl, rfl⟩ := q1
  cases r1
  refine PySem.W.callWith_K (h₀ := X.base) I.ok.mod.kin M.kp (thn (ha.run pos pins s1 σ _ _ I1 ht) fun us s2 ⟨vs, H2, I2, r, q⟩ => ⟨I2.kIn, ?_⟩) he hpl
  exact run_makeG M F hr hb hd hx I2 r (conv vs H2 Q E q)
/-- C.m is a classmethod -/
structure Cmt (P : Program) (w : World) (K : PySem.W.Frag) (mg : Str → Option Value) (base : Heap) (CX : CXT) (k : Nat) (C : Addr) (m : Str) (sp : Sp) : Prop where
  rd : ClX.CRead K C (.type "type")
  ex : ∃ (p g : Addr) (fd : FuncData) (ps : List Str), ClX.CMet K C (.type "type") m p g ∧ Binds K fd ps [] ∧ FnG P w K mg base CX k g fd ps sp
theorem run_gC {pins : List (Addr × Obj)} {σ : L2.St} {H : Hp} {s : Shared} {Q : VK} {us : List Value} {vs : List V} {A : Around} (F : FnG X.prog X.w X.K X.mg X.base CX k f fd ps sp) (hr : Rm k A) (e0 : Env0 X.prog X.w X.K X.mg X.base A X.stack s H) (hb : Binds X.K fd ps []) (hx : Passes CX X E)
    (I : Inv X pins σ H s) (r : Vals vs us) (h : sp vs H Q E) : codeAny (model X.prog X.w) A (.call (.ref f) ⟨us, []⟩) (fun r s' => match r with | .ok (.ret v) => EP X pins σ Q v s' | .ok _ => False | .error e => X.xe e s') s := by
  have hl : (us ++ []).length = ps.length := by
    rw [List.append_nil, ← F.len _ _ _ _ h]
    exact r.length.symm
  have b := hb s us I.kIn hl
  rw [List.append_nil] at b
  have go := F.run A X.stack s H ⟨us, []⟩ us vs Q E hr e0 b r h
  refine codeAny_mono go fun r s' hq => ?_
  match r, hq with
  | .error er, hq => exact hx pins σ H s er s' I hq
  | .ok (.ret u), hq => exact I.after hq
  | .ok .next, hq => exact False.elim hq
  | .ok .brk, hq => exact False.elim hq
  | .ok .cont, hq => exact False.elim hq
theorem pe_cm {o e : Expr} {es : List Expr} {m : Str} {pos apos : Pos} {ta : TE} {t : TA} {pl : Sem Bool} (he : PE X o ta) (G : Cmt X.prog X.w X.K X.mg X.base CX k C m sp) (hr : Rm k X.A) (hx : Passes CX X E) (ha : PA X (e :: es) t)
    (hst : starEach (e :: es) X.env = (false, eval e X.env) :: starEach es X.env := by rfl) (hpl : (backTo pos (starEach es X.env)).any (·.1) = false := by rfl)
    (ht : eval (.Call (.Attribute o m apos) (e :: es) [] pos) X.env = (do
      let ov ← eval o X.env
      standAt apos.atName
      let (f, first) ← holding [ov] (getMethod ov m pl)
      callWith pos f first (backTo pos (starEach (e :: es) X.env)) (backToKw pos (keywordEach [] X.env))) := by rfl) :
    PE X (.Call (.Attribute o m apos) (e :: es) [] pos) (ClX.tCMeth C sp E ta t) := by
  obtain ⟨p, g, fd, ps, c, hb, F⟩ := G.ex
  refine ⟨fun pins s σ H Q I h => ?_⟩
  refine PySem.W.methodCall_KW (pl := pl) (thn (he.run pins s σ H _ I h) fun u s1 ⟨x, H1, I1, rx, ex, q⟩ => ?_) ht
  subst ex
  obtain rfl : u = Value.ref C := rx
  refine ClX.getmethcm_ok I1 G.rd c fun s2 I2 => ?_
  refine ClX.callwith_cm I2 (ClX.base_none I1 (Nat.le_refl _)) c.fi (thn (ha.run pos _ s2 σ H1 _ I2 q) fun us s3 ⟨vs, H2, I3, rv, q2⟩ => ⟨⟨ClX.pin_at I3, I3.kIn⟩, ?_⟩) hst hpl
  refine thn (wpAny_call (PySem.W.method_call (ClX.pin_at I3) (run_gC (us := .ref C :: us) (vs := .ref C :: vs) F hr I3.env0 hb hx I3 (.cons rfl rv) q2))) fun _ _ y => ClX.unpinE y
end
end LL

set_option Elab.async false
set_option linter.all false
set_option maxRecDepth 100000
set_option maxHeartbeats 2000000
/-! M61: rows of a stretch, plainly. -/
namespace ST
open PySem PySem.Spec PyProof.Rows L2 LL
inductive Rw where
  | leaf (n : Int)
  | set (n : Int) (os : List Int)
  | use (os : List Int)
  | stop (l : Str) (os : List Int)
abbrev Rs := List Rw
namespace Rw
def val : Rw → List Int
  | leaf n => [n]
  | set n _ => [n]
  | _ => []
def need : Rw → List Int
  | set _ os => os
  | use os => os
  | _ => []
def ops : Rw → List Int
  | set _ os => os
  | use os => os
  | stop _ os => os
  | _ => []
def isStop : Rw → Bool
  | stop _ _ => true
  | _ => false
def lab : Rw → Str
  | stop l _ => l
  | _ => ""
def dat : Rw → PyData
  | leaf n => .tuple [.str "leaf", .int n]
  | set n os => .tuple [.str "set", .int n, .tuple (os.map PyData.int)]
  | use os => .tuple [.str "use", .tuple (os.map PyData.int)]
  | stop l os => .tuple [.str "stop", .str l, .tuple (os.map PyData.int)]
def opD : Rw → PyData
  | set _ os => .tuple (os.map PyData.int)
  | _ => .none
end Rw
def rw (rs : Rs) (i : Nat) : Rw := rs.getD i (.leaf 0)
theorem rw_of {rs : Rs} {i : Nat} {r : Rw} (h : rs[i]? = some r) : rw rs i = r := by
  unfold rw
  rw [List.getD_eq_getElem?_getD, h]
  rfl
theorem rw_at {rs : Rs} {i : Nat} (h : i < rs.length) : rs[i]? = some (rw rs i) := by
  rw [List.getElem?_eq_getElem h, rw_of (List.getElem?_eq_getElem h)]
def vls (rs : Rs) : Nat → List Int
  | 0 => []
  | i + 1 => vls rs i ++ (rw rs i).val
def plk (rs : Rs) : Nat → List (Key × V)
  | 0 => []
  | i + 1 => plk rs i ++ (rw rs i).val.map fun n => (Sum.inl n, V.int (i : Nat))
def stp (rs : Rs) : Nat → List Nat
  | 0 => []
  | i + 1 => stp rs i ++ if (rw rs i).isStop then [i] else []
def lbls (rs : Rs) : Nat → List Str
  | 0 => []
  | i + 1 => lbls rs i ++ if (rw rs i).isStop then [(rw rs i).lab] else []
def putAll (acc : List (Key × V)) (i : Nat) (os : List Int) : List (Key × V) := os.foldl (fun a v => putK a (Sum.inl v) (.int (i : Nat))) acc
def nk (rs : Rs) : Nat → List (Key × V)
  | 0 => []
  | i + 1 => putAll (nk rs i) i (rw rs i).need
def nkA (rs : Rs) (out : List Int) : List (Key × V) := putAll (nk rs rs.length) rs.length out
abbrev vlA (rs : Rs) : List Int := vls rs rs.length
abbrev plA (rs : Rs) : List (Key × V) := plk rs rs.length
abbrev stA (rs : Rs) : List Nat := stp rs rs.length
def RowOk (vs : List Int) : Rw → Prop
  | .leaf n => n ∉ vs
  | .set n os => n ∉ vs ∧ ∀ o ∈ os, o ∈ vs
  | .use os => ∀ o ∈ os, o ∈ vs
  | .stop _ os => ∀ o ∈ os, o ∈ vs
def IOk (n : Int) : Prop := 0 ≤ n ∧ n < 100000000000000000000000000000
/-- sizes of a row -/
structure RwZ (r : Rw) : Prop where
  val : ∀ n ∈ r.val, IOk n
  opl : r.ops.length ≤ 3
  op : ∀ n ∈ r.ops, IOk n
  lab : r.lab.length ≤ 20
  ok : PyData.strOk r.lab = true
structure RsOk (rs : Rs) : Prop where
  row : ∀ i, i < rs.length → RowOk (vls rs i) (rw rs i)
  z : ∀ i, i < rs.length → RwZ (rw rs i)
  len : rs.length ≤ 30
/-! ### what is set -/
theorem mem_vls {rs : Rs} {n : Int} : ∀ {i : Nat}, n ∈ vls rs i ↔ ∃ j, j < i ∧ n ∈ (rw rs j).val
  | 0 => by simp [vls]
  | i + 1 => by
    rw [vls, List.mem_append, mem_vls]
    constructor
    · rintro (⟨j, hj, h⟩ | h)
      · exact ⟨j, by omega, h⟩
      · exact ⟨i, by omega, h⟩
    · rintro ⟨j, hj, h⟩
      by_cases e : j = i
      · exact .inr (e ▸ h)
      · exact .inl ⟨j, by omega, h⟩
theorem vls_mono {rs : Rs} {n : Int} {i j : Nat} (h : n ∈ vls rs i) (hj : i ≤ j) : n ∈ vls rs j := by
  obtain ⟨l, hl, e⟩ := mem_vls.mp h
  exact mem_vls.mpr ⟨l, by omega, e⟩
theorem val_len (r : Rw) : r.val.length ≤ 1 := by cases r <;> simp [Rw.val]
theorem vls_len (rs : Rs) : ∀ i, (vls rs i).length ≤ i
  | 0 => Nat.le_refl _
  | i + 1 => by
    rw [vls, List.length_append]
    have := vls_len rs i
    have := val_len (rw rs i)
    omega
theorem plk_keys (rs : Rs) : ∀ i, (plk rs i).map (·.1) = (vls rs i).map Sum.inl
  | 0 => rfl
  | i + 1 => by
    rw [plk, vls, List.map_append, List.map_append, plk_keys rs i, List.map_map]
    rfl
theorem plk_len (rs : Rs) (i : Nat) : (plk rs i).length = (vls rs i).length := by
  have := congrArg List.length (plk_keys rs i)
  rwa [List.length_map, List.length_map] at this
theorem valV_none {kvs : List (Key × V)} {k : Key} (h : k ∉ kvs.map (·.1)) : valV kvs k = none := by
  induction kvs with
  | nil => rfl
  | cons p r ih =>
    rw [List.map_cons, List.mem_cons, not_or] at h
    rw [valV_neg fun e => h.1 e.symm]
    exact ih h.2
theorem plk_none {rs : Rs} {i : Nat} {n : Int} (h : n ∉ vls rs i) : valV (plk rs i) (Sum.inl n) = none := valV_none (by
  rw [plk_keys]
  intro z
  obtain ⟨m, hm, e⟩ := List.mem_map.mp z
  exact h (Sum.inl.inj e ▸ hm))
theorem val_app {a b : List (Key × V)} {k : Key} : valV (a ++ b) k = (valV a k).or (valV b k) := by
  unfold valV
  rw [List.find?_append]
  cases a.find? fun kv => decide (kv.1 = k) <;> rfl
theorem val_row {r : Rw} {n : Int} (h : n ∈ r.val) : r.val = [n] := by
  cases r <;> simp_all [Rw.val]
theorem plk_some {rs : Rs} {n : Int} : ∀ {i : Nat}, n ∈ vls rs i → ∃ j, j < i ∧ n ∈ (rw rs j).val ∧ valV (plk rs i) (Sum.inl n) = some (.int (j : Nat))
  | 0, h => by cases h
  | i + 1, h => by
    by_cases c : n ∈ vls rs i
    · obtain ⟨j, hj, hv, e⟩ := plk_some c
      refine ⟨j, by omega, hv, ?_⟩
      rw [plk, val_app, e]
      rfl
    · rw [vls, List.mem_append] at h
      have h := h.resolve_left c
      refine ⟨i, by omega, h, ?_⟩
      rw [plk, val_app, plk_none c, val_row h]
      show valV [(Sum.inl n, V.int (i : Nat))] (Sum.inl n) = _
      rw [valV_pos rfl]
theorem plk_is {rs : Rs} {n : Int} {i : Nat} : (valV (plk rs i) (Sum.inl n)).isSome = decide (n ∈ vls rs i) := by
  by_cases c : n ∈ vls rs i
  · obtain ⟨j, _, _, e⟩ := plk_some c
    rw [e, decide_eq_true c]
    rfl
  · rw [plk_none c, decide_eq_false c]
    rfl
theorem plk_put {rs : Rs} {i : Nat} {n : Int} (hn : n ∉ vls rs i) (hv : (rw rs i).val = [n]) : putK (plk rs i) (Sum.inl n) (.int (i : Nat)) = plk rs (i + 1) := by
  rw [putK_new _ (plk_none hn), plk, hv]
  rfl
theorem plk_no {rs : Rs} {i : Nat} (hv : (rw rs i).val = []) : plk rs (i + 1) = plk rs i := by
  rw [plk, hv]
  exact List.append_nil _
/-! ### stops -/
theorem stp_lt {rs : Rs} {s : Nat} : ∀ {i : Nat}, s ∈ stp rs i → s < i ∧ (rw rs s).isStop = true
  | 0, h => by cases h
  | i + 1, h => by
    rw [stp, List.mem_append] at h
    rcases h with h | h
    · have := stp_lt h
      exact ⟨by omega, this.2⟩
    · split at h
      · rename_i c
        cases List.mem_singleton.mp h
        exact ⟨by omega, c⟩
      · cases h
theorem stp_len (rs : Rs) : ∀ i, (stp rs i).length ≤ i
  | 0 => Nat.le_refl _
  | i + 1 => by
    rw [stp, List.length_append]
    have := stp_len rs i
    split
    · simp only [List.length_singleton]; omega
    · simp only [List.length_nil]; omega
theorem lbls_eq (rs : Rs) : ∀ i, lbls rs i = (stp rs i).map fun s => (rw rs s).lab
  | 0 => rfl
  | i + 1 => by
    rw [lbls, stp, List.map_append, lbls_eq rs i]
    split <;> rfl
/-! ### needs -/
theorem putAll_snoc (acc : List (Key × V)) (i : Nat) (os : List Int) (v : Int) : putAll acc i (os ++ [v]) = putK (putAll acc i os) (Sum.inl v) (.int (i : Nat)) := by
  unfold putAll
  rw [List.foldl_append]
  rfl
theorem putAll_len (i : Nat) (os : List Int) : ∀ acc : List (Key × V), (putAll acc i os).length ≤ acc.length + os.length := by
  induction os with
  | nil => exact fun acc => Nat.le_refl _
  | cons v os ih =>
    intro acc
    have := ih (putK acc (Sum.inl v) (.int (i : Nat)))
    have := length_putK acc (Sum.inl v) (.int (i : Nat))
    show (putAll (putK acc _ _) i os).length ≤ acc.length + (os.length + 1)
    omega
theorem need_le (r : Rw) : r.need.length ≤ r.ops.length := by cases r <;> simp [Rw.need, Rw.ops]
theorem nk_len {rs : Rs} (h : RsOk rs) : ∀ i, i ≤ rs.length → (nk rs i).length ≤ 3 * i
  | 0, _ => Nat.le_refl _
  | i + 1, hi => by
    rw [nk]
    have := putAll_len i (rw rs i).need (nk rs i)
    have := nk_len h i (by omega)
    have := need_le (rw rs i)
    have := (h.z i (by omega)).opl
    omega
def AllInt (kvs : List (Key × V)) : Prop := ∀ k v, valV kvs k = some v → ∃ j : Int, v = .int j
theorem putAll_int (i : Nat) (os : List Int) : ∀ {acc : List (Key × V)}, AllInt acc → AllInt (putAll acc i os) := by
  induction os with
  | nil => exact fun h => h
  | cons o os ih =>
    intro acc h
    refine ih (acc := putK acc (Sum.inl o) (.int (i : Nat))) fun k v e => ?_
    rw [valV_put] at e
    split at e
    · exact ⟨_, (Option.some.inj e).symm⟩
    · exact h k v e
theorem nk_int (rs : Rs) : ∀ i, AllInt (nk rs i)
  | 0 => fun k v e => by cases e
  | i + 1 => putAll_int _ _ (nk_int rs i)
theorem nkA_int (rs : Rs) (out : List Int) : AllInt (nkA rs out) := putAll_int _ _ (nk_int rs _)
/-! ### live -/
def iV : V → Int
  | .int j => j
  | _ => -1
def plc (rs : Rs) (n : Int) : Int := iV ((valV (plA rs) (Sum.inl n)).getD .non)
def nd (rs : Rs) (out : List Int) (n : Int) : Int := iV ((valV (nkA rs out) (Sum.inl n)).getD (.int (-1)))
theorem nd_eq (rs : Rs) (out : List Int) (n : Int) : (valV (nkA rs out) (Sum.inl n)).getD (.int (-1)) = .int (nd rs out n) := by
  unfold nd
  cases e : valV (nkA rs out) (Sum.inl n) with
  | none => rfl
  | some v =>
    obtain ⟨j, rfl⟩ := nkA_int rs out _ _ e
    rfl
theorem plc_eq {rs : Rs} {n : Int} (h : n ∈ vlA rs) : ∃ j : Nat, j < rs.length ∧ plc rs n = j ∧ n ∈ (rw rs j).val ∧ valV (plA rs) (Sum.inl n) = some (.int (plc rs n)) := by
  obtain ⟨j, hj, hv, e⟩ := plk_some h
  have p : plc rs n = j := by
    unfold plc plA
    rw [e]
    rfl
  exact ⟨j, hj, p, hv, by unfold plA; rw [p, e]⟩
def spt (rs : Rs) (k : Nat) : Nat := (stA rs).getD k 0
theorem spt_at {rs : Rs} {k : Nat} (h : k < (stA rs).length) : (stA rs)[k]? = some (spt rs k) := by
  unfold spt
  rw [List.getD_eq_getElem?_getD, List.getElem?_eq_getElem h]
  rfl
theorem spt_stop {rs : Rs} {k : Nat} (h : k < (stA rs).length) : spt rs k < rs.length ∧ (rw rs (spt rs k)).isStop = true := stp_lt (List.mem_of_getElem? (spt_at h))
def pres (rs : Rs) (n : Int) (k : Nat) : Bool := decide (plc rs n < (spt rs k : Int))
def live (rs : Rs) (out : List Int) (n : Int) (k : Nat) : Bool := pres rs n k && decide ((spt rs k : Int) < nd rs out n)
/-! ### values are different -/
theorem row_uniq {rs : Rs} (h : RsOk rs) {n : Int} : ∀ {i j : Nat}, i < rs.length → j < rs.length → n ∈ (rw rs i).val → n ∈ (rw rs j).val → i = j := by
  have key : ∀ {i j : Nat}, i < j → j < rs.length → n ∈ (rw rs i).val → ¬ n ∈ (rw rs j).val := by
    intro i j hij hj hi hn
    have hv : n ∈ vls rs j := mem_vls.mpr ⟨i, hij, hi⟩
    have ro := h.row j hj
    cases e : rw rs j with
    | leaf m =>
      rw [e] at ro hn
      cases List.mem_singleton.mp hn
      exact ro hv
    | set m os =>
      rw [e] at ro hn
      cases List.mem_singleton.mp hn
      exact ro.1 hv
    | use os => rw [e] at hn; cases hn
    | stop l os => rw [e] at hn; cases hn
  intro i j hi hj h1 h2
  rcases Nat.lt_trichotomy i j with c | c | c
  · exact absurd h2 (key c hj h1)
  · exact c
  · exact absurd h1 (key c hi h2)
theorem vls_nd {rs : Rs} (h : RsOk rs) : ∀ i, i ≤ rs.length → (vls rs i).Nodup
  | 0, _ => List.nodup_nil
  | i + 1, hi => by
    rw [vls]
    have ih := vls_nd h i (by omega)
    have ro := h.row i (by omega)
    cases e : rw rs i with
    | leaf m =>
      rw [e] at ro
      exact List.nodup_append.mpr ⟨ih, by simp [Rw.val], fun a ha b hb => by cases List.mem_singleton.mp hb; exact fun z => ro (z ▸ ha)⟩
    | set m os =>
      rw [e] at ro
      exact List.nodup_append.mpr ⟨ih, by simp [Rw.val], fun a ha b hb => by cases List.mem_singleton.mp hb; exact fun z => ro.1 (z ▸ ha)⟩
    | use os => simpa [Rw.val] using ih
    | stop l os => simpa [Rw.val] using ih
theorem vls_ok {rs : Rs} (h : RsOk rs) {n : Int} {i : Nat} (hi : i ≤ rs.length) (hn : n ∈ vls rs i) : IOk n := by
  obtain ⟨j, hj, e⟩ := mem_vls.mp hn
  exact (h.z j (by omega)).val n e
/-! ### other rows -/
theorem vls_congr {rs rs' : Rs} : ∀ {i : Nat}, (∀ j, j < i → (rw rs j).val = (rw rs' j).val) → vls rs i = vls rs' i
  | 0, _ => rfl
  | i + 1, h => by rw [vls, vls, vls_congr fun j hj => h j (by omega), h i (by omega)]
theorem RsOk.take {rs : Rs} (h : RsOk rs) (n : Nat) : RsOk (rs.take n) := by
  have e : ∀ i, i < (rs.take n).length → rw (rs.take n) i = rw rs i := fun i hi => by
    rw [List.length_take] at hi
    refine rw_of ?_
    rw [List.getElem?_take_of_lt (by omega)]
    exact rw_at (by omega)
  refine ⟨fun i hi => ?_, fun i hi => ?_, ?_⟩
  · rw [e i hi, vls_congr fun j hj => congrArg Rw.val (e j (by omega))]
    rw [List.length_take] at hi
    exact h.row i (by omega)
  · rw [e i hi]
    rw [List.length_take] at hi
    exact h.z i (by omega)
  · rw [List.length_take]
    have := h.len
    omega
theorem rw_app {rs : Rs} {r : Rw} {i : Nat} (hi : i < rs.length) : rw (rs ++ [r]) i = rw rs i := rw_of (by rw [List.getElem?_append_left hi]; exact rw_at hi)
theorem rw_last {rs : Rs} {r : Rw} : rw (rs ++ [r]) rs.length = r := rw_of (by rw [List.getElem?_append_right (Nat.le_refl _), Nat.sub_self]; rfl)
theorem vls_app {rs : Rs} {r : Rw} {i : Nat} (hi : i ≤ rs.length) : vls (rs ++ [r]) i = vls rs i := vls_congr fun j hj => congrArg Rw.val (rw_app (by omega))
theorem RsOk.snoc {rs : Rs} (h : RsOk rs) {r : Rw} (hr : RowOk (vlA rs) r) (hz : RwZ r) (hl : rs.length < 30) : RsOk (rs ++ [r]) := by
  refine ⟨fun i hi => ?_, fun i hi => ?_, ?_⟩
  · rw [List.length_append, List.length_singleton] at hi
    by_cases c : i = rs.length
    · subst c
      rw [rw_last, vls_app (Nat.le_refl _)]
      exact hr
    · rw [rw_app (by omega), vls_app (by omega)]
      exact h.row i (by omega)
  · rw [List.length_append, List.length_singleton] at hi
    by_cases c : i = rs.length
    · subst c
      rw [rw_last]
      exact hz
    · rw [rw_app (by omega)]
      exact h.z i (by omega)
  · rw [List.length_append, List.length_singleton]
    omega
theorem vlA_snoc {rs : Rs} {r : Rw} : vlA (rs ++ [r]) = vlA rs ++ r.val := by
  unfold vlA
  rw [List.length_append, List.length_singleton, vls, vls_app (Nat.le_refl _), rw_last]
theorem RsOk.set {rs : Rs} (h : RsOk rs) {a : Nat} (ha : a < rs.length) {r : Rw} (hv : r.val = (rw rs a).val) (hr : RowOk (vls rs a) r) (hz : RwZ r) : RsOk (rs.set a r) := by
  have e : ∀ i, rw (rs.set a r) i = if i = a then r else rw rs i := fun i => by
    by_cases c : i = a
    · subst c
      rw [if_pos rfl]
      exact rw_of (by rw [List.getElem?_set_self ha])
    · rw [if_neg c]
      unfold rw
      rw [List.getD_eq_getElem?_getD, List.getD_eq_getElem?_getD, List.getElem?_set_ne fun z => c z.symm]
  have ev : ∀ i, vls (rs.set a r) i = vls rs i := fun i => vls_congr fun j _ => by
    rw [e]
    split
    · rename_i c
      rw [c, hv]
    · rfl
  refine ⟨fun i hi => ?_, fun i hi => ?_, ?_⟩
  · rw [ev, e]
    rw [List.length_set] at hi
    split
    · rename_i c
      rw [c]
      exact hr
    · exact h.row i hi
  · rw [e]
    rw [List.length_set] at hi
    split
    · exact hz
    · exact h.z i hi
  · rw [List.length_set]
    exact h.len
theorem vlA_set {rs : Rs} {a : Nat} (ha : a < rs.length) {r : Rw} (hv : r.val = (rw rs a).val) : vlA (rs.set a r) = vlA rs := by
  unfold vlA
  rw [List.length_set]
  refine vls_congr fun j _ => ?_
  by_cases c : j = a
  · subst c
    rw [rw_of (by rw [List.getElem?_set_self ha]), hv]
  · unfold rw
    rw [List.getD_eq_getElem?_getD, List.getD_eq_getElem?_getD, List.getElem?_set_ne fun z => c z.symm]
theorem vlA_take {rs : Rs} {n : Nat} (hn : n ≤ rs.length) : vlA (rs.take n) = vls rs n := by
  unfold vlA
  rw [List.length_take, Nat.min_eq_left hn]
  refine vls_congr fun j hj => congrArg Rw.val (rw_of ?_)
  rw [List.getElem?_take_of_lt hj]
  exact rw_at (by omega)
def LabOk (rs : Rs) : Prop := ∀ r ∈ rs, r.lab.length ≤ 6
end ST

set_option Elab.async false
set_option linter.all false
set_option maxRecDepth 100000
set_option maxHeartbeats 2000000
/-! LLDeep: a pair of ints in a list or a tuple of such. -/
namespace LL
open PySem PySem.Spec PyProof.Rows L2
abbrev IP := Int × Int
def PrV (H : Hp) (v : V) (p : IP) : Prop := ∃ t, v = .ref t ∧ H t = some (.tup [.int p.1, .int p.2])
theorem PrV.same {H H' : Hp} {v : V} {p : IP} (h : PrV H v p) (s : Same H H') : PrV H' v p := let ⟨t, e, x⟩ := h; ⟨t, e, s _ _ x⟩
structure Prs (H : Hp) (vs : List V) (ps : List IP) : Prop where
  len : vs.length = ps.length
  at_ : ∀ (i : Nat) v p, vs[i]? = some v → ps[i]? = some p → PrV H v p
theorem Prs.same {H H' : Hp} {vs : List V} {ps : List IP} (h : Prs H vs ps) (s : Same H H') : Prs H' vs ps := ⟨h.len, fun i v p e1 e2 => (h.at_ i v p e1 e2).same s⟩
def PsAt (H : Hp) (a : Addr) (ps : List IP) : Prop := ∃ vs, Lt H a vs ∧ Prs H vs ps
theorem PsAt.same {H H' : Hp} {a : Addr} {ps : List IP} (h : PsAt H a ps) (s : Same H H') : PsAt H' a ps := let ⟨vs, l, r⟩ := h; ⟨vs, l.same s, r.same s⟩
def ipD (p : IP) : PyData := .tuple [.int p.1, .int p.2]
theorem ipD_inj {p q : IP} (h : ipD p = ipD q) : p = q := by
  unfold ipD at h
  simp only [PyData.tuple.injEq, List.cons.injEq, PyData.int.injEq, and_true] at h
  exact Prod.ext h.1 h.2
theorem pn_ip (p : IP) : Pn 1 (ipD p) := fun d hd => by
  rcases List.mem_cons.mp hd with rfl | hd
  · trivial
  · cases List.mem_singleton.mp hd
    trivial
theorem pn_ips (ps : List IP) : Pn 2 (.list (ps.map ipD)) := fun d hd => by
  obtain ⟨p, _, rfl⟩ := List.mem_map.mp hd
  exact pn_ip p
theorem pn_ipt (ps : List IP) : Pn 2 (.tuple (ps.map ipD)) := fun d hd => by
  obtain ⟨p, _, rfl⟩ := List.mem_map.mp hd
  exact pn_ip p
theorem ip_any (ps : List IP) (p : IP) : ((ps.map ipD).any fun z => PyData.eqv z (ipD p)) = decide (p ∈ ps) := by
  rw [List.any_map]
  have e : ∀ q : IP, ((fun z => PyData.eqv z (ipD p)) ∘ ipD) q = decide (q = p) := fun q => by
    show PyData.eqv (ipD q) (ipD p) = _
    by_cases h : q = p
    · rw [decide_eq_true h, (Pn.eqv (pn_ip q) (pn_ip p)).mpr (by rw [h])]
    · rw [decide_eq_false h]
      exact Bool.eq_false_iff.mpr fun z => h (ipD_inj ((Pn.eqv (pn_ip q) (pn_ip p)).mp z))
  rw [show ((fun z => PyData.eqv z (ipD p)) ∘ ipD) = fun q => decide (q = p) from funext e]
  by_cases h : p ∈ ps
  · rw [decide_eq_true h]
    exact List.any_eq_true.mpr ⟨p, h, decide_eq_true rfl⟩
  · rw [decide_eq_false h]
    exact List.any_eq_false.mpr fun q hq z => h (of_decide_eq_true z ▸ hq)
section
variable {K : PySem.W.Frag} {H : Hp}
theorem dp_ip {v : V} {p : IP} (h : PrV H v p) : Dp K H v (ipD p) := by
  obtain ⟨t, rfl, ht⟩ := h
  exact .tup (SqT.of ht) (.cons (.int _) (.cons (.int _) .nil))
theorem dp_ips {vs : List V} {ps : List IP} (h : Prs H vs ps) : DpAll K H vs (ps.map ipD) := dpa_at (by rw [List.length_map]; exact h.len) fun i v d e1 e2 => by
  rw [List.getElem?_map] at e2
  obtain ⟨p, hp, rfl⟩ := Option.map_eq_some_iff.mp e2
  exact dp_ip (h.at_ i v p e1 hp)
end
/-- p in ps -/
def rInP (neg : Bool) : R2 := fun x y H Q => ∃ (p : IP) (a : Addr) (ps : List IP), PrV H x p ∧ y = .ref a ∧ PsAt H a ps ∧ Q (.bl (if neg then !decide (p ∈ ps) else decide (p ∈ ps))) H
section
variable {X : Cx}
theorem op_inP (hu : X.A.units + 65 < cLine) : OpR X (compareOp .In) (rInP false) := by
  intro pins s σ H x y v u Q I rx ry h
  obtain ⟨p, a, ps, hx, rfl, ⟨vs, hl, pr⟩, q⟩ := h
  obtain ⟨as, r1⟩ := Dp.reads I _ x v (dp_ip (K := X.K) hx) rx
  have sd := (pn_ip p).shp (n := 1) (by decide)
  have q : Q (.bl ((ps.map ipD).any fun z => PyData.eqv z (ipD p))) H := by rw [ip_any]; exact q
  rcases hl with hl | hl
  · obtain ⟨bs, r2⟩ := Dp.reads I _ _ u (.lst (SqL.of (K := X.K) hl) (dp_ips pr)) ry
    exact SeqAt.in_list_reads r2 r1 (SeqAt.canLay_of_shaped ((pn_ips ps).shp (n := 2) (by decide))) (SeqAt.canLay_of_shaped sd) (room_in_shaped sd hu) ⟨.bl _, H, I, rfl, q⟩
  · obtain ⟨bs, r2⟩ := Dp.reads I _ _ u (.tup (SqT.of (K := X.K) hl) (dp_ips pr)) ry
    exact SeqAt.in_tuple_reads r2 r1 (SeqAt.canLay_of_shaped ((pn_ipt ps).shp (n := 2) (by decide))) (SeqAt.canLay_of_shaped sd) (room_in_shaped sd hu) ⟨.bl _, H, I, rfl, q⟩
theorem op_notInP (hu : X.A.units + 65 < cLine) : OpR X (compareOp .NotIn) (rInP true) := by
  intro pins s σ H x y v u Q I rx ry h
  obtain ⟨p, a, ps, hx, rfl, ⟨vs, hl, pr⟩, q⟩ := h
  obtain ⟨as, r1⟩ := Dp.reads I _ x v (dp_ip (K := X.K) hx) rx
  have sd := (pn_ip p).shp (n := 1) (by decide)
  have q : Q (.bl (!(ps.map ipD).any fun z => PyData.eqv z (ipD p))) H := by rw [ip_any]; exact q
  rcases hl with hl | hl
  · obtain ⟨bs, r2⟩ := Dp.reads I _ _ u (.lst (SqL.of (K := X.K) hl) (dp_ips pr)) ry
    exact SeqAt.notIn_list_reads r2 r1 (SeqAt.canLay_of_shaped ((pn_ips ps).shp (n := 2) (by decide))) (SeqAt.canLay_of_shaped sd) (room_in_shaped sd hu) ⟨.bl _, H, I, rfl, q⟩
  · obtain ⟨bs, r2⟩ := Dp.reads I _ _ u (.tup (SqT.of (K := X.K) hl) (dp_ips pr)) ry
    exact SeqAt.notIn_tuple_reads r2 r1 (SeqAt.canLay_of_shaped ((pn_ipt ps).shp (n := 2) (by decide))) (SeqAt.canLay_of_shaped sd) (room_in_shaped sd hu) ⟨.bl _, H, I, rfl, q⟩
end
theorem un65 {k : Nat} {A : Around} (hr : Rm k A) : A.units + 65 < cLine := by
  have := hr.r.un
  omega
/-! ### a slice of a list or a tuple -/
def rSlQ (K : PySem.W.Frag) : V → Option Int → Option Int → Hp → VK → Prop := fun x lo hi H Q => rSlL K x lo hi H Q ∨ rSlA K x lo hi H Q
theorem sl_seqA {X : Cx} : SlR X (rSlQ X.K) := sl_list.or sl_tupA
theorem cut_lt {K : PySem.W.Frag} {H : Hp} {a : Addr} {vs : List V} {n : Nat} {Q : VK} (h : Lt H a vs) (hn : n ≤ vs.length) (q : ∀ H' b, Same H H' → Lt H' b (vs.take n) → Q (.ref b) H') : rSlQ K (.ref a) none (some (n : Int)) H Q := by
  rcases h with h | h
  · refine .inl ⟨a, vs, rfl, SqL.of h, fun p hp => ?_⟩
    rw [cutV_to]
    exact q _ p (same_upd hp) (.inl upd_same)
  · have e1 : HT.sIx vs.length 0 none = 0 := rfl
    have e2 : HT.sIx vs.length vs.length (some (n : Int)) = n := by
      show (if (n : Int) < 0 then ((n : Int) + (vs.length : Int)).toNat else min (n : Int).toNat vs.length) = n
      rw [if_neg (by omega)]
      omega
    refine .inr ⟨a, vs, rfl, SqT.of h, fun w => ?_, fun w p hp => ?_⟩
    · rw [e2] at w
      refine q H a Same.rfl' (.inr ?_)
      rw [w.2, List.take_length]
      exact h
    · rw [cutV_to]
      exact q _ p (same_upd hp) (.inr upd_same)
end LL

set_option Elab.async false
set_option linter.all false
set_option maxRecDepth 100000
set_option maxHeartbeats 2000000
/-! M62: what is lost, what is known, plainly. -/
namespace ST
open PySem PySem.Spec PyProof.Rows L2 LL
@[elab_as_elim] theorem rev_ind {p : List Int → Prop} (h0 : p []) (hs : ∀ l a, p l → p (l ++ [a])) (l : List Int) : p l := by
  have key : ∀ r : List Int, p r.reverse := by
    intro r
    induction r with
    | nil => exact h0
    | cons a r ih =>
      rw [List.reverse_cons]
      exact hs _ _ ih
  have := key l.reverse
  rwa [List.reverse_reverse] at this
abbrev Kps := List (Int × Int)
/-- the row of a value -/
def rwv (rs : Rs) (n : Int) : Rw := rw rs (plc rs n).toNat
/-- nothing, or an operand that is lost, tells it -/
def opn (rs : Rs) (lo : List Int) (n : Int) : Bool := match rwv rs n with
  | .set _ os => os.any (· ∈ lo)
  | _ => true
def isLost (rs : Rs) (out : List Int) (kp : Kps) (prev : List Int) (k : Nat) (lo : List Int) (n : Int) : Bool := (opn rs lo n && !decide ((n, (k : Int)) ∈ kp) && !live rs out n k) || decide (n ∈ prev)
/-- what is lost at a stop, of the first values -/
def lostF (rs : Rs) (out : List Int) (kp : Kps) (prev : List Int) (k : Nat) : List Int → List Int
  | l => l.foldl (fun lo n => if isLost rs out kp prev k lo n then lo ++ [n] else lo) []
def prs (rs : Rs) (k : Nat) : List Int := (vlA rs).filter (pres rs · k)
def lostA (rs : Rs) (out : List Int) (kp : Kps) : Nat → List Int
  | 0 => lostF rs out kp [] 0 (prs rs 0)
  | k + 1 => lostF rs out kp (lostA rs out kp k) (k + 1) (prs rs (k + 1))
def prevL (rs : Rs) (out : List Int) (kp : Kps) : Nat → List Int
  | 0 => []
  | k + 1 => lostA rs out kp k
theorem lostA_eq (rs : Rs) (out : List Int) (kp : Kps) (k : Nat) : lostA rs out kp k = lostF rs out kp (prevL rs out kp k) k (prs rs k) := by cases k <;> rfl
theorem lostF_snoc (rs : Rs) (out : List Int) (kp : Kps) (prev : List Int) (k : Nat) (l : List Int) (n : Int) : lostF rs out kp prev k (l ++ [n]) = if isLost rs out kp prev k (lostF rs out kp prev k l) n then lostF rs out kp prev k l ++ [n] else lostF rs out kp prev k l := by
  unfold lostF
  rw [List.foldl_append]
  rfl
theorem lostF_sub {rs : Rs} {out : List Int} {kp : Kps} {prev : List Int} {k : Nat} {n : Int} : ∀ {l : List Int}, n ∈ lostF rs out kp prev k l → n ∈ l := by
  intro l
  induction l using rev_ind with
  | h0 => exact fun h => h
  | hs l m ih =>
    intro h
    rw [lostF_snoc] at h
    split at h
    · rcases List.mem_append.mp h with h | h
      · exact List.mem_append_left _ (ih h)
      · exact List.mem_append_right _ h
    · exact List.mem_append_left _ (ih h)
/-- each of them once: lost just by its own test -/
theorem lostF_mem {rs : Rs} {out : List Int} {kp : Kps} {prev : List Int} {k : Nat} : ∀ {l : List Int}, l.Nodup → ∀ {i : Nat} {n : Int}, l[i]? = some n → (n ∈ lostF rs out kp prev k l ↔ isLost rs out kp prev k (lostF rs out kp prev k (l.take i)) n = true) := by
  intro l
  induction l using rev_ind with
  | h0 => intro _ i n h; simp at h
  | hs l m ih =>
    intro nd i n h
    obtain ⟨nd1, _, nd3⟩ := List.nodup_append.mp nd
    have nm : m ∉ l := fun z => nd3 m z m (List.mem_singleton.mpr rfl) rfl
    by_cases c : i < l.length
    · rw [List.getElem?_append_left c] at h
      have hn : n ∈ l := List.mem_of_getElem? h
      have nnm : n ≠ m := fun z => nm (z ▸ hn)
      rw [List.take_append_of_le_length (by omega), ← ih nd1 h, lostF_snoc]
      split
      · rw [List.mem_append, List.mem_singleton]
        exact ⟨fun z => z.resolve_right nnm, .inl⟩
      · exact Iff.rfl
    · have hi := (List.getElem?_eq_some_iff.mp h).1
      rw [List.length_append, List.length_singleton] at hi
      have ei : i = l.length := by omega
      subst ei
      rw [List.getElem?_append_right (Nat.le_refl _), Nat.sub_self] at h
      cases h
      rw [List.take_left' rfl, lostF_snoc]
      by_cases q : isLost rs out kp prev k (lostF rs out kp prev k l) m = true
      · rw [if_pos q, List.mem_append]
        exact ⟨fun _ => q, fun _ => .inr (List.mem_singleton.mpr rfl)⟩
      · rw [if_neg q]
        exact ⟨fun z => absurd (lostF_sub z) nm, fun z => absurd z q⟩
/-! ### what is known -/
def isKnown (rs : Rs) (out : List Int) (kp : Kps) (k : Nat) (kn : List Int) (n : Int) : Bool := live rs out n k || decide ((n, (k : Int)) ∈ kp) || (match rwv rs n with
  | .set _ os => os.all (· ∈ kn)
  | _ => false)
def knF (rs : Rs) (out : List Int) (kp : Kps) (lost : List Int) (k : Nat) (l : List Int) : List Int := l.foldl (fun kn n => if !decide (n ∈ lost) && isKnown rs out kp k kn n then kn ++ [n] else kn) []
theorem knF_snoc (rs : Rs) (out : List Int) (kp : Kps) (lost : List Int) (k : Nat) (l : List Int) (n : Int) : knF rs out kp lost k (l ++ [n]) = if !decide (n ∈ lost) && isKnown rs out kp k (knF rs out kp lost k l) n then knF rs out kp lost k l ++ [n] else knF rs out kp lost k l := by
  unfold knF
  rw [List.foldl_append]
  rfl
def knA (rs : Rs) (out : List Int) (kp : Kps) : Nat → List Int
  | 0 => knF rs out kp [] 0 (prs rs 0)
  | k + 1 => knF rs out kp ((prs rs k).filter fun n => !decide (n ∈ knA rs out kp k)) (k + 1) (prs rs (k + 1))
def lstA (rs : Rs) (out : List Int) (kp : Kps) : Nat → List Int
  | 0 => []
  | k + 1 => (prs rs k).filter fun n => !decide (n ∈ knA rs out kp k)
theorem knA_eq (rs : Rs) (out : List Int) (kp : Kps) (k : Nat) : knA rs out kp k = knF rs out kp (lstA rs out kp k) k (prs rs k) := by cases k <;> rfl
/-! ### by rows -/
abbrev pj (rs : Rs) (k j : Nat) : List Int := (vls rs j).filter (pres rs · k)
theorem pj_snoc {rs : Rs} {k j : Nat} {n : Int} (hv : (rw rs j).val = [n]) : pj rs k (j + 1) = pj rs k j ++ if pres rs n k then [n] else [] := by
  unfold pj
  rw [vls, hv, List.filter_append]
  cases e : pres rs n k <;> simp [e]
theorem pj_no {rs : Rs} {k j : Nat} (hv : (rw rs j).val = []) : pj rs k (j + 1) = pj rs k j := by
  unfold pj
  rw [vls, hv, List.append_nil]
theorem val_cases (r : Rw) : r.val = [] ∨ ∃ n, r.val = [n] := by
  cases r with
  | leaf n => exact .inr ⟨n, rfl⟩
  | set n os => exact .inr ⟨n, rfl⟩
  | use os => exact .inl rfl
  | stop l os => exact .inl rfl
theorem plc_of {rs : Rs} (ok : RsOk rs) {n : Int} {j : Nat} (hj : j < rs.length) (hv : n ∈ (rw rs j).val) : plc rs n = j := by
  obtain ⟨j', hj', ep, hv', _⟩ := plc_eq (mem_vls.mpr ⟨j, hj, hv⟩)
  rw [ep, row_uniq ok hj' hj hv' hv]
theorem pres_of {rs : Rs} (ok : RsOk rs) {n o : Int} {k j : Nat} (hj : j < rs.length) (hv : n ∈ (rw rs j).val) (ho : o ∈ vls rs j) (hp : pres rs n k = true) : o ∈ pj rs k j := by
  refine List.mem_filter.mpr ⟨ho, ?_⟩
  obtain ⟨i, hi, hi'⟩ := mem_vls.mp ho
  unfold pres at hp ⊢
  have := of_decide_eq_true hp
  rw [plc_of ok hj hv] at this
  rw [plc_of ok (by omega) hi']
  exact decide_eq_true (by omega)
theorem row_ops {vs : List Int} {r : Rw} (h : RowOk vs r) : ∀ o ∈ r.ops, o ∈ vs := by
  cases r with
  | leaf n => exact fun o ho => by cases ho
  | set n os => exact h.2
  | use os => exact h
  | stop l os => exact h
theorem kn_rows {rs : Rs} (ok : RsOk rs) {out : List Int} {kp : Kps} {ls prev : List Int} {k : Nat} (he : ∀ n, n ∈ prs rs k → (n ∈ ls ↔ n ∈ prev)) : ∀ j, j ≤ rs.length → knF rs out kp ls k (pj rs k j) = (pj rs k j).filter fun n => !decide (n ∈ lostF rs out kp prev k (pj rs k j))
  | 0, _ => rfl
  | j + 1, hj => by
    have ih := kn_rows ok (out := out) (kp := kp) he j (by omega)
    rcases val_cases (rw rs j) with hv | ⟨n, hv⟩
    · rw [pj_no hv]
      exact ih
    · have hnv : n ∈ (rw rs j).val := by rw [hv]; exact List.mem_singleton.mpr rfl
      cases hp : pres rs n k with
      | false =>
        rw [pj_snoc hv, hp, if_neg Bool.false_ne_true, List.append_nil]
        exact ih
      | true =>
        rw [pj_snoc hv, hp, if_pos rfl, knF_snoc, lostF_snoc, ih]
        obtain ⟨l, el⟩ : ∃ l, l = pj rs k j := ⟨_, rfl⟩
        obtain ⟨L, eL⟩ : ∃ L, L = lostF rs out kp prev k (pj rs k j) := ⟨_, rfl⟩
        have nl : n ∉ l := fun z => by
          rw [el] at z
          have := (List.mem_filter.mp z).1
          obtain ⟨i, hi, hi'⟩ := mem_vls.mp this
          have := row_uniq ok (by omega) (by omega) hi' hnv
          omega
        have Ll : ∀ x ∈ L, x ∈ l := fun x hx => by
          rw [eL] at hx
          rw [el]
          exact lostF_sub hx
        have ops : ∀ o ∈ (rw rs j).ops, o ∈ l := fun o ho => by
          rw [el]
          exact pres_of ok (by omega) hnv (row_ops (ok.row j (by omega)) o ho) hp
        rw [← eL, ← el]
        have erw : rwv rs n = rw rs j := by
          unfold rwv
          rw [plc_of ok (by omega) hnv, Int.toNat_natCast]
        have key : (!decide (n ∈ ls) && isKnown rs out kp k (l.filter fun n => !decide (n ∈ L)) n) = !isLost rs out kp prev k L n := by
          unfold isKnown isLost opn
          rw [erw]
          have e1 : decide (n ∈ ls) = decide (n ∈ prev) := decide_eq_decide.mpr (he n (by
            have : n ∈ pj rs k rs.length := List.mem_filter.mpr ⟨mem_vls.mpr ⟨j, by omega, hnv⟩, hp⟩
            exact this))
          rw [e1]
          cases er : rw rs j with
          | set m os =>
            rw [er] at ops
            have e2 : (os.all fun x => decide (x ∈ l.filter fun n => !decide (n ∈ L))) = !(os.any fun x => decide (x ∈ L)) := by
              rw [Bool.eq_iff_iff, List.all_eq_true, Bool.not_eq_true', List.any_eq_false]
              refine forall_congr' fun x => forall_congr' fun hx => ?_
              rw [decide_eq_true_iff, List.mem_filter, decide_eq_true_iff, Bool.not_eq_true', decide_eq_false_iff_not]
              exact ⟨fun z => z.2, fun z => ⟨ops x hx, z⟩⟩
            simp only
            rw [e2]
            cases os.any (fun x => decide (x ∈ L)) <;> cases live rs out n k <;> cases decide ((n, (k : Int)) ∈ kp) <;> cases decide (n ∈ prev) <;> rfl
          | leaf m =>
            simp only
            cases live rs out n k <;> cases decide ((n, (k : Int)) ∈ kp) <;> cases decide (n ∈ prev) <;> rfl
          | use os => rw [er] at hnv; cases hnv
          | stop l os => rw [er] at hnv; cases hnv
        rw [key]
        cases q : isLost rs out kp prev k L n with
        | true =>
          rw [if_pos rfl, show (!true) = false from rfl, if_neg Bool.false_ne_true, List.filter_append]
          have e3 : ([n].filter fun x => !decide (x ∈ L ++ [n])) = [] := by
            rw [List.filter_cons_of_neg (by rw [decide_eq_true (List.mem_append_right _ (List.mem_singleton.mpr rfl))]; exact Bool.false_ne_true)]
            rfl
          rw [e3, List.append_nil]
          refine List.filter_congr fun x hx => ?_
          have xn : x ≠ n := fun z => nl (z ▸ hx)
          have : decide (x ∈ L ++ [n]) = decide (x ∈ L) := decide_eq_decide.mpr (by
            rw [List.mem_append, List.mem_singleton]
            exact ⟨fun z => z.resolve_right xn, .inl⟩)
          rw [this]
        | false =>
          rw [if_neg Bool.false_ne_true, show (!false) = true from rfl, if_pos rfl, List.filter_append]
          rw [List.filter_cons_of_pos (by rw [decide_eq_false fun z => nl (Ll n z)]; rfl)]
          rfl
theorem kn_is {rs : Rs} (ok : RsOk rs) (out : List Int) (kp : Kps) : ∀ k, knA rs out kp k = (prs rs k).filter fun n => !decide (n ∈ lostA rs out kp k)
  | 0 => kn_rows ok (ls := []) (prev := []) (fun n _ => Iff.rfl) rs.length (Nat.le_refl _)
  | k + 1 => by
    have ih := kn_is ok out kp k
    refine kn_rows ok (ls := (prs rs k).filter fun n => !decide (n ∈ knA rs out kp k)) (prev := lostA rs out kp k) (fun n _ => ?_) rs.length (Nat.le_refl _)
    rw [List.mem_filter, ih, Bool.not_eq_true', decide_eq_false_iff_not, List.mem_filter, Bool.not_eq_true', decide_eq_false_iff_not]
    constructor
    · rintro ⟨h1, h2⟩
      exact Decidable.byContradiction fun z => h2 ⟨h1, z⟩
    · intro h
      refine ⟨?_, fun z => z.2 h⟩
      rw [lostA_eq] at h
      exact lostF_sub h
theorem lost_sub {rs : Rs} {out : List Int} {kp : Kps} {k : Nat} {n : Int} (h : n ∈ lostA rs out kp k) : n ∈ prs rs k := by
  rw [lostA_eq] at h
  exact lostF_sub h
/-! ### more keeps -/
theorem lost_mono_rows {rs : Rs} {out : List Int} {kp kp' : Kps} {prev prev' : List Int} {k : Nat} (hk : ∀ p ∈ kp, p ∈ kp') (hp : ∀ n ∈ prev', n ∈ prev) : ∀ {l : List Int}, ∀ n ∈ lostF rs out kp' prev' k l, n ∈ lostF rs out kp prev k l := by
  intro l
  induction l using rev_ind with
  | h0 => exact fun n h => h
  | hs l m ih =>
    have hm : isLost rs out kp' prev' k (lostF rs out kp' prev' k l) m = true → isLost rs out kp prev k (lostF rs out kp prev k l) m = true := by
      unfold isLost
      rw [Bool.or_eq_true, Bool.or_eq_true, Bool.and_eq_true, Bool.and_eq_true, Bool.and_eq_true, Bool.and_eq_true, decide_eq_true_iff, decide_eq_true_iff]
      rintro (⟨⟨h1, h2⟩, h3⟩ | h)
      · refine .inl ⟨⟨?_, ?_⟩, h3⟩
        · unfold opn at h1 ⊢
          cases e : rwv rs m with
          | set m' os =>
            rw [e] at h1
            obtain ⟨o, ho, hl⟩ := List.any_eq_true.mp h1
            exact List.any_eq_true.mpr ⟨o, ho, decide_eq_true (ih o (of_decide_eq_true hl))⟩
          | leaf m' => rfl
          | use os => rfl
          | stop l os => rfl
        · rw [Bool.not_eq_true', decide_eq_false_iff_not] at h2 ⊢
          exact fun z => h2 (hk _ z)
      · exact .inr (hp m h)
    intro n h
    rw [lostF_snoc] at h ⊢
    by_cases c : isLost rs out kp' prev' k (lostF rs out kp' prev' k l) m = true
    · rw [if_pos c] at h
      rw [if_pos (hm c)]
      rcases List.mem_append.mp h with h | h
      · exact List.mem_append_left _ (ih n h)
      · exact List.mem_append_right _ h
    · rw [if_neg c] at h
      split
      · exact List.mem_append_left _ (ih n h)
      · exact ih n h
theorem lost_mono {rs : Rs} {out : List Int} {kp kp' : Kps} (hk : ∀ p ∈ kp, p ∈ kp') : ∀ k, ∀ n ∈ lostA rs out kp' k, n ∈ lostA rs out kp k
  | 0 => lost_mono_rows hk fun n h => by cases h
  | k + 1 => lost_mono_rows hk (lost_mono hk k)
/-! ### the first that is missing -/
def ask (rs : Rs) (k : Nat) : List Int := (rw rs (spt rs k)).ops
theorem ask_prs {rs : Rs} (ok : RsOk rs) {k : Nat} (hk : k < (stA rs).length) {n : Int} (h : n ∈ ask rs k) : n ∈ prs rs k := by
  obtain ⟨sl, ss⟩ := spt_stop hk
  have hn := row_ops (ok.row _ sl) n h
  obtain ⟨i, hi, hi'⟩ := mem_vls.mp hn
  refine List.mem_filter.mpr ⟨vls_mono hn (by omega), ?_⟩
  unfold pres
  rw [plc_of ok (by omega) hi']
  exact decide_eq_true (by omega)
structure FM (rs : Rs) (out : List Int) (kp : Kps) (k : Nat) (v : Int) : Prop where
  hk : k < (stA rs).length
  ha : v ∈ ask rs k
  hl : v ∈ lostA rs out kp k
  be : ∀ j, j < k → ∀ x ∈ ask rs j, x ∉ lostA rs out kp j
  le : ∀ x ∈ ask rs k, x ∈ lostA rs out kp k → v ≤ x
theorem FM.uniq {rs : Rs} {out : List Int} {kp : Kps} {k k' : Nat} {v v' : Int} (h : FM rs out kp k v) (h' : FM rs out kp k' v') : k = k' ∧ v = v' := by
  have e : k = k' := by
    rcases Nat.lt_trichotomy k k' with c | c | c
    · exact absurd h.hl (h'.be k c v h.ha)
    · exact c
    · exact absurd h'.hl (h.be k' c v' h'.ha)
  subst e
  exact ⟨rfl, Int.le_antisymm (h.le v' h'.ha h'.hl) (h'.le v h.ha h.hl)⟩
theorem FM.no {rs : Rs} {out : List Int} {kp : Kps} {k : Nat} {v : Int} (h : FM rs out kp k v) : ¬ ∀ j, j < (stA rs).length → ∀ x ∈ ask rs j, x ∉ lostA rs out kp j := fun z => z k h.hk v h.ha h.hl
end ST

set_option Elab.async false
set_option linter.all false
set_option maxRecDepth 100000
set_option maxHeartbeats 2000000
/-! M63: flows in a network, plainly. -/
namespace ST
/-! ### sums -/
def sm : Nat → (Nat → Int) → Int
  | 0, _ => 0
  | n + 1, g => sm n g + g n
theorem sm_congr {n : Nat} {g h : Nat → Int} (e : ∀ i, i < n → g i = h i) : sm n g = sm n h := by
  induction n with
  | zero => rfl
  | succ n ih => rw [sm, sm, ih fun i hi => e i (by omega), e n (by omega)]
theorem sm_add (n : Nat) (g h : Nat → Int) : sm n (fun i => g i + h i) = sm n g + sm n h := by
  induction n with
  | zero => rfl
  | succ n ih => rw [sm, sm, sm, ih]; omega
theorem sm_sub (n : Nat) (g h : Nat → Int) : sm n (fun i => g i - h i) = sm n g - sm n h := by
  induction n with
  | zero => rfl
  | succ n ih => rw [sm, sm, sm, ih]; omega
theorem sm_zero {n : Nat} {g : Nat → Int} (e : ∀ i, i < n → g i = 0) : sm n g = 0 := by
  induction n with
  | zero => rfl
  | succ n ih => rw [sm, ih fun i hi => e i (by omega), e n (by omega)]; rfl
theorem sm_one {n k : Nat} {c : Int} (hk : k < n) : sm n (fun i => if i = k then c else 0) = c := by
  induction n with
  | zero => omega
  | succ n ih =>
    rw [sm]
    by_cases e : n = k
    · rw [if_pos e, sm_zero fun i hi => if_neg (by omega)]
      omega
    · rw [ih (by omega), if_neg e]
      omega
theorem sm_le {n : Nat} {g h : Nat → Int} (e : ∀ i, i < n → g i ≤ h i) : sm n g ≤ sm n h := by
  induction n with
  | zero => exact Int.le_refl _
  | succ n ih =>
    rw [sm, sm]
    have := ih fun i hi => e i (by omega)
    have := e n (by omega)
    omega
/-- sums that are equal though no part is above: all parts are equal -/
theorem sm_eq {n : Nat} {g h : Nat → Int} (e : ∀ i, i < n → g i ≤ h i) (q : sm n h ≤ sm n g) : ∀ i, i < n → g i = h i := by
  induction n with
  | zero => intro i hi; omega
  | succ n ih =>
    rw [sm, sm] at q
    have h1 := sm_le (n := n) fun i hi => e i (by omega)
    have h2 := e n (by omega)
    intro i hi
    by_cases c : i = n
    · rw [c]
      omega
    · exact ih (fun i hi => e i (by omega)) (by omega) i (by omega)
theorem sm_swap (n m : Nat) (g : Nat → Nat → Int) : sm n (fun i => sm m (fun j => g i j)) = sm m (fun j => sm n (fun i => g i j)) := by
  induction n with
  | zero => rw [sm, sm_zero]; intro j _; rfl
  | succ n ih =>
    rw [sm, ih, ← sm_add]
    rfl
/-! ### flows -/
structure Net where
  m : Nat
  N : Nat
  s : Nat → Nat
  e : Nat → Nat
  b : Nat → Int
def ind (c : Bool) : Int := if c then 1 else 0
/-- what leaves v, less what comes -/
def exc (G : Net) (f : Nat → Int) (v : Nat) : Int := sm G.m fun i => (if G.s i = v then f i else 0) - (if G.e i = v then f i else 0)
structure Flow (G : Net) (f : Nat → Int) : Prop where
  lo : ∀ i, i < G.m → 0 ≤ f i
  hi : ∀ i, i < G.m → f i ≤ G.b i
  cs : ∀ v, v < G.N → v ≠ 0 → v ≠ 1 → exc G f v = 0
structure NetOk (G : Net) : Prop where
  s : ∀ i, i < G.m → G.s i < G.N
  e : ∀ i, i < G.m → G.e i < G.N
  ne : ∀ i, i < G.m → G.s i ≠ G.e i
  n2 : 2 ≤ G.N
theorem ite_mul (c : Bool) (x : Int) : (if c then x else 0) = ind c * x := by
  unfold ind
  cases c <;> simp
/-- the net flow over a cut -/
def over (G : Net) (f : Nat → Int) (S : Nat → Bool) : Int := sm G.m fun i => (ind (S (G.s i)) - ind (S (G.e i))) * f i
theorem cut_sum {G : Net} (ok : NetOk G) (f : Nat → Int) (S : Nat → Bool) : sm G.N (fun v => ind (S v) * exc G f v) = over G f S := by
  unfold exc over
  have h1 : ∀ v, ind (S v) * sm G.m (fun i => (if G.s i = v then f i else 0) - (if G.e i = v then f i else 0)) = sm G.m (fun i => (if v = G.s i then ind (S (G.s i)) * f i else 0) - (if v = G.e i then ind (S (G.e i)) * f i else 0)) := fun v => by
    generalize hm : G.m = m
    clear hm
    induction m with
    | zero => rw [sm, sm, Int.mul_zero]
    | succ m ih =>
      rw [sm, sm, Int.mul_add, ih]
      congr 1
      by_cases c1 : G.s m = v
      · by_cases c2 : G.e m = v
        · rw [if_pos c1, if_pos c2, if_pos c1.symm, if_pos c2.symm, c1, c2, Int.sub_self, Int.sub_self, Int.mul_zero]
        · rw [if_pos c1, if_neg c2, if_pos c1.symm, if_neg (fun z => c2 z.symm), c1, Int.sub_zero, Int.sub_zero]
      · by_cases c2 : G.e m = v
        · rw [if_neg c1, if_pos c2, if_neg (fun z => c1 z.symm), if_pos c2.symm, c2, Int.zero_sub, Int.zero_sub, Int.mul_neg]
        · rw [if_neg c1, if_neg c2, if_neg (fun z => c1 z.symm), if_neg (fun z => c2 z.symm), Int.sub_self, Int.mul_zero]
  rw [sm_congr fun v _ => h1 v, sm_swap]
  refine sm_congr fun i hi => ?_
  rw [sm_sub, sm_one (ok.s i hi), sm_one (ok.e i hi), Int.sub_mul]
theorem over_val {G : Net} (ok : NetOk G) {f : Nat → Int} (F : Flow G f) {S : Nat → Bool} (h0 : S 0 = true) (h1 : S 1 = false) : over G f S = exc G f 0 := by
  rw [← cut_sum ok]
  have n2 := ok.n2
  rw [sm_congr (h := fun v => if v = 0 then exc G f 0 else 0) fun v hv => ?_, sm_one (by omega)]
  by_cases c : v = 0
  · rw [if_pos c, c, h0]
    unfold ind
    simp
  · rw [if_neg c]
    by_cases c1 : v = 1
    · rw [c1, h1]
      unfold ind
      simp
    · rw [F.cs v hv c c1, Int.mul_zero]
/-! ### a push along a way -/
def bump (f : Nat → Int) (i : Nat) (c : Int) : Nat → Int := fun j => if j = i then f j + c else f j
theorem exc_bump {G : Net} {f : Nat → Int} {i : Nat} {c : Int} (hi : i < G.m) (w : Nat) : exc G (bump f i c) w = exc G f w + ((if G.s i = w then c else 0) - (if G.e i = w then c else 0)) := by
  unfold exc
  have h : sm G.m (fun j => if j = i then (if G.s i = w then c else 0) - (if G.e i = w then c else 0) else 0) = (if G.s i = w then c else 0) - (if G.e i = w then c else 0) := sm_one hi
  rw [← h, ← sm_add]
  refine sm_congr fun j hj => ?_
  unfold bump
  by_cases e : j = i
  · subst e
    simp only [if_true]
    split <;> split <;> omega
  · simp only [if_neg e]
    omega
/-- a step of the residual network, by edge i from u to v -/
def Res (G : Net) (f : Nat → Int) (u i v : Nat) : Prop := i < G.m ∧ ((G.s i = u ∧ G.e i = v ∧ f i < G.b i) ∨ (G.s i ≠ u ∧ G.e i = u ∧ G.s i = v ∧ 0 < f i))
def sgn (G : Net) (u i : Nat) : Int := if G.s i = u then 1 else -1
/-- the flow g on the way back from the sink to v -/
structure Way (G : Net) (f : Nat → Int) (rk : Nat → Nat) (v : Nat) (g : Nat → Int) : Prop where
  lo : ∀ i, i < G.m → 0 ≤ g i
  hi : ∀ i, i < G.m → g i ≤ G.b i
  one : ∀ i, i < G.m → g i ≤ f i + 1
  at_ : ∀ i, i < G.m → g i = f i ∨ (rk v ≤ rk (G.s i) ∧ rk v ≤ rk (G.e i))
  ex : ∀ w, exc G g w = exc G f w + (if w = v then 1 else 0) - (if w = 1 then 1 else 0)
theorem Way.start {G : Net} {f : Nat → Int} (F : Flow G f) (rk : Nat → Nat) : Way G f rk 1 f := ⟨F.lo, F.hi, fun i _ => by omega, fun i _ => .inl rfl, fun w => by omega⟩
theorem Way.step {G : Net} (ok : NetOk G) {f g : Nat → Int} {rk : Nat → Nat} {u i v : Nat} (W : Way G f rk v g) (F : Flow G f) (r : Res G f u i v) (hr : rk u < rk v) : Way G f rk u (bump g i (sgn G u i)) := by
  obtain ⟨hi, r⟩ := r
  have ne := ok.ne i hi
  have e0 : g i = f i := by
    rcases W.at_ i hi with h | ⟨h1, h2⟩
    · exact h
    · rcases r with ⟨a, b, _⟩ | ⟨_, a, b, _⟩
      · rw [a] at h1
        omega
      · rw [a] at h2
        omega
  have l0 := F.lo i hi
  have h0 := F.hi i hi
  have bi : bump g i (sgn G u i) i = f i + sgn G u i := by
    unfold bump
    rw [if_pos rfl, e0]
  have bo : ∀ j, j ≠ i → bump g i (sgn G u i) j = g j := fun j hj => by
    unfold bump
    rw [if_neg hj]
  refine ⟨fun j hj => ?_, fun j hj => ?_, fun j hj => ?_, fun j hj => ?_, fun w => ?_⟩
  · by_cases c : j = i
    · subst c
      rw [bi]
      unfold sgn
      rcases r with ⟨a, _, _⟩ | ⟨a, _, _, p⟩
      · rw [if_pos a]
        omega
      · rw [if_neg a]
        omega
    · rw [bo j c]
      exact W.lo j hj
  · by_cases c : j = i
    · subst c
      rw [bi]
      unfold sgn
      rcases r with ⟨a, _, p⟩ | ⟨a, _, _, p⟩
      · rw [if_pos a]
        omega
      · rw [if_neg a]
        omega
    · rw [bo j c]
      exact W.hi j hj
  · by_cases c : j = i
    · subst c
      rw [bi]
      unfold sgn
      split <;> omega
    · rw [bo j c]
      exact W.one j hj
  · by_cases c : j = i
    · subst c
      refine .inr ?_
      rcases r with ⟨a, b, _⟩ | ⟨_, a, b, _⟩
      · rw [a, b]
        omega
      · rw [a, b]
        omega
    · rw [bo j c]
      refine (W.at_ j hj).imp id fun h => ⟨by omega, by omega⟩
  · rw [exc_bump hi, W.ex w]
    unfold sgn
    rcases r with ⟨a, b, _⟩ | ⟨n, a, b, _⟩
    · rw [if_pos a, a, b]
      have uv : u ≠ v := fun z => by rw [z] at hr; omega
      repeat' split
      all_goals omega
    · rw [if_neg n, a, b]
      have uv : u ≠ v := fun z => by rw [z] at hr; omega
      repeat' split
      all_goals omega
theorem Way.flow {G : Net} {f g : Nat → Int} {rk : Nat → Nat} (W : Way G f rk 0 g) (F : Flow G f) : Flow G g ∧ exc G g 0 = exc G f 0 + 1 := by
  refine ⟨⟨W.lo, W.hi, fun v hv h0 h1 => ?_⟩, ?_⟩
  · rw [W.ex v, F.cs v hv h0 h1, if_neg h0, if_neg h1]
    rfl
  · rw [W.ex 0]
    simp
/-! ### cuts -/
def crs (G : Net) (S : Nat → Bool) (i : Nat) : Bool := S (G.s i) && !S (G.e i)
theorem over_le {G : Net} {f : Nat → Int} (F : Flow G f) {S : Nat → Bool} (h : ∀ i, i < G.m → crs G S i = true → G.b i = 1) : over G f S ≤ sm G.m fun i => ind (crs G S i) := by
  refine sm_le fun i hi => ?_
  have l := F.lo i hi
  have u := F.hi i hi
  have hc := h i hi
  unfold crs at hc ⊢
  unfold ind
  cases h1 : S (G.s i) <;> cases h2 : S (G.e i) <;> simp [h1, h2] at hc ⊢ <;> omega
/-- a cut that is as great as the flow is full, and nothing comes back -/
theorem full_of {G : Net} {f : Nat → Int} (F : Flow G f) {S : Nat → Bool} (h : ∀ i, i < G.m → crs G S i = true → G.b i = 1) (q : sm G.m (fun i => ind (crs G S i)) ≤ over G f S) : ∀ i, i < G.m → (crs G S i = true → f i = 1) ∧ (S (G.s i) = false → S (G.e i) = true → f i = 0) := by
  intro i hi
  have le : ∀ i, i < G.m → (ind (S (G.s i)) - ind (S (G.e i))) * f i ≤ ind (crs G S i) := fun i hi => by
    have l := F.lo i hi
    have u := F.hi i hi
    have hc := h i hi
    unfold crs at hc ⊢
    unfold ind
    cases h1 : S (G.s i) <;> cases h2 : S (G.e i) <;> simp [h1, h2] at hc ⊢ <;> omega
  have e := sm_eq le q i hi
  unfold crs ind at e
  unfold crs
  cases h1 : S (G.s i) <;> cases h2 : S (G.e i) <;> simp [h1, h2] at e ⊢ <;> omega
/-- what is reached by the residual network -/
structure Rch (G : Net) (f : Nat → Int) (R : Nat → Bool) : Prop where
  z : R 0 = true
  cl : ∀ u i v, R u = true → Res G f u i v → R v = true
  ex : ∀ v, R v = true → v ≠ 0 → ∃ u i, R u = true ∧ Res G f u i v
/-- the flow over the cut of what is reached -/
theorem over_rch {G : Net} (ok : NetOk G) {f : Nat → Int} (F : Flow G f) {R : Nat → Bool} (r : Rch G f R) (big : ∀ i, i < G.m → G.b i = 1 ∨ f i < G.b i) : over G f R = sm G.m (fun i => ind (crs G R i)) ∧ ∀ i, i < G.m → crs G R i = true → G.b i = 1 := by
  have b1 : ∀ i, i < G.m → crs G R i = true → G.b i = 1 := fun i hi hc => by
    rcases big i hi with h | h
    · exact h
    · unfold crs at hc
      simp only [Bool.and_eq_true, Bool.not_eq_true'] at hc
      have := r.cl _ i (G.e i) hc.1 ⟨hi, .inl ⟨rfl, rfl, h⟩⟩
      rw [this] at hc
      cases hc.2
  refine ⟨sm_congr fun i hi => ?_, b1⟩
  have l := F.lo i hi
  have u := F.hi i hi
  have hb := b1 i hi
  unfold crs at hb ⊢
  unfold ind
  cases h1 : R (G.s i) <;> cases h2 : R (G.e i)
  · simp
  · have : ¬ 0 < f i := fun p => by
      have := r.cl (G.e i) i (G.s i) h2 ⟨hi, .inr ⟨ok.ne i hi, rfl, rfl, p⟩⟩
      rw [h1] at this
      cases this
    have : f i = 0 := by omega
    simp [this]
  · have e1 : G.b i = 1 := hb (by rw [h1, h2]; rfl)
    have : ¬ f i < G.b i := fun p => by
      have := r.cl (G.s i) i (G.e i) h1 ⟨hi, .inl ⟨rfl, rfl, p⟩⟩
      rw [h2] at this
      cases this
    have : f i = 1 := by omega
    simp [this]
  · simp
/-- what is reached lies within every cut that is as small -/
theorem rch_sub {G : Net} {f : Nat → Int} {R S : Nat → Bool} (r : Rch G f R) (rk : Nat → Nat) (hrk : ∀ v, R v = true → v ≠ 0 → ∃ u i, R u = true ∧ Res G f u i v ∧ rk u < rk v) (h0 : S 0 = true) (full : ∀ i, i < G.m → (crs G S i = true → f i = G.b i) ∧ (S (G.s i) = false → S (G.e i) = true → f i = 0)) : ∀ v, R v = true → S v = true := by
  have key : ∀ n v, rk v < n → R v = true → S v = true := by
    intro n
    induction n with
    | zero => intro v h; omega
    | succ n ih =>
      intro v hv hR
      by_cases c : v = 0
      · rw [c]
        exact h0
      · obtain ⟨u, i, hu, ⟨hi, hr⟩, hk⟩ := hrk v hR c
        have su := ih u (by omega) hu
        obtain ⟨f1, f2⟩ := full i hi
        rcases hr with ⟨a, b, p⟩ | ⟨_, a, b, p⟩
        · cases sv : S v with
          | true => rfl
          | false =>
            have := f1 (by unfold crs; rw [a, b, su, sv]; rfl)
            omega
        · cases sv : S v with
          | true => rfl
          | false =>
            have := f2 (by rw [b]; exact sv) (by rw [a]; exact su)
            omega
  exact fun v => key (rk v + 1) v (by omega)
end ST

set_option Elab.async false
set_option linter.all false
set_option maxRecDepth 100000
set_option maxHeartbeats 2000000
/-! M63b: what is lost is a fixed point. -/
namespace ST
open PySem PySem.Spec PyProof.Rows L2 LL
theorem rwv_at {rs : Rs} (ok : RsOk rs) {n : Int} {j : Nat} (hj : j < rs.length) (hv : n ∈ (rw rs j).val) : rwv rs n = rw rs j := by
  unfold rwv
  rw [plc_of ok hj hv, Int.toNat_natCast]
theorem opn_congr {rs : Rs} {n : Int} {A B : List Int} (h : ∀ o ∈ (rwv rs n).ops, (o ∈ A ↔ o ∈ B)) : opn rs A n = opn rs B n := by
  unfold opn
  cases e : rwv rs n with
  | set m os =>
    rw [e] at h
    have h : ∀ o ∈ os, (o ∈ A ↔ o ∈ B) := h
    rw [Bool.eq_iff_iff, List.any_eq_true, List.any_eq_true]
    constructor
    · rintro ⟨o, ho, z⟩
      exact ⟨o, ho, decide_eq_true ((h o ho).mp (of_decide_eq_true z))⟩
    · rintro ⟨o, ho, z⟩
      exact ⟨o, ho, decide_eq_true ((h o ho).mpr (of_decide_eq_true z))⟩
  | _ => rfl
theorem vls_up {rs : Rs} {i j : Nat} (h : i ≤ j) {o : Int} (ho : o ∈ vls rs i) : o ∈ vls rs j := by
  obtain ⟨a, ha, hv⟩ := mem_vls.mp ho
  exact mem_vls.mpr ⟨a, by omega, hv⟩
theorem lost_rows {rs : Rs} (ok : RsOk rs) {out : List Int} {kp : Kps} {prev : List Int} {k : Nat} : ∀ j, j ≤ rs.length → ∀ m ∈ pj rs k j, (m ∈ lostF rs out kp prev k (pj rs k j) ↔ isLost rs out kp prev k (lostF rs out kp prev k (pj rs k j)) m = true)
  | 0, _, m, hm => by
    have := (List.mem_filter.mp hm).1
    cases this
  | j + 1, hj, m, hm => by
    have ih := lost_rows ok (out := out) (kp := kp) (prev := prev) (k := k) j (by omega)
    rcases val_cases (rw rs j) with hv | ⟨n, hv⟩
    · rw [pj_no hv] at hm ⊢
      exact ih m hm
    · have hnv : n ∈ (rw rs j).val := by rw [hv]; exact List.mem_singleton.mpr rfl
      have nv : n ∉ vls rs j := fun z => by
        obtain ⟨i, hi, hi'⟩ := mem_vls.mp z
        have := row_uniq ok (by omega) (by omega) hi' hnv
        omega
      cases hp : pres rs n k with
      | false =>
        rw [pj_snoc hv, hp, if_neg Bool.false_ne_true, List.append_nil] at hm ⊢
        exact ih m hm
      | true =>
        rw [pj_snoc hv, hp, if_pos rfl] at hm ⊢
        obtain ⟨L, eL⟩ : ∃ L, L = lostF rs out kp prev k (pj rs k j) := ⟨_, rfl⟩
        obtain ⟨L', eL'⟩ : ∃ L', L' = lostF rs out kp prev k (pj rs k j ++ [n]) := ⟨_, rfl⟩
        have sn := lostF_snoc rs out kp prev k (pj rs k j) n
        rw [← eL', ← eL] at sn
        rw [← eL']
        rw [← eL] at ih
        have Lv : ∀ x ∈ L, x ∈ vls rs j := fun x hx => by
          rw [eL] at hx
          exact (List.mem_filter.mp (lostF_sub hx)).1
        have iff : ∀ o ∈ vls rs j, (o ∈ L' ↔ o ∈ L) := fun o ho => by
          rw [sn]
          split
          · rw [List.mem_append, List.mem_singleton]
            exact ⟨fun z => z.resolve_right fun e => nv (by rw [← e]; exact ho), .inl⟩
          · exact Iff.rfl
        have il : ∀ i x, i ≤ j → i < rs.length → x ∈ (rw rs i).val → isLost rs out kp prev k L' x = isLost rs out kp prev k L x := fun i x hi hl hx => by
          unfold isLost
          rw [opn_congr (A := L') (B := L) fun o ho => ?_]
          rw [rwv_at ok hl hx] at ho
          exact iff o (vls_up hi (row_ops (ok.row i hl) o ho))
        rcases List.mem_append.mp hm with hm | hm
        · have mv := (List.mem_filter.mp hm).1
          obtain ⟨i, hi, hx⟩ := mem_vls.mp mv
          rw [iff m mv, ih m hm, il i m (by omega) (by omega) hx]
        · rw [List.mem_singleton.mp hm, il j n (Nat.le_refl _) (by omega) hnv, sn]
          have nL : n ∉ L := fun z => nv (Lv n z)
          split
          · exact ⟨fun _ => by assumption, fun _ => List.mem_append_right _ (List.mem_singleton.mpr rfl)⟩
          · exact ⟨fun z => absurd z nL, fun z => absurd z (by assumption)⟩
/-- lost: open, not kept and not live; or lost before -/
theorem lost_fix {rs : Rs} (ok : RsOk rs) (out : List Int) (kp : Kps) {k : Nat} {n : Int} (hn : n ∈ prs rs k) : n ∈ lostA rs out kp k ↔ (opn rs (lostA rs out kp k) n = true ∧ (n, (k : Int)) ∉ kp ∧ live rs out n k = false) ∨ n ∈ prevL rs out kp k := by
  have h := lost_rows ok (out := out) (kp := kp) (prev := prevL rs out kp k) (k := k) rs.length (Nat.le_refl _) n hn
  have e : lostF rs out kp (prevL rs out kp k) k (pj rs k rs.length) = lostA rs out kp k := (lostA_eq rs out kp k).symm
  rw [e] at h
  rw [h]
  unfold isLost
  simp only [Bool.or_eq_true, Bool.and_eq_true, Bool.not_eq_true', decide_eq_true_eq, decide_eq_false_iff_not, and_assoc]
end ST

set_option Elab.async false
set_option linter.all false
set_option maxRecDepth 100000
set_option maxHeartbeats 2000000
/-! M63c: the network of a stretch, plainly. -/
namespace ST
open PySem PySem.Spec PyProof.Rows L2 LL
abbrev Pt := Int × Nat
abbrev Ed := Nat × Nat × Int
def ptsA (rs : Rs) : List Pt := (List.range (stA rs).length).flatMap fun k => (prs rs k).map fun n => (n, k)
theorem mem_pts {rs : Rs} {n : Int} {k : Nat} : (n, k) ∈ ptsA rs ↔ k < (stA rs).length ∧ n ∈ prs rs k := by
  unfold ptsA
  rw [List.mem_flatMap]
  constructor
  · rintro ⟨j, hj, h⟩
    obtain ⟨m, hm, e⟩ := List.mem_map.mp h
    cases e
    exact ⟨List.mem_range.mp hj, hm⟩
  · exact fun ⟨h1, h2⟩ => ⟨k, List.mem_range.mpr h1, List.mem_map.mpr ⟨n, h2, rfl⟩⟩
def spn (pts : List Pt) (q : Pt) : Nat := 2 + 2 * pts.idxOf q
def lsn (pts : List Pt) (q : Pt) : Nat := 3 + 2 * pts.idxOf q
/-- the edges of a point -/
def edP (rs : Rs) (out : List Int) (pts : List Pt) (M : Int) (q : Pt) : List Ed :=
  (match rwv rs q.1 with
    | .set _ os => os.map fun o => (lsn pts (o, q.2), spn pts q, M)
    | _ => [(0, spn pts q, M)]) ++
  ((if live rs out q.1 q.2 then [] else [(spn pts q, lsn pts q, 1)]) ++
  ((if 0 < q.2 ∧ (q.1, q.2 - 1) ∈ pts then [(lsn pts (q.1, q.2 - 1), lsn pts q, M)] else []) ++
  (if q.1 ∈ ask rs q.2 then [(lsn pts q, 1, M)] else [])))
def edA (rs : Rs) (out : List Int) (pts : List Pt) (M : Int) : List Ed := pts.flatMap (edP rs out pts M)
theorem edP_one {rs : Rs} {out : List Int} {pts : List Pt} {M : Int} (hM : M ≠ 1) {q : Pt} {c : Ed → Bool} (h : ∀ e ∈ edP rs out pts M q, c e = true → e.2.2 = 1) : (edP rs out pts M q).filter c = if !live rs out q.1 q.2 && c (spn pts q, lsn pts q, 1) then [(spn pts q, lsn pts q, 1)] else [] := by
  unfold edP at h ⊢
  have no : ∀ l : List Ed, (∀ e ∈ l, e.2.2 = M) → (∀ e ∈ l, c e = true → e.2.2 = 1) → l.filter c = [] := fun l h1 h2 => List.filter_eq_nil_iff.mpr fun e he hc => hM (by rw [← h1 e he]; exact h2 e he hc)
  rw [List.filter_append, List.filter_append, List.filter_append]
  rw [no _ ?_ fun e he => h e (List.mem_append_left _ he), no (if 0 < q.2 ∧ (q.1, q.2 - 1) ∈ pts then [(lsn pts (q.1, q.2 - 1), lsn pts q, M)] else []) ?_ fun e he => h e (List.mem_append_right _ (List.mem_append_right _ (List.mem_append_left _ he))), no (if q.1 ∈ ask rs q.2 then [(lsn pts q, 1, M)] else []) ?_ fun e he => h e (List.mem_append_right _ (List.mem_append_right _ (List.mem_append_right _ he)))]
  · rw [List.nil_append, List.append_nil, List.append_nil]
    cases e1 : live rs out q.1 q.2 <;> simp [List.filter_cons]
  · intro e he
    split at he
    · rw [List.mem_singleton.mp he]
    · cases he
  · intro e he
    split at he
    · rw [List.mem_singleton.mp he]
    · cases he
  · intro e he
    split at he
    · obtain ⟨o, _, rfl⟩ := List.mem_map.mp he
      rfl
    · rw [List.mem_singleton.mp he]
/-- how many edges there are of which c holds, if only unit edges are such -/
theorem edA_count {rs : Rs} {out : List Int} {pts : List Pt} {M : Int} (hM : M ≠ 1) {c : Ed → Bool} (h : ∀ e ∈ edA rs out pts M, c e = true → e.2.2 = 1) : ((edA rs out pts M).filter c).length = (pts.filter fun q => !live rs out q.1 q.2 && c (spn pts q, lsn pts q, 1)).length := by
  unfold edA at h ⊢
  have key : ∀ l : List Pt, (∀ q ∈ l, ∀ e ∈ edP rs out pts M q, c e = true → e.2.2 = 1) → ((l.flatMap (edP rs out pts M)).filter c).length = (l.filter fun q => !live rs out q.1 q.2 && c (spn pts q, lsn pts q, 1)).length := by
    intro l
    induction l with
    | nil => intro _; rfl
    | cons q l ih =>
      intro hl
      rw [List.flatMap_cons, List.filter_append, List.length_append, ih fun p hp => hl p (List.mem_cons_of_mem _ hp), edP_one hM (hl q (List.mem_cons_self ..)), List.filter_cons]
      cases (!live rs out q.1 q.2 && c (spn pts q, lsn pts q, 1)) with
      | true =>
        simp only [if_true, List.length_cons, List.length_nil]
        omega
      | false => simp
  exact key pts fun q hq e he => h e (List.mem_flatMap.mpr ⟨q, hq, he⟩)
theorem sm_list {α : Type} (l : List α) (d : α) (c : α → Bool) : sm l.length (fun i => ind (c (l.getD i d))) = ((l.filter c).length : Int) := by
  have key : ∀ n, n ≤ l.length → sm n (fun i => ind (c (l.getD i d))) = (((l.take n).filter c).length : Int) := by
    intro n
    induction n with
    | zero => intro _; rw [List.take_zero]; rfl
    | succ n ih =>
      intro hn
      have hl : n < l.length := by omega
      rw [sm, ih (by omega), List.take_add_one, List.getElem?_eq_getElem hl, Option.toList_some, List.filter_append, List.length_append]
      have e : l.getD n d = l[n] := by rw [List.getD_eq_getElem?_getD, List.getElem?_eq_getElem hl]; rfl
      rw [e]
      unfold ind
      cases h : c l[n] <;> simp [List.filter_cons, h]
  have := key l.length (Nat.le_refl _)
  rwa [List.take_length] at this
/-! ### cuts by points -/
def cutB (pts : List Pt) (O L : Pt → Bool) (v : Nat) : Bool := v == 0 || (decide (2 ≤ v) && match pts[(v - 2) / 2]? with
  | some q => if v % 2 = 0 then O q else L q
  | none => false)
theorem cut_0 {pts : List Pt} {O L : Pt → Bool} : cutB pts O L 0 = true := rfl
theorem cut_1 {pts : List Pt} {O L : Pt → Bool} : cutB pts O L 1 = false := rfl
theorem idx_at {pts : List Pt} {q : Pt} (h : q ∈ pts) : pts[pts.idxOf q]? = some q := by
  have hi := List.idxOf_lt_length_of_mem h
  rw [List.getElem?_eq_getElem hi, List.getElem_idxOf hi]
theorem cut_s {pts : List Pt} {O L : Pt → Bool} {q : Pt} (h : q ∈ pts) : cutB pts O L (spn pts q) = O q := by
  unfold cutB spn
  rw [show (2 + 2 * pts.idxOf q - 2) / 2 = pts.idxOf q by omega, idx_at h, decide_eq_true (by omega)]
  rw [show (2 + 2 * pts.idxOf q == 0) = false by rw [beq_eq_false_iff_ne]; omega]
  simp only [Bool.false_or, Bool.true_and]
  rw [if_pos (by omega)]
theorem cut_l {pts : List Pt} {O L : Pt → Bool} {q : Pt} (h : q ∈ pts) : cutB pts O L (lsn pts q) = L q := by
  unfold cutB lsn
  rw [show (3 + 2 * pts.idxOf q - 2) / 2 = pts.idxOf q by omega, idx_at h, decide_eq_true (by omega)]
  rw [show (3 + 2 * pts.idxOf q == 0) = false by rw [beq_eq_false_iff_ne]; omega]
  simp only [Bool.false_or, Bool.true_and]
  rw [if_neg (by omega)]
end ST

set_option Elab.async false
set_option linter.all false
set_option maxRecDepth 100000
set_option maxHeartbeats 2000000
/-! M63d: cuts by keeps. -/
namespace ST
open PySem PySem.Spec PyProof.Rows L2 LL
theorem pj_sub {rs : Rs} {k j : Nat} (hj : j ≤ rs.length) {o : Int} (h : o ∈ pj rs k j) : o ∈ prs rs k := by
  obtain ⟨a, b⟩ := List.mem_filter.mp h
  exact List.mem_filter.mpr ⟨vls_up hj a, b⟩
theorem ops_pts {rs : Rs} (ok : RsOk rs) {n o : Int} {k : Nat} (h : (n, k) ∈ ptsA rs) (ho : o ∈ (rwv rs n).ops) : (o, k) ∈ ptsA rs := by
  obtain ⟨hk, hn⟩ := mem_pts.mp h
  obtain ⟨hv, hp⟩ := List.mem_filter.mp hn
  obtain ⟨j, hj, hx⟩ := mem_vls.mp hv
  rw [rwv_at ok hj hx] at ho
  exact mem_pts.mpr ⟨hk, pj_sub (by omega) (pres_of ok hj hx (row_ops (ok.row j hj) o ho) hp)⟩
structure Clo (rs : Rs) (pts : List Pt) (O L : Pt → Bool) : Prop where
  src : ∀ q ∈ pts, (∀ m os, rwv rs q.1 ≠ .set m os) → O q = true
  op : ∀ q ∈ pts, ∀ m os, rwv rs q.1 = .set m os → ∀ o ∈ os, L (o, q.2) = true → O q = true
  up : ∀ q ∈ pts, 0 < q.2 → (q.1, q.2 - 1) ∈ pts → L (q.1, q.2 - 1) = true → L q = true
  ask : ∀ q ∈ pts, q.1 ∈ ask rs q.2 → L q = false
def crE (S : Nat → Bool) (e : Ed) : Bool := S e.1 && !S e.2.1
theorem cl_cross {rs : Rs} (ok : RsOk rs) {out : List Int} {M : Int} {O L : Pt → Bool} (C : Clo rs (ptsA rs) O L) : ∀ e ∈ edA rs out (ptsA rs) M, crE (cutB (ptsA rs) O L) e = true → e.2.2 = 1 := by
  intro e he hc
  obtain ⟨q, hq, he⟩ := List.mem_flatMap.mp he
  unfold crE at hc
  simp only [Bool.and_eq_true, Bool.not_eq_true'] at hc
  unfold edP at he
  rcases List.mem_append.mp he with he | he
  · exfalso
    split at he
    · next m os er =>
      obtain ⟨o, ho, rfl⟩ := List.mem_map.mp he
      have hop : (o, q.2) ∈ ptsA rs := ops_pts ok (n := q.1) (k := q.2) hq (by rw [er]; exact ho)
      rw [cut_l hop, cut_s hq] at hc
      have := C.op q hq m os er o ho hc.1
      rw [this] at hc
      cases hc.2
    · next er =>
      rw [List.mem_singleton.mp he] at hc
      rw [cut_s hq, C.src q hq fun m os z => er m os z] at hc
      cases hc.2
  rcases List.mem_append.mp he with he | he
  · split at he
    · cases he
    · rw [List.mem_singleton.mp he]
  exfalso
  rcases List.mem_append.mp he with he | he
  · split at he
    · next h =>
      rw [List.mem_singleton.mp he] at hc
      rw [cut_l h.2, cut_l hq] at hc
      rw [C.up q hq h.1 h.2 hc.1] at hc
      cases hc.2
    · cases he
  · split at he
    · next h =>
      rw [List.mem_singleton.mp he] at hc
      rw [cut_l hq, C.ask q hq h] at hc
      cases hc.1
    · cases he
/-! ### keeps that are enough -/
def Enough (rs : Rs) (out : List Int) (kp : Kps) : Prop := ∀ k, k < (stA rs).length → ∀ x ∈ ask rs k, x ∉ lostA rs out kp k
def opB (rs : Rs) (out : List Int) (kp : Kps) (q : Pt) : Bool := opn rs (lostA rs out kp q.2) q.1
def loB (rs : Rs) (out : List Int) (kp : Kps) (q : Pt) : Bool := decide (q.1 ∈ lostA rs out kp q.2)
theorem clo_kp {rs : Rs} (ok : RsOk rs) {out : List Int} {kp : Kps} (en : Enough rs out kp) : Clo rs (ptsA rs) (opB rs out kp) (loB rs out kp) := by
  refine ⟨fun q hq h => ?_, fun q hq m os er o ho h => ?_, fun q hq h0 h1 h => ?_, fun q hq h => ?_⟩
  · unfold opB opn
    cases er : rwv rs q.1 with
    | set m os => exact (h m os er).elim
    | _ => rfl
  · unfold opB opn
    rw [er]
    exact List.any_eq_true.mpr ⟨o, ho, h⟩
  · have hq' := mem_pts.mp (show (q.1, q.2) ∈ ptsA rs from hq)
    refine decide_eq_true ((lost_fix ok out kp hq'.2).mpr (.inr ?_))
    have e : q.2 = (q.2 - 1) + 1 := by omega
    rw [e]
    exact of_decide_eq_true h
  · have hq' := mem_pts.mp (show (q.1, q.2) ∈ ptsA rs from hq)
    exact decide_eq_false (en q.2 hq'.1 q.1 h)
/-- the points at the border of a cut -/
def brd (rs : Rs) (out : List Int) (O L : Pt → Bool) : List Pt := (ptsA rs).filter fun q => !live rs out q.1 q.2 && (O q && !L q)
theorem brd_kp {rs : Rs} (ok : RsOk rs) {out : List Int} {kp : Kps} : ∀ q ∈ brd rs out (opB rs out kp) (loB rs out kp), (q.1, (q.2 : Int)) ∈ kp := by
  intro q hq
  obtain ⟨h1, h2⟩ := List.mem_filter.mp hq
  simp only [Bool.and_eq_true, Bool.not_eq_true'] at h2
  obtain ⟨h3, h4, h5⟩ := h2
  have hq' := mem_pts.mp (show (q.1, q.2) ∈ ptsA rs from h1)
  have := of_decide_eq_false h5
  rw [lost_fix ok out kp hq'.2] at this
  by_cases c : (q.1, (q.2 : Int)) ∈ kp
  · exact c
  · exact (this (.inl ⟨h4, c, h3⟩)).elim
theorem cnt_cut {rs : Rs} {out : List Int} {O L : Pt → Bool} : ((ptsA rs).filter fun q => !live rs out q.1 q.2 && crE (cutB (ptsA rs) O L) (spn (ptsA rs) q, lsn (ptsA rs) q, 1)) = brd rs out O L := by
  unfold brd
  refine List.filter_congr fun q hq => ?_
  unfold crE
  rw [cut_s hq, cut_l hq]
end ST

set_option Elab.async false
set_option linter.all false
set_option maxRecDepth 100000
set_option maxHeartbeats 2000000
/-! M63e: the least keeps, plainly. -/
namespace ST
open PySem PySem.Spec PyProof.Rows L2 LL
def edg (es : List Ed) (i : Nat) : Ed := es.getD i (0, 0, 0)
def netE (es : List Ed) (N : Nat) : Net := ⟨es.length, N, fun i => (edg es i).1, fun i => (edg es i).2.1, fun i => (edg es i).2.2⟩
theorem edg_at {es : List Ed} {i : Nat} (h : i < es.length) : es[i]? = some (edg es i) := by
  unfold edg
  rw [List.getD_eq_getElem?_getD, List.getElem?_eq_getElem h]
  rfl
theorem edg_mem {es : List Ed} {i : Nat} (h : i < es.length) : edg es i ∈ es := List.mem_of_getElem? (edg_at h)
theorem mem_edg {es : List Ed} {e : Ed} (h : e ∈ es) : ∃ i, i < es.length ∧ edg es i = e := by
  obtain ⟨i, hi⟩ := List.mem_iff_getElem?.mp h
  have hl := (List.getElem?_eq_some_iff.mp hi).1
  refine ⟨i, hl, ?_⟩
  rw [edg_at hl] at hi
  exact Option.some.inj hi
def Nd (pts : List Pt) (v : Nat) : Prop := v = 0 ∨ v = 1 ∨ ∃ q ∈ pts, v = spn pts q ∨ v = lsn pts q
structure EdOk (pts : List Pt) (M : Int) (x : Ed) : Prop where
  s : Nd pts x.1
  e : Nd pts x.2.1
  ne : x.1 ≠ x.2.1
  b : x.2.2 = 1 ∨ x.2.2 = M
theorem Nd.lt {pts : List Pt} {v : Nat} (h : Nd pts v) : v < 2 + 2 * pts.length := by
  rcases h with rfl | rfl | ⟨q, hq, h⟩
  · omega
  · omega
  · have := List.idxOf_lt_length_of_mem hq
    unfold spn lsn at h
    omega
theorem idx_inj {pts : List Pt} {p q : Pt} (hp : p ∈ pts) (hq : q ∈ pts) (h : pts.idxOf p = pts.idxOf q) : p = q := by
  have a := idx_at hp
  rw [h, idx_at hq] at a
  exact (Option.some.inj a).symm
theorem nds {pts : List Pt} {q : Pt} (h : q ∈ pts) : Nd pts (spn pts q) := .inr (.inr ⟨q, h, .inl rfl⟩)
theorem ndl {pts : List Pt} {q : Pt} (h : q ∈ pts) : Nd pts (lsn pts q) := .inr (.inr ⟨q, h, .inr rfl⟩)
theorem ed_ok {rs : Rs} (ok : RsOk rs) {out : List Int} {M : Int} : ∀ e ∈ edA rs out (ptsA rs) M, EdOk (ptsA rs) M e := by
  intro e he
  obtain ⟨q, hq, he⟩ := List.mem_flatMap.mp he
  unfold edP at he
  rcases List.mem_append.mp he with he | he
  · split at he
    · next m os er =>
      obtain ⟨o, ho, rfl⟩ := List.mem_map.mp he
      have hop : (o, q.2) ∈ ptsA rs := ops_pts ok (n := q.1) (k := q.2) hq (by rw [er]; exact ho)
      refine ⟨ndl hop, nds hq, ?_, .inr rfl⟩
      unfold lsn spn
      show 3 + 2 * _ ≠ 2 + 2 * _
      omega
    · rw [List.mem_singleton.mp he]
      refine ⟨.inl rfl, nds hq, ?_, .inr rfl⟩
      unfold spn
      show 0 ≠ 2 + 2 * _
      omega
  rcases List.mem_append.mp he with he | he
  · split at he
    · cases he
    · rw [List.mem_singleton.mp he]
      refine ⟨nds hq, ndl hq, ?_, .inl rfl⟩
      unfold spn lsn
      show 2 + 2 * _ ≠ 3 + 2 * _
      omega
  rcases List.mem_append.mp he with he | he
  · split at he
    · next h =>
      rw [List.mem_singleton.mp he]
      refine ⟨ndl h.2, ndl hq, ?_, .inr rfl⟩
      intro z
      have z : lsn (ptsA rs) (q.1, q.2 - 1) = lsn (ptsA rs) q := z
      unfold lsn at z
      have := idx_inj h.2 hq (by omega)
      have := congrArg Prod.snd this
      simp only at this
      omega
    · cases he
  · split at he
    · rw [List.mem_singleton.mp he]
      refine ⟨ndl hq, .inr (.inl rfl), ?_, .inr rfl⟩
      unfold lsn
      show 3 + 2 * _ ≠ 1
      omega
    · cases he
/-- most -/
def mst (rs : Rs) : Int := ((ptsA rs).length : Int) + 1
abbrev esA (rs : Rs) (out : List Int) : List Ed := edA rs out (ptsA rs) (mst rs)
abbrev GA (rs : Rs) (out : List Int) : Net := netE (esA rs out) (2 + 2 * (ptsA rs).length)
theorem ga_ok {rs : Rs} (ok : RsOk rs) (out : List Int) : NetOk (GA rs out) := by
  refine ⟨fun i hi => (ed_ok ok _ (edg_mem hi)).s.lt, fun i hi => (ed_ok ok _ (edg_mem hi)).e.lt, fun i hi => (ed_ok ok _ (edg_mem hi)).ne, ?_⟩
  show 2 ≤ 2 + 2 * _
  omega
theorem ga_nil {rs : Rs} (out : List Int) (h : ptsA rs = []) : esA rs out = [] := by
  unfold esA edA
  rw [h]
  rfl
theorem mst_ne {rs : Rs} {q : Pt} (h : q ∈ ptsA rs) : mst rs ≠ 1 := by
  unfold mst
  have := List.length_pos_of_mem h
  omega
/-- how many edges cross -/
theorem cnt_of {rs : Rs} {out : List Int} {c : Ed → Bool} (h : ∀ e ∈ esA rs out, c e = true → e.2.2 = 1) : sm (GA rs out).m (fun i => ind (c (edg (esA rs out) i))) = ((((ptsA rs).filter fun q => !live rs out q.1 q.2 && c (spn (ptsA rs) q, lsn (ptsA rs) q, 1)).length : Nat) : Int) := by
  have e1 : sm (GA rs out).m (fun i => ind (c (edg (esA rs out) i))) = (((esA rs out).filter c).length : Int) := sm_list _ _ _
  rw [e1]
  cases hp : ptsA rs with
  | nil => rw [ga_nil out hp]; rfl
  | cons q l =>
    rw [← hp, edA_count (mst_ne (q := q) (by rw [hp]; exact List.mem_cons_self ..)) h]
theorem crs_eq {rs : Rs} {out : List Int} {S : Nat → Bool} (i : Nat) : crs (GA rs out) S i = crE S (edg (esA rs out) i) := rfl
theorem cl_cnt {rs : Rs} (ok : RsOk rs) {out : List Int} {O L : Pt → Bool} (C : Clo rs (ptsA rs) O L) : sm (GA rs out).m (fun i => ind (crs (GA rs out) (cutB (ptsA rs) O L) i)) = ((brd rs out O L).length : Int) := by
  have := cnt_of (rs := rs) (out := out) (c := crE (cutB (ptsA rs) O L)) (cl_cross ok C)
  rw [cnt_cut] at this
  exact this
theorem cl_one {rs : Rs} (ok : RsOk rs) {out : List Int} {O L : Pt → Bool} (C : Clo rs (ptsA rs) O L) : ∀ i, i < (GA rs out).m → crs (GA rs out) (cutB (ptsA rs) O L) i = true → (GA rs out).b i = 1 := fun i hi hc => cl_cross ok C _ (edg_mem hi) hc
/-- the value of a flow is at most the border of a cut -/
theorem val_brd {rs : Rs} (ok : RsOk rs) {out : List Int} {f : Nat → Int} (F : Flow (GA rs out) f) {O L : Pt → Bool} (C : Clo rs (ptsA rs) O L) : exc (GA rs out) f 0 ≤ ((brd rs out O L).length : Int) := by
  rw [← over_val (ga_ok ok out) F (S := cutB (ptsA rs) O L) cut_0 cut_1, ← cl_cnt ok C]
  exact over_le F (cl_one ok C)
theorem clo_all {rs : Rs} : Clo rs (ptsA rs) (fun _ => true) (fun _ => false) := ⟨fun _ _ _ => rfl, fun _ _ _ _ _ _ _ _ => rfl, fun _ _ _ _ h => h, fun _ _ _ => rfl⟩
theorem val_le {rs : Rs} (ok : RsOk rs) {out : List Int} {f : Nat → Int} (F : Flow (GA rs out) f) : exc (GA rs out) f 0 ≤ ((ptsA rs).length : Int) := by
  have h := val_brd ok F (clo_all (rs := rs))
  have : (brd rs out (fun _ => true) (fun _ => false)).length ≤ (ptsA rs).length := List.length_filter_le _ _
  omega
/-! ### what is lost lies within a closed cut -/
theorem lost_in {rs : Rs} (ok : RsOk rs) {out : List Int} {kp : Kps} {O L : Pt → Bool} (C : Clo rs (ptsA rs) O L) (hb : ∀ q ∈ brd rs out O L, (q.1, (q.2 : Int)) ∈ kp) : ∀ k, k < (stA rs).length → ∀ n, n ∈ lostA rs out kp k → L (n, k) = true := by
  have key : ∀ k, k < (stA rs).length → (∀ n, n ∈ prevL rs out kp k → 0 < k ∧ n ∈ prs rs (k - 1) ∧ L (n, k - 1) = true) → ∀ b j, j < b → j < rs.length → ∀ n, n ∈ (rw rs j).val → n ∈ lostA rs out kp k → L (n, k) = true := by
    intro k hk hp b
    induction b with
    | zero => intro j h; omega
    | succ b ih =>
      intro j hjb hj n hn hl
      have hq := lost_sub hl
      have hm : (n, k) ∈ ptsA rs := mem_pts.mpr ⟨hk, hq⟩
      rcases (lost_fix ok out kp hq).mp hl with ⟨ho, hnk, hli⟩ | hpv
      · have hO : O (n, k) = true := by
          unfold opn at ho
          cases er : rwv rs n with
          | set m os =>
            rw [er] at ho
            obtain ⟨o, hoo, hol⟩ := List.any_eq_true.mp ho
            have hol := of_decide_eq_true hol
            have ov : o ∈ vls rs j := by
              have : o ∈ (rw rs j).ops := by rw [← rwv_at ok hj hn, er]; exact hoo
              exact row_ops (ok.row j hj) o this
            obtain ⟨i, hi, hio⟩ := mem_vls.mp ov
            exact C.op (n, k) hm m os er o hoo (ih i (by omega) (by omega) o hio hol)
          | leaf m => exact C.src (n, k) hm fun m os z => by rw [er] at z; cases z
          | use os => exact C.src (n, k) hm fun m os z => by rw [er] at z; cases z
          | stop l os => exact C.src (n, k) hm fun m os z => by rw [er] at z; cases z
        cases hL : L (n, k) with
        | true => rfl
        | false =>
          refine absurd (hb (n, k) (List.mem_filter.mpr ⟨hm, ?_⟩)) hnk
          show (!live rs out n k && (O (n, k) && !L (n, k))) = true
          rw [hli, hO, hL]
          rfl
      · obtain ⟨h0, h1, h2⟩ := hp n hpv
        exact C.up (n, k) hm h0 (mem_pts.mpr ⟨by omega, h1⟩) h2
  intro k
  induction k with
  | zero =>
    intro hk n hl
    obtain ⟨j, hj, hn⟩ := mem_vls.mp (List.mem_filter.mp (lost_sub hl)).1
    exact key 0 hk (fun n h => by cases h) (j + 1) j (by omega) hj n hn hl
  | succ k ih =>
    intro hk n hl
    obtain ⟨j, hj, hn⟩ := mem_vls.mp (List.mem_filter.mp (lost_sub hl)).1
    exact key (k + 1) hk (fun n h => ⟨by omega, lost_sub h, ih (by omega) n h⟩) (j + 1) j (by omega) hj n hn hl
/-! ### the least keeps -/
def kpo (l : List Pt) : Kps := l.map fun q => (q.1, (q.2 : Int))
theorem kpo_mem {l : List Pt} {n : Int} {k : Nat} : (n, (k : Int)) ∈ kpo l ↔ (n, k) ∈ l := by
  unfold kpo
  rw [List.mem_map]
  constructor
  · rintro ⟨q, hq, e⟩
    obtain ⟨a, b⟩ := Prod.mk.inj e
    have : q = (n, k) := Prod.ext a (by omega)
    rw [← this]
    exact hq
  · exact fun h => ⟨_, h, rfl⟩
theorem nd_map {α β : Type} {f : α → β} (hf : ∀ a b, f a = f b → a = b) : ∀ {l : List α}, l.Nodup → (l.map f).Nodup
  | [], _ => List.nodup_nil
  | a :: l, h => by
    rw [List.map_cons, List.nodup_cons]
    obtain ⟨h1, h2⟩ := List.nodup_cons.mp h
    refine ⟨fun z => ?_, nd_map hf h2⟩
    obtain ⟨b, hb, e⟩ := List.mem_map.mp z
    rw [hf _ _ e] at hb
    exact h1 hb
theorem kpo_nd {l : List Pt} (h : l.Nodup) : (kpo l).Nodup := nd_map (fun a b e => by
  obtain ⟨x, y⟩ := Prod.mk.inj e
  exact Prod.ext x (by omega)) h
theorem prs_nd {rs : Rs} (ok : RsOk rs) (k : Nat) : (prs rs k).Nodup := (vls_nd ok rs.length (Nat.le_refl _)).filter _
theorem pts_nd {rs : Rs} (ok : RsOk rs) : (ptsA rs).Nodup := by
  unfold ptsA
  have key : ∀ l : List Nat, l.Nodup → (l.flatMap fun k => (prs rs k).map fun n => (n, k)).Nodup := by
    intro l
    induction l with
    | nil => intro _; exact List.nodup_nil
    | cons k l ih =>
      intro h
      obtain ⟨h1, h2⟩ := List.nodup_cons.mp h
      rw [List.flatMap_cons, List.nodup_append]
      refine ⟨nd_map (fun a b e => (Prod.mk.inj e).1) (prs_nd ok k), ih h2, ?_⟩
      rintro p hp q hq rfl
      obtain ⟨n, _, rfl⟩ := List.mem_map.mp hp
      obtain ⟨k', hk', hq⟩ := List.mem_flatMap.mp hq
      obtain ⟨m, _, e⟩ := List.mem_map.mp hq
      obtain ⟨_, rfl⟩ := Prod.mk.inj e
      exact h1 hk'
  exact key _ List.nodup_range
theorem brd_nd {rs : Rs} (ok : RsOk rs) {out : List Int} {O L : Pt → Bool} : (brd rs out O L).Nodup := (pts_nd ok).filter _
theorem nd_len {α : Type} [DecidableEq α] : ∀ {l m : List α}, l.Nodup → (∀ x ∈ l, x ∈ m) → l.length ≤ m.length
  | [], _, _, _ => Nat.zero_le _
  | a :: l, m, h, s => by
    obtain ⟨h1, h2⟩ := List.nodup_cons.mp h
    have ha := s a (List.mem_cons_self ..)
    have := nd_len (m := m.erase a) h2 fun x hx => (List.mem_erase_of_ne fun e => h1 (by rw [← e]; exact hx)).mpr (s x (List.mem_cons_of_mem _ hx))
    rw [List.length_erase_of_mem ha] at this
    have := List.length_pos_of_mem ha
    rw [List.length_cons]
    omega
theorem nd_sup {α : Type} [DecidableEq α] : ∀ {l m : List α}, l.Nodup → (∀ x ∈ l, x ∈ m) → m.Nodup → m.length ≤ l.length → ∀ x ∈ m, x ∈ l := by
  intro l m hl hs hm hle x hx
  refine Decidable.byContradiction fun hn => ?_
  have := nd_len (l := x :: l) (m := m) (List.nodup_cons.mpr ⟨hn, hl⟩) fun y hy => (List.mem_cons.mp hy).elim (fun e => e ▸ hx) (hs y)
  rw [List.length_cons] at this
  omega
structure IsL (rs : Rs) (out : List Int) (kp : Kps) : Prop where
  nd : kp.Nodup
  cand : ∀ p ∈ kp, ∃ k : Nat, p.2 = k ∧ (p.1, k) ∈ ptsA rs ∧ live rs out p.1 k = false
  en : Enough rs out kp
  le : ∀ kp', Enough rs out kp' → kp.length ≤ kp'.length
  sub : ∀ kp', Enough rs out kp' → kp'.length = kp.length → ∀ k, k < (stA rs).length → ∀ n, n ∈ lostA rs out kp k → n ∈ lostA rs out kp' k
  uq : ∀ kp', Enough rs out kp' → kp'.length = kp.length → (∀ k, k < (stA rs).length → ∀ n, n ∈ lostA rs out kp' k → n ∈ lostA rs out kp k) → ∀ p ∈ kp, p ∈ kp'
theorem brd_le {rs : Rs} (ok : RsOk rs) {out : List Int} {kp : Kps} : (brd rs out (opB rs out kp) (loB rs out kp)).length ≤ kp.length := by
  have h := nd_len (l := kpo (brd rs out (opB rs out kp) (loB rs out kp))) (m := kp) (kpo_nd (brd_nd ok)) fun p hp => by
    obtain ⟨q, hq, rfl⟩ := List.mem_map.mp hp
    exact brd_kp ok q hq
  unfold kpo at h
  rwa [List.length_map] at h
theorem lost_congr {rs : Rs} {out : List Int} {kp kp' : Kps} (h : ∀ p, p ∈ kp ↔ p ∈ kp') (k : Nat) (n : Int) : n ∈ lostA rs out kp k ↔ n ∈ lostA rs out kp' k := ⟨lost_mono (fun p hp => (h p).mpr hp) k n, lost_mono (fun p hp => (h p).mp hp) k n⟩
theorem least_of {rs : Rs} (ok : RsOk rs) {out : List Int} {f : Nat → Int} (F : Flow (GA rs out) f) {R : Nat → Bool} (r : Rch (GA rs out) f R) (rk : Nat → Nat) (hrk : ∀ v, R v = true → v ≠ 0 → ∃ u i, R u = true ∧ Res (GA rs out) f u i v ∧ rk u < rk v) (r1 : R 1 = false)
    (big : ∀ i, i < (GA rs out).m → (GA rs out).b i = 1 ∨ f i < (GA rs out).b i) : IsL rs out (kpo (brd rs out (fun q => R (spn (ptsA rs) q)) (fun q => R (lsn (ptsA rs) q)))) := by
  obtain ⟨B, eB⟩ : ∃ B, B = brd rs out (fun q => R (spn (ptsA rs) q)) (fun q => R (lsn (ptsA rs) q)) := ⟨_, rfl⟩
  rw [← eB]
  obtain ⟨ov, one⟩ := over_rch (ga_ok ok out) F r big
  have hone : ∀ e ∈ esA rs out, crE R e = true → e.2.2 = 1 := fun e he hc => by
    obtain ⟨i, hi, rfl⟩ := mem_edg he
    exact one i hi hc
  have val : exc (GA rs out) f 0 = (B.length : Int) := by
    rw [← over_val (ga_ok ok out) F r.z r1, ov]
    have := cnt_of (rs := rs) (out := out) (c := crE R) hone
    rw [eB]
    exact this
  have C : Clo rs (ptsA rs) (fun q => R (spn (ptsA rs) q)) (fun q => R (lsn (ptsA rs) q)) := by
    have get : ∀ q ∈ ptsA rs, ∀ e ∈ edP rs out (ptsA rs) (mst rs) q, e.2.2 = mst rs → R e.1 = true → R e.2.1 = true := fun q hq e he hM h1 => by
      cases h2 : R e.2.1 with
      | true => rfl
      | false =>
        have := hone e (List.mem_flatMap.mpr ⟨q, hq, he⟩) (by unfold crE; rw [h1, h2]; rfl)
        rw [hM] at this
        exact absurd this (mst_ne hq)
    refine ⟨fun q hq h => ?_, fun q hq m os er o ho h => ?_, fun q hq h0 h1 h => ?_, fun q hq h => ?_⟩
    · refine get q hq (0, spn (ptsA rs) q, mst rs) ?_ rfl r.z
      unfold edP
      refine List.mem_append_left _ ?_
      split
      · next m os er => exact (h m os er).elim
      · exact List.mem_singleton.mpr rfl
    · refine get q hq (lsn (ptsA rs) (o, q.2), spn (ptsA rs) q, mst rs) ?_ rfl h
      unfold edP
      rw [er]
      exact List.mem_append_left _ (List.mem_map.mpr ⟨o, ho, rfl⟩)
    · refine get q hq (lsn (ptsA rs) (q.1, q.2 - 1), lsn (ptsA rs) q, mst rs) ?_ rfl h
      unfold edP
      refine List.mem_append_right _ (List.mem_append_right _ (List.mem_append_left _ ?_))
      rw [if_pos ⟨h0, h1⟩]
      exact List.mem_singleton.mpr rfl
    · cases h2 : R (lsn (ptsA rs) q) with
      | false => rfl
      | true =>
        have := get q hq (lsn (ptsA rs) q, 1, mst rs) (by
          unfold edP
          refine List.mem_append_right _ (List.mem_append_right _ (List.mem_append_right _ ?_))
          rw [if_pos h]
          exact List.mem_singleton.mpr rfl) rfl h2
        rw [r1] at this
        cases this
  have hB : ∀ q ∈ brd rs out (fun q => R (spn (ptsA rs) q)) (fun q => R (lsn (ptsA rs) q)), (q.1, (q.2 : Int)) ∈ kpo B := fun q hq => kpo_mem.mpr (by rw [eB]; exact hq)
  have lin := lost_in ok C hB
  have en : Enough rs out (kpo B) := fun k hk x hx hl => by
    have := lin k hk x hl
    rw [C.ask (x, k) (mem_pts.mpr ⟨hk, lost_sub hl⟩) hx] at this
    cases this
  have lB : (kpo B).length = B.length := List.length_map ..
  have low : ∀ kp', Enough rs out kp' → B.length ≤ (brd rs out (opB rs out kp') (loB rs out kp')).length := fun kp' en' => by
    have := val_brd ok F (clo_kp ok en')
    omega
  refine ⟨kpo_nd (by rw [eB]; exact brd_nd ok), fun p hp => ?_, en, fun kp' en' => ?_, fun kp' en' hl k hk n hn => ?_, fun kp' en' hl hs p hp => ?_⟩
  · obtain ⟨q, hq, rfl⟩ := List.mem_map.mp hp
    rw [eB] at hq
    obtain ⟨h1, h2⟩ := List.mem_filter.mp hq
    simp only [Bool.and_eq_true, Bool.not_eq_true'] at h2
    exact ⟨q.2, rfl, h1, h2.1⟩
  · have := low kp' en'
    have := brd_le ok (out := out) (kp := kp')
    omega
  · have full := full_of F (cl_one ok (clo_kp ok en')) (by
      rw [cl_cnt ok (clo_kp ok en'), over_val (ga_ok ok out) F cut_0 cut_1, val]
      have := brd_le ok (out := out) (kp := kp')
      omega)
    have sub := rch_sub r rk hrk (S := cutB (ptsA rs) (opB rs out kp') (loB rs out kp')) cut_0 fun i hi => ⟨fun c => by rw [(full i hi).1 c, cl_one ok (clo_kp ok en') i hi c], (full i hi).2⟩
    have h := sub _ (lin k hk n hn)
    rw [cut_l (mem_pts.mpr ⟨hk, lost_sub hn⟩)] at h
    exact of_decide_eq_true h
  · have full := full_of F (cl_one ok (clo_kp ok en')) (by
      rw [cl_cnt ok (clo_kp ok en'), over_val (ga_ok ok out) F cut_0 cut_1, val]
      have := brd_le ok (out := out) (kp := kp')
      omega)
    have sub := rch_sub r rk hrk (S := cutB (ptsA rs) (opB rs out kp') (loB rs out kp')) cut_0 fun i hi => ⟨fun c => by rw [(full i hi).1 c, cl_one ok (clo_kp ok en') i hi c], (full i hi).2⟩
    obtain ⟨q, hq, rfl⟩ := List.mem_map.mp hp
    rw [eB] at hq
    obtain ⟨h1, h2⟩ := List.mem_filter.mp hq
    simp only [Bool.and_eq_true, Bool.not_eq_true'] at h2
    obtain ⟨h3, h4, h5⟩ := h2
    have hq' := mem_pts.mp (show (q.1, q.2) ∈ ptsA rs from h1)
    have ho := sub _ h4
    rw [cut_s h1] at ho
    refine brd_kp ok (out := out) q (List.mem_filter.mpr ⟨h1, ?_⟩)
    have hl : loB rs out kp' q = false := decide_eq_false fun z => by
      have := lin q.2 hq'.1 q.1 (hs q.2 hq'.1 q.1 z)
      rw [h5] at this
      cases this
    rw [h3, ho, hl]
    rfl
theorem IsL.mem {rs : Rs} {out : List Int} {a b : Kps} (ha : IsL rs out a) (hb : IsL rs out b) : ∀ p, p ∈ a ↔ p ∈ b := by
  have l : b.length = a.length := Nat.le_antisymm (hb.le a ha.en) (ha.le b hb.en)
  exact fun p => ⟨ha.uq b hb.en l (hb.sub a ha.en l.symm) p, hb.uq a ha.en l.symm (ha.sub b hb.en l) p⟩
theorem IsL.perm {rs : Rs} {out : List Int} {a b : Kps} (ha : IsL rs out a) (h : b.Perm a) : IsL rs out b := by
  have hm : ∀ p, p ∈ b ↔ p ∈ a := fun p => h.mem_iff
  have hl := h.length_eq
  refine ⟨h.nodup_iff.mpr ha.nd, fun p hp => ha.cand p ((hm p).mp hp), fun k hk x hx z => ha.en k hk x hx ((lost_congr hm k x).mp z), fun kp' e => by rw [hl]; exact ha.le kp' e, fun kp' e q k hk n hn => ha.sub kp' e (by omega) k hk n ((lost_congr hm k n).mp hn), fun kp' e q s p hp => ha.uq kp' e (by omega) (fun k hk n hn => (lost_congr hm k n).mp (s k hk n hn)) p ((hm p).mp hp)⟩
end ST

set_option Elab.async false
set_option linter.all false
set_option maxRecDepth 100000
set_option maxHeartbeats 2000000
/-! M63f: the network as lists; what is reached, step by step. -/
namespace ST
open PySem PySem.Spec PyProof.Rows L2 LL
def adj (es : List Ed) (v : Nat) : List Nat := (List.range es.length).filter fun i => decide ((edg es i).1 = v) || decide ((edg es i).2.1 = v)
theorem mem_adj {es : List Ed} {v i : Nat} : i ∈ adj es v ↔ i < es.length ∧ ((edg es i).1 = v ∨ (edg es i).2.1 = v) := by
  unfold adj
  rw [List.mem_filter, List.mem_range, Bool.or_eq_true, decide_eq_true_iff, decide_eq_true_iff]
theorem edg_app {es : List Ed} {e : Ed} {i : Nat} (h : i < es.length) : edg (es ++ [e]) i = edg es i := by
  unfold edg
  rw [List.getD_eq_getElem?_getD, List.getElem?_append_left h, ← List.getD_eq_getElem?_getD]
theorem edg_last {es : List Ed} {e : Ed} : edg (es ++ [e]) es.length = e := by
  unfold edg
  rw [List.getD_eq_getElem?_getD, List.getElem?_append_right (Nat.le_refl _), Nat.sub_self]
  rfl
theorem adj_snoc (es : List Ed) (e : Ed) (v : Nat) : adj (es ++ [e]) v = adj es v ++ if e.1 = v ∨ e.2.1 = v then [es.length] else [] := by
  unfold adj
  rw [List.length_append, List.length_singleton, List.range_succ, List.filter_append]
  congr 1
  · refine List.filter_congr fun i hi => ?_
    rw [edg_app (List.mem_range.mp hi)]
  · rw [List.filter_cons, List.filter_nil, edg_last]
    by_cases c1 : e.1 = v <;> by_cases c2 : e.2.1 = v <;> simp [c1, c2]
theorem adj_len (es : List Ed) (v : Nat) : (adj es v).length ≤ es.length := by
  have := List.length_filter_le (fun i => decide ((edg es i).1 = v) || decide ((edg es i).2.1 = v)) (List.range es.length)
  rw [List.length_range] at this
  exact this
/-- a flow as a list -/
def flo (fl : List Int) (i : Nat) : Int := fl.getD i 0
theorem flo_at {fl : List Int} {i : Nat} (h : i < fl.length) : fl[i]? = some (flo fl i) := by
  unfold flo
  rw [List.getD_eq_getElem?_getD, List.getElem?_eq_getElem h]
  rfl
theorem flo_set {fl : List Int} {i : Nat} (h : i < fl.length) (c : Int) : flo (fl.set i (flo fl i + c)) = bump (flo fl) i c := by
  funext j
  unfold bump flo
  rw [List.getD_eq_getElem?_getD, List.getElem?_set]
  by_cases e : i = j
  · subst e
    rw [if_pos rfl, if_pos rfl, if_pos h]
    rfl
  · rw [if_neg e, if_neg (fun z => e z.symm), List.getD_eq_getElem?_getD]
theorem flo_zero (n i : Nat) : flo (List.replicate n 0) i = 0 := by
  unfold flo
  rw [List.getD_eq_getElem?_getD]
  by_cases h : i < n
  · rw [List.getElem?_replicate, if_pos h]
    rfl
  · rw [List.getElem?_eq_none (by rw [List.length_replicate]; omega)]
    rfl
theorem exc_zero {G : Net} {f : Nat → Int} (h : ∀ i, f i = 0) (v : Nat) : exc G f v = 0 := by
  unfold exc
  refine sm_zero fun i _ => ?_
  rw [h i]
  split <;> split <;> rfl
theorem flow_zero {G : Net} {f : Nat → Int} (h : ∀ i, f i = 0) (b : ∀ i, i < G.m → 0 ≤ G.b i) : Flow G f := ⟨fun i _ => by rw [h i]; exact Int.le_refl _, fun i hi => by rw [h i]; exact b i hi, fun v _ _ _ => exc_zero h v⟩
/-- the node to which a unit can go along an edge -/
def nxt (es : List Ed) (fl : List Int) (u i : Nat) : Option Nat := if u = (edg es i).1 then (if flo fl i < (edg es i).2.2 then some (edg es i).2.1 else none) else (if 0 < flo fl i then some (edg es i).1 else none)
theorem nxt_res {es : List Ed} {fl : List Int} {N u i v : Nat} (hi : i ∈ adj es u) : nxt es fl u i = some v ↔ Res (netE es N) (flo fl) u i v := by
  obtain ⟨hl, hs⟩ := mem_adj.mp hi
  unfold nxt Res
  show _ ↔ i < es.length ∧ (((edg es i).1 = u ∧ (edg es i).2.1 = v ∧ flo fl i < (edg es i).2.2) ∨ ((edg es i).1 ≠ u ∧ (edg es i).2.1 = u ∧ (edg es i).1 = v ∧ 0 < flo fl i))
  by_cases c : u = (edg es i).1
  · rw [if_pos c]
    by_cases d : flo fl i < (edg es i).2.2
    · rw [if_pos d]
      constructor
      · intro e
        exact ⟨hl, .inl ⟨c.symm, Option.some.inj e, d⟩⟩
      · rintro ⟨_, ⟨_, e, _⟩ | ⟨n, _⟩⟩
        · rw [e]
        · exact absurd c.symm n
    · rw [if_neg d]
      constructor
      · intro e
        cases e
      · rintro ⟨_, ⟨_, _, z⟩ | ⟨n, _⟩⟩
        · exact absurd z d
        · exact absurd c.symm n
  · rw [if_neg c]
    have e2 := hs.resolve_left fun z => c z.symm
    by_cases d : 0 < flo fl i
    · rw [if_pos d]
      constructor
      · intro e
        exact ⟨hl, .inr ⟨fun z => c z.symm, e2, Option.some.inj e, d⟩⟩
      · rintro ⟨_, ⟨z, _⟩ | ⟨_, _, e, _⟩⟩
        · exact absurd z.symm c
        · rw [e]
    · rw [if_neg d]
      constructor
      · intro e
        cases e
      · rintro ⟨_, ⟨z, _⟩ | ⟨_, _, _, z⟩⟩
        · exact absurd z.symm c
        · exact absurd z d
theorem res_adj {es : List Ed} {fl : List Int} {N u i v : Nat} (r : Res (netE es N) (flo fl) u i v) : i ∈ adj es u := by
  obtain ⟨hi, r⟩ := r
  refine mem_adj.mpr ⟨hi, ?_⟩
  rcases r with ⟨a, _⟩ | ⟨_, a, _⟩
  · exact .inl a
  · exact .inr a
theorem res_lt {G : Net} (ok : NetOk G) {f : Nat → Int} {u i v : Nat} (r : Res G f u i v) : v < G.N := by
  obtain ⟨hi, r⟩ := r
  rcases r with ⟨_, a, _⟩ | ⟨_, _, a, _⟩
  · rw [← a]
    exact ok.e i hi
  · rw [← a]
    exact ok.s i hi
/-! ### what is reached: the nodes in the order in which they were found -/
structure Ws (N : Nat) (ws : List Nat) : Prop where
  nd : ws.Nodup
  z : ws[0]? = some 0
  lt : ∀ v ∈ ws, v < N
theorem Ws.len {N : Nat} {ws : List Nat} (h : Ws N ws) : ws.length ≤ N := by
  have := nd_len (l := ws) (m := List.range N) h.nd fun v hv => List.mem_range.mpr (h.lt v hv)
  rwa [List.length_range] at this
theorem Ws.start {N : Nat} (h : 0 < N) : Ws N [0] := ⟨List.nodup_cons.mpr ⟨List.not_mem_nil, List.nodup_nil⟩, rfl, fun v hv => by rw [List.mem_singleton.mp hv]; exact h⟩
theorem Ws.snoc {N : Nat} {ws : List Nat} (h : Ws N ws) {v : Nat} (hv : v ∉ ws) (hl : v < N) : Ws N (ws ++ [v]) := by
  refine ⟨List.nodup_append.mpr ⟨h.nd, List.nodup_cons.mpr ⟨List.not_mem_nil, List.nodup_nil⟩, fun a ha b hb e => hv (by rw [List.mem_singleton.mp hb] at e; rw [← e]; exact ha)⟩, ?_, fun w hw => ?_⟩
  · have := (List.getElem?_eq_some_iff.mp h.z).1
    rw [List.getElem?_append_left this]
    exact h.z
  · rcases List.mem_append.mp hw with hw | hw
    · exact h.lt w hw
    · rw [List.mem_singleton.mp hw]
      exact hl
theorem Ws.z0 {N : Nat} {ws : List Nat} (h : Ws N ws) : 0 ∈ ws := List.mem_of_getElem? h.z
/-- each but the source has an earlier one from which it is reached -/
def Par (G : Net) (f : Nat → Int) (ws : List Nat) (v u i : Nat) : Prop := u ∈ ws ∧ ws.idxOf u < ws.idxOf v ∧ Res G f u i v
theorem idx_old {ws : List Nat} {v w : Nat} (h : w ∈ ws) : (ws ++ [v]).idxOf w = ws.idxOf w := by rw [List.idxOf_append, if_pos h]
theorem idx_new {ws : List Nat} {v : Nat} (h : v ∉ ws) : (ws ++ [v]).idxOf v = ws.length := by
  rw [List.idxOf_append, if_neg h, List.idxOf_cons_self, Nat.zero_add]
theorem Par.snoc {G : Net} {f : Nat → Int} {ws : List Nat} {v u i x : Nat} (h : Par G f ws v u i) (hv : v ∈ ws) : Par G f (ws ++ [x]) v u i := ⟨List.mem_append_left _ h.1, by rw [idx_old h.1, idx_old hv]; exact h.2.1, h.2.2⟩
theorem Par.new {G : Net} {f : Nat → Int} {ws : List Nat} {v u i : Nat} (hu : u ∈ ws) (hv : v ∉ ws) (r : Res G f u i v) : Par G f (ws ++ [v]) v u i := ⟨List.mem_append_left _ hu, by rw [idx_old hu, idx_new hv]; exact List.idxOf_lt_length_of_mem hu, r⟩
/-- nothing more is reached from the first so many -/
def Clos (G : Net) (f : Nat → Int) (ws : List Nat) (a : Nat) : Prop := ∀ j, j < a → ∀ u, ws[j]? = some u → ∀ i v, Res G f u i v → v ∈ ws
theorem Clos.snoc {G : Net} {f : Nat → Int} {ws : List Nat} {a x : Nat} (h : Clos G f ws a) (ha : a ≤ ws.length) : Clos G f (ws ++ [x]) a := fun j hj u hu i v r => by
  rw [List.getElem?_append_left (by omega)] at hu
  exact List.mem_append_left _ (h j hj u hu i v r)
theorem Clos.next {G : Net} {f : Nat → Int} {ws : List Nat} {a u : Nat} (h : Clos G f ws a) (hu : ws[a]? = some u) (hn : ∀ i v, Res G f u i v → v ∈ ws) : Clos G f ws (a + 1) := fun j hj w hw i v r => by
  by_cases c : j = a
  · subst c
    rw [hu] at hw
    cases hw
    exact hn i v r
  · exact h j (by omega) w hw i v r
theorem rch_of {G : Net} {f : Nat → Int} {N : Nat} {ws : List Nat} (hw : Ws N ws) (hc : Clos G f ws ws.length) (hp : ∀ v ∈ ws, v ≠ 0 → ∃ u i, Par G f ws v u i) : Rch G f (fun v => decide (v ∈ ws)) := by
  refine ⟨decide_eq_true hw.z0, fun u i v hu r => ?_, fun v hv h0 => ?_⟩
  · have hu := of_decide_eq_true hu
    obtain ⟨j, hj⟩ := List.mem_iff_getElem?.mp hu
    exact decide_eq_true (hc j (List.getElem?_eq_some_iff.mp hj).1 u hj i v r)
  · obtain ⟨u, i, h1, _, h3⟩ := hp v (of_decide_eq_true hv) h0
    exact ⟨u, i, decide_eq_true h1, h3⟩
theorem rk_of {G : Net} {f : Nat → Int} {ws : List Nat} (hp : ∀ v ∈ ws, v ≠ 0 → ∃ u i, Par G f ws v u i) : ∀ v, (fun v => decide (v ∈ ws)) v = true → v ≠ 0 → ∃ u i, (fun v => decide (v ∈ ws)) u = true ∧ Res G f u i v ∧ ws.idxOf u < ws.idxOf v := fun v hv h0 => by
  obtain ⟨u, i, h1, h2, h3⟩ := hp v (of_decide_eq_true hv) h0
  exact ⟨u, i, decide_eq_true h1, h3, h2⟩
theorem ga_b {rs : Rs} (ok : RsOk rs) {out : List Int} {i : Nat} (hi : i < (GA rs out).m) : (GA rs out).b i = 1 ∨ (GA rs out).b i = mst rs := (ed_ok ok _ (edg_mem hi)).b
theorem ga_b0 {rs : Rs} (ok : RsOk rs) {out : List Int} {i : Nat} (hi : i < (GA rs out).m) : 0 ≤ (GA rs out).b i := by
  rcases ga_b ok hi with h | h
  · omega
  · unfold mst at h
    omega
/-- a flow of few pushes -/
theorem big_of {rs : Rs} (ok : RsOk rs) {out : List Int} {f : Nat → Int} (F : Flow (GA rs out) f) (hf : ∀ i, i < (GA rs out).m → f i ≤ exc (GA rs out) f 0) : ∀ i, i < (GA rs out).m → (GA rs out).b i = 1 ∨ f i < (GA rs out).b i := fun i hi => by
  rcases ga_b ok hi with h | h
  · exact .inl h
  · refine .inr ?_
    have := hf i hi
    have := val_le ok F
    unfold mst at h
    omega
end ST

set_option Elab.async false
set_option linter.all false
set_option maxRecDepth 100000
set_option maxHeartbeats 2000000
/-! O61: rows in the heap; what is a row; places, needs. -/
namespace K63
open PySem PySem.Spec PyProof.Rows L2 LL ST
def top (i : Nat) : Stmt := PySem.Challenge.pw_leastlog_k63_whole_fewest_keeps.main.body.getD i (.Pass ⟨0, 0, 0, 0⟩)
abbrev s_is_integer : Stmt := top 23
abbrev n_is_integer : List Str := ["thing"]
theorem sc_is_integer : FnScope n_is_integer ["thing"] (defScope s_is_integer) := ⟨rfl, rfl, rfl, by decide +kernel, rfl, by decide +kernel, by decide +kernel⟩
abbrev s_is_new : Stmt := top 24
abbrev n_is_new : List Str := ["thing", "places"]
theorem sc_is_new : FnScope n_is_new ["thing", "places"] (defScope s_is_new) := ⟨rfl, rfl, rfl, by decide +kernel, rfl, by decide +kernel, by decide +kernel⟩
abbrev s_are_set : Stmt := top 25
abbrev n_are_set : List Str := ["things", "places", "thing"]
theorem sc_are_set : FnScope n_are_set ["things", "places"] (defScope s_are_set) := ⟨rfl, rfl, rfl, by decide +kernel, rfl, by decide +kernel, by decide +kernel⟩
abbrev s_is_row : Stmt := top 26
abbrev n_is_row : List Str := ["thing", "places"]
theorem sc_is_row : FnScope n_is_row ["thing", "places"] (defScope s_is_row) := ⟨rfl, rfl, rfl, by decide +kernel, rfl, by decide +kernel, by decide +kernel⟩
abbrev s_places_in : Stmt := top 27
abbrev n_places_in : List Str := ["rows", "places", "position", "row"]
theorem sc_places_in : FnScope n_places_in ["rows"] (defScope s_places_in) := ⟨rfl, rfl, rfl, by decide +kernel, rfl, by decide +kernel, by decide +kernel⟩
abbrev s_check_out : Stmt := top 28
abbrev n_check_out : List Str := ["out", "places", "position", "thing"]
theorem sc_check_out : FnScope n_check_out ["out", "places"] (defScope s_check_out) := ⟨rfl, rfl, rfl, by decide +kernel, rfl, by decide +kernel, by decide +kernel⟩
abbrev s_needed_by : Stmt := top 29
abbrev n_needed_by : List Str := ["row"]
theorem sc_needed_by : FnScope n_needed_by ["row"] (defScope s_needed_by) := ⟨rfl, rfl, rfl, by decide +kernel, rfl, by decide +kernel, by decide +kernel⟩
abbrev s_last_needs : Stmt := top 30
abbrev n_last_needs : List Str := ["rows", "out", "found", "position", "row", "value"]
theorem sc_last_needs : FnScope n_last_needs ["rows", "out"] (defScope s_last_needs) := ⟨rfl, rfl, rfl, by decide +kernel, rfl, by decide +kernel, by decide +kernel⟩
structure Tx (K : PySem.W.Frag) (mg : Str → Option Value) (C : Addr) : Prop where
  g_Stretch : mg "Stretch" = some (.ref C)
  g_LEAF : ∃ t, mg "LEAF" = some (.str "leaf" t)
  g_SET : ∃ t, mg "SET" = some (.str "set" t)
  g_USE : ∃ t, mg "USE" = some (.str "use" t)
  g_STOP : ∃ t, mg "STOP" = some (.str "stop" t)
  cl : Cls K C
  a1 : NoAttr K C "value_places"
  a2 : NoAttr K C "own_rows"
  a3 : NoAttr K C "own_out"
  a4 : NoAttr K C "stop_places"
  a5 : NoAttr K C "need_places"
  ca : PySem.W.findIn K (.ref C) "__class__" = some (some (.builtin "object.__class__"))
  cn : PySem.W.specialIn K (.builtin "object.__class__") "__get__" = some (some (.builtin "getset_descriptor.__get__"))
  ct : PySem.W.takesIn K (.builtin "object.__class__") = some true
  cm : PySem.W.mroIn K C (.type "object") = some true
  kC : PySem.W.kitOne K (.ref C) (.ref C) = some true
  kL : PySem.W.kitOne K (.type "list") (.ref C) = some false
  kI : PySem.W.kitOne K (.type "int") (.ref C) = some false
  kS : PySem.W.kitOne K (.type "str") (.ref C) = some false
  ne : PySem.W.findIn K (.ref C) "__ne__" = some (some (.builtin "object.__ne__"))
  fC : PySem.W.notFirst K C (.ref C) = true
  fL : PySem.W.notFirst K C (.type "list") = true
  fI : PySem.W.notFirst K C (.type "int") = true
  fS : PySem.W.notFirst K C (.type "str") = true
  n_isinstance : mg "isinstance" = none
  n_int : mg "int" = none
  n_bool : mg "bool" = none
  n_abs : mg "abs" = none
  n_str : mg "str" = none
  n_repr : mg "repr" = none
  n_range : mg "range" = none
  n_len : mg "len" = none
  n_max : mg "max" = none
  n_min : mg "min" = none
  n_divmod : mg "divmod" = none
  n_all : mg "all" = none
  n_list : mg "list" = none
  n_tuple : mg "tuple" = none
  n_sorted : mg "sorted" = none
  n_enumerate : mg "enumerate" = none
/-! ### rows in the heap -/
def OpT (H : Hp) (u : V) (os : List Int) : Prop := ∃ o, u = .ref o ∧ H o = some (.tup (os.map V.int))
theorem OpT.same {H H' : Hp} {u : V} {os : List Int} (h : OpT H u os) (s : Same H H') : OpT H' u os := let ⟨o, e, x⟩ := h; ⟨o, e, s _ _ x⟩
def RwAt (H : Hp) (v : V) : Rw → Prop
  | .leaf n => ∃ t, v = .ref t ∧ H t = some (.tup [.str "leaf", .int n])
  | .set n os => ∃ t u, v = .ref t ∧ H t = some (.tup [.str "set", .int n, u]) ∧ OpT H u os
  | .use os => ∃ t u, v = .ref t ∧ H t = some (.tup [.str "use", u]) ∧ OpT H u os
  | .stop l os => ∃ t u, v = .ref t ∧ H t = some (.tup [.str "stop", .str l, u]) ∧ OpT H u os
theorem RwAt.same {H H' : Hp} {v : V} {r : Rw} (h : RwAt H v r) (s : Same H H') : RwAt H' v r := by
  cases r with
  | leaf n => exact let ⟨t, e, x⟩ := h; ⟨t, e, s _ _ x⟩
  | set n os => exact let ⟨t, u, e, x, o⟩ := h; ⟨t, u, e, s _ _ x, o.same s⟩
  | use os => exact let ⟨t, u, e, x, o⟩ := h; ⟨t, u, e, s _ _ x, o.same s⟩
  | stop l os => exact let ⟨t, u, e, x, o⟩ := h; ⟨t, u, e, s _ _ x, o.same s⟩
structure Rws (H : Hp) (vs : List V) (rs : Rs) : Prop where
  len : vs.length = rs.length
  at_ : ∀ i v, vs[i]? = some v → RwAt H v (rw rs i)
theorem Rws.same {H H' : Hp} {vs : List V} {rs : Rs} (h : Rws H vs rs) (s : Same H H') : Rws H' vs rs := ⟨h.len, fun i v e => (h.at_ i v e).same s⟩
theorem Rws.get {H : Hp} {vs : List V} {rs : Rs} {i : Nat} (f : Rws H vs rs) (hi : i < rs.length) : ∃ v, atI vs (i : Int) = some v ∧ vs[i]? = some v ∧ RwAt H v (rw rs i) := by
  have hi' : i < vs.length := by rw [f.len]; exact hi
  exact ⟨vs[i], atI_nat (List.getElem?_eq_getElem hi'), List.getElem?_eq_getElem hi', f.at_ i _ (List.getElem?_eq_getElem hi')⟩
def RsAt (H : Hp) (a : Addr) (rs : Rs) : Prop := ∃ vs, Lt H a vs ∧ Rws H vs rs
theorem RsAt.same {H H' : Hp} {a : Addr} {rs : Rs} (h : RsAt H a rs) (s : Same H H') : RsAt H' a rs := let ⟨vs, l, g⟩ := h; ⟨vs, l.same s, g.same s⟩
theorem small {n : Nat} (h : n ≤ 100000) : n ≤ sizeLine := Nat.le_trans h (by rw [sizeLine_eq]; decide)
theorem kII {K : PySem.W.Frag} : PySem.W.kitOne K (.type "int") (.type "int") = some true := kit_ty (by decide +kernel)
theorem kIB {K : PySem.W.Frag} : PySem.W.kitOne K (.type "int") (.type "bool") = some false := kit_ty (by decide +kernel)
theorem kTT {K : PySem.W.Frag} : PySem.W.kitOne K (.type "tuple") (.type "tuple") = some true := kit_ty (by decide +kernel)
theorem kSS {K : PySem.W.Frag} : PySem.W.kitOne K (.type "str") (.type "str") = some true := kit_ty (by decide +kernel)
theorem kLL {K : PySem.W.Frag} : PySem.W.kitOne K (.type "list") (.type "list") = some true := kit_ty (by decide +kernel)
theorem sls : decide (V.str "leaf" = V.str "leaf") = true := by decide +kernel
theorem sl1 : decide (V.str "leaf" = V.str "set") = false := by decide +kernel
theorem sl2 : decide (V.str "leaf" = V.str "use") = false := by decide +kernel
theorem sl3 : decide (V.str "leaf" = V.str "stop") = false := by decide +kernel
theorem ss0 : decide (V.str "set" = V.str "leaf") = false := by decide +kernel
theorem ss1 : decide (V.str "set" = V.str "set") = true := by decide +kernel
theorem ss2 : decide (V.str "set" = V.str "use") = false := by decide +kernel
theorem ss3 : decide (V.str "set" = V.str "stop") = false := by decide +kernel
theorem su0 : decide (V.str "use" = V.str "leaf") = false := by decide +kernel
theorem su1 : decide (V.str "use" = V.str "set") = false := by decide +kernel
theorem su2 : decide (V.str "use" = V.str "use") = true := by decide +kernel
theorem su3 : decide (V.str "use" = V.str "stop") = false := by decide +kernel
theorem st0 : decide (V.str "stop" = V.str "leaf") = false := by decide +kernel
theorem st1 : decide (V.str "stop" = V.str "set") = false := by decide +kernel
theorem st2 : decide (V.str "stop" = V.str "use") = false := by decide +kernel
theorem st3 : decide (V.str "stop" = V.str "stop") = true := by decide +kernel
section
variable {P : Program} {w : World} {K : PySem.W.Frag} {mg : Str → Option Value} {base : Heap} {C : Addr} {f : Addr} {fd : FuncData}
abbrev FD (K : PySem.W.Frag) (x qual : Str) (st : Stmt) (dvs : List V) (f : Addr) (fd : FuncData) : Prop := FunD K x qual (defArgs st) (defBody st) (defScope st) dvs [] f fd
/-! ### is_integer, is_new -/
/-- a number that is at least 0, or none -/
def NoK (K : PySem.W.Frag) (T : String) (H : Hp) (v : V) : Prop := ∃ t, (∀ H', Same H H' → TyX K H' v t) ∧ PySem.W.kitOne K t (.type T) = some false
theorem NoK.same {K : PySem.W.Frag} {T : String} {H H' : Hp} {v : V} (h : NoK K T H v) (s : Same H H') : NoK K T H' v := let ⟨t, a, b⟩ := h; ⟨t, fun H2 s2 => a H2 (s.trans s2), b⟩
theorem kBI {K : PySem.W.Frag} : PySem.W.kitOne K (.type "bool") (.type "int") = some true := kit_ty (by decide +kernel)
theorem kBB {K : PySem.W.Frag} : PySem.W.kitOne K (.type "bool") (.type "bool") = some true := kit_ty (by decide +kernel)
inductive NumO (K : PySem.W.Frag) (H : Hp) : V → Option Int → Prop
  | int (i : Int) (h : 0 ≤ i) : NumO K H (.int i) (some i)
  | neg (i : Int) (h : ¬ 0 ≤ i) : NumO K H (.int i) none
  | bl (b : Bool) : NumO K H (.bl b) none
  | no {v : V} : NoK K "int" H v → NumO K H v none
theorem NumO.same {K : PySem.W.Frag} {H H' : Hp} {v : V} {o : Option Int} (h : NumO K H v o) (s : Same H H') : NumO K H' v o := by
  cases h with
  | int i h => exact .int i h
  | neg i h => exact .neg i h
  | bl b => exact .bl b
  | no h => exact .no (h.same s)
theorem NumO.some {K : PySem.W.Frag} {H : Hp} {v : V} {n : Int} (h : NumO K H v (Option.some n)) : v = .int n ∧ 0 ≤ n := by
  cases h with
  | int i h => exact ⟨rfl, h⟩
def spIntG (K : PySem.W.Frag) : Sp := fun vs H Q _ => ∃ v o, vs = [v] ∧ NumO K H v o ∧ Q (.bl o.isSome) H
theorem ok_is_integerG (T : Tx K mg C) (F : FD K "is_integer" "is_integer" s_is_integer [] f fd) : FnG P w K mg base CX0 1 f fd ["thing"] (spIntG K) := by
  refine ok0 F sc_is_integer (fun vs H Q E h => ?_) (fun cdv A outer s H vs Q E hr h => ?_)
  · obtain ⟨v, o, rfl, _⟩ := h
    rfl
  · obtain ⟨v, o, rfl, h, q⟩ := h
    refine ⟨_, (pss_one (ps_ret (pe_and (pe_callB call_isi (by rfl) T.n_isinstance (by decide +kernel) (pa_cons (pv 0) (pa_cons (pe_bltn (v := .ty "int") (by rfl) T.n_int (by decide +kernel) rfl) pa_nil))) (pe_and (pe_not (pe_callB call_isi (by rfl) T.n_isinstance (by decide +kernel) (pa_cons (pv 0) (pa_cons (pe_bltn (v := .ty "bool") (by rfl) T.n_bool (by decide +kernel) rfl) pa_nil)))) (pe_one (pe_cmpR op_ge (pv 0) pe_int (nomark _))))))), ?_⟩
    cases h with
    | int i h =>
      refine ⟨_, rfl, _, _, .type "int", _, _, rfl, .ty "int", .base (.int _), kII, _, rfl, iteT ⟨_, rfl, _, _, .type "int", _, _, rfl, .ty "bool", .base (.int _), kIB, _, rfl, _, rfl, iteT ⟨_, rfl, _, _, rfl, rfl, ?_⟩⟩⟩
      have e : decide ((0 : Int) ≤ i) = true := decide_eq_true h
      rw [← show (V.bl (decide ((0 : Int) ≤ i))) = V.bl (Option.some i).isSome by rw [e]; rfl] at q
      exact q
    | neg i h =>
      refine ⟨_, rfl, _, _, .type "int", _, _, rfl, .ty "int", .base (.int _), kII, _, rfl, iteT ⟨_, rfl, _, _, .type "int", _, _, rfl, .ty "bool", .base (.int _), kIB, _, rfl, _, rfl, iteT ⟨_, rfl, _, _, rfl, rfl, ?_⟩⟩⟩
      have e : decide ((0 : Int) ≤ i) = false := decide_eq_false h
      rw [← show (V.bl (decide ((0 : Int) ≤ i))) = V.bl (none : Option Int).isSome by rw [e]; rfl] at q
      exact q
    | bl b => exact ⟨_, rfl, _, _, .type "bool", _, _, rfl, .ty "int", .base (.bl _), kBI, _, rfl, iteT ⟨_, rfl, _, _, .type "bool", _, _, rfl, .ty "bool", .base (.bl _), kBB, _, rfl, _, rfl, iteF q⟩⟩
    | no h =>
      obtain ⟨t, ty, kt⟩ := h
      exact ⟨_, rfl, _, _, t, _, _, rfl, .ty "int", ty H Same.rfl', kt, _, rfl, iteF q⟩
def spInt : Sp := fun vs H Q _ => ∃ i : Int, vs = [.int i] ∧ Q (.bl (decide (0 ≤ i))) H
theorem ok_is_integer (T : Tx K mg C) (F : FD K "is_integer" "is_integer" s_is_integer [] f fd) : FnG P w K mg base CX0 1 f fd ["thing"] spInt := by
  refine ok0 F sc_is_integer (fun vs H Q E h => ?_) (fun cdv A outer s H vs Q E hr h => ?_)
  · obtain ⟨i, rfl, _⟩ := h
    rfl
  · obtain ⟨i, rfl, q⟩ := h
    refine ⟨_, (pss_one (ps_ret (pe_and (pe_callB call_isi (by rfl) T.n_isinstance (by decide +kernel) (pa_cons (pv 0) (pa_cons (pe_bltn (v := .ty "int") (by rfl) T.n_int (by decide +kernel) rfl) pa_nil))) (pe_and (pe_not (pe_callB call_isi (by rfl) T.n_isinstance (by decide +kernel) (pa_cons (pv 0) (pa_cons (pe_bltn (v := .ty "bool") (by rfl) T.n_bool (by decide +kernel) rfl) pa_nil)))) (pe_one (pe_cmpR op_ge (pv 0) pe_int (nomark _))))))), ?_⟩
    exact ⟨_, rfl, _, _, .type "int", _, _, rfl, .ty "int", .base (.int _), kII, _, rfl, iteT ⟨_, rfl, _, _, .type "int", _, _, rfl, .ty "bool", .base (.int _), kIB, _, rfl, _, rfl, iteT ⟨_, rfl, _, _, rfl, rfl, q⟩⟩⟩
def spNew : Sp := fun vs H Q _ => ∃ (i : Int) (d : Addr) (kvs : List (Key × V)), vs = [.int i, .ref d] ∧ Rd H d (.dK kvs) ∧ 0 ≤ i ∧ valV kvs (Sum.inl i) = none ∧ Q (.bl true) H
theorem ok_is_new (T : Tx K mg C) (G_is_integer : Fnc P w K mg base CX0 1 "is_integer" [] spInt) (F : FD K "is_new" "is_new" s_is_new [] f fd) : FnG P w K mg base CX0 2 f fd ["thing", "places"] spNew := by
  refine ok0 F sc_is_new (fun vs H Q E h => ?_) (fun cdv A outer s H vs Q E hr h => ?_)
  · obtain ⟨i, d, kvs, rfl, _⟩ := h
    rfl
  · obtain ⟨i, d, kvs, rfl, hd, h0, hv, q⟩ := h
    refine ⟨_, (pss_one (ps_ret (pe_and (pe_fn G_is_integer (hr.mono (by decide)) pass0 (pa_cons (pv 0) pa_nil)) (pe_one (pe_cmp (pc_dnotin (un1 hr.r.units) (pv 0) (pv 1)) rfl))))), ?_⟩
    refine ⟨_, rfl, i, rfl, _, rfl, iteY (decide_eq_true h0) ⟨_, rfl, _, rfl, d, _, rfl, .inl ⟨kvs, Sum.inl i, hd, rfl, rfl⟩, ?_⟩⟩
    rw [hv]
    exact q
/-! ### are_set -/
def spAre : Sp := fun vs H Q _ => ∃ (u : V) (os : List Int) (d : Addr) (kvs : List (Key × V)), vs = [u, .ref d] ∧ OpT H u os ∧ Rd H d (.dK kvs) ∧ os.length ≤ 1000 ∧ (∀ o ∈ os, 0 ≤ o ∧ (valV kvs (Sum.inl o)).isSome = true) ∧ ∀ H', Same H H' → Q (.bl true) H'
theorem rd_same {H H' : Hp} {d : Addr} {o : HO} (h : Rd H d o) (s : Same H H') : Rd H' d o := by
  rcases h with h | ⟨x, h⟩
  · exact .inl (s _ _ h)
  · exact .inr ⟨x, s _ _ h⟩
theorem ok_are_set (T : Tx K mg C) (G_is_integer : Fnc P w K mg base CX0 1 "is_integer" [] spInt) (F : FD K "are_set" "are_set" s_are_set [] f fd) : FnG P w K mg base CX0 2 f fd ["things", "places"] spAre := by
  refine ok0 F sc_are_set (fun vs H Q E h => ?_) (fun cdv A outer s H vs Q E hr h => ?_)
  · obtain ⟨u, os, d, kvs, rfl, _⟩ := h
    rfl
  · obtain ⟨u, os, d, kvs, rfl, ⟨o, rfl, ho⟩, hd, lo, hos, q⟩ := h
    refine ⟨_, (pss_one (ps_ret (pe_and (pe_callB call_isi (by rfl) T.n_isinstance (by decide +kernel) (pa_cons (pv 0) (pa_cons (pe_bltn (v := .ty "tuple") (by rfl) T.n_tuple (by decide +kernel) rfl) pa_nil))) (pe_one (pe_callB (cr_all rfl) (by rfl) T.n_all (by decide +kernel) (pa_cons (pe_lc (own := [("thing", 2)]) rfl sc_are_set.nd (pi_tup (pv 0)) (blkOk_by (own := [("thing", 2)]) (N := n_are_set) (sc := defScope s_are_set) (by decide +kernel)) (fun _ _ _ _ _ => (pg_name (i := 2) sc_are_set.nd rfl (by first | exact Or.inl rfl | exact Or.inr rfl))) (fun _ _ _ _ _ => pts_nil) (fun _ _ _ _ _ => (pe_and (pe_fn G_is_integer (hr.mono (by decide)) pass0 (pa_cons (pv 2) pa_nil)) (pe_one (pe_cmp (pc_din (un1 hr.r.units) (pv 2) (pv 1)) rfl))))) pa_nil)))))), ?_⟩
    refine ⟨_, rfl, _, _, .type "tuple", _, _, rfl, .ty "tuple", .base (.tup ho), kTT, _, rfl, iteT ?_⟩
    refine ⟨_, rfl, o, rfl, ⟨_, SqT.of ho⟩, fun D hD => ?_⟩
    refine lc_acc (walk_tup (K := K) (a := o) (xs := os.map V.int)) hD (fun j => (List.replicate j true).map V.bl) rfl (fun j hj => ?_) (fun H' s' => SqT.of (s' _ _ ho)) ?_ ?_
    · rw [List.length_map] at hj
      rw [List.length_map, List.length_replicate]
      omega
    · rintro j x H5 H6 hj s5 ⟨rfl, hx⟩ N S hN hS
      rw [List.getElem?_map] at hx
      obtain ⟨c, hc, rfl⟩ := Option.map_eq_some_iff.mp hx
      obtain ⟨c0, c1⟩ := hos c (List.mem_of_getElem? hc)
      refine ⟨rfl, _, rfl, c, rfl, _, rfl, iteY (decide_eq_true c0) ⟨_, rfl, _, rfl, d, _, rfl, .inl ⟨kvs, Sum.inl c, rd_same hd s5, rfl, rfl⟩, ?_⟩⟩
      rw [c1]
      exact hN _ _ Same.rfl' (rep_succ _)
    intro H5 s5 h5
    refine ⟨D, _, rfl, SqL.of h5, ?_⟩
    rw [rep_all]
    exact q _ s5
/-! ### is_row -/
def spRow : Sp := fun vs H Q _ => ∃ (v : V) (r : Rw) (d : Addr) (rs : Rs) (i : Nat), vs = [v, .ref d] ∧ RwAt H v r ∧ Rd H d (.dK (plk rs i)) ∧ RowOk (vls rs i) r ∧ RwZ r ∧ ∀ H', Same H H' → Q (.bl true) H'
theorem ok_is_row (T : Tx K mg C) (G_is_new : Fnc P w K mg base CX0 2 "is_new" [] spNew) (G_are_set : Fnc P w K mg base CX0 2 "are_set" [] spAre) (F : FD K "is_row" "is_row" s_is_row [] f fd) : FnG P w K mg base CX0 3 f fd ["thing", "places"] spRow := by
  refine ok0 F sc_is_row (fun vs H Q E h => ?_) (fun cdv A outer s H vs Q E hr h => ?_)
  · obtain ⟨v, r, d, rs, i, rfl, _⟩ := h
    rfl
  · obtain ⟨v, r, d, rs, i, rfl, hv, hd, ro, z, q⟩ := h
    refine ⟨_, (pss_cons (ps_if (PW.pt (pw_or (pt_not (pt_val (pe_callB call_isi (by rfl) T.n_isinstance (by decide +kernel) (pa_cons (pv 0) (pa_cons (pe_bltn (v := .ty "tuple") (by rfl) T.n_tuple (by decide +kernel) rfl) pa_nil))))) (pw_or (pt_cmpR op_lt (pe_callB call_len_seq (by rfl) T.n_len (by decide +kernel) (pa_cons (pv 0) pa_nil)) pe_int (nomark _)) (pw_or1 (pt_not (pt_val (pe_callB call_isi (by rfl) T.n_isinstance (by decide +kernel) (pa_cons (pe_ix ix_tup (pv 0) pe_int (fun _ _ => rfl)) (pa_cons (pe_bltn (v := .ty "str") (by rfl) T.n_str (by decide +kernel) rfl) pa_nil))))))))) (pss_one (ps_ret pe_bl)) pss_nil)
      (pss_cons (ps_if (pt_cmpR op_eq (pe_ix ix_tup (pv 0) pe_int (fun _ _ => rfl)) (pe_gS T.g_LEAF) (nomark _)) (pss_one (ps_ret (pe_and (pe_cmpR op_eq (pe_callB call_len_seq (by rfl) T.n_len (by decide +kernel) (pa_cons (pv 0) pa_nil)) pe_int (nomark _)) (pe_one (pe_fn G_is_new (hr.mono (by decide)) pass0 (pa_cons (pe_ix ix_tup (pv 0) pe_int (fun _ _ => rfl)) (pa_cons (pv 1) pa_nil))))))) pss_nil)
      (pss_cons (ps_if (pt_cmpR op_eq (pe_ix ix_tup (pv 0) pe_int (fun _ _ => rfl)) (pe_gS T.g_SET) (nomark _)) (pss_one (ps_ret (pe_and (pe_cmpR op_eq (pe_callB call_len_seq (by rfl) T.n_len (by decide +kernel) (pa_cons (pv 0) pa_nil)) pe_int (nomark _)) (pe_and (pe_fn G_is_new (hr.mono (by decide)) pass0 (pa_cons (pe_ix ix_tup (pv 0) pe_int (fun _ _ => rfl)) (pa_cons (pv 1) pa_nil))) (pe_one (pe_fn G_are_set (hr.mono (by decide)) pass0 (pa_cons (pe_ix ix_tup (pv 0) pe_int (fun _ _ => rfl)) (pa_cons (pv 1) pa_nil)))))))) pss_nil)
      (pss_cons (ps_if (pt_cmpR op_eq (pe_ix ix_tup (pv 0) pe_int (fun _ _ => rfl)) (pe_gS T.g_USE) (nomark _)) (pss_one (ps_ret (pe_and (pe_cmpR op_eq (pe_callB call_len_seq (by rfl) T.n_len (by decide +kernel) (pa_cons (pv 0) pa_nil)) pe_int (nomark _)) (pe_one (pe_fn G_are_set (hr.mono (by decide)) pass0 (pa_cons (pe_ix ix_tup (pv 0) pe_int (fun _ _ => rfl)) (pa_cons (pv 1) pa_nil))))))) pss_nil)
      (pss_one (ps_ret (pe_and (pe_cmpR op_eq (pe_ix ix_tup (pv 0) pe_int (fun _ _ => rfl)) (pe_gS T.g_STOP) (nomark _)) (pe_and (pe_cmpR op_eq (pe_callB call_len_seq (by rfl) T.n_len (by decide +kernel) (pa_cons (pv 0) pa_nil)) pe_int (nomark _)) (pe_and (pe_callB call_isi (by rfl) T.n_isinstance (by decide +kernel) (pa_cons (pe_ix ix_tup (pv 0) pe_int (fun _ _ => rfl)) (pa_cons (pe_bltn (v := .ty "str") (by rfl) T.n_str (by decide +kernel) rfl) pa_nil))) (pe_one (pe_fn G_are_set (hr.mono (by decide)) pass0 (pa_cons (pe_ix ix_tup (pv 0) pe_int (fun _ _ => rfl)) (pa_cons (pv 1) pa_nil))))))))))))), ?_⟩
    have opk : (∀ o ∈ r.ops, o ∈ vls rs i) → ∀ o ∈ r.ops, 0 ≤ o ∧ (valV (plk rs i) (Sum.inl o)).isSome = true := fun h o ho => ⟨(z.op o ho).1, by rw [plk_is, decide_eq_true (h o ho)]⟩
    have l3 := z.opl
    cases r with
    | leaf n =>
      obtain ⟨t, rfl, ht⟩ := hv
      refine ⟨_, rfl, _, _, .type "tuple", _, _, rfl, .ty "tuple", .base (.tup ht), kTT, _, rfl, iteF ?_⟩
      refine ⟨_, rfl, t, _, rfl, .inr (SqT.of ht), _, _, rfl, rfl, _, rfl, iteF ?_⟩
      refine ⟨_, rfl, t, _, _, _, rfl, rfl, SqT.of ht, atI_nat (j := 0) rfl, _, _, .type "str", _, _, rfl, .ty "str", .base (.str _), kSS, _, rfl, iteF ?_⟩
      refine ⟨_, rfl, t, _, _, _, rfl, rfl, SqT.of ht, atI_nat (j := 0) rfl, rfl, _, rfl, iteY sls ?_⟩
      refine ⟨_, rfl, t, _, rfl, .inr (SqT.of ht), rfl, _, rfl, iteT ?_⟩
      exact ⟨_, rfl, t, _, _, _, rfl, rfl, SqT.of ht, atI_nat (j := 1) rfl, _, rfl, n, d, _, rfl, hd, (z.val n (List.mem_singleton.mpr rfl)).1, plk_none ro, q _ Same.rfl'⟩
    | set n os =>
      obtain ⟨t, u, rfl, ht, hu⟩ := hv
      refine ⟨_, rfl, _, _, .type "tuple", _, _, rfl, .ty "tuple", .base (.tup ht), kTT, _, rfl, iteF ?_⟩
      refine ⟨_, rfl, t, _, rfl, .inr (SqT.of ht), _, _, rfl, rfl, _, rfl, iteF ?_⟩
      refine ⟨_, rfl, t, _, _, _, rfl, rfl, SqT.of ht, atI_nat (j := 0) rfl, _, _, .type "str", _, _, rfl, .ty "str", .base (.str _), kSS, _, rfl, iteF ?_⟩
      refine ⟨_, rfl, t, _, _, _, rfl, rfl, SqT.of ht, atI_nat (j := 0) rfl, rfl, _, rfl, iteN ss0 ?_⟩
      refine ⟨_, rfl, t, _, _, _, rfl, rfl, SqT.of ht, atI_nat (j := 0) rfl, rfl, _, rfl, iteY ss1 ?_⟩
      refine ⟨_, rfl, t, _, rfl, .inr (SqT.of ht), rfl, _, rfl, iteT ?_⟩
      refine ⟨_, rfl, t, _, _, _, rfl, rfl, SqT.of ht, atI_nat (j := 1) rfl, _, rfl, n, d, _, rfl, hd, (z.val n (List.mem_singleton.mpr rfl)).1, plk_none ro.1, _, rfl, iteT ?_⟩
      exact ⟨_, rfl, t, _, _, _, rfl, rfl, SqT.of ht, atI_nat (j := 2) rfl, _, rfl, u, os, d, _, rfl, hu, hd, by show os.length ≤ 1000; have : os.length ≤ 3 := l3; omega, opk ro.2, q⟩
    | use os =>
      obtain ⟨t, u, rfl, ht, hu⟩ := hv
      refine ⟨_, rfl, _, _, .type "tuple", _, _, rfl, .ty "tuple", .base (.tup ht), kTT, _, rfl, iteF ?_⟩
      refine ⟨_, rfl, t, _, rfl, .inr (SqT.of ht), _, _, rfl, rfl, _, rfl, iteF ?_⟩
      refine ⟨_, rfl, t, _, _, _, rfl, rfl, SqT.of ht, atI_nat (j := 0) rfl, _, _, .type "str", _, _, rfl, .ty "str", .base (.str _), kSS, _, rfl, iteF ?_⟩
      refine ⟨_, rfl, t, _, _, _, rfl, rfl, SqT.of ht, atI_nat (j := 0) rfl, rfl, _, rfl, iteN su0 ?_⟩
      refine ⟨_, rfl, t, _, _, _, rfl, rfl, SqT.of ht, atI_nat (j := 0) rfl, rfl, _, rfl, iteN su1 ?_⟩
      refine ⟨_, rfl, t, _, _, _, rfl, rfl, SqT.of ht, atI_nat (j := 0) rfl, rfl, _, rfl, iteY su2 ?_⟩
      refine ⟨_, rfl, t, _, rfl, .inr (SqT.of ht), rfl, _, rfl, iteT ?_⟩
      exact ⟨_, rfl, t, _, _, _, rfl, rfl, SqT.of ht, atI_nat (j := 1) rfl, _, rfl, u, os, d, _, rfl, hu, hd, by show os.length ≤ 1000; have : os.length ≤ 3 := l3; omega, opk ro, q⟩
    | stop l os =>
      obtain ⟨t, u, rfl, ht, hu⟩ := hv
      refine ⟨_, rfl, _, _, .type "tuple", _, _, rfl, .ty "tuple", .base (.tup ht), kTT, _, rfl, iteF ?_⟩
      refine ⟨_, rfl, t, _, rfl, .inr (SqT.of ht), _, _, rfl, rfl, _, rfl, iteF ?_⟩
      refine ⟨_, rfl, t, _, _, _, rfl, rfl, SqT.of ht, atI_nat (j := 0) rfl, _, _, .type "str", _, _, rfl, .ty "str", .base (.str _), kSS, _, rfl, iteF ?_⟩
      refine ⟨_, rfl, t, _, _, _, rfl, rfl, SqT.of ht, atI_nat (j := 0) rfl, rfl, _, rfl, iteN st0 ?_⟩
      refine ⟨_, rfl, t, _, _, _, rfl, rfl, SqT.of ht, atI_nat (j := 0) rfl, rfl, _, rfl, iteN st1 ?_⟩
      refine ⟨_, rfl, t, _, _, _, rfl, rfl, SqT.of ht, atI_nat (j := 0) rfl, rfl, _, rfl, iteN st2 ?_⟩
      refine ⟨_, rfl, t, _, _, _, rfl, rfl, SqT.of ht, atI_nat (j := 0) rfl, rfl, _, rfl, iteY st3 ?_⟩
      refine ⟨_, rfl, t, _, rfl, .inr (SqT.of ht), rfl, _, rfl, iteT ?_⟩
      refine ⟨_, rfl, t, _, _, _, rfl, rfl, SqT.of ht, atI_nat (j := 1) rfl, _, _, .type "str", _, _, rfl, .ty "str", .base (.str _), kSS, _, rfl, iteT ?_⟩
      exact ⟨_, rfl, t, _, _, _, rfl, rfl, SqT.of ht, atI_nat (j := 2) rfl, _, rfl, u, os, d, _, rfl, hu, hd, by show os.length ≤ 1000; have : os.length ≤ 3 := l3; omega, opk ro, q⟩
/-! ### places_in -/
theorem kLT {K : PySem.W.Frag} : PySem.W.kitOne K (.type "list") (.type "tuple") = some false := kit_ty (by decide +kernel)
theorem kTL {K : PySem.W.Frag} : PySem.W.kitOne K (.type "tuple") (.type "list") = some false := kit_ty (by decide +kernel)
theorem kitA {t : Value} {b c : Bool} (h1 : PySem.W.kitOne K t (.type "list") = some b) (h2 : PySem.W.kitOne K t (.type "tuple") = some c) : PySem.W.kitAny K t [.type "list", .type "tuple"] = some (b || c) := by
  cases b <;> cases c <;> simp [PySem.W.kitAny, h1, h2]
theorem ty_lt {H : Hp} {a : Addr} {vs : List V} (h : Lt H a vs) : ∃ t, TyX K H (.ref a) t ∧ PySem.W.kitAny K t [.type "list", .type "tuple"] = some true := by
  rcases h with h | h
  · exact ⟨.type "list", .base (.lst h), kitA kLL kLT⟩
  · exact ⟨.type "tuple", .base (.tup h), kitA kTL kTT⟩
def spPl : Sp := fun vs H Q _ => ∃ (a : Addr) (rs : Rs), vs = [.ref a] ∧ RsAt H a rs ∧ RsOk rs ∧ ∀ H' d, Same H H' → H d = none → H' d = some (.dK (plA rs)) → Q (.ref d) H'
theorem in2 {a b : Str} {c : Str} : inV (.str c) [.str a, .str b] = (decide (V.str a = V.str c) || decide (V.str b = V.str c)) := by
  have q : ∀ x y : Str, (x == y) = decide (V.str x = V.str y) := fun x y => by
    by_cases h : x = y
    · subst h
      rw [decide_eq_true rfl]
      exact beq_self_eq_true _
    · rw [decide_eq_false fun z => h (V.str.inj z)]
      exact beq_false_of_ne h
  show ((a == c) || ((b == c) || false)) = _
  rw [q, q, Bool.or_false]
theorem row_tup {H : Hp} {v : V} {r : Rw} (h : RwAt H v r) : ∃ t x xs, v = .ref t ∧ H t = some (.tup (.str x :: xs)) ∧ ((x = "leaf" ∧ ∃ n, r = .leaf n ∧ xs = [.int n]) ∨ (x = "set" ∧ ∃ n os u, r = .set n os ∧ xs = [.int n, u] ∧ OpT H u os) ∨ (x = "use" ∧ ∃ os u, r = .use os ∧ xs = [u] ∧ OpT H u os) ∨ (x = "stop" ∧ ∃ l os u, r = .stop l os ∧ xs = [.str l, u] ∧ OpT H u os)) := by
  cases r with
  | leaf n => obtain ⟨t, rfl, ht⟩ := h; exact ⟨t, _, _, rfl, ht, .inl ⟨rfl, n, rfl, rfl⟩⟩
  | set n os => obtain ⟨t, u, rfl, ht, hu⟩ := h; exact ⟨t, _, _, rfl, ht, .inr (.inl ⟨rfl, n, os, u, rfl, rfl, hu⟩)⟩
  | use os => obtain ⟨t, u, rfl, ht, hu⟩ := h; exact ⟨t, _, _, rfl, ht, .inr (.inr (.inl ⟨rfl, os, u, rfl, rfl, hu⟩))⟩
  | stop l os => obtain ⟨t, u, rfl, ht, hu⟩ := h; exact ⟨t, _, _, rfl, ht, .inr (.inr (.inr ⟨rfl, l, os, u, rfl, rfl, hu⟩))⟩
theorem ok_places_in (T : Tx K mg C) (G_is_row : Fnc P w K mg base CX0 3 "is_row" [] spRow) (F : FD K "places_in" "places_in" s_places_in [] f fd) : FnG P w K mg base CX0 4 f fd ["rows"] spPl := by
  refine ok0 F sc_places_in (fun vs H Q E h => ?_) (fun cdv A outer s H vs Q E hr h => ?_)
  · obtain ⟨a, rs, rfl, _⟩ := h
    rfl
  · obtain ⟨a, rs, rfl, ⟨ls, hl, rws⟩, ok, q⟩ := h
    refine ⟨_, (pss_cons (ps_if (pt_not (pt_val (pe_callB call_isiT (by rfl) T.n_isinstance (by decide +kernel) (pa_cons (pv 0) (pa_cons (pe_tup (pa_cons (pe_bltn (v := .ty "list") (by rfl) T.n_list (by decide +kernel) rfl) (pa_cons (pe_bltn (v := .ty "tuple") (by rfl) T.n_tuple (by decide +kernel) rfl) pa_nil))) pa_nil))))) (pss_one ps_never) pss_nil)
      (pss_cons (ps_set (i := 1) sc_places_in.nd rfl (by first | exact Or.inl rfl | exact Or.inr rfl) pe_dnewK)
      (pss_cons (ps_for PassesOwn.never rfl (pi_enumA (by rfl) T.n_enumerate (pa_cons (pv 0) pa_nil)) (pg_tup rfl (pgs_cons (pg_name (i := 2) sc_places_in.nd rfl (by first | exact Or.inl rfl | exact Or.inr rfl)) (pgs_cons (pg_name (i := 3) sc_places_in.nd rfl (by first | exact Or.inl rfl | exact Or.inr rfl)) pgs_nil))) (pss_cons (ps_if (pt_not (pt_val (pe_fn G_is_row (hr.mono (by decide)) pass0 (pa_cons (pv 3) (pa_cons (pv 1) pa_nil))))) (pss_one ps_never) pss_nil)
      (pss_one (ps_if (pt_cmpR op_in_seq (pe_ix ix_tup (pv 3) pe_int (fun _ _ => rfl)) (pe_tup (pa_cons (pe_gS T.g_LEAF) (pa_cons (pe_gS T.g_SET) pa_nil))) (by rfl)) (pss_one (ps_dput (un1 hr.r.units) (pv 1) (pe_ix ix_tup (pv 3) pe_int (fun _ _ => rfl)) (pv 2) rfl)) pss_nil))))
      (pss_one (ps_ret (pv 1)))))), ?_⟩
    refine ⟨_, rfl, (by show 2 ≤ sizeLine; decide), fun tp ntp => ?_⟩
    obtain ⟨G, e, s1, htp⟩ := mkO ntp (.tup [.ty "list", .ty "tuple"])
    rw [e]
    clear e
    obtain ⟨t, ty, kt⟩ := ty_lt (K := K) (hl.same s1)
    refine ⟨_, _, _, t, _, _, rfl, htp, .cons (.ty _) (.cons (.ty _) .nil), ty, kt, _, rfl, iteF ?_⟩
    refine fun d nd => ?_
    obtain ⟨G2, e, s2, hd⟩ := mkO nd (.dK [])
    rw [e]
    clear e
    have nd0 : H d = none := s1.free nd
    have s12 := s1.trans s2
    obtain ⟨k, hk⟩ := hl.k (K := K)
    refine ⟨_, rfl, k, a, ls, rfl, sqK_same hk s12, ?_⟩
    refine for_it (walk_enumK (K := K) (k := k) (a := a) (xs := ls)) (fun i σ H' => Same H H' ∧ H' d = some (.dK (plk rs i)) ∧ ∃ u v, σ = [some (.ref a), some (.ref d), u, v]) ⟨s12, hd, none, none, rfl⟩ (fun i σ H' _ h => sqK_same hk h.1) ?_ ?_
    · rintro i x σ H2 H3 hi ⟨s2, hd2, u, v, rfl⟩ ⟨t, y, z, rfl, nt, rfl, hy, hz⟩
      cases hy
      have il : i < rs.length := by rw [← rws.len]; exact hi
      have s3 := s2.trans (same_upd (o := .tup [.int (i : Nat), z]) nt)
      have hd3 := same_upd (o := .tup [.int (i : Nat), z]) nt _ _ hd2
      refine ⟨t, _, rfl, SqT.of upd_same, rfl, _, _, rfl, _, _, rfl, rfl, ?_⟩
      have ra := (rws.at_ i z hz).same s3
      refine ⟨_, rfl, _, rfl, z, rw rs i, d, rs, i, rfl, ra, .inl hd3, ok.row i il, ok.z i il, fun H4 s4 => ⟨_, rfl, iteF ?_⟩⟩
      have s04 := s3.trans s4
      have hd4 := s4 _ _ hd3
      obtain ⟨t', x', xs', rfl, ht, h⟩ := row_tup (ra.same s4)
      refine ⟨_, rfl, t', _, _, _, rfl, rfl, SqT.of ht, atI_nat (j := 0) rfl, (by show 2 ≤ sizeLine; decide), fun tq ntq => ?_⟩
      obtain ⟨G5, e5, s5, htq⟩ := mkO ntq (.tup [.str "leaf", .str "set"])
      rw [e5]
      clear e5
      have hd5 := s5 _ _ hd4
      have s05 := s04.trans s5
      refine ⟨tq, _, rfl, .inr (SqT.of htq), rfl, rfl, _, rfl, ?_⟩
      have hnn := ok.row i il
      rcases h with ⟨rfl, n, er, rfl⟩ | ⟨rfl, n, os, u, er, rfl, hu⟩ | ⟨rfl, os, u, er, rfl, hu⟩ | ⟨rfl, l, os, u, er, rfl, hu⟩
      · rw [er] at hnn
        refine iteY (by rw [in2, sls]; rfl) ?_
        refine ⟨_, rfl, _, rfl, _, rfl, t', _, _, _, rfl, rfl, SqT.of (s5 _ _ ht), atI_nat (j := 1) rfl, d, _, rfl, DPut.k (k := Sum.inl n) hd5 (Nat.lt_of_lt_of_le (show _ < 100000 by have := plk_len rs i; have := vls_len rs i; have := ok.len; omega) (small (Nat.le_refl _))), own_same s05 nd0, ?_, _, _, rfl⟩
        rw [upd_same, plk_put hnn (by rw [er]; rfl)]
      · rw [er] at hnn
        refine iteY (by rw [in2, ss1, Bool.or_true]; rfl) ?_
        refine ⟨_, rfl, _, rfl, _, rfl, t', _, _, _, rfl, rfl, SqT.of (s5 _ _ ht), atI_nat (j := 1) rfl, d, _, rfl, DPut.k (k := Sum.inl n) hd5 (Nat.lt_of_lt_of_le (show _ < 100000 by have := plk_len rs i; have := vls_len rs i; have := ok.len; omega) (small (Nat.le_refl _))), own_same s05 nd0, ?_, _, _, rfl⟩
        rw [upd_same, plk_put hnn.1 (by rw [er]; rfl)]
      · refine iteN (by rw [in2, sl2, ss2]; rfl) ⟨s05, ?_, _, _, rfl⟩
        rw [plk_no (by rw [er]; rfl)]
        exact hd5
      · refine iteN (by rw [in2, sl3, ss3]; rfl) ⟨s05, ?_, _, _, rfl⟩
        rw [plk_no (by rw [er]; rfl)]
        exact hd5
    · rintro σ H2 ⟨s2, hd2, u, v, rfl⟩
      rw [rws.len] at hd2
      exact ⟨_, rfl, q _ d s2 nd0 hd2⟩
/-! ### values handed on -/
def OutAt (K : PySem.W.Frag) (H : Hp) (b : Addr) (out : List Int) : Prop := Lt H b (out.map V.int) ∨ (out = [] ∧ ∃ (o : Obj) (its : Array Value) (n : Nat), K.lookup b = some o ∧ o.cls = .type "tuple" ∧ o.data = .seq its n ∧ its.size ≤ sizeLine ∧ Vals [] its.toList)
theorem OutAt.same {H H' : Hp} {b : Addr} {out : List Int} (h : OutAt K H b out) (s : Same H H') : OutAt K H' b out := h.imp (·.same s) id
theorem OutAt.k {H : Hp} {b : Addr} {out : List Int} (h : OutAt K H b out) : ∃ k, ∀ H', Same H H' → sqK k K H' b (out.map V.int) := by
  rcases h with h | ⟨rfl, h⟩
  · obtain ⟨k, hk⟩ := h.k (K := K)
    exact ⟨k, fun H' s => sqK_same hk s⟩
  · exact ⟨false, fun H' s => .inr h⟩
theorem OutAt.ty {H : Hp} {b : Addr} {out : List Int} (h : OutAt K H b out) : ∃ t, TyX K H (.ref b) t ∧ PySem.W.kitAny K t [.type "list", .type "tuple"] = some true := by
  rcases h with h | ⟨rfl, o, its, n, h1, h2, _⟩
  · exact ty_lt h
  · exact ⟨.type "tuple", .kTuple h1 h2, kitA kTL kTT⟩
theorem sq_of {k : Bool} {H : Hp} {b : Addr} {xs : List V} (h : sqK k K H b xs) : SqL K H b xs ∨ SqT K H b xs := by
  cases k with
  | true => exact .inl h
  | false => exact .inr h
theorem seq_out {tl : TE} {σ : L2.St} {H0 H : Hp} {b : Addr} {out : List Int} {R : It → Hp → Prop} (h : OutAt K H0 b out) (s : Same H0 H) (hq : ∀ Q : VK, Q (.ref b) H → tl σ H Q) (k : ∀ J, Walk J (out.map V.int).length (fun H' => Same H0 H') (YAt (out.map V.int)) → R J H) : iSeqA K tl σ H R := by
  obtain ⟨kb, hk⟩ := h.k
  cases kb with
  | true => exact .inl (hq _ ⟨b, rfl, ⟨_, hk _ s⟩, k _ ((walk_list (K := K)).mono (fun H' s => hk H' s) fun _ _ _ _ _ _ y => y)⟩)
  | false => exact .inr (hq _ ⟨b, rfl, ⟨_, hk _ s⟩, k _ ((walk_tup (K := K)).mono (fun H' s => hk H' s) fun _ _ _ _ _ _ y => y)⟩)
def spCO (K : PySem.W.Frag) : Sp := fun vs H Q _ => ∃ (b d : Addr) (out : List Int) (rs : Rs), vs = [.ref b, .ref d] ∧ OutAt K H b out ∧ H d = some (.dK (plA rs)) ∧ RsOk rs ∧ (∀ n ∈ out, n ∈ vlA rs) ∧ out.length ≤ 1000 ∧ ∀ H', Same H H' → Q .non H'
theorem ok_check_out (T : Tx K mg C) (G_is_integer : Fnc P w K mg base CX0 1 "is_integer" [] spInt) (F : FD K "check_out" "check_out" s_check_out [] f fd) : FnG P w K mg base CX0 2 f fd ["out", "places"] (spCO K) := by
  refine ok0 F sc_check_out (fun vs H Q E h => ?_) (fun cdv A outer s H vs Q E hr h => ?_)
  · obtain ⟨b, d, out, rs, rfl, _⟩ := h
    rfl
  · obtain ⟨b, d, out, rs, rfl, hb, hd, ok, ho, lo, q⟩ := h
    refine ⟨_, (pss_cons (ps_if (pt_not (pt_val (pe_callB call_isiT (by rfl) T.n_isinstance (by decide +kernel) (pa_cons (pv 0) (pa_cons (pe_tup (pa_cons (pe_bltn (v := .ty "list") (by rfl) T.n_list (by decide +kernel) rfl) (pa_cons (pe_bltn (v := .ty "tuple") (by rfl) T.n_tuple (by decide +kernel) rfl) pa_nil))) pa_nil))))) (pss_one ps_never) pss_nil)
      (pss_one (ps_for PassesOwn.never rfl (pi_enumA (by rfl) T.n_enumerate (pa_cons (pv 0) pa_nil)) (pg_tup rfl (pgs_cons (pg_name (i := 2) sc_check_out.nd rfl (by first | exact Or.inl rfl | exact Or.inr rfl)) (pgs_cons (pg_name (i := 3) sc_check_out.nd rfl (by first | exact Or.inl rfl | exact Or.inr rfl)) pgs_nil))) (pss_one (ps_if (PW.pt (pw_or (pt_not (pt_val (pe_fn G_is_integer (hr.mono (by decide)) pass0 (pa_cons (pv 3) pa_nil)))) (pw_or1 (pt_cmp (pc_dnotin (un1 hr.r.units) (pv 3) (pv 1)) rfl)))) (pss_one ps_never) pss_nil))))), ?_⟩
    refine ⟨_, rfl, (by show 2 ≤ sizeLine; decide), fun tp ntp => ?_⟩
    obtain ⟨G, e, s1, htp⟩ := mkO ntp (.tup [.ty "list", .ty "tuple"])
    rw [e]
    clear e
    obtain ⟨t, ty, kt⟩ := (hb.same s1).ty
    refine ⟨_, _, _, t, _, _, rfl, htp, .cons (.ty _) (.cons (.ty _) .nil), ty, kt, _, rfl, iteF ?_⟩
    obtain ⟨k, hk⟩ := hb.k
    refine ⟨_, rfl, k, b, _, rfl, hk _ s1, ?_⟩
    refine for_it (walk_enumK (K := K) (k := k) (a := b) (xs := out.map V.int)) (fun i σ H' => Same H H' ∧ ∃ u v, σ = [some (.ref b), some (.ref d), u, v]) ⟨s1, none, none, rfl⟩ (fun i σ H' _ h => hk _ h.1) ?_ ?_
    · rintro i x σ H2 H3 hi ⟨s2, u, v, rfl⟩ ⟨t, y, z, rfl, nt, rfl, hy, hz⟩
      cases hy
      have hz : (out.map V.int)[i]? = some z := hz
      rw [List.getElem?_map] at hz
      obtain ⟨n, hn, rfl⟩ := Option.map_eq_some_iff.mp hz
      have s3 := s2.trans (same_upd (o := .tup [.int (i : Nat), .int n]) nt)
      have hm := ho n (List.mem_of_getElem? hn)
      refine ⟨t, _, rfl, SqT.of upd_same, rfl, _, _, rfl, _, _, rfl, rfl, ?_⟩
      refine ⟨_, rfl, n, rfl, _, rfl, iteN (by rw [decide_eq_true (vls_ok ok (Nat.le_refl _) hm).1]; rfl) ⟨_, rfl, _, rfl, d, _, rfl, DGet.k (k := Sum.inl n) (s3 _ _ hd), ?_⟩⟩
      refine ⟨_, rfl, iteN (by unfold plA; rw [plk_is, decide_eq_true hm]; rfl) ⟨s3, _, _, rfl⟩⟩
    · rintro σ H2 ⟨s2, u, v, rfl⟩
      exact q _ s2
/-! ### needed_by, last_needs -/
def spNb : Sp := fun vs H Q _ => ∃ (v : V) (r : Rw), vs = [v] ∧ RwAt H v r ∧ ∀ H' u, Same H H' → OpT H' u r.need → Q u H'
theorem ok_needed_by (T : Tx K mg C) (F : FD K "needed_by" "needed_by" s_needed_by [] f fd) : FnG P w K mg base CX0 1 f fd ["row"] spNb := by
  refine ok0 F sc_needed_by (fun vs H Q E h => ?_) (fun cdv A outer s H vs Q E hr h => ?_)
  · obtain ⟨v, r, rfl, _⟩ := h
    rfl
  · obtain ⟨v, r, rfl, hv, q⟩ := h
    refine ⟨_, (pss_cons (ps_if (pt_cmpR op_eq (pe_ix ix_tup (pv 0) pe_int (fun _ _ => rfl)) (pe_gS T.g_SET) (nomark _)) (pss_one (ps_ret (pe_ix ix_tup (pv 0) pe_int (fun _ _ => rfl)))) pss_nil)
      (pss_one (ps_ret (pe_ifExp (pt_cmpR op_eq (pe_ix ix_tup (pv 0) pe_int (fun _ _ => rfl)) (pe_gS T.g_USE) (nomark _)) (pe_ix ix_tup (pv 0) pe_int (fun _ _ => rfl)) (pe_tup pa_nil))))), ?_⟩
    cases r with
    | leaf n =>
      obtain ⟨t, rfl, ht⟩ := hv
      refine ⟨_, rfl, t, _, _, _, rfl, rfl, SqT.of ht, atI_nat (j := 0) rfl, rfl, _, rfl, iteN sl1 ?_⟩
      refine ⟨_, rfl, t, _, _, _, rfl, rfl, SqT.of ht, atI_nat (j := 0) rfl, rfl, _, rfl, iteN sl2 ?_⟩
      exact ⟨(by show 0 ≤ sizeLine; decide), fun p hp => q _ _ (same_upd hp) ⟨p, rfl, upd_same⟩⟩
    | set n os =>
      obtain ⟨t, u, rfl, ht, hu⟩ := hv
      refine ⟨_, rfl, t, _, _, _, rfl, rfl, SqT.of ht, atI_nat (j := 0) rfl, rfl, _, rfl, iteY ss1 ?_⟩
      exact ⟨_, rfl, t, _, _, _, rfl, rfl, SqT.of ht, atI_nat (j := 2) rfl, q _ _ Same.rfl' hu⟩
    | use os =>
      obtain ⟨t, u, rfl, ht, hu⟩ := hv
      refine ⟨_, rfl, t, _, _, _, rfl, rfl, SqT.of ht, atI_nat (j := 0) rfl, rfl, _, rfl, iteN su1 ?_⟩
      refine ⟨_, rfl, t, _, _, _, rfl, rfl, SqT.of ht, atI_nat (j := 0) rfl, rfl, _, rfl, iteY su2 ?_⟩
      exact ⟨_, rfl, t, _, _, _, rfl, rfl, SqT.of ht, atI_nat (j := 1) rfl, q _ _ Same.rfl' hu⟩
    | stop l os =>
      obtain ⟨t, u, rfl, ht, hu⟩ := hv
      refine ⟨_, rfl, t, _, _, _, rfl, rfl, SqT.of ht, atI_nat (j := 0) rfl, rfl, _, rfl, iteN st1 ?_⟩
      refine ⟨_, rfl, t, _, _, _, rfl, rfl, SqT.of ht, atI_nat (j := 0) rfl, rfl, _, rfl, iteN st2 ?_⟩
      exact ⟨(by show 0 ≤ sizeLine; decide), fun p hp => q _ _ (same_upd hp) ⟨p, rfl, upd_same⟩⟩
def spLn (K : PySem.W.Frag) : Sp := fun vs H Q _ => ∃ (a b : Addr) (rs : Rs) (out : List Int), vs = [.ref a, .ref b] ∧ RsAt H a rs ∧ RsOk rs ∧ OutAt K H b out ∧ out.length ≤ 1000 ∧ ∀ H' d, Same H H' → H d = none → H' d = some (.dK (nkA rs out)) → Q (.ref d) H'
theorem ok_last_needs (T : Tx K mg C) (G_needed_by : Fnc P w K mg base CX0 1 "needed_by" [] spNb) (F : FD K "last_needs" "last_needs" s_last_needs [] f fd) : FnG P w K mg base CX0 2 f fd ["rows", "out"] (spLn K) := by
  refine ok0 F sc_last_needs (fun vs H Q E h => ?_) (fun cdv A outer s H vs Q E hr h => ?_)
  · obtain ⟨a, b, rs, out, rfl, _⟩ := h
    rfl
  · obtain ⟨a, b, rs, out, rfl, ⟨ls, hl, rws⟩, ok, hb, lo, q⟩ := h
    refine ⟨_, (pss_cons (ps_set (i := 2) sc_last_needs.nd rfl (by first | exact Or.inl rfl | exact Or.inr rfl) pe_dnewK)
      (pss_cons (ps_for PassesOwn.never rfl (pi_enumA (by rfl) T.n_enumerate (pa_cons (pv 0) pa_nil)) (pg_tup rfl (pgs_cons (pg_name (i := 3) sc_last_needs.nd rfl (by first | exact Or.inl rfl | exact Or.inr rfl)) (pgs_cons (pg_name (i := 4) sc_last_needs.nd rfl (by first | exact Or.inl rfl | exact Or.inr rfl)) pgs_nil))) (pss_one (ps_for PassesOwn.never rfl (pi_tup (pe_fn G_needed_by (hr.mono (by decide)) pass0 (pa_cons (pv 4) pa_nil))) (pg_name (i := 5) sc_last_needs.nd rfl (by first | exact Or.inl rfl | exact Or.inr rfl)) (pss_one (ps_dput (un1 hr.r.units) (pv 2) (pv 5) (pv 3) rfl)))))
      (pss_cons (ps_for PassesOwn.never rfl (pi_seqA (pv 1)) (pg_name (i := 5) sc_last_needs.nd rfl (by first | exact Or.inl rfl | exact Or.inr rfl)) (pss_one (ps_dput (un1 hr.r.units) (pv 2) (pv 5) (pe_callB call_len_seq (by rfl) T.n_len (by decide +kernel) (pa_cons (pv 0) pa_nil)) rfl)))
      (pss_one (ps_ret (pv 2)))))), ?_⟩
    refine fun d nd0 => ?_
    obtain ⟨G2, e, s12, hd⟩ := mkO nd0 (.dK [])
    rw [e]
    clear e
    have ll := ok.len
    obtain ⟨k, hk⟩ := hl.k (K := K)
    refine ⟨_, rfl, k, a, ls, rfl, sqK_same hk s12, ?_⟩
    refine for_it (walk_enumK (K := K) (k := k) (a := a) (xs := ls)) (fun i σ H' => Same H H' ∧ H' d = some (.dK (nk rs i)) ∧ ∃ u v x, σ = [some (.ref a), some (.ref b), some (.ref d), u, v, x]) ⟨s12, hd, none, none, none, rfl⟩ (fun i σ H' _ h => sqK_same hk h.1) ?_ ?_
    · rintro i x σ H2 H3 hi ⟨s2, hd2, u, v, x', rfl⟩ ⟨t, y, z, rfl, nt, rfl, hy, hz⟩
      cases hy
      have il : i < rs.length := by rw [← rws.len]; exact hi
      have s3 := s2.trans (same_upd (o := .tup [.int (i : Nat), z]) nt)
      have hd3 := same_upd (o := .tup [.int (i : Nat), z]) nt _ _ hd2
      refine ⟨t, _, rfl, SqT.of upd_same, rfl, _, _, rfl, _, _, rfl, rfl, ?_⟩
      refine ⟨_, rfl, z, rw rs i, rfl, (rws.at_ i z hz).same s3, fun H4 u4 s4 hu => ?_⟩
      obtain ⟨o, rfl, ho⟩ := hu
      have nl : ((rw rs i).need.map V.int).length ≤ 3 := by
        rw [List.length_map]
        exact Nat.le_trans (need_le _) (ok.z i il).opl
      have kl := nk_len ok i (by omega)
      refine ⟨o, rfl, ⟨_, SqT.of ho⟩, ?_⟩
      refine for_it (walk_tup (K := K) (a := o) (xs := (rw rs i).need.map V.int)) (fun j σ H' => Same H H' ∧ H' o = some (.tup ((rw rs i).need.map V.int)) ∧ H' d = some (.dK (putAll (nk rs i) i ((rw rs i).need.take j))) ∧ ∃ x, σ = [some (.ref a), some (.ref b), some (.ref d), some (.int (i : Nat)), some z, x]) ⟨s3.trans s4, ho, s4 _ _ hd3, _, rfl⟩ (fun j σ H' _ h => SqT.of h.2.1) ?_ ?_
      · rintro j x σ H5 H6 hj ⟨s5, ho5, hd5, x5, rfl⟩ ⟨rfl, hx⟩
        rw [List.getElem?_map] at hx
        obtain ⟨n, hn, rfl⟩ := Option.map_eq_some_iff.mp hx
        have pl := putAll_len i ((rw rs i).need.take j) (nk rs i)
        rw [List.length_take] at pl
        rw [List.length_map] at nl
        refine ⟨_, rfl, _, rfl, _, rfl, d, _, rfl, DPut.k (k := Sum.inl n) hd5 (Nat.lt_of_lt_of_le (show _ < 100000 by omega) (small (Nat.le_refl _))), own_same s5 nd0, ?_, ?_, _, rfl⟩
        · rw [upd_ne fun z => by rw [z, hd5] at ho5; cases ho5]
          exact ho5
        · rw [upd_same, List.take_add_one, hn, Option.toList_some, ST.putAll_snoc]
      · rintro σ H5 ⟨s5, ho5, hd5, x5, rfl⟩
        rw [List.length_map, List.take_length] at hd5
        exact ⟨s5, hd5, _, _, _, rfl⟩
    · rintro σ H2 ⟨s2, hd2, u, v, x, rfl⟩
      rw [rws.len] at hd2
      refine seq_out hb s2 (fun Q h => ⟨_, rfl, h⟩) fun J wk => ?_
      have kl := nk_len ok rs.length (Nat.le_refl _)
      refine for_it wk (fun j σ H' => Same H H' ∧ H' d = some (.dK (putAll (nk rs rs.length) rs.length (out.take j))) ∧ ∃ u v x, σ = [some (.ref a), some (.ref b), some (.ref d), u, v, x]) ⟨s2, hd2, u, v, x, rfl⟩ (fun j σ H' _ h => h.1) ?_ ?_
      · rintro j x σ H5 H6 hj ⟨s5, hd5, u5, v5, x5, rfl⟩ ⟨rfl, hx⟩
        rw [List.getElem?_map] at hx
        obtain ⟨n, hn, rfl⟩ := Option.map_eq_some_iff.mp hx
        have pl := putAll_len rs.length (out.take j) (nk rs rs.length)
        rw [List.length_take] at pl
        refine ⟨_, rfl, a, ls, rfl, (sq_of (sqK_same hk s5)), _, rfl, _, rfl, d, _, rfl, DPut.k (k := Sum.inl n) hd5 (Nat.lt_of_lt_of_le (show _ < 100000 by omega) (small (Nat.le_refl _))), own_same s5 nd0, ?_, _, _, _, rfl⟩
        rw [upd_same, List.take_add_one, hn, Option.toList_some, ST.putAll_snoc, rws.len]
      · rintro σ H5 ⟨s5, hd5, u5, v5, x5, rfl⟩
        rw [List.length_map, List.take_length] at hd5
        exact ⟨_, rfl, q _ d s5 nd0 hd5⟩
end
end K63

set_option Elab.async false
set_option linter.all false
set_option maxRecDepth 100000
set_option maxHeartbeats 2000000
/-! O61b: the class Stretch. -/
namespace K63
open PySem PySem.Spec PyProof.Rows L2 LL ST
abbrev s_Stretchinit : Stmt := inClass (top 31) 0
abbrev n_Stretchinit : List Str := ["self", "rows", "out", "position", "row"]
theorem sc_Stretchinit : FnScope n_Stretchinit ["self", "rows", "out"] (defScope s_Stretchinit) := ⟨rfl, rfl, rfl, by decide +kernel, rfl, by decide +kernel, by decide +kernel⟩
abbrev s_Stretch_stops : Stmt := inClass (top 31) 4
abbrev n_Stretch_stops : List Str := ["self", "place"]
theorem sc_Stretch_stops : FnScope n_Stretch_stops ["self"] (defScope s_Stretch_stops) := ⟨rfl, rfl, rfl, by decide +kernel, rfl, by decide +kernel, by decide +kernel⟩
abbrev s_Stretch_is_value : Stmt := inClass (top 31) 5
abbrev n_Stretch_is_value : List Str := ["self", "thing"]
theorem sc_Stretch_is_value : FnScope n_Stretch_is_value ["self", "thing"] (defScope s_Stretch_is_value) := ⟨rfl, rfl, rfl, by decide +kernel, rfl, by decide +kernel, by decide +kernel⟩
abbrev s_Stretch_is_stop : Stmt := inClass (top 31) 6
abbrev n_Stretch_is_stop : List Str := ["self", "thing"]
theorem sc_Stretch_is_stop : FnScope n_Stretch_is_stop ["self", "thing"] (defScope s_Stretch_is_stop) := ⟨rfl, rfl, rfl, by decide +kernel, rfl, by decide +kernel, by decide +kernel⟩
abbrev s_Stretch_check_value : Stmt := inClass (top 31) 7
abbrev n_Stretch_check_value : List Str := ["self", "thing"]
theorem sc_Stretch_check_value : FnScope n_Stretch_check_value ["self", "thing"] (defScope s_Stretch_check_value) := ⟨rfl, rfl, rfl, by decide +kernel, rfl, by decide +kernel, by decide +kernel⟩
abbrev s_Stretch_check_stop : Stmt := inClass (top 31) 8
abbrev n_Stretch_check_stop : List Str := ["self", "thing"]
theorem sc_Stretch_check_stop : FnScope n_Stretch_check_stop ["self", "thing"] (defScope s_Stretch_check_stop) := ⟨rfl, rfl, rfl, by decide +kernel, rfl, by decide +kernel, by decide +kernel⟩
abbrev s_Stretch_operands : Stmt := inClass (top 31) 9
abbrev n_Stretch_operands : List Str := ["self", "value", "row"]
theorem sc_Stretch_operands : FnScope n_Stretch_operands ["self", "value"] (defScope s_Stretch_operands) := ⟨rfl, rfl, rfl, by decide +kernel, rfl, by decide +kernel, by decide +kernel⟩
abbrev s_Stretch_asked : Stmt := inClass (top 31) 10
abbrev n_Stretch_asked : List Str := ["self", "stop"]
theorem sc_Stretch_asked : FnScope n_Stretch_asked ["self", "stop"] (defScope s_Stretch_asked) := ⟨rfl, rfl, rfl, by decide +kernel, rfl, by decide +kernel, by decide +kernel⟩
abbrev s_Stretch_is_present : Stmt := inClass (top 31) 11
abbrev n_Stretch_is_present : List Str := ["self", "value", "stop"]
theorem sc_Stretch_is_present : FnScope n_Stretch_is_present ["self", "value", "stop"] (defScope s_Stretch_is_present) := ⟨rfl, rfl, rfl, by decide +kernel, rfl, by decide +kernel, by decide +kernel⟩
abbrev s_Stretch_is_live : Stmt := inClass (top 31) 12
abbrev n_Stretch_is_live : List Str := ["self", "value", "stop"]
theorem sc_Stretch_is_live : FnScope n_Stretch_is_live ["self", "value", "stop"] (defScope s_Stretch_is_live) := ⟨rfl, rfl, rfl, by decide +kernel, rfl, by decide +kernel, by decide +kernel⟩
abbrev s_Stretch_present : Stmt := inClass (top 31) 13
abbrev n_Stretch_present : List Str := ["self", "stop", "value"]
theorem sc_Stretch_present : FnScope n_Stretch_present ["self", "stop"] (defScope s_Stretch_present) := ⟨rfl, rfl, rfl, by decide +kernel, rfl, by decide +kernel, by decide +kernel⟩
/-! ### all but instances stays -/
def KI (H G : Hp) : Prop := ∀ b o, H b = some o → (∀ C dx fs, o ≠ .ins C dx fs) → G b = some o
theorem KI.of {H G : Hp} (s : Same H G) : KI H G := fun b o e _ => s b o e
theorem KI.trans {H G J : Hp} (a : KI H G) (b : KI G J) : KI H J := fun x o e n => b x o (a x o e n) n
theorem ki_but {p C dx : Addr} {fs : List (Str × V)} {H G : Hp} (b : But p H G) (hp : H p = some (.ins C dx fs)) : KI H G := fun x o e n => b x o e fun z => by
  rw [z, hp] at e
  exact n _ _ _ (Option.some.inj e).symm
theorem OpT.ki {H H' : Hp} {u : V} {os : List Int} (h : OpT H u os) (s : KI H H') : OpT H' u os := let ⟨o, e, x⟩ := h; ⟨o, e, s _ _ x (fun _ _ _ z => nomatch z)⟩
theorem RwAt.ki {H H' : Hp} {v : V} {r : Rw} (h : RwAt H v r) (s : KI H H') : RwAt H' v r := by
  cases r with
  | leaf n => exact let ⟨t, e, x⟩ := h; ⟨t, e, s _ _ x (fun _ _ _ z => nomatch z)⟩
  | set n os => exact let ⟨t, u, e, x, o⟩ := h; ⟨t, u, e, s _ _ x (fun _ _ _ z => nomatch z), o.ki s⟩
  | use os => exact let ⟨t, u, e, x, o⟩ := h; ⟨t, u, e, s _ _ x (fun _ _ _ z => nomatch z), o.ki s⟩
  | stop l os => exact let ⟨t, u, e, x, o⟩ := h; ⟨t, u, e, s _ _ x (fun _ _ _ z => nomatch z), o.ki s⟩
theorem Rws.ki {H H' : Hp} {vs : List V} {rs : Rs} (h : Rws H vs rs) (s : KI H H') : Rws H' vs rs := ⟨h.len, fun i v e => (h.at_ i v e).ki s⟩
theorem lt_ki {H H' : Hp} {a : Addr} {vs : List V} (h : Lt H a vs) (s : KI H H') : Lt H' a vs := h.imp (fun h => s _ _ h (fun _ _ _ z => nomatch z)) fun h => s _ _ h (fun _ _ _ z => nomatch z)
theorem RsAt.ki {H H' : Hp} {a : Addr} {rs : Rs} (h : RsAt H a rs) (s : KI H H') : RsAt H' a rs := let ⟨vs, l, g⟩ := h; ⟨vs, lt_ki l s, g.ki s⟩
theorem OutAt.ki {K : PySem.W.Frag} {H H' : Hp} {b : Addr} {out : List Int} (h : OutAt K H b out) (s : KI H H') : OutAt K H' b out := h.imp (lt_ki · s) id
/-- beside p all stays, and what is free now was free -/
structure Bp (p : Addr) (H G : Hp) : Prop where
  but : But p H G
  fr : ∀ x, G x = none → H x = none
theorem bp_refl {p : Addr} {H : Hp} : Bp p H H := ⟨.refl, fun _ h => h⟩
theorem Bp.st {p : Addr} {H G : Hp} {o : HO} (b : Bp p H G) : Bp p H (upd G p o) := by
  refine ⟨fun c x e n => by rw [upd_ne n]; exact b.but c x e n, fun x hx => ?_⟩
  by_cases c : x = p
  · rw [c, upd_same] at hx
    cases hx
  · rw [upd_ne c] at hx
    exact b.fr x hx
theorem Bp.sm {p : Addr} {H G J : Hp} (b : Bp p H G) (s : Same G J) : Bp p H J := ⟨fun c x e n => s _ _ (b.but c x e n), fun x hx => b.fr x (s.free hx)⟩
/-! ### the object -/
structure StF (fs : List (Str × V)) (vp ow oo sp np : Addr) : Prop where
  v : fs.lookup ("value_places" : Str) = some (.ref vp)
  r : fs.lookup ("own_rows" : Str) = some (.ref ow)
  o : fs.lookup ("own_out" : Str) = some (.ref oo)
  s : fs.lookup ("stop_places" : Str) = some (.ref sp)
  n : fs.lookup ("need_places" : Str) = some (.ref np)
  no : ∀ m : Str, m ≠ "value_places" → m ≠ "own_rows" → m ≠ "own_out" → m ≠ "stop_places" → m ≠ "need_places" → fs.lookup m = none
  ne : vp ≠ np
abbrev sfs (vp ow oo sp np : Addr) : List (Str × V) := putF "need_places" (.ref np) (putF "stop_places" (.ref sp) (putF "own_out" (.ref oo) (putF "own_rows" (.ref ow) (putF "value_places" (.ref vp) []))))
theorem stf_new (vp ow oo sp np : Addr) (h : vp ≠ np) : StF (sfs vp ow oo sp np) vp ow oo sp np := by
  refine ⟨?_, ?_, ?_, ?_, ?_, fun m h1 h2 h3 h4 h5 => ?_, h⟩
  · repeat (first | rw [lookup_putF, if_neg (by decide +kernel)] | rw [lookup_putF, if_pos rfl])
  · repeat (first | rw [lookup_putF, if_neg (by decide +kernel)] | rw [lookup_putF, if_pos rfl])
  · repeat (first | rw [lookup_putF, if_neg (by decide +kernel)] | rw [lookup_putF, if_pos rfl])
  · repeat (first | rw [lookup_putF, if_neg (by decide +kernel)] | rw [lookup_putF, if_pos rfl])
  · rw [lookup_putF, if_pos rfl]
  · rw [lookup_putF, if_neg h5, lookup_putF, if_neg h4, lookup_putF, if_neg h3, lookup_putF, if_neg h2, lookup_putF, if_neg h1]
    rfl
abbrev nV (l : List Nat) : List V := l.map fun s => V.int (s : Nat)
/-- a stretch that may be walked -/
structure StW (C : Addr) (H : Hp) (p dx : Addr) (fs : List (Str × V)) (vp ow oo sp np : Addr) (ls : List V) (rs : Rs) (out : List Int) : Prop where
  h : H p = some (.ins C dx fs)
  f : StF fs vp ow oo sp np
  hv : Rd H vp (.dK (plA rs))
  hr : H ow = some (.lst ls)
  rw : Rws H ls rs
  ho : H oo = some (.lst (out.map V.int))
  hs : H sp = some (.lst (nV (stA rs)))
  hn : Rd H np (.dK (nkA rs out))
theorem StW.same {C : Addr} {H H' : Hp} {p dx vp ow oo sp np : Addr} {fs : List (Str × V)} {ls : List V} {rs : Rs} {out : List Int} (z : StW C H p dx fs vp ow oo sp np ls rs out) (s : Same H H') : StW C H' p dx fs vp ow oo sp np ls rs out :=
  ⟨s _ _ z.h, z.f, rd_same z.hv s, s _ _ z.hr, z.rw.same s, s _ _ z.ho, s _ _ z.hs, rd_same z.hn s⟩
def StV (C : Addr) (H : Hp) (p : Addr) (rs : Rs) (out : List Int) : Prop := ∃ dx fs vp ow oo sp np ls, StW C H p dx fs vp ow oo sp np ls rs out
theorem StV.same {C : Addr} {H H' : Hp} {p : Addr} {rs : Rs} {out : List Int} (z : StV C H p rs out) (s : Same H H') : StV C H' p rs out := let ⟨dx, fs, vp, ow, oo, sp, np, ls, z⟩ := z; ⟨dx, fs, vp, ow, oo, sp, np, ls, z.same s⟩
def StAt (C : Addr) (H : Hp) (p : Addr) (rs : Rs) (out : List Int) : Prop := ∃ dx fs vp ow oo sp np ls, StW C H p dx fs vp ow oo sp np ls rs out ∧ H vp = some (.dK (plA rs))
theorem StAt.same {C : Addr} {H H' : Hp} {p : Addr} {rs : Rs} {out : List Int} (z : StAt C H p rs out) (s : Same H H') : StAt C H' p rs out := let ⟨dx, fs, vp, ow, oo, sp, np, ls, z, h⟩ := z; ⟨dx, fs, vp, ow, oo, sp, np, ls, z.same s, s _ _ h⟩
theorem StAt.v {C : Addr} {H : Hp} {p : Addr} {rs : Rs} {out : List Int} (z : StAt C H p rs out) : StV C H p rs out := let ⟨dx, fs, vp, ow, oo, sp, np, ls, z, h⟩ := z; ⟨dx, fs, vp, ow, oo, sp, np, ls, z⟩
/-- .. of parts that are new in H0 -/
def StNw (C : Addr) (H0 H : Hp) (p : Addr) (rs : Rs) (out : List Int) : Prop := ∃ dx fs vp ow oo sp np ls, StW C H p dx fs vp ow oo sp np ls rs out ∧ H vp = some (.dK (plA rs)) ∧ H0 vp = none ∧ H0 ow = none ∧ H0 oo = none ∧ H0 sp = none ∧ H0 np = none
theorem StNw.at {C : Addr} {H0 H : Hp} {p : Addr} {rs : Rs} {out : List Int} (z : StNw C H0 H p rs out) : StAt C H p rs out := let ⟨dx, fs, vp, ow, oo, sp, np, ls, z, h, _⟩ := z; ⟨dx, fs, vp, ow, oo, sp, np, ls, z, h⟩
theorem StNw.same {C : Addr} {H0 H H' : Hp} {p : Addr} {rs : Rs} {out : List Int} (z : StNw C H0 H p rs out) (s : Same H H') : StNw C H0 H' p rs out := let ⟨dx, fs, vp, ow, oo, sp, np, ls, z, h, n⟩ := z; ⟨dx, fs, vp, ow, oo, sp, np, ls, z.same s, s _ _ h, n⟩
theorem StNw.lo {C : Addr} {H0 H1 H : Hp} {p : Addr} {rs : Rs} {out : List Int} (z : StNw C H1 H p rs out) (s : Same H0 H1) : StNw C H0 H p rs out := let ⟨dx, fs, vp, ow, oo, sp, np, ls, z, h, n1, n2, n3, n4, n5⟩ := z; ⟨dx, fs, vp, ow, oo, sp, np, ls, z, h, s.free n1, s.free n2, s.free n3, s.free n4, s.free n5⟩
theorem StNw.but {C : Addr} {H0 H H' : Hp} {p g : Addr} {rs : Rs} {out : List Int} {o0 : HO} {xs : List V} (z : StNw C H0 H p rs out) (h0 : H0 g = some o0) (hg : H g = some (.lst xs)) (b : But g H H') : StNw C H0 H' p rs out := by
  obtain ⟨dx, fs, vp, ow, oo, sp, np, ls, z, h, n1, n2, n3, n4, n5⟩ := z
  have nv : vp ≠ g := fun e => by rw [e, h0] at n1; cases n1
  have nw : ow ≠ g := fun e => by rw [e, h0] at n2; cases n2
  have no : oo ≠ g := fun e => by rw [e, h0] at n3; cases n3
  have ns : sp ≠ g := fun e => by rw [e, h0] at n4; cases n4
  have nn : np ≠ g := fun e => by rw [e, h0] at n5; cases n5
  have npp : p ≠ g := fun e => by
    have := z.h
    rw [e, hg] at this
    cases this
  have kt : ∀ t ys, H t = some (.tup ys) → H' t = some (.tup ys) := fun t ys e => b _ _ e fun c => by rw [c, hg] at e; cases e
  refine ⟨dx, fs, vp, ow, oo, sp, np, ls, ⟨b _ _ z.h npp, z.f, .inl (b _ _ h nv), b _ _ z.hr nw, ⟨z.rw.len, fun i v e => ?_⟩, b _ _ z.ho no, b _ _ z.hs ns, ?_⟩, b _ _ h nv, n1, n2, n3, n4, n5⟩
  · have ra := z.rw.at_ i v e
    cases er : ST.rw rs i with
    | leaf n =>
      rw [er] at ra
      obtain ⟨t, e, x⟩ := ra
      exact ⟨t, e, kt _ _ x⟩
    | set n os =>
      rw [er] at ra
      obtain ⟨t, u, e, x, y, ey, hy⟩ := ra
      exact ⟨t, u, e, kt _ _ x, y, ey, kt _ _ hy⟩
    | use os =>
      rw [er] at ra
      obtain ⟨t, u, e, x, y, ey, hy⟩ := ra
      exact ⟨t, u, e, kt _ _ x, y, ey, kt _ _ hy⟩
    | stop l os =>
      rw [er] at ra
      obtain ⟨t, u, e, x, y, ey, hy⟩ := ra
      exact ⟨t, u, e, kt _ _ x, y, ey, kt _ _ hy⟩
  · rcases z.hn with h | ⟨x, h⟩
    · exact .inl (b _ _ h nn)
    · exact .inr ⟨x, b _ _ h nn⟩
theorem StNw.upd {C : Addr} {H0 H : Hp} {p g : Addr} {rs : Rs} {out : List Int} {o o0 : HO} {xs : List V} (z : StNw C H0 H p rs out) (h0 : H0 g = some o0) (hg : H g = some (.lst xs)) : StNw C H0 (L2.upd H g o) p rs out := z.but h0 hg but_upd
theorem lt1000 {fs : List (Str × V)} {f : Str} {v : V} {k : Nat} (h : fs.length ≤ k) : (putF f v fs).length ≤ k + 1 := Nat.le_trans (length_putF f v fs) (Nat.add_le_add_right h 1)
section
variable {P : Program} {w : World} {K : PySem.W.Frag} {mg : Str → Option Value} {base : Heap} {C : Addr} {f : Addr} {fd : FuncData}
/-! ### __init__ -/
def spSI (K : PySem.W.Frag) (C : Addr) : Sp := fun vs H Q _ => ∃ (p dx a b : Addr) (rs : Rs) (out : List Int), vs = [.ref p, .ref a, .ref b] ∧ H p = some (.ins C dx []) ∧ RsAt H a rs ∧ RsOk rs ∧ OutAt K H b out ∧ (∀ n ∈ out, n ∈ vlA rs) ∧ out.length ≤ 100 ∧
  ∀ H', StNw C H H' p rs out → But p H H' → Q .non H'
theorem ok_sinit (T : Tx K mg C) (G_places_in : Fnc P w K mg base CX0 4 "places_in" [] spPl) (G_check_out : Fnc P w K mg base CX0 2 "check_out" [] (spCO K)) (G_last_needs : Fnc P w K mg base CX0 2 "last_needs" [] (spLn K)) {T0 : Addr}
    (F : FD K "__init__" "Stretch.__init__" s_Stretchinit [.ref T0] f fd) : FnG P w K mg base CX0 5 f fd ["self", "rows", "out"] (spSI K C) := by
  refine ok0 F sc_Stretchinit (fun vs H Q E h => ?_) (fun cdv A outer s H vs Q E hr h => ?_)
  · obtain ⟨p, dx, a, b, rs, out, rfl, _⟩ := h
    rfl
  · obtain ⟨p, dx, a, b, rs, out, rfl, hp, ha, ok, hb, ho, lo, q⟩ := h
    refine ⟨_, (pss_cons (ps_fld (pv 0) (pe_fn G_places_in (hr.mono (by decide)) pass0 (pa_cons (pv 1) pa_nil)) rfl)
      (pss_cons (ps_expr (pe_fn G_check_out (hr.mono (by decide)) pass0 (pa_cons (pv 2) (pa_cons (pe_fld (pv 0) rfl) pa_nil))))
      (pss_cons (ps_fld (pv 0) (pe_callTy call_list_of (by rfl) T.n_list (by decide +kernel) (pa_cons (pv 1) pa_nil)) rfl)
      (pss_cons (ps_fld (pv 0) (pe_callTy call_list_of (by rfl) T.n_list (by decide +kernel) (pa_cons (pv 2) pa_nil)) rfl)
      (pss_cons (ps_fld (pv 0) (pe_lc (g := (gTup K 2 (gCons (gName 3) (gCons (gName 4) gNil)))) (own := [("position", 3), ("row", 4)]) rfl sc_Stretchinit.nd (pi_enumA (by rfl) T.n_enumerate (pa_cons (pv 1) pa_nil)) (blkOk_by (own := [("position", 3), ("row", 4)]) (N := n_Stretchinit) (sc := defScope s_Stretchinit) (by decide +kernel)) (fun _ _ _ _ _ => (pg_tup rfl (pgs_cons (pg_name (i := 3) sc_Stretchinit.nd rfl (by first | exact Or.inl rfl | exact Or.inr rfl)) (pgs_cons (pg_name (i := 4) sc_Stretchinit.nd rfl (by first | exact Or.inl rfl | exact Or.inr rfl)) pgs_nil)))) (fun _ _ _ _ _ => (pts_one (pt_cmpR op_eq (pe_ix (ix_tupK (K := K) (by rfl)) (pv 4) pe_int (fun _ _ => rfl)) (pe_gS T.g_STOP) (nomark _)))) (fun _ _ _ _ _ => (pv 3))) rfl)
      (pss_one (ps_fld (pv 0) (pe_fn G_last_needs (hr.mono (by decide)) pass0 (pa_cons (pv 1) (pa_cons (pv 2) pa_nil))) rfl))))))), ?_⟩
    have lr := ok.len
    obtain ⟨ls, hl, rws⟩ := id ha
    refine ⟨_, rfl, a, rs, rfl, ha, ok, fun G1 vp s1 nvp hv1 => ?_⟩
    have hp1 := s1 _ _ hp
    have B1 : Bp p H G1 := bp_refl.sm s1
    refine ⟨_, rfl, p, C, dx, [], rfl, hp1, T.cl, T.a1, (by show 0 < 1000; decide), ?_⟩
    have k1 := lt1000 (f := "value_places") (v := .ref vp) (fs := []) (k := 0) (Nat.le_refl _)
    have nvp' : vp ≠ p := fun z => by rw [z, hp] at nvp; cases nvp
    have B2 := B1.st (o := .ins C dx (putF "value_places" (.ref vp) []))
    obtain ⟨G2, e2⟩ : ∃ G2, G2 = upd G1 p (.ins C dx (putF "value_places" (.ref vp) [])) := ⟨_, rfl⟩
    have hp2 : G2 p = some (.ins C dx (putF "value_places" (.ref vp) [])) := by rw [e2, upd_same]
    have hv2 : G2 vp = some (.dK (plA rs)) := by rw [e2, upd_ne nvp']; exact hv1
    rw [← e2] at B2 ⊢
    clear e2
    have ki2 := ki_but B2.but hp
    refine ⟨_, rfl, _, rfl, p, C, dx, _, _, rfl, hp2, T.cl, T.a1, (by rw [lookup_putF, if_pos rfl]), b, vp, out, rs, rfl, hb.ki ki2, hv2, ok, ho, by omega, fun G3 s3 => ?_⟩
    have B3 := B2.sm s3
    have hp3 := s3 _ _ hp2
    have ki3 := ki_but B3.but hp
    have hl3 := lt_ki hl ki3
    refine ⟨_, rfl, a, ls, rfl, hl3.sq, fun ow now => ?_⟩
    obtain ⟨G4, e4, s4, how⟩ := mkO now (.lst ls)
    rw [e4]
    clear e4
    have B4 := B3.sm s4
    have hp4 := s4 _ _ hp3
    refine ⟨_, rfl, p, C, dx, _, rfl, hp4, T.cl, T.a2, by omega, ?_⟩
    have k2 := lt1000 (f := "own_rows") (v := .ref ow) k1
    have nowp : ow ≠ p := fun z => by rw [z, hp4] at how; cases how
    have B5 := B4.st (o := .ins C dx (putF "own_rows" (.ref ow) (putF "value_places" (.ref vp) [])))
    obtain ⟨G5, e5⟩ : ∃ G5, G5 = upd G4 p (.ins C dx (putF "own_rows" (.ref ow) (putF "value_places" (.ref vp) []))) := ⟨_, rfl⟩
    have hp5 : G5 p = some (.ins C dx (putF "own_rows" (.ref ow) (putF "value_places" (.ref vp) []))) := by rw [e5, upd_same]
    have hv5 : G5 vp = some (.dK (plA rs)) := by rw [e5, upd_ne nvp']; exact s4 _ _ (s3 _ _ hv2)
    have how5 : G5 ow = some (.lst ls) := by rw [e5, upd_ne nowp]; exact how
    rw [← e5] at B5 ⊢
    clear e5
    have ki5 := ki_but B5.but hp
    obtain ⟨kb, hkb⟩ := (hb.ki ki5).k
    refine ⟨_, rfl, b, _, rfl, sq_of (hkb _ Same.rfl'), fun oo noo => ?_⟩
    obtain ⟨G6, e6, s6, hoo⟩ := mkO noo (.lst (out.map V.int))
    rw [e6]
    clear e6
    have B6 := B5.sm s6
    have hp6 := s6 _ _ hp5
    refine ⟨_, rfl, p, C, dx, _, rfl, hp6, T.cl, T.a3, by omega, ?_⟩
    have k3 := lt1000 (f := "own_out") (v := .ref oo) k2
    have noop : oo ≠ p := fun z => by rw [z, hp6] at hoo; cases hoo
    have B7 := B6.st (o := .ins C dx (putF "own_out" (.ref oo) (putF "own_rows" (.ref ow) (putF "value_places" (.ref vp) []))))
    obtain ⟨G7, e7⟩ : ∃ G7, G7 = upd G6 p (.ins C dx (putF "own_out" (.ref oo) (putF "own_rows" (.ref ow) (putF "value_places" (.ref vp) [])))) := ⟨_, rfl⟩
    have hp7 : G7 p = some (.ins C dx (putF "own_out" (.ref oo) (putF "own_rows" (.ref ow) (putF "value_places" (.ref vp) [])))) := by rw [e7, upd_same]
    have hv7 : G7 vp = some (.dK (plA rs)) := by rw [e7, upd_ne nvp']; exact s6 _ _ hv5
    have how7 : G7 ow = some (.lst ls) := by rw [e7, upd_ne nowp]; exact s6 _ _ how5
    have hoo7 : G7 oo = some (.lst (out.map V.int)) := by rw [e7, upd_ne noop]; exact hoo
    rw [← e7] at B7 ⊢
    clear e7
    have ki7 := ki_but B7.but hp
    have hl7 := lt_ki hl ki7
    have rw7 := rws.ki ki7
    obtain ⟨k, hk⟩ := hl7.k (K := K)
    refine ⟨_, rfl, k, a, ls, rfl, hk, fun D nD => ?_⟩
    refine lc_acc (walk_enumK (K := K) (k := k) (a := a) (xs := ls)) nD (fun j => nV (stp rs j)) rfl (fun j hj => ?_) (fun H' s' => sqK_same hk s') ?_ ?_
    · have := stp_len rs j
      rw [List.length_map]
      have := rw7.len
      omega
    · rintro i x H2 H3 hi s2 ⟨t, y, z, rfl, nt, rfl, hy, hz⟩ N S hN hS
      cases hy
      have ra := (rw7.at_ i z hz).same (s2.trans (same_upd (o := .tup [.int (i : Nat), z]) nt))
      obtain ⟨t', x', xs', rfl, ht, h⟩ := row_tup ra
      refine ⟨t, _, rfl, SqT.of upd_same, rfl, _, _, rfl, _, _, rfl, rfl, rfl, ?_⟩
      refine ⟨_, rfl, t', _, _, _, rfl, rfl, SqT.of ht, atI_nat (j := 0) rfl, rfl, ?_⟩
      rcases h with ⟨rfl, n, er, rfl⟩ | ⟨rfl, n, os, u, er, rfl, hu⟩ | ⟨rfl, os, u, er, rfl, hu⟩ | ⟨rfl, l, os, u, er, rfl, hu⟩
      · refine ⟨_, rfl, iteN sl3 (hS _ (same_upd nt) ?_)⟩
        rw [stp, er]
        simp [Rw.isStop]
      · refine ⟨_, rfl, iteN ss3 (hS _ (same_upd nt) ?_)⟩
        rw [stp, er]
        simp [Rw.isStop]
      · refine ⟨_, rfl, iteN su3 (hS _ (same_upd nt) ?_)⟩
        rw [stp, er]
        simp [Rw.isStop]
      · refine ⟨_, rfl, iteY st3 ⟨_, rfl, hN _ _ (same_upd nt) ?_⟩⟩
        rw [stp, er, show (Rw.stop l os).isStop = true from rfl, if_pos rfl]
        exact List.map_append ..
    intro G8 s8 hD
    rw [rw7.len] at hD
    have B8 := B7.sm s8
    have hp8 := s8 _ _ hp7
    refine ⟨_, rfl, p, C, dx, _, rfl, hp8, T.cl, T.a4, by omega, ?_⟩
    have k4 := lt1000 (f := "stop_places") (v := .ref D) k3
    have nDp : D ≠ p := fun z => by rw [z, hp8] at hD; cases hD
    have B9 := B8.st (o := .ins C dx (putF "stop_places" (.ref D) (putF "own_out" (.ref oo) (putF "own_rows" (.ref ow) (putF "value_places" (.ref vp) [])))))
    obtain ⟨G9, e9⟩ : ∃ G9, G9 = upd G8 p (.ins C dx (putF "stop_places" (.ref D) (putF "own_out" (.ref oo) (putF "own_rows" (.ref ow) (putF "value_places" (.ref vp) []))))) := ⟨_, rfl⟩
    have hp9 : G9 p = some (.ins C dx (putF "stop_places" (.ref D) (putF "own_out" (.ref oo) (putF "own_rows" (.ref ow) (putF "value_places" (.ref vp) []))))) := by rw [e9, upd_same]
    have hv9 : G9 vp = some (.dK (plA rs)) := by rw [e9, upd_ne nvp']; exact s8 _ _ hv7
    have how9 : G9 ow = some (.lst ls) := by rw [e9, upd_ne nowp]; exact s8 _ _ how7
    have hoo9 : G9 oo = some (.lst (out.map V.int)) := by rw [e9, upd_ne noop]; exact s8 _ _ hoo7
    have hD9 : G9 D = some (.lst (nV (stA rs))) := by rw [e9, upd_ne nDp]; exact hD
    rw [← e9] at B9 ⊢
    clear e9
    have ki9 := ki_but B9.but hp
    refine ⟨_, rfl, _, rfl, a, b, rs, out, rfl, ha.ki ki9, ok, hb.ki ki9, by omega, fun G10 np s10 nnp hn10 => ?_⟩
    have B10 := B9.sm s10
    have hp10 := s10 _ _ hp9
    refine ⟨_, rfl, p, C, dx, _, rfl, hp10, T.cl, T.a5, by omega, ?_⟩
    have nnpp : np ≠ p := fun z => by rw [z, hp10] at hn10; cases hn10
    have nvn : vp ≠ np := fun z => by rw [← z, hv9] at nnp; cases nnp
    refine q _ ⟨dx, _, vp, ow, oo, D, np, ls, ⟨upd_same, stf_new vp ow oo D np nvn, .inl (by rw [upd_ne nvp']; exact s10 _ _ hv9), by rw [upd_ne nowp]; exact s10 _ _ how9, ?_, by rw [upd_ne noop]; exact s10 _ _ hoo9, by rw [upd_ne nDp]; exact s10 _ _ hD9, .inl (by rw [upd_ne nnpp]; exact hn10)⟩, by rw [upd_ne nvp']; exact s10 _ _ hv9, nvp, B3.fr _ now, B5.fr _ noo, B7.fr _ nD, B9.fr _ nnp⟩ B10.st.but
    exact rws.ki (ki_but B10.st.but hp)
end
end K63

set_option Elab.async false
set_option linter.all false
set_option maxRecDepth 100000
set_option maxHeartbeats 2000000
/-! O61c: what a stretch is asked. -/
namespace K63
open PySem PySem.Spec PyProof.Rows L2 LL ST
section
variable {P : Program} {w : World} {K : PySem.W.Frag} {mg : Str → Option Value} {base : Heap} {C : Addr} {f : Addr} {fd : FuncData}
/-! ### the labels of the stops -/
def spSt (C : Addr) : Sp := fun vs H Q _ => ∃ p rs out, vs = [.ref p] ∧ StAt C H p rs out ∧ rs.length ≤ 100 ∧ ∀ H' r, Same H H' → H r = none → H' r = some (.lst ((lbls rs rs.length).map V.str)) → Q (.ref r) H'
theorem ok_stops (T : Tx K mg C) (F : FD K "stops" "Stretch.stops" s_Stretch_stops [] f fd) : FnG P w K mg base CX0 1 f fd ["self"] (spSt C) := by
  refine ok0 F sc_Stretch_stops (fun vs H Q E h => ?_) (fun cdv A outer s H vs Q E hr h => ?_)
  · obtain ⟨p, rs, out, rfl, _⟩ := h
    rfl
  · obtain ⟨p, rs, out, rfl, ⟨dx, fs, vp, ow, oo, sp, np, ls, z, hv⟩, lr, q⟩ := h
    refine ⟨_, (pss_one (ps_ret (pe_lc (own := [("place", 1)]) rfl sc_Stretch_stops.nd (pi_list (pe_fld (pv 0) rfl)) (blkOk_by (own := [("place", 1)]) (N := n_Stretch_stops) (sc := defScope s_Stretch_stops) (by decide +kernel)) (fun _ _ _ _ _ => (pg_name (i := 1) sc_Stretch_stops.nd rfl (by first | exact Or.inl rfl | exact Or.inr rfl))) (fun _ _ _ _ _ => pts_nil) (fun _ _ _ _ _ => (pe_ix (ix_tupK (K := K) (by rfl)) (pe_ix (ix_listK (K := K) (by rfl)) (pe_fldK (K := K) (by rfl) (pv 0) rfl) (pv 1) (fun _ _ => rfl)) pe_int (fun _ _ => rfl)))))), ?_⟩
    refine ⟨_, rfl, p, C, dx, _, _, rfl, z.h, T.cl, T.a4, z.f.s, sp, rfl, ⟨_, SqL.of z.hs⟩, fun D nD => ?_⟩
    have sl : (stA rs).length ≤ rs.length := stp_len rs rs.length
    refine lc_acc (walk_list (K := K) (a := sp) (xs := nV (stA rs))) nD (fun j => ((stA rs).take j).map fun s => V.str (rw rs s).lab) rfl (fun j hj => ?_) (fun H' s' => SqL.of (s' _ _ z.hs)) ?_ ?_
    · rw [List.length_map, List.length_take]
      omega
    · rintro j x H5 H6 hj s5 ⟨rfl, hx⟩ N S hN hS
      rw [List.getElem?_map] at hx
      obtain ⟨k, hk, rfl⟩ := Option.map_eq_some_iff.mp hx
      obtain ⟨kl, ks⟩ := stp_lt (List.mem_of_getElem? hk)
      have z5 := z.same s5
      obtain ⟨v, e1, _, ra⟩ := z5.rw.get kl
      refine ⟨rfl, _, rfl, p, C, dx, _, _, rfl, z5.h, T.cl, T.a2, z5.f.r, _, rfl, ow, ls, _, _, rfl, rfl, SqL.of z5.hr, e1, ?_⟩
      cases er : rw rs k with
      | stop l os =>
        rw [er] at ra
        obtain ⟨t, u, rfl, ht, hu⟩ := ra
        refine ⟨t, _, _, _, rfl, rfl, SqT.of ht, atI_nat (j := 1) rfl, hN _ _ Same.rfl' ?_⟩
        rw [take_map _ hk, er]
        rfl
      | leaf n => rw [er] at ks; cases ks
      | set n os => rw [er] at ks; cases ks
      | use os => rw [er] at ks; cases ks
    intro H5 s5 h5
    rw [List.length_map, List.take_length] at h5
    refine q _ D s5 nD ?_
    rw [h5, lbls_eq, List.map_map]
    rfl
/-! ### is it a value, a stop -/
def vIs (rs : Rs) : Option Int → Bool
  | some n => decide (n ∈ vlA rs)
  | none => false
def sIs (rs : Rs) : Option Int → Bool
  | some n => decide (n < ((stA rs).length : Nat))
  | none => false
def spIV (K : PySem.W.Frag) (C : Addr) : Sp := fun vs H Q _ => ∃ p rs out v o, vs = [.ref p, v] ∧ StV C H p rs out ∧ NumO K H v o ∧ Q (.bl (vIs rs o)) H
theorem ok_is_value (T : Tx K mg C) (G_is_integer : Fnc P w K mg base CX0 1 "is_integer" [] (spIntG K)) (F : FD K "is_value" "Stretch.is_value" s_Stretch_is_value [] f fd) : FnG P w K mg base CX0 2 f fd ["self", "thing"] (spIV K C) := by
  refine ok0 F sc_Stretch_is_value (fun vs H Q E h => ?_) (fun cdv A outer s H vs Q E hr h => ?_)
  · obtain ⟨p, rs, out, v, o, rfl, _⟩ := h
    rfl
  · obtain ⟨p, rs, out, v, o, rfl, ⟨dx, fs, vp, ow, oo, sp, np, ls, z⟩, ho, q⟩ := h
    refine ⟨_, (pss_one (ps_ret (pe_and (pe_fn G_is_integer (hr.mono (by decide)) pass0 (pa_cons (pv 1) pa_nil)) (pe_one (pe_cmp (pc_din (un1 hr.r.units) (pv 1) (pe_fld (pv 0) rfl)) rfl))))), ?_⟩
    refine ⟨_, rfl, v, o, rfl, ho, _, rfl, ?_⟩
    cases o with
    | none => exact iteF q
    | some n =>
      obtain ⟨rfl, _⟩ := ho.some
      refine iteT ⟨_, rfl, _, rfl, p, C, dx, _, _, rfl, z.h, T.cl, T.a1, z.f.v, vp, _, rfl, .inl ⟨_, Sum.inl n, z.hv, rfl, rfl⟩, ?_⟩
      unfold plA
      rw [plk_is]
      exact q
def spIS (K : PySem.W.Frag) (C : Addr) : Sp := fun vs H Q _ => ∃ p rs out v o, vs = [.ref p, v] ∧ StV C H p rs out ∧ NumO K H v o ∧ Q (.bl (sIs rs o)) H
theorem ok_is_stop (T : Tx K mg C) (G_is_integer : Fnc P w K mg base CX0 1 "is_integer" [] (spIntG K)) (F : FD K "is_stop" "Stretch.is_stop" s_Stretch_is_stop [] f fd) : FnG P w K mg base CX0 2 f fd ["self", "thing"] (spIS K C) := by
  refine ok0 F sc_Stretch_is_stop (fun vs H Q E h => ?_) (fun cdv A outer s H vs Q E hr h => ?_)
  · obtain ⟨p, rs, out, v, o, rfl, _⟩ := h
    rfl
  · obtain ⟨p, rs, out, v, o, rfl, ⟨dx, fs, vp, ow, oo, sp, np, ls, z⟩, ho, q⟩ := h
    refine ⟨_, (pss_one (ps_ret (pe_and (pe_fn G_is_integer (hr.mono (by decide)) pass0 (pa_cons (pv 1) pa_nil)) (pe_one (pe_cmpR op_lt (pv 1) (pe_callB call_len_seq (by rfl) T.n_len (by decide +kernel) (pa_cons (pe_fld (pv 0) rfl) pa_nil)) (nomark _)))))), ?_⟩
    refine ⟨_, rfl, v, o, rfl, ho, _, rfl, ?_⟩
    cases o with
    | none => exact iteF q
    | some n =>
      obtain ⟨rfl, _⟩ := ho.some
      refine iteT ⟨_, rfl, _, rfl, p, C, dx, _, _, rfl, z.h, T.cl, T.a4, z.f.s, sp, _, rfl, .inl (SqL.of z.hs), _, _, rfl, rfl, ?_⟩
      rw [List.length_map]
      exact q
def spCV (C : Addr) : Sp := fun vs H Q _ => ∃ p rs out, ∃ n : Int, vs = [.ref p, .int n] ∧ StV C H p rs out ∧ 0 ≤ n ∧ n ∈ vlA rs ∧ Q .non H
theorem ok_check_value (T : Tx K mg C) (M_is_value : Mth P w K mg base CX0 2 C "is_value" [] (spIV K C)) (F : FD K "check_value" "Stretch.check_value" s_Stretch_check_value [] f fd) : FnG P w K mg base CX0 3 f fd ["self", "thing"] (spCV C) := by
  refine ok0 F sc_Stretch_check_value (fun vs H Q E h => ?_) (fun cdv A outer s H vs Q E hr h => ?_)
  · obtain ⟨p, rs, out, n, rfl, _⟩ := h
    rfl
  · obtain ⟨p, rs, out, n, rfl, ⟨dx, fs, vp, ow, oo, sp, np, ls, z⟩, h0, hn, q⟩ := h
    refine ⟨_, (pss_one (ps_if (pt_not (pt_val (pe_mt M_is_value (hr.mono (by decide)) pass0 (pv 0) (pa_cons (pv 1) pa_nil)))) (pss_one ps_never) pss_nil)), ?_⟩
    exact ⟨_, rfl, p, dx, fs, rfl, z.h, z.f.no _ (by decide +kernel) (by decide +kernel) (by decide +kernel) (by decide +kernel) (by decide +kernel), _, rfl, p, rs, out, _, some n, rfl, ⟨dx, fs, vp, ow, oo, sp, np, ls, z⟩, .int n h0, _, rfl, iteN (by show (!decide (n ∈ vlA rs)) = false; rw [decide_eq_true hn]; rfl) q⟩
def spCS (C : Addr) : Sp := fun vs H Q _ => ∃ p rs out, ∃ k : Nat, vs = [.ref p, .int (k : Nat)] ∧ StV C H p rs out ∧ k < (stA rs).length ∧ Q .non H
theorem ok_check_stop (T : Tx K mg C) (M_is_stop : Mth P w K mg base CX0 2 C "is_stop" [] (spIS K C)) (F : FD K "check_stop" "Stretch.check_stop" s_Stretch_check_stop [] f fd) : FnG P w K mg base CX0 3 f fd ["self", "thing"] (spCS C) := by
  refine ok0 F sc_Stretch_check_stop (fun vs H Q E h => ?_) (fun cdv A outer s H vs Q E hr h => ?_)
  · obtain ⟨p, rs, out, n, rfl, _⟩ := h
    rfl
  · obtain ⟨p, rs, out, n, rfl, ⟨dx, fs, vp, ow, oo, sp, np, ls, z⟩, hn, q⟩ := h
    refine ⟨_, (pss_one (ps_if (pt_not (pt_val (pe_mt M_is_stop (hr.mono (by decide)) pass0 (pv 0) (pa_cons (pv 1) pa_nil)))) (pss_one ps_never) pss_nil)), ?_⟩
    exact ⟨_, rfl, p, dx, fs, rfl, z.h, z.f.no _ (by decide +kernel) (by decide +kernel) (by decide +kernel) (by decide +kernel) (by decide +kernel), _, rfl, p, rs, out, _, some (n : Int), rfl, ⟨dx, fs, vp, ow, oo, sp, np, ls, z⟩, .int _ (by omega), _, rfl, iteN (by show (!decide ((n : Int) < ((stA rs).length : Nat))) = false; rw [decide_eq_true (by omega)]; rfl) q⟩
/-! ### operands, asked -/
def OpV (H : Hp) (u : V) : Rw → Prop
  | .set _ os => OpT H u os
  | _ => u = .non
def spOps (C : Addr) : Sp := fun vs H Q _ => ∃ p rs out, ∃ n : Int, vs = [.ref p, .int n] ∧ StV C H p rs out ∧ 0 ≤ n ∧ n ∈ vlA rs ∧ ∀ (j : Nat) u, j < rs.length → n ∈ (rw rs j).val → OpV H u (rw rs j) → Q u H
theorem ok_operands (T : Tx K mg C) (M_check_value : Mth P w K mg base CX0 3 C "check_value" [] (spCV C)) (F : FD K "operands" "Stretch.operands" s_Stretch_operands [] f fd) : FnG P w K mg base CX0 4 f fd ["self", "value"] (spOps C) := by
  refine ok0 F sc_Stretch_operands (fun vs H Q E h => ?_) (fun cdv A outer s H vs Q E hr h => ?_)
  · obtain ⟨p, rs, out, n, rfl, _⟩ := h
    rfl
  · obtain ⟨p, rs, out, n, rfl, ⟨dx, fs, vp, ow, oo, sp, np, ls, z⟩, h0, hn, q⟩ := h
    refine ⟨_, (pss_cons (ps_expr (pe_mt M_check_value (hr.mono (by decide)) pass0 (pv 0) (pa_cons (pv 1) pa_nil)))
      (pss_cons (ps_set (i := 2) sc_Stretch_operands.nd rfl (by first | exact Or.inl rfl | exact Or.inr rfl) (pe_ix ix_list (pe_fld (pv 0) rfl) (pe_dget (un1 hr.r.units) (pe_fld (pv 0) rfl) (pv 1) (fun _ _ => rfl)) (fun _ _ => rfl)))
      (pss_one (ps_ret (pe_ifExp (pt_cmpR op_eq (pe_ix ix_tup (pv 2) pe_int (fun _ _ => rfl)) (pe_gS T.g_SET) (nomark _)) (pe_ix ix_tup (pv 2) pe_int (fun _ _ => rfl)) pe_non))))), ?_⟩
    refine ⟨_, rfl, p, dx, fs, rfl, z.h, z.f.no _ (by decide +kernel) (by decide +kernel) (by decide +kernel) (by decide +kernel) (by decide +kernel), _, rfl, p, rs, out, n, rfl, ⟨dx, fs, vp, ow, oo, sp, np, ls, z⟩, h0, hn, ?_⟩
    obtain ⟨j, hj, ep, hv, ev⟩ := plc_eq hn
    rw [ep] at ev
    obtain ⟨v, e1, _, ra⟩ := z.rw.get hj
    refine ⟨_, rfl, p, C, dx, _, _, rfl, z.h, T.cl, T.a2, z.f.r, _, rfl, p, C, dx, _, _, rfl, z.h, T.cl, T.a1, z.f.v, _, rfl, vp, _, rfl, .inl ⟨_, Sum.inl n, z.hv, rfl, ev.symm⟩, ow, ls, _, _, rfl, rfl, SqL.of z.hr, e1, ?_⟩
    have q' := fun u => q j u hj hv
    cases er : rw rs j with
    | leaf m =>
      rw [er] at ra q'
      obtain ⟨t, rfl, ht⟩ := ra
      exact ⟨_, rfl, t, _, _, _, rfl, rfl, SqT.of ht, atI_nat (j := 0) rfl, rfl, _, rfl, iteN sl1 (q' _ rfl)⟩
    | set m os =>
      rw [er] at ra q'
      obtain ⟨t, u, rfl, ht, hu⟩ := ra
      exact ⟨_, rfl, t, _, _, _, rfl, rfl, SqT.of ht, atI_nat (j := 0) rfl, rfl, _, rfl, iteY ss1 ⟨_, rfl, t, _, _, _, rfl, rfl, SqT.of ht, atI_nat (j := 2) rfl, q' _ hu⟩⟩
    | use os => rw [er] at hv; cases hv
    | stop l os => rw [er] at hv; cases hv
def spAsk (C : Addr) : Sp := fun vs H Q _ => ∃ p rs out, ∃ k : Nat, vs = [.ref p, .int (k : Nat)] ∧ StV C H p rs out ∧ k < (stA rs).length ∧ ∀ u, OpT H u (rw rs (spt rs k)).ops → Q u H
theorem at_nV {l : List Nat} {k s : Nat} (h : l[k]? = some s) : atI (nV l) (k : Int) = some (.int (s : Nat)) := atI_nat (by rw [List.getElem?_map, h]; rfl)
theorem ok_asked (T : Tx K mg C) (M_check_stop : Mth P w K mg base CX0 3 C "check_stop" [] (spCS C)) (F : FD K "asked" "Stretch.asked" s_Stretch_asked [] f fd) : FnG P w K mg base CX0 4 f fd ["self", "stop"] (spAsk C) := by
  refine ok0 F sc_Stretch_asked (fun vs H Q E h => ?_) (fun cdv A outer s H vs Q E hr h => ?_)
  · obtain ⟨p, rs, out, n, rfl, _⟩ := h
    rfl
  · obtain ⟨p, rs, out, k, rfl, ⟨dx, fs, vp, ow, oo, sp, np, ls, z⟩, hk, q⟩ := h
    refine ⟨_, (pss_cons (ps_expr (pe_mt M_check_stop (hr.mono (by decide)) pass0 (pv 0) (pa_cons (pv 1) pa_nil)))
      (pss_one (ps_ret (pe_ix ix_tup (pe_ix ix_list (pe_fld (pv 0) rfl) (pe_ix ix_list (pe_fld (pv 0) rfl) (pv 1) (fun _ _ => rfl)) (fun _ _ => rfl)) pe_int (fun _ _ => rfl))))), ?_⟩
    refine ⟨_, rfl, p, dx, fs, rfl, z.h, z.f.no _ (by decide +kernel) (by decide +kernel) (by decide +kernel) (by decide +kernel) (by decide +kernel), _, rfl, p, rs, out, k, rfl, ⟨dx, fs, vp, ow, oo, sp, np, ls, z⟩, hk, ?_⟩
    obtain ⟨sl, ss⟩ := spt_stop hk
    obtain ⟨v, e1, _, ra⟩ := z.rw.get sl
    refine ⟨_, rfl, p, C, dx, _, _, rfl, z.h, T.cl, T.a2, z.f.r, _, rfl, p, C, dx, _, _, rfl, z.h, T.cl, T.a4, z.f.s, _, rfl, sp, _, _, _, rfl, rfl, SqL.of z.hs, at_nV (spt_at hk), ow, ls, _, _, rfl, rfl, SqL.of z.hr, e1, ?_⟩
    cases er : rw rs (spt rs k) with
    | stop l os =>
      rw [er] at ra q
      obtain ⟨t, u, rfl, ht, hu⟩ := ra
      exact ⟨t, _, _, _, rfl, rfl, SqT.of ht, atI_nat (j := 2) rfl, q _ hu⟩
    | leaf n => rw [er] at ss; cases ss
    | set n os => rw [er] at ss; cases ss
    | use os => rw [er] at ss; cases ss
/-! ### present, live -/
def spPr (C : Addr) : Sp := fun vs H Q _ => ∃ p rs out, ∃ (n : Int) (k : Nat), vs = [.ref p, .int n, .int (k : Nat)] ∧ StV C H p rs out ∧ n ∈ vlA rs ∧ k < (stA rs).length ∧ Q (.bl (pres rs n k)) H
theorem ok_is_present (T : Tx K mg C) (F : FD K "is_present" "Stretch.is_present" s_Stretch_is_present [] f fd) : FnG P w K mg base CX0 1 f fd ["self", "value", "stop"] (spPr C) := by
  refine ok0 F sc_Stretch_is_present (fun vs H Q E h => ?_) (fun cdv A outer s H vs Q E hr h => ?_)
  · obtain ⟨p, rs, out, n, k, rfl, _⟩ := h
    rfl
  · obtain ⟨p, rs, out, n, k, rfl, ⟨dx, fs, vp, ow, oo, sp, np, ls, z⟩, hn, hk, q⟩ := h
    refine ⟨_, (pss_one (ps_ret (pe_cmpR op_lt (pe_dget (un1 hr.r.units) (pe_fld (pv 0) rfl) (pv 1) (fun _ _ => rfl)) (pe_ix ix_list (pe_fld (pv 0) rfl) (pv 2) (fun _ _ => rfl)) (nomark _)))), ?_⟩
    obtain ⟨j, hj, ep, hv, ev⟩ := plc_eq hn
    exact ⟨_, rfl, p, C, dx, _, _, rfl, z.h, T.cl, T.a1, z.f.v, _, rfl, vp, _, rfl, .inl ⟨_, Sum.inl n, z.hv, rfl, ev.symm⟩, _, rfl, p, C, dx, _, _, rfl, z.h, T.cl, T.a4, z.f.s, _, rfl, sp, _, _, _, rfl, rfl, SqL.of z.hs, at_nV (spt_at hk), _, _, rfl, rfl, q⟩
def spLv (C : Addr) : Sp := fun vs H Q _ => ∃ p rs out, ∃ (n : Int) (k : Nat), vs = [.ref p, .int n, .int (k : Nat)] ∧ StV C H p rs out ∧ n ∈ vlA rs ∧ k < (stA rs).length ∧ Q (.bl (live rs out n k)) H
theorem ok_is_live (T : Tx K mg C) (M_is_present : Mth P w K mg base CX0 1 C "is_present" [] (spPr C)) (F : FD K "is_live" "Stretch.is_live" s_Stretch_is_live [] f fd) : FnG P w K mg base CX0 2 f fd ["self", "value", "stop"] (spLv C) := by
  refine ok0 F sc_Stretch_is_live (fun vs H Q E h => ?_) (fun cdv A outer s H vs Q E hr h => ?_)
  · obtain ⟨p, rs, out, n, k, rfl, _⟩ := h
    rfl
  · obtain ⟨p, rs, out, n, k, rfl, ⟨dx, fs, vp, ow, oo, sp, np, ls, z⟩, hn, hk, q⟩ := h
    refine ⟨_, (pss_one (ps_ret (pe_and (pe_mt M_is_present (hr.mono (by decide)) pass0 (pv 0) (pa_cons (pv 1) (pa_cons (pv 2) pa_nil))) (pe_one (pe_cmpR op_gt (pe_dget2 (un1 hr.r.units) (pe_fld (pv 0) rfl) (pv 1) (pe_un un_neg pe_int) ⟨rfl, rfl, rfl, rfl⟩) (pe_ix ix_list (pe_fld (pv 0) rfl) (pv 2) (fun _ _ => rfl)) (nomark _)))))), ?_⟩
    refine ⟨_, rfl, p, dx, fs, rfl, z.h, z.f.no _ (by decide +kernel) (by decide +kernel) (by decide +kernel) (by decide +kernel) (by decide +kernel), _, rfl, _, rfl, p, rs, out, n, k, rfl, ⟨dx, fs, vp, ow, oo, sp, np, ls, z⟩, hn, hk, _, rfl, iteB (fun c => ?_) (fun c => ?_)⟩
    · refine ⟨_, rfl, p, C, dx, _, _, rfl, z.h, T.cl, T.a5, z.f.n, np, rfl, .inl ⟨_, z.hn⟩, _, rfl, _, rfl, _, .inl ⟨_, Sum.inl n, z.hn, rfl, rfl⟩, ?_⟩
      have e : (valV (nkA rs out) (Sum.inl n)).getD (.int (-1)) = .int (nd rs out n) := nd_eq rs out n
      unfold live at q
      rw [c, Bool.true_and] at q
      refine ⟨_, rfl, p, C, dx, _, _, rfl, z.h, T.cl, T.a4, z.f.s, _, rfl, sp, _, _, _, rfl, rfl, SqL.of z.hs, at_nV (spt_at hk), _, _, e, rfl, q⟩
    · unfold live at q
      rw [c, Bool.false_and] at q
      exact q
end
end K63

set_option Elab.async false
set_option linter.all false
set_option maxRecDepth 100000
set_option maxHeartbeats 2000000
/-! O61d: live values; ==, len, repr; a stretch made. -/
namespace K63
open PySem PySem.Spec PyProof.Rows L2 LL ST
section
variable {P : Program} {w : World} {K : PySem.W.Frag} {mg : Str → Option Value} {base : Heap} {C : Addr} {f : Addr} {fd : FuncData}
theorem same_lock {H H' : Hp} {d : Addr} {u : HO} {od : Obj} (h : H d = some u) (s : Same (upd H d (.frz od u)) H') : Same H (upd H' d u) := fun b o e => by
  by_cases c : b = d
  · subst c
    rw [upd_same, ← e, h]
  · rw [upd_ne c]
    exact s b o (by rw [upd_ne c]; exact e)
def spPrs (C : Addr) : Sp := fun vs H Q _ => ∃ p rs out, ∃ k : Nat, vs = [.ref p, .int (k : Nat)] ∧ StAt C H p rs out ∧ rs.length ≤ 60 ∧ k < (stA rs).length ∧
  ∀ H' r, Same H H' → H r = none → H' r = some (.lst ((prs rs k).map V.int)) → Q (.ref r) H'
theorem ok_present (T : Tx K mg C) (M_is_present : Mth P w K mg base CX0 1 C "is_present" [] (spPr C)) (F : FD K "present" "Stretch.present" s_Stretch_present [] f fd) : FnG P w K mg base CX0 2 f fd ["self", "stop"] (spPrs C) := by
  refine ok0 F sc_Stretch_present (fun vs H Q E h => ?_) (fun cdv A outer s H vs Q E hr h => ?_)
  · obtain ⟨p, rs, out, k, rfl, _⟩ := h
    rfl
  · obtain ⟨p, rs, out, k, rfl, ⟨dx, fs, vp, ow, oo, sp, np, ls, z, hv⟩, lr, hk, q⟩ := h
    refine ⟨_, (pss_one (ps_ret (pe_lock (pe_lc (own := [("value", 2)]) rfl sc_Stretch_present.nd (pi_keys (pe_fld (pv 0) rfl)) (blkOk_by (own := [("value", 2)]) (N := n_Stretch_present) (sc := defScope s_Stretch_present) (by decide +kernel)) (fun _ _ _ _ _ => (pg_name (i := 2) sc_Stretch_present.nd rfl (by first | exact Or.inl rfl | exact Or.inr rfl))) (fun _ _ _ _ _ => (pts_one (pt_val (pe_mt M_is_present (hr.mono (by decide)) pass0 (pv 0) (pa_cons (pv 2) (pa_cons (pv 1) pa_nil)))))) (fun _ _ _ _ _ => (pv 2)))))), ?_⟩
    refine ⟨vp, _, hv, trivial, fun od => ?_⟩
    have lv : (vlA rs).length ≤ rs.length := vls_len rs rs.length
    have ki : ∀ b o, H b = some o → (∀ kv, o ≠ .dK kv) → upd H vp (.frz od (.dK (plA rs))) b = some o := fun b o e n => by
      rw [upd_ne fun c => by rw [c, hv] at e; exact n _ (Option.some.inj e).symm]
      exact e
    have z1 : StW C (upd H vp (.frz od (.dK (plA rs)))) p dx fs vp ow oo sp np ls rs out := by
      refine ⟨ki _ _ z.h (fun _ e => nomatch e), z.f, .inr ⟨od, upd_same⟩, ki _ _ z.hr (fun _ e => nomatch e), ⟨z.rw.len, fun i v e => ?_⟩, ki _ _ z.ho (fun _ e => nomatch e), ki _ _ z.hs (fun _ e => nomatch e), ?_⟩
      · have ra := z.rw.at_ i v e
        cases er : rw rs i with
        | leaf n =>
          rw [er] at ra
          obtain ⟨t, e, x⟩ := ra
          exact ⟨t, e, ki _ _ x (fun _ e => nomatch e)⟩
        | set n os =>
          rw [er] at ra
          obtain ⟨t, u, e, x, o, eo, ho⟩ := ra
          exact ⟨t, u, e, ki _ _ x (fun _ e => nomatch e), o, eo, ki _ _ ho (fun _ e => nomatch e)⟩
        | use os =>
          rw [er] at ra
          obtain ⟨t, u, e, x, o, eo, ho⟩ := ra
          exact ⟨t, u, e, ki _ _ x (fun _ e => nomatch e), o, eo, ki _ _ ho (fun _ e => nomatch e)⟩
        | stop l os =>
          rw [er] at ra
          obtain ⟨t, u, e, x, o, eo, ho⟩ := ra
          exact ⟨t, u, e, ki _ _ x (fun _ e => nomatch e), o, eo, ki _ _ ho (fun _ e => nomatch e)⟩
      · rcases z.hn with h | ⟨x, h⟩
        · exact .inl (by rw [upd_ne z.f.ne.symm]; exact h)
        · exact .inr ⟨x, by rw [upd_ne z.f.ne.symm]; exact h⟩
    refine ⟨_, rfl, p, C, dx, _, _, rfl, z1.h, T.cl, T.a1, z1.f.v, vp, od, rfl, .inl ⟨_, upd_same, fun D nD => ?_⟩⟩
    refine lc_acc (walk_keys (d := vp) (o := od) (kvs := plA rs)) nD (fun j => (((vlA rs).take j).filter (pres rs · k)).map V.int) rfl (fun j hj => ?_) (fun H' s' => s' _ _ upd_same) ?_ ?_
    · rw [List.length_map]
      have := List.length_filter_le (pres rs · k) ((vlA rs).take j)
      rw [List.length_take] at this
      omega
    · rintro j x H5 H6 hj s5 ⟨rfl, key, v, hx, rfl⟩ N S hN hS
      have e1 : ((plA rs).map (·.1))[j]? = some key := by rw [List.getElem?_map, hx]; rfl
      unfold plA at e1
      rw [plk_keys, List.getElem?_map] at e1
      obtain ⟨n, hn, rfl⟩ := Option.map_eq_some_iff.mp e1
      have z5 := z1.same s5
      refine ⟨rfl, _, rfl, p, dx, fs, rfl, z5.h, z5.f.no _ (by decide +kernel) (by decide +kernel) (by decide +kernel) (by decide +kernel) (by decide +kernel), _, rfl, _, rfl, p, rs, out, n, k, rfl, ⟨dx, fs, vp, ow, oo, sp, np, ls, z5⟩, List.mem_of_getElem? hn, hk, _, rfl, ?_⟩
      have tf := take_fil (pres rs · k) hn
      refine iteB (fun c => ⟨_, rfl, hN _ _ Same.rfl' ?_⟩) (fun c => hS _ Same.rfl' ?_)
      · rw [tf, if_pos c, List.map_append]
        rfl
      · rw [tf, if_neg (by rw [c]; exact Bool.false_ne_true), List.append_nil]
    intro H5 s5 h5
    have el : (plA rs).length = (vlA rs).length := plk_len rs rs.length
    rw [el, List.take_length] at h5
    refine ⟨s5 _ _ upd_same, ?_⟩
    have sl := same_lock hv s5
    have nvD : D ≠ vp := fun c => by rw [c, s5 _ _ upd_same] at h5; cases h5
    have nD0 : H D = none := by rw [upd_ne nvD] at nD; exact nD
    exact q _ D sl nD0 (by rw [upd_ne nvD]; exact h5)
/-! ### a stretch made -/
def spMk (K : PySem.W.Frag) (C : Addr) : Sp := fun vs H Q _ => ∃ (a b : Addr) (rs : Rs) (out : List Int), vs = [.ref a, .ref b] ∧ RsAt H a rs ∧ RsOk rs ∧ OutAt K H b out ∧ (∀ n ∈ out, n ∈ vlA rs) ∧ out.length ≤ 100 ∧
  ∀ H' p, Same H H' → H p = none → StNw C H H' p rs out → Q (.ref p) H'
theorem mk_of {H : Hp} {Q : VK} {E : XK} {vs : List V} (h : spMk K C vs H Q E) : ∀ a dx, H a = none → H dx = none → dx ≠ a → spSI K C (.ref a :: vs) (upd (upd H dx (.own a)) a (.ins C dx [])) (fun v H2 => v = .non ∧ Q (.ref a) H2) E := by
  obtain ⟨a, b, rs, out, rfl, ha, ok, hb, ho, lo, q⟩ := h
  intro p dx np nd ne
  have s : Same H (upd (upd H dx (.own p)) p (.ins C dx [])) := fun b o e => by
    rw [upd_ne (ne_of_none e np), upd_ne (ne_of_none e nd)]
    exact e
  refine ⟨p, dx, a, b, rs, out, rfl, upd_same, ha.same s, ok, hb.same s, ho, lo, fun H' z B => ⟨rfl, q H' p (fun c o e => ?_) np (z.lo s)⟩⟩
  exact B c o (s c o e) (ne_of_none e np)
end
end K63

set_option Elab.async false
set_option linter.all false
set_option maxRecDepth 100000
set_option maxHeartbeats 2000000
/-! N63: points; the class Network. -/
namespace K63
open PySem PySem.Spec PyProof.Rows L2 LL ST
abbrev s_points_of : Stmt := top 4
abbrev n_points_of : List Str := ["stretch", "found", "stop", "value"]
theorem sc_points_of : FnScope n_points_of ["stretch"] (defScope s_points_of) := ⟨rfl, rfl, rfl, by decide +kernel, rfl, by decide +kernel, by decide +kernel⟩
abbrev s_Networkinit : Stmt := inClass (top 5) 0
abbrev n_Networkinit : List Str := ["self", "size", "node"]
theorem sc_Networkinit : FnScope n_Networkinit ["self", "size"] (defScope s_Networkinit) := ⟨rfl, rfl, rfl, by decide +kernel, rfl, by decide +kernel, by decide +kernel⟩
abbrev s_Network_connect : Stmt := inClass (top 5) 1
abbrev n_Network_connect : List Str := ["self", "start", "end", "bound"]
theorem sc_Network_connect : FnScope n_Network_connect ["self", "start", "end", "bound"] (defScope s_Network_connect) := ⟨rfl, rfl, rfl, by decide +kernel, rfl, by decide +kernel, by decide +kernel⟩
abbrev s_Network_next_node : Stmt := inClass (top 5) 2
abbrev n_Network_next_node : List Str := ["self", "node", "number", "start", "end", "bound"]
theorem sc_Network_next_node : FnScope n_Network_next_node ["self", "node", "number"] (defScope s_Network_next_node) := ⟨rfl, rfl, rfl, by decide +kernel, rfl, by decide +kernel, by decide +kernel⟩
structure Tn (K : PySem.W.Frag) (mg : Str → Option Value) (C N : Addr) : Prop extends Tx K mg C where
  g_Network : mg "Network" = some (.ref N)
  g_SOURCE : ∃ t, mg "SOURCE" = some (.int 0 t)
  g_SINK : ∃ t, mg "SINK" = some (.int 1 t)
  cN : Cls K N
  e1 : NoAttr K N "edges"
  e2 : NoAttr K N "flows"
  e3 : NoAttr K N "edges_at"
/-! ### pairs beside a list that grows -/
structure PrD (D : Addr) (H : Hp) (vs : List V) (ps : List IP) : Prop where
  len : vs.length = ps.length
  at_ : ∀ (i : Nat) v p, vs[i]? = some v → ps[i]? = some p → ∃ t, v = .ref t ∧ t ≠ D ∧ H t = some (.tup [.int p.1, .int p.2])
theorem PrD.nil {D : Addr} {H : Hp} : PrD D H [] [] := ⟨rfl, fun i v p e => by simp at e⟩
theorem PrD.upd {D : Addr} {H : Hp} {vs : List V} {ps : List IP} {o : HO} (h : PrD D H vs ps) : PrD D (L2.upd H D o) vs ps := ⟨h.len, fun i v p e1 e2 => let ⟨t, e, n, x⟩ := h.at_ i v p e1 e2; ⟨t, e, n, by rw [upd_ne n]; exact x⟩⟩
theorem PrD.same {D : Addr} {H H' : Hp} {vs : List V} {ps : List IP} (h : PrD D H vs ps) (s : Same H H') : PrD D H' vs ps := ⟨h.len, fun i v p e1 e2 => let ⟨t, e, n, x⟩ := h.at_ i v p e1 e2; ⟨t, e, n, s _ _ x⟩⟩
theorem PrD.prs {D : Addr} {H : Hp} {vs : List V} {ps : List IP} (h : PrD D H vs ps) : Prs H vs ps := ⟨h.len, fun i v p e1 e2 => let ⟨t, e, _, x⟩ := h.at_ i v p e1 e2; ⟨t, e, x⟩⟩
theorem prs_app {H : Hp} {vs us : List V} {ps qs : List IP} (h : Prs H vs ps) (g : Prs H us qs) : Prs H (vs ++ us) (ps ++ qs) := by
  refine ⟨by rw [List.length_append, List.length_append, h.len, g.len], fun i v p e1 e2 => ?_⟩
  by_cases c : i < vs.length
  · rw [List.getElem?_append_left c] at e1
    rw [List.getElem?_append_left (by rw [← h.len]; exact c)] at e2
    exact h.at_ i v p e1 e2
  · rw [List.getElem?_append_right (by omega)] at e1
    rw [List.getElem?_append_right (by rw [← h.len]; omega), ← h.len] at e2
    exact g.at_ _ v p e1 e2
theorem PrD.of {D : Addr} {H : Hp} {vs : List V} {ps : List IP} {xs : List V} (h : Prs H vs ps) (hD : H D = some (.lst xs)) : PrD D H vs ps := ⟨h.len, fun i v p e1 e2 => let ⟨t, e, x⟩ := h.at_ i v p e1 e2; ⟨t, e, (fun c => by rw [c, hD] at x; cases x), x⟩⟩
theorem PrD.snoc {D : Addr} {H : Hp} {vs : List V} {ps : List IP} {t : Addr} {p : IP} (h : PrD D H vs ps) (n : t ≠ D) (ht : H t = some (.tup [.int p.1, .int p.2])) : PrD D H (vs ++ [.ref t]) (ps ++ [p]) := by
  refine ⟨by rw [List.length_append, List.length_append, h.len]; rfl, fun i u q e1 e2 => ?_⟩
  by_cases c : i < vs.length
  · rw [List.getElem?_append_left c] at e1
    rw [List.getElem?_append_left (by rw [← h.len]; exact c)] at e2
    exact h.at_ i u q e1 e2
  · have hi := (List.getElem?_eq_some_iff.mp e1).1
    rw [List.length_append, List.length_singleton] at hi
    have ei : i = vs.length := by omega
    subst ei
    rw [List.getElem?_append_right (Nat.le_refl _), Nat.sub_self] at e1
    rw [h.len, List.getElem?_append_right (Nat.le_refl _), Nat.sub_self] at e2
    cases e1
    cases e2
    exact ⟨t, rfl, n, ht⟩
theorem lt5 {n : Nat} (h : n < 100000) : n < sizeLine := Nat.lt_of_lt_of_le h (small (Nat.le_refl _))
section
variable {P : Program} {w : World} {K : PySem.W.Frag} {mg : Str → Option Value} {base : Heap} {C N : Addr} {f : Addr} {fd : FuncData}
/-! ### points_of -/
def ptsU (rs : Rs) (i : Nat) : List Pt := (List.range i).flatMap fun k => (prs rs k).map fun n => (n, k)
theorem ptsU_snoc (rs : Rs) (i : Nat) : ptsU rs (i + 1) = ptsU rs i ++ (prs rs i).map fun n => (n, i) := by
  unfold ptsU
  rw [List.range_succ, List.flatMap_append, List.flatMap_singleton]
theorem ptsU_len {rs : Rs} (i : Nat) : (ptsU rs i).length ≤ rs.length * i := by
  induction i with
  | zero => exact Nat.zero_le _
  | succ i ih =>
    rw [ptsU_snoc, List.length_append, List.length_map]
    have : (prs rs i).length ≤ rs.length := Nat.le_trans (List.length_filter_le _ _) (vls_len rs rs.length)
    rw [Nat.mul_succ]
    omega
theorem kpo_app (a b : List Pt) : kpo (a ++ b) = kpo a ++ kpo b := List.map_append
theorem kpo_len (a : List Pt) : (kpo a).length = a.length := List.length_map ..
theorem pts_len {rs : Rs} (ok : RsOk rs) : (ptsA rs).length ≤ 900 := by
  have h : (ptsA rs).length ≤ rs.length * (stA rs).length := ptsU_len (rs := rs) (stA rs).length
  have := ok.len
  have : (stA rs).length ≤ rs.length := stp_len rs rs.length
  exact Nat.le_trans h (Nat.mul_le_mul (show rs.length ≤ 30 by omega) (show (stA rs).length ≤ 30 by omega))
def spPts (C : Addr) : Sp := fun vs H Q _ => ∃ p rs out, vs = [.ref p] ∧ StAt C H p rs out ∧ RsOk rs ∧ ∀ H' r vs', Same H H' → H r = none → H' r = some (.lst vs') → Prs H' vs' (kpo (ptsA rs)) → Q (.ref r) H'
theorem ok_points_of (T : Tn K mg C N) (M_stops : Mth P w K mg base CX0 1 C "stops" [] (spSt C)) (M_present : Mth P w K mg base CX0 2 C "present" [] (spPrs C)) (F : FD K "points_of" "points_of" s_points_of [] f fd) : FnG P w K mg base CX0 3 f fd ["stretch"] (spPts C) := by
  refine ok0 F sc_points_of (fun vs H Q E h => ?_) (fun cdv A outer s H vs Q E hr h => ?_)
  · obtain ⟨p, rs, out, rfl, _⟩ := h
    rfl
  · obtain ⟨p, rs, out, rfl, hst, ok, q⟩ := h
    refine ⟨_, (pss_cons (ps_set (i := 1) sc_points_of.nd rfl (by first | exact Or.inl rfl | exact Or.inr rfl) (pe_lst pa_nil))
      (pss_cons (ps_for PassesOwn.never rfl (pi_range1 (by rfl) T.n_range (pa_cons (pe_callB call_len_seq (by rfl) T.n_len (by decide +kernel) (pa_cons (pe_mt0 M_stops (hr.mono (by decide)) pass0 (pv 0)) pa_nil)) pa_nil)) (pg_name (i := 2) sc_points_of.nd rfl (by first | exact Or.inl rfl | exact Or.inr rfl)) (pss_one (ps_expr (pe_bm PySem.F.plainAttrs_list PySem.F.slot_list_extend PySem.F.type_list_extend mt_extend (pv 1) (pa_cons (pe_lc (own := [("value", 3)]) rfl sc_points_of.nd (pi_list (pe_mt M_present (hr.mono (by decide)) pass0 (pv 0) (pa_cons (pv 2) pa_nil))) (blkOk_by (own := [("value", 3)]) (N := n_points_of) (sc := defScope s_points_of) (by decide +kernel)) (fun _ _ _ _ _ => (pg_name (i := 3) sc_points_of.nd rfl (by first | exact Or.inl rfl | exact Or.inr rfl))) (fun _ _ _ _ _ => pts_nil) (fun _ _ _ _ _ => (pe_tup (pa_cons (pv 3) (pa_cons (pv 2) pa_nil))))) pa_nil)))))
      (pss_one (ps_ret (pv 1))))), ?_⟩
    have ll := ok.len
    have lst : (stA rs).length ≤ rs.length := stp_len rs rs.length
    refine ⟨(by show 0 ≤ sizeLine; decide), fun fo nfo => ?_⟩
    obtain ⟨G1, e, s1, hfo⟩ := mkO nfo (.lst [])
    rw [e]
    clear e
    refine nm_of ?_
    dsimp only
    obtain ⟨dx, fs, vp, ow, oo, sp, np, ls, z, hv⟩ := hst.same s1
    refine ⟨_, rfl, p, dx, fs, rfl, z.h, z.f.no _ (by decide +kernel) (by decide +kernel) (by decide +kernel) (by decide +kernel) (by decide +kernel), p, rs, out, rfl, hst.same s1, by omega, fun G2 r s2 nr hr2 => ?_⟩
    refine ⟨r, _, rfl, .inl (SqL.of hr2), _, rfl, by omega, by rw [List.length_map, lbls_eq, List.length_map]; have : (stp rs rs.length).length ≤ rs.length := lst; omega, ?_⟩
    rw [List.length_map, lbls_eq, List.length_map, Int.toNat_natCast]
    refine for_it (walk_range (lo := 0) (n := (stA rs).length)) (fun i σ H' => Same H H' ∧ (∃ vs', H' fo = some (.lst vs') ∧ Prs H' vs' (kpo (ptsU rs i))) ∧ ∃ u u', σ = [some (.ref p), some (.ref fo), u, u'])
      ⟨s1.trans s2, ⟨[], s2 _ _ hfo, ⟨rfl, fun i v p e => by simp at e⟩⟩, _, _, rfl⟩ (fun _ _ _ _ _ => trivial) ?_ ?_
    · rintro i x σ H3 H4 hi ⟨s3, ⟨vs', hfo3, pr⟩, u, u', rfl⟩ ⟨rfl, rfl⟩
      refine nm_of ?_
      dsimp only
      rw [Int.zero_add]
      have hst3 := hst.same s3
      obtain ⟨dx, fs, vp, ow, oo, sp, np, ls, z, hv⟩ := id hst3
      refine ⟨_, rfl, .inl ⟨rfl, _, SqL.of hfo3⟩, ?_⟩
      refine ⟨_, rfl, p, dx, fs, rfl, z.h, z.f.no _ (by decide +kernel) (by decide +kernel) (by decide +kernel) (by decide +kernel) (by decide +kernel), _, rfl, p, rs, out, i, rfl, hst3, by omega, hi, fun G5 r5 s5 nr5 hr5 => ?_⟩
      refine ⟨r5, rfl, ⟨_, SqL.of hr5⟩, fun D nD => ?_⟩
      refine lc_inv (walk_list (K := K) (a := r5) (xs := (prs rs i).map V.int)) (fun j acc G => Same G5 G ∧ PrD D G acc (kpo (((prs rs i).take j).map fun n => (n, i)))) (fun j acc G xs h => ⟨own_same h.1 nD, h.2.upd⟩) ⟨Same.rfl', PrD.nil⟩ (fun j acc G hj h => ?_) (fun j acc G _ h => SqL.of (h.1 _ _ hr5)) ?_ ?_
      · rw [h.2.len, kpo_len, List.length_map, List.length_take]
        rw [List.length_map] at hj
        have : (prs rs i).length ≤ rs.length := Nat.le_trans (List.length_filter_le _ _) (vls_len rs rs.length)
        exact lt5 (by omega)
      · rintro j x acc G' G hj ⟨s6, pr6⟩ hD6 ⟨rfl, hx⟩ Nn S hN hS
        rw [List.getElem?_map] at hx
        obtain ⟨n, hn, rfl⟩ := Option.map_eq_some_iff.mp hx
        refine ⟨rfl, _, rfl, _, rfl, (by show 2 ≤ sizeLine; decide), fun t nt => ?_⟩
        have s7 : Same G (upd G t (.tup [.int n, .int (i : Nat)])) := same_upd nt
        have nt2 : t ≠ D := fun c => by rw [c, hD6] at nt; cases nt
        refine hN _ _ (s7 _ _ hD6) ⟨s6.trans s7, ?_⟩
        rw [take_map _ hn, kpo_app]
        exact (pr6.same s7).snoc nt2 upd_same
      · intro acc G6 hD6 ⟨s6, pr6⟩
        rw [List.length_map, List.take_length] at pr6
        have s06 := (s3.trans s5).trans s6
        have hfo6 := s6 _ _ (s5 _ _ hfo3)
        have pr' := prs_app (pr.same (s5.trans s6)) pr6.prs
        have el := pr'.len
        rw [List.length_append, List.length_append, kpo_len, kpo_len] at el
        have lu := ptsU_len (rs := rs) (i + 1)
        rw [ptsU_snoc, List.length_append] at lu
        have lm : rs.length * (i + 1) ≤ 30 * 30 := Nat.mul_le_mul (by omega) (by omega)
        refine ⟨fo, D, _, _, rfl, rfl, hfo6, hD6, by have := small (n := 900) (by omega); omega, own_same s06 nfo, ⟨_, upd_same, ?_⟩, _, _, rfl⟩
        rw [ptsU_snoc, kpo_app]
        exact ((PrD.of pr' hfo6).upd).prs
    · rintro σ H3 ⟨s3, ⟨vs', hfo3, pr⟩, u, u', rfl⟩
      exact ⟨_, rfl, q _ fo vs' s3 nfo hfo3 pr⟩
/-! ### a network -/
structure NtF (fs : List (Str × V)) (ea fa aa : Addr) : Prop where
  e : fs.lookup ("edges" : Str) = some (.ref ea)
  f : fs.lookup ("flows" : Str) = some (.ref fa)
  a : fs.lookup ("edges_at" : Str) = some (.ref aa)
  no : ∀ m : Str, m ≠ "edges" → m ≠ "flows" → m ≠ "edges_at" → fs.lookup m = none
theorem ntf_new (ea fa aa : Addr) : NtF (putF "edges_at" (.ref aa) (putF "flows" (.ref fa) (putF "edges" (.ref ea) []))) ea fa aa := by
  refine ⟨?_, ?_, ?_, fun m h1 h2 h3 => ?_⟩
  · repeat (first | rw [lookup_putF, if_neg (by decide +kernel)] | rw [lookup_putF, if_pos rfl])
  · repeat (first | rw [lookup_putF, if_neg (by decide +kernel)] | rw [lookup_putF, if_pos rfl])
  · rw [lookup_putF, if_pos rfl]
  · rw [lookup_putF, if_neg h3, lookup_putF, if_neg h2, lookup_putF, if_neg h1]
    rfl
/-- where its parts lie -/
structure Na where
  dx : Addr
  fs : List (Str × V)
  ea : Addr
  fa : Addr
  aa : Addr
  ls : List Addr
def EdV (H : Hp) (v : V) (e : Ed) : Prop := ∃ t, v = .ref t ∧ H t = some (.tup [.int (e.1 : Nat), .int (e.2.1 : Nat), .int e.2.2])
structure Eds (H : Hp) (vs : List V) (es : List Ed) : Prop where
  len : vs.length = es.length
  at_ : ∀ (i : Nat) v, vs[i]? = some v → EdV H v (edg es i)
theorem EdV.same {H H' : Hp} {v : V} {e : Ed} (h : EdV H v e) (s : Same H H') : EdV H' v e := let ⟨t, a, b⟩ := h; ⟨t, a, s _ _ b⟩
theorem Eds.same {H H' : Hp} {vs : List V} {es : List Ed} (h : Eds H vs es) (s : Same H H') : Eds H' vs es := ⟨h.len, fun i v e => (h.at_ i v e).same s⟩
/-- all lists but tuples may change -/
def Tk (H H' : Hp) : Prop := ∀ b xs, H b = some (.tup xs) → H' b = some (.tup xs)
theorem Tk.of {H H' : Hp} (s : Same H H') : Tk H H' := fun b xs e => s b _ e
theorem Tk.trans {H H1 H2 : Hp} (a : Tk H H1) (b : Tk H1 H2) : Tk H H2 := fun c xs e => b c xs (a c xs e)
theorem tk_upd {H : Hp} {p : Addr} {o : HO} {ys : List V} (h : H p = some (.lst ys)) : Tk H (upd H p o) := fun b xs e => by
  rw [upd_ne fun z => by rw [z, h] at e; cases e]
  exact e
theorem Eds.tk {H H' : Hp} {vs : List V} {es : List Ed} (h : Eds H vs es) (s : Tk H H') : Eds H' vs es := ⟨h.len, fun i v e => let ⟨t, a, b⟩ := h.at_ i v e; ⟨t, a, s _ _ b⟩⟩
theorem Eds.get {H : Hp} {vs : List V} {es : List Ed} (h : Eds H vs es) {i : Nat} (hi : i < es.length) : ∃ t, vs[i]? = some (.ref t) ∧ H t = some (.tup [.int ((edg es i).1 : Nat), .int ((edg es i).2.1 : Nat), .int (edg es i).2.2]) := by
  have hi' : i < vs.length := by rw [h.len]; exact hi
  obtain ⟨t, e, x⟩ := h.at_ i _ (List.getElem?_eq_getElem hi')
  exact ⟨t, by rw [List.getElem?_eq_getElem hi', e], x⟩
theorem Eds.snoc {H : Hp} {vs : List V} {es : List Ed} (h : Eds H vs es) {v : V} {e : Ed} (hv : EdV H v e) : Eds H (vs ++ [v]) (es ++ [e]) := by
  refine ⟨by rw [List.length_append, List.length_append, h.len]; rfl, fun i u q => ?_⟩
  by_cases c : i < vs.length
  · rw [List.getElem?_append_left c] at q
    rw [edg_app (by rw [← h.len]; exact c)]
    exact h.at_ i u q
  · have hi := (List.getElem?_eq_some_iff.mp q).1
    rw [List.length_append, List.length_singleton] at hi
    have ei : i = vs.length := by omega
    subst ei
    rw [List.getElem?_append_right (Nat.le_refl _), Nat.sub_self] at q
    cases q
    rw [h.len, edg_last]
    exact hv
structure NtW (N : Addr) (H : Hp) (p : Addr) (z : Na) (es : List Ed) (fl : List Int) (n : Nat) : Prop where
  h : H p = some (.ins N z.dx z.fs)
  f : NtF z.fs z.ea z.fa z.aa
  ev : ∃ vs, H z.ea = some (.lst vs) ∧ Eds H vs es
  hf : H z.fa = some (.lst (fl.map V.int))
  ll : fl.length = es.length
  ha : H z.aa = some (.lst (z.ls.map V.ref))
  ln : z.ls.length = n
  la : ∀ (v : Nat) a, z.ls[v]? = some a → H a = some (.lst (nV (adj es v)))
  nd : z.ls.Nodup
  n1 : z.ea ≠ z.fa
  n2 : z.ea ≠ z.aa
  n3 : z.fa ≠ z.aa
  n4 : z.ea ∉ z.ls
  n5 : z.fa ∉ z.ls
  n6 : z.aa ∉ z.ls
theorem NtW.same {N : Addr} {H H' : Hp} {p : Addr} {z : Na} {es : List Ed} {fl : List Int} {n : Nat} (h : NtW N H p z es fl n) (s : Same H H') : NtW N H' p z es fl n :=
  ⟨s _ _ h.h, h.f, let ⟨vs, a, b⟩ := h.ev; ⟨vs, s _ _ a, b.same s⟩, s _ _ h.hf, h.ll, s _ _ h.ha, h.ln, fun v a e => s _ _ (h.la v a e), h.nd, h.n1, h.n2, h.n3, h.n4, h.n5, h.n6⟩
/-- its lists are new in H0 -/
structure Nw (H0 : Hp) (z : Na) : Prop where
  e : H0 z.ea = none
  f : H0 z.fa = none
  a : H0 z.aa = none
  l : ∀ a ∈ z.ls, H0 a = none
theorem lt3 {fs : List (Str × V)} {f : Str} {v : V} (h : fs.length ≤ 0) : (putF f v fs).length < 1000 := by have := lt1000 (f := f) (v := v) h; omega
theorem lt4 {fs : List (Str × V)} {f g : Str} {v u : V} (h : fs.length ≤ 0) : (putF g u (putF f v fs)).length < 1000 := by have := lt1000 (f := g) (v := u) (lt1000 (f := f) (v := v) h); omega
def spNI (N : Addr) : Sp := fun vs H Q _ => ∃ (p dx : Addr) (n : Nat), vs = [.ref p, .int (n : Nat)] ∧ H p = some (.ins N dx []) ∧ n ≤ 90000 ∧ ∀ H' z, NtW N H' p z [] [] n → Nw H z → But p H H' → Q .non H'
theorem ok_ninit (T : Tn K mg C N) (F : FD K "__init__" "Network.__init__" s_Networkinit [] f fd) : FnG P w K mg base CX0 1 f fd ["self", "size"] (spNI N) := by
  refine ok0 F sc_Networkinit (fun vs H Q E h => ?_) (fun cdv A outer s H vs Q E hr h => ?_)
  · obtain ⟨p, dx, n, rfl, _⟩ := h
    rfl
  · obtain ⟨p, dx, n, rfl, hp, hn, q⟩ := h
    refine ⟨_, (pss_cons (ps_fld (pv 0) (pe_lst pa_nil) rfl)
      (pss_cons (ps_fld (pv 0) (pe_lst pa_nil) rfl)
      (pss_one (ps_fld (pv 0) (pe_lc (own := [("node", 2)]) rfl sc_Networkinit.nd (pi_range1 (by rfl) T.n_range (pa_cons (pv 1) pa_nil)) (blkOk_by (own := [("node", 2)]) (N := n_Networkinit) (sc := defScope s_Networkinit) (by decide +kernel)) (fun _ _ _ _ _ => (pg_name (i := 2) sc_Networkinit.nd rfl (by first | exact Or.inl rfl | exact Or.inr rfl))) (fun _ _ _ _ _ => pts_nil) (fun _ _ _ _ _ => (pe_lst pa_nil))) rfl)))), ?_⟩
    refine ⟨(by show 0 ≤ sizeLine; decide), fun ea nea => ?_⟩
    obtain ⟨G1, e, s1, hea⟩ := mkO nea (.lst [])
    rw [e]
    clear e
    have hp1 := s1 _ _ hp
    have B1 : Bp p H G1 := bp_refl.sm s1
    refine ⟨_, rfl, p, N, dx, [], rfl, hp1, T.cN, T.e1, (by show 0 < 1000; decide), ?_⟩
    have nep : ea ≠ p := fun c => by rw [c, hp] at nea; cases nea
    have B2 := B1.st (o := .ins N dx (putF "edges" (.ref ea) []))
    obtain ⟨G2, e2⟩ : ∃ G2, G2 = upd G1 p (.ins N dx (putF "edges" (.ref ea) [])) := ⟨_, rfl⟩
    have hp2 : G2 p = some (.ins N dx (putF "edges" (.ref ea) [])) := by rw [e2, upd_same]
    have hea2 : G2 ea = some (.lst []) := by rw [e2, upd_ne nep]; exact hea
    rw [← e2] at B2 ⊢
    clear e2
    refine ⟨(by show 0 ≤ sizeLine; decide), fun fa nfa => ?_⟩
    obtain ⟨G3, e, s3, hfa⟩ := mkO nfa (.lst [])
    rw [e]
    clear e
    have hp3 := s3 _ _ hp2
    have B3 := B2.sm s3
    have hea3 := s3 _ _ hea2
    refine ⟨_, rfl, p, N, dx, _, rfl, hp3, T.cN, T.e2, lt3 (Nat.le_refl 0), ?_⟩
    have nfp : fa ≠ p := fun c => by rw [c, hp2] at nfa; cases nfa
    have nef : ea ≠ fa := fun c => by rw [← c, hea2] at nfa; cases nfa
    have B4 := B3.st (o := .ins N dx (putF "flows" (.ref fa) (putF "edges" (.ref ea) [])))
    obtain ⟨G4, e4⟩ : ∃ G4, G4 = upd G3 p (.ins N dx (putF "flows" (.ref fa) (putF "edges" (.ref ea) []))) := ⟨_, rfl⟩
    have hp4 : G4 p = some (.ins N dx (putF "flows" (.ref fa) (putF "edges" (.ref ea) []))) := by rw [e4, upd_same]
    have hea4 : G4 ea = some (.lst []) := by rw [e4, upd_ne nep]; exact hea3
    have hfa4 : G4 fa = some (.lst []) := by rw [e4, upd_ne nfp]; exact hfa
    rw [← e4] at B4 ⊢
    clear e4
    refine ⟨_, rfl, _, rfl, by omega, by omega, fun D nD => ?_⟩
    rw [Int.toNat_natCast]
    refine lc_inv (walk_range (lo := 0) (n := n)) (fun j acc G => Same G4 G ∧ ∃ ls : List Addr, acc = ls.map V.ref ∧ ls.length = j ∧ ls.Nodup ∧ D ∉ ls ∧ (∀ a ∈ ls, G a = some (.lst [])) ∧ ∀ a ∈ ls, G4 a = none) (fun j acc G xs h => ?_) ⟨Same.rfl', [], rfl, rfl, List.nodup_nil, List.not_mem_nil, (fun a ha => by cases ha), fun a ha => by cases ha⟩ (fun j acc G hj h => ?_) (fun j acc G _ h => trivial) ?_ ?_
    · obtain ⟨s5, ls, rfl, l1, l2, l3, l4, l5⟩ := h
      exact ⟨own_same s5 nD, ls, rfl, l1, l2, l3, fun a ha => by rw [upd_ne fun c => l3 (by rw [← c]; exact ha)]; exact l4 a ha, l5⟩
    · obtain ⟨s5, ls, rfl, l1, _⟩ := h
      rw [List.length_map, l1]
      exact lt5 (by omega)
    · rintro j x acc G' G hj ⟨s5, ls, rfl, l1, l2, l3, l4, l5⟩ hD5 ⟨rfl, rfl⟩ Nn S hN hS
      refine ⟨rfl, (by show 0 ≤ sizeLine; decide), fun a na => ?_⟩
      have s6 : Same G (upd G a (.lst [])) := same_upd na
      have naD : a ≠ D := fun c => by rw [c, hD5] at na; cases na
      have nal : a ∉ ls := fun c => by rw [l4 a c] at na; cases na
      refine hN _ _ (s6 _ _ hD5) ⟨s5.trans s6, ls ++ [a], by rw [List.map_append]; rfl, by rw [List.length_append, l1]; rfl, List.nodup_append.mpr ⟨l2, List.nodup_cons.mpr ⟨List.not_mem_nil, List.nodup_nil⟩, fun b hb c hc e => nal (by rw [List.mem_singleton.mp hc] at e; rw [← e]; exact hb)⟩, fun c => ?_, fun b hb => ?_, fun b hb => ?_⟩
      · rcases List.mem_append.mp c with c | c
        · exact l3 c
        · exact naD (List.mem_singleton.mp c).symm
      · rcases List.mem_append.mp hb with hb | hb
        · exact s6 _ _ (l4 b hb)
        · rw [List.mem_singleton.mp hb, upd_same]
      · rcases List.mem_append.mp hb with hb | hb
        · exact l5 b hb
        · rw [List.mem_singleton.mp hb]
          exact s5.free na
    · intro acc G5 hD5 ⟨s5, ls, e5, l1, l2, l3, l4, l5⟩
      subst e5
      have hp5 := s5 _ _ hp4
      have B5 := B4.sm s5
      refine ⟨_, rfl, p, N, dx, _, rfl, hp5, T.cN, T.e3, lt4 (Nat.le_refl 0), ?_⟩
      have nDp : D ≠ p := fun c => by rw [c, hp4] at nD; cases nD
      have nlp : ∀ a ∈ ls, a ≠ p := fun a ha c => by
        have := l5 a ha
        rw [c, hp4] at this
        cases this
      refine q _ ⟨dx, _, ea, fa, D, ls⟩ ⟨upd_same, ntf_new ea fa D, ⟨[], by rw [upd_ne nep]; exact s5 _ _ hea4, ⟨rfl, fun i v e => by simp at e⟩⟩, by rw [upd_ne nfp]; exact s5 _ _ hfa4, rfl, by rw [upd_ne nDp]; exact hD5, l1, fun v a e => ?_, l2, nef, fun c => ?_, fun c => ?_, fun c => ?_, fun c => ?_, l3⟩ ⟨nea, B2.fr _ nfa, B4.fr _ nD, fun a ha => B4.fr _ (l5 a ha)⟩ B5.st.but
      · have ha := List.mem_of_getElem? e
        rw [upd_ne (nlp a ha)]
        exact l4 a ha
      · have c : ea = D := c
        rw [← c, hea4] at nD
        cases nD
      · have c : fa = D := c
        rw [← c, hfa4] at nD
        cases nD
      · have := l5 ea c
        rw [hea4] at this
        cases this
      · have := l5 fa c
        rw [hfa4] at this
        cases this
end
end K63

set_option Elab.async false
set_option linter.all false
set_option maxRecDepth 100000
set_option maxHeartbeats 2000000
/-! N63b: a network made, an edge more, the next node. -/
namespace K63
open PySem PySem.Spec PyProof.Rows L2 LL ST
section
variable {P : Program} {w : World} {K : PySem.W.Frag} {mg : Str → Option Value} {base : Heap} {C N : Addr} {f : Addr} {fd : FuncData}
def spNet (N : Addr) : Sp := fun vs H Q _ => ∃ n : Nat, vs = [.int (n : Nat)] ∧ n ≤ 90000 ∧ ∀ H' p z, Same H H' → H p = none → NtW N H' p z [] [] n → Nw H z → Q (.ref p) H'
theorem net_of {H : Hp} {Q : VK} {E : XK} {vs : List V} (h : spNet N vs H Q E) : ∀ a dx, H a = none → H dx = none → dx ≠ a → spNI N (.ref a :: (vs ++ [])) (upd (upd H dx (.own a)) a (.ins N dx [])) (fun v H2 => v = .non ∧ Q (.ref a) H2) E := by
  obtain ⟨n, rfl, hn, q⟩ := h
  intro p dx np nd ne
  have s : Same H (upd (upd H dx (.own p)) p (.ins N dx [])) := fun b o e => by
    rw [upd_ne (ne_of_none e np), upd_ne (ne_of_none e nd)]
    exact e
  refine ⟨p, dx, n, rfl, upd_same, hn, fun H' z hz nw B => ⟨rfl, q H' p z (fun c o e => ?_) np hz ⟨s.free nw.e, s.free nw.f, s.free nw.a, fun a ha => s.free (nw.l a ha)⟩⟩⟩
  exact B c o (s c o e) (ne_of_none e np)
theorem mkf_net (G : Mkr P w K mg base CX0 1 "Network" N [] (spNI N)) : Mkf P w K mg base CX0 1 "Network" (spNet N) := ⟨N, [], _, G, fun vs H Q E h => net_of h⟩
/-! ### an edge more -/
theorem rep0 (n : Nat) : ((List.replicate n (0 : Int)).map V.int) ++ [V.int 0] = (List.replicate (n + 1) (0 : Int)).map V.int := by
  rw [List.replicate_succ', List.map_append]
  rfl
theorem nV_snoc (l : List Nat) (m : Nat) : nV l ++ [V.int (m : Nat)] = nV (l ++ [m]) := by
  show _ = List.map _ _
  rw [List.map_append]
  rfl
def spCon (N : Addr) : Sp := fun vs H Q _ => ∃ (H0 : Hp) (p : Addr) (z : Na) (es : List Ed) (n s e : Nat) (b : Int), vs = [.ref p, .int (s : Nat), .int (e : Nat), .int b] ∧ NtW N H p z es (List.replicate es.length 0) n ∧ Nw H0 z ∧ Same H0 H ∧ s < n ∧ e < n ∧ s ≠ e ∧ es.length ≤ 90000 ∧
  ∀ H', Same H0 H' → Tk H H' → NtW N H' p z (es ++ [(s, e, b)]) (List.replicate (es.length + 1) 0) n → Q .non H'
theorem ok_connect (T : Tn K mg C N) (F : FD K "connect" "Network.connect" s_Network_connect [] f fd) : FnG P w K mg base CX0 1 f fd ["self", "start", "end", "bound"] (spCon N) := by
  refine ok0 F sc_Network_connect (fun vs H Q E h => ?_) (fun cdv A outer s H vs Q E hr h => ?_)
  · obtain ⟨H0, p, z, es, n, s, e, b, rfl, _⟩ := h
    rfl
  · obtain ⟨H0, p, z, es, n, st, en, b, rfl, hz, nw, s0, hs, he, nse, le, q⟩ := h
    refine ⟨_, (pss_cons (ps_expr (pe_bm PySem.F.plainAttrs_list PySem.F.slot_list_append PySem.F.type_list_append mt_append (pe_ix ix_list (pe_fld (pv 0) rfl) (pv 1) (fun _ _ => rfl)) (pa_cons (pe_callB call_len_seq (by rfl) T.n_len (by decide +kernel) (pa_cons (pe_fld (pv 0) rfl) pa_nil)) pa_nil)))
      (pss_cons (ps_expr (pe_bm PySem.F.plainAttrs_list PySem.F.slot_list_append PySem.F.type_list_append mt_append (pe_ix ix_list (pe_fld (pv 0) rfl) (pv 2) (fun _ _ => rfl)) (pa_cons (pe_callB call_len_seq (by rfl) T.n_len (by decide +kernel) (pa_cons (pe_fld (pv 0) rfl) pa_nil)) pa_nil)))
      (pss_cons (ps_expr (pe_bm PySem.F.plainAttrs_list PySem.F.slot_list_append PySem.F.type_list_append mt_append (pe_fld (pv 0) rfl) (pa_cons (pe_tup (pa_cons (pv 1) (pa_cons (pv 2) (pa_cons (pv 3) pa_nil)))) pa_nil)))
      (pss_one (ps_expr (pe_bm PySem.F.plainAttrs_list PySem.F.slot_list_append PySem.F.type_list_append mt_append (pe_fld (pv 0) rfl) (pa_cons pe_int pa_nil))))))), ?_⟩
    obtain ⟨vs, hea, ed⟩ := hz.ev
    obtain ⟨as, eas⟩ : ∃ a, z.ls[st]? = some a := ⟨_, List.getElem?_eq_getElem (by rw [hz.ln]; exact hs)⟩
    obtain ⟨ae, eae⟩ : ∃ a, z.ls[en]? = some a := ⟨_, List.getElem?_eq_getElem (by rw [hz.ln]; exact he)⟩
    have mas := List.mem_of_getElem? eas
    have mae := List.mem_of_getElem? eae
    have hls := hz.la _ _ eas
    have hle := hz.la _ _ eae
    have nae : as ≠ ae := fun c => by
      obtain ⟨i1, e1⟩ := List.getElem?_eq_some_iff.mp eas
      obtain ⟨i2, e2⟩ := List.getElem?_eq_some_iff.mp eae
      exact nse ((List.getElem_inj hz.nd).mp (e1.trans (c.trans e2.symm)))
    have ix : ∀ {v : Nat} {a : Addr}, z.ls[v]? = some a → atI (z.ls.map V.ref) (v : Int) = some (.ref a) := fun h => atI_nat (by rw [List.getElem?_map, h]; rfl)
    have nes : z.ea ≠ as := fun c => hz.n4 (by rw [c]; exact mas)
    have nee : z.ea ≠ ae := fun c => hz.n4 (by rw [c]; exact mae)
    have nfs : z.fa ≠ as := fun c => hz.n5 (by rw [c]; exact mas)
    have nfe : z.fa ≠ ae := fun c => hz.n5 (by rw [c]; exact mae)
    have nss : z.aa ≠ as := fun c => hz.n6 (by rw [c]; exact mas)
    have nsa : z.aa ≠ ae := fun c => hz.n6 (by rw [c]; exact mae)
    have npl : ∀ {a xs}, H a = some (.lst xs) → p ≠ a := fun h c => by rw [← c, hz.h] at h; cases h
    have lz : vs.length < sizeLine := lt5 (by rw [ed.len]; omega)
    have al : ∀ v, (nV (adj es v)).length < sizeLine := fun v => lt5 (by rw [List.length_map]; have := adj_len es v; omega)
    -- the start's list
    refine ⟨_, rfl, p, N, z.dx, _, _, rfl, hz.h, T.cN, T.e3, hz.f.a, _, rfl, z.aa, _, _, _, rfl, rfl, SqL.of hz.ha, ix eas, .inl ⟨rfl, _, SqL.of hls⟩, ?_⟩
    refine ⟨_, rfl, p, N, z.dx, _, _, rfl, hz.h, T.cN, T.e1, hz.f.e, z.ea, _, rfl, .inl (SqL.of hea), as, _, _, rfl, rfl, hls, al st, ?_⟩
    rw [ed.len, nV_snoc]
    obtain ⟨G1, e1⟩ : ∃ G, G = upd H as (.lst (nV (adj es st ++ [es.length]))) := ⟨_, rfl⟩
    rw [← e1]
    have hp1 : G1 p = some (.ins N z.dx z.fs) := by rw [e1, upd_ne (npl hls)]; exact hz.h
    have ha1 : G1 z.aa = some (.lst (z.ls.map V.ref)) := by rw [e1, upd_ne nss]; exact hz.ha
    have hea1 : G1 z.ea = some (.lst vs) := by rw [e1, upd_ne nes]; exact hea
    have hle1 : G1 ae = some (.lst (nV (adj es en))) := by rw [e1, upd_ne nae.symm]; exact hle
    -- the end's list
    refine ⟨_, rfl, p, N, z.dx, _, _, rfl, hp1, T.cN, T.e3, hz.f.a, _, rfl, z.aa, _, _, _, rfl, rfl, SqL.of ha1, ix eae, .inl ⟨rfl, _, SqL.of hle1⟩, ?_⟩
    refine ⟨_, rfl, p, N, z.dx, _, _, rfl, hp1, T.cN, T.e1, hz.f.e, z.ea, _, rfl, .inl (SqL.of hea1), ae, _, _, rfl, rfl, hle1, al en, ?_⟩
    rw [ed.len, nV_snoc]
    obtain ⟨G2, e2⟩ : ∃ G, G = upd G1 ae (.lst (nV (adj es en ++ [es.length]))) := ⟨_, rfl⟩
    rw [← e2]
    have hp2 : G2 p = some (.ins N z.dx z.fs) := by rw [e2, upd_ne (npl hle)]; exact hp1
    have hea2 : G2 z.ea = some (.lst vs) := by rw [e2, upd_ne nee]; exact hea1
    have tk2 : Tk H G2 := by rw [e2]; refine (Tk.trans ?_ (tk_upd hle1)); rw [e1]; exact tk_upd hls
    -- the edge
    refine ⟨_, rfl, p, N, z.dx, _, _, rfl, hp2, T.cN, T.e1, hz.f.e, .inl ⟨rfl, _, SqL.of hea2⟩, _, rfl, _, rfl, _, rfl, (by show 3 ≤ sizeLine; decide), fun t nt => ?_⟩
    obtain ⟨G3, e3, s3, ht⟩ := mkO nt (.tup [.int (st : Nat), .int (en : Nat), .int b])
    rw [e3]
    have hea3 := s3 _ _ hea2
    have hp3 := s3 _ _ hp2
    refine ⟨z.ea, _, _, rfl, rfl, hea3, lz, ?_⟩
    obtain ⟨G4, e4⟩ : ∃ G, G = upd G3 z.ea (.lst (vs ++ [.ref t])) := ⟨_, rfl⟩
    rw [← e4]
    have hp4 : G4 p = some (.ins N z.dx z.fs) := by rw [e4, upd_ne (npl hea)]; exact hp3
    have hf2 : G2 z.fa = some (.lst ((List.replicate es.length (0 : Int)).map V.int)) := by rw [e2, upd_ne nfe, e1, upd_ne nfs]; exact hz.hf
    have hf4 : G4 z.fa = some (.lst ((List.replicate es.length (0 : Int)).map V.int)) := by rw [e4, upd_ne hz.n1.symm]; exact s3 _ _ hf2
    have tk4 : Tk H G4 := by rw [e4]; exact (tk2.trans (Tk.of s3)).trans (tk_upd hea3)
    have ht4 : G4 t = some (.tup [.int (st : Nat), .int (en : Nat), .int b]) := by rw [e4, upd_ne fun c => by rw [c, hea3] at ht; cases ht]; exact ht
    -- its flow
    refine ⟨_, rfl, p, N, z.dx, _, _, rfl, hp4, T.cN, T.e2, hz.f.f, .inl ⟨rfl, _, SqL.of hf4⟩, z.fa, _, _, rfl, rfl, hf4, lt5 (by rw [List.length_map, List.length_replicate]; omega), ?_⟩
    rw [rep0]
    have tkf : Tk G4 (upd G4 z.fa (.lst ((List.replicate (es.length + 1) (0 : Int)).map V.int))) := tk_upd hf4
    have lat : ∀ (v : Nat) a, z.ls[v]? = some a → ∀ xs, H a = some (.lst xs) → a ≠ as → a ≠ ae → (upd G4 z.fa (.lst ((List.replicate (es.length + 1) (0 : Int)).map V.int))) a = some (.lst xs) := fun v a ea xs hx n1 n2 => by
      have ma := List.mem_of_getElem? ea
      rw [upd_ne (fun c => hz.n5 (by rw [← c]; exact ma)), e4, upd_ne (fun c => hz.n4 (by rw [← c]; exact ma))]
      refine s3 _ _ ?_
      rw [e2, upd_ne n2, e1, upd_ne n1]
      exact hx
    refine q _ (fun x o ho => ?_) (tk4.trans tkf) ⟨by rw [upd_ne (npl hz.hf)]; exact hp4, hz.f, ⟨vs ++ [.ref t], by rw [upd_ne hz.n1, e4, upd_same], (ed.tk (tk4.trans tkf)).snoc ⟨t, rfl, tkf _ _ ht4⟩⟩, upd_same, by rw [List.length_replicate, List.length_append]; rfl, ?_, hz.ln, fun v a ea => ?_, hz.nd, hz.n1, hz.n2, hz.n3, hz.n4, hz.n5, hz.n6⟩
    · have h0 := s0 _ _ ho
      rw [upd_ne (fun c => by rw [c, nw.f] at ho; cases ho), e4, upd_ne (fun c => by rw [c, nw.e] at ho; cases ho)]
      refine s3 _ _ ?_
      rw [e2, upd_ne (fun c => by rw [c, nw.l _ mae] at ho; cases ho), e1, upd_ne (fun c => by rw [c, nw.l _ mas] at ho; cases ho)]
      exact h0
    · rw [upd_ne hz.n3.symm, e4, upd_ne hz.n2.symm]
      refine s3 _ _ ?_
      rw [e2, upd_ne nsa]
      exact ha1
    · have old := hz.la v a ea
      rw [adj_snoc]
      have uq : ∀ {x : Nat} {c : Addr}, z.ls[x]? = some c → a = c → v = x := fun ex c => by
        obtain ⟨i1, h1⟩ := List.getElem?_eq_some_iff.mp ea
        obtain ⟨i2, h2⟩ := List.getElem?_eq_some_iff.mp ex
        exact (List.getElem_inj hz.nd).mp (h1.trans (c.trans h2.symm))
      by_cases c1 : a = as
      · have ev := uq eas c1
        subst ev
        rw [if_pos (.inl rfl), c1, upd_ne nfs.symm, e4, upd_ne nes.symm]
        refine s3 _ _ ?_
        rw [e2, upd_ne nae, e1, upd_same]
      · by_cases c2 : a = ae
        · have ev := uq eae c2
          subst ev
          rw [if_pos (.inr rfl), c2, upd_ne nfe.symm, e4, upd_ne nee.symm]
          refine s3 _ _ ?_
          rw [e2, upd_same]
        · rw [if_neg (fun z1 => by
            rcases z1 with z1 | z1
            · have z1 : st = v := z1
              subst z1
              rw [eas] at ea
              exact c1 (Option.some.inj ea).symm
            · have z1 : en = v := z1
              subst z1
              rw [eae] at ea
              exact c2 (Option.some.inj ea).symm), List.append_nil]
          exact lat v a ea _ old c1 c2
/-! ### the next node -/
def nxV : Option Nat → V
  | some v => .int (v : Nat)
  | none => .non
def spNx (N : Addr) : Sp := fun vs H Q _ => ∃ (p : Addr) (z : Na) (es : List Ed) (fl : List Int) (n u i : Nat), vs = [.ref p, .int (u : Nat), .int (i : Nat)] ∧ NtW N H p z es fl n ∧ i < es.length ∧ Q (nxV (nxt es fl u i)) H
theorem dec_nat {a b : Nat} : decide (V.int (a : Nat) = V.int (b : Nat)) = decide (a = b) := decide_eq_decide.mpr ⟨fun h => by have := V.int.inj h; omega, fun h => by rw [h]⟩
theorem ok_next_node (T : Tn K mg C N) (F : FD K "next_node" "Network.next_node" s_Network_next_node [] f fd) : FnG P w K mg base CX0 1 f fd ["self", "node", "number"] (spNx N) := by
  refine ok0 F sc_Network_next_node (fun vs H Q E h => ?_) (fun cdv A outer s H vs Q E hr h => ?_)
  · obtain ⟨p, z, es, fl, n, u, i, rfl, _⟩ := h
    rfl
  · obtain ⟨p, z, es, fl, n, u, i, rfl, hz, hi, q⟩ := h
    refine ⟨_, (pss_cons (ps_asg (pe_ix ix_list (pe_fld (pv 0) rfl) (pv 2) (fun _ _ => rfl)) (pg_tup rfl (pgs_cons (pg_name (i := 3) sc_Network_next_node.nd rfl (by first | exact Or.inl rfl | exact Or.inr rfl)) (pgs_cons (pg_name (i := 4) sc_Network_next_node.nd rfl (by first | exact Or.inl rfl | exact Or.inr rfl)) (pgs_cons (pg_name (i := 5) sc_Network_next_node.nd rfl (by first | exact Or.inl rfl | exact Or.inr rfl)) pgs_nil)))))
      (pss_cons (ps_if (pt_cmpR op_eq (pv 1) (pv 3) (nomark _)) (pss_one (ps_ret (pe_ifExp (pt_cmpR op_lt (pe_ix ix_list (pe_fld (pv 0) rfl) (pv 2) (fun _ _ => rfl)) (pv 5) (nomark _)) (pv 4) pe_non))) pss_nil)
      (pss_one (ps_ret (pe_ifExp (pt_cmpR op_gt (pe_ix ix_list (pe_fld (pv 0) rfl) (pv 2) (fun _ _ => rfl)) pe_int (nomark _)) (pv 3) pe_non))))), ?_⟩
    obtain ⟨vs, hea, ed⟩ := hz.ev
    obtain ⟨t, et, ht⟩ := ed.get hi
    have ef : atI (fl.map V.int) (i : Int) = some (.int (flo fl i)) := atI_nat (by rw [List.getElem?_map, flo_at (by rw [hz.ll]; exact hi)]; rfl)
    refine ⟨_, rfl, p, N, z.dx, _, _, rfl, hz.h, T.cN, T.e1, hz.f.e, _, rfl, z.ea, _, _, _, rfl, rfl, SqL.of hea, atI_nat et, ?_⟩
    refine ⟨t, _, rfl, SqT.of ht, rfl, _, _, rfl, _, _, rfl, _, _, rfl, rfl, ?_⟩
    unfold nxt at q
    refine ⟨_, rfl, _, rfl, rfl, _, rfl, ?_⟩
    rw [dec_nat]
    refine iteB (fun c => ?_) (fun c => ?_)
    · rw [if_pos (of_decide_eq_true c)] at q
      refine ⟨_, rfl, p, N, z.dx, _, _, rfl, hz.h, T.cN, T.e2, hz.f.f, _, rfl, z.fa, _, _, _, rfl, rfl, SqL.of hz.hf, ef, _, rfl, _, _, rfl, rfl, ?_⟩
      refine ⟨_, rfl, iteB (fun d => ?_) (fun d => ?_)⟩
      · rw [if_pos (of_decide_eq_true d)] at q
        exact ⟨_, rfl, q⟩
      · rw [if_neg (of_decide_eq_false d)] at q
        exact q
    · rw [if_neg (of_decide_eq_false c)] at q
      refine ⟨_, rfl, p, N, z.dx, _, _, rfl, hz.h, T.cN, T.e2, hz.f.f, _, rfl, z.fa, _, _, _, rfl, rfl, SqL.of hz.hf, ef, _, _, rfl, rfl, ?_⟩
      refine ⟨_, rfl, iteB (fun d => ?_) (fun d => ?_)⟩
      · rw [if_pos (of_decide_eq_true d)] at q
        exact ⟨_, rfl, q⟩
      · rw [if_neg (of_decide_eq_false d)] at q
        exact q
end
end K63

set_option Elab.async false
set_option linter.all false
set_option maxRecDepth 100000
set_option maxHeartbeats 2000000
/-! N63c: what is reached. -/
namespace K63
open PySem PySem.Spec PyProof.Rows L2 LL ST
abbrev s_Network_reached : Stmt := inClass (top 5) 3
abbrev n_Network_reached : List Str := ["self", "found", "waiting", "at", "node", "number", "other"]
theorem sc_Network_reached : FnScope n_Network_reached ["self"] (defScope s_Network_reached) := ⟨rfl, rfl, rfl, by decide +kernel, rfl, by decide +kernel, by decide +kernel⟩
abbrev s_Network_push : Stmt := inClass (top 5) 4
abbrev n_Network_push : List Str := ["self", "found", "node", "before", "number"]
theorem sc_Network_push : FnScope n_Network_push ["self", "found"] (defScope s_Network_push) := ⟨rfl, rfl, rfl, by decide +kernel, rfl, by decide +kernel, by decide +kernel⟩
abbrev s_Network_fill : Stmt := inClass (top 5) 5
abbrev n_Network_fill : List Str := ["self", "found"]
theorem sc_Network_fill : FnScope n_Network_fill ["self"] (defScope s_Network_fill) := ⟨rfl, rfl, rfl, by decide +kernel, rfl, by decide +kernel, by decide +kernel⟩
theorem val_some {kvs : List (Key × V)} {k : Key} : (valV kvs k).isSome = true ↔ k ∈ kvs.map (·.1) := by
  constructor
  · intro h
    refine Classical.byContradiction fun z => ?_
    rw [valV_none z] at h
    cases h
  · intro h
    obtain ⟨kv, hkv, e⟩ := List.mem_map.mp h
    unfold valV
    rw [Option.isSome_map, List.find?_isSome]
    exact ⟨kv, hkv, decide_eq_true e⟩
theorem put_new {kvs : List (Key × V)} {k : Key} {v : V} (h : k ∉ kvs.map (·.1)) : putK kvs k v = kvs ++ [(k, v)] := by
  unfold putK
  rw [if_neg]
  intro z
  obtain ⟨kv, hkv, e⟩ := List.any_eq_true.mp z
  exact h (List.mem_map.mpr ⟨kv, hkv, of_decide_eq_true e⟩)
abbrev kN (v : Nat) : Key := Sum.inl (v : Int)
theorem kN_inj {a b : Nat} (h : kN a = kN b) : a = b := by
  have := Sum.inl.inj h
  omega
theorem kN_mem {ws : List Nat} {v : Nat} : kN v ∈ ws.map kN ↔ v ∈ ws := by
  rw [List.mem_map]
  exact ⟨fun ⟨a, ha, e⟩ => kN_inj e ▸ ha, fun h => ⟨v, h, rfl⟩⟩
/-- the dict of what is reached -/
structure FdV (H : Hp) (kvs : List (Key × V)) (G : Net) (f : Nat → Int) (ws : List Nat) : Prop where
  ks : kvs.map (·.1) = ws.map kN
  par : ∀ v ∈ ws, v ≠ 0 → ∃ t u i, valV kvs (kN v) = some (.ref t) ∧ H t = some (.tup [.int (u : Nat), .int (i : Nat)]) ∧ Par G f ws v u i
theorem FdV.same {H H' : Hp} {kvs : List (Key × V)} {G : Net} {f : Nat → Int} {ws : List Nat} (h : FdV H kvs G f ws) (s : Same H H') : FdV H' kvs G f ws := ⟨h.ks, fun v hv h0 => let ⟨t, u, i, a, b, c⟩ := h.par v hv h0; ⟨t, u, i, a, s _ _ b, c⟩⟩
theorem FdV.tk {H H' : Hp} {kvs : List (Key × V)} {G : Net} {f : Nat → Int} {ws : List Nat} (h : FdV H kvs G f ws) (s : Tk H H') : FdV H' kvs G f ws := ⟨h.ks, fun v hv h0 => let ⟨t, u, i, a, b, c⟩ := h.par v hv h0; ⟨t, u, i, a, s _ _ b, c⟩⟩
theorem FdV.has {H : Hp} {kvs : List (Key × V)} {G : Net} {f : Nat → Int} {ws : List Nat} (h : FdV H kvs G f ws) (v : Nat) : (valV kvs (kN v)).isSome = decide (v ∈ ws) := by
  rw [Bool.eq_iff_iff, val_some, h.ks, decide_eq_true_iff]
  exact kN_mem
theorem FdV.len {H : Hp} {kvs : List (Key × V)} {G : Net} {f : Nat → Int} {ws : List Nat} (h : FdV H kvs G f ws) : kvs.length = ws.length := by
  have := congrArg List.length h.ks
  rwa [List.length_map, List.length_map] at this
theorem FdV.snoc {H : Hp} {kvs : List (Key × V)} {G : Net} {f : Nat → Int} {ws : List Nat} (h : FdV H kvs G f ws) {v u i : Nat} {t : Addr} (hu : u ∈ ws) (hv : v ∉ ws) (ht : H t = some (.tup [.int (u : Nat), .int (i : Nat)])) (r : Res G f u i v) : FdV H (putK kvs (kN v) (.ref t)) G f (ws ++ [v]) := by
  refine ⟨?_, fun x hx h0 => ?_⟩
  · rw [put_new (by rw [h.ks]; exact fun z => hv (kN_mem.mp z)), List.map_append, List.map_append, h.ks]
    rfl
  · rw [valV_put]
    by_cases c : x = v
    · subst c
      rw [if_pos rfl]
      exact ⟨t, u, i, rfl, ht, .new hu hv r⟩
    · rw [if_neg fun z => c (kN_inj z)]
      have hx' : x ∈ ws := (List.mem_append.mp hx).resolve_right fun z => c (List.mem_singleton.mp z)
      obtain ⟨t', u', i', a, b, p⟩ := h.par x hx' h0
      exact ⟨t', u', i', a, b, p.snoc hx'⟩
/-- all that is reached, at d -/
def FdAt (H : Hp) (d : Addr) (G : Net) (f : Nat → Int) (ws : List Nat) : Prop := ∃ kvs, H d = some (.dK kvs) ∧ FdV H kvs G f ws
section
variable {P : Program} {w : World} {K : PySem.W.Frag} {mg : Str → Option Value} {base : Heap} {C N : Addr} {f : Addr} {fd : FuncData}
def spRch (N : Addr) : Sp := fun vs H Q _ => ∃ (p : Addr) (z : Na) (es : List Ed) (fl : List Int) (n : Nat), vs = [.ref p] ∧ NtW N H p z es fl n ∧ NetOk (netE es n) ∧ n ≤ 90000 ∧
  ∀ H' d ws, Same H H' → H d = none → FdAt H' d (netE es n) (flo fl) ws → Ws n ws → Clos (netE es n) (flo fl) ws ws.length → Q (.ref d) H'
theorem ok_reached (T : Tn K mg C N) (N_next_node : Mth P w K mg base CX0 1 N "next_node" [] (spNx N)) (F : FD K "reached" "Network.reached" s_Network_reached [] f fd) : FnG P w K mg base CX0 2 f fd ["self"] (spRch N) := by
  refine ok0 F sc_Network_reached (fun vs H Q E h => ?_) (fun cdv A outer s H vs Q E hr h => ?_)
  · obtain ⟨p, z, es, fl, n, rfl, _⟩ := h
    rfl
  · obtain ⟨p, z, es, fl, n, rfl, hz, ok, ln, q⟩ := h
    refine ⟨_, (pss_cons (ps_set (i := 1) sc_Network_reached.nd rfl (by first | exact Or.inl rfl | exact Or.inr rfl) (pe_disp (pps_cons (pe_gI T.g_SOURCE) pe_non pps_nil) rfl rfl (fun z => by cases z) (by decide)))
      (pss_cons (ps_set (i := 2) sc_Network_reached.nd rfl (by first | exact Or.inl rfl | exact Or.inr rfl) (pe_lst (pa_cons (pe_gI T.g_SOURCE) pa_nil)))
      (pss_cons (ps_set (i := 3) sc_Network_reached.nd rfl (by first | exact Or.inl rfl | exact Or.inr rfl) pe_int)
      (pss_cons (ps_while PassesOwn.never (pt_cmpR op_lt (pv 3) (pe_callB call_len_seq (by rfl) T.n_len (by decide +kernel) (pa_cons (pv 2) pa_nil)) (nomark _)) (pss_cons (ps_set (i := 4) sc_Network_reached.nd rfl (by first | exact Or.inl rfl | exact Or.inr rfl) (pe_ix ix_list (pv 2) (pv 3) (fun _ _ => rfl)))
      (pss_cons (ps_for PassesOwn.never rfl (pi_list (pe_ix ix_list (pe_fld (pv 0) rfl) (pv 4) (fun _ _ => rfl))) (pg_name (i := 5) sc_Network_reached.nd rfl (by first | exact Or.inl rfl | exact Or.inr rfl)) (pss_cons (ps_set (i := 6) sc_Network_reached.nd rfl (by first | exact Or.inl rfl | exact Or.inr rfl) (pe_mt N_next_node (hr.mono (by decide)) pass0 (pv 0) (pa_cons (pv 4) (pa_cons (pv 5) pa_nil))))
      (pss_one (ps_if (PW.pt (pw_and (pt_cmpR op_notN (pv 6) pe_non (nomark _)) (pw_and1 (pt_cmp (pc_dnotin (un1 hr.r.units) (pv 6) (pv 1)) rfl)))) (pss_cons (ps_dput (un1 hr.r.units) (pv 1) (pv 6) (pe_tup (pa_cons (pv 4) (pa_cons (pv 5) pa_nil))) rfl)
      (pss_one (ps_expr (pe_bm PySem.F.plainAttrs_list PySem.F.slot_list_append PySem.F.type_list_append mt_append (pv 2) (pa_cons (pv 6) pa_nil))))) pss_nil))))
      (pss_one (ps_aug (i := 3) sc_Network_reached.nd rfl (by first | exact Or.inl rfl | exact Or.inr rfl) pe_int ip_add)))))
      (pss_one (ps_ret (pv 1))))))), ?_⟩
    have n2 := ok.n2
    have n2 : 2 ≤ n := n2
    refine fun d nd => ⟨upd_same, [(kN 0, .non)], rfl, by show 1 ≤ 15; decide, ?_⟩
    refine nm_of ?_
    dsimp only
    obtain ⟨G1, e1⟩ : ∃ G, G = upd H d (.dK [(kN 0, .non)]) := ⟨_, rfl⟩
    rw [upd_upd, show mergeK ([] : List (Key × V)) [(kN 0, V.non)] = [(kN 0, V.non)] from rfl, ← e1]
    have s1 : Same H G1 := by rw [e1]; exact same_upd nd
    have hd1 : G1 d = some (.dK [(kN 0, .non)]) := by rw [e1, upd_same]
    refine ⟨(by show 1 ≤ sizeLine; decide), fun wa nwa => ?_⟩
    obtain ⟨G2, e2, s2, hwa⟩ := mkO nwa (.lst [.int 0])
    rw [e2]
    clear e2
    refine nm_of ?_
    dsimp only
    refine nm_of ?_
    dsimp only
    obtain ⟨G, eG⟩ : ∃ G, G = netE es n := ⟨_, rfl⟩
    rw [← eG] at ok q
    have GN : G.N = n := by rw [eG]; rfl
    refine while_by (fun σ H' => Same H H' ∧ ∃ kvs ws, H' d = some (.dK kvs) ∧ FdV H' kvs G (flo fl) ws ∧ H' wa = some (.lst (nV ws)) ∧ Ws n ws ∧ ∃ a : Nat, a ≤ ws.length ∧ Clos G (flo fl) ws a ∧ ∃ u4 u5 u6, σ = [some (.ref p), some (.ref d), some (.ref wa), some (.int (a : Nat)), u4, u5, u6])
      (fun σ _ => match σ with | _ :: _ :: _ :: some (.int a) :: _ => n - a.toNat | _ => 0) ?_ ?_ ?_
    · refine ⟨s1.trans s2, [(kN 0, .non)], [0], s2 _ _ hd1, ⟨rfl, fun v hv h0 => absurd (List.mem_singleton.mp hv) h0⟩, hwa, .start (by omega), 0, Nat.zero_le _, fun j hj => absurd hj (Nat.not_lt_zero _), _, _, _, rfl⟩
    · rintro σ H3 ⟨s3, kvs, ws, hd3, fv, hw3, wz, a, la, cl, u4, u5, u6, rfl⟩
      refine ⟨_, rfl, _, rfl, wa, _, rfl, .inl (SqL.of hw3), _, _, rfl, rfl, _, rfl, iteB (fun c => ?_) (fun c => ?_)⟩
      · have c := of_decide_eq_true c
        rw [List.length_map] at c
        have al : a < ws.length := by omega
        obtain ⟨u, eu⟩ : ∃ u, ws[a]? = some u := ⟨_, List.getElem?_eq_getElem al⟩
        have mu := List.mem_of_getElem? eu
        have un := wz.lt u mu
        have hz3 := hz.same s3
        obtain ⟨ga, ega⟩ : ∃ x, z.ls[u]? = some x := ⟨_, List.getElem?_eq_getElem (by rw [hz.ln]; exact un)⟩
        refine ⟨_, rfl, _, rfl, wa, _, _, _, rfl, rfl, SqL.of hw3, atI_nat (by rw [List.getElem?_map, eu]; rfl), ?_⟩
        refine nm_of ?_
        dsimp only
        refine ⟨_, rfl, p, N, z.dx, _, _, rfl, hz3.h, T.cN, T.e3, hz.f.a, _, rfl, z.aa, _, _, _, rfl, rfl, SqL.of hz3.ha, atI_nat (by rw [List.getElem?_map, ega]; rfl), ga, rfl, ⟨_, SqL.of (hz3.la _ _ ega)⟩, ?_⟩
        refine for_it (walk_list (K := K) (a := ga) (xs := nV (adj es u))) (fun j σ H' => Same H H' ∧ (∃ kvs ws', H' d = some (.dK kvs) ∧ FdV H' kvs G (flo fl) ws' ∧ H' wa = some (.lst (nV ws')) ∧ Ws n ws' ∧ a < ws'.length ∧ ws'[a]? = some u ∧ Clos G (flo fl) ws' a ∧ ∀ y, y < j → ∀ i, (adj es u)[y]? = some i → ∀ v, Res G (flo fl) u i v → v ∈ ws') ∧ ∃ u5 u6, σ = [some (.ref p), some (.ref d), some (.ref wa), some (.int (a : Nat)), some (.int (u : Nat)), u5, u6])
          ⟨s3, ⟨kvs, ws, hd3, fv, hw3, wz, al, eu, cl, fun y hy => absurd hy (Nat.not_lt_zero _)⟩, _, _, rfl⟩ (fun j σ H' _ h => SqL.of ((hz.same h.1).la _ _ ega)) ?_ ?_
        · rintro j x σ H5 H4 hj ⟨s4, ⟨kvs4, ws4, hd4, fv4, hw4, wz4, al4, eu4, cl4, dn4⟩, v5, v6, rfl⟩ ⟨rfl, hx⟩
          rw [List.getElem?_map] at hx
          obtain ⟨i, hi, rfl⟩ := Option.map_eq_some_iff.mp hx
          have mi := List.mem_of_getElem? hi
          have hz4 := hz.same s4
          refine nm_of ?_
          dsimp only
          refine ⟨_, rfl, p, z.dx, z.fs, rfl, hz4.h, hz.f.no _ (by decide +kernel) (by decide +kernel) (by decide +kernel), _, rfl, _, rfl, p, z, es, fl, n, u, i, rfl, hz4, (mem_adj.mp mi).1, ?_⟩
          refine nm_of ?_
          dsimp only
          have nr : ∀ v, nxt es fl u i = some v ↔ Res G (flo fl) u i v := fun v => by rw [eG]; exact nxt_res mi
          cases en : nxt es fl u i with
          | none =>
            refine ⟨_, rfl, rfl, _, rfl, iteN (by decide +kernel) ⟨s4, ⟨kvs4, ws4, hd4, fv4, hw4, wz4, al4, eu4, cl4, fun y hy i' hi' v r => ?_⟩, _, _, rfl⟩⟩
            by_cases cy : y = j
            · subst cy
              rw [hi] at hi'
              cases hi'
              rw [(nr v).mpr r] at en
              cases en
            · exact dn4 y (by omega) i' hi' v r
          | some v =>
            have rv := (nr v).mp en
            refine ⟨_, rfl, rfl, _, rfl, iteY (by rw [decide_eq_false (fun z => nomatch z)]; rfl) ?_⟩
            refine ⟨_, rfl, _, rfl, d, _, rfl, DGet.k (k := kN v) hd4, ?_⟩
            rw [fv4.has v]
            refine ⟨_, rfl, ?_⟩
            refine iteB (fun cn => ?_) (fun cn => ?_)
            · have hv : v ∉ ws4 := by
                intro z
                rw [decide_eq_true z] at cn
                cases cn
              refine ⟨_, rfl, _, rfl, (by show 2 ≤ sizeLine; decide), fun t nt => ?_⟩
              obtain ⟨G6, e6, s6, ht⟩ := mkO nt (.tup [.int (u : Nat), .int (i : Nat)])
              rw [e6]
              have hd6 := s6 _ _ hd4
              have hw6 := s6 _ _ hw4
              have vl : v < n := by have := res_lt ok rv; rw [GN] at this; exact this
              have kl : kvs4.length < sizeLine := lt5 (by rw [fv4.len]; have := wz4.len; omega)
              have ndw : d ≠ wa := fun z => by rw [z, hw4] at hd4; cases hd4
              refine ⟨_, rfl, _, rfl, d, _, rfl, DPut.k (k := kN v) hd6 kl, ?_⟩
              have hw7 : (upd G6 d (.dK (putK kvs4 (kN v) (.ref t)))) wa = some (.lst (nV ws4)) := by rw [upd_ne ndw.symm]; exact hw6
              refine ⟨_, rfl, .inl ⟨rfl, _, SqL.of hw7⟩, _, rfl, wa, _, _, rfl, rfl, hw7, lt5 (by rw [List.length_map]; have := wz4.len; omega), ?_⟩
              rw [show nV ws4 ++ [nxV (some v)] = nV (ws4 ++ [v]) from nV_snoc ws4 v]
              have s7 : Same H (upd (upd G6 d (.dK (putK kvs4 (kN v) (.ref t)))) wa (.lst (nV (ws4 ++ [v])))) := by
                refine own_same (own_same (s4.trans s6) nd) (s1.free nwa)
              have tk7 : Tk G6 (upd (upd G6 d (.dK (putK kvs4 (kN v) (.ref t)))) wa (.lst (nV (ws4 ++ [v])))) := by
                refine Tk.trans (fun b xs e => ?_) (tk_upd hw7)
                rw [upd_ne fun z => by rw [z, hd6] at e; cases e]
                exact e
              refine ⟨s7, ⟨_, ws4 ++ [v], ?_, ((fv4.tk (Tk.of s6)).snoc (List.mem_of_getElem? eu4) hv ht rv).tk tk7, upd_same, wz4.snoc hv vl, ?_, ?_, cl4.snoc (by omega), fun y hy i' hi' v' r => ?_⟩, _, _, rfl⟩
              · rw [upd_ne ndw, upd_same]
              · rw [List.length_append]
                omega
              · rw [List.getElem?_append_left al4]
                exact eu4
              · by_cases cy : y = j
                · subst cy
                  rw [hi] at hi'
                  cases hi'
                  have := (nr v').mpr r
                  rw [en] at this
                  cases this
                  exact List.mem_append_right _ (List.mem_singleton.mpr rfl)
                · exact List.mem_append_left _ (dn4 y (by omega) i' hi' v' r)
            · have hv : v ∈ ws4 := by
                by_cases z : v ∈ ws4
                · exact z
                · rw [decide_eq_false z] at cn
                  cases cn
              refine ⟨s4, ⟨kvs4, ws4, hd4, fv4, hw4, wz4, al4, eu4, cl4, fun y hy i' hi' v' r => ?_⟩, _, _, rfl⟩
              by_cases cy : y = j
              · subst cy
                rw [hi] at hi'
                cases hi'
                have := (nr v').mpr r
                rw [en] at this
                cases this
                exact hv
              · exact dn4 y (by omega) i' hi' v' r
        · rintro σ H4 ⟨s4, ⟨kvs4, ws4, hd4, fv4, hw4, wz4, al4, eu4, cl4, dn4⟩, v5, v6, rfl⟩
          refine ⟨_, rfl, _, _, rfl, rfl, ⟨s4, kvs4, ws4, hd4, fv4, hw4, wz4, a + 1, al4, cl4.next eu4 (fun i v r => ?_), _, _, _, rfl⟩, ?_⟩
          · have mi : i ∈ adj es u := by
              rw [eG] at r
              exact res_adj r
            obtain ⟨y, hy⟩ := List.mem_iff_getElem?.mp mi
            have yl := (List.getElem?_eq_some_iff.mp hy).1
            exact dn4 y (by rw [List.length_map]; exact yl) i hy v r
          · have := wz4.len
            show n - ((a : Int) + 1).toNat < n - (a : Int).toNat
            omega
      · have c := of_decide_eq_false c
        rw [List.length_map] at c
        have ea : a = ws.length := by omega
        rw [ea] at cl
        exact ⟨_, rfl, q H3 d ws s3 nd ⟨kvs, hd3, fv⟩ wz cl⟩
    · rintro σ H' Q Q' hq ⟨v1, a1, v2, a2, p1, ys, a3, a4, i1, j1, a5, a6, b1, a7, h⟩
      exact ⟨v1, a1, v2, a2, p1, ys, a3, a4, i1, j1, a5, a6, b1, a7, hq _ _ h⟩
end
end K63

set_option Elab.async false
set_option linter.all false
set_option maxRecDepth 100000
set_option maxHeartbeats 2000000
/-! N63d: a unit more, the greatest flow. -/
namespace K63
open PySem PySem.Spec PyProof.Rows L2 LL ST
theorem ixN_nat {n j : Nat} (h : j < n) : ixN n (j : Int) = some j := by
  unfold ixN
  rw [if_pos (by omega), if_pos (by omega)]
  simp
theorem NtW.flow {N : Addr} {H : Hp} {p : Addr} {z : Na} {es : List Ed} {fl gl : List Int} {n : Nat} (h : NtW N H p z es fl n) (l : gl.length = es.length) : NtW N (upd H z.fa (.lst (gl.map V.int))) p z es gl n := by
  have np : p ≠ z.fa := fun c => by
    have := h.h
    rw [c, h.hf] at this
    cases this
  refine ⟨by rw [upd_ne np]; exact h.h, h.f, let ⟨vs, a, b⟩ := h.ev; ⟨vs, by rw [upd_ne h.n1]; exact a, b.tk (tk_upd h.hf)⟩, upd_same, l, by rw [upd_ne h.n3.symm]; exact h.ha, h.ln, fun v a e => ?_, h.nd, h.n1, h.n2, h.n3, h.n4, h.n5, h.n6⟩
  rw [upd_ne fun c => h.n5 (by rw [← c]; exact List.mem_of_getElem? e)]
  exact h.la v a e
section
variable {P : Program} {w : World} {K : PySem.W.Frag} {mg : Str → Option Value} {base : Heap} {C N : Addr} {f : Addr} {fd : FuncData}
def spPush (N : Addr) : Sp := fun vs H Q _ => ∃ (p d : Addr) (z : Na) (es : List Ed) (fl : List Int) (n : Nat) (ws : List Nat), vs = [.ref p, .ref d] ∧ NtW N H p z es fl n ∧ NetOk (netE es n) ∧ Flow (netE es n) (flo fl) ∧ FdAt H d (netE es n) (flo fl) ws ∧ 1 ∈ ws ∧
  ∀ H' gl, But z.fa H H' → NtW N H' p z es gl n → Flow (netE es n) (flo gl) → exc (netE es n) (flo gl) 0 = exc (netE es n) (flo fl) 0 + 1 → (∀ i, i < es.length → flo gl i ≤ flo fl i + 1) → Q .non H'
theorem ok_push (T : Tn K mg C N) (F : FD K "push" "Network.push" s_Network_push [] f fd) : FnG P w K mg base CX0 1 f fd ["self", "found"] (spPush N) := by
  refine ok0 F sc_Network_push (fun vs H Q E h => ?_) (fun cdv A outer s H vs Q E hr h => ?_)
  · obtain ⟨p, d, z, es, fl, n, ws, rfl, _⟩ := h
    rfl
  · obtain ⟨p, d, z, es, fl, n, ws, rfl, hz, ok, Fl, ⟨kvs, hd, fv⟩, m1, q⟩ := h
    refine ⟨_, (pss_cons (ps_set (i := 2) sc_Network_push.nd rfl (by first | exact Or.inl rfl | exact Or.inr rfl) (pe_gI T.g_SINK))
      (pss_one (ps_while PassesOwn.never (pt_cmpR op_ne (pv 2) (pe_gI T.g_SOURCE) (nomark _)) (pss_cons (ps_asg (pe_dget (un1 hr.r.units) (pv 1) (pv 2) (fun _ _ => rfl)) (pg_tup rfl (pgs_cons (pg_name (i := 3) sc_Network_push.nd rfl (by first | exact Or.inl rfl | exact Or.inr rfl)) (pgs_cons (pg_name (i := 4) sc_Network_push.nd rfl (by first | exact Or.inl rfl | exact Or.inr rfl)) pgs_nil))))
      (pss_cons (ps_augS (pe_fld (pv 0) rfl) (pv 4) get_list (pe_ifExp (pt_cmpR op_eq (pe_ix ix_tup (pe_ix ix_list (pe_fld (pv 0) rfl) (pv 4) (fun _ _ => rfl)) pe_int (fun _ _ => rfl)) (pv 3) (nomark _)) pe_int (pe_un un_neg pe_int)) ip_add set_list)
      (pss_one (ps_set (i := 2) sc_Network_push.nd rfl (by first | exact Or.inl rfl | exact Or.inr rfl) (pv 3)))))))), ?_⟩
    obtain ⟨G, eG⟩ : ∃ G, G = netE es n := ⟨_, rfl⟩
    rw [← eG] at ok Fl fv q
    have Gm : G.m = es.length := by rw [eG]; rfl
    have ndf : d ≠ z.fa := fun c => by
      have := hz.hf
      rw [← c, hd] at this
      cases this
    refine nm_of ?_
    dsimp only
    refine ⟨fun m σ H' => But z.fa H H' ∧ ∃ gl v, NtW N H' p z es gl n ∧ Way G (flo fl) (fun x => ws.idxOf x) v (flo gl) ∧ v ∈ ws ∧ m = ws.idxOf v ∧ ∃ u3 u4, σ = [some (.ref p), some (.ref d), some (.int (v : Nat)), u3, u4],
      ⟨_, .refl, fl, 1, hz, Way.start Fl _, m1, rfl, _, _, rfl⟩, ?_⟩
    rintro m σ H3 ⟨B3, gl, v, hz3, W, mv, rfl, u3, u4, rfl⟩
    refine ⟨_, rfl, rfl, _, rfl, ?_⟩
    by_cases cv : v = 0
    · subst cv
      refine iteN (by decide +kernel) ?_
      obtain ⟨F2, x2⟩ := W.flow Fl
      refine q H3 gl B3 hz3 F2 x2 fun i hi => W.one i (by rw [Gm]; exact hi)
    · refine iteY (by rw [dec_ne (by omega)]; rfl) ?_
      obtain ⟨t, u, i, ev, ht, hu, hk, r⟩ := fv.par v mv cv
      have il : i < es.length := by rw [← Gm]; exact r.1
      have hd3 := B3 _ _ hd ndf
      have ht3 := B3 _ _ ht fun c => by
        have := hz.hf
        rw [← c, ht] at this
        cases this
      refine ⟨fun σ' H' => ∃ m', m' < ws.idxOf v ∧ (But z.fa H H' ∧ ∃ gl v, NtW N H' p z es gl n ∧ Way G (flo fl) (fun x => ws.idxOf x) v (flo gl) ∧ v ∈ ws ∧ m' = ws.idxOf v ∧ ∃ u3 u4, σ' = [some (.ref p), some (.ref d), some (.int (v : Nat)), u3, u4]), fun _ _ h => h, ?_⟩
      refine ⟨_, rfl, _, rfl, d, _, rfl, .inl ⟨kvs, kN v, .inl hd3, rfl, ev.symm⟩, t, _, rfl, SqT.of ht3, rfl, _, _, rfl, _, _, rfl, rfl, ?_⟩
      obtain ⟨vs, hea, ed⟩ := hz3.ev
      obtain ⟨te, ete, hte⟩ := ed.get il
      have gll : gl.length = es.length := hz3.ll
      have ig : i < gl.length := by rw [gll]; exact il
      have eg : (gl.map V.int)[i]? = some (.int (flo gl i)) := by rw [List.getElem?_map, flo_at ig]; rfl
      refine ⟨_, rfl, p, N, z.dx, _, _, rfl, hz3.h, T.cN, T.e2, hz.f.f, _, rfl, z.fa, _, i, _, rfl, rfl, SqL.of hz3.hf, eg, ?_⟩
      refine ex_cut (fun x H' => x = .int (sgn G u i) ∧ H' = H3) (fun R hR => ?_) ?_
      · refine ⟨_, rfl, p, N, z.dx, _, _, rfl, hz3.h, T.cN, T.e1, hz.f.e, _, rfl, z.ea, _, _, _, rfl, rfl, SqL.of hea, atI_nat ete, te, _, _, _, rfl, rfl, SqT.of hte, atI_nat (j := 0) rfl, _, rfl, rfl, _, rfl, ?_⟩
        rw [dec_nat]
        have es' : sgn G u i = if (edg es i).1 = u then 1 else -1 := by rw [eG]; rfl
        refine iteB (fun c => ?_) (fun c => ?_)
        · rw [if_pos (of_decide_eq_true c)] at es'
          exact hR _ _ ⟨by rw [es'], rfl⟩
        · rw [if_neg (of_decide_eq_false c)] at es'
          exact ⟨_, rfl, hR _ _ ⟨by rw [es'], rfl⟩⟩
      · rintro x H4 ⟨rfl, rfl⟩
        refine ⟨_, _, rfl, rfl, z.fa, _, _, i, rfl, rfl, hz3.hf, ixN_nat (by rw [List.length_map]; exact ig), ?_⟩
        rw [← List.map_set]
        have hs := flo_set ig (sgn G u i)
        refine ⟨_, rfl, ?_⟩
        refine ⟨ws.idxOf u, hk, B3.trans but_upd, _, u, hz3.flow (by rw [List.length_set]; exact gll), ?_, hu, rfl, _, _, rfl⟩
        rw [hs]
        exact W.step ok Fl r hk
/-! ### fill -/
def spFill (N : Addr) : Sp := fun vs H Q _ => ∃ (p : Addr) (z : Na) (es : List Ed) (fl : List Int) (n B : Nat), vs = [.ref p] ∧ NtW N H p z es fl n ∧ NetOk (netE es n) ∧ Flow (netE es n) (flo fl) ∧ (∀ i, i < es.length → flo fl i ≤ exc (netE es n) (flo fl) 0) ∧ (∀ g, Flow (netE es n) g → exc (netE es n) g 0 ≤ (B : Int)) ∧ n ≤ 90000 ∧
  ∀ H' d gl ws, But z.fa H H' → H d = none → NtW N H' p z es gl n → Flow (netE es n) (flo gl) → (∀ i, i < es.length → flo gl i ≤ exc (netE es n) (flo gl) 0) → FdAt H' d (netE es n) (flo gl) ws → Ws n ws → Clos (netE es n) (flo gl) ws ws.length → 1 ∉ ws → Q (.ref d) H'
theorem ok_fill (T : Tn K mg C N) (N_reached : Mth P w K mg base CX0 2 N "reached" [] (spRch N)) (N_push : Mth P w K mg base CX0 1 N "push" [] (spPush N)) (F : FD K "fill" "Network.fill" s_Network_fill [] f fd) : FnG P w K mg base CX0 3 f fd ["self"] (spFill N) := by
  refine ok0 F sc_Network_fill (fun vs H Q E h => ?_) (fun cdv A outer s H vs Q E hr h => ?_)
  · obtain ⟨p, z, es, fl, n, B, rfl, _⟩ := h
    rfl
  · obtain ⟨p, z, es, fl, n, B, rfl, hz, ok, Fl, bd, val, ln, q⟩ := h
    refine ⟨_, (pss_cons (ps_set (i := 1) sc_Network_fill.nd rfl (by first | exact Or.inl rfl | exact Or.inr rfl) (pe_mt0 N_reached (hr.mono (by decide)) pass0 (pv 0)))
      (pss_cons (ps_while PassesOwn.never (pt_cmp (pc_din (un1 hr.r.units) (pe_gI T.g_SINK) (pv 1)) rfl) (pss_cons (ps_expr (pe_mt N_push (hr.mono (by decide)) pass0 (pv 0) (pa_cons (pv 1) pa_nil)))
      (pss_one (ps_set (i := 1) sc_Network_fill.nd rfl (by first | exact Or.inl rfl | exact Or.inr rfl) (pe_mt0 N_reached (hr.mono (by decide)) pass0 (pv 0))))))
      (pss_one (ps_ret (pv 1))))), ?_⟩
    refine ⟨_, rfl, p, z.dx, z.fs, rfl, hz.h, hz.f.no _ (by decide +kernel) (by decide +kernel) (by decide +kernel), p, z, es, fl, n, rfl, hz, ok, ln, fun H1 d1 ws1 s1 nd1 fd1 wz1 cl1 => ?_⟩
    refine nm_of ?_
    dsimp only
    have z1 := hz.same s1
    refine ⟨fun m σ H' => But z.fa H H' ∧ ∃ gl ws d, NtW N H' p z es gl n ∧ Flow (netE es n) (flo gl) ∧ (∀ i, i < es.length → flo gl i ≤ exc (netE es n) (flo gl) 0) ∧ H d = none ∧ FdAt H' d (netE es n) (flo gl) ws ∧ Ws n ws ∧ Clos (netE es n) (flo gl) ws ws.length ∧ m = ((B : Int) - exc (netE es n) (flo gl) 0).toNat ∧ σ = [some (.ref p), some (.ref d)],
      ⟨_, .of s1, fl, ws1, d1, z1, Fl, bd, nd1, fd1, wz1, cl1, rfl, rfl⟩, ?_⟩
    rintro m σ H3 ⟨B3, gl, ws, d, hz3, F3, bd3, nd3, ⟨kvs, hd3, fv⟩, wz3, cl3, rfl, rfl⟩
    refine ⟨_, rfl, d, _, rfl, DGet.k (k := kN 1) hd3, ?_⟩
    rw [fv.has 1]
    refine ⟨_, rfl, iteB (fun c => ?_) (fun c => ?_)⟩
    · have m1 := of_decide_eq_true c
      refine ⟨fun σ' H' => ∃ m', m' < ((B : Int) - exc (netE es n) (flo gl) 0).toNat ∧ (But z.fa H H' ∧ ∃ gl ws d, NtW N H' p z es gl n ∧ Flow (netE es n) (flo gl) ∧ (∀ i, i < es.length → flo gl i ≤ exc (netE es n) (flo gl) 0) ∧ H d = none ∧ FdAt H' d (netE es n) (flo gl) ws ∧ Ws n ws ∧ Clos (netE es n) (flo gl) ws ws.length ∧ m' = ((B : Int) - exc (netE es n) (flo gl) 0).toNat ∧ σ' = [some (.ref p), some (.ref d)]), fun _ _ h => h, ?_⟩
      refine ⟨_, rfl, p, z.dx, z.fs, rfl, hz3.h, hz.f.no _ (by decide +kernel) (by decide +kernel) (by decide +kernel), _, rfl, p, d, z, es, gl, n, ws, rfl, hz3, ok, F3, ⟨kvs, hd3, fv⟩, m1, fun H4 g4 B4 hz4 F4 x4 b4 => ?_⟩
      refine ⟨_, rfl, p, z.dx, z.fs, rfl, hz4.h, hz.f.no _ (by decide +kernel) (by decide +kernel) (by decide +kernel), p, z, es, g4, n, rfl, hz4, ok, ln, fun H5 d5 ws5 s5 nd5 fd5 wz5 cl5 => ?_⟩
      refine nm_of ?_
      dsimp only
      have le := val _ F4
      have B34 := B3.trans B4
      have ndf : d5 ≠ z.fa := fun c => by
        have := hz4.hf
        rw [← c, nd5] at this
        cases this
      refine ⟨((B : Int) - exc (netE es n) (flo g4) 0).toNat, by omega, B34.trans (.of s5), g4, ws5, d5, hz4.same s5, F4, fun i hi => ?_, B34.free ndf nd5, fd5, wz5, cl5, rfl, rfl⟩
      have := b4 i hi
      have := bd3 i hi
      omega
    · exact ⟨_, rfl, q H3 d gl ws B3 nd3 hz3 F3 bd3 ⟨kvs, hd3, fv⟩ wz3 cl3 (of_decide_eq_false c)⟩
end
end K63

set_option Elab.async false
set_option linter.all false
set_option maxRecDepth 100000
set_option maxHeartbeats 2000000
/-! N63e: the network of a stretch. -/
namespace K63
open PySem PySem.Spec PyProof.Rows L2 LL ST
abbrev s_spread_node : Stmt := top 6
abbrev n_spread_node : List Str := ["number"]
theorem sc_spread_node : FnScope n_spread_node ["number"] (defScope s_spread_node) := ⟨rfl, rfl, rfl, by decide +kernel, rfl, by decide +kernel, by decide +kernel⟩
abbrev s_lost_node : Stmt := top 7
abbrev n_lost_node : List Str := ["number"]
theorem sc_lost_node : FnScope n_lost_node ["number"] (defScope s_lost_node) := ⟨rfl, rfl, rfl, by decide +kernel, rfl, by decide +kernel, by decide +kernel⟩
abbrev s_connect_point : Stmt := top 8
abbrev n_connect_point : List Str := ["network", "stretch", "numbers", "point", "most", "value", "stop", "here", "operands", "operand"]
theorem sc_connect_point : FnScope n_connect_point ["network", "stretch", "numbers", "point", "most"] (defScope s_connect_point) := ⟨rfl, rfl, rfl, by decide +kernel, rfl, by decide +kernel, by decide +kernel⟩
abbrev s_network_of : Stmt := top 9
abbrev n_network_of : List Str := ["stretch", "points", "numbers", "number", "point", "network"]
theorem sc_network_of : FnScope n_network_of ["stretch", "points"] (defScope s_network_of) := ⟨rfl, rfl, rfl, by decide +kernel, rfl, by decide +kernel, by decide +kernel⟩
abbrev s_least_keeps : Stmt := top 10
abbrev n_least_keeps : List Str := ["stretch", "points", "found", "keeps", "number", "value", "stop"]
theorem sc_least_keeps : FnScope n_least_keeps ["stretch"] (defScope s_least_keeps) := ⟨rfl, rfl, rfl, by decide +kernel, rfl, by decide +kernel, by decide +kernel⟩
abbrev k2 (n k : Int) : List Key := [Sum.inl n, Sum.inl k]
theorem k2_inj {n k m j : Int} (h : k2 n k = k2 m j) : n = m ∧ k = j := by
  unfold k2 at h
  simp only [List.cons.injEq, Sum.inl.injEq, and_true] at h
  exact h
/-! ### points and their numbers -/
theorem kpo_idx {pts : List Pt} {n : Int} {k : Nat} : (kpo pts).idxOf (n, (k : Int)) = pts.idxOf (n, k) := by
  induction pts with
  | nil => rfl
  | cons q l ih =>
    unfold kpo at ih ⊢
    rw [List.map_cons, List.idxOf_cons, List.idxOf_cons, ih]
    have e : ((q.1, (q.2 : Int)) == (n, (k : Int))) = (q == (n, k)) := by
      rw [Bool.eq_iff_iff, beq_iff_eq, beq_iff_eq]
      constructor
      · intro h
        obtain ⟨a, b⟩ := Prod.mk.inj h
        exact Prod.ext a (by omega)
      · intro h
        rw [h]
    rw [e]
def NumL (kvs : List (List Key × V)) (ps : List IP) : Prop := ∀ n k : Int, valV kvs (k2 n k) = if (n, k) ∈ ps then some (.int (ps.idxOf (n, k) : Nat)) else none
theorem NumL.nil : NumL [] [] := fun n k => rfl
theorem NumL.snoc {kvs : List (List Key × V)} {ps : List IP} (h : NumL kvs ps) {n k : Int} (hn : (n, k) ∉ ps) : NumL (putK kvs (k2 n k) (.int (ps.length : Nat))) (ps ++ [(n, k)]) := fun m j => by
  rw [valV_put]
  by_cases c : k2 m j = k2 n k
  · obtain ⟨rfl, rfl⟩ := k2_inj c
    rw [if_pos c, if_pos (List.mem_append_right _ (List.mem_singleton.mpr rfl)), List.idxOf_append, if_neg hn, List.idxOf_cons_self, Nat.zero_add]
  · rw [if_neg c, h m j]
    have ne : (m, j) ≠ (n, k) := fun e => c (by rw [(Prod.mk.inj e).1, (Prod.mk.inj e).2])
    by_cases d : (m, j) ∈ ps
    · rw [if_pos d, if_pos (List.mem_append_left _ d), List.idxOf_append, if_pos d]
    · rw [if_neg d, if_neg fun z => (List.mem_append.mp z).elim d fun z => ne (List.mem_singleton.mp z)]
/-- the numbers of points -/
def NmAt (H : Hp) (d : Addr) (pts : List Pt) : Prop := ∃ kvs, H d = some (.dT kvs) ∧ NumL kvs (kpo pts)
theorem NmAt.same {H H' : Hp} {d : Addr} {pts : List Pt} (h : NmAt H d pts) (s : Same H H') : NmAt H' d pts := let ⟨kvs, a, b⟩ := h; ⟨kvs, s _ _ a, b⟩
theorem NmAt.get {H : Hp} {d t : Addr} {pts : List Pt} {n : Int} {k : Nat} (h : NmAt H d pts) (m : (n, k) ∈ pts) (ht : H t = some (.tup [.int n, .int (k : Nat)])) : DGet H d (.ref t) (some (.int (pts.idxOf (n, k) : Nat))) := by
  obtain ⟨kvs, hd, nl⟩ := h
  have e := nl n (k : Int)
  rw [if_pos (kpo_mem.mpr m), kpo_idx] at e
  rw [← e]
  exact DGet.t (k := k2 n (k : Nat)) hd ht
section
variable {P : Program} {w : World} {K : PySem.W.Frag} {mg : Str → Option Value} {base : Heap} {C N : Addr} {f : Addr} {fd : FuncData}
def spSn : Sp := fun vs H Q _ => ∃ n : Nat, vs = [.int (n : Nat)] ∧ n ≤ 90000 ∧ Q (.int ((2 + 2 * n : Nat) : Int)) H
theorem mul_ok2 {n : Nat} (h : n ≤ 90000) : CMulX 2 (n : Int) := mulx_ok (a := 2) (b := 17) (by decide) (by rw [Int.natAbs_natCast]; exact Nat.lt_of_le_of_lt h (by decide)) (by decide)
def spLn' : Sp := fun vs H Q _ => ∃ n : Nat, vs = [.int (n : Nat)] ∧ n ≤ 90000 ∧ Q (.int ((3 + 2 * n : Nat) : Int)) H
theorem ok_spread_node (T : Tn K mg C N) (F : FD K "spread_node" "spread_node" s_spread_node [] f fd) : FnG P w K mg base CX0 1 f fd ["number"] spSn := by
  refine ok0 F sc_spread_node (fun vs H Q E h => ?_) (fun cdv A outer s H vs Q E hr h => ?_)
  · obtain ⟨n, rfl, _⟩ := h
    rfl
  · obtain ⟨n, rfl, hn, q⟩ := h
    refine ⟨_, (pss_one (ps_ret (pe_op op_add pe_int (pe_op op_mulX pe_int (pv 0))))), ?_⟩
    refine ⟨_, rfl, _, _, rfl, rfl, mul_ok2 hn, _, _, rfl, rfl, ?_⟩
    have e : ((2 : Int) + 2 * (n : Int)) = ((2 + 2 * n : Nat) : Int) := by omega
    show Q (V.int (2 + 2 * (n : Int))) H
    rw [e]
    exact q
theorem ok_lost_node (T : Tn K mg C N) (F : FD K "lost_node" "lost_node" s_lost_node [] f fd) : FnG P w K mg base CX0 1 f fd ["number"] spLn' := by
  refine ok0 F sc_lost_node (fun vs H Q E h => ?_) (fun cdv A outer s H vs Q E hr h => ?_)
  · obtain ⟨n, rfl, _⟩ := h
    rfl
  · obtain ⟨n, rfl, hn, q⟩ := h
    refine ⟨_, (pss_one (ps_ret (pe_op op_add pe_int (pe_op op_mulX pe_int (pv 0))))), ?_⟩
    refine ⟨_, rfl, _, _, rfl, rfl, mul_ok2 hn, _, _, rfl, rfl, ?_⟩
    have e : ((3 : Int) + 2 * (n : Int)) = ((3 + 2 * n : Nat) : Int) := by omega
    show Q (V.int (3 + 2 * (n : Int))) H
    rw [e]
    exact q
/-! ### the edges of a point -/
abbrev NtZ (N : Addr) (H : Hp) (p : Addr) (z : Na) (es : List Ed) (n : Nat) : Prop := NtW N H p z es (List.replicate es.length 0) n
theorem ntz {H : Hp} {p : Addr} {z : Na} {es : List Ed} {e : Ed} {n : Nat} (h : NtW N H p z (es ++ [e]) (List.replicate (es.length + 1) 0) n) : NtZ N H p z (es ++ [e]) n := by
  unfold NtZ
  rw [List.length_append, List.length_singleton]
  exact h
theorem con_of {H0 H : Hp} {p : Addr} {z : Na} {es : List Ed} {n s e : Nat} {b : Int} {Q : VK} {E : XK} (hz : NtZ N H p z es n) (nw : Nw H0 z) (s0 : Same H0 H) (hs : s < n) (he : e < n) (ne : s ≠ e) (l : es.length ≤ 90000) (q : ∀ H', Same H0 H' → Tk H H' → NtZ N H' p z (es ++ [(s, e, b)]) n → Q .non H') : spCon N [.ref p, .int (s : Nat), .int (e : Nat), .int b] H Q E :=
  ⟨H0, p, z, es, n, s, e, b, rfl, hz, nw, s0, hs, he, ne, l, fun H' s' k' h => q H' s' k' (ntz h)⟩
def edO (rs : Rs) (pts : List Pt) (M : Int) (n : Int) (k : Nat) : List Ed := match rwv rs n with
  | .set _ os => os.map fun o => (lsn pts (o, k), spn pts (n, k), M)
  | _ => [(0, spn pts (n, k), M)]
theorem edP_eq (rs : Rs) (out : List Int) (pts : List Pt) (M : Int) (n : Int) (k : Nat) : edP rs out pts M (n, k) = edO rs pts M n k ++ ((if live rs out n k then [] else [(spn pts (n, k), lsn pts (n, k), 1)]) ++ ((if 0 < k ∧ (n, k - 1) ∈ pts then [(lsn pts (n, k - 1), lsn pts (n, k), M)] else []) ++ (if n ∈ ask rs k then [(lsn pts (n, k), 1, M)] else []))) := rfl
theorem edO_set {rs : Rs} {pts : List Pt} {M n m : Int} {k : Nat} {os : List Int} (h : rwv rs n = .set m os) : edO rs pts M n k = os.map fun o => (lsn pts (o, k), spn pts (n, k), M) := by
  unfold edO
  rw [h]
theorem edO_leaf {rs : Rs} {pts : List Pt} {M n m : Int} {k : Nat} (h : rwv rs n = .leaf m) : edO rs pts M n k = [(0, spn pts (n, k), M)] := by
  unfold edO
  rw [h]
def spCp (C N : Addr) : Sp := fun vs H Q _ => ∃ (H0 : Hp) (p st nd pt : Addr) (z : Na) (es : List Ed) (rs : Rs) (out : List Int) (n : Int) (k : Nat) (M : Int), vs = [.ref p, .ref st, .ref nd, .ref pt, .int M] ∧ StAt C H0 st rs out ∧ RsOk rs ∧ NtZ N H p z es (2 + 2 * (ptsA rs).length) ∧ Nw H0 z ∧ Same H0 H ∧ NmAt H0 nd (ptsA rs) ∧ H0 pt = some (.tup [.int n, .int (k : Nat)]) ∧ (n, k) ∈ ptsA rs ∧ es.length ≤ 80000 ∧
  ∀ H', Same H0 H' → NtZ N H' p z (es ++ edP rs out (ptsA rs) M (n, k)) (2 + 2 * (ptsA rs).length) → Q .non H'
theorem ok_connect_point (T : Tn K mg C N) (M_operands : Mth P w K mg base CX0 4 C "operands" [] (spOps C)) (M_asked : Mth P w K mg base CX0 4 C "asked" [] (spAsk C)) (M_is_live : Mth P w K mg base CX0 2 C "is_live" [] (spLv C)) (N_connect : Mth P w K mg base CX0 1 N "connect" [] (spCon N)) (G_spread_node : Fnc P w K mg base CX0 1 "spread_node" [] spSn) (G_lost_node : Fnc P w K mg base CX0 1 "lost_node" [] spLn')
    (F : FD K "connect_point" "connect_point" s_connect_point [] f fd) : FnG P w K mg base CX0 5 f fd ["network", "stretch", "numbers", "point", "most"] (spCp C N) := by
  refine ok0 F sc_connect_point (fun vs H Q E h => ?_) (fun cdv A outer s H vs Q E hr h => ?_)
  · obtain ⟨H0, p, st, nd, pt, z, es, rs, out, n, k, M, rfl, _⟩ := h
    rfl
  · obtain ⟨H0, p, st, nd, pt, z, es, rs, out, n, k, M, rfl, hst, ok, hz, nw, s0, hnd, hpt, mp, les, q⟩ := h
    refine ⟨_, (pss_cons (ps_asg (pv 3) (pg_tup rfl (pgs_cons (pg_name (i := 5) sc_connect_point.nd rfl (by first | exact Or.inl rfl | exact Or.inr rfl)) (pgs_cons (pg_name (i := 6) sc_connect_point.nd rfl (by first | exact Or.inl rfl | exact Or.inr rfl)) pgs_nil))))
      (pss_cons (ps_set (i := 7) sc_connect_point.nd rfl (by first | exact Or.inl rfl | exact Or.inr rfl) (pe_dget (un1 hr.r.units) (pv 2) (pv 3) (fun _ _ => rfl)))
      (pss_cons (ps_set (i := 8) sc_connect_point.nd rfl (by first | exact Or.inl rfl | exact Or.inr rfl) (pe_mt M_operands (hr.mono (by decide)) pass0 (pv 1) (pa_cons (pv 5) pa_nil)))
      (pss_cons (ps_if (pt_cmpR op_isN (pv 8) pe_non (nomark _)) (pss_one (ps_expr (pe_mt N_connect (hr.mono (by decide)) pass0 (pv 0) (pa_cons (pe_gI T.g_SOURCE) (pa_cons (pe_fn G_spread_node (hr.mono (by decide)) pass0 (pa_cons (pv 7) pa_nil)) (pa_cons (pv 4) pa_nil)))))) (pss_one (ps_for PassesOwn.never rfl (pi_tup (pv 8)) (pg_name (i := 9) sc_connect_point.nd rfl (by first | exact Or.inl rfl | exact Or.inr rfl)) (pss_one (ps_expr (pe_mt N_connect (hr.mono (by decide)) pass0 (pv 0) (pa_cons (pe_fn G_lost_node (hr.mono (by decide)) pass0 (pa_cons (pe_dget (un1 hr.r.units) (pv 2) (pe_tup (pa_cons (pv 9) (pa_cons (pv 6) pa_nil))) (fun _ _ => rfl)) pa_nil)) (pa_cons (pe_fn G_spread_node (hr.mono (by decide)) pass0 (pa_cons (pv 7) pa_nil)) (pa_cons (pv 4) pa_nil)))))))))
      (pss_cons (ps_if (pt_not (pt_val (pe_mt M_is_live (hr.mono (by decide)) pass0 (pv 1) (pa_cons (pv 5) (pa_cons (pv 6) pa_nil))))) (pss_one (ps_expr (pe_mt N_connect (hr.mono (by decide)) pass0 (pv 0) (pa_cons (pe_fn G_spread_node (hr.mono (by decide)) pass0 (pa_cons (pv 7) pa_nil)) (pa_cons (pe_fn G_lost_node (hr.mono (by decide)) pass0 (pa_cons (pv 7) pa_nil)) (pa_cons pe_int pa_nil)))))) pss_nil)
      (pss_cons (ps_if (pt_cmp (pc_din (un1 hr.r.units) (pe_tup (pa_cons (pv 5) (pa_cons (pe_op op_sub (pv 6) pe_int) pa_nil))) (pv 2)) rfl) (pss_one (ps_expr (pe_mt N_connect (hr.mono (by decide)) pass0 (pv 0) (pa_cons (pe_fn G_lost_node (hr.mono (by decide)) pass0 (pa_cons (pe_dget (un1 hr.r.units) (pv 2) (pe_tup (pa_cons (pv 5) (pa_cons (pe_op op_sub (pv 6) pe_int) pa_nil))) (fun _ _ => rfl)) pa_nil)) (pa_cons (pe_fn G_lost_node (hr.mono (by decide)) pass0 (pa_cons (pv 7) pa_nil)) (pa_cons (pv 4) pa_nil)))))) pss_nil)
      (pss_one (ps_if (pt_cmpR op_in_seq (pv 5) (pe_mt M_asked (hr.mono (by decide)) pass0 (pv 1) (pa_cons (pv 6) pa_nil)) (by rfl)) (pss_one (ps_expr (pe_mt N_connect (hr.mono (by decide)) pass0 (pv 0) (pa_cons (pe_fn G_lost_node (hr.mono (by decide)) pass0 (pa_cons (pv 7) pa_nil)) (pa_cons (pe_gI T.g_SINK) (pa_cons (pv 4) pa_nil)))))) pss_nil)))))))), ?_⟩
    obtain ⟨hk, hn⟩ := mem_pts.mp mp
    obtain ⟨hv, hp⟩ := List.mem_filter.mp hn
    obtain ⟨j, hj, hx⟩ := mem_vls.mp hv
    have n0 := (vls_ok ok (Nat.le_refl _) hv).1
    have erw := rwv_at ok hj hx
    obtain ⟨L, eL⟩ : ∃ L, L = 2 + 2 * (ptsA rs).length := ⟨_, rfl⟩
    rw [← eL] at hz q
    obtain ⟨h, eh⟩ : ∃ h, h = (ptsA rs).idxOf (n, k) := ⟨_, rfl⟩
    have hl : h < (ptsA rs).length := by rw [eh]; exact List.idxOf_lt_length_of_mem mp
    have es1 : spn (ptsA rs) (n, k) = 2 + 2 * h := by rw [eh]; rfl
    have es2 : lsn (ptsA rs) (n, k) = 3 + 2 * h := by rw [eh]; rfl
    have pl := pts_len ok
    rw [edP_eq, es1, es2] at q
    -- value, stop, here, operands
    refine ⟨_, rfl, pt, _, rfl, SqT.of (s0 _ _ hpt), rfl, _, _, rfl, _, _, rfl, rfl, ?_⟩
    refine ⟨_, rfl, _, rfl, nd, _, rfl, (hnd.same s0).get mp (s0 _ _ hpt), ?_⟩
    rw [← eh]
    refine nm_of ?_
    dsimp only
    have stm : ∀ {H'}, Same H0 H' → ∃ dx fs, H' st = some (.ins C dx fs) ∧ (∀ m : Str, m ≠ "value_places" → m ≠ "own_rows" → m ≠ "own_out" → m ≠ "stop_places" → m ≠ "need_places" → fs.lookup m = none) := fun s' => by
      obtain ⟨dx, fs, vp, ow, oo, sp, np, ls, z, hv⟩ := hst.same s'
      exact ⟨dx, fs, z.h, z.f.no⟩
    obtain ⟨dx, fs, hs1, hs2⟩ := stm s0
    refine ⟨_, rfl, st, dx, fs, rfl, hs1, hs2 _ (by decide +kernel) (by decide +kernel) (by decide +kernel) (by decide +kernel) (by decide +kernel), _, rfl, st, rs, out, n, rfl, (hst.same s0).v, n0, hv, fun j' u hj' hv' hu => ?_⟩
    obtain rfl := row_uniq ok hj' hj hv' hx
    refine nm_of ?_
    dsimp only
    -- from the operands
    obtain ⟨A1, eA1⟩ : ∃ A1, A1 = edO rs (ptsA rs) M n k := ⟨_, rfl⟩
    rw [← eA1] at q
    have lA1 : A1.length ≤ 3 := by
      have := (ok.z j' hj').opl
      cases er : rw rs j' with
      | set m os =>
        rw [er] at this erw
        rw [eA1, edO_set erw, List.length_map]
        exact this
      | leaf m =>
        rw [er] at erw
        rw [eA1, edO_leaf erw]
        show 1 ≤ 3
        omega
      | use os => rw [er] at hx; cases hx
      | stop l os => rw [er] at hx; cases hx
    refine seq_cut (fun σ' H' => (∃ u', σ' = [some (.ref p), some (.ref st), some (.ref nd), some (.ref pt), some (.int M), some (.int n), some (.int (k : Nat)), some (.int (h : Nat)), some u, u']) ∧ Same H0 H' ∧ NtZ N H' p z (es ++ A1) L) (fun Nx hN => ?_) ?_
    · cases er : rw rs j' with
      | leaf m =>
        rw [er] at hu erw
        cases (show u = .non from hu)
        rw [edO_leaf erw, es1] at eA1
        refine ⟨_, rfl, rfl, _, rfl, iteY (by decide +kernel) ?_⟩
        refine ⟨_, rfl, p, z.dx, z.fs, rfl, hz.h, hz.f.no _ (by decide +kernel) (by decide +kernel) (by decide +kernel), _, rfl, h, rfl, by omega, _, rfl, ?_⟩
        unfold tNil
        dsimp only [List.cons_append, List.nil_append, List.append_nil]
        exact con_of (s := 0) (e := 2 + 2 * h) hz nw s0 (by omega) (by omega) (by omega) (by omega) fun H' s' _ hz' => hN _ _ ⟨⟨_, rfl⟩, s', by rw [eA1]; exact hz'⟩
      | set m os =>
        rw [er] at hu erw
        obtain ⟨o, rfl, ho⟩ := (show OpT _ u os from hu)
        rw [edO_set erw, es1] at eA1
        have lo : os.length ≤ 3 := by rw [eA1, List.length_map] at lA1; exact lA1
        refine ⟨_, rfl, rfl, _, rfl, iteN (by rw [decide_eq_false (fun z => nomatch z)]) ?_⟩
        refine ⟨_, rfl, o, rfl, ⟨_, SqT.of ho⟩, ?_⟩
        refine for_it (walk_tup (K := K) (a := o) (xs := os.map V.int)) (fun i σ' H' => (∃ u', σ' = [some (.ref p), some (.ref st), some (.ref nd), some (.ref pt), some (.int M), some (.int n), some (.int (k : Nat)), some (.int (h : Nat)), some (.ref o), u']) ∧ Same H0 H' ∧ H' o = some (.tup (os.map V.int)) ∧ NtZ N H' p z (es ++ ((os.take i).map fun o => (lsn (ptsA rs) (o, k), 2 + 2 * h, M))) L)
          ⟨⟨_, rfl⟩, s0, ho, by rw [List.take_zero, List.map_nil, List.append_nil]; exact hz⟩ (fun i σ' H' _ h => SqT.of h.2.2.1) ?_ ?_
        · rintro i x σ' H' H2 hi ⟨⟨u', rfl⟩, s2, ho2, hz2⟩ ⟨rfl, hx2⟩
          rw [List.getElem?_map] at hx2
          obtain ⟨c, hc, rfl⟩ := Option.map_eq_some_iff.mp hx2
          have mo : (c, k) ∈ ptsA rs := ops_pts ok (n := n) mp (by rw [erw]; exact List.mem_of_getElem? hc)
          have ml := List.idxOf_lt_length_of_mem mo
          refine nm_of ?_
          dsimp only
          refine ⟨_, rfl, p, z.dx, z.fs, rfl, hz2.h, hz.f.no _ (by decide +kernel) (by decide +kernel) (by decide +kernel), _, rfl, _, rfl, _, rfl, (by show 2 ≤ sizeLine; decide), fun t nt => ?_⟩
          obtain ⟨G3, e3, s3, ht3⟩ := mkO nt (.tup [.int c, .int (k : Nat)])
          rw [e3]
          have s03 := s2.trans s3
          refine ⟨nd, _, rfl, (hnd.same s03).get mo ht3, _, rfl, by omega, _, rfl, h, rfl, by omega, _, rfl, ?_⟩
          unfold tNil
          dsimp only [List.cons_append, List.nil_append, List.append_nil]
          refine con_of (s := 3 + 2 * (ptsA rs).idxOf (c, k)) (e := 2 + 2 * h) (hz2.same s3) nw s03 (by omega) (by omega) (by omega) (by rw [List.length_append, List.length_map, List.length_take]; omega) fun H' s' k' hz' => ⟨⟨_, rfl⟩, s', k' _ _ (s3 _ _ ho2), ?_⟩
          · rw [take_map _ hc, ← List.append_assoc]
            exact hz'
        · rintro σ' H' ⟨⟨u', rfl⟩, s2, ho2, hz2⟩
          rw [List.length_map, List.take_length, ← eA1] at hz2
          exact hN _ _ ⟨⟨_, rfl⟩, s2, hz2⟩
      | use os => rw [er] at hx; cases hx
      | stop l os => rw [er] at hx; cases hx
    rintro σ1 H1 ⟨⟨u1, rfl⟩, s1, hz1⟩
    -- by a keep
    obtain ⟨A2, eA2⟩ : ∃ A2 : List Ed, A2 = if live rs out n k then [] else [(2 + 2 * h, 3 + 2 * h, 1)] := ⟨_, rfl⟩
    rw [← eA2] at q
    have lA2 : A2.length ≤ 1 := by rw [eA2]; split <;> simp
    refine seq_cut (fun σ' H' => (∃ u', σ' = [some (.ref p), some (.ref st), some (.ref nd), some (.ref pt), some (.int M), some (.int n), some (.int (k : Nat)), some (.int (h : Nat)), some u, u']) ∧ Same H0 H' ∧ NtZ N H' p z (es ++ A1 ++ A2) L) (fun Nx hN => ?_) ?_
    · obtain ⟨dx, fs, hs1, hs2⟩ := stm s1
      refine ⟨_, rfl, st, dx, fs, rfl, hs1, hs2 _ (by decide +kernel) (by decide +kernel) (by decide +kernel) (by decide +kernel) (by decide +kernel), _, rfl, _, rfl, st, rs, out, n, k, rfl, (hst.same s1).v, hv, hk, _, rfl, iteB (fun c => ?_) (fun c => ?_)⟩
      · have c : live rs out n k = false := by cases e : live rs out n k <;> simp_all
        rw [c, if_neg Bool.false_ne_true] at eA2
        refine ⟨_, rfl, p, z.dx, z.fs, rfl, hz1.h, hz.f.no _ (by decide +kernel) (by decide +kernel) (by decide +kernel), _, rfl, h, rfl, by omega, _, rfl, h, rfl, by omega, ?_⟩
        unfold tCons tC tNil
        dsimp only [List.cons_append, List.nil_append, List.append_nil]
        exact con_of (s := 2 + 2 * h) (e := 3 + 2 * h) hz1 nw s1 (by omega) (by omega) (by omega) (by rw [List.length_append]; omega) fun H' s' _ hz' => hN _ _ ⟨⟨_, rfl⟩, s', by rw [eA2]; exact hz'⟩
      · have c : live rs out n k = true := by cases e : live rs out n k <;> simp_all
        rw [c, if_pos rfl] at eA2
        exact hN _ _ ⟨⟨_, rfl⟩, s1, by rw [eA2, List.append_nil]; exact hz1⟩
    rintro σ2 H2 ⟨⟨u2, rfl⟩, s2, hz2⟩
    -- from the stop before
    obtain ⟨A3, eA3⟩ : ∃ A3 : List Ed, A3 = if 0 < k ∧ (n, k - 1) ∈ ptsA rs then [(lsn (ptsA rs) (n, k - 1), 3 + 2 * h, M)] else [] := ⟨_, rfl⟩
    rw [← eA3] at q
    have lA3 : A3.length ≤ 1 := by rw [eA3]; split <;> simp
    refine seq_cut (fun σ' H' => (∃ u', σ' = [some (.ref p), some (.ref st), some (.ref nd), some (.ref pt), some (.int M), some (.int n), some (.int (k : Nat)), some (.int (h : Nat)), some u, u']) ∧ Same H0 H' ∧ NtZ N H' p z (es ++ A1 ++ A2 ++ A3) L) (fun Nx hN => ?_) ?_
    · refine ⟨_, rfl, _, rfl, _, _, rfl, rfl, (by show 2 ≤ sizeLine; decide), fun t nt => ?_⟩
      obtain ⟨G3, e3, s3, ht3⟩ := mkO nt (.tup [.int n, .int ((k : Int) - 1)])
      rw [e3]
      have s03 := s2.trans s3
      obtain ⟨kvs, hd3, nl⟩ := hnd.same s03
      refine ⟨_, rfl, nd, _, rfl, DGet.t (k := k2 n ((k : Int) - 1)) hd3 ht3, _, rfl, ?_⟩
      rw [nl n ((k : Int) - 1)]
      have iff : (n, (k : Int) - 1) ∈ kpo (ptsA rs) ↔ (0 < k ∧ (n, k - 1) ∈ ptsA rs) := by
        constructor
        · intro hm
          obtain ⟨q', hq', e⟩ := List.mem_map.mp hm
          obtain ⟨a, b⟩ := Prod.mk.inj e
          have k0 : 0 < k := by omega
          refine ⟨k0, ?_⟩
          have : q' = (n, k - 1) := Prod.ext a (by show q'.2 = k - 1; omega)
          rw [← this]
          exact hq'
        · rintro ⟨k0, hm⟩
          have := kpo_mem.mpr hm
          rw [show ((k - 1 : Nat) : Int) = (k : Int) - 1 by omega] at this
          exact this
      by_cases c : (n, (k : Int) - 1) ∈ kpo (ptsA rs)
      · obtain ⟨k0, mo⟩ := iff.mp c
        have ml := List.idxOf_lt_length_of_mem mo
        rw [if_pos (iff.mp c)] at eA3
        rw [if_pos c]
        refine iteY rfl ?_
        have hz3 := hz2.same s3
        refine ⟨_, rfl, p, z.dx, z.fs, rfl, hz3.h, hz.f.no _ (by decide +kernel) (by decide +kernel) (by decide +kernel), _, rfl, _, rfl, _, rfl, _, _, rfl, rfl, (by show 2 ≤ sizeLine; decide), fun t4 nt4 => ?_⟩
        obtain ⟨G4, e4, s4, ht4⟩ := mkO nt4 (.tup [.int n, .int ((k : Int) - 1)])
        rw [e4]
        have s04 := s03.trans s4
        rw [show (k : Int) - 1 = ((k - 1 : Nat) : Int) by omega] at ht4
        refine ⟨nd, _, rfl, (hnd.same s04).get mo ht4, _, rfl, by omega, _, rfl, h, rfl, by omega, _, rfl, ?_⟩
        unfold tNil
        dsimp only [List.cons_append, List.nil_append, List.append_nil]
        refine con_of (s := 3 + 2 * (ptsA rs).idxOf (n, k - 1)) (e := 3 + 2 * h) (hz3.same s4) nw s04 (by omega) (by omega) (fun z1 => ?_) (by rw [List.length_append, List.length_append]; omega) fun H' s' _ hz' => hN _ _ ⟨⟨_, rfl⟩, s', by rw [eA3]; exact hz'⟩
        have := (Prod.mk.inj (idx_inj mo mp (by omega))).2
        omega
      · rw [if_neg fun z1 => c (iff.mpr z1)] at eA3
        rw [if_neg c]
        exact iteN rfl (hN _ _ ⟨⟨_, rfl⟩, s03, by rw [eA3, List.append_nil]; exact hz2.same s3⟩)
    rintro σ3 H3 ⟨⟨u3, rfl⟩, s3, hz3⟩
    -- to what is asked
    obtain ⟨dx, fs, hs1, hs2⟩ := stm s3
    refine ⟨_, rfl, _, rfl, st, dx, fs, rfl, hs1, hs2 _ (by decide +kernel) (by decide +kernel) (by decide +kernel) (by decide +kernel) (by decide +kernel), _, rfl, st, rs, out, k, rfl, (hst.same s3).v, hk, fun v hv => ?_⟩
    obtain ⟨o, rfl, ho⟩ := hv
    refine ⟨o, _, rfl, .inr (SqT.of ho), rfl, flatI _, _, rfl, ?_⟩
    rw [inV_int]
    rw [← List.append_assoc, ← List.append_assoc, ← List.append_assoc] at q
    refine iteB (fun c => ?_) (fun c => ?_)
    · rw [if_pos (show n ∈ ask rs k from of_decide_eq_true c)] at q
      refine ⟨_, rfl, p, z.dx, z.fs, rfl, hz3.h, hz.f.no _ (by decide +kernel) (by decide +kernel) (by decide +kernel), _, rfl, h, rfl, by omega, _, rfl, ?_⟩
      unfold tNil
      dsimp only [List.cons_append, List.nil_append, List.append_nil]
      exact con_of (s := 3 + 2 * h) (e := 1) hz3 nw s3 (by omega) (by omega) (by omega) (by rw [List.length_append, List.length_append, List.length_append]; omega) fun H' s' _ hz' => q H' s' hz'
    · rw [if_neg (show ¬ n ∈ ask rs k from of_decide_eq_false c), List.append_nil] at q
      exact q H3 s3 hz3
end
end K63

set_option Elab.async false
set_option linter.all false
set_option maxRecDepth 100000
set_option maxHeartbeats 2000000
/-! N63f: the network of a stretch made, the least keeps. -/
namespace K63
open PySem PySem.Spec PyProof.Rows L2 LL ST
/-! ### pairs sorted -/
def rdP (H : Hp) : V → IP
  | .ref t => match H t with
    | some (.tup [.int a, .int b]) => (a, b)
    | _ => (0, 0)
  | _ => (0, 0)
theorem rdP_of {H : Hp} {v : V} {p : IP} (h : PrV H v p) : rdP H v = p := by
  obtain ⟨t, rfl, ht⟩ := h
  show (match H t with | some (.tup [.int a, .int b]) => (a, b) | _ => (0, 0)) = p
  rw [ht]
theorem prs_rd {H : Hp} {vs : List V} {ps : List IP} (h : Prs H vs ps) : vs.map (rdP H) = ps := by
  refine List.ext_getElem? fun i => ?_
  rw [List.getElem?_map]
  by_cases c : i < vs.length
  · rw [List.getElem?_eq_getElem c, List.getElem?_eq_getElem (by rw [← h.len]; exact c)]
    exact congrArg some (rdP_of (h.at_ i _ _ (List.getElem?_eq_getElem c) (List.getElem?_eq_getElem (by rw [← h.len]; exact c))))
  · rw [List.getElem?_eq_none (by omega), List.getElem?_eq_none (by rw [← h.len]; omega)]
    rfl
def LexP (ps : List IP) : Prop := ps.Pairwise fun p q => SrtO.lexB q p = false
theorem lex_uniq : ∀ {l m : List IP}, l.Perm m → LexP l → LexP m → l = m
  | [], m, h, _, _ => (List.Perm.nil_eq h)
  | x :: l, [], h, _, _ => absurd h.length_eq (by simp)
  | x :: l, y :: m, h, hl, hm => by
    have e : x = y := by
      rcases List.mem_cons.mp (h.mem_iff.mp (List.mem_cons_self (a := x) (l := l))) with e | hx
      · exact e
      · rcases List.mem_cons.mp (h.mem_iff.mpr (List.mem_cons_self (a := y) (l := m))) with e | hy
        · exact e.symm
        · have a := SrtO.lexB_no.mp ((List.pairwise_cons.mp hm).1 x hx)
          have b := SrtO.lexB_no.mp ((List.pairwise_cons.mp hl).1 y hy)
          exact Prod.ext (by omega) (by omega)
    subst e
    rw [lex_uniq h.cons_inv (List.pairwise_cons.mp hl).2 (List.pairwise_cons.mp hm).2]
theorem sort_prs {K : PySem.W.Frag} {H : Hp} {a : Addr} {vs : List V} {ps : List IP} {Q : VK} (hs : SqL K H a vs) (pr : Prs H vs ps) (q : ∀ ys qs p, qs.Perm ps → LexP qs → Prs H ys qs → H p = none → Q (.ref p) (upd H p (.lst ys))) : rSortedPO K [.ref a] H Q := by
  have get : ∀ x ∈ vs, PrV H x (rdP H x) := fun x hx => by
    obtain ⟨i, hi⟩ := List.mem_iff_getElem?.mp hx
    have hl := (List.getElem?_eq_some_iff.mp hi).1
    have h := pr.at_ i x _ hi (List.getElem?_eq_getElem (by rw [← pr.len]; exact hl))
    rw [rdP_of h]
    exact h
  refine ⟨a, vs, rdP H, rfl, hs, get, fun ys p h1 h2 np => q ys (ys.map (rdP H)) p ?_ ?_ ⟨by rw [List.length_map], fun i v r e1 e2 => ?_⟩ np⟩
  · have := h2.perm.map (rdP H)
    rwa [prs_rd pr] at this
  · exact List.pairwise_map.mpr h1
  · rw [List.getElem?_map, e1] at e2
    cases e2
    exact get v (h2.perm.mem_iff.mp (List.mem_of_getElem? e1))
section
variable {P : Program} {w : World} {K : PySem.W.Frag} {mg : Str → Option Value} {base : Heap} {C N : Addr} {f : Addr} {fd : FuncData}
theorem edP_len {rs : Rs} (ok : RsOk rs) {out : List Int} {M : Int} {n : Int} {k : Nat} (m : (n, k) ∈ ptsA rs) : (edP rs out (ptsA rs) M (n, k)).length ≤ 6 := by
  obtain ⟨hk, hn⟩ := mem_pts.mp m
  obtain ⟨hv, hp⟩ := List.mem_filter.mp hn
  obtain ⟨j, hj, hx⟩ := mem_vls.mp hv
  have erw := rwv_at ok hj hx
  have l1 : (edO rs (ptsA rs) M n k).length ≤ 3 := by
    have := (ok.z j hj).opl
    cases er : rw rs j with
    | set m os =>
      rw [er] at this erw
      rw [edO_set erw, List.length_map]
      exact this
    | leaf m =>
      rw [er] at erw
      rw [edO_leaf erw]
      show 1 ≤ 3
      omega
    | use os => rw [er] at hx; cases hx
    | stop l os => rw [er] at hx; cases hx
  rw [edP_eq, List.length_append, List.length_append, List.length_append]
  have l2 : (if live rs out n k then [] else [(spn (ptsA rs) (n, k), lsn (ptsA rs) (n, k), (1 : Int))]).length ≤ 1 := by split <;> simp
  have l3 : (if 0 < k ∧ (n, k - 1) ∈ ptsA rs then [(lsn (ptsA rs) (n, k - 1), lsn (ptsA rs) (n, k), M)] else []).length ≤ 1 := by split <;> simp
  have l4 : (if n ∈ ask rs k then [(lsn (ptsA rs) (n, k), 1, M)] else []).length ≤ 1 := by split <;> simp
  omega
theorem edU_len {rs : Rs} (ok : RsOk rs) {out : List Int} {M : Int} : ∀ l : List Pt, (∀ q ∈ l, q ∈ ptsA rs) → (l.flatMap (edP rs out (ptsA rs) M)).length ≤ 6 * l.length
  | [], _ => Nat.zero_le _
  | q :: l, h => by
    rw [List.flatMap_cons, List.length_append, List.length_cons]
    have := edU_len ok (out := out) (M := M) l fun p hp => h p (List.mem_cons_of_mem _ hp)
    have := edP_len ok (out := out) (M := M) (n := q.1) (k := q.2) (h q (List.mem_cons_self ..))
    have e : (edP rs out (ptsA rs) M q) = edP rs out (ptsA rs) M (q.1, q.2) := rfl
    rw [e]
    omega
def spNf (C N : Addr) : Sp := fun vs H Q _ => ∃ (st a : Addr) (rs : Rs) (out : List Int) (us : List V), vs = [.ref st, .ref a] ∧ StAt C H st rs out ∧ RsOk rs ∧ H a = some (.lst us) ∧ Prs H us (kpo (ptsA rs)) ∧ ∀ H' p z, Same H H' → Nw H z → NtZ N H' p z (esA rs out) (2 + 2 * (ptsA rs).length) → Q (.ref p) H'
theorem ok_network_of (T : Tn K mg C N) (K_Network : Mkf P w K mg base CX0 1 "Network" (spNet N)) (G_connect_point : Fnc P w K mg base CX0 5 "connect_point" [] (spCp C N)) (F : FD K "network_of" "network_of" s_network_of [] f fd) : FnG P w K mg base CX0 6 f fd ["stretch", "points"] (spNf C N) := by
  refine ok0 F sc_network_of (fun vs H Q E h => ?_) (fun cdv A outer s H vs Q E hr h => ?_)
  · obtain ⟨st, a, rs, out, us, rfl, _⟩ := h
    rfl
  · obtain ⟨st, a, rs, out, us, rfl, hst, ok, ha, pr, q⟩ := h
    refine ⟨_, (pss_cons (ps_setDcT (i := 2) (g := (gTup K 2 (gCons (gName 3) (gCons (gName 4) gNil)))) (own := [("number", 3), ("point", 4)]) (un1 hr.r.units) rfl sc_network_of.nd rfl rfl (swD_true rfl rfl rfl (by decide +kernel)) (pi_enumA (by rfl) T.n_enumerate (pa_cons (pv 1) pa_nil)) (blkOk_by (own := [("number", 3), ("point", 4)]) (N := n_network_of) (sc := defScope s_network_of) (by decide +kernel)) (fun _ _ _ _ _ => (pg_tup rfl (pgs_cons (pg_name (i := 3) sc_network_of.nd rfl (by first | exact Or.inl rfl | exact Or.inr rfl)) (pgs_cons (pg_name (i := 4) sc_network_of.nd rfl (by first | exact Or.inl rfl | exact Or.inr rfl)) pgs_nil)))) (fun _ _ _ _ _ => pts_nil) (fun _ _ _ _ _ => (pv 4)) (fun _ _ _ _ _ => (pv 3)))
      (pss_cons (ps_set (i := 5) sc_network_of.nd rfl (by first | exact Or.inl rfl | exact Or.inr rfl) (pe_mf K_Network (hr.mono (by decide)) pass0 (pa_cons (pe_op op_add pe_int (pe_op op_mulX pe_int (pe_callB call_len_seq (by rfl) T.n_len (by decide +kernel) (pa_cons (pv 1) pa_nil)))) pa_nil)))
      (pss_cons (ps_for PassesOwn.never rfl (pi_list (pv 1)) (pg_name (i := 4) sc_network_of.nd rfl (by first | exact Or.inl rfl | exact Or.inr rfl)) (pss_one (ps_expr (pe_fn G_connect_point (hr.mono (by decide)) pass0 (pa_cons (pv 5) (pa_cons (pv 0) (pa_cons (pv 2) (pa_cons (pv 4) (pa_cons (pe_op op_add (pe_callB call_len_seq (by rfl) T.n_len (by decide +kernel) (pa_cons (pv 1) pa_nil)) pe_int) pa_nil)))))))))
      (pss_one (ps_ret (pv 5)))))), ?_⟩
    have pl := pts_len ok
    have ul : us.length = (ptsA rs).length := by rw [pr.len, kpo_len]
    have nd := kpo_nd (pts_nd ok)
    -- the numbers
    refine ⟨_, rfl, true, a, us, rfl, SqL.of ha, fun D nD => ?_⟩
    refine dcT_inv (walk_enumK (K := K) (k := true) (a := a) (xs := us)) (fun i kvs G => Same H G ∧ kvs.length ≤ i ∧ NumL kvs ((kpo (ptsA rs)).take i)) (fun i kvs G o h => ⟨own_same h.1 nD, h.2⟩) ⟨Same.rfl', Nat.le_refl _, .nil⟩ (fun i kvs G hi h => lt5 (by have := h.2.1; omega)) (fun i kvs G _ h => SqL.of (h.1 _ _ ha)) ?_ ?_
    · rintro i x kvs G' G hi ⟨s1, lk, nl⟩ hD1 ⟨t, y, zz, rfl, nt, rfl, hy, hz⟩ R S hR hS
      cases hy
      obtain ⟨G2, e2, s2, ht2⟩ := mkO nt (.tup [.int (i : Nat), zz])
      rw [e2]
      have il : i < (kpo (ptsA rs)).length := by rw [← pr.len]; exact hi
      obtain ⟨pp, epp⟩ : ∃ pp, (kpo (ptsA rs))[i]? = some pp := ⟨_, List.getElem?_eq_getElem il⟩
      obtain ⟨tp, rfl, htp⟩ := pr.at_ i zz pp hz epp
      refine ⟨t, _, rfl, SqT.of ht2, rfl, _, _, rfl, _, _, rfl, rfl, rfl, ?_⟩
      have hn : (pp.1, pp.2) ∉ (kpo (ptsA rs)).take i := fun c => by
        obtain ⟨j, hj, e⟩ := List.getElem_of_mem c
        rw [List.length_take] at hj
        rw [List.getElem_take] at e
        have e' := (List.getElem?_eq_some_iff.mp epp).2
        exact List.pairwise_iff_getElem.mp nd j i (by omega) il (by omega) (e.trans e'.symm)
      have sn := nl.snoc hn
      rw [List.length_take, Nat.min_eq_left (by omega)] at sn
      refine ⟨_, rfl, _, rfl, hR (k2 pp.1 pp.2) tp (.int (i : Nat)) _ (s2 _ _ hD1) (s2 _ _ (s1 _ _ htp)) ⟨s1.trans s2, Nat.le_trans (putK_len _ _ _) (by omega), ?_⟩⟩
      rw [List.take_add_one, epp]
      exact sn
    · intro kvs G1 hD1 ⟨s1, lk, nl⟩
      rw [ul, ← kpo_len, List.take_length] at nl
      refine nm_of ?_
      dsimp only
      have hnm : NmAt G1 D (ptsA rs) := ⟨kvs, hD1, nl⟩
      have nD0 : H D = none := nD
      refine ⟨_, rfl, a, _, rfl, .inl (SqL.of (s1 _ _ ha)), _, _, rfl, rfl, mul_ok2 (by omega), _, _, rfl, rfl, 2 + 2 * (ptsA rs).length, ?_, by omega, fun G2 p z s2 np hz nw => ?_⟩
      · rw [ul]
        show [V.int (2 + 2 * (((ptsA rs).length : Nat) : Int))] = _
        rw [show (2 + 2 * (((ptsA rs).length : Nat) : Int)) = ((2 + 2 * (ptsA rs).length : Nat) : Int) by omega]
      refine nm_of ?_
      dsimp only
      refine ⟨_, rfl, a, rfl, ⟨_, SqL.of (s2 _ _ (s1 _ _ ha))⟩, ?_⟩
      refine for_it (walk_list (K := K) (a := a) (xs := us)) (fun i σ H' => Same G1 H' ∧ NtZ N H' p z (((ptsA rs).take i).flatMap (edP rs out (ptsA rs) (mst rs))) (2 + 2 * (ptsA rs).length) ∧ ∃ u, σ = [some (.ref st), some (.ref a), some (.ref D), none, u, some (.ref p)])
        ⟨s2, hz, _, rfl⟩ (fun i σ H' _ h => SqL.of (h.1 _ _ (s1 _ _ ha))) ?_ ?_
      · rintro i x σ H4 H3 hi ⟨s3, hz3, u, rfl⟩ ⟨rfl, hx⟩
        have il : i < (ptsA rs).length := by rw [← ul]; exact hi
        obtain ⟨qq, eqq⟩ : ∃ qq, (ptsA rs)[i]? = some qq := ⟨_, List.getElem?_eq_getElem il⟩
        obtain ⟨tp, rfl, htp⟩ := pr.at_ i x _ hx (show (kpo (ptsA rs))[i]? = some (qq.1, (qq.2 : Int)) by unfold kpo; rw [List.getElem?_map, eqq]; rfl)
        have mq := List.mem_of_getElem? eqq
        refine nm_of ?_
        dsimp only
        have ha3 := s3 _ _ (s1 _ _ ha)
        refine ⟨_, rfl, _, rfl, _, rfl, _, rfl, _, rfl, a, _, rfl, .inl (SqL.of ha3), _, _, rfl, rfl, ?_⟩
        unfold tNil
        dsimp only [List.append_nil]
        rw [show (((us.length : Nat) : Int) + 1) = mst rs by rw [ul]; rfl]
        have lU := edU_len ok (out := out) (M := mst rs) ((ptsA rs).take i) fun q hq => List.mem_of_mem_take hq
        rw [List.length_take] at lU
        refine ⟨G1, p, st, D, tp, z, _, rs, out, qq.1, qq.2, mst rs, rfl, hst.same s1, ok, hz3, nw, s3, hnm, s1 _ _ htp, mq, by omega, fun H5 s5 hz5 => ⟨s5, ?_, _, rfl⟩⟩
        have e : ((ptsA rs).take (i + 1)).flatMap (edP rs out (ptsA rs) (mst rs)) = ((ptsA rs).take i).flatMap (edP rs out (ptsA rs) (mst rs)) ++ edP rs out (ptsA rs) (mst rs) (qq.1, qq.2) := by
          rw [List.take_add_one, eqq, List.flatMap_append]
          show _ ++ List.flatMap _ [qq] = _
          rw [List.flatMap_singleton]
        rw [e]
        exact hz5
      · rintro σ H3 ⟨s3, hz3, u, rfl⟩
        rw [ul, List.take_length] at hz3
        exact ⟨_, rfl, q H3 p z (s1.trans s3) ⟨s1.free nw.e, s1.free nw.f, s1.free nw.a, fun b hb => s1.free (nw.l b hb)⟩ hz3⟩
end
end K63

set_option Elab.async false
set_option linter.all false
set_option maxRecDepth 100000
set_option maxHeartbeats 2000000
/-! N63g: the least keeps. -/
namespace K63
open PySem PySem.Spec PyProof.Rows L2 LL ST
section
variable {P : Program} {w : World} {K : PySem.W.Frag} {mg : Str → Option Value} {base : Heap} {C N : Addr} {f : Addr} {fd : FuncData}
theorem but_new {p : Addr} {H H' : Hp} (b : But p H H') (n : H p = none) : Same H H' := b.same n
theorem idx_at' {pts : List Pt} (nd : pts.Nodup) {i : Nat} {q : Pt} (h : pts[i]? = some q) : pts.idxOf q = i := by
  have m := List.mem_of_getElem? h
  have a := idx_at m
  obtain ⟨i1, e1⟩ := List.getElem?_eq_some_iff.mp h
  obtain ⟨i2, e2⟩ := List.getElem?_eq_some_iff.mp a
  exact (List.getElem_inj nd).mp (e2.trans e1.symm)
def spLk (C : Addr) : Sp := fun vs H Q _ => ∃ (st : Addr) (rs : Rs) (out : List Int), vs = [.ref st] ∧ StAt C H st rs out ∧ RsOk rs ∧ ∀ H' r us ps, Same H H' → H r = none → H' r = some (.lst us) → Prs H' us ps → IsL rs out ps → LexP ps → ps.length ≤ 900 → Q (.ref r) H'
theorem ok_least_keeps (T : Tn K mg C N) (G_points_of : Fnc P w K mg base CX0 3 "points_of" [] (spPts C)) (G_network_of : Fnc P w K mg base CX0 6 "network_of" [] (spNf C N)) (N_fill : Mth P w K mg base CX0 3 N "fill" [] (spFill N)) (G_spread_node : Fnc P w K mg base CX0 1 "spread_node" [] spSn) (G_lost_node : Fnc P w K mg base CX0 1 "lost_node" [] spLn') (M_is_live : Mth P w K mg base CX0 2 C "is_live" [] (spLv C))
    (F : FD K "least_keeps" "least_keeps" s_least_keeps [] f fd) : FnG P w K mg base CX0 7 f fd ["stretch"] (spLk C) := by
  refine ok0 F sc_least_keeps (fun vs H Q E h => ?_) (fun cdv A outer s H vs Q E hr h => ?_)
  · obtain ⟨st, rs, out, rfl, _⟩ := h
    rfl
  · obtain ⟨st, rs, out, rfl, hst, ok, q⟩ := h
    refine ⟨_, (pss_cons (ps_set (i := 1) sc_least_keeps.nd rfl (by first | exact Or.inl rfl | exact Or.inr rfl) (pe_fn G_points_of (hr.mono (by decide)) pass0 (pa_cons (pv 0) pa_nil)))
      (pss_cons (ps_set (i := 2) sc_least_keeps.nd rfl (by first | exact Or.inl rfl | exact Or.inr rfl) (pe_mt0 N_fill (hr.mono (by decide)) pass0 (pe_fn G_network_of (hr.mono (by decide)) pass0 (pa_cons (pv 0) (pa_cons (pv 1) pa_nil)))))
      (pss_cons (ps_set (i := 3) sc_least_keeps.nd rfl (by first | exact Or.inl rfl | exact Or.inr rfl) (pe_lst pa_nil))
      (pss_cons (ps_for PassesOwn.never rfl (pi_enumA (by rfl) T.n_enumerate (pa_cons (pv 1) pa_nil)) (pg_tup rfl (pgs_cons (pg_name (i := 4) sc_least_keeps.nd rfl (by first | exact Or.inl rfl | exact Or.inr rfl)) (pgs_cons (pg_tup rfl (pgs_cons (pg_name (i := 5) sc_least_keeps.nd rfl (by first | exact Or.inl rfl | exact Or.inr rfl)) (pgs_cons (pg_name (i := 6) sc_least_keeps.nd rfl (by first | exact Or.inl rfl | exact Or.inr rfl)) pgs_nil))) pgs_nil))) (pss_one (ps_if (PW.pt (pw_and (pt_cmp (pc_din (un1 hr.r.units) (pe_fn G_spread_node (hr.mono (by decide)) pass0 (pa_cons (pv 4) pa_nil)) (pv 2)) rfl) (pw_and (pt_cmp (pc_dnotin (un1 hr.r.units) (pe_fn G_lost_node (hr.mono (by decide)) pass0 (pa_cons (pv 4) pa_nil)) (pv 2)) rfl) (pw_and1 (pt_not (pt_val (pe_mt M_is_live (hr.mono (by decide)) pass0 (pv 0) (pa_cons (pv 5) (pa_cons (pv 6) pa_nil))))))))) (pss_one (ps_expr (pe_bm PySem.F.plainAttrs_list PySem.F.slot_list_append PySem.F.type_list_append mt_append (pv 3) (pa_cons (pe_tup (pa_cons (pv 5) (pa_cons (pv 6) pa_nil))) pa_nil)))) pss_nil)))
      (pss_one (ps_ret (pe_callB cr_sortedPO (by rfl) T.n_sorted (by decide +kernel) (pa_cons (pv 3) pa_nil)))))))), ?_⟩
    have pl := pts_len ok
    refine ⟨_, rfl, st, rs, out, rfl, hst, ok, fun H1 a us s1 na ha pr => ?_⟩
    refine nm_of ?_
    dsimp only
    have ul : us.length = (ptsA rs).length := by rw [pr.len, kpo_len]
    refine ⟨_, rfl, _, rfl, st, a, rs, out, us, rfl, hst.same s1, ok, ha, pr, fun H2 p z s2 nw hz => ?_⟩
    have ok2 := ga_ok ok out
    refine ⟨p, z.dx, z.fs, rfl, hz.h, hz.f.no _ (by decide +kernel) (by decide +kernel) (by decide +kernel), ?_⟩
    have z0 : ∀ i, flo (List.replicate (esA rs out).length 0) i = 0 := flo_zero _
    refine ⟨p, z, esA rs out, _, 2 + 2 * (ptsA rs).length, (ptsA rs).length, rfl, hz, ok2, flow_zero z0 fun i hi => ga_b0 ok hi, fun i hi => ?_, fun g hg => val_le ok hg, by omega, fun H3 d gl ws B3 nd3 hz3 F3 bd3 fd3 wz3 cl3 n1 => ?_⟩
    · rw [z0 i, exc_zero z0]
      exact Int.le_refl _
    refine nm_of ?_
    dsimp only
    have s3 : Same H1 H3 := fun b o e => B3 _ _ (s2 _ _ e) fun c => by rw [c, nw.f] at e; cases e
    have s03 := s1.trans s3
    obtain ⟨kvs, hd3, fv⟩ := fd3
    have isl := least_of ok (out := out) F3 (rch_of wz3 cl3 fun v hv h0 => let ⟨t, u, i, _, _, pa⟩ := fv.par v hv h0; ⟨u, i, pa⟩) (fun v => ws.idxOf v) (rk_of fun v hv h0 => let ⟨t, u, i, _, _, pa⟩ := fv.par v hv h0; ⟨u, i, pa⟩) (decide_eq_false n1) (big_of ok F3 bd3)
    refine ⟨(by show 0 ≤ sizeLine; decide), fun ke nke => ?_⟩
    obtain ⟨H4, e4, s4, hke⟩ := mkO nke (.lst [])
    rw [e4]
    clear e4
    refine nm_of ?_
    dsimp only
    have s04 := s03.trans s4
    obtain ⟨Pb, ePb⟩ : ∃ Pb : Pt → Bool, Pb = fun q => !live rs out q.1 q.2 && (decide (spn (ptsA rs) q ∈ ws) && !decide (lsn (ptsA rs) q ∈ ws)) := ⟨_, rfl⟩
    have ndp := pts_nd ok
    refine ⟨_, rfl, true, a, us, rfl, SqL.of (s4 _ _ (s3 _ _ ha)), ?_⟩
    refine for_it (walk_enumK (K := K) (k := true) (a := a) (xs := us)) (fun i σ H' => Same H3 H' ∧ (∃ ks, H' ke = some (.lst ks) ∧ Prs H' ks (kpo (((ptsA rs).take i).filter Pb))) ∧ ∃ u4 u5 u6, σ = [some (.ref st), some (.ref a), some (.ref d), some (.ref ke), u4, u5, u6])
      ⟨s4, ⟨[], hke, ⟨rfl, fun i v p e => by simp at e⟩⟩, _, _, _, rfl⟩ (fun i σ H' _ h => SqL.of (h.1 _ _ (s3 _ _ ha))) ?_ ?_
    · rintro i x σ H5 H6 hi ⟨s5, ⟨ks, hk5, pr5⟩, u4, u5, u6, rfl⟩ ⟨t, y, zz, rfl, nt, rfl, hy, hx⟩
      cases hy
      obtain ⟨G6, e6, s6, ht6⟩ := mkO nt (.tup [.int (i : Nat), zz])
      rw [e6]
      clear e6
      have il : i < (ptsA rs).length := by rw [← ul]; exact hi
      obtain ⟨qq, eqq⟩ : ∃ qq, (ptsA rs)[i]? = some qq := ⟨_, List.getElem?_eq_getElem il⟩
      obtain ⟨tp, rfl, htp⟩ := pr.at_ i zz _ hx (show (kpo (ptsA rs))[i]? = some (qq.1, (qq.2 : Int)) by unfold kpo; rw [List.getElem?_map, eqq]; rfl)
      have mq := List.mem_of_getElem? eqq
      have iq := idx_at' ndp eqq
      have s36 := s5.trans s6
      have hd6 := s36 _ _ hd3
      obtain ⟨hk, hn⟩ := mem_pts.mp (show (qq.1, qq.2) ∈ ptsA rs from mq)
      have hv := (List.mem_filter.mp hn).1
      have sp_ : spn (ptsA rs) qq = 2 + 2 * i := by unfold spn; rw [iq]
      have ls_ : lsn (ptsA rs) qq = 3 + 2 * i := by unfold lsn; rw [iq]
      have tf := take_fil Pb eqq
      have stay : Pb qq = false → ∀ H', Same G6 H' → Same H3 H' ∧ (∃ ks, H' ke = some (.lst ks) ∧ Prs H' ks (kpo (((ptsA rs).take (i + 1)).filter Pb))) ∧ ∃ u4 u5 u6, ([some (.ref st), some (.ref a), some (.ref d), some (.ref ke), some (.int (i : Nat)), some (.int qq.1), some (.int (qq.2 : Nat))] : L2.St) = [some (.ref st), some (.ref a), some (.ref d), some (.ref ke), u4, u5, u6] := fun e H' s' => ⟨s36.trans s', ⟨ks, s' _ _ (s6 _ _ hk5), by rw [tf, e, if_neg Bool.false_ne_true, List.append_nil]; exact pr5.same (s6.trans s')⟩, _, _, _, rfl⟩
      refine ⟨t, _, rfl, SqT.of ht6, rfl, _, _, rfl, _, _, rfl, ⟨tp, _, rfl, SqT.of (s36 _ _ (s3 _ _ htp)), rfl, _, _, rfl, _, _, rfl, rfl, rfl, ?_⟩⟩
      have pb : Pb qq = (!live rs out qq.1 qq.2 && (decide (2 + 2 * i ∈ ws) && !decide (3 + 2 * i ∈ ws))) := by rw [ePb, ← sp_, ← ls_]
      refine ⟨_, rfl, i, rfl, by omega, _, rfl, d, _, rfl, DGet.k (k := kN (2 + 2 * i)) hd6, ?_⟩
      rw [fv.has]
      refine ⟨_, rfl, iteB (fun c1 => ?_) (fun c1 => stay (by rw [pb, c1, Bool.false_and, Bool.and_false]) _ Same.rfl')⟩
      refine ⟨_, rfl, i, rfl, by omega, _, rfl, d, _, rfl, DGet.k (k := kN (3 + 2 * i)) hd6, ?_⟩
      rw [fv.has]
      refine ⟨_, rfl, iteB (fun c2 => ?_) (fun c2 => stay (by rw [pb, c2, Bool.and_false, Bool.and_false]) _ Same.rfl')⟩
      obtain ⟨dx, fs, vp, ow, oo, sp, np, ls, zst, hvp⟩ := hst.same ((s03.trans s36))
      refine ⟨_, rfl, st, dx, fs, rfl, zst.h, zst.f.no _ (by decide +kernel) (by decide +kernel) (by decide +kernel) (by decide +kernel) (by decide +kernel), _, rfl, _, rfl, st, rs, out, qq.1, qq.2, rfl, ⟨dx, fs, vp, ow, oo, sp, np, ls, zst⟩, hv, hk, _, rfl, iteB (fun c3 => ?_) (fun c3 => stay (by rw [pb]; cases e : live rs out qq.1 qq.2 <;> simp_all) _ Same.rfl')⟩
      have hk6 := s6 _ _ hk5
      refine ⟨_, rfl, .inl ⟨rfl, _, SqL.of hk6⟩, _, rfl, _, rfl, (by show 2 ≤ sizeLine; decide), fun t7 nt7 => ?_⟩
      obtain ⟨G7, e7, s7, ht7⟩ := mkO nt7 (.tup [.int qq.1, .int (qq.2 : Nat)])
      rw [e7]
      have hk7 := s7 _ _ hk6
      have lk : ks.length ≤ 900 := by
        rw [pr5.len, kpo_len]
        exact Nat.le_trans (List.length_filter_le _ _) (by rw [List.length_take]; omega)
      refine ⟨ke, _, _, rfl, rfl, hk7, lt5 (by omega), own_same (s36.trans s7) nke, ⟨_, upd_same, ?_⟩, _, _, _, rfl⟩
      have ePq : Pb qq = true := by rw [pb, c1]; cases e : live rs out qq.1 qq.2 <;> simp_all
      rw [tf, ePq, if_pos rfl, kpo_app]
      exact ((PrD.of (pr5.same (s6.trans s7)) hk7).snoc (fun c => by rw [c, hk7] at ht7; cases ht7) ht7).upd.prs
    · rintro σ H5 ⟨s5, ⟨ks, hk5, pr5⟩, u4, u5, u6, rfl⟩
      rw [ul, List.take_length] at pr5
      have eb : (ptsA rs).filter Pb = brd rs out (fun q => decide (spn (ptsA rs) q ∈ ws)) (fun q => decide (lsn (ptsA rs) q ∈ ws)) := by rw [ePb]; rfl
      rw [eb] at pr5
      refine ⟨_, rfl, sort_prs (SqL.of hk5) pr5 fun ys qs r pm lx pr6 nr => ?_⟩
      refine q _ r ys qs ((s03.trans s5).trans (same_upd nr)) ((s03.trans s5).free nr) upd_same (pr6.same (same_upd nr)) (isl.perm pm) lx ?_
      rw [pm.length_eq, kpo_len]
      exact Nat.le_trans (List.length_filter_le _ _) pl
end
end K63

set_option Elab.async false
set_option linter.all false
set_option maxRecDepth 100000
set_option maxHeartbeats 2000000
/-! L61: draws; names, rows drawn. -/
namespace K63
open PySem PySem.Spec PyProof.Rows L2 LL ST
abbrev s_l_pot : Stmt := top 33
abbrev n_l_pot : List Str := ["_law_script", "_law_k", "_law_cell"]
theorem sc_l_pot : FnScope n_l_pot ["_law_script", "_law_k"] (defScope s_l_pot) := ⟨rfl, rfl, rfl, by decide +kernel, rfl, by decide +kernel, by decide +kernel⟩
abbrev s_l_draw : Stmt := top 34
abbrev n_l_draw : List Str := ["_law_pot_here", "_law_many", "_law_digit"]
theorem sc_l_draw : FnScope n_l_draw ["_law_pot_here", "_law_many"] (defScope s_l_draw) := ⟨rfl, rfl, rfl, by decide +kernel, rfl, by decide +kernel, by decide +kernel⟩
abbrev s_l_shuffled : Stmt := top 35
abbrev n_l_shuffled : List Str := ["_law_pot_here", "_law_things", "_law_pool", "_law_k"]
theorem sc_l_shuffled : FnScope n_l_shuffled ["_law_pot_here", "_law_things"] (defScope s_l_shuffled) := ⟨rfl, rfl, rfl, by decide +kernel, rfl, by decide +kernel, by decide +kernel⟩
abbrev s_l_names : Stmt := top 36
abbrev n_l_names : List Str := ["_law_pot_here", "_law_many", "_law_factor", "_law_more", "_law_number"]
theorem sc_l_names : FnScope n_l_names ["_law_pot_here", "_law_many"] (defScope s_l_names) := ⟨rfl, rfl, rfl, by decide +kernel, rfl, by decide +kernel, by decide +kernel⟩
abbrev s_l_some : Stmt := top 37
abbrev n_l_some : List Str := ["_law_pot_here", "_law_there", "_law_most", "_law_many", "_law_k"]
theorem sc_l_some : FnScope n_l_some ["_law_pot_here", "_law_there", "_law_most"] (defScope s_l_some) := ⟨rfl, rfl, rfl, by decide +kernel, rfl, by decide +kernel, by decide +kernel⟩
abbrev s_l_rows : Stmt := top 38
abbrev n_l_rows : List Str := ["_law_pot_here", "_law_values", "_law_stops", "_law_others", "_law_names_here", "_law_there", "_law_found", "_law_words", "_law_word", "_law_name"]
theorem sc_l_rows : FnScope n_l_rows ["_law_pot_here", "_law_values", "_law_stops", "_law_others"] (defScope s_l_rows) := ⟨rfl, rfl, rfl, by decide +kernel, rfl, by decide +kernel, by decide +kernel⟩
section
variable {P : Program} {w : World} {K : PySem.W.Frag} {mg : Str → Option Value} {base : Heap} {C : Addr} {f : Addr} {fd : FuncData}
def Pot (x y : Int) : Prop := 0 ≤ x ∧ 0 ≤ y ∧ y < 1099511627776
def PotAt (H : Hp) (p : Addr) : Prop := ∃ x y, H p = some (.lst [.int x, .int y]) ∧ Pot x y
theorem PotAt.ne {H : Hp} {p r : Addr} (h : PotAt H p) (n : H r = none) : r ≠ p := fun z => by
  obtain ⟨x, y, e, _⟩ := h
  rw [z, e] at n
  cases n
theorem PotAt.upd {H : Hp} {p r : Addr} {o : HO} (h : PotAt H p) (n : H r = none) : PotAt (L2.upd H r o) p := by
  obtain ⟨x, y, e, q⟩ := id h
  exact ⟨x, y, by rw [upd_ne (h.ne n).symm]; exact e, q⟩
theorem PotAt.same {H H' : Hp} {p : Addr} (h : PotAt H p) (b : Same H H') : PotAt H' p := let ⟨x, y, e, z⟩ := h; ⟨x, y, b _ _ e, z⟩
theorem PotAt.but {H H' : Hp} {p q : Addr} (h : PotAt H p) (b : But q H H') (n : p ≠ q) : PotAt H' p := let ⟨x, y, e, z⟩ := h; ⟨x, y, b _ _ e n, z⟩
/-! ### _law_pot -/
def spPot (K : PySem.W.Frag) : Sp := fun vs H Q _ => ∃ (a : Addr) (ns : List Int) (k : Nat), vs = [.ref a, .int k] ∧ SqL K H a (ns.map V.int) ∧ ns.length ≤ 63 ∧ k < 100 ∧ ∀ H' p, Same H H' → H p = none → PotAt H' p → Q (.ref p) H'
theorem at_map {ns : List Int} {k : Nat} (h : k < ns.length) : atI (ns.map V.int) (k : Int) = some (.int ns[k]) := atI_nat (by rw [List.getElem?_map, List.getElem?_eq_getElem h]; rfl)
theorem ok_l_pot (T : Tx K mg C) (F : FD K "_law_pot" "_law_pot" s_l_pot [] f fd) : FnG P w K mg base CX0 1 f fd ["_law_script", "_law_k"] (spPot K) := by
  refine ok0 F sc_l_pot (fun vs H Q E h => ?_) (fun cdv A outer s H vs Q E hr h => ?_)
  · obtain ⟨a, ns, k, rfl, _⟩ := h
    rfl
  · obtain ⟨a, ns, k, rfl, hS, hl, hk, q⟩ := h
    refine ⟨_, (pss_cons (ps_set (i := 2) sc_l_pot.nd rfl (by first | exact Or.inl rfl | exact Or.inr rfl) (pe_ifExp (pt_cmpR op_lt (pv 1) (pe_callB call_len_seq (by rfl) T.n_len (by decide +kernel) (pa_cons (pv 0) pa_nil)) (nomark _)) (pe_callB call_abs (by rfl) T.n_abs (by decide +kernel) (pa_cons (pe_ix ix_list (pv 0) (pv 1) (fun _ _ => rfl)) pa_nil)) pe_int))
      (pss_one (ps_ret (pe_lst (pa_cons (pe_callB (call_max2 rfl) (by rfl) T.n_max (by decide +kernel) (pa_cons pe_int (pa_cons (pe_op op_sub (pv 2) (pe_op op_pow pe_int pe_int)) pa_nil))) (pa_cons (pe_op op_add (pe_op op_mod (pe_callTy call_int1 (by rfl) T.n_int (by decide +kernel) (pa_cons (pe_op op_pow (pe_op op_add (pe_op op_add (pe_op op_mod (pe_callTy call_int1 (by rfl) T.n_int (by decide +kernel) (pa_cons (pv 2) pa_nil)) pe_int) (pe_op op_mulX pe_int (pv 1))) pe_int) pe_int) pa_nil)) pe_int) pe_int) pa_nil)))))), ?_⟩
    refine ex_cut (fun x H' => H' = H ∧ ∃ c : Int, 0 ≤ c ∧ x = .int c) (fun R hR => ?_) ?_
    · refine ⟨_, rfl, _, rfl, a, _, rfl, .inl hS, _, _, rfl, rfl, _, rfl, iteB (fun e => ?_) (fun e => ?_)⟩
      · have hkl : k < ns.length := by
          have := of_decide_eq_true e
          rw [List.length_map] at this
          omega
        refine ⟨_, rfl, _, rfl, a, _, _, _, rfl, rfl, hS, at_map hkl, _, rfl, hR _ _ ⟨rfl, _, ?_, rfl⟩⟩
        split <;> omega
      · exact hR _ _ ⟨rfl, 0, by decide, rfl⟩
    rintro x H' ⟨rfl, c, c0, rfl⟩
    refine nm_of ?_
    dsimp only
    refine ⟨_, rfl, _, _, rfl, rfl, ⟨by decide, by decide, by decide⟩, _, _, rfl, rfl, _, _, rfl, _, rfl, .inl ⟨_, rfl, _, _, rfl, rfl, (show (0 : Int) < 2147483543 by decide), ?_⟩⟩
    have m0 : 0 ≤ c % 2147483543 := Int.emod_nonneg _ (by decide)
    have m1 : c % 2147483543 < 2147483543 := Int.emod_lt_of_pos _ (by decide)
    refine ⟨_, rfl, _, _, rfl, rfl, mulx_ok (a := 7) (b := 7) (by decide) (by omega) (by decide), _, _, rfl, rfl, _, _, rfl, rfl, _, _, rfl, rfl, ⟨by decide, by decide, by omega⟩, .inl ⟨_, rfl, _, _, rfl, rfl, (show (0 : Int) < 2147483497 by decide), _, _, rfl, rfl, ?_⟩⟩
    refine ⟨(by show 2 ≤ sizeLine; decide), fun p hp => q _ p (same_upd hp) hp ⟨_, _, upd_same, ?_, ?_, ?_⟩⟩
    · split <;> omega
    · have := Int.emod_nonneg ((c % 2147483543 + 103 * (k : Int) + 19) ^ (2 : Int).toNat) (show (2147483497 : Int) ≠ 0 by decide)
      omega
    · have := Int.emod_lt_of_pos ((c % 2147483543 + 103 * (k : Int) + 19) ^ (2 : Int).toNat) (show (0 : Int) < 2147483497 by decide)
      omega
/-! ### _law_draw -/
def spTake : Sp := fun vs H Q _ => ∃ (p : Addr) (m : Int), vs = [.ref p, .int m] ∧ PotAt H p ∧ 0 < m ∧ m < 1000000 ∧ ∀ H' d, But p H H' → PotAt H' p → 0 ≤ d → d < m → Q (.int d) H'
theorem ok_l_draw (T : Tx K mg C) (F : FD K "_law_draw" "_law_draw" s_l_draw [] f fd) : FnG P w K mg base CX0 1 f fd ["_law_pot_here", "_law_many"] spTake := by
  refine ok0 F sc_l_draw (fun vs H Q E h => ?_) (fun cdv A outer s H vs Q E hr h => ?_)
  · obtain ⟨p, m, rfl, _⟩ := h
    rfl
  · obtain ⟨p, m, rfl, ⟨x, y, hp, hx, hy, hy2⟩, m0, m1, q⟩ := h
    refine ⟨_, (pss_cons (ps_if (pt_cmpR op_gt (pe_ix ix_list (pv 0) pe_int (fun _ _ => rfl)) pe_int (nomark _)) (pss_cons (ps_asg (pe_callB call_divmodW (by rfl) T.n_divmod (by decide +kernel) (pa_cons (pe_ix ix_list (pv 0) pe_int (fun _ _ => rfl)) (pa_cons (pv 1) pa_nil))) (pg_tup rfl (pgs_cons (pg_sub (pv 0) pe_int set_list) (pgs_cons (pg_name (i := 2) sc_l_draw.nd rfl (by first | exact Or.inl rfl | exact Or.inr rfl)) pgs_nil))))
      (pss_one (ps_ret (pv 2)))) pss_nil)
      (pss_cons (ps_asg (pe_op op_mod (pe_callTy call_int1 (by rfl) T.n_int (by decide +kernel) (pa_cons (pe_op op_add (pe_op op_mulX (pe_ix ix_list (pv 0) pe_int (fun _ _ => rfl)) pe_int) pe_int) pa_nil)) pe_int) (pg_sub (pv 0) pe_int set_list))
      (pss_one (ps_ret (pe_op op_mod (pe_callTy call_int1 (by rfl) T.n_int (by decide +kernel) (pa_cons (pe_op op_fdivZ (pe_op op_mod (pe_callTy call_int1 (by rfl) T.n_int (by decide +kernel) (pa_cons (pe_op op_mulX (pe_ix ix_list (pv 0) pe_int (fun _ _ => rfl)) (pe_ix ix_list (pv 0) pe_int (fun _ _ => rfl))) pa_nil)) pe_int) pe_int) pa_nil)) (pv 1)))))), ?_⟩
    refine ⟨_, rfl, p, _, _, _, rfl, rfl, SqL.of hp, atI_nat (j := 0) rfl, _, _, rfl, rfl, _, rfl, iteB (fun e => ?_) (fun e => ?_)⟩
    · have x0 : 0 < x := of_decide_eq_true e
      refine ⟨_, rfl, p, _, _, _, rfl, rfl, SqL.of hp, atI_nat (j := 0) rfl, _, rfl, _, _, rfl, ⟨m0, PyProof.noPylong_small (by omega)⟩, fun t ht => ?_⟩
      have npt : p ≠ t := ne_of_none hp ht
      refine ⟨t, _, rfl, SqT.of upd_same, rfl, _, _, rfl, _, rfl, p, _, _, 0, rfl, rfl, (by rw [upd_ne npt]; exact hp), rfl, ?_⟩
      refine ⟨_, _, rfl, rfl, _, rfl, ?_⟩
      refine q _ _ (fun b o e n => ?_) ⟨_, _, upd_same, Int.ediv_nonneg hx (by omega), hy, hy2⟩ (Int.emod_nonneg _ (by omega)) (Int.emod_lt_of_pos _ m0)
      rw [upd_ne n, upd_ne (ne_of_none e ht)]
      exact e
    · have z0 : 0 ≤ (y * 48271 + 10007) % 2147483587 := Int.emod_nonneg _ (by decide)
      have z1 : (y * 48271 + 10007) % 2147483587 < 2147483587 := Int.emod_lt_of_pos _ (by decide)
      refine ⟨_, rfl, p, _, _, _, rfl, rfl, SqL.of hp, atI_nat (j := 1) rfl, _, _, rfl, rfl, mulx_ok (a := 40) (b := 16) (by omega) (by decide) (by decide), _, _, rfl, rfl, .inl ⟨_, rfl, _, _, rfl, rfl, (show (0 : Int) < 2147483587 by decide), ?_⟩⟩
      refine ⟨_, rfl, p, _, _, 1, rfl, rfl, hp, rfl, ?_⟩
      refine ⟨_, rfl, p, _, _, _, rfl, rfl, SqL.of upd_same, atI_nat (j := 1) rfl, _, rfl, p, _, _, _, rfl, rfl, SqL.of upd_same, atI_nat (j := 1) rfl, _, _, rfl, rfl, mulx_ok (a := 32) (b := 32) (by omega) (by omega) (by decide), .inl ⟨_, rfl, _, _, rfl, rfl, (show (0 : Int) < 2147483549 by decide), _, _, rfl, rfl, ⟨by decide, by decide⟩, .inl ⟨_, rfl, _, rfl, _, _, rfl, rfl, m0, ?_⟩⟩⟩
      exact q _ _ but_upd ⟨_, _, upd_same, hx, z0, by omega⟩ (Int.emod_nonneg _ (by omega)) (Int.emod_lt_of_pos _ m0)
/-! ### _law_shuffled -/
theorem perm_erase {α : Type} {F L : List α} {k : Nat} (hk : k < L.length) : (F ++ [L[k]] ++ L.eraseIdx k).Perm (F ++ L) := by
  have e : L = L.take k ++ L[k] :: L.drop (k + 1) := by rw [List.getElem_cons_drop, List.take_append_drop]
  rw [List.eraseIdx_eq_take_drop_succ, List.append_assoc]
  refine List.Perm.append_left F ?_
  conv => rhs; rw [e]
  rw [List.singleton_append]
  exact (List.perm_middle).symm
theorem seq_ix {k n : Nat} (h : k < n) : seqIndex? (k : Int) n = some k := by
  unfold seqIndex?
  dsimp only
  rw [if_neg (show ¬ ((k : Int) < 0) by omega), if_pos (by rw [decide_eq_true (show (0 : Int) ≤ k by omega), decide_eq_true (show (k : Int) < n by omega)]; rfl), Int.toNat_natCast]
theorem map_erase {α : Type} (g : α → V) (L : List α) (k : Nat) : (L.map g).eraseIdx k = (L.eraseIdx k).map g := by
  rw [List.eraseIdx_eq_take_drop_succ, List.eraseIdx_eq_take_drop_succ, List.map_append, List.map_take, List.map_drop]
def spShuf : Sp := fun vs H Q _ => ∃ (p a : Addr) (α : Type) (g : α → V) (l : List α), vs = [.ref p, .ref a] ∧ PotAt H p ∧ H a = some (.lst (l.map g)) ∧ a ≠ p ∧ l.length ≤ 1000 ∧ ∀ H' q (l' : List α), But p H H' → PotAt H' p → H q = none → q ≠ p → H' q = some (.lst (l'.map g)) → l'.Perm l → Q (.ref q) H'
theorem ok_l_shuffled (T : Tx K mg C) (G_l_draw : Fnc P w K mg base CX0 1 "_law_draw" [] spTake) (F : FD K "_law_shuffled" "_law_shuffled" s_l_shuffled [] f fd) : FnG P w K mg base CX0 2 f fd ["_law_pot_here", "_law_things"] spShuf := by
  refine ok0 F sc_l_shuffled (fun vs H Q E h => ?_) (fun cdv A outer s H vs Q E hr h => ?_)
  · obtain ⟨p, a, α, g, l, rfl, _⟩ := h
    rfl
  · obtain ⟨p, a, α, g, l, rfl, hp, ha, nap, ll, q⟩ := h
    refine ⟨_, (pss_cons (ps_set (i := 2) sc_l_shuffled.nd rfl (by first | exact Or.inl rfl | exact Or.inr rfl) (pe_callTy call_list_of (by rfl) T.n_list (by decide +kernel) (pa_cons (pv 1) pa_nil)))
      (pss_one (ps_ret (pe_lc (own := [("_law_k", 3)]) rfl sc_l_shuffled.nd (pi_range1 (by rfl) T.n_range (pa_cons (pe_callB call_len_seq (by rfl) T.n_len (by decide +kernel) (pa_cons (pv 1) pa_nil)) pa_nil)) (blkOk_by (own := [("_law_k", 3)]) (N := n_l_shuffled) (sc := defScope s_l_shuffled) (by decide +kernel)) (fun _ _ _ _ _ => (pg_name (i := 3) sc_l_shuffled.nd rfl (by first | exact Or.inl rfl | exact Or.inr rfl))) (fun _ _ _ _ _ => pts_nil) (fun _ _ _ _ _ => (pe_bmN (K := K) (by rfl) PySem.F.plainAttrs_list PySem.F.slot_list_pop PySem.F.type_list_pop mt_popAt (pv 2) (pa_cons (pe_fn G_l_draw (hr.mono (by decide)) pass0 (pa_cons (pv 0) (pa_cons (pe_callB (call_len_seqK (K := K) (by rfl)) (by rfl) T.n_len (by decide +kernel) (pa_cons (pv 2) pa_nil)) pa_nil))) pa_nil))))))), ?_⟩
    refine ⟨_, rfl, a, _, rfl, .inl (SqL.of ha), fun lf nlf => ?_⟩
    obtain ⟨G1, e, s1, hlf⟩ := mkO nlf (.lst (l.map g))
    rw [e]
    clear e
    have hp1 := hp.same s1
    have lfp : lf ≠ p := hp.ne nlf
    refine nm_of ?_
    dsimp only
    refine ⟨_, rfl, a, _, rfl, .inl (SqL.of (s1 _ _ ha)), _, rfl, by rw [List.length_map]; omega, by rw [List.length_map]; omega, fun D nD => ?_⟩
    have nDp : D ≠ p := hp1.ne nD
    have nDl : D ≠ lf := fun z => by rw [z, hlf] at nD; cases nD
    have nD0 : H D = none := s1.free nD
    rw [Int.toNat_natCast, List.length_map]
    refine lc_inv (walk_range (lo := 0) (n := l.length)) (fun j acc H' => But p H H' ∧ PotAt H' p ∧ ∃ L F : List α, H' lf = some (.lst (L.map g)) ∧ acc = F.map g ∧ (F ++ L).Perm l ∧ F.length = j) (fun j acc H' xs z => ⟨own_but z.1 nD0, z.2.1.but but_upd nDp.symm, by
      obtain ⟨_, _, L, F, hL, z⟩ := z
      exact ⟨L, F, by rw [upd_ne nDl.symm]; exact hL, z⟩⟩) ⟨But.of s1, hp1, l, [], hlf, rfl, .refl _, rfl⟩ ?_ (fun _ _ _ _ _ => trivial) ?_ ?_
    · rintro j acc H' hj ⟨_, _, L, F, _, rfl, _, lF⟩
      rw [List.length_map, lF]
      exact Nat.lt_of_lt_of_le (show _ < 100000 by omega) (small (Nat.le_refl _))
    · rintro j x acc H3 H4 hj ⟨b3, hp3, L, F', hL, rfl, pm, lF⟩ hD3 ⟨rfl, rfl⟩ N S hN hS
      have lL : L.length = l.length - j := by
        have := pm.length_eq
        rw [List.length_append] at this
        omega
      refine ⟨rfl, _, rfl, .inl ⟨rfl, _, SqL.of hL⟩, _, rfl, _, rfl, lf, _, rfl, .inl (SqL.of hL), p, _, rfl, hp3, by rw [List.length_map]; omega, by rw [List.length_map]; omega, fun H5 d b5 hp5 d0 d1 => ?_⟩
      obtain ⟨k, rfl⟩ := Int.eq_ofNat_of_zero_le d0
      rw [List.length_map] at d1
      have hk : k < L.length := by omega
      have hL5 := b5 _ _ hL lfp
      refine ⟨lf, _, _, k, g L[k], rfl, rfl, hL5, by omega, by omega, ?_, ?_, ?_⟩
      · rw [List.length_map]
        exact seq_ix hk
      · rw [List.getElem?_map, List.getElem?_eq_getElem hk]
        rfl
      refine hN _ _ (by rw [upd_ne nDl]; exact b5 _ _ hD3 nDp) ⟨own_but (b3.trans b5) nlf, hp5.but but_upd lfp.symm, L.eraseIdx k, F' ++ [L[k]], by rw [upd_same, map_erase], by rw [List.map_append]; rfl, (perm_erase hk).trans pm, by rw [List.length_append, lF]; rfl⟩
    · rintro acc H3 hD3 ⟨b3, hp3, L, F', hL, rfl, pm, lF⟩
      have lL : L = [] := by
        have := pm.length_eq
        rw [List.length_append] at this
        exact List.length_eq_zero_iff.mp (by omega)
      rw [lL, List.append_nil] at pm
      exact q _ D F' b3 hp3 nD0 nDp hD3 pm
end
end K63

set_option Elab.async false
set_option linter.all false
set_option maxRecDepth 100000
set_option maxHeartbeats 2000000
/-! L61b: names, rows drawn. -/
namespace K63
open PySem PySem.Spec PyProof.Rows L2 LL ST
section
variable {P : Program} {w : World} {K : PySem.W.Frag} {mg : Str → Option Value} {base : Heap} {C : Addr} {f : Addr} {fd : FuncData}
theorem rg_nV (m : Nat) : rgV 0 (m : Int) = nV (List.range m) := by
  unfold rgV nV
  rw [show ((m : Int) - 0).toNat = m by omega]
  refine List.map_congr_left fun i _ => ?_
  rw [Int.zero_add]
/-! ### _law_names -/
def spNames : Sp := fun vs H Q _ => ∃ (p : Addr) (m : Nat), vs = [.ref p, .int (m : Nat)] ∧ PotAt H p ∧ m ≤ 20 ∧ ∀ H' q (ns : List Int), But p H H' → PotAt H' p → H q = none → q ≠ p → H' q = some (.lst (ns.map V.int)) → ns.Nodup → (∀ n ∈ ns, IOk n) → ns.length = m → Q (.ref q) H'
theorem ok_l_names (T : Tx K mg C) (G_l_draw : Fnc P w K mg base CX0 1 "_law_draw" [] spTake) (G_l_shuffled : Fnc P w K mg base CX0 2 "_law_shuffled" [] spShuf) (F : FD K "_law_names" "_law_names" s_l_names [] f fd) : FnG P w K mg base CX0 3 f fd ["_law_pot_here", "_law_many"] spNames := by
  refine ok0 F sc_l_names (fun vs H Q E h => ?_) (fun cdv A outer s H vs Q E hr h => ?_)
  · obtain ⟨p, m, rfl, _⟩ := h
    rfl
  · obtain ⟨p, m, rfl, hp, hm, q⟩ := h
    refine ⟨_, (pss_cons (ps_asg (pe_tup (pa_cons (pe_ix ix_list (pe_lst (pa_cons pe_int (pa_cons pe_int (pa_cons pe_int (pa_cons (pe_op op_pow pe_int pe_int) pa_nil))))) (pe_fn G_l_draw (hr.mono (by decide)) pass0 (pa_cons (pv 0) (pa_cons pe_int pa_nil))) (fun _ _ => rfl)) (pa_cons (pe_ix ix_list (pe_lst (pa_cons pe_int (pa_cons pe_int (pa_cons pe_int pa_nil)))) (pe_fn G_l_draw (hr.mono (by decide)) pass0 (pa_cons (pv 0) (pa_cons pe_int pa_nil))) (fun _ _ => rfl)) pa_nil))) (pg_tup rfl (pgs_cons (pg_name (i := 2) sc_l_names.nd rfl (by first | exact Or.inl rfl | exact Or.inr rfl)) (pgs_cons (pg_name (i := 3) sc_l_names.nd rfl (by first | exact Or.inl rfl | exact Or.inr rfl)) pgs_nil))))
      (pss_one (ps_ret (pe_lc (own := [("_law_number", 4)]) rfl sc_l_names.nd (pi_list (pe_fn G_l_shuffled (hr.mono (by decide)) pass0 (pa_cons (pv 0) (pa_cons (pe_listRg rfl (by rfl) T.n_list (prg_1 (by rfl) T.n_range (pv 1))) pa_nil)))) (blkOk_by (own := [("_law_number", 4)]) (N := n_l_names) (sc := defScope s_l_names) (by decide +kernel)) (fun _ _ _ _ _ => (pg_name (i := 4) sc_l_names.nd rfl (by first | exact Or.inl rfl | exact Or.inr rfl))) (fun _ _ _ _ _ => pts_nil) (fun _ _ _ _ _ => (pe_op op_add (pe_op op_mulX (pv 4) (pv 2)) (pv 3))))))), ?_⟩
    refine ⟨_, _, rfl, rfl, ⟨by decide, by decide, by decide⟩, (by show 4 ≤ sizeLine; decide), fun l1 n1 => ?_⟩
    obtain ⟨G1, e, s1, h1⟩ := mkO n1 (.lst [.int 1, .int 1, .int 3, .int (10 ^ (25 : Int).toNat)])
    rw [e]
    clear e
    refine ⟨_, rfl, p, _, rfl, hp.same s1, by decide, by decide, fun H2 d b2 hp2 d0 d1 => ?_⟩
    obtain ⟨k, rfl⟩ := Int.eq_ofNat_of_zero_le d0
    have n1p := hp.ne n1
    obtain ⟨fa, ef, fp⟩ : ∃ fa : Int, ([.int 1, .int 1, .int 3, .int (10 ^ (25 : Int).toNat)] : List V)[k]? = some (.int fa) ∧ (fa = 1 ∨ fa = 3 ∨ fa = 10 ^ 25) := by
      match k, d1 with
      | 0, _ => exact ⟨_, rfl, .inl rfl⟩
      | 1, _ => exact ⟨_, rfl, .inl rfl⟩
      | 2, _ => exact ⟨_, rfl, .inr (.inl rfl)⟩
      | 3, _ => exact ⟨_, rfl, .inr (.inr rfl)⟩
      | k + 4, h => omega
    refine ⟨l1, _, _, _, rfl, rfl, SqL.of (b2 _ _ h1 n1p), atI_nat ef, (by show 3 ≤ sizeLine; decide), fun l2 n2 => ?_⟩
    obtain ⟨G3, e, s3, h3⟩ := mkO n2 (.lst [.int 0, .int 0, .int 5])
    rw [e]
    clear e
    refine ⟨_, rfl, p, _, rfl, hp2.same s3, by decide, by decide, fun H4 d b4 hp4 d0 d1 => ?_⟩
    obtain ⟨k', rfl⟩ := Int.eq_ofNat_of_zero_le d0
    have n2p := hp2.ne n2
    obtain ⟨mo, em, mp⟩ : ∃ mo : Int, ([.int 0, .int 0, .int 5] : List V)[k']? = some (.int mo) ∧ (mo = 0 ∨ mo = 5) := by
      match k', d1 with
      | 0, _ => exact ⟨_, rfl, .inl rfl⟩
      | 1, _ => exact ⟨_, rfl, .inl rfl⟩
      | 2, _ => exact ⟨_, rfl, .inr rfl⟩
      | k + 3, h => omega
    refine ⟨l2, _, _, _, rfl, rfl, SqL.of (b4 _ _ h3 n2p), atI_nat em, (by show 2 ≤ sizeLine; decide), fun tt ntt => ⟨tt, _, rfl, SqT.of upd_same, rfl, _, _, rfl, _, _, rfl, rfl, ?_⟩⟩
    obtain ⟨G5, e, s5, h5⟩ := mkO ntt (.tup [.int fa, .int mo])
    rw [e]
    clear e
    have B5 : But p H G5 := ((But.of s1).trans (b2.trans ((But.of s3).trans b4))).trans (But.of s5)
    have hp5 := hp4.same s5
    refine ⟨_, rfl, _, rfl, _, rfl, RgOk.of_le (by decide) (by omega) (by decide) (by omega), fun lr nlr => ?_⟩
    rw [rg_nV]
    obtain ⟨G6, e, s6, h6⟩ := mkO nlr (.lst (nV (List.range m)))
    rw [e]
    clear e
    have nlp := hp5.ne nlr
    refine ⟨p, lr, Nat, (fun s => V.int (s : Nat)), List.range m, rfl, hp5.same s6, h6, nlp, by rw [List.length_range]; omega, fun H7 q7 l' b7 hp7 nq nqp hq pm => ?_⟩
    have B7 : But p H H7 := (B5.trans (But.of s6)).trans b7
    have ll : l'.length = m := by rw [pm.length_eq, List.length_range]
    refine ⟨q7, rfl, ⟨_, SqL.of hq⟩, fun D nD => ?_⟩
    refine lc_acc (walk_list (K := K) (a := q7) (xs := nV l')) nD (fun j => (l'.take j).map fun (i : Nat) => V.int ((i : Int) * fa + mo)) rfl (fun j hj => ?_) (fun H' s' => SqL.of (s' _ _ hq)) ?_ ?_
    · rw [List.length_map, List.length_take]
      omega
    · rintro j x H8 H9 hj s8 ⟨rfl, hx⟩ N S hN hS
      rw [List.getElem?_map] at hx
      obtain ⟨i, hi, rfl⟩ := Option.map_eq_some_iff.mp hx
      have im : i < m := List.mem_range.mp (pm.mem_iff.mp (List.mem_of_getElem? hi))
      refine ⟨rfl, _, rfl, _, rfl, _, _, rfl, rfl, mulx_ok (a := 10) (b := 100) (by omega) (by rcases fp with rfl | rfl | rfl <;> decide) (by decide), _, rfl, _, _, rfl, rfl, hN _ _ Same.rfl' ?_⟩
      rw [take_map _ hi]
    intro H8 s8 h8
    rw [List.length_map, List.take_length] at h8
    have nD0 : H D = none := B7.free (hp7.ne nD) nD
    refine q H8 D (l'.map fun (i : Nat) => (i : Int) * fa + mo) (but_same B7 s8) (hp7.same s8) nD0 (hp7.ne nD) ?_ ?_ ?_ ?_
    · rw [h8, List.map_map]
      rfl
    · refine List.Pairwise.map _ (fun a b (h : a ≠ b) => ?_) (pm.nodup_iff.mpr List.nodup_range)
      have f0 : fa ≠ 0 := by rcases fp with rfl | rfl | rfl <;> decide
      intro z
      have z : (a : Int) * fa = b * fa := by omega
      exact h (by have := Int.eq_of_mul_eq_mul_right f0 z; omega)
    · intro n hn
      obtain ⟨i, hi, rfl⟩ := List.mem_map.mp hn
      have im : i < m := List.mem_range.mp (pm.mem_iff.mp hi)
      unfold IOk
      rcases fp with rfl | rfl | rfl <;> rcases mp with rfl | rfl <;> constructor <;> omega
    · rw [List.length_map, ll]
/-! ### _law_some -/
def spSome : Sp := fun vs H Q _ => ∃ (p a : Addr) (ts : List Int) (m : Nat), vs = [.ref p, .ref a, .int (m : Nat)] ∧ PotAt H p ∧ H a = some (.lst (ts.map V.int)) ∧ a ≠ p ∧ ts.length ≤ 1000 ∧ m ≤ 20 ∧
  ∀ H' u (os : List Int), But p H H' → PotAt H' p → OpT H' u os → (∀ o ∈ os, o ∈ ts) → os.length ≤ m → Q u H'
theorem ok_l_some (T : Tx K mg C) (G_l_draw : Fnc P w K mg base CX0 1 "_law_draw" [] spTake) (F : FD K "_law_some" "_law_some" s_l_some [] f fd) : FnG P w K mg base CX0 2 f fd ["_law_pot_here", "_law_there", "_law_most"] spSome := by
  refine ok0 F sc_l_some (fun vs H Q E h => ?_) (fun cdv A outer s H vs Q E hr h => ?_)
  · obtain ⟨p, a, ts, m, rfl, _⟩ := h
    rfl
  · obtain ⟨p, a, ts, m, rfl, hp, ha, nap, lt, hm, q⟩ := h
    refine ⟨_, (pss_cons (ps_set (i := 3) sc_l_some.nd rfl (by first | exact Or.inl rfl | exact Or.inr rfl) (pe_fn G_l_draw (hr.mono (by decide)) pass0 (pa_cons (pv 0) (pa_cons (pe_op op_add (pv 2) pe_int) pa_nil))))
      (pss_one (ps_ret (pe_callTy call_tuple_of (by rfl) T.n_tuple (by decide +kernel) (pa_cons (pe_lc (own := [("_law_k", 4)]) rfl sc_l_some.nd (pi_range1 (by rfl) T.n_range (pa_cons (pe_op op_mulX (pv 3) (pe_callTy call_int1 (by rfl) T.n_int (by decide +kernel) (pa_cons (pe_cmpR (op_neD hr.r.units) (pv 1) (pe_lst pa_nil) (nomark _)) pa_nil))) pa_nil)) (blkOk_by (own := [("_law_k", 4)]) (N := n_l_some) (sc := defScope s_l_some) (by decide +kernel)) (fun _ _ _ _ _ => (pg_name (i := 4) sc_l_some.nd rfl (by first | exact Or.inl rfl | exact Or.inr rfl))) (fun _ _ _ _ _ => pts_nil) (fun _ _ _ _ _ => (pe_ix (ix_listK (K := K) (by rfl)) (pv 1) (pe_fn G_l_draw (hr.mono (by decide)) pass0 (pa_cons (pv 0) (pa_cons (pe_callB (call_len_seqK (K := K) (by rfl)) (by rfl) T.n_len (by decide +kernel) (pa_cons (pv 1) pa_nil)) pa_nil))) (fun _ _ => rfl)))) pa_nil))))), ?_⟩
    refine ⟨_, rfl, _, rfl, _, _, rfl, rfl, p, _, rfl, hp, by omega, by omega, fun H1 d b1 hp1 d0 d1 => ?_⟩
    obtain ⟨k, rfl⟩ := Int.eq_ofNat_of_zero_le d0
    have ha1 := b1 _ _ ha nap
    refine nm_of ?_
    dsimp only
    refine ⟨_, rfl, _, rfl, (by show 0 ≤ sizeLine; decide), fun l1 n1 => ?_⟩
    obtain ⟨G2, e, s2, h2⟩ := mkO n1 (.lst [])
    rw [e]
    clear e
    have ha2 := s2 _ _ ha1
    have hp2 := hp1.same s2
    refine ne_pd (dp_ints ha2) (dp_ints (l := []) h2) (pn_ints _) (pn_ints _) fun b hb => .inr ⟨_, rfl, ?_⟩
    refine ⟨_, _, rfl, rfl, mulx_ok (a := 10) (b := 2) (by omega) (by cases b <;> decide) (by decide), ?_⟩
    obtain ⟨n, en, hn, hts⟩ : ∃ n : Nat, (k : Int) * (if (!b) = true then 1 else 0) = (n : Nat) ∧ n ≤ k ∧ (0 < n → ts ≠ []) := by
      cases b with
      | true => exact ⟨0, by simp, Nat.zero_le _, fun z => absurd z (Nat.lt_irrefl _)⟩
      | false => exact ⟨k, by simp, Nat.le_refl _, fun _ z => by
          have := hb.mpr (by rw [z])
          cases this⟩
    refine ⟨((n : Nat) : Int), congrArg (fun z => [V.int z]) en, by omega, by omega, fun D nD => ?_⟩
    rw [Int.toNat_natCast]
    have nDp := hp2.ne nD
    have B2 : But p H G2 := but_same b1 s2
    have nD0 : H D = none := B2.free nDp nD
    have nDa : a ≠ D := ne_of_none ha2 nD
    refine lc_inv (walk_range (lo := 0) (n := n)) (fun j acc H' => But p H H' ∧ PotAt H' p ∧ ∃ os : List Int, acc = os.map V.int ∧ os.length = j ∧ ∀ o ∈ os, o ∈ ts) (fun j acc H' xs z => ⟨own_but z.1 nD0, z.2.1.but but_upd nDp.symm, z.2.2⟩) ⟨B2, hp2, [], rfl, rfl, fun c hc => by cases hc⟩ ?_ (fun _ _ _ _ _ => trivial) ?_ ?_
    · rintro j acc H' hj ⟨_, _, r, rfl, e, _⟩
      rw [List.length_map, e]
      exact Nat.lt_of_lt_of_le (show _ < 100000 by omega) (small (Nat.le_refl _))
    · rintro j x acc H3 H4 hj ⟨b3, hp3, os, rfl, lo, ho⟩ hD3 ⟨rfl, rfl⟩ N S hN hS
      have t0 : 0 < ts.length := List.length_pos_iff.mpr (hts (by omega))
      have ha3 := b3 _ _ ha nap
      refine ⟨rfl, _, rfl, _, rfl, _, rfl, a, _, rfl, .inl (SqL.of ha3), p, _, rfl, hp3, by rw [List.length_map]; omega, by rw [List.length_map]; omega, fun H5 d b5 hp5 d0 d1 => ?_⟩
      obtain ⟨i, rfl⟩ := Int.eq_ofNat_of_zero_le d0
      rw [List.length_map] at d1
      have hi : i < ts.length := by omega
      refine ⟨a, _, _, _, rfl, rfl, SqL.of (b5 _ _ ha3 nap), at_map hi, hN _ _ (b5 _ _ hD3 nDp) ⟨b3.trans b5, hp5, os ++ [ts[i]], by rw [List.map_append]; rfl, by rw [List.length_append, lo]; rfl, fun o ho' => ?_⟩⟩
      rcases List.mem_append.mp ho' with z | z
      · exact ho o z
      · rw [List.mem_singleton.mp z]
        exact List.getElem_mem hi
    · rintro acc H3 hD3 ⟨b3, hp3, os, rfl, lo, ho⟩
      refine ⟨D, _, rfl, .inl ⟨SqL.of hD3, fun tp ntp => q _ _ os (but_same b3 (same_upd ntp)) (hp3.same (same_upd ntp)) ⟨tp, rfl, upd_same⟩ ho (by omega)⟩⟩
end
end K63

set_option Elab.async false
set_option linter.all false
set_option maxRecDepth 100000
set_option maxHeartbeats 2000000
/-! L61c: rows drawn. -/
namespace K63
open PySem PySem.Spec PyProof.Rows L2 LL ST
theorem OpT.kp {H H' : Hp} {u : V} {os : List Int} (h : OpT H u os) (s : Kp H H') : OpT H' u os := let ⟨o, e, x⟩ := h; ⟨o, e, s _ _ x (fun _ z => nomatch z)⟩
theorem RwAt.kp {H H' : Hp} {v : V} {r : Rw} (h : RwAt H v r) (s : Kp H H') : RwAt H' v r := by
  cases r with
  | leaf n => exact let ⟨t, e, x⟩ := h; ⟨t, e, s _ _ x (fun _ z => nomatch z)⟩
  | set n os => exact let ⟨t, u, e, x, o⟩ := h; ⟨t, u, e, s _ _ x (fun _ z => nomatch z), o.kp s⟩
  | use os => exact let ⟨t, u, e, x, o⟩ := h; ⟨t, u, e, s _ _ x (fun _ z => nomatch z), o.kp s⟩
  | stop l os => exact let ⟨t, u, e, x, o⟩ := h; ⟨t, u, e, s _ _ x (fun _ z => nomatch z), o.kp s⟩
theorem Rws.kp {H H' : Hp} {vs : List V} {rs : Rs} (h : Rws H vs rs) (s : Kp H H') : Rws H' vs rs := ⟨h.len, fun i v e => (h.at_ i v e).kp s⟩
theorem PotAt.kp {H H' : Hp} {p : Addr} (h : PotAt H p) (b : But p H H') : Kp H H' := let ⟨_, _, e, _⟩ := h; b.kp e
theorem Rws.snoc {H : Hp} {vs : List V} {rs : Rs} {v : V} {r : Rw} (h : Rws H vs rs) (hr : RwAt H v r) : Rws H (vs ++ [v]) (rs ++ [r]) := by
  refine ⟨by rw [List.length_append, List.length_append, h.len]; rfl, fun i u e => ?_⟩
  by_cases c : i < vs.length
  · rw [List.getElem?_append_left c] at e
    rw [rw_app (by rw [← h.len]; exact c)]
    exact h.at_ i u e
  · have hi := (List.getElem?_eq_some_iff.mp e).1
    rw [List.length_append, List.length_singleton] at hi
    have ei : i = vs.length := by omega
    subst ei
    rw [List.getElem?_append_right (Nat.le_refl _), Nat.sub_self] at e
    cases e
    rw [h.len, rw_last]
    exact hr
theorem rws_nil {H : Hp} : Rws H [] [] := ⟨rfl, fun i v e => by simp at e⟩
theorem rsok_nil : RsOk [] := ⟨fun i h => absurd h (Nat.not_lt_zero _), fun i h => absurd h (Nat.not_lt_zero _), by decide⟩
theorem flat_rep (x : V) : ∀ n, (List.replicate n [x]).flatten = List.replicate n x
  | 0 => rfl
  | n + 1 => by rw [List.replicate_succ, List.flatten_cons, flat_rep x n, List.replicate_succ]; rfl
abbrev vS : Str := "value"
abbrev sS : Str := "stop"
theorem stA_snoc {rs : Rs} {r : Rw} : (stA (rs ++ [r])).length = (stA rs).length + if r.isStop then 1 else 0 := by
  have e : ∀ i, i ≤ rs.length → stp (rs ++ [r]) i = stp rs i := by
    intro i
    induction i with
    | zero => intro _; rfl
    | succ i ih =>
      intro hi
      rw [stp, stp, ih (by omega), rw_app (by omega)]
  show (stp (rs ++ [r]) (rs ++ [r]).length).length = _
  rw [List.length_append, List.length_singleton, stp, e _ (Nat.le_refl _), rw_last, List.length_append]
  show (stA rs).length + _ = _
  cases r.isStop <;> rfl
theorem sw : ("value" : Str) ≠ "stop" := by decide +kernel
theorem sw2 : ("value" : Str) ≠ "use" := by decide +kernel
theorem sw3 : ("stop" : Str) ≠ "use" := by decide +kernel
theorem cnt_v : List.count sS [("value" : Str)] = 0 := by rw [List.count_singleton, if_neg (by rw [beq_iff_eq]; exact fun z => sw z)]
theorem cnt_u : List.count sS [("use" : Str)] = 0 := by rw [List.count_singleton, if_neg (by rw [beq_iff_eq]; exact fun z => sw3 z.symm)]
section
variable {P : Program} {w : World} {K : PySem.W.Frag} {mg : Str → Option Value} {base : Heap} {C : Addr} {f : Addr} {fd : FuncData}
def spRows : Sp := fun vs H Q _ => ∃ (p : Addr) (va sb oc : Nat), vs = [.ref p, .int (va : Nat), .int (sb : Nat), .int (oc : Nat)] ∧ 1 ≤ va ∧ va ≤ 14 ∧ sb ≤ 8 ∧ oc ≤ 6 ∧ PotAt H p ∧
  ∀ H' t fo lo rs ls (out : List Int), But p H H' → PotAt H' p → H' t = some (.tup [.ref fo, .ref lo]) → H' fo = some (.lst ls) → Rws H' ls rs → RsOk rs → LabOk rs → rs.length ≤ 28 → vlA rs ≠ [] → H' lo = some (.lst (out.map V.int)) → (∀ n ∈ out, n ∈ vlA rs) → out.length ≤ 2 → H fo = none → H lo = none → fo ≠ lo → fo ≠ p → lo ≠ p → (vlA rs).length ≤ va → (stA rs).length ≤ sb → Q (.ref t) H'
theorem ok_l_rows (T : Tx K mg C) (G_l_draw : Fnc P w K mg base CX0 1 "_law_draw" [] spTake) (G_l_shuffled : Fnc P w K mg base CX0 2 "_law_shuffled" [] spShuf) (G_l_names : Fnc P w K mg base CX0 3 "_law_names" [] spNames) (G_l_some : Fnc P w K mg base CX0 2 "_law_some" [] spSome)
    (F : FD K "_law_rows" "_law_rows" s_l_rows [] f fd) : FnG P w K mg base CX0 4 f fd ["_law_pot_here", "_law_values", "_law_stops", "_law_others"] spRows := by
  refine ok0 F sc_l_rows (fun vs H Q E h => ?_) (fun cdv A outer s H vs Q E hr h => ?_)
  · obtain ⟨p, va, sb, oc, rfl, _⟩ := h
    rfl
  · obtain ⟨p, va, sb, oc, rfl, va1, va2, sb2, oc2, hp, q⟩ := h
    refine ⟨_, (pss_cons (ps_par3 (i := 4) (j := 5) (l := 6) rfl sc_l_rows.nd rfl rfl rfl (by decide) (by decide) (by decide) rfl rfl rfl (pa_cons (pe_fn G_l_names (hr.mono (by decide)) pass0 (pa_cons (pv 0) (pa_cons (pe_op op_add pe_int (pe_fn G_l_draw (hr.mono (by decide)) pass0 (pa_cons (pv 0) (pa_cons (pv 1) pa_nil)))) pa_nil))) (pa_cons (pe_lst pa_nil) (pa_cons (pe_lst pa_nil) pa_nil))) (by rfl))
      (pss_cons (ps_set (i := 7) sc_l_rows.nd rfl (by first | exact Or.inl rfl | exact Or.inr rfl) (pe_op op_cat (pe_op op_cat (pe_op op_rep (pe_lst (pa_cons pe_str pa_nil)) (pe_callB call_len_seq (by rfl) T.n_len (by decide +kernel) (pa_cons (pv 4) pa_nil))) (pe_op op_rep (pe_lst (pa_cons pe_str pa_nil)) (pe_fn G_l_draw (hr.mono (by decide)) pass0 (pa_cons (pv 0) (pa_cons (pe_op op_add (pv 2) pe_int) pa_nil))))) (pe_op op_rep (pe_lst (pa_cons pe_str pa_nil)) (pe_fn G_l_draw (hr.mono (by decide)) pass0 (pa_cons (pv 0) (pa_cons (pe_op op_add (pv 3) pe_int) pa_nil))))))
      (pss_cons (ps_for PassesOwn.never rfl (pi_list (pe_fn G_l_shuffled (hr.mono (by decide)) pass0 (pa_cons (pv 0) (pa_cons (pv 7) pa_nil)))) (pg_name (i := 8) sc_l_rows.nd rfl (by first | exact Or.inl rfl | exact Or.inr rfl)) (pss_one (ps_if (pt_cmpR op_eq (pv 8) pe_str (nomark _)) (pss_one (ps_expr (pe_bm PySem.F.plainAttrs_list PySem.F.slot_list_append PySem.F.type_list_append mt_append (pv 6) (pa_cons (pe_tup (pa_cons pe_str (pa_cons (pe_ix ix_list (pe_lst (pa_cons pe_str (pa_cons pe_str (pa_cons pe_str (pa_cons pe_str pa_nil))))) (pe_fn G_l_draw (hr.mono (by decide)) pass0 (pa_cons (pv 0) (pa_cons pe_int pa_nil))) (fun _ _ => rfl)) (pa_cons (pe_fn G_l_some (hr.mono (by decide)) pass0 (pa_cons (pv 0) (pa_cons (pv 5) (pa_cons pe_int pa_nil)))) pa_nil)))) pa_nil)))) (pss_one (ps_if (pt_cmpR op_eq (pv 8) pe_str (nomark _)) (pss_one (ps_expr (pe_bm PySem.F.plainAttrs_list PySem.F.slot_list_append PySem.F.type_list_append mt_append (pv 6) (pa_cons (pe_tup (pa_cons pe_str (pa_cons (pe_fn G_l_some (hr.mono (by decide)) pass0 (pa_cons (pv 0) (pa_cons (pv 5) (pa_cons pe_int pa_nil)))) pa_nil))) pa_nil)))) (pss_cons (ps_set (i := 9) sc_l_rows.nd rfl (by first | exact Or.inl rfl | exact Or.inr rfl) (pe_ix ix_list (pv 4) (pe_callB call_len_seq (by rfl) T.n_len (by decide +kernel) (pa_cons (pv 5) pa_nil)) (fun _ _ => rfl)))
      (pss_cons (ps_expr (pe_bm PySem.F.plainAttrs_list PySem.F.slot_list_append PySem.F.type_list_append mt_append (pv 6) (pa_cons (pe_ifExp (pt_cmpR op_eq (pe_fn G_l_draw (hr.mono (by decide)) pass0 (pa_cons (pv 0) (pa_cons pe_int pa_nil))) pe_int (nomark _)) (pe_tup (pa_cons pe_str (pa_cons (pv 9) pa_nil))) (pe_tup (pa_cons pe_str (pa_cons (pv 9) (pa_cons (pe_fn G_l_some (hr.mono (by decide)) pass0 (pa_cons (pv 0) (pa_cons (pv 5) (pa_cons pe_int pa_nil)))) pa_nil))))) pa_nil)))
      (pss_one (ps_expr (pe_bm PySem.F.plainAttrs_list PySem.F.slot_list_append PySem.F.type_list_append mt_append (pv 5) (pa_cons (pv 9) pa_nil)))))))))))
      (pss_one (ps_ret (pe_tup (pa_cons (pv 6) (pa_cons (pe_callTy call_list_of (by rfl) T.n_list (by decide +kernel) (pa_cons (pe_fn G_l_some (hr.mono (by decide)) pass0 (pa_cons (pv 0) (pa_cons (pv 5) (pa_cons (pe_ix ix_list (pe_lst (pa_cons pe_int (pa_cons pe_int (pa_cons pe_int (pa_cons pe_int pa_nil))))) (pe_fn G_l_draw (hr.mono (by decide)) pass0 (pa_cons (pv 0) (pa_cons pe_int pa_nil))) (fun _ _ => rfl)) pa_nil)))) pa_nil)) pa_nil)))))))), ?_⟩
    refine ⟨_, rfl, _, rfl, _, rfl, p, _, rfl, hp, by omega, by omega, fun H1 d b1 hp1 d0 d1 => ?_⟩
    obtain ⟨k, rfl⟩ := Int.eq_ofNat_of_zero_le d0
    refine ⟨_, _, rfl, rfl, p, k + 1, ?_, hp1, by omega, fun H2 nl ns b2 hp2 nnl nlp hnl nod iok lns => ?_⟩
    · show [V.ref p, V.int (1 + (k : Int))] = _
      rw [show (1 : Int) + (k : Int) = ((k + 1 : Nat) : Int) by omega]
    have b02 := b1.trans b2
    have nl0 : H nl = none := b1.free nlp nnl
    refine ⟨(by show 0 ≤ sizeLine; decide), fun th nth => ⟨(by show 0 ≤ sizeLine; decide), fun fo nfo => ⟨_, _, _, rfl, ?_⟩⟩⟩
    have thp := hp2.ne nth
    have th0 := b02.free thp nth
    obtain ⟨G3, e, s3, hth⟩ := mkO nth (.lst [])
    rw [e] at nfo ⊢
    clear e
    have hp3 := hp2.same s3
    have fop := hp3.ne nfo
    have fo0 := b02.free fop (s3.free nfo)
    have fth : fo ≠ th := fun z => by rw [z, hth] at nfo; cases nfo
    obtain ⟨G4, e, s4, hfo⟩ := mkO nfo (.lst [])
    rw [e]
    clear e
    have b04 : But p H G4 := (b02.trans (But.of s3)).trans (But.of s4)
    have hp4 := hp3.same s4
    have hnl4 := s4 _ _ (s3 _ _ hnl)
    have hth4 := s4 _ _ hth
    have nlth : nl ≠ th := ne_of_none hnl nth
    have nlfo : nl ≠ fo := ne_of_none (s3 _ _ hnl) nfo
    -- the words
    refine ⟨(by show 1 ≤ sizeLine; decide), fun l1 n1 => ?_⟩
    obtain ⟨G5, e, s5, h5⟩ := mkO n1 (.lst [.str "value"])
    rw [e]
    clear e
    refine ⟨_, rfl, nl, _, rfl, .inl (SqL.of (s5 _ _ hnl4)), l1, _, _, rfl, rfl, h5, by omega, by rw [List.length_map]; omega, small (by rw [List.length_map, List.length_singleton]; omega), fun w1 nw1 => ?_⟩
    rw [flat_rep]
    obtain ⟨G6, e, s6, h6⟩ := mkO nw1 (.lst (List.replicate ((ns.map V.int).length : Int).toNat (.str "value")))
    rw [e]
    clear e
    refine ⟨(by show 1 ≤ sizeLine; decide), fun l2 n2 => ?_⟩
    obtain ⟨G7, e, s7, h7⟩ := mkO n2 (.lst [.str "stop"])
    rw [e]
    clear e
    have s47 := (s5.trans s6).trans s7
    have hp7 := hp4.same s47
    refine ⟨_, rfl, _, rfl, _, _, rfl, rfl, p, _, rfl, hp7, by omega, by omega, fun H8 d b8 hp8 d0 d2 => ?_⟩
    obtain ⟨k2, rfl⟩ := Int.eq_ofNat_of_zero_le d0
    have l2p := (hp4.same (s5.trans s6)).ne n2
    have w1p := (hp4.same s5).ne nw1
    refine ⟨l2, _, _, rfl, rfl, b8 _ _ h7 l2p, by omega, by omega, small (by rw [List.length_singleton]; omega), fun w2 nw2 => ?_⟩
    rw [flat_rep]
    obtain ⟨G9, e, s9, h9⟩ := mkO nw2 (.lst (List.replicate (k2 : Int).toNat (.str "stop")))
    rw [e]
    clear e
    refine ⟨w1, w2, _, _, rfl, rfl, s9 _ _ (b8 _ _ (s7 _ _ h6) w1p), h9, small (by rw [List.length_replicate, List.length_replicate, List.length_map]; omega), fun w3 nw3 => ?_⟩
    obtain ⟨G10, e, s10, h10⟩ := mkO nw3 (.lst (List.replicate ((ns.map V.int).length : Int).toNat (.str "value") ++ List.replicate (k2 : Int).toNat (.str "stop")))
    rw [e]
    clear e
    have w3p := (hp8.same s9).ne nw3
    refine ⟨(by show 1 ≤ sizeLine; decide), fun l3 n3 => ?_⟩
    have l3p := ((hp8.same s9).same s10).ne n3
    obtain ⟨G11, e, s11, h11⟩ := mkO n3 (.lst [.str "use"])
    rw [e]
    clear e
    have hp11 := ((hp8.same s9).same s10).same s11
    refine ⟨_, rfl, _, rfl, _, _, rfl, rfl, p, _, rfl, hp11, by omega, by omega, fun H12 d b12 hp12 d0 d3 => ?_⟩
    obtain ⟨k3, rfl⟩ := Int.eq_ofNat_of_zero_le d0
    refine ⟨l3, _, _, rfl, rfl, b12 _ _ h11 l3p, by omega, by omega, small (by rw [List.length_singleton]; omega), fun w4 nw4 => ?_⟩
    rw [flat_rep]
    obtain ⟨G13, e, s13, h13⟩ := mkO nw4 (.lst (List.replicate (k3 : Int).toNat (.str "use")))
    rw [e]
    clear e
    refine ⟨w3, w4, _, _, rfl, rfl, s13 _ _ (b12 _ _ (s11 _ _ h10) w3p), h13, small (by rw [List.length_append, List.length_replicate, List.length_replicate, List.length_replicate, List.length_map]; omega), fun w5 nw5 => ?_⟩
    obtain ⟨G14, e, s14, h14⟩ := mkO nw5 (.lst (List.replicate ((ns.map V.int).length : Int).toNat (.str "value") ++ List.replicate (k2 : Int).toNat (.str "stop") ++ List.replicate (k3 : Int).toNat (.str "use")))
    rw [e]
    clear e
    have w5p := (hp12.same s13).ne nw5
    rw [List.length_map, lns, Int.toNat_natCast, Int.toNat_natCast, Int.toNat_natCast] at h14
    obtain ⟨ws0, ew⟩ : ∃ ws0 : List Str, ws0 = List.replicate (k + 1) vS ++ List.replicate k2 ("stop" : Str) ++ List.replicate k3 ("use" : Str) := ⟨_, rfl⟩
    have h14 : G14 w5 = some (.lst (ws0.map V.str)) := by
      rw [h14, ew, List.map_append, List.map_append, List.map_replicate, List.map_replicate, List.map_replicate]
    have b414 : But p G4 G14 := (((((But.of s47).trans b8).trans (But.of ((s9.trans s10).trans s11))).trans b12).trans (But.of s13)).trans (But.of s14)
    have hp14 := (hp12.same s13).same s14
    have l0 : ws0.length ≤ 28 := by
      rw [ew, List.length_append, List.length_append, List.length_replicate, List.length_replicate, List.length_replicate]
      omega
    have c0 : ws0.count vS = k + 1 := by
      rw [ew, List.count_append, List.count_append, List.count_replicate_self, List.count_replicate, List.count_replicate, if_neg (by rw [beq_iff_eq]; exact fun z => sw z.symm), if_neg (by rw [beq_iff_eq]; exact fun z => sw2 z.symm)]
    have c2 : ws0.count sS = k2 := by
      rw [ew, List.count_append, List.count_append, List.count_replicate, List.count_replicate_self, List.count_replicate, if_neg (by rw [beq_iff_eq]; exact fun z => sw z), if_neg (by rw [beq_iff_eq]; exact fun z => sw3 z.symm)]
      omega
    have m0 : ∀ c ∈ ws0, c = "value" ∨ c = "stop" ∨ c = "use" := fun c hc => by
      rw [ew, List.mem_append, List.mem_append, List.mem_replicate, List.mem_replicate, List.mem_replicate] at hc
      rcases hc with (⟨_, h⟩ | ⟨_, h⟩) | ⟨_, h⟩
      · exact .inl h
      · exact .inr (.inl h)
      · exact .inr (.inr h)
    clear ew
    refine nm_of ?_
    dsimp only
    refine ⟨_, rfl, _, rfl, p, w5, Str, V.str, ws0, rfl, hp14, h14, w5p, by omega, fun H15 wl ws b15 hp15 nwl wlp hwl pm => ?_⟩
    have b415 := b414.trans b15
    have b015 := b04.trans b415
    have lw : ws.length = ws0.length := pm.length_eq
    have cw : ws.count vS = k + 1 := by rw [pm.count_eq, c0]
    have cw2 : ws.count sS = k2 := by rw [pm.count_eq, c2]
    have mw : ∀ c ∈ ws, c = "value" ∨ c = "stop" ∨ c = "use" := fun c hc => m0 c (pm.mem_iff.mp hc)
    have hnl15 := b415 _ _ hnl4 nlp
    have hth15 := b415 _ _ hth4 thp
    have hfo15 := b415 _ _ hfo fop
    have wln : wl ≠ nl := fun z => by rw [z, b414 _ _ hnl4 nlp] at nwl; cases nwl
    have wlt : wl ≠ th := fun z => by rw [z, b414 _ _ hth4 thp] at nwl; cases nwl
    have wlf : wl ≠ fo := fun z => by rw [z, b414 _ _ hfo fop] at nwl; cases nwl
    refine ⟨wl, rfl, ⟨_, SqL.of hwl⟩, ?_⟩
    refine for_it (walk_list (K := K) (a := wl) (xs := ws.map V.str)) (fun i σ H' => But p H H' ∧ PotAt H' p ∧ H' wl = some (.lst (ws.map V.str)) ∧ H' nl = some (.lst (ns.map V.int)) ∧ (∃ rs ls, H' fo = some (.lst ls) ∧ Rws H' ls rs ∧ RsOk rs ∧ LabOk rs ∧ rs.length = i ∧ H' th = some (.lst ((vlA rs).map V.int)) ∧ vlA rs = ns.take (vlA rs).length ∧ (vlA rs).length = (ws.take i).count vS ∧ (stA rs).length = (ws.take i).count sS) ∧
      ∃ u8 u9, σ = [some (.ref p), some (.int (va : Nat)), some (.int (sb : Nat)), some (.int (oc : Nat)), some (.ref nl), some (.ref th), some (.ref fo), some (.ref w5), u8, u9]) ⟨b015, hp15, hwl, hnl15, ⟨[], [], hfo15, rws_nil, rsok_nil, (fun r hr => by cases hr), rfl, hth15, rfl, rfl, rfl⟩, none, none, rfl⟩ (fun i σ H' _ h => SqL.of h.2.2.1) ?_ ?_
    · rintro i x σ H17 H16 hi ⟨b16, hp16, hwl16, hnl16, ⟨rs, ls, hfo16, rws, ok, lbo, lrs, hth16, tk, ct, cs⟩, u8, u9, rfl⟩ ⟨rfl, hx⟩
      rw [List.getElem?_map] at hx
      obtain ⟨c, hc, rfl⟩ := Option.map_eq_some_iff.mp hx
      have il : i < ws.length := (List.getElem?_eq_some_iff.mp hc).1
      have lv := vls_len rs rs.length
      have lls := rws.len
      have tc : (ws.take (i + 1)).count vS = (ws.take i).count vS + [c].count vS := by rw [List.take_add_one, hc, Option.toList_some, List.count_append]
      have ts : (ws.take (i + 1)).count sS = (ws.take i).count sS + [c].count sS := by rw [List.take_add_one, hc, Option.toList_some, List.count_append]
      have fin : ∀ (H18 : Hp) (v : V) (r : Rw) (u8 u9 : Option V), But p H H18 → PotAt H18 p → Kp H16 H18 → H18 wl = some (.lst (ws.map V.str)) → H18 nl = some (.lst (ns.map V.int)) → H18 fo = some (.lst (ls ++ [v])) → RwAt H18 v r → RowOk (vlA rs) r → RwZ r → r.lab.length ≤ 6 → H18 th = some (.lst ((vlA (rs ++ [r])).map V.int)) → vlA (rs ++ [r]) = ns.take (vlA (rs ++ [r])).length → (vlA (rs ++ [r])).length = (ws.take (i + 1)).count vS → (stA (rs ++ [r])).length = (ws.take (i + 1)).count sS →
          But p H H18 ∧ PotAt H18 p ∧ H18 wl = some (.lst (ws.map V.str)) ∧ H18 nl = some (.lst (ns.map V.int)) ∧ (∃ rs ls, H18 fo = some (.lst ls) ∧ Rws H18 ls rs ∧ RsOk rs ∧ LabOk rs ∧ rs.length = i + 1 ∧ H18 th = some (.lst ((vlA rs).map V.int)) ∧ vlA rs = ns.take (vlA rs).length ∧ (vlA rs).length = (ws.take (i + 1)).count vS ∧ (stA rs).length = (ws.take (i + 1)).count sS) ∧
          ∃ u8' u9', [some (.ref p), some (.int (va : Nat)), some (.int (sb : Nat)), some (.int (oc : Nat)), some (.ref nl), some (.ref th), some (.ref fo), some (.ref w5), u8, u9] = [some (.ref p), some (.int (va : Nat)), some (.int (sb : Nat)), some (.int (oc : Nat)), some (.ref nl), some (.ref th), some (.ref fo), some (.ref w5), u8', u9'] := by
        intro H18 v r u8 u9 b hp kp hw hn hf hr ro rz rl ht tk' ct' cs'
        exact ⟨b, hp, hw, hn, ⟨rs ++ [r], ls ++ [v], hf, (rws.kp kp).snoc hr, ok.snoc ro rz (by omega), (fun x hx => (List.mem_append.mp hx).elim (lbo x) fun z => by rw [List.mem_singleton.mp z]; exact rl), by rw [List.length_append, lrs]; rfl, ht, tk', ct', cs'⟩, u8, u9, rfl⟩
      have wlp' : wl ≠ p := wlp
      refine ⟨_, rfl, rfl, _, rfl, ?_⟩
      rcases mw c (List.mem_of_getElem? hc) with rfl | rfl | rfl
      · -- a value
        refine iteN (by decide +kernel) ⟨_, rfl, rfl, _, rfl, iteN (by decide +kernel) ?_⟩
        have tc' : (ws.take (i + 1)).count vS = (ws.take i).count vS + 1 := by rw [tc]; rfl
        have lt : (vlA rs).length < ns.length := by
          have : (ws.take (i + 1)).count vS ≤ ws.count vS := (List.take_sublist _ _).count_le _
          omega
        obtain ⟨n, en⟩ : ∃ n, n = ns[(vlA rs).length] := ⟨_, rfl⟩
        have hn : ns[(vlA rs).length]? = some n := by rw [en]; exact List.getElem?_eq_getElem lt
        have nn : n ∉ vlA rs := fun z => by
          rw [tk] at z
          obtain ⟨j, hj, e⟩ := List.getElem_of_mem z
          rw [List.length_take] at hj
          rw [List.getElem_take] at e
          exact List.pairwise_iff_getElem.mp nod j (vlA rs).length (by omega) lt (by omega) (e.trans en)
        have in_ : IOk n := iok n (List.mem_of_getElem? hn)
        have vl1 : ∀ r : Rw, r.val = [n] → vlA (rs ++ [r]) = ns.take (vlA (rs ++ [r])).length ∧ (vlA (rs ++ [r])).length = (ws.take (i + 1)).count vS := fun r hr => by
          rw [vlA_snoc, hr, List.length_append, List.length_singleton]
          refine ⟨?_, by rw [tc', ← ct]⟩
          rw [List.take_add_one, hn, Option.toList_some, ← tk]
        refine ⟨_, rfl, _, rfl, th, _, rfl, .inl (SqL.of hth16), nl, _, _, _, rfl, rfl, SqL.of hnl16, atI_nat (j := ((vlA rs).map V.int).length) (by rw [List.length_map, List.getElem?_map, hn]; rfl), ?_⟩
        refine nm_of ?_
        dsimp only
        refine ⟨_, rfl, .inl ⟨rfl, _, SqL.of hfo16⟩, _, rfl, p, 3, rfl, hp16, by decide, by decide, fun H18 d b18 hp18 d0 d1 => ⟨rfl, _, rfl, ?_⟩⟩
        have kp18 := hp16.kp b18
        have addv : ∀ (G : Hp) (v : V) (r : Rw) (u8 u9 : Option V), But p H G → PotAt G p → Kp H16 G → G wl = some (.lst (ws.map V.str)) → G nl = some (.lst (ns.map V.int)) → G fo = some (.lst ls) → G th = some (.lst ((vlA rs).map V.int)) → RwAt G v r → r.val = [n] → RowOk (vlA rs) r → RwZ r → r.lab.length ≤ 6 → _ :=
          fun G v r u8 u9 b hp kp hw hn' hf ht hr hv ro rz rl => fin (upd (upd G fo (.lst (ls ++ [v]))) th (.lst ((vlA rs).map V.int ++ [.int n]))) v r u8 u9 (own_but (own_but b fo0) th0) ((hp.but but_upd fop.symm).but but_upd thp.symm) ((kp.trans (kp_upd hf)).trans (kp_upd (by rw [upd_ne fth.symm]; exact ht)))
            (by rw [upd_ne wlt, upd_ne wlf]; exact hw) (by rw [upd_ne nlth, upd_ne nlfo]; exact hn') (by rw [upd_ne fth, upd_same]) (hr.kp ((kp_upd hf).trans (kp_upd (by rw [upd_ne fth.symm]; exact ht)))) ro rz rl (by rw [upd_same, vlA_snoc, hv, List.map_append]; rfl) (vl1 r hv).1 (vl1 r hv).2 (by rw [stA_snoc, ts, cnt_v, cs, show r.isStop = false by cases r <;> first | rfl | cases hv]; rfl)
        have rz0 : ∀ os : List Int, (∀ o ∈ os, o ∈ vlA rs) → os.length ≤ 3 → RwZ (.set n os) := fun os ho lo => ⟨fun m hm => by cases List.mem_singleton.mp hm; exact in_, lo, fun m hm => vls_ok ok (Nat.le_refl _) (ho m hm), by show 0 ≤ 20; decide, okt_of _⟩
        refine iteB (fun _ => ?_) (fun _ => ?_)
        · refine ⟨_, rfl, (by show 2 ≤ sizeLine; decide), fun tt ntt => ?_⟩
          obtain ⟨G19, e, s19, h19⟩ := mkO ntt (.tup [.str "leaf", .int n])
          rw [e]
          clear e
          have hfo19 := s19 _ _ (b18 _ _ hfo16 fop)
          have hth19 := s19 _ _ (b18 _ _ hth16 thp)
          refine ⟨fo, _, _, rfl, rfl, hfo19, Nat.lt_of_lt_of_le (show _ < 100000 by omega) (small (Nat.le_refl _)), ?_⟩
          refine ⟨_, rfl, .inl ⟨rfl, _, SqL.of (by rw [upd_ne fth.symm]; exact hth19)⟩, _, rfl, th, _, _, rfl, rfl, by rw [upd_ne fth.symm]; exact hth19, Nat.lt_of_lt_of_le (show _ < 100000 by rw [List.length_map]; omega) (small (Nat.le_refl _)), ?_⟩
          exact addv G19 _ (.leaf n) _ _ (but_same (b16.trans b18) s19) (hp18.same s19) (kp18.trans (Kp.of s19)) (s19 _ _ (b18 _ _ hwl16 wlp)) (s19 _ _ (b18 _ _ hnl16 nlp)) hfo19 hth19 ⟨tt, rfl, h19⟩ rfl nn ⟨fun m hm => by cases List.mem_singleton.mp hm; exact in_, by show 0 ≤ 3; decide, (fun m hm => by cases hm), by show 0 ≤ 20; decide, okt_of _⟩ (by show 0 ≤ 6; decide)
        · refine ⟨_, rfl, _, rfl, _, rfl, p, th, vlA rs, 3, rfl, hp18, b18 _ _ hth16 thp, thp, by have : (vlA rs).length ≤ rs.length := lv; omega, by decide, fun H19 u os b19 hp19 hu ho lo => ⟨(by show 3 ≤ sizeLine; decide), fun tt ntt => ?_⟩⟩
          obtain ⟨G20, e, s20, h20⟩ := mkO ntt (.tup [.str "set", .int n, u])
          rw [e]
          clear e
          have b1920 := b18.trans b19
          have hfo20 := s20 _ _ (b1920 _ _ hfo16 fop)
          have hth20 := s20 _ _ (b1920 _ _ hth16 thp)
          refine ⟨fo, _, _, rfl, rfl, hfo20, Nat.lt_of_lt_of_le (show _ < 100000 by omega) (small (Nat.le_refl _)), ?_⟩
          refine ⟨_, rfl, .inl ⟨rfl, _, SqL.of (by rw [upd_ne fth.symm]; exact hth20)⟩, _, rfl, th, _, _, rfl, rfl, by rw [upd_ne fth.symm]; exact hth20, Nat.lt_of_lt_of_le (show _ < 100000 by rw [List.length_map]; have : (vlA rs).length ≤ rs.length := lv; omega) (small (Nat.le_refl _)), ?_⟩
          exact addv G20 _ (.set n os) _ _ (but_same (b16.trans b1920) s20) (hp19.same s20) ((hp16.kp b1920).trans (Kp.of s20)) (s20 _ _ (b1920 _ _ hwl16 wlp)) (s20 _ _ (b1920 _ _ hnl16 nlp)) hfo20 hth20 ⟨tt, u, rfl, h20, hu.same s20⟩ rfl ⟨nn, ho⟩ (rz0 os ho lo) (by show 0 ≤ 6; decide)
      · -- a stop
        refine iteY (by decide +kernel) ?_
        have vl0 : ∀ r : Rw, r.val = [] → vlA (rs ++ [r]) = vlA rs := fun r hr => by rw [vlA_snoc, hr, List.append_nil]
        have tc' : (ws.take (i + 1)).count vS = (ws.take i).count vS := by rw [tc, List.count_singleton, if_neg (by rw [beq_iff_eq]; exact fun z => sw z.symm)]; rfl
        refine ⟨_, rfl, .inl ⟨rfl, _, SqL.of hfo16⟩, (by show 4 ≤ sizeLine; decide), fun l4 n4 => ?_⟩
        have l4p := hp16.ne n4
        obtain ⟨G18, e, s18, h18⟩ := mkO n4 (.lst [.str "a", .str "b", .str "", .str "stop 1"])
        rw [e]
        clear e
        refine ⟨_, rfl, p, 4, rfl, hp16.same s18, by decide, by decide, fun H19 d b19 hp19 d0 d1 => ?_⟩
        obtain ⟨k4, rfl⟩ := Int.eq_ofNat_of_zero_le d0
        obtain ⟨l, el, ll, lo'⟩ : ∃ l : Str, ([.str "a", .str "b", .str "", .str "stop 1"] : List V)[k4]? = some (.str l) ∧ l.length ≤ 6 ∧ PyData.strOk l = true := by
          match k4, d1 with
          | 0, _ => exact ⟨_, rfl, by decide +kernel, okt_of _⟩
          | 1, _ => exact ⟨_, rfl, by decide +kernel, okt_of _⟩
          | 2, _ => exact ⟨_, rfl, by decide +kernel, okt_of _⟩
          | 3, _ => exact ⟨_, rfl, by decide +kernel, okt_of _⟩
          | k + 4, h => omega
        have b1619 : But p H16 H19 := (But.of s18).trans b19
        refine ⟨l4, _, _, _, rfl, rfl, SqL.of (b19 _ _ h18 l4p), atI_nat el, _, rfl, _, rfl, p, th, vlA rs, 3, rfl, hp19, b1619 _ _ hth16 thp, thp, by have : (vlA rs).length ≤ rs.length := lv; omega, by decide, fun H20 u os b20 hp20 hu ho lo => ⟨(by show 3 ≤ sizeLine; decide), fun tt ntt => ?_⟩⟩
        obtain ⟨G21, e, s21, h21⟩ := mkO ntt (.tup [.str "stop", .str l, u])
        rw [e]
        clear e
        have b1620 := b1619.trans b20
        have hfo21 := s21 _ _ (b1620 _ _ hfo16 fop)
        refine ⟨fo, _, _, rfl, rfl, hfo21, Nat.lt_of_lt_of_le (show _ < 100000 by omega) (small (Nat.le_refl _)), ?_⟩
        have ev := vl0 (.stop l os) rfl
        exact fin _ _ (.stop l os) _ _ (own_but (but_same (b16.trans b1620) s21) fo0) ((hp20.same s21).but but_upd fop.symm) (((hp16.kp b1620).trans (Kp.of s21)).trans (kp_upd hfo21)) (by rw [upd_ne wlf]; exact s21 _ _ (b1620 _ _ hwl16 wlp)) (by rw [upd_ne nlfo]; exact s21 _ _ (b1620 _ _ hnl16 nlp)) upd_same
          (RwAt.kp (r := .stop l os) ⟨tt, u, rfl, h21, hu.same s21⟩ (kp_upd hfo21)) ho ⟨(fun m hm => by cases hm), lo, fun m hm => vls_ok ok (Nat.le_refl _) (ho m hm), by show l.length ≤ 20; omega, lo'⟩ ll (by rw [upd_ne fth.symm, ev]; exact s21 _ _ (b1620 _ _ hth16 thp)) (by rw [ev]; exact tk) (by rw [ev, tc']; exact ct) (by rw [stA_snoc, ts, cs]; rfl)
      · refine iteN (by decide +kernel) ⟨_, rfl, rfl, _, rfl, iteY (by decide +kernel) ?_⟩
        have vl0 : ∀ r : Rw, r.val = [] → vlA (rs ++ [r]) = vlA rs := fun r hr => by rw [vlA_snoc, hr, List.append_nil]
        have tc' : (ws.take (i + 1)).count vS = (ws.take i).count vS := by rw [tc, List.count_singleton, if_neg (by rw [beq_iff_eq]; exact fun z => sw2 z.symm)]; rfl
        refine ⟨_, rfl, .inl ⟨rfl, _, SqL.of hfo16⟩, _, rfl, _, rfl, p, th, vlA rs, 2, rfl, hp16, hth16, thp, by have : (vlA rs).length ≤ rs.length := lv; omega, by decide, fun H20 u os b1620 hp20 hu ho lo => ⟨(by show 2 ≤ sizeLine; decide), fun tt ntt => ?_⟩⟩
        obtain ⟨G21, e, s21, h21⟩ := mkO ntt (.tup [.str "use", u])
        rw [e]
        clear e
        have hfo21 := s21 _ _ (b1620 _ _ hfo16 fop)
        refine ⟨fo, _, _, rfl, rfl, hfo21, Nat.lt_of_lt_of_le (show _ < 100000 by omega) (small (Nat.le_refl _)), ?_⟩
        have ev := vl0 (.use os) rfl
        exact fin _ _ (.use os) _ _ (own_but (but_same (b16.trans b1620) s21) fo0) ((hp20.same s21).but but_upd fop.symm) (((hp16.kp b1620).trans (Kp.of s21)).trans (kp_upd hfo21)) (by rw [upd_ne wlf]; exact s21 _ _ (b1620 _ _ hwl16 wlp)) (by rw [upd_ne nlfo]; exact s21 _ _ (b1620 _ _ hnl16 nlp)) upd_same
          (RwAt.kp (r := .use os) ⟨tt, u, rfl, h21, hu.same s21⟩ (kp_upd hfo21)) ho ⟨(fun m hm => by cases hm), by show os.length ≤ 3; omega, fun m hm => vls_ok ok (Nat.le_refl _) (ho m hm), by show 0 ≤ 20; decide, okt_of _⟩ (by show 0 ≤ 6; decide) (by rw [upd_ne fth.symm, ev]; exact s21 _ _ (b1620 _ _ hth16 thp)) (by rw [ev]; exact tk) (by rw [ev, tc']; exact ct) (by rw [stA_snoc, ts, cnt_u, cs]; rfl)
    · rintro σ H16 ⟨b16, hp16, hwl16, hnl16, ⟨rs, ls, hfo16, rws, ok, lbo, lrs, hth16, tk, ct, cs⟩, u8, u9, rfl⟩
      rw [List.length_map] at lrs ct cs
      rw [List.take_length, cw] at ct
      rw [List.take_length, cw2] at cs
      have lv : (vlA rs).length ≤ rs.length := vls_len rs rs.length
      refine ⟨_, rfl, _, rfl, _, rfl, (by show 4 ≤ sizeLine; decide), fun l4 n4 => ?_⟩
      have l4p := hp16.ne n4
      obtain ⟨G18, e, s18, h18⟩ := mkO n4 (.lst [.int 0, .int 0, .int 1, .int 2])
      rw [e]
      clear e
      refine ⟨_, rfl, p, 4, rfl, hp16.same s18, by decide, by decide, fun H19 d b19 hp19 d0 d1 => ?_⟩
      obtain ⟨k4, rfl⟩ := Int.eq_ofNat_of_zero_le d0
      obtain ⟨m, el, lm⟩ : ∃ m : Nat, ([.int 0, .int 0, .int 1, .int 2] : List V)[k4]? = some (.int (m : Nat)) ∧ m ≤ 2 := by
        match k4, d1 with
        | 0, _ => exact ⟨0, rfl, by decide⟩
        | 1, _ => exact ⟨0, rfl, by decide⟩
        | 2, _ => exact ⟨1, rfl, by decide⟩
        | 3, _ => exact ⟨2, rfl, by decide⟩
        | k + 4, h => omega
      have b1619 : But p H16 H19 := (But.of s18).trans b19
      refine ⟨l4, _, _, _, rfl, rfl, SqL.of (b19 _ _ h18 l4p), atI_nat el, p, th, vlA rs, m, rfl, hp19, b1619 _ _ hth16 thp, thp, by omega, by omega, fun H20 u out b20 hp20 hu ho lo => ?_⟩
      obtain ⟨o, rfl, hou⟩ := hu
      have b1620 := b1619.trans b20
      refine ⟨o, _, rfl, .inr (SqT.of hou), fun lo' nlo => ⟨(by show 2 ≤ sizeLine; decide), fun tt ntt => ?_⟩⟩
      obtain ⟨G21, e, s21, h21⟩ := mkO nlo (.lst (out.map V.int))
      rw [e] at ntt ⊢
      clear e
      obtain ⟨G22, e, s22, h22⟩ := mkO ntt (.tup [.ref fo, .ref lo'])
      rw [e]
      clear e
      have s2022 := s21.trans s22
      have hfo20 := b1620 _ _ hfo16 fop
      refine q G22 tt fo lo' rs ls out (but_same (b16.trans b1620) s2022) (hp20.same s2022) h22 (s2022 _ _ hfo20) ((rws.kp (hp16.kp b1620)).same s2022) ok lbo (by omega) (fun z => ?_) (s22 _ _ h21) ho (by omega) fo0 ((b16.trans b1620).free (hp20.ne nlo) nlo) (ne_of_none hfo20 nlo) fop (hp20.ne nlo) (by omega) (by omega)
      rw [z, List.length_nil] at ct
      omega
end
end K63

set_option Elab.async false
set_option linter.all false
set_option maxRecDepth 100000
set_option maxHeartbeats 2000000
/-! L61d: the law's own reading. -/
namespace K63
open PySem PySem.Spec PyProof.Rows L2 LL ST
abbrev s_l_book : Stmt := top 39
abbrev n_l_book : List Str := ["_law_rows_here", "_law_out", "_law_book_here", "_law_place", "_law_row", "_law_value"]
theorem sc_l_book : FnScope n_l_book ["_law_rows_here", "_law_out"] (defScope s_l_book) := ⟨rfl, rfl, rfl, by decide +kernel, rfl, by decide +kernel, by decide +kernel⟩
abbrev s_l_is_there : Stmt := top 40
abbrev n_l_is_there : List Str := ["_law_book_here", "_law_value", "_law_stop"]
theorem sc_l_is_there : FnScope n_l_is_there ["_law_book_here", "_law_value", "_law_stop"] (defScope s_l_is_there) := ⟨rfl, rfl, rfl, by decide +kernel, rfl, by decide +kernel, by decide +kernel⟩
abbrev s_l_is_live : Stmt := top 41
abbrev n_l_is_live : List Str := ["_law_book_here", "_law_value", "_law_stop"]
theorem sc_l_is_live : FnScope n_l_is_live ["_law_book_here", "_law_value", "_law_stop"] (defScope s_l_is_live) := ⟨rfl, rfl, rfl, by decide +kernel, rfl, by decide +kernel, by decide +kernel⟩
/-! ### tuples stay -/
def KT (H H' : Hp) : Prop := ∀ b xs, H b = some (.tup xs) → H' b = some (.tup xs)
theorem KT.of {H H' : Hp} (s : Same H H') : KT H H' := fun b xs e => s b _ e
theorem KT.trans {H H1 H2 : Hp} (a : KT H H1) (b : KT H1 H2) : KT H H2 := fun c xs e => b c xs (a c xs e)
theorem kt_upd {H : Hp} {p : Addr} {o : HO} (h : ∀ xs, H p ≠ some (.tup xs)) : KT H (upd H p o) := fun b xs e => by
  rw [upd_ne fun z => by rw [z] at e; exact h xs e]
  exact e
theorem OpT.kt {H H' : Hp} {u : V} {os : List Int} (h : OpT H u os) (s : KT H H') : OpT H' u os := let ⟨o, e, x⟩ := h; ⟨o, e, s _ _ x⟩
theorem RwAt.kt {H H' : Hp} {v : V} {r : Rw} (h : RwAt H v r) (s : KT H H') : RwAt H' v r := by
  cases r with
  | leaf n => exact let ⟨t, e, x⟩ := h; ⟨t, e, s _ _ x⟩
  | set n os => exact let ⟨t, u, e, x, o⟩ := h; ⟨t, u, e, s _ _ x, o.kt s⟩
  | use os => exact let ⟨t, u, e, x, o⟩ := h; ⟨t, u, e, s _ _ x, o.kt s⟩
  | stop l os => exact let ⟨t, u, e, x, o⟩ := h; ⟨t, u, e, s _ _ x, o.kt s⟩
theorem OpV.kt {H H' : Hp} {u : V} {r : Rw} (h : OpV H u r) (s : KT H H') : OpV H' u r := by
  cases r with
  | set n os => exact OpT.kt h s
  | leaf n => exact h
  | use os => exact h
  | stop l os => exact h
def AsAt (H : Hp) (avs : List V) (ss : List Nat) (rs : Rs) : Prop := avs.length = ss.length ∧ ∀ (k : Nat) v s, avs[k]? = some v → ss[k]? = some s → OpT H v (rw rs s).ops
theorem AsAt.kt {H H' : Hp} {avs : List V} {ss : List Nat} {rs : Rs} (h : AsAt H avs ss rs) (s : KT H H') : AsAt H' avs ss rs := ⟨h.1, fun k v x e1 e2 => (h.2 k v x e1 e2).kt s⟩
theorem AsAt.snoc {H : Hp} {avs : List V} {ss : List Nat} {rs : Rs} {v : V} {s : Nat} (h : AsAt H avs ss rs) (hv : OpT H v (rw rs s).ops) : AsAt H (avs ++ [v]) (ss ++ [s]) rs := by
  refine ⟨by rw [List.length_append, List.length_append, h.1]; rfl, fun k u x e1 e2 => ?_⟩
  by_cases c : k < avs.length
  · rw [List.getElem?_append_left c] at e1
    rw [List.getElem?_append_left (by rw [← h.1]; exact c)] at e2
    exact h.2 k u x e1 e2
  · have hk := (List.getElem?_eq_some_iff.mp e1).1
    rw [List.length_append, List.length_singleton] at hk
    have ek : k = avs.length := by omega
    subst ek
    rw [List.getElem?_append_right (Nat.le_refl _), Nat.sub_self] at e1
    rw [h.1, List.getElem?_append_right (Nat.le_refl _), Nat.sub_self] at e2
    cases e1
    cases e2
    exact hv
def OpAt (H : Hp) (kvs : List (Key × V)) (rs : Rs) (i : Nat) : Prop := ∀ j, j < i → ∀ n ∈ (rw rs j).val, ∃ u, valV kvs (Sum.inl n) = some u ∧ OpV H u (rw rs j)
theorem OpAt.kt {H H' : Hp} {kvs : List (Key × V)} {rs : Rs} {i : Nat} (h : OpAt H kvs rs i) (s : KT H H') : OpAt H' kvs rs i := fun j hj n hn => let ⟨u, e, z⟩ := h j hj n hn; ⟨u, e, z.kt s⟩
theorem OpAt.no {H : Hp} {kvs : List (Key × V)} {rs : Rs} {i : Nat} (h : OpAt H kvs rs i) (hv : (rw rs i).val = []) : OpAt H kvs rs (i + 1) := fun j hj n hn => by
  by_cases c : j = i
  · rw [c, hv] at hn
    cases hn
  · exact h j (by omega) n hn
theorem OpAt.put {H : Hp} {kvs : List (Key × V)} {rs : Rs} {i : Nat} {n : Int} {u : V} (h : OpAt H kvs rs i) (hn : n ∉ vls rs i) (hv : (rw rs i).val = [n]) (hu : OpV H u (rw rs i)) : OpAt H (putK kvs (Sum.inl n) u) rs (i + 1) := fun j hj m hm => by
  rw [valV_put]
  by_cases c : j = i
  · rw [c, hv] at hm
    rw [if_pos (by rw [List.mem_singleton.mp hm]), c]
    exact ⟨u, rfl, hu⟩
  · have hj' : j < i := by omega
    rw [if_neg fun z => hn (mem_vls.mpr ⟨j, hj', (Sum.inl.inj z : m = n) ▸ hm⟩)]
    exact h j hj' m hm
/-! ### the book -/
theorem vneg {a b : Str} {v : V} {r : List (Key × V)} (h : a ≠ b) : valV ((Sum.inr a, v) :: r) (Sum.inr b) = valV r (Sum.inr b) := valV_neg fun e => h (Sum.inr.inj e)
abbrev bkV (a b c d e g : V) : List (Key × V) := [(Sum.inr "order", a), (Sum.inr "operands", b), (Sum.inr "at", c), (Sum.inr "stops", d), (Sum.inr "asked", e), (Sum.inr "need", g)]
abbrev bkD (o op at_ st as_ ne : Addr) : List (Key × V) := bkV (.ref o) (.ref op) (.ref at_) (.ref st) (.ref as_) (.ref ne)
section
variable {o op at_ st as_ ne : Addr}
theorem bk1 : valV (bkD o op at_ st as_ ne) (Sum.inr "order") = some (.ref o) := by rw [valV_pos rfl]
theorem bk2 : valV (bkD o op at_ st as_ ne) (Sum.inr "operands") = some (.ref op) := by rw [vneg (by decide +kernel), valV_pos rfl]
theorem bk3 : valV (bkD o op at_ st as_ ne) (Sum.inr "at") = some (.ref at_) := by rw [vneg (by decide +kernel), vneg (by decide +kernel), valV_pos rfl]
theorem bk4 : valV (bkD o op at_ st as_ ne) (Sum.inr "stops") = some (.ref st) := by rw [vneg (by decide +kernel), vneg (by decide +kernel), vneg (by decide +kernel), valV_pos rfl]
theorem bk5 : valV (bkD o op at_ st as_ ne) (Sum.inr "asked") = some (.ref as_) := by rw [vneg (by decide +kernel), vneg (by decide +kernel), vneg (by decide +kernel), vneg (by decide +kernel), valV_pos rfl]
theorem bk6 : valV (bkD o op at_ st as_ ne) (Sum.inr "need") = some (.ref ne) := by rw [vneg (by decide +kernel), vneg (by decide +kernel), vneg (by decide +kernel), vneg (by decide +kernel), vneg (by decide +kernel), valV_pos rfl]
end
structure Ads where
  b : Addr
  o : Addr
  op : Addr
  at_ : Addr
  st : Addr
  as_ : Addr
  ne : Addr
abbrev Ads.d (A : Ads) : List (Key × V) := bkD A.o A.op A.at_ A.st A.as_ A.ne
structure Ads.Nd (A : Ads) : Prop where
  b1 : A.b ≠ A.o
  b2 : A.b ≠ A.op
  b3 : A.b ≠ A.at_
  b4 : A.b ≠ A.st
  b5 : A.b ≠ A.as_
  b6 : A.b ≠ A.ne
  o2 : A.o ≠ A.op
  o3 : A.o ≠ A.at_
  o4 : A.o ≠ A.st
  o5 : A.o ≠ A.as_
  o6 : A.o ≠ A.ne
  p3 : A.op ≠ A.at_
  p4 : A.op ≠ A.st
  p5 : A.op ≠ A.as_
  p6 : A.op ≠ A.ne
  a4 : A.at_ ≠ A.st
  a5 : A.at_ ≠ A.as_
  a6 : A.at_ ≠ A.ne
  s5 : A.st ≠ A.as_
  s6 : A.st ≠ A.ne
  k6 : A.as_ ≠ A.ne
structure BkS (H : Hp) (A : Ads) (ov : List Int) (okv ak : List (Key × V)) (sv : List Nat) (av : List V) (nv : List (Key × V)) : Prop where
  hb : H A.b = some (.dK A.d)
  ho : H A.o = some (.lst (ov.map V.int))
  hp : H A.op = some (.dK okv)
  ha : H A.at_ = some (.dK ak)
  hs : H A.st = some (.lst (nV sv))
  hk : H A.as_ = some (.lst av)
  hn : H A.ne = some (.dK nv)
section
variable {H H' : Hp} {A : Ads} {ov ov' : List Int} {okv okv' ak ak' nv nv' : List (Key × V)} {sv sv' : List Nat} {av av' : List V}
theorem BkS.same (z : BkS H A ov okv ak sv av nv) (s : Same H H') : BkS H' A ov okv ak sv av nv := ⟨s _ _ z.hb, s _ _ z.ho, s _ _ z.hp, s _ _ z.ha, s _ _ z.hs, s _ _ z.hk, s _ _ z.hn⟩
theorem BkS.uo (z : BkS H A ov okv ak sv av nv) (n : A.Nd) : BkS (upd H A.o (.lst (ov'.map V.int))) A ov' okv ak sv av nv :=
  ⟨by rw [upd_ne n.b1]; exact z.hb, upd_same, by rw [upd_ne n.o2.symm]; exact z.hp, by rw [upd_ne n.o3.symm]; exact z.ha, by rw [upd_ne n.o4.symm]; exact z.hs, by rw [upd_ne n.o5.symm]; exact z.hk, by rw [upd_ne n.o6.symm]; exact z.hn⟩
theorem BkS.up (z : BkS H A ov okv ak sv av nv) (n : A.Nd) : BkS (upd H A.op (.dK okv')) A ov okv' ak sv av nv :=
  ⟨by rw [upd_ne n.b2]; exact z.hb, by rw [upd_ne n.o2]; exact z.ho, upd_same, by rw [upd_ne n.p3.symm]; exact z.ha, by rw [upd_ne n.p4.symm]; exact z.hs, by rw [upd_ne n.p5.symm]; exact z.hk, by rw [upd_ne n.p6.symm]; exact z.hn⟩
theorem BkS.ua (z : BkS H A ov okv ak sv av nv) (n : A.Nd) : BkS (upd H A.at_ (.dK ak')) A ov okv ak' sv av nv :=
  ⟨by rw [upd_ne n.b3]; exact z.hb, by rw [upd_ne n.o3]; exact z.ho, by rw [upd_ne n.p3]; exact z.hp, upd_same, by rw [upd_ne n.a4.symm]; exact z.hs, by rw [upd_ne n.a5.symm]; exact z.hk, by rw [upd_ne n.a6.symm]; exact z.hn⟩
theorem BkS.us (z : BkS H A ov okv ak sv av nv) (n : A.Nd) : BkS (upd H A.st (.lst (nV sv'))) A ov okv ak sv' av nv :=
  ⟨by rw [upd_ne n.b4]; exact z.hb, by rw [upd_ne n.o4]; exact z.ho, by rw [upd_ne n.p4]; exact z.hp, by rw [upd_ne n.a4]; exact z.ha, upd_same, by rw [upd_ne n.s5.symm]; exact z.hk, by rw [upd_ne n.s6.symm]; exact z.hn⟩
theorem BkS.uk (z : BkS H A ov okv ak sv av nv) (n : A.Nd) : BkS (upd H A.as_ (.lst av')) A ov okv ak sv av' nv :=
  ⟨by rw [upd_ne n.b5]; exact z.hb, by rw [upd_ne n.o5]; exact z.ho, by rw [upd_ne n.p5]; exact z.hp, by rw [upd_ne n.a5]; exact z.ha, by rw [upd_ne n.s5]; exact z.hs, upd_same, by rw [upd_ne n.k6.symm]; exact z.hn⟩
theorem BkS.un (z : BkS H A ov okv ak sv av nv) (n : A.Nd) : BkS (upd H A.ne (.dK nv')) A ov okv ak sv av nv' :=
  ⟨by rw [upd_ne n.b6]; exact z.hb, by rw [upd_ne n.o6]; exact z.ho, by rw [upd_ne n.p6]; exact z.hp, by rw [upd_ne n.a6]; exact z.ha, by rw [upd_ne n.s6]; exact z.hs, by rw [upd_ne n.k6]; exact z.hk, upd_same⟩
end
/-- new in H -/
structure Ads.New (A : Ads) (H : Hp) : Prop where
  b : H A.b = none
  o : H A.o = none
  op : H A.op = none
  at_ : H A.at_ = none
  st : H A.st = none
  as_ : H A.as_ = none
  ne : H A.ne = none
def BookAt (H : Hp) (b : Addr) (rs : Rs) (out : List Int) : Prop := ∃ (A : Ads) (okv : List (Key × V)) (av : List V), A.b = b ∧ BkS H A (vlA rs) okv (plA rs) (stA rs) av (nkA rs out) ∧ OpAt H okv rs rs.length ∧ AsAt H av (stA rs) rs
theorem BookAt.same {H H' : Hp} {b : Addr} {rs : Rs} {out : List Int} (h : BookAt H b rs out) (s : Same H H') : BookAt H' b rs out := let ⟨A, okv, av, e, z, x, y⟩ := h; ⟨A, okv, av, e, z.same s, x.kt (.of s), y.kt (.of s)⟩
/-- .. of parts that are new in H0 -/
def BookNw (H0 H : Hp) (b : Addr) (rs : Rs) (out : List Int) : Prop := ∃ (A : Ads) (okv : List (Key × V)) (av : List V), A.b = b ∧ BkS H A (vlA rs) okv (plA rs) (stA rs) av (nkA rs out) ∧ OpAt H okv rs rs.length ∧ AsAt H av (stA rs) rs ∧ A.New H0
theorem BookNw.at {H0 H : Hp} {b : Addr} {rs : Rs} {out : List Int} (h : BookNw H0 H b rs out) : BookAt H b rs out := let ⟨A, okv, av, e, z, x, y, _⟩ := h; ⟨A, okv, av, e, z, x, y⟩
theorem BookNw.same {H0 H H' : Hp} {b : Addr} {rs : Rs} {out : List Int} (h : BookNw H0 H b rs out) (s : Same H H') : BookNw H0 H' b rs out := let ⟨A, okv, av, e, z, x, y, n⟩ := h; ⟨A, okv, av, e, z.same s, x.kt (.of s), y.kt (.of s), n⟩
theorem BookNw.but {H0 H H' : Hp} {b g : Addr} {rs : Rs} {out : List Int} {o0 : HO} {xs : List V} (h : BookNw H0 H b rs out) (h0 : H0 g = some o0) (hg : H g = some (.lst xs)) (bt : But g H H') : BookNw H0 H' b rs out := by
  obtain ⟨A, okv, av, e, z, x, y, n⟩ := h
  have ne : ∀ {a : Addr}, H0 a = none → a ≠ g := fun h e => by rw [e, h0] at h; cases h
  have kt : KT H H' := fun c ys e => bt _ _ e fun z => by rw [z, hg] at e; cases e
  exact ⟨A, okv, av, e, ⟨bt _ _ z.hb (ne n.b), bt _ _ z.ho (ne n.o), bt _ _ z.hp (ne n.op), bt _ _ z.ha (ne n.at_), bt _ _ z.hs (ne n.st), bt _ _ z.hk (ne n.as_), bt _ _ z.hn (ne n.ne)⟩, x.kt kt, y.kt kt, n⟩
theorem BookNw.upd {H0 H : Hp} {b g : Addr} {rs : Rs} {out : List Int} {o o0 : HO} {xs : List V} (h : BookNw H0 H b rs out) (h0 : H0 g = some o0) (hg : H g = some (.lst xs)) : BookNw H0 (L2.upd H g o) b rs out := h.but h0 hg but_upd
section
variable {P : Program} {w : World} {K : PySem.W.Frag} {mg : Str → Option Value} {base : Heap} {C : Addr} {f : Addr} {fd : FuncData}
def spBook : Sp := fun vs H Q _ => ∃ (a b : Addr) (ls : List V) (rs : Rs) (out : List Int), vs = [.ref a, .ref b] ∧ H a = some (.lst ls) ∧ Rws H ls rs ∧ RsOk rs ∧ H b = some (.lst (out.map V.int)) ∧ out.length ≤ 100 ∧ ∀ H' r, Same H H' → H r = none → BookNw H H' r rs out → Q (.ref r) H'
theorem merge_nd : ∀ (more kvs : List (Key × V)), (kvs.map (·.1) ++ more.map (·.1)).Nodup → mergeK kvs more = kvs ++ more
  | [], kvs, _ => (List.append_nil _).symm
  | p :: r, kvs, h => by
    have hp : p.1 ∉ kvs.map (·.1) := fun z => (List.nodup_append.mp h).2.2 _ z _ (List.mem_map.mpr ⟨p, List.mem_cons_self .., rfl⟩) rfl
    show mergeK (putK kvs p.1 p.2) r = _
    rw [putK_new _ (valV_none hp), merge_nd r (kvs ++ [p]) (by rw [List.map_append, List.append_assoc]; exact h), List.append_assoc]
    rfl
theorem merge6 (a b c d e g : V) : mergeK [] (bkV a b c d e g) = bkV a b c d e g := by
  rw [merge_nd]
  · rfl
  · show ([Sum.inr "order", Sum.inr "operands", Sum.inr "at", Sum.inr "stops", Sum.inr "asked", Sum.inr "need"] : List Key).Nodup
    decide +kernel
theorem row_val {H : Hp} {v : V} {r : Rw} (h : RwAt H v r) : (∃ t x n xs u, v = .ref t ∧ H t = some (.tup (.str x :: .int n :: xs)) ∧ inV (.str x) [.str "leaf", .str "set"] = true ∧ r.val = [n] ∧ ((V.str x :: V.int n :: xs) ++ [V.non])[2]? = some u ∧ OpV H u r ∧ xs.length ≤ 1) ∨
    ∃ t x xs, v = .ref t ∧ H t = some (.tup (.str x :: xs)) ∧ inV (.str x) [.str "leaf", .str "set"] = false ∧ r.val = [] := by
  cases r with
  | leaf n => obtain ⟨t, rfl, ht⟩ := h; exact .inl ⟨t, _, n, [], _, rfl, ht, by rw [in2, sls]; rfl, rfl, rfl, rfl, by decide⟩
  | set n os => obtain ⟨t, u, rfl, ht, hu⟩ := h; exact .inl ⟨t, _, n, [u], u, rfl, ht, by rw [in2, ss1, Bool.or_true], rfl, rfl, hu, by show 1 ≤ 1; decide⟩
  | use os => obtain ⟨t, u, rfl, ht, hu⟩ := h; exact .inr ⟨t, _, _, rfl, ht, by rw [in2, sl2, ss2]; rfl, rfl⟩
  | stop l os => obtain ⟨t, u, rfl, ht, hu⟩ := h; exact .inr ⟨t, _, _, rfl, ht, by rw [in2, sl3, ss3]; rfl, rfl⟩
theorem row_stop {H : Hp} {v : V} {r : Rw} (h : RwAt H v r) : (∃ t l u, v = .ref t ∧ H t = some (.tup [.str "stop", .str l, u]) ∧ OpT H u r.ops ∧ r.isStop = true ∧ r.lab = l) ∨ ∃ t x xs, v = .ref t ∧ H t = some (.tup (.str x :: xs)) ∧ decide (V.str x = V.str "stop") = false ∧ r.isStop = false := by
  cases r with
  | leaf n => obtain ⟨t, rfl, ht⟩ := h; exact .inr ⟨t, _, _, rfl, ht, sl3, rfl⟩
  | set n os => obtain ⟨t, u, rfl, ht, hu⟩ := h; exact .inr ⟨t, _, _, rfl, ht, ss3, rfl⟩
  | use os => obtain ⟨t, u, rfl, ht, hu⟩ := h; exact .inr ⟨t, _, _, rfl, ht, su3, rfl⟩
  | stop l os => obtain ⟨t, u, rfl, ht, hu⟩ := h; exact .inl ⟨t, l, u, rfl, ht, hu, rfl, rfl⟩
theorem row_need {H : Hp} {v : V} {r : Rw} (h : RwAt H v r) : (∃ t x xs u, v = .ref t ∧ H t = some (.tup (.str x :: xs)) ∧ inV (.str x) [.str "set", .str "use"] = true ∧ atI (V.str x :: xs) (-1) = some u ∧ OpT H u r.need) ∨ ∃ t x xs, v = .ref t ∧ H t = some (.tup (.str x :: xs)) ∧ inV (.str x) [.str "set", .str "use"] = false ∧ r.need = [] := by
  cases r with
  | leaf n => obtain ⟨t, rfl, ht⟩ := h; exact .inr ⟨t, _, _, rfl, ht, by rw [in2, ss0, su0]; rfl, rfl⟩
  | set n os => obtain ⟨t, u, rfl, ht, hu⟩ := h; exact .inl ⟨t, _, _, u, rfl, ht, by rw [in2, ss1]; rfl, rfl, hu⟩
  | use os => obtain ⟨t, u, rfl, ht, hu⟩ := h; exact .inl ⟨t, _, _, u, rfl, ht, by rw [in2, su2, Bool.or_true], rfl, hu⟩
  | stop l os => obtain ⟨t, u, rfl, ht, hu⟩ := h; exact .inr ⟨t, _, _, rfl, ht, by rw [in2, ss3, su3]; rfl, rfl⟩
theorem val_new {vs : List Int} {r : Rw} {n : Int} (ro : RowOk vs r) (hv : r.val = [n]) : n ∉ vs := by
  cases r with
  | leaf m => cases hv; exact ro
  | set m os => cases hv; exact ro.1
  | use os => cases hv
  | stop l os => cases hv
theorem ok_l_book (T : Tx K mg C) (F : FD K "_law_book" "_law_book" s_l_book [] f fd) : FnG P w K mg base CX0 1 f fd ["_law_rows_here", "_law_out"] spBook := by
  refine ok0 F sc_l_book (fun vs H Q E h => ?_) (fun cdv A outer s H vs Q E hr h => ?_)
  · obtain ⟨a, b, ls, rs, out, rfl, _⟩ := h
    rfl
  · obtain ⟨a, b, ls, rs, out, rfl, ha, rws, ok, hb, lo, q⟩ := h
    refine ⟨_, (pss_cons (ps_set (i := 2) sc_l_book.nd rfl (by first | exact Or.inl rfl | exact Or.inr rfl) (pe_disp (pps_cons pe_str (pe_lst pa_nil) (pps_cons pe_str pe_dnewK (pps_cons pe_str pe_dnewK (pps_cons pe_str (pe_lst pa_nil) (pps_cons pe_str (pe_lst pa_nil) (pps_cons pe_str pe_dnewK pps_nil)))))) rfl rfl (fun z => by cases z) (by decide)))
      (pss_cons (ps_for PassesOwn.never rfl (pi_enumA (by rfl) T.n_enumerate (pa_cons (pv 0) pa_nil)) (pg_tup rfl (pgs_cons (pg_name (i := 3) sc_l_book.nd rfl (by first | exact Or.inl rfl | exact Or.inr rfl)) (pgs_cons (pg_name (i := 4) sc_l_book.nd rfl (by first | exact Or.inl rfl | exact Or.inr rfl)) pgs_nil))) (pss_cons (ps_if (pt_cmpR op_in_seq (pe_ix ix_tup (pv 4) pe_int (fun _ _ => rfl)) (pe_tup (pa_cons pe_str (pa_cons pe_str pa_nil))) (by rfl)) (pss_cons (ps_expr (pe_bm PySem.F.plainAttrs_list PySem.F.slot_list_append PySem.F.type_list_append mt_append (pe_dget (un1 hr.r.units) (pv 2) pe_str (fun _ _ => rfl)) (pa_cons (pe_ix ix_tup (pv 4) pe_int (fun _ _ => rfl)) pa_nil)))
      (pss_one (ps_asg (pe_tup (pa_cons (pv 3) (pa_cons (pe_ix ix_tup (pe_op op_catA (pv 4) (pe_tup (pa_cons pe_non pa_nil))) pe_int (fun _ _ => rfl)) pa_nil))) (pg_tup rfl (pgs_cons (pg_sub (pe_dget (un1 hr.r.units) (pv 2) pe_str (fun _ _ => rfl)) (pe_ix ix_tup (pv 4) pe_int (fun _ _ => rfl)) (set_dict (un1 hr.r.units))) (pgs_cons (pg_sub (pe_dget (un1 hr.r.units) (pv 2) pe_str (fun _ _ => rfl)) (pe_ix ix_tup (pv 4) pe_int (fun _ _ => rfl)) (set_dict (un1 hr.r.units))) pgs_nil)))))) pss_nil)
      (pss_cons (ps_if (pt_cmpR op_eq (pe_ix ix_tup (pv 4) pe_int (fun _ _ => rfl)) pe_str (nomark _)) (pss_cons (ps_expr (pe_bm PySem.F.plainAttrs_list PySem.F.slot_list_append PySem.F.type_list_append mt_append (pe_dget (un1 hr.r.units) (pv 2) pe_str (fun _ _ => rfl)) (pa_cons (pv 3) pa_nil)))
      (pss_one (ps_expr (pe_bm PySem.F.plainAttrs_list PySem.F.slot_list_append PySem.F.type_list_append mt_append (pe_dget (un1 hr.r.units) (pv 2) pe_str (fun _ _ => rfl)) (pa_cons (pe_ix ix_tup (pv 4) pe_int (fun _ _ => rfl)) pa_nil))))) pss_nil)
      (pss_one (ps_if (pt_cmpR op_in_seq (pe_ix ix_tup (pv 4) pe_int (fun _ _ => rfl)) (pe_tup (pa_cons pe_str (pa_cons pe_str pa_nil))) (by rfl)) (pss_one (ps_for PassesOwn.never rfl (pi_tup (pe_ix ix_tup (pv 4) (pe_un un_neg pe_int) (fun _ _ => rfl))) (pg_name (i := 5) sc_l_book.nd rfl (by first | exact Or.inl rfl | exact Or.inr rfl)) (pss_one (ps_dput (un1 hr.r.units) (pe_dget (un1 hr.r.units) (pv 2) pe_str (fun _ _ => rfl)) (pv 5) (pv 3) rfl)))) pss_nil)))))
      (pss_cons (ps_for PassesOwn.never rfl (pi_list (pv 1)) (pg_name (i := 5) sc_l_book.nd rfl (by first | exact Or.inl rfl | exact Or.inr rfl)) (pss_one (ps_dput (un1 hr.r.units) (pe_dget (un1 hr.r.units) (pv 2) pe_str (fun _ _ => rfl)) (pv 5) (pe_callB call_len_seq (by rfl) T.n_len (by decide +kernel) (pa_cons (pv 0) pa_nil)) rfl)))
      (pss_one (ps_ret (pv 2)))))), ?_⟩
    refine fun bk nbk => ?_
    obtain ⟨G0, e, s0, hbk⟩ := mkO nbk (.dK [])
    rw [e]
    clear e
    refine ⟨(by show 0 ≤ sizeLine; decide), fun o no => ?_⟩
    obtain ⟨G1, e, s1, ho⟩ := mkO no (.lst [])
    rw [e]
    clear e
    refine fun op nop => ?_
    obtain ⟨G2, e, s2, hop⟩ := mkO nop (.dK [])
    rw [e]
    clear e
    refine fun at_ nat => ?_
    obtain ⟨G3, e, s3, hat⟩ := mkO nat (.dK [])
    rw [e]
    clear e
    refine ⟨(by show 0 ≤ sizeLine; decide), fun st nst => ?_⟩
    obtain ⟨G4, e, s4, hst⟩ := mkO nst (.lst [])
    rw [e]
    clear e
    refine ⟨(by show 0 ≤ sizeLine; decide), fun as_ nas => ?_⟩
    obtain ⟨G5, e, s5, has⟩ := mkO nas (.lst [])
    rw [e]
    clear e
    refine fun ne nne => ?_
    obtain ⟨G6, e, s6, hne⟩ := mkO nne (.dK [])
    rw [e]
    clear e
    have s56 := s5.trans s6
    have s46 := s4.trans s56
    have s36 := s3.trans s46
    have s26 := s2.trans s36
    have s16 := s1.trans s26
    refine ⟨s16 _ _ hbk, bkD o op at_ st as_ ne, rfl, (by show 6 ≤ 15; decide), ?_⟩
    rw [merge6]
    obtain ⟨A, eA⟩ : ∃ A : Ads, A = ⟨bk, o, op, at_, st, as_, ne⟩ := ⟨_, rfl⟩
    have nd : A.Nd := by
      rw [eA]
      have ib := hbk
      exact ⟨ne_of_none hbk no, ne_of_none (s1 _ _ hbk) nop, ne_of_none (s2 _ _ (s1 _ _ hbk)) nat, ne_of_none (s3 _ _ (s2 _ _ (s1 _ _ hbk))) nst, ne_of_none (s4 _ _ (s3 _ _ (s2 _ _ (s1 _ _ hbk)))) nas, ne_of_none (s5 _ _ (s4 _ _ (s3 _ _ (s2 _ _ (s1 _ _ hbk))))) nne,
        ne_of_none ho nop, ne_of_none (s2 _ _ ho) nat, ne_of_none (s3 _ _ (s2 _ _ ho)) nst, ne_of_none (s4 _ _ (s3 _ _ (s2 _ _ ho))) nas, ne_of_none (s5 _ _ (s4 _ _ (s3 _ _ (s2 _ _ ho)))) nne,
        ne_of_none hop nat, ne_of_none (s3 _ _ hop) nst, ne_of_none (s4 _ _ (s3 _ _ hop)) nas, ne_of_none (s5 _ _ (s4 _ _ (s3 _ _ hop))) nne,
        ne_of_none hat nst, ne_of_none (s4 _ _ hat) nas, ne_of_none (s5 _ _ (s4 _ _ hat)) nne, ne_of_none hst nas, ne_of_none (s5 _ _ hst) nne, ne_of_none has nne⟩
    have s01 := s0
    have nw : A.New H := by
      rw [eA]
      exact ⟨nbk, s0.free no, (s0.trans s1).free nop, ((s0.trans s1).trans s2).free nat, (((s0.trans s1).trans s2).trans s3).free nst, ((((s0.trans s1).trans s2).trans s3).trans s4).free nas, (((((s0.trans s1).trans s2).trans s3).trans s4).trans s5).free nne⟩
    have z0 : BkS (upd G6 bk (.dK (bkD o op at_ st as_ ne))) A [] [] [] [] [] [] := by
      have n := nd
      rw [eA] at n ⊢
      exact ⟨upd_same, by rw [upd_ne n.b1.symm]; exact s26 _ _ ho, by rw [upd_ne n.b2.symm]; exact s36 _ _ hop, by rw [upd_ne n.b3.symm]; exact s46 _ _ hat, by rw [upd_ne n.b4.symm]; exact s56 _ _ hst, by rw [upd_ne n.b5.symm]; exact s6 _ _ has, by rw [upd_ne n.b6.symm]; exact hne⟩
    have sg : Same H (upd G6 bk (.dK (bkD o op at_ st as_ ne))) := own_same (s0.trans s16) nbk
    obtain ⟨G, eG⟩ : ∃ G, G = upd G6 bk (.dK (bkD o op at_ st as_ ne)) := ⟨_, rfl⟩
    have eb : bk = A.b := by rw [eA]
    rw [← eG] at z0 sg ⊢
    rw [eb]
    clear eG eb eA s01 s0 hbk s1 ho s2 hop s3 hat s4 hst s5 has s6 hne s56 s46 s36 s26 s16 no nop nat nst nas nne
    refine nm_of ?_
    dsimp only
    refine ⟨_, rfl, true, a, ls, rfl, SqL.of (sg _ _ ha), ?_⟩
    refine for_it (walk_enumK (K := K) (k := true) (a := a) (xs := ls)) (fun i σ H' => Same H H' ∧ (∃ okv av, BkS H' A (vls rs i) okv (plk rs i) (stp rs i) av (nk rs i) ∧ okv.length ≤ i ∧ OpAt H' okv rs i ∧ AsAt H' av (stp rs i) rs) ∧ ∃ u3 u4 u5, σ = [some (.ref a), some (.ref b), some (.ref A.b), u3, u4, u5])
      ⟨sg, ⟨[], [], z0, Nat.le_refl _, fun j hj => absurd hj (Nat.not_lt_zero _), rfl, fun k v s e => by simp at e⟩, none, none, none, rfl⟩ (fun i σ H' _ h => SqL.of (h.1 _ _ ha)) ?_ ?_
    · rintro i x σ H2 H3 hi ⟨s2, ⟨okv, av, z, lk, opa, asa⟩, u3, u4, u5, rfl⟩ ⟨t, y, zz, rfl, nt, rfl, hy, hz⟩
      cases hy
      have il : i < rs.length := by rw [← rws.len]; exact hi
      have s3 := s2.trans (same_upd (o := .tup [.int (i : Nat), zz]) nt)
      have z3 := z.same (same_upd (o := .tup [.int (i : Nat), zz]) nt)
      refine ⟨t, _, rfl, SqT.of upd_same, rfl, _, _, rfl, _, _, rfl, rfl, ?_⟩
      have ra := (rws.at_ i zz hz).same s3
      have opa3 := opa.kt (.of (same_upd (o := .tup [.int (i : Nat), zz]) nt))
      have asa3 := asa.kt (.of (same_upd (o := .tup [.int (i : Nat), zz]) nt))
      obtain ⟨G3, e3⟩ : ∃ G3, G3 = upd H2 t (.tup [.int (i : Nat), zz]) := ⟨_, rfl⟩
      rw [← e3] at s3 z3 ra opa3 asa3 ⊢
      clear e3
      refine seq_cut (fun σ' H' => σ' = [some (.ref a), some (.ref b), some (.ref A.b), some (.int (i : Nat)), some zz, u5] ∧ Same H H' ∧ KT G3 H' ∧ ∃ okv, BkS H' A (vls rs (i + 1)) okv (plk rs (i + 1)) (stp rs i) av (nk rs i) ∧ okv.length ≤ i + 1 ∧ OpAt H' okv rs (i + 1)) (fun N hN => ?_) ?_
      · have rowv := row_val ra
        have lpv := plk_len rs i
        have lvv := vls_len rs i
        have ll := ok.len
        have lt5 : ∀ {n : Nat}, n < 100000 → n < sizeLine := fun h => Nat.lt_of_lt_of_le h (small (Nat.le_refl _))
        rcases rowv with ⟨t', x', n, xs', u, rfl, ht, inv, hv, eu, hu, lx⟩ | ⟨t', x', xs', rfl, ht, inv, hv⟩
        · refine ⟨_, rfl, t', _, _, _, rfl, rfl, SqT.of ht, atI_nat (j := 0) rfl, (by show 2 ≤ sizeLine; decide), fun tq ntq => ?_⟩
          obtain ⟨G5, e5, s5, htq⟩ := mkO ntq (.tup [.str "leaf", .str "set"])
          rw [e5]
          clear e5
          refine ⟨tq, _, rfl, .inr (SqT.of htq), rfl, rfl, _, rfl, iteY inv ?_⟩
          have z5 := z3.same s5
          have ht5 := s5 _ _ ht
          have nn := val_new (ok.row i il) hv
          have dg1 : DGet G5 A.b (.str "order") (some (.ref A.o)) := by
            have := DGet.k (k := Sum.inr "order") z5.hb
            rw [bk1] at this
            exact this
          refine ⟨_, rfl, A.b, _, rfl, dg1, .inl ⟨rfl, _, SqL.of z5.ho⟩, _, rfl, t', _, _, _, rfl, rfl, SqT.of ht5, atI_nat (j := 1) rfl, A.o, _, _, rfl, rfl, z5.ho, lt5 (by rw [List.length_map]; omega), ?_⟩
          have e1 : vls rs (i + 1) = vls rs i ++ [n] := by rw [vls, hv]
          have z6 : BkS (upd G5 A.o (.lst ((vls rs i).map V.int ++ [.int n]))) A (vls rs (i + 1)) okv (plk rs i) (stp rs i) av (nk rs i) := by
            have := z5.uo (ov' := vls rs (i + 1)) nd
            rw [e1, List.map_append] at this
            rw [e1]
            exact this
          have kt6 : KT G5 (upd G5 A.o (.lst ((vls rs i).map V.int ++ [.int n]))) := kt_upd fun xs e => by rw [z5.ho] at e; cases e
          have s6 : Same H (upd G5 A.o (.lst ((vls rs i).map V.int ++ [.int n]))) := own_same (s3.trans s5) nw.o
          obtain ⟨G6, e6⟩ : ∃ G6, G6 = upd G5 A.o (.lst ((vls rs i).map V.int ++ [.int n])) := ⟨_, rfl⟩
          rw [← e6] at z6 kt6 s6 ⊢
          clear e6
          have ht6 := kt6 _ _ ht5
          refine ⟨_, rfl, _, rfl, (by show 1 ≤ sizeLine; decide), fun tn ntn => ?_⟩
          obtain ⟨G7, e7, s7, htn⟩ := mkO ntn (.tup [.non])
          rw [e7]
          clear e7
          refine cat_of (s7 _ _ ht6) htn (by rw [List.length_cons, List.length_cons]; simp only [List.length_singleton]; omega) fun pc H8 s8 hpc => ?_
          refine ⟨pc, _, _, _, rfl, rfl, SqT.of hpc, atI_nat eu, (by show 2 ≤ sizeLine; decide), fun tt ntt => ?_⟩
          obtain ⟨G9, e9, s9, htt⟩ := mkO ntt (.tup [.int (i : Nat), u])
          rw [e9]
          clear e9
          have s69 := (s7.trans s8).trans s9
          have z9 := z6.same s69
          have ht9 := s69 _ _ ht6
          have dg3 : DGet G9 A.b (.str "at") (some (.ref A.at_)) := by
            have := DGet.k (k := Sum.inr "at") z9.hb
            rw [bk3] at this
            exact this
          refine ⟨tt, _, rfl, SqT.of htt, rfl, _, _, rfl, _, rfl, A.b, _, rfl, dg3, _, rfl, t', _, _, _, rfl, rfl, SqT.of ht9, atI_nat (j := 1) rfl, A.at_, _, rfl, DPut.k (k := Sum.inl n) z9.ha (lt5 (by omega)), ?_⟩
          rw [plk_put nn hv]
          have z10 := z9.ua (ak' := plk rs (i + 1)) nd
          have kt10 : KT G9 (upd G9 A.at_ (.dK (plk rs (i + 1)))) := kt_upd fun xs e => by rw [z9.ha] at e; cases e
          have s10 : Same H (upd G9 A.at_ (.dK (plk rs (i + 1)))) := own_same (s6.trans s69) nw.at_
          obtain ⟨G10, e10⟩ : ∃ G10, G10 = upd G9 A.at_ (.dK (plk rs (i + 1))) := ⟨_, rfl⟩
          rw [← e10] at z10 kt10 s10 ⊢
          clear e10
          have ht10 := kt10 _ _ ht9
          have dg2 : DGet G10 A.b (.str "operands") (some (.ref A.op)) := by
            have := DGet.k (k := Sum.inr "operands") z10.hb
            rw [bk2] at this
            exact this
          refine ⟨_, _, rfl, _, rfl, A.b, _, rfl, dg2, _, rfl, t', _, _, _, rfl, rfl, SqT.of ht10, atI_nat (j := 1) rfl, A.op, _, rfl, DPut.k (k := Sum.inl n) z10.hp (lt5 (by omega)), rfl, ?_⟩
          have kt11 : KT G10 (upd G10 A.op (.dK (putK okv (Sum.inl n) u))) := kt_upd fun xs e => by rw [z10.hp] at e; cases e
          have ktA : KT G3 (upd G10 A.op (.dK (putK okv (Sum.inl n) u))) := ((((KT.of s5).trans kt6).trans (KT.of s69)).trans kt10).trans kt11
          exact hN _ _ ⟨rfl, own_same s10 nw.op, ktA, _, z10.up nd, Nat.le_trans (putK_len _ _ _) (by omega), (opa3.put nn hv hu).kt ktA⟩
        · refine ⟨_, rfl, t', _, _, _, rfl, rfl, SqT.of ht, atI_nat (j := 0) rfl, (by show 2 ≤ sizeLine; decide), fun tq ntq => ?_⟩
          obtain ⟨G5, e5, s5, htq⟩ := mkO ntq (.tup [.str "leaf", .str "set"])
          rw [e5]
          clear e5
          refine ⟨tq, _, rfl, .inr (SqT.of htq), rfl, rfl, _, rfl, iteN inv (nx_of (hN _ _ ⟨rfl, s3.trans s5, .of s5, okv, ?_, by omega, (opa3.no hv).kt (.of s5)⟩))⟩
          have e1 : vls rs (i + 1) = vls rs i := by rw [vls, hv, List.append_nil]
          rw [e1, plk_no hv]
          exact z3.same s5
      · rintro σ4 H4 ⟨rfl, s4, kt4, okv4, z4, lk4, opa4⟩
        have ra4 := ra.kt kt4
        refine seq_cut (fun σ' H' => σ' = [some (.ref a), some (.ref b), some (.ref A.b), some (.int (i : Nat)), some zz, u5] ∧ Same H H' ∧ KT H4 H' ∧ ∃ av', BkS H' A (vls rs (i + 1)) okv4 (plk rs (i + 1)) (stp rs (i + 1)) av' (nk rs i) ∧ AsAt H' av' (stp rs (i + 1)) rs) (fun N hN => ?_) ?_
        · have lt5 : ∀ {n : Nat}, n < 100000 → n < sizeLine := fun h => Nat.lt_of_lt_of_le h (small (Nat.le_refl _))
          have sl := stp_len rs i
          have ll := ok.len
          rcases row_stop ra4 with ⟨t', l, u, rfl, ht, hu, is, _⟩ | ⟨t', x', xs', rfl, ht, ns, is⟩
          · refine ⟨_, rfl, t', _, _, _, rfl, rfl, SqT.of ht, atI_nat (j := 0) rfl, rfl, _, rfl, iteY st3 ?_⟩
            have dg4 : DGet H4 A.b (.str "stops") (some (.ref A.st)) := by
              have := DGet.k (k := Sum.inr "stops") z4.hb
              rw [bk4] at this
              exact this
            refine ⟨_, rfl, A.b, _, rfl, dg4, .inl ⟨rfl, _, SqL.of z4.hs⟩, _, rfl, A.st, _, _, rfl, rfl, z4.hs, lt5 (by rw [List.length_map]; omega), ?_⟩
            have e1 : stp rs (i + 1) = stp rs i ++ [i] := by rw [stp, is, if_pos rfl]
            have z5 : BkS (upd H4 A.st (.lst (nV (stp rs i) ++ [.int (i : Nat)]))) A (vls rs (i + 1)) okv4 (plk rs (i + 1)) (stp rs (i + 1)) av (nk rs i) := by
              have := z4.us (sv' := stp rs (i + 1)) nd
              rw [e1, nV, List.map_append] at this
              rw [e1]
              exact this
            have kt5 : KT H4 (upd H4 A.st (.lst (nV (stp rs i) ++ [.int (i : Nat)]))) := kt_upd fun xs e => by rw [z4.hs] at e; cases e
            have s5 : Same H (upd H4 A.st (.lst (nV (stp rs i) ++ [.int (i : Nat)]))) := own_same s4 nw.st
            obtain ⟨G5, e5⟩ : ∃ G5, G5 = upd H4 A.st (.lst (nV (stp rs i) ++ [.int (i : Nat)])) := ⟨_, rfl⟩
            rw [← e5] at z5 kt5 s5 ⊢
            clear e5
            have dg5 : DGet G5 A.b (.str "asked") (some (.ref A.as_)) := by
              have := DGet.k (k := Sum.inr "asked") z5.hb
              rw [bk5] at this
              exact this
            refine ⟨_, rfl, A.b, _, rfl, dg5, .inl ⟨rfl, _, SqL.of z5.hk⟩, _, rfl, t', _, _, _, rfl, rfl, SqT.of (kt5 _ _ ht), atI_nat (j := 2) rfl, A.as_, _, _, rfl, rfl, z5.hk, lt5 (by rw [asa3.1]; omega), ?_⟩
            have kt6 : KT G5 (upd G5 A.as_ (.lst (av ++ [u]))) := kt_upd fun xs e => by rw [z5.hk] at e; cases e
            refine hN _ _ ⟨rfl, own_same s5 nw.as_, kt5.trans kt6, av ++ [u], z5.uk nd, ?_⟩
            rw [e1]
            exact ((asa3.kt kt4).snoc hu).kt (kt5.trans kt6)
          · refine ⟨_, rfl, t', _, _, _, rfl, rfl, SqT.of ht, atI_nat (j := 0) rfl, rfl, _, rfl, iteN ns (nx_of (hN _ _ ⟨rfl, s4, fun _ _ e => e, av, ?_, ?_⟩))⟩
            · rw [stp, is, if_neg Bool.false_ne_true, List.append_nil]
              exact z4
            · rw [stp, is, if_neg Bool.false_ne_true, List.append_nil]
              exact asa3.kt kt4
        · rintro σ5 H5 ⟨rfl, s5, kt5, av5, z5, asa5⟩
          have ra5 := ra4.kt kt5
          have kl := nk_len ok i (by omega)
          have ll := ok.len
          have lt5 : ∀ {n : Nat}, n < 100000 → n < sizeLine := fun h => Nat.lt_of_lt_of_le h (small (Nat.le_refl _))
          have nl : (rw rs i).need.length ≤ 3 := Nat.le_trans (need_le _) (ok.z i il).opl
          rcases row_need ra5 with ⟨t', x', xs', u, rfl, ht, inv, eu, hu⟩ | ⟨t', x', xs', rfl, ht, inv, hn⟩
          · refine ⟨_, rfl, t', _, _, _, rfl, rfl, SqT.of ht, atI_nat (j := 0) rfl, (by show 2 ≤ sizeLine; decide), fun tq ntq => ?_⟩
            obtain ⟨G6, e6, s6, htq⟩ := mkO ntq (.tup [.str "set", .str "use"])
            rw [e6]
            clear e6
            refine ⟨tq, _, rfl, .inr (SqT.of htq), rfl, rfl, _, rfl, iteY inv ?_⟩
            obtain ⟨o, rfl, ho⟩ := hu.same s6
            refine ⟨_, rfl, _, rfl, t', _, _, _, rfl, rfl, SqT.of (s6 _ _ ht), eu, o, rfl, ⟨_, SqT.of ho⟩, ?_⟩
            refine for_it (walk_tup (K := K) (a := o) (xs := (rw rs i).need.map V.int)) (fun j σ H' => Same H H' ∧ KT G6 H' ∧ BkS H' A (vls rs (i + 1)) okv4 (plk rs (i + 1)) (stp rs (i + 1)) av5 (putAll (nk rs i) i ((rw rs i).need.take j)) ∧ ∃ x, σ = [some (.ref a), some (.ref b), some (.ref A.b), some (.int (i : Nat)), some (.ref t'), x]) ⟨s5.trans s6, fun _ _ e => e, z5.same s6, _, rfl⟩ (fun j σ H' _ h => SqT.of (h.2.1 _ _ ho)) ?_ ?_
            · rintro j x σ H8 H7 hj ⟨s7, kt7, z7, x5, rfl⟩ ⟨rfl, hx⟩
              rw [List.getElem?_map] at hx
              obtain ⟨n, hn, rfl⟩ := Option.map_eq_some_iff.mp hx
              have pl := putAll_len i ((rw rs i).need.take j) (nk rs i)
              rw [List.length_take] at pl
              have dg6 : DGet H7 A.b (.str "need") (some (.ref A.ne)) := by
                have := DGet.k (k := Sum.inr "need") z7.hb
                rw [bk6] at this
                exact this
              refine ⟨_, rfl, _, rfl, A.b, _, rfl, dg6, _, rfl, A.ne, _, rfl, DPut.k (k := Sum.inl n) z7.hn (lt5 (by omega)), own_same s7 nw.ne, kt7.trans (kt_upd fun xs e => by rw [z7.hn] at e; cases e), ?_, _, rfl⟩
              have := z7.un (nv' := putAll (nk rs i) i ((rw rs i).need.take (j + 1))) nd
              rw [List.take_add_one, hn, Option.toList_some, ST.putAll_snoc] at this
              rw [List.take_add_one, hn, Option.toList_some, ST.putAll_snoc]
              exact this
            · rintro σ H7 ⟨s7, kt7, z7, x5, rfl⟩
              rw [List.length_map, List.take_length] at z7
              have ktA := kt5.trans ((KT.of s6).trans kt7)
              exact ⟨s7, ⟨okv4, av5, z7, lk4, opa4.kt ktA, asa5.kt ((KT.of s6).trans kt7)⟩, _, _, _, rfl⟩
          · refine ⟨_, rfl, t', _, _, _, rfl, rfl, SqT.of ht, atI_nat (j := 0) rfl, (by show 2 ≤ sizeLine; decide), fun tq ntq => ?_⟩
            obtain ⟨G6, e6, s6, htq⟩ := mkO ntq (.tup [.str "set", .str "use"])
            rw [e6]
            clear e6
            refine ⟨tq, _, rfl, .inr (SqT.of htq), rfl, rfl, _, rfl, iteN inv ⟨s5.trans s6, ⟨okv4, av5, ?_, lk4, opa4.kt (kt5.trans (.of s6)), asa5.kt (.of s6)⟩, _, _, _, rfl⟩⟩
            have : nk rs (i + 1) = nk rs i := by
              rw [nk, hn]
              rfl
            rw [this]
            exact z5.same s6
    · rintro σ H2 ⟨s2, ⟨okv, av, z, lk, opa, asa⟩, u3, u4, u5, rfl⟩
      rw [rws.len] at z lk opa asa
      have kl := nk_len ok rs.length (Nat.le_refl _)
      have ll := ok.len
      have lt5 : ∀ {n : Nat}, n < 100000 → n < sizeLine := fun h => Nat.lt_of_lt_of_le h (small (Nat.le_refl _))
      refine ⟨_, rfl, b, rfl, ⟨_, SqL.of (s2 _ _ hb)⟩, ?_⟩
      refine for_it (walk_list (K := K) (a := b) (xs := out.map V.int)) (fun j σ H' => Same H H' ∧ KT H2 H' ∧ BkS H' A (vlA rs) okv (plA rs) (stA rs) av (putAll (nk rs rs.length) rs.length (out.take j)) ∧ ∃ u3 u4 u5, σ = [some (.ref a), some (.ref b), some (.ref A.b), u3, u4, u5]) ⟨s2, fun _ _ e => e, z, _, _, _, rfl⟩ (fun j σ H' _ h => SqL.of (h.1 _ _ hb)) ?_ ?_
      · rintro j x σ H8 H7 hj ⟨s7, kt7, z7, u3, u4, u5, rfl⟩ ⟨rfl, hx⟩
        rw [List.getElem?_map] at hx
        obtain ⟨n, hn, rfl⟩ := Option.map_eq_some_iff.mp hx
        have pl := putAll_len rs.length (out.take j) (nk rs rs.length)
        rw [List.length_take] at pl
        have dg6 : DGet H7 A.b (.str "need") (some (.ref A.ne)) := by
          have := DGet.k (k := Sum.inr "need") z7.hb
          rw [bk6] at this
          exact this
        refine ⟨_, rfl, a, ls, rfl, .inl (SqL.of (s7 _ _ ha)), _, rfl, A.b, _, rfl, dg6, _, rfl, A.ne, _, rfl, DPut.k (k := Sum.inl n) z7.hn (lt5 (by omega)), own_same s7 nw.ne, kt7.trans (kt_upd fun xs e => by rw [z7.hn] at e; cases e), ?_, _, _, _, rfl⟩
        have := z7.un (nv' := putAll (nk rs rs.length) rs.length (out.take (j + 1))) nd
        rw [List.take_add_one, hn, Option.toList_some, ST.putAll_snoc] at this
        rw [List.take_add_one, hn, Option.toList_some, ST.putAll_snoc, rws.len]
        exact this
      · rintro σ H7 ⟨s7, kt7, z7, u3, u4, u5, rfl⟩
        rw [List.length_map, List.take_length] at z7
        exact ⟨_, rfl, q _ A.b s7 nw.b ⟨A, okv, av, rfl, z7, opa.kt kt7, asa.kt kt7, nw⟩⟩
/-! ### there, live -/
def spTh : Sp := fun vs H Q _ => ∃ b rs out, ∃ (n : Int) (k : Nat), vs = [.ref b, .int n, .int (k : Nat)] ∧ BookAt H b rs out ∧ n ∈ vlA rs ∧ k < (stA rs).length ∧ Q (.bl (pres rs n k)) H
theorem ok_l_is_there (T : Tx K mg C) (F : FD K "_law_is_there" "_law_is_there" s_l_is_there [] f fd) : FnG P w K mg base CX0 1 f fd ["_law_book_here", "_law_value", "_law_stop"] spTh := by
  refine ok0 F sc_l_is_there (fun vs H Q E h => ?_) (fun cdv A outer s H vs Q E hr h => ?_)
  · obtain ⟨b, rs, out, n, k, rfl, _⟩ := h
    rfl
  · obtain ⟨b, rs, out, n, k, rfl, ⟨A, okv, av, rfl, z, _, _⟩, hn, hk, q⟩ := h
    refine ⟨_, (pss_one (ps_ret (pe_cmpR op_lt (pe_dget (un1 hr.r.units) (pe_dget (un1 hr.r.units) (pv 0) pe_str (fun _ _ => rfl)) (pv 1) (fun _ _ => rfl)) (pe_ix ix_list (pe_dget (un1 hr.r.units) (pv 0) pe_str (fun _ _ => rfl)) (pv 2) (fun _ _ => rfl)) (nomark _)))), ?_⟩
    have dg3 := DGet.k (k := Sum.inr "at") z.hb
    rw [bk3] at dg3
    have dg4 := DGet.k (k := Sum.inr "stops") z.hb
    rw [bk4] at dg4
    obtain ⟨j, hj, ep, hv, ev⟩ := plc_eq hn
    have dg := DGet.k (k := Sum.inl n) z.ha
    rw [ev] at dg
    exact ⟨_, rfl, A.b, _, rfl, dg3, _, rfl, A.at_, _, rfl, dg, _, rfl, A.b, _, rfl, dg4, _, rfl, A.st, _, _, _, rfl, rfl, SqL.of z.hs, at_nV (spt_at hk), _, _, rfl, rfl, q⟩
def spLL : Sp := fun vs H Q _ => ∃ b rs out, ∃ (n : Int) (k : Nat), vs = [.ref b, .int n, .int (k : Nat)] ∧ BookAt H b rs out ∧ n ∈ vlA rs ∧ k < (stA rs).length ∧ Q (.bl (live rs out n k)) H
theorem ok_l_is_live (T : Tx K mg C) (G_l_is_there : Fnc P w K mg base CX0 1 "_law_is_there" [] spTh) (F : FD K "_law_is_live" "_law_is_live" s_l_is_live [] f fd) : FnG P w K mg base CX0 2 f fd ["_law_book_here", "_law_value", "_law_stop"] spLL := by
  refine ok0 F sc_l_is_live (fun vs H Q E h => ?_) (fun cdv A outer s H vs Q E hr h => ?_)
  · obtain ⟨b, rs, out, n, k, rfl, _⟩ := h
    rfl
  · obtain ⟨b, rs, out, n, k, rfl, hb, hn, hk, q⟩ := h
    obtain ⟨A, okv, av, rfl, z, _, _⟩ := id hb
    refine ⟨_, (pss_one (ps_ret (pe_and (pe_fn G_l_is_there (hr.mono (by decide)) pass0 (pa_cons (pv 0) (pa_cons (pv 1) (pa_cons (pv 2) pa_nil)))) (pe_one (pe_cmpR op_gt (pe_dget2 (un1 hr.r.units) (pe_dget (un1 hr.r.units) (pv 0) pe_str (fun _ _ => rfl)) (pv 1) (pe_un un_neg pe_int) ⟨rfl, rfl, rfl, rfl⟩) (pe_ix ix_list (pe_dget (un1 hr.r.units) (pv 0) pe_str (fun _ _ => rfl)) (pv 2) (fun _ _ => rfl)) (nomark _)))))), ?_⟩
    have dg6 := DGet.k (k := Sum.inr "need") z.hb
    rw [bk6] at dg6
    have dg4 := DGet.k (k := Sum.inr "stops") z.hb
    rw [bk4] at dg4
    refine ⟨_, rfl, _, rfl, _, rfl, A.b, rs, out, n, k, rfl, hb, hn, hk, _, rfl, iteB (fun c => ?_) (fun c => ?_)⟩
    · have e : (valV (nkA rs out) (Sum.inl n)).getD (.int (-1)) = .int (nd rs out n) := nd_eq rs out n
      unfold live at q
      rw [c, Bool.true_and] at q
      exact ⟨_, rfl, A.b, _, rfl, dg6, A.ne, rfl, .inl ⟨_, .inl z.hn⟩, _, rfl, _, rfl, _, DGet.k (k := Sum.inl n) z.hn, _, rfl, A.b, _, rfl, dg4, _, rfl, A.st, _, _, _, rfl, rfl, SqL.of z.hs, at_nV (spt_at hk), _, _, e, rfl, q⟩
    · unfold live at q
      rw [c, Bool.false_and] at q
      exact q
end
end K63

set_option Elab.async false
set_option linter.all false
set_option maxRecDepth 100000
set_option maxHeartbeats 2000000
/-! L63e: the law's own spreading of loss. -/
namespace K63
open PySem PySem.Spec PyProof.Rows L2 LL ST
abbrev s_l_lost : Stmt := top 42
abbrev n_l_lost : List Str := ["_law_book_here", "_law_kept", "_law_found", "_law_stop", "_law_value", "_law_parts", "_law_is_open", "_law_part"]
theorem sc_l_lost : FnScope n_l_lost ["_law_book_here", "_law_kept"] (defScope s_l_lost) := ⟨rfl, rfl, rfl, by decide +kernel, rfl, by decide +kernel, by decide +kernel⟩
abbrev s_l_is_enough : Stmt := top 43
abbrev n_l_is_enough : List Str := ["_law_book_here", "_law_kept", "_law_gone", "_law_stop", "_law_values", "_law_value"]
theorem sc_l_is_enough : FnScope n_l_is_enough ["_law_book_here", "_law_kept"] (defScope s_l_is_enough) := ⟨rfl, rfl, rfl, by decide +kernel, rfl, by decide +kernel, by decide +kernel⟩
abbrev s_l_candidates : Stmt := top 44
abbrev n_l_candidates : List Str := ["_law_book_here", "_law_found", "_law_value", "_law_stop"]
theorem sc_l_candidates : FnScope n_l_candidates ["_law_book_here"] (defScope s_l_candidates) := ⟨rfl, rfl, rfl, by decide +kernel, rfl, by decide +kernel, by decide +kernel⟩
abbrev s_l_subsets : Stmt := top 45
abbrev n_l_subsets : List Str := ["_law_things", "_law_found", "_law_thing", "_law_some_here"]
theorem sc_l_subsets : FnScope n_l_subsets ["_law_things"] (defScope s_l_subsets) := ⟨rfl, rfl, rfl, by decide +kernel, rfl, by decide +kernel, by decide +kernel⟩
theorem prs_len (rs : Rs) (k : Nat) : (prs rs k).length ≤ rs.length := Nat.le_trans (List.length_filter_le _ _) (vls_len rs rs.length)
theorem prs_mem {rs : Rs} {k : Nat} {n : Int} (h : n ∈ prs rs k) : n ∈ vlA rs := (List.mem_filter.mp h).1
theorem valT_none {kvs : List (List Key × V)} {k : List Key} (h : k ∉ kvs.map (·.1)) : valV kvs k = none := by
  unfold valV
  rw [List.find?_eq_none.mpr fun kv hkv e => h (List.mem_map.mpr ⟨kv, hkv, of_decide_eq_true e⟩)]
  rfl
theorem valT_some {kvs : List (List Key × V)} {k : List Key} : (valV kvs k).isSome = true ↔ k ∈ kvs.map (·.1) := by
  constructor
  · intro h
    refine Classical.byContradiction fun z => ?_
    rw [valT_none z] at h
    cases h
  · intro h
    obtain ⟨kv, hkv, e⟩ := List.mem_map.mp h
    unfold valV
    rw [Option.isSome_map, List.find?_isSome]
    exact ⟨kv, hkv, decide_eq_true e⟩
theorem putT_keys (kvs : List (List Key × V)) (k : List Key) (v : V) : ((putK kvs k v).map (·.1) = kvs.map (·.1) ∧ k ∈ kvs.map (·.1)) ∨ ((putK kvs k v).map (·.1) = kvs.map (·.1) ++ [k] ∧ k ∉ kvs.map (·.1)) := by
  unfold putK
  split
  · next h =>
    obtain ⟨kv, hkv, e⟩ := List.any_eq_true.mp h
    refine .inl ⟨?_, List.mem_map.mpr ⟨kv, hkv, of_decide_eq_true e⟩⟩
    rw [List.map_map]
    refine List.map_congr_left fun x hx => ?_
    show (if x.1 = k then (x.1, v) else x).1 = x.1
    split <;> rfl
  · next h =>
    refine .inr ⟨by rw [List.map_append]; rfl, fun z => h ?_⟩
    obtain ⟨kv, hkv, e⟩ := List.mem_map.mp z
    exact List.any_eq_true.mpr ⟨kv, hkv, decide_eq_true e⟩
structure GoneD (kvs : List (List Key × V)) (g : Int → Int → Prop) : Prop where
  iff : ∀ n k : Int, (valV kvs (k2 n k)).isSome = true ↔ g n k
  nd : (kvs.map (·.1)).Nodup
  ks : ∀ x ∈ kvs.map (·.1), ∃ n k : Int, x = k2 n k
theorem gone_nil {g : Int → Int → Prop} (h : ∀ n k, ¬ g n k) : GoneD [] g := ⟨fun n k => ⟨(fun z => by cases z), fun z => absurd z (h n k)⟩, List.nodup_nil, fun x hx => by cases hx⟩
theorem GoneD.put {kvs : List (List Key × V)} {g : Int → Int → Prop} (h : GoneD kvs g) (n k : Int) : GoneD (putK kvs (k2 n k) (.bl true)) fun m j => (m = n ∧ j = k) ∨ g m j := by
  refine ⟨fun m j => ?_, ?_, fun x hx => ?_⟩
  · rw [valV_put]
    by_cases c : k2 m j = k2 n k
    · rw [if_pos c]
      exact ⟨fun _ => .inl (k2_inj c), fun _ => rfl⟩
    · rw [if_neg c, h.iff m j]
      exact ⟨.inr, fun z => z.resolve_left fun e => c (by rw [e.1, e.2])⟩
  · rcases putT_keys kvs (k2 n k) (.bl true) with ⟨e, _⟩ | ⟨e, hn⟩
    · rw [e]
      exact h.nd
    · rw [e]
      exact List.nodup_append.mpr ⟨h.nd, List.nodup_cons.mpr ⟨List.not_mem_nil, List.nodup_nil⟩, fun a ha b hb z => hn (by rw [List.mem_singleton.mp hb] at z; rw [← z]; exact ha)⟩
  · rcases putT_keys kvs (k2 n k) (.bl true) with ⟨e, _⟩ | ⟨e, hn⟩
    · rw [e] at hx
      exact h.ks x hx
    · rw [e] at hx
      rcases List.mem_append.mp hx with hx | hx
      · exact h.ks x hx
      · exact ⟨n, k, List.mem_singleton.mp hx⟩
theorem GoneD.imp {kvs : List (List Key × V)} {g g' : Int → Int → Prop} (h : GoneD kvs g) (e : ∀ n k, g n k ↔ g' n k) : GoneD kvs g' := ⟨fun n k => (h.iff n k).trans (e n k), h.nd, h.ks⟩
def goneP (rs : Rs) (out : List Int) (kp : Kps) (m : Nat) (n k : Int) : Prop := ∃ j : Nat, k = j ∧ j < m ∧ n ∈ lostA rs out kp j
def GoneAt (H : Hp) (d : Addr) (rs : Rs) (out : List Int) (kp : Kps) : Prop := ∃ kvs, H d = some (.dT kvs) ∧ GoneD kvs (goneP rs out kp (stA rs).length)
theorem GoneAt.same {H H' : Hp} {d : Addr} {rs : Rs} {out : List Int} {kp : Kps} (h : GoneAt H d rs out kp) (s : Same H H') : GoneAt H' d rs out kp := let ⟨kvs, e, g⟩ := h; ⟨kvs, s _ _ e, g⟩
theorem kvI {n k : Int} : ([V.int n, V.int k] : List V) = (k2 n k).map kV := rfl
section
variable {P : Program} {w : World} {K : PySem.W.Frag} {mg : Str → Option Value} {base : Heap} {C CE CK CS : Addr} {f : Addr} {fd : FuncData}
def spLost : Sp := fun vs H Q _ => ∃ (b a : Addr) (rs : Rs) (out : List Int) (kp : List IP), vs = [.ref b, .ref a] ∧ BookAt H b rs out ∧ RsOk rs ∧ PsAt H a kp ∧ ∀ H' d, Same H H' → H d = none → GoneAt H' d rs out kp → Q (.ref d) H'
theorem ok_l_lost (T : Tx K mg C) (G_l_is_there : Fnc P w K mg base CX0 1 "_law_is_there" [] spTh) (G_l_is_live : Fnc P w K mg base CX0 2 "_law_is_live" [] spLL) (F : FD K "_law_lost" "_law_lost" s_l_lost [] f fd) : FnG P w K mg base CX0 3 f fd ["_law_book_here", "_law_kept"] spLost := by
  refine ok0 F sc_l_lost (fun vs H Q E h => ?_) (fun cdv A outer s H vs Q E hr h => ?_)
  · obtain ⟨b, a, rs, out, kp, rfl, _⟩ := h
    rfl
  · obtain ⟨b, a, rs, out, kp, rfl, hbk, ok, ha, q⟩ := h
    refine ⟨_, (pss_cons (ps_set (i := 2) sc_l_lost.nd rfl (by first | exact Or.inl rfl | exact Or.inr rfl) pe_dnewT)
      (pss_cons (ps_for PassesOwn.never rfl (pi_range1 (by rfl) T.n_range (pa_cons (pe_callB call_len_seq (by rfl) T.n_len (by decide +kernel) (pa_cons (pe_dget (un1 hr.r.units) (pv 0) pe_str (fun _ _ => rfl)) pa_nil)) pa_nil)) (pg_name (i := 3) sc_l_lost.nd rfl (by first | exact Or.inl rfl | exact Or.inr rfl)) (pss_one (ps_for PassesOwn.never rfl (pi_list (pe_lc (own := [("_law_value", 4)]) rfl sc_l_lost.nd (pi_list (pe_dget (un1 hr.r.units) (pv 0) pe_str (fun _ _ => rfl))) (blkOk_by (own := [("_law_value", 4)]) (N := n_l_lost) (sc := defScope s_l_lost) (by decide +kernel)) (fun _ _ _ _ _ => (pg_name (i := 4) sc_l_lost.nd rfl (by first | exact Or.inl rfl | exact Or.inr rfl))) (fun _ _ _ _ _ => (pts_one (pt_val (pe_fn G_l_is_there (hr.mono (by decide)) pass0 (pa_cons (pv 0) (pa_cons (pv 4) (pa_cons (pv 3) pa_nil))))))) (fun _ _ _ _ _ => (pv 4)))) (pg_name (i := 4) sc_l_lost.nd rfl (by first | exact Or.inl rfl | exact Or.inr rfl)) (pss_cons (ps_set (i := 5) sc_l_lost.nd rfl (by first | exact Or.inl rfl | exact Or.inr rfl) (pe_dget (un1 hr.r.units) (pe_dget (un1 hr.r.units) (pv 0) pe_str (fun _ _ => rfl)) (pv 4) (fun _ _ => rfl)))
      (pss_cons (ps_set (i := 6) sc_l_lost.nd rfl (by first | exact Or.inl rfl | exact Or.inr rfl) (pe_or (pe_cmpR op_isN (pv 5) pe_non (nomark _)) (pe_one (pe_cmpR (op_neD hr.r.units) (pe_lc (own := [("_law_part", 7)]) rfl sc_l_lost.nd (pi_tup (pv 5)) (blkOk_by (own := [("_law_part", 7)]) (N := n_l_lost) (sc := defScope s_l_lost) (by decide +kernel)) (fun _ _ _ _ _ => (pg_name (i := 7) sc_l_lost.nd rfl (by first | exact Or.inl rfl | exact Or.inr rfl))) (fun _ _ _ _ _ => (pts_one (pt_cmp (pc_din (un1 hr.r.units) (pe_tup (pa_cons (pv 7) (pa_cons (pv 3) pa_nil))) (pv 2)) rfl))) (fun _ _ _ _ _ => (pv 7))) (pe_lst pa_nil) (nomark _)))))
      (pss_cons (ps_if (PW.pt (pw_and (pt_val (pv 6)) (pw_and (pt_cmpR (op_notInP (un65 hr)) (pe_tup (pa_cons (pv 4) (pa_cons (pv 3) pa_nil))) (pv 1) (by rfl)) (pw_and1 (pt_not (pt_val (pe_fn G_l_is_live (hr.mono (by decide)) pass0 (pa_cons (pv 0) (pa_cons (pv 4) (pa_cons (pv 3) pa_nil)))))))))) (pss_one (ps_dput (un1 hr.r.units) (pv 2) (pe_tup (pa_cons (pv 4) (pa_cons (pv 3) pa_nil))) pe_bl rfl)) pss_nil)
      (pss_one (ps_if (pt_cmp (pc_din (un1 hr.r.units) (pe_tup (pa_cons (pv 4) (pa_cons (pe_op op_sub (pv 3) pe_int) pa_nil))) (pv 2)) rfl) (pss_one (ps_dput (un1 hr.r.units) (pv 2) (pe_tup (pa_cons (pv 4) (pa_cons (pv 3) pa_nil))) pe_bl rfl)) pss_nil))))))))
      (pss_one (ps_ret (pv 2))))), ?_⟩
    obtain ⟨A, okv, av, rfl, bz, opa, asa⟩ := id hbk
    have ll := ok.len
    have lst : (stA rs).length ≤ rs.length := stp_len rs rs.length
    have lt5 : ∀ {n : Nat}, n < 100000 → n < sizeLine := fun h => Nat.lt_of_lt_of_le h (small (Nat.le_refl _))
    have dg1 : ∀ {H'}, Same H H' → DGet H' A.b (.str "order") (some (.ref A.o)) := fun s => by
      have := DGet.k (k := Sum.inr "order") (bz.same s).hb
      rw [bk1] at this
      exact this
    have dg2 : ∀ {H'}, Same H H' → DGet H' A.b (.str "operands") (some (.ref A.op)) := fun s => by
      have := DGet.k (k := Sum.inr "operands") (bz.same s).hb
      rw [bk2] at this
      exact this
    have dg4 : ∀ {H'}, Same H H' → DGet H' A.b (.str "stops") (some (.ref A.st)) := fun s => by
      have := DGet.k (k := Sum.inr "stops") (bz.same s).hb
      rw [bk4] at this
      exact this
    refine fun d nd => ?_
    obtain ⟨G1, e, s1, hd⟩ := mkO nd (.dT [])
    rw [e]
    clear e
    refine nm_of ?_
    dsimp only
    refine ⟨_, rfl, A.b, _, rfl, dg4 s1, A.st, _, rfl, .inl (SqL.of (bz.same s1).hs), _, rfl, by omega, by rw [List.length_map]; omega, ?_⟩
    rw [List.length_map, Int.toNat_natCast]
    refine for_it (walk_range (lo := 0) (n := (stA rs).length)) (fun i σ H' => Same H H' ∧ (∃ kvs, H' d = some (.dT kvs) ∧ kvs.length ≤ 100 * i ∧ GoneD kvs (goneP rs out kp i)) ∧ ∃ u3 u4 u5 u6 u7, σ = [some (.ref A.b), some (.ref a), some (.ref d), u3, u4, u5, u6, u7])
      ⟨s1, ⟨[], hd, Nat.le_refl _, gone_nil fun n k z => by obtain ⟨j, _, hj, _⟩ := z; omega⟩, _, _, _, _, _, rfl⟩ (fun _ _ _ _ _ => trivial) ?_ ?_
    · rintro i x σ H3 H2 hi ⟨s2, ⟨kvs, hd2, lk, gd⟩, u3, u4, u5, u6, u7, rfl⟩ ⟨rfl, rfl⟩
      refine nm_of ?_
      dsimp only
      rw [Int.zero_add]
      refine ⟨_, rfl, A.b, _, rfl, dg1 s2, A.o, rfl, ⟨_, SqL.of (bz.same s2).ho⟩, fun D nD => ?_⟩
      refine lc_acc (walk_list (K := K) (a := A.o) (xs := (vlA rs).map V.int)) nD (fun j => (((vlA rs).take j).filter (pres rs · i)).map V.int) rfl (fun j hj => ?_) (fun H' s' => SqL.of (bz.same (s2.trans s')).ho) ?_ ?_
      · rw [List.length_map]
        have := List.length_filter_le (pres rs · i) ((vlA rs).take j)
        rw [List.length_take] at this
        have : (vlA rs).length ≤ rs.length := vls_len rs rs.length
        omega
      · rintro j x H5 H4 hj s4 ⟨rfl, hx⟩ N S hN hS
        rw [List.getElem?_map] at hx
        obtain ⟨n, hn, rfl⟩ := Option.map_eq_some_iff.mp hx
        have tf := take_fil (pres rs · i) hn
        refine ⟨rfl, _, rfl, _, rfl, _, rfl, A.b, rs, out, n, i, rfl, hbk.same (s2.trans s4), List.mem_of_getElem? hn, hi, _, rfl, iteB (fun c => ⟨_, rfl, hN _ _ Same.rfl' ?_⟩) (fun c => hS _ Same.rfl' ?_)⟩
        · rw [tf, if_pos c, List.map_append]
          rfl
        · rw [tf, if_neg (by rw [c]; exact Bool.false_ne_true), List.append_nil]
      intro H4 s4 h4
      rw [List.length_map, List.take_length] at h4
      have h4 : H4 D = some (.lst ((prs rs i).map V.int)) := h4
      have s04 := s2.trans s4
      have Dd : D ≠ d := fun z => by rw [z, s4 _ _ hd2] at h4; cases h4
      have pl : (prs rs i).length ≤ rs.length := prs_len rs i
      refine ⟨D, rfl, ⟨_, SqL.of h4⟩, ?_⟩
      refine for_it (walk_list (K := K) (a := D) (xs := (prs rs i).map V.int)) (fun j σ H' => Same H H' ∧ H' D = some (.lst ((prs rs i).map V.int)) ∧ (∃ kvs, H' d = some (.dT kvs) ∧ kvs.length ≤ 100 * i + 2 * j ∧ GoneD kvs (fun n k => goneP rs out kp i n k ∨ (k = i ∧ n ∈ lostF rs out kp (prevL rs out kp i) i ((prs rs i).take j)))) ∧ ∃ u4 u5 u6 u7, σ = [some (.ref A.b), some (.ref a), some (.ref d), some (.int (i : Nat)), u4, u5, u6, u7])
        ⟨s04, h4, ⟨kvs, s4 _ _ hd2, by omega, gd.imp fun n k => ⟨.inl, fun z => z.resolve_right fun z => by cases z.2⟩⟩, _, _, _, _, rfl⟩ (fun j σ H' _ h => SqL.of h.2.1) ?_ ?_
      · rintro j x σ H6 H5 hj ⟨s5, hD5, ⟨kvs5, hd5, lk5, gd5⟩, v4, v5, v6, v7, rfl⟩ ⟨rfl, hx⟩
        rw [List.getElem?_map] at hx
        obtain ⟨n, hn, rfl⟩ := Option.map_eq_some_iff.mp hx
        have hm := List.mem_of_getElem? hn
        have hv := prs_mem hm
        have jl : j < (prs rs i).length := (List.getElem?_eq_some_iff.mp hn).1
        obtain ⟨L, eL⟩ : ∃ L, L = lostF rs out kp (prevL rs out kp i) i ((prs rs i).take j) := ⟨_, rfl⟩
        rw [← eL] at gd5
        obtain ⟨i', hi', ep, hv', _⟩ := plc_eq hv
        obtain ⟨u, eu, hu⟩ := opa i' hi' n hv'
        have erw := rwv_at ok hi' hv'
        have dg := DGet.k (k := Sum.inl n) (bz.same s5).hp
        rw [eu] at dg
        refine nm_of ?_
        dsimp only
        refine ⟨_, rfl, A.b, _, rfl, dg2 s5, _, rfl, A.op, _, rfl, dg, ?_⟩
        refine nm_of ?_
        dsimp only
        -- is it open
        refine ex_cut (fun x H' => x = .bl (opn rs L n) ∧ Same H5 H') (fun R hR => ?_) ?_
        · unfold opn at hR
          rw [erw] at hR
          cases er : rw rs i' with
          | leaf m =>
            rw [er] at hu hR
            cases (show u = .non from hu)
            exact ⟨_, rfl, rfl, _, rfl, iteY (by decide +kernel) (hR _ _ ⟨rfl, Same.rfl'⟩)⟩
          | set m os =>
            rw [er] at hu hR
            obtain ⟨o, rfl, ho⟩ := ((show OpT H u os from hu).same s5)
            have lo : os.length ≤ 3 := by
              have := (ok.z i' hi').opl
              rw [er] at this
              exact this
            refine ⟨_, rfl, rfl, _, rfl, iteN (by rw [decide_eq_false (fun z => nomatch z)]) ?_⟩
            refine ⟨_, rfl, o, rfl, ⟨_, SqT.of ho⟩, fun D2 nD2 => ?_⟩
            refine lc_acc (walk_tup (K := K) (a := o) (xs := os.map V.int)) nD2 (fun y => ((os.take y).filter fun z => decide (z ∈ L)).map V.int) rfl (fun y hy => ?_) (fun H' s' => SqT.of (s' _ _ ho)) ?_ ?_
            · rw [List.length_map]
              have := List.length_filter_le (fun z => decide (z ∈ L)) (os.take y)
              rw [List.length_take] at this
              omega
            · rintro y x H8 H7 hy s7 ⟨rfl, hx⟩ N S hN hS
              rw [List.getElem?_map] at hx
              obtain ⟨c, hc, rfl⟩ := Option.map_eq_some_iff.mp hx
              have tf := take_fil (fun z => decide (z ∈ L)) hc
              refine ⟨rfl, _, rfl, _, rfl, (by show 2 ≤ sizeLine; decide), fun t2 nt2 => ?_⟩
              obtain ⟨G8, e8, s8, ht2⟩ := mkO nt2 (.tup [.int c, .int (i : Nat)])
              rw [e8]
              have hd8 := s8 _ _ (s7 _ _ hd5)
              refine ⟨_, rfl, d, _, rfl, DGet.t (k := k2 c (i : Nat)) hd8 ht2, _, rfl, ?_⟩
              have iff : (valV kvs5 (k2 c (i : Nat))).isSome = true ↔ c ∈ L := by
                rw [gd5.iff c (i : Nat)]
                constructor
                · rintro (⟨j', e, hj', _⟩ | ⟨_, h⟩)
                  · omega
                  · exact h
                · exact fun h => .inr ⟨rfl, h⟩
              refine iteB (fun c2 => ⟨_, rfl, hN _ _ s8 ?_⟩) (fun c2 => hS _ s8 ?_)
              · rw [tf, if_pos (decide_eq_true (iff.mp c2)), List.map_append]
                rfl
              · have nc : c ∉ L := fun z => by rw [iff.mpr z] at c2; cases c2
                rw [tf, if_neg (by rw [decide_eq_false nc]; exact Bool.false_ne_true), List.append_nil]
            intro H7 s7 h7
            rw [List.length_map, List.take_length] at h7
            refine ⟨(by show 0 ≤ sizeLine; decide), fun l0 nl0 => ?_⟩
            obtain ⟨G8, e8, s8, hl0⟩ := mkO nl0 (.lst [])
            rw [e8]
            refine ne_pd (dp_ints (s8 _ _ h7)) (dp_ints (l := []) hl0) (pn_ints _) (pn_ints _) fun b1 hb1 => hR _ _ ⟨?_, s7.trans s8⟩
            congr 1
            have : b1 = !(os.any fun z => decide (z ∈ L)) := by
              rw [Bool.eq_iff_iff, hb1, Bool.not_eq_true', List.any_eq_false]
              constructor
              · intro e z hz hl
                have e := int_inj (PyData.list.inj e)
                have : z ∈ os.filter fun z => decide (z ∈ L) := List.mem_filter.mpr ⟨hz, hl⟩
                rw [e] at this
                cases this
              · intro h
                rw [List.filter_eq_nil_iff.mpr fun z hz => h z hz]
            rw [this, Bool.not_not]
          | use os => rw [er] at hv'; cases hv'
          | stop l os => rw [er] at hv'; cases hv'
        rintro x H7 ⟨rfl, s7⟩
        refine nm_of ?_
        dsimp only
        have s07 := s5.trans s7
        have hd7 := s7 _ _ hd5
        have hD7 := s7 _ _ hD5
        obtain ⟨c1, ec1⟩ : ∃ c1, c1 = (opn rs L n && !decide ((n, (i : Int)) ∈ kp) && !live rs out n i) := ⟨_, rfl⟩
        refine seq_cut (fun σ' H' => (∃ v7', σ' = [some (.ref A.b), some (.ref a), some (.ref d), some (.int (i : Nat)), some (.int n), some u, some (.bl (opn rs L n)), v7']) ∧ Same H H' ∧ H' D = some (.lst ((prs rs i).map V.int)) ∧ ∃ kvs', H' d = some (.dT kvs') ∧ kvs'.length ≤ 100 * i + 2 * j + 1 ∧ GoneD kvs' (fun m k => (c1 = true ∧ m = n ∧ k = i) ∨ goneP rs out kp i m k ∨ (k = i ∧ m ∈ L))) (fun N hN => ?_) ?_
        · have stay : ∀ H', Same H7 H' → c1 = false → N [some (.ref A.b), some (.ref a), some (.ref d), some (.int (i : Nat)), some (.int n), some u, some (.bl (opn rs L n)), v7] H' := fun H' s' e => hN _ _ ⟨⟨_, rfl⟩, s07.trans s', s' _ _ hD7, kvs5, s' _ _ hd7, by omega, gd5.imp fun m k => ⟨.inr, fun z => z.resolve_left fun z => by rw [e] at z; cases z.1⟩⟩
          refine ⟨_, rfl, _, rfl, iteB (fun e1 => ?_) (fun e1 => ?_)⟩
          · refine ⟨_, rfl, _, rfl, (by show 2 ≤ sizeLine; decide), fun t2 nt2 => ?_⟩
            obtain ⟨G8, e8, s8, ht2⟩ := mkO nt2 (.tup [.int n, .int (i : Nat)])
            rw [e8]
            refine ⟨_, rfl, (n, (i : Int)), a, kp, ⟨t2, rfl, ht2⟩, rfl, (ha.same s07).same s8, _, rfl, ?_⟩
            show if (!decide ((n, (i : Int)) ∈ kp)) = true then _ else _
            refine iteB (fun e2 => ?_) (fun e2 => ?_)
            · refine ⟨_, rfl, _, rfl, _, rfl, A.b, rs, out, n, i, rfl, hbk.same (s07.trans s8), hv, hi, _, rfl, iteB (fun e3 => ?_) (fun e3 => ?_)⟩
              · refine ⟨_, rfl, _, rfl, _, rfl, (by show 2 ≤ sizeLine; decide), fun t3 nt3 => ?_⟩
                obtain ⟨G9, e9, s9, ht3⟩ := mkO nt3 (.tup [.int n, .int (i : Nat)])
                rw [e9]
                have s79 := s8.trans s9
                refine ⟨d, _, rfl, DPut.t (k := k2 n (i : Nat)) (s79 _ _ hd7) ht3 (lt5 (by omega)), ?_⟩
                refine hN _ _ ⟨⟨_, rfl⟩, own_same (s07.trans s79) nd, by rw [upd_ne Dd]; exact s79 _ _ hD7, _, upd_same, Nat.le_trans (putK_len _ _ _) (by omega), (gd5.put n (i : Nat)).imp fun m k => ?_⟩
                have ec : c1 = true := by rw [ec1, e1, e2, e3]; rfl
                rw [ec]
                exact ⟨fun z => z.imp (fun z => ⟨rfl, z⟩) id, fun z => z.imp (fun z => z.2) id⟩
              · exact stay _ s8 (by rw [ec1, e1, e2, e3]; rfl)
            · exact stay _ s8 (by rw [ec1, e1, e2]; rfl)
          · exact stay _ Same.rfl' (by rw [ec1, e1]; rfl)
        rintro σ8 H8 ⟨⟨v7', rfl⟩, s8, hD8, kvs8, hd8, lk8, gd8⟩
        refine ⟨_, rfl, _, rfl, _, _, rfl, rfl, (by show 2 ≤ sizeLine; decide), fun t2 nt2 => ?_⟩
        obtain ⟨G9, e9, s9, ht2⟩ := mkO nt2 (.tup [.int n, .int ((i : Int) - 1)])
        rw [e9]
        have s09 := s8.trans s9
        refine ⟨_, rfl, d, _, rfl, DGet.t (k := k2 n ((i : Int) - 1)) (s9 _ _ hd8) ht2, _, rfl, ?_⟩
        have iff : (valV kvs8 (k2 n ((i : Int) - 1))).isSome = true ↔ n ∈ prevL rs out kp i := by
          rw [gd8.iff n ((i : Int) - 1)]
          constructor
          · rintro (⟨_, _, e⟩ | ⟨j', e, hj', h⟩ | ⟨e, _⟩)
            · omega
            · obtain ⟨i2, rfl⟩ : ∃ i2, i = i2 + 1 := ⟨i - 1, by omega⟩
              have : j' = i2 := by omega
              subst this
              exact h
            · omega
          · intro h
            cases i with
            | zero => cases h
            | succ i2 => exact .inr (.inl ⟨i2, by omega, by omega, h⟩)
        have isl : isLost rs out kp (prevL rs out kp i) i L n = (c1 || decide (n ∈ prevL rs out kp i)) := by rw [ec1]; rfl
        have tk : (prs rs i).take (j + 1) = (prs rs i).take j ++ [n] := by rw [List.take_add_one, hn, Option.toList_some]
        have mem : ∀ m : Int, m ∈ lostF rs out kp (prevL rs out kp i) i ((prs rs i).take (j + 1)) ↔ ((c1 = true ∨ n ∈ prevL rs out kp i) ∧ m = n) ∨ m ∈ L := fun m => by
          rw [tk, lostF_snoc, ← eL, isl]
          by_cases c : (c1 || decide (n ∈ prevL rs out kp i)) = true
          · rw [if_pos c, List.mem_append, List.mem_singleton]
            rw [Bool.or_eq_true, decide_eq_true_iff] at c
            exact ⟨fun z => z.elim .inr fun z => .inl ⟨c, z⟩, fun z => z.elim (fun z => .inr z.2) .inl⟩
          · rw [if_neg c]
            rw [Bool.or_eq_true, decide_eq_true_iff] at c
            exact ⟨.inr, fun z => z.resolve_left fun z => c z.1⟩
        refine iteB (fun c2 => ?_) (fun c2 => ?_)
        · refine ⟨_, rfl, _, rfl, _, rfl, (by show 2 ≤ sizeLine; decide), fun t3 nt3 => ?_⟩
          obtain ⟨G10, e10, s10, ht3⟩ := mkO nt3 (.tup [.int n, .int (i : Nat)])
          rw [e10]
          have s810 := s9.trans s10
          refine ⟨d, _, rfl, DPut.t (k := k2 n (i : Nat)) (s810 _ _ hd8) ht3 (lt5 (by omega)), own_same (s8.trans s810) nd, by rw [upd_ne Dd]; exact s810 _ _ hD8, ⟨_, upd_same, Nat.le_trans (putK_len _ _ _) (by omega), (gd8.put n (i : Nat)).imp fun m k => ?_⟩, _, _, _, _, rfl⟩
          have pv := iff.mp c2
          rw [mem m]
          constructor
          · rintro (⟨e1, e2⟩ | ⟨_, e1, e2⟩ | z | ⟨e2, z⟩)
            · exact .inr ⟨e2, .inl ⟨.inr pv, e1⟩⟩
            · exact .inr ⟨e2, .inl ⟨.inr pv, e1⟩⟩
            · exact .inl z
            · exact .inr ⟨e2, .inr z⟩
          · rintro (z | ⟨e2, ⟨_, e1⟩ | z⟩)
            · exact .inr (.inr (.inl z))
            · exact .inl ⟨e1, e2⟩
            · exact .inr (.inr (.inr ⟨e2, z⟩))
        · have npv : n ∉ prevL rs out kp i := fun z => by rw [iff.mpr z] at c2; cases c2
          refine ⟨s09, s9 _ _ hD8, ⟨kvs8, s9 _ _ hd8, by omega, gd8.imp fun m k => ?_⟩, _, _, _, _, rfl⟩
          rw [mem m]
          constructor
          · rintro (⟨e0, e1, e2⟩ | z | ⟨e2, z⟩)
            · exact .inr ⟨e2, .inl ⟨.inl e0, e1⟩⟩
            · exact .inl z
            · exact .inr ⟨e2, .inr z⟩
          · rintro (z | ⟨e2, ⟨e0 | e0, e1⟩ | z⟩)
            · exact .inr (.inl z)
            · exact .inl ⟨e0, e1, e2⟩
            · exact absurd e0 npv
            · exact .inr (.inr ⟨e2, z⟩)
      · rintro σ H5 ⟨s5, hD5, ⟨kvs5, hd5, lk5, gd5⟩, v4, v5, v6, v7, rfl⟩
        rw [List.length_map, List.take_length, ← lostA_eq] at gd5
        rw [List.length_map] at lk5
        refine ⟨s5, ⟨kvs5, hd5, by omega, gd5.imp fun n k => ?_⟩, _, _, _, _, _, rfl⟩
        constructor
        · rintro (⟨j, e, hj, h⟩ | ⟨e, h⟩)
          · exact ⟨j, e, by omega, h⟩
          · exact ⟨i, e, by omega, h⟩
        · rintro ⟨j, e, hj, h⟩
          by_cases c : j = i
          · subst c
            exact .inr ⟨e, h⟩
          · exact .inl ⟨j, e, by omega, h⟩
    · rintro σ H2 ⟨s2, ⟨kvs, hd2, lk, gd⟩, u3, u4, u5, u6, u7, rfl⟩
      exact ⟨_, rfl, q _ d s2 nd ⟨kvs, hd2, gd⟩⟩
theorem gone_iff {kvs : List (List Key × V)} {rs : Rs} {out : List Int} {kp : Kps} (g : GoneD kvs (goneP rs out kp (stA rs).length)) {k : Nat} (hk : k < (stA rs).length) (n : Int) : (valV kvs (k2 n (k : Nat))).isSome = decide (n ∈ lostA rs out kp k) := by
  rw [Bool.eq_iff_iff, g.iff n (k : Nat), decide_eq_true_iff]
  constructor
  · rintro ⟨j, e, _, h⟩
    have : k = j := by omega
    rw [this]
    exact h
  · exact fun h => ⟨k, rfl, hk, h⟩
/-! ### is it enough -/
def spEn : Sp := fun vs H Q _ => ∃ (b a : Addr) (rs : Rs) (out : List Int) (kp : Kps), vs = [.ref b, .ref a] ∧ BookAt H b rs out ∧ RsOk rs ∧ PsAt H a kp ∧ ∀ H' c, Same H H' → (c = true ↔ Enough rs out kp) → Q (.bl c) H'
theorem ok_l_is_enough (T : Tx K mg C) (G_l_lost : Fnc P w K mg base CX0 3 "_law_lost" [] spLost) (F : FD K "_law_is_enough" "_law_is_enough" s_l_is_enough [] f fd) : FnG P w K mg base CX0 4 f fd ["_law_book_here", "_law_kept"] spEn := by
  refine ok0 F sc_l_is_enough (fun vs H Q E h => ?_) (fun cdv A outer s H vs Q E hr h => ?_)
  · obtain ⟨b, a, rs, out, kp, rfl, _⟩ := h
    rfl
  · obtain ⟨b, a, rs, out, kp, rfl, hbk, ok, ha, q⟩ := h
    refine ⟨_, (pss_cons (ps_set (i := 2) sc_l_is_enough.nd rfl (by first | exact Or.inl rfl | exact Or.inr rfl) (pe_fn G_l_lost (hr.mono (by decide)) pass0 (pa_cons (pv 0) (pa_cons (pv 1) pa_nil))))
      (pss_cons (ps_for PassesOwn.never rfl (pi_enumA (by rfl) T.n_enumerate (pa_cons (pe_dget (un1 hr.r.units) (pv 0) pe_str (fun _ _ => rfl)) pa_nil)) (pg_tup rfl (pgs_cons (pg_name (i := 3) sc_l_is_enough.nd rfl (by first | exact Or.inl rfl | exact Or.inr rfl)) (pgs_cons (pg_name (i := 4) sc_l_is_enough.nd rfl (by first | exact Or.inl rfl | exact Or.inr rfl)) pgs_nil))) (pss_one (ps_if (pt_cmpR (op_neD hr.r.units) (pe_lc (own := [("_law_value", 5)]) rfl sc_l_is_enough.nd (pi_tup (pv 4)) (blkOk_by (own := [("_law_value", 5)]) (N := n_l_is_enough) (sc := defScope s_l_is_enough) (by decide +kernel)) (fun _ _ _ _ _ => (pg_name (i := 5) sc_l_is_enough.nd rfl (by first | exact Or.inl rfl | exact Or.inr rfl))) (fun _ _ _ _ _ => (pts_one (pt_cmp (pc_din (un1 hr.r.units) (pe_tup (pa_cons (pv 5) (pa_cons (pv 3) pa_nil))) (pv 2)) rfl))) (fun _ _ _ _ _ => (pv 5))) (pe_lst pa_nil) (nomark _)) (pss_one (ps_ret pe_bl)) pss_nil)))
      (pss_one (ps_ret pe_bl)))), ?_⟩
    refine ⟨_, rfl, _, rfl, b, a, rs, out, kp, rfl, hbk, ok, ha, fun H1 d s1 nd ⟨kvs, hd, gd⟩ => ?_⟩
    refine nm_of ?_
    dsimp only
    obtain ⟨A, okv, av, rfl, bz, opa, asa⟩ := hbk.same s1
    have dg5 : ∀ {H'}, Same H1 H' → DGet H' A.b (.str "asked") (some (.ref A.as_)) := fun s => by
      have := DGet.k (k := Sum.inr "asked") (bz.same s).hb
      rw [bk5] at this
      exact this
    refine ⟨_, rfl, A.b, _, rfl, dg5 Same.rfl', true, A.as_, _, rfl, SqL.of bz.hk, ?_⟩
    refine for_it (walk_enumK (K := K) (k := true) (a := A.as_) (xs := av)) (fun i σ H' => Same H1 H' ∧ (∀ j, j < i → ∀ x ∈ ask rs j, x ∉ lostA rs out kp j) ∧ ∃ u1 u2 u3, σ = [some (.ref A.b), some (.ref a), some (.ref d), u1, u2, u3]) ⟨Same.rfl', fun j hj => absurd hj (Nat.not_lt_zero _), _, _, _, rfl⟩ (fun i σ H' _ h => SqL.of ((bz.same h.1).hk)) ?_ ?_
    · rintro i x σ H2 H3 hi ⟨s2, be, u1, u2, u3, rfl⟩ ⟨t, y, zz, rfl, nt, rfl, hy, hz⟩
      cases hy
      obtain ⟨G3, e3, s3, ht3⟩ := mkO nt (.tup [.int (i : Nat), zz])
      rw [e3]
      have s03 := s2.trans s3
      have il : i < (stA rs).length := by rw [← asa.1]; exact hi
      obtain ⟨o, rfl, ho⟩ := (asa.2 i zz (spt rs i) hz (spt_at il)).same s03
      have lo : (ask rs i).length ≤ 3 := (ok.z _ (spt_stop il).1).opl
      refine ⟨t, _, rfl, SqT.of ht3, rfl, _, _, rfl, _, _, rfl, rfl, ?_⟩
      refine ⟨_, rfl, o, rfl, ⟨_, SqT.of ho⟩, fun D nD => ?_⟩
      refine lc_acc (walk_tup (K := K) (a := o) (xs := (ask rs i).map V.int)) nD (fun j => (((ask rs i).take j).filter fun n => decide (n ∈ lostA rs out kp i)).map V.int) rfl (fun j hj => ?_) (fun H' s' => SqT.of (s' _ _ ho)) ?_ ?_
      · rw [List.length_map]
        have := List.length_filter_le (fun n => decide (n ∈ lostA rs out kp i)) ((ask rs i).take j)
        rw [List.length_take] at this
        omega
      · rintro j x H5 H4 hj s4 ⟨rfl, hx⟩ N S hN hS
        rw [List.getElem?_map] at hx
        obtain ⟨n, hn, rfl⟩ := Option.map_eq_some_iff.mp hx
        have tf := take_fil (fun n => decide (n ∈ lostA rs out kp i)) hn
        refine ⟨rfl, _, rfl, _, rfl, (by show 2 ≤ sizeLine; decide), fun t2 nt2 => ?_⟩
        obtain ⟨G6, e6, s6, ht2⟩ := mkO nt2 (.tup [.int n, .int (i : Nat)])
        rw [e6]
        refine ⟨_, rfl, d, _, rfl, DGet.t (k := k2 n (i : Nat)) (((s03.trans s4).trans s6) _ _ hd) ht2, _, rfl, ?_⟩
        rw [gone_iff gd il n]
        refine iteB (fun c => ⟨_, rfl, hN _ _ s6 ?_⟩) (fun c => hS _ s6 ?_)
        · rw [tf, if_pos c, List.map_append]
          rfl
        · rw [tf, if_neg (by rw [c]; exact Bool.false_ne_true), List.append_nil]
      intro H4 s4 h4
      rw [List.length_map, List.take_length] at h4
      obtain ⟨F, eF⟩ : ∃ F, F = (ask rs i).filter fun n => decide (n ∈ lostA rs out kp i) := ⟨_, rfl⟩
      rw [← eF] at h4
      have mF : ∀ x, x ∈ F ↔ x ∈ ask rs i ∧ x ∈ lostA rs out kp i := fun x => by rw [eF, List.mem_filter, decide_eq_true_iff]
      have s04 := s03.trans s4
      refine ⟨(by show 0 ≤ sizeLine; decide), fun l0 nl0 => ?_⟩
      obtain ⟨G6, e6, s6, hl0⟩ := mkO nl0 (.lst [])
      rw [e6]
      have s06 := s04.trans s6
      refine ne_pd (dp_ints (s6 _ _ h4)) (dp_ints (l := []) hl0) (pn_ints _) (pn_ints _) fun b1 hb1 => ⟨_, rfl, iteB (fun c => ?_) (fun c => ?_)⟩
      · have nn : F ≠ [] := fun z => by
          rw [z] at hb1
          rw [hb1.mpr rfl] at c
          cases c
        refine q _ false (s1.trans s06) ⟨(fun z => nomatch z), fun en => ?_⟩
        cases F with
        | nil => exact absurd rfl nn
        | cons m F =>
          have mm := (mF m).mp (List.mem_cons_self ..)
          exact absurd mm.2 (en i il m mm.1)
      · have e1 : F = [] := by
          have : b1 = true := by cases b1 <;> simp_all
          exact int_inj (PyData.list.inj (hb1.mp this))
        refine ⟨s06, fun j hj x hx hxl => ?_, _, _, _, rfl⟩
        by_cases cj : j = i
        · subst cj
          have := (mF x).mpr ⟨hx, hxl⟩
          rw [e1] at this
          cases this
        · exact be j (by omega) x hx hxl
    · rintro σ H2 ⟨s2, be, u1, u2, u3, rfl⟩
      rw [asa.1] at be
      exact q _ true (s1.trans s2) ⟨fun _ => be, fun _ => rfl⟩
end
end K63

set_option Elab.async false
set_option linter.all false
set_option maxRecDepth 100000
set_option maxHeartbeats 2000000
/-! L63f: what may be kept; all choices of these. -/
namespace K63
open PySem PySem.Spec PyProof.Rows L2 LL ST
/-- a tuple that may be kept -/
def CandB (rs : Rs) (out : List Int) (q : IP) : Prop := ∃ k : Nat, q.2 = k ∧ k < (stA rs).length ∧ q.1 ∈ prs rs k ∧ live rs out q.1 k = false
structure CandL (rs : Rs) (out : List Int) (ps : List IP) : Prop where
  nd : ps.Nodup
  iff : ∀ q, q ∈ ps ↔ CandB rs out q
section
variable {P : Program} {w : World} {K : PySem.W.Frag} {mg : Str → Option Value} {base : Heap} {C : Addr} {f : Addr} {fd : FuncData}
def spCand : Sp := fun vs H Q _ => ∃ (b : Addr) (rs : Rs) (out : List Int), vs = [.ref b] ∧ BookAt H b rs out ∧ RsOk rs ∧ ∀ H' r us ps, Same H H' → H r = none → H' r = some (.lst us) → Prs H' us ps → CandL rs out ps → ps.length ≤ (vlA rs).length * (stA rs).length → Q (.ref r) H'
theorem ok_l_candidates (T : Tx K mg C) (G_l_is_there : Fnc P w K mg base CX0 1 "_law_is_there" [] spTh) (G_l_is_live : Fnc P w K mg base CX0 2 "_law_is_live" [] spLL) (F : FD K "_law_candidates" "_law_candidates" s_l_candidates [] f fd) : FnG P w K mg base CX0 3 f fd ["_law_book_here"] spCand := by
  refine ok0 F sc_l_candidates (fun vs H Q E h => ?_) (fun cdv A outer s H vs Q E hr h => ?_)
  · obtain ⟨b, rs, out, rfl, _⟩ := h
    rfl
  · obtain ⟨b, rs, out, rfl, hbk, ok, q⟩ := h
    refine ⟨_, (pss_cons (ps_set (i := 1) sc_l_candidates.nd rfl (by first | exact Or.inl rfl | exact Or.inr rfl) (pe_lst pa_nil))
      (pss_cons (ps_for PassesOwn.never rfl (pi_list (pe_dget (un1 hr.r.units) (pv 0) pe_str (fun _ _ => rfl))) (pg_name (i := 2) sc_l_candidates.nd rfl (by first | exact Or.inl rfl | exact Or.inr rfl)) (pss_one (ps_for PassesOwn.never rfl (pi_range1 (by rfl) T.n_range (pa_cons (pe_callB call_len_seq (by rfl) T.n_len (by decide +kernel) (pa_cons (pe_dget (un1 hr.r.units) (pv 0) pe_str (fun _ _ => rfl)) pa_nil)) pa_nil)) (pg_name (i := 3) sc_l_candidates.nd rfl (by first | exact Or.inl rfl | exact Or.inr rfl)) (pss_one (ps_if (PW.pt (pw_and (pt_val (pe_fn G_l_is_there (hr.mono (by decide)) pass0 (pa_cons (pv 0) (pa_cons (pv 2) (pa_cons (pv 3) pa_nil))))) (pw_and1 (pt_not (pt_val (pe_fn G_l_is_live (hr.mono (by decide)) pass0 (pa_cons (pv 0) (pa_cons (pv 2) (pa_cons (pv 3) pa_nil))))))))) (pss_one (ps_expr (pe_bm PySem.F.plainAttrs_list PySem.F.slot_list_append PySem.F.type_list_append mt_append (pv 1) (pa_cons (pe_tup (pa_cons (pv 2) (pa_cons (pv 3) pa_nil))) pa_nil)))) pss_nil)))))
      (pss_one (ps_ret (pv 1))))), ?_⟩
    obtain ⟨A, okv, av, rfl, bz, opa, asa⟩ := id hbk
    have ll := ok.len
    have lst : (stA rs).length ≤ rs.length := stp_len rs rs.length
    have vl : (vlA rs).length ≤ rs.length := vls_len rs rs.length
    have dg1 : ∀ {H'}, Same H H' → DGet H' A.b (.str "order") (some (.ref A.o)) := fun s => by
      have := DGet.k (k := Sum.inr "order") (bz.same s).hb
      rw [bk1] at this
      exact this
    have dg4 : ∀ {H'}, Same H H' → DGet H' A.b (.str "stops") (some (.ref A.st)) := fun s => by
      have := DGet.k (k := Sum.inr "stops") (bz.same s).hb
      rw [bk4] at this
      exact this
    obtain ⟨sl, esl⟩ : ∃ sl, sl = (stA rs).length := ⟨_, rfl⟩
    refine ⟨(by show 0 ≤ sizeLine; decide), fun fo nfo => ?_⟩
    obtain ⟨G1, e, s1, hfo⟩ := mkO nfo (.lst [])
    rw [e]
    clear e
    refine nm_of ?_
    dsimp only
    refine ⟨_, rfl, A.b, _, rfl, dg1 s1, A.o, rfl, ⟨_, SqL.of (bz.same s1).ho⟩, ?_⟩
    refine for_it (walk_list (K := K) (a := A.o) (xs := (vlA rs).map V.int)) (fun i σ H' => Same H H' ∧ (∃ vs' ps, H' fo = some (.lst vs') ∧ Prs H' vs' ps ∧ ps.Nodup ∧ ps.length ≤ i * sl ∧ ∀ q, q ∈ ps ↔ CandB rs out q ∧ q.1 ∈ (vlA rs).take i) ∧ ∃ u2 u3, σ = [some (.ref A.b), some (.ref fo), u2, u3])
      ⟨s1, ⟨[], [], hfo, ⟨rfl, fun i v p e => by simp at e⟩, List.nodup_nil, Nat.zero_le _, fun q => ⟨(fun z => by cases z), fun z => by rw [List.take_zero] at z; cases z.2⟩⟩, _, _, rfl⟩ (fun i σ H' _ h => SqL.of ((bz.same h.1).ho)) ?_ ?_
    · rintro i x σ H3 H2 hi ⟨s2, ⟨vs', ps, hfo2, pr, nd, lp, iff⟩, u2, u3, rfl⟩ ⟨rfl, hx⟩
      rw [List.getElem?_map] at hx
      obtain ⟨n, hn, rfl⟩ := Option.map_eq_some_iff.mp hx
      have hm := List.mem_of_getElem? hn
      have il : i < (vlA rs).length := (List.getElem?_eq_some_iff.mp hn).1
      have nti : n ∉ (vlA rs).take i := fun c => by
        obtain ⟨j, hj, e⟩ := List.getElem_of_mem c
        rw [List.length_take] at hj
        rw [List.getElem_take] at e
        obtain ⟨hi', e'⟩ := List.getElem?_eq_some_iff.mp hn
        have jl : j < (vlA rs).length := by omega
        exact List.pairwise_iff_getElem.mp (vls_nd ok rs.length (Nat.le_refl _)) j i jl hi' (by omega) (e.trans e'.symm)
      refine nm_of ?_
      dsimp only
      refine ⟨_, rfl, A.b, _, rfl, dg4 s2, A.st, _, rfl, .inl (SqL.of (bz.same s2).hs), _, rfl, by omega, by rw [List.length_map]; omega, ?_⟩
      rw [List.length_map, Int.toNat_natCast, ← esl]
      have lm : i * sl ≤ 30 * 30 := Nat.mul_le_mul (by omega) (by omega)
      refine for_it (walk_range (lo := 0) (n := sl)) (fun j σ H' => Same H H' ∧ (∃ vs' ps, H' fo = some (.lst vs') ∧ Prs H' vs' ps ∧ ps.Nodup ∧ ps.length ≤ i * sl + j ∧ ∀ q, q ∈ ps ↔ CandB rs out q ∧ (q.1 ∈ (vlA rs).take i ∨ (q.1 = n ∧ q.2 < (j : Nat)))) ∧ ∃ u3, σ = [some (.ref A.b), some (.ref fo), some (.int n), u3])
        ⟨s2, ⟨vs', ps, hfo2, pr, nd, by omega, fun q => (iff q).trans ⟨fun z => ⟨z.1, .inl z.2⟩, fun z => ⟨z.1, z.2.resolve_right fun z2 => by obtain ⟨k, e, _⟩ := z.1; have := z2.2; omega⟩⟩⟩, _, rfl⟩ (fun _ _ _ _ _ => trivial) ?_ ?_
      · rintro j x σ H5 H4 hj ⟨s4, ⟨vs4, ps4, hfo4, pr4, nd4, lp4, iff4⟩, u3, rfl⟩ ⟨rfl, rfl⟩
        refine nm_of ?_
        dsimp only
        rw [Int.zero_add]
        have hj' : j < (stA rs).length := by omega
        have stay : ¬ CandB rs out (n, (j : Int)) → Same H H4 ∧ (∃ vs' ps, H4 fo = some (.lst vs') ∧ Prs H4 vs' ps ∧ ps.Nodup ∧ ps.length ≤ i * sl + (j + 1) ∧ ∀ q, q ∈ ps ↔ CandB rs out q ∧ (q.1 ∈ (vlA rs).take i ∨ (q.1 = n ∧ q.2 < ((j + 1 : Nat) : Int)))) ∧ ∃ u3, ([some (.ref A.b), some (.ref fo), some (.int n), some (.int (j : Nat))] : L2.St) = [some (.ref A.b), some (.ref fo), some (.int n), u3] := fun no => by
          refine ⟨s4, ⟨vs4, ps4, hfo4, pr4, nd4, by omega, fun q => (iff4 q).trans ⟨fun z => ⟨z.1, z.2.imp id fun y => ⟨y.1, by omega⟩⟩, fun z => ⟨z.1, z.2.imp id fun y => ⟨y.1, ?_⟩⟩⟩⟩, _, rfl⟩
          by_cases c : q.2 = (j : Int)
          · exact absurd (show CandB rs out (n, (j : Int)) by rw [← y.1, ← c]; exact z.1) no
          · have := y.2
            omega
        refine ⟨_, rfl, _, rfl, _, rfl, A.b, rs, out, n, j, rfl, hbk.same s4, hm, hj', _, rfl, iteB (fun c1 => ?_) (fun c1 => stay ?_)⟩
        rotate_left
        · rintro ⟨k, e, hk, hp, _⟩
          have ek : k = j := by have e : (j : Int) = k := e; omega
          subst ek
          have := (List.mem_filter.mp hp).2
          have c1 : pres rs n k = false := c1
          rw [show pres rs (n, (k : Int)).1 k = pres rs n k from rfl, c1] at this
          cases this
        refine ⟨_, rfl, _, rfl, _, rfl, A.b, rs, out, n, j, rfl, hbk.same s4, hm, hj', _, rfl, iteB (fun c2 => ?_) (fun c2 => stay ?_)⟩
        rotate_left
        · rintro ⟨k, e, hk, hp, hl⟩
          have ek : k = j := by have e : (j : Int) = k := e; omega
          subst ek
          have hl : live rs out n k = false := hl
          rw [hl] at c2
          cases c2
        have c2 : live rs out n j = false := by cases e : live rs out n j <;> simp_all
        have cb : CandB rs out (n, (j : Int)) := ⟨j, rfl, hj', List.mem_filter.mpr ⟨hm, c1⟩, c2⟩
        refine ⟨_, rfl, .inl ⟨rfl, _, SqL.of hfo4⟩, _, rfl, _, rfl, (by show 2 ≤ sizeLine; decide), fun t nt => ?_⟩
        obtain ⟨G5, e5, s5, ht⟩ := mkO nt (.tup [.int n, .int (j : Nat)])
        rw [e5]
        have hfo5 := s5 _ _ hfo4
        refine ⟨fo, _, _, rfl, rfl, hfo5, lt5 (by rw [pr4.len]; omega), own_same (s4.trans s5) nfo, ⟨vs4 ++ [.ref t], ps4 ++ [(n, (j : Int))], upd_same, ?_, ?_, by rw [List.length_append, List.length_singleton]; omega, fun q => ?_⟩, _, rfl⟩
        · exact ((PrD.of (pr4.same s5) hfo5).snoc (fun c => by rw [c, hfo5] at ht; cases ht) ht).upd.prs
        · refine List.nodup_append.mpr ⟨nd4, by simp, fun q hq r hr e => ?_⟩
          rw [List.mem_singleton.mp hr] at e
          rw [e] at hq
          rcases ((iff4 _).mp hq).2 with h | ⟨_, h⟩
          · exact nti h
          · have h : (j : Int) < (j : Nat) := h
            omega
        · rw [List.mem_append, List.mem_singleton, iff4 q]
          constructor
          · rintro (⟨z1, z2⟩ | rfl)
            · exact ⟨z1, z2.imp id fun y => ⟨y.1, by omega⟩⟩
            · exact ⟨cb, .inr ⟨rfl, by show (j : Int) < ((j + 1 : Nat) : Int); omega⟩⟩
          · rintro ⟨z1, z2⟩
            by_cases c : q = (n, (j : Int))
            · exact .inr c
            · refine .inl ⟨z1, z2.imp id fun y => ⟨y.1, ?_⟩⟩
              have := y.2
              by_cases d : q.2 = (j : Int)
              · exact absurd (Prod.ext y.1 d) c
              · omega
      · rintro σ H4 ⟨s4, ⟨vs4, ps4, hfo4, pr4, nd4, lp4, iff4⟩, u3, rfl⟩
        refine ⟨s4, ⟨vs4, ps4, hfo4, pr4, nd4, by rw [Nat.succ_mul]; omega, fun q => (iff4 q).trans (and_congr_right fun z => ?_)⟩, _, _, rfl⟩
        rw [List.take_add_one, hn, Option.toList_some, List.mem_append, List.mem_singleton]
        refine or_congr_right ⟨fun y => y.1, fun y => ⟨y, ?_⟩⟩
        obtain ⟨k, e, hk, _⟩ := z
        omega
    · rintro σ H2 ⟨s2, ⟨vs', ps, hfo2, pr, nd, lp, iff⟩, u2, u3, rfl⟩
      rw [List.length_map] at lp iff
      rw [List.take_length] at iff
      rw [esl] at lp
      exact ⟨_, rfl, q _ fo vs' ps s2 nfo hfo2 pr ⟨nd, fun q => (iff q).trans ⟨fun z => z.1, fun z => ⟨z, let ⟨k, _, _, hp, _⟩ := z; (List.mem_filter.mp hp).1⟩⟩⟩ lp⟩
/-! ### all choices -/
/-- a list of some of these, in their sequence -/
def SubV (H : Hp) (us : List V) (f : V) : Prop := ∃ t vs, f = .ref t ∧ H t = some (.lst vs) ∧ vs.Sublist us
theorem SubV.same {H H' : Hp} {us : List V} {f : V} (h : SubV H us f) (s : Same H H') : SubV H' us f := let ⟨t, vs, e, x, y⟩ := h; ⟨t, vs, e, s _ _ x, y⟩
theorem SubV.mono {H : Hp} {us us' : List V} {f : V} (h : SubV H us f) (m : us.Sublist us') : SubV H us' f := let ⟨t, vs, e, x, y⟩ := h; ⟨t, vs, e, x, y.trans m⟩
def spSub : Sp := fun vs H Q _ => ∃ (a : Addr) (us : List V), vs = [.ref a] ∧ H a = some (.lst us) ∧ us.length ≤ 12 ∧ ∀ H' r fs, Same H H' → H r = none → H' r = some (.lst fs) → (∀ f ∈ fs, SubV H' us f) → fs.length ≤ 4096 → Q (.ref r) H'
theorem ok_l_subsets (T : Tx K mg C) (F : FD K "_law_subsets" "_law_subsets" s_l_subsets [] f fd) : FnG P w K mg base CX0 1 f fd ["_law_things"] spSub := by
  refine ok0 F sc_l_subsets (fun vs H Q E h => ?_) (fun cdv A outer s H vs Q E hr h => ?_)
  · obtain ⟨a, us, rfl, _⟩ := h
    rfl
  · obtain ⟨a, us, rfl, ha, lu, q⟩ := h
    refine ⟨_, (pss_cons (ps_set (i := 1) sc_l_subsets.nd rfl (by first | exact Or.inl rfl | exact Or.inr rfl) (pe_lst (pa_cons (pe_lst pa_nil) pa_nil)))
      (pss_cons (ps_for PassesOwn.never rfl (pi_list (pv 0)) (pg_name (i := 2) sc_l_subsets.nd rfl (by first | exact Or.inl rfl | exact Or.inr rfl)) (pss_one (ps_set (i := 1) sc_l_subsets.nd rfl (by first | exact Or.inl rfl | exact Or.inr rfl) (pe_op op_cat (pv 1) (pe_lc (own := [("_law_some_here", 3)]) rfl sc_l_subsets.nd (pi_list (pv 1)) (blkOk_by (own := [("_law_some_here", 3)]) (N := n_l_subsets) (sc := defScope s_l_subsets) (by decide +kernel)) (fun _ _ _ _ _ => (pg_name (i := 3) sc_l_subsets.nd rfl (by first | exact Or.inl rfl | exact Or.inr rfl))) (fun _ _ _ _ _ => pts_nil) (fun _ _ _ _ _ => (pe_op op_cat (pv 3) (pe_lst (pa_cons (pv 2) pa_nil)))))))))
      (pss_one (ps_ret (pv 1))))), ?_⟩
    refine ⟨(by show 0 ≤ sizeLine; decide), fun l0 nl0 => ?_⟩
    obtain ⟨G0, e0, s0, hl0⟩ := mkO nl0 (.lst [])
    rw [e0]
    refine ⟨(by show 1 ≤ sizeLine; decide), fun l1 nl1 => ?_⟩
    obtain ⟨G1, e1, s1, hl1⟩ := mkO nl1 (.lst [.ref l0])
    rw [e1]
    refine nm_of ?_
    dsimp only
    have s01 := s0.trans s1
    refine ⟨_, rfl, a, rfl, ⟨_, SqL.of (s01 _ _ ha)⟩, ?_⟩
    refine for_it (walk_list (K := K) (a := a) (xs := us)) (fun i σ H' => Same H H' ∧ (∃ fo fs, H' fo = some (.lst fs) ∧ H fo = none ∧ (∀ f ∈ fs, SubV H' (us.take i) f) ∧ fs.length = 2 ^ i ∧ ∃ u2 u3, σ = [some (.ref a), some (.ref fo), u2, u3]))
      ⟨s01, l1, [.ref l0], hl1, s0.free nl1, (fun f hf => by rw [List.mem_singleton.mp hf]; exact ⟨l0, [], rfl, s1 _ _ hl0, List.nil_sublist _⟩), rfl, _, _, rfl⟩ (fun i σ H' _ h => SqL.of (h.1 _ _ ha)) ?_ ?_
    · rintro i x σ H2 H3 hi ⟨s2, fo, fs, hfo, nfo, hfs, lf, u2, u3, rfl⟩ ⟨rfl, hx⟩
      have p12 : (2 : Nat) ^ (i + 1) ≤ 2 ^ 12 := Nat.pow_le_pow_right (by decide) (by omega)
      have p12 : (2 : Nat) ^ (i + 1) ≤ 4096 := p12
      rw [Nat.pow_succ] at p12
      refine nm_of ?_
      dsimp only
      have sl : ((us.take i) ++ [x]) = us.take (i + 1) := by rw [List.take_add_one, hx]; rfl
      refine ⟨_, rfl, _, rfl, fo, rfl, ⟨_, SqL.of hfo⟩, fun D nD => ?_⟩
      refine lc_inv (walk_list (K := K) (a := fo) (xs := fs)) (fun j acc G => Same H3 G ∧ acc.length = j ∧ ∀ v ∈ acc, ∃ t vs, v = .ref t ∧ t ≠ D ∧ G t = some (.lst vs) ∧ vs.Sublist (us.take (i + 1))) (fun j acc G xs h => ⟨own_same h.1 nD, h.2.1, fun v hv => let ⟨t, vs, e, n, g, y⟩ := h.2.2 v hv; ⟨t, vs, e, n, by rw [upd_ne n]; exact g, y⟩⟩) ⟨Same.rfl', rfl, fun v hv => by cases hv⟩ (fun j acc G hj h => lt5 (by rw [h.2.1]; omega)) (fun j acc G _ h => SqL.of (h.1 _ _ hfo)) ?_ ?_
      · rintro j y acc G' G hj ⟨s4, la, hacc⟩ hD4 ⟨rfl, hy⟩ Nn S hN hS
        obtain ⟨t, vs, rfl, ht, hsub⟩ := (hfs _ (List.mem_of_getElem? hy)).same s4
        refine ⟨rfl, _, rfl, _, rfl, (by show 1 ≤ sizeLine; decide), fun l5 nl5 => ?_⟩
        obtain ⟨G5, e5, s5, hl5⟩ := mkO nl5 (.lst [x])
        rw [e5]
        have vl : vs.length ≤ 12 := by have := hsub.length_le; rw [List.length_take] at this; omega
        refine ⟨t, l5, _, _, rfl, rfl, s5 _ _ ht, hl5, small (by rw [List.length_singleton]; omega), fun l6 nl6 => ?_⟩
        obtain ⟨G6, e6, s6, hl6⟩ := mkO nl6 (.lst (vs ++ [x]))
        rw [e6]
        have s56 := s5.trans s6
        have n6 : l6 ≠ D := fun c => by rw [c, s5 _ _ hD4] at nl6; cases nl6
        refine hN _ _ (s56 _ _ hD4) ⟨s4.trans s56, by rw [List.length_append, la]; rfl, fun v hv => ?_⟩
        rcases List.mem_append.mp hv with hv | hv
        · obtain ⟨t', vs', e, n, g, y'⟩ := hacc v hv
          exact ⟨t', vs', e, n, s56 _ _ g, y'⟩
        · rw [List.mem_singleton.mp hv]
          exact ⟨l6, _, rfl, n6, hl6, by rw [← sl]; exact hsub.append (List.Sublist.refl _)⟩
      · intro acc G4 hD4 ⟨s4, la, hacc⟩
        refine ⟨fo, D, _, _, rfl, rfl, s4 _ _ hfo, hD4, small (by omega), fun l7 nl7 => ?_⟩
        obtain ⟨G7, e7, s7, hl7⟩ := mkO nl7 (.lst (fs ++ acc))
        rw [e7]
        refine nm_of ?_
        dsimp only
        have s27 := s2.trans (s4.trans s7)
        refine ⟨s27, l7, _, hl7, (s2.trans s4).free nl7, fun f hf => ?_, by rw [List.length_append, la, Nat.pow_succ]; omega, _, _, rfl⟩
        rcases List.mem_append.mp hf with hf | hf
        · exact ((hfs f hf).same (s4.trans s7)).mono (by rw [← sl]; exact List.sublist_append_left _ _)
        · obtain ⟨t', vs', e, n, g, y'⟩ := hacc f hf
          exact ⟨t', vs', e, s7 _ _ g, y'⟩
    · rintro σ H3 ⟨s2, fo, fs, hfo, nfo, hfs, lf, u2, u3, rfl⟩
      rw [List.take_length] at hfs
      have p12 : (2 : Nat) ^ us.length ≤ 2 ^ 12 := Nat.pow_le_pow_right (by decide) (by omega)
      have p12 : (2 : Nat) ^ us.length ≤ 4096 := p12
      exact ⟨_, rfl, q _ fo fs s2 nfo hfo hfs (by omega)⟩
end
end K63

set_option Elab.async false
set_option linter.all false
set_option maxRecDepth 100000
set_option maxHeartbeats 2000000
/-! L63g: a small stretch; the plain part of what is right. -/
namespace K63
open PySem PySem.Spec PyProof.Rows L2 LL ST
abbrev s_l_small : Stmt := top 46
abbrev n_l_small : List Str := ["_law_pot_here", "_law_values", "_law_stops"]
theorem sc_l_small : FnScope n_l_small ["_law_pot_here"] (defScope s_l_small) := ⟨rfl, rfl, rfl, by decide +kernel, rfl, by decide +kernel, by decide +kernel⟩
abbrev s_l_right : Stmt := top 47
abbrev n_l_right : List Str := ["_law_rows_here", "_law_out", "_law_book_here", "_law_stretch", "_law_told", "_law_all_keeps", "_law_one", "_law_place", "_law_mine", "_law_kept", "_law_some_here", "_law_other"]
theorem sc_l_right : FnScope n_l_right ["_law_rows_here", "_law_out"] (defScope s_l_right) := ⟨rfl, rfl, rfl, by decide +kernel, rfl, by decide +kernel, by decide +kernel⟩
/-! ### plainly -/
theorem prs_sub {H : Hp} {us vs : List V} {ps : List IP} (h : Prs H us ps) (s : vs.Sublist us) : Prs H vs (vs.map (rdP H)) ∧ (vs.map (rdP H)).Sublist ps := by
  refine ⟨⟨by rw [List.length_map], fun i v p e1 e2 => ?_⟩, by have := s.map (rdP H); rwa [prs_rd h] at this⟩
  rw [List.getElem?_map, e1] at e2
  cases e2
  obtain ⟨j, hj⟩ := List.mem_iff_getElem?.mp (s.subset (List.mem_of_getElem? e1))
  have jl := (List.getElem?_eq_some_iff.mp hj).1
  have h' := h.at_ j v _ hj (List.getElem?_eq_getElem (by rw [← h.len]; exact jl))
  rw [rdP_of h']
  exact h'
theorem gone_key {kvs : List (List Key × V)} {rs : Rs} {out : List Int} {kp : Kps} (g : GoneD kvs (goneP rs out kp (stA rs).length)) {x : List Key} (hx : x ∈ kvs.map (·.1)) : ∃ (n : Int) (j : Nat), x = k2 n j ∧ j < (stA rs).length ∧ n ∈ lostA rs out kp j := by
  obtain ⟨n, k, rfl⟩ := g.ks x hx
  obtain ⟨j, rfl, hj, hl⟩ := (g.iff n k).mp (valT_some.mpr hx)
  exact ⟨n, j, rfl, hj, hl⟩
theorem key_gone {kvs : List (List Key × V)} {rs : Rs} {out : List Int} {kp : Kps} (g : GoneD kvs (goneP rs out kp (stA rs).length)) {n : Int} {j : Nat} (hj : j < (stA rs).length) (hl : n ∈ lostA rs out kp j) : k2 n (j : Int) ∈ kvs.map (·.1) := valT_some.mp ((g.iff n j).mpr ⟨j, rfl, hj, hl⟩)
/-- no other keeps are as good -/
theorem other_worse {rs : Rs} {out : List Int} {kp qs : Kps} {mine other : List (List Key × V)} (isl : IsL rs out kp) (lx : LexP kp) (nd : qs.Nodup) (en : Enough rs out qs) (le : qs.length ≤ kp.length) (ne : ∀ zs : Kps, zs.Perm qs → LexP zs → zs ≠ kp) (gm : GoneD mine (goneP rs out kp (stA rs).length)) (go : GoneD other (goneP rs out qs (stA rs).length)) :
    ¬ qs.length < kp.length ∧ ¬ other.length ≤ mine.length ∧ ∀ x ∈ mine.map (·.1), x ∈ other.map (·.1) := by
  have eq : qs.length = kp.length := Nat.le_antisymm le (isl.le qs en)
  have sub : ∀ x ∈ mine.map (·.1), x ∈ other.map (·.1) := fun x hx => by
    obtain ⟨n, j, rfl, hj, hl⟩ := gone_key gm hx
    exact key_gone go hj (isl.sub qs en eq j hj n hl)
  refine ⟨by omega, fun hle => ?_, sub⟩
  letI : DecidableEq (List Key) := Classical.typeDecidableEq _
  have back := nd_sup gm.nd sub go.nd (by rw [List.length_map, List.length_map]; exact hle)
  have all : ∀ p ∈ kp, p ∈ qs := isl.uq qs en eq fun k hk n hn => by
    obtain ⟨n', j', e, hj', hl'⟩ := gone_key gm (back _ (key_gone go hk hn))
    obtain ⟨rfl, ej⟩ := k2_inj e
    have : k = j' := by omega
    rw [this]
    exact hl'
  have all' := nd_sup isl.nd all nd (by omega)
  exact ne kp ((List.perm_ext_iff_of_nodup isl.nd nd).mpr fun p => ⟨all p, all' p⟩) lx rfl
theorem isl_uniq {rs : Rs} {out : List Int} {a b : Kps} (ha : IsL rs out a) (hb : IsL rs out b) (la : LexP a) (lb : LexP b) : a = b := lex_uniq ((List.perm_ext_iff_of_nodup ha.nd hb.nd).mpr (ha.mem hb)) la lb
section
variable {P : Program} {w : World} {K : PySem.W.Frag} {mg : Str → Option Value} {base : Heap} {C : Addr} {f : Addr} {fd : FuncData}
def spSm : Sp := fun vs H Q _ => ∃ p, vs = [.ref p] ∧ PotAt H p ∧
  ∀ H' t fo lo rs ls (out : List Int), But p H H' → PotAt H' p → H' t = some (.tup [.ref fo, .ref lo]) → H' fo = some (.lst ls) → Rws H' ls rs → RsOk rs → H' lo = some (.lst (out.map V.int)) → (∀ n ∈ out, n ∈ vlA rs) → out.length ≤ 2 → (vlA rs).length * (stA rs).length ≤ 12 → Q (.ref t) H'
theorem ok_l_small (T : Tx K mg C) (G_l_draw : Fnc P w K mg base CX0 1 "_law_draw" [] spTake) (G_l_rows : Fnc P w K mg base CX0 4 "_law_rows" [] spRows) (F : FD K "_law_small" "_law_small" s_l_small [] f fd) : FnG P w K mg base CX0 5 f fd ["_law_pot_here"] spSm := by
  refine ok0 F sc_l_small (fun vs H Q E h => ?_) (fun cdv A outer s H vs Q E hr h => ?_)
  · obtain ⟨p, rfl, _⟩ := h
    rfl
  · obtain ⟨p, rfl, hp, q⟩ := h
    refine ⟨_, (pss_cons (ps_asg (pe_ix ix_list (pe_lst (pa_cons (pe_tup (pa_cons pe_int (pa_cons pe_int pa_nil))) (pa_cons (pe_tup (pa_cons pe_int (pa_cons pe_int pa_nil))) (pa_cons (pe_tup (pa_cons pe_int (pa_cons pe_int pa_nil))) pa_nil)))) (pe_fn G_l_draw (hr.mono (by decide)) pass0 (pa_cons (pv 0) (pa_cons pe_int pa_nil))) (fun _ _ => rfl)) (pg_tup rfl (pgs_cons (pg_name (i := 1) sc_l_small.nd rfl (by first | exact Or.inl rfl | exact Or.inr rfl)) (pgs_cons (pg_name (i := 2) sc_l_small.nd rfl (by first | exact Or.inl rfl | exact Or.inr rfl)) pgs_nil))))
      (pss_one (ps_ret (pe_fn G_l_rows (hr.mono (by decide)) pass0 (pa_cons (pv 0) (pa_cons (pv 1) (pa_cons (pv 2) (pa_cons pe_int pa_nil)))))))), ?_⟩
    refine ⟨(by show 2 ≤ sizeLine; decide), fun t1 n1 => ?_⟩
    obtain ⟨G1, e1, s1, h1⟩ := mkO n1 (.tup [.int 5, .int 2])
    rw [e1]
    refine ⟨(by show 2 ≤ sizeLine; decide), fun t2 n2 => ?_⟩
    obtain ⟨G2, e2, s2, h2⟩ := mkO n2 (.tup [.int 4, .int 3])
    rw [e2]
    refine ⟨(by show 2 ≤ sizeLine; decide), fun t3 n3 => ?_⟩
    obtain ⟨G3, e3, s3, h3⟩ := mkO n3 (.tup [.int 3, .int 4])
    rw [e3]
    refine ⟨(by show 3 ≤ sizeLine; decide), fun l4 n4 => ?_⟩
    obtain ⟨G4, e4, s4, h4⟩ := mkO n4 (.lst [.ref t1, .ref t2, .ref t3])
    rw [e4]
    have s04 := ((s1.trans s2).trans s3).trans s4
    have hp3 := ((hp.same s1).same s2).same s3
    have l4p := hp3.ne n4
    have t1p := hp.ne n1
    have t2p := (hp.same s1).ne n2
    have t3p := ((hp.same s1).same s2).ne n3
    refine ⟨_, rfl, p, 3, rfl, hp.same s04, by decide, by decide, fun H5 d b5 hp5 d0 d1 => ?_⟩
    obtain ⟨k, rfl⟩ := Int.eq_ofNat_of_zero_le d0
    have h45 := b5 _ _ h4 l4p
    obtain ⟨va, sb, tt, et, ht, hva, hva2, hsb, h12⟩ : ∃ (va sb : Nat) (tt : Addr), ([.ref t1, .ref t2, .ref t3] : List V)[k]? = some (.ref tt) ∧ H5 tt = some (.tup [.int (va : Nat), .int (sb : Nat)]) ∧ 1 ≤ va ∧ va ≤ 5 ∧ sb ≤ 4 ∧ va * sb ≤ 12 := by
      match k, d1 with
      | 0, _ => exact ⟨5, 2, t1, rfl, b5 _ _ (s4 _ _ (s3 _ _ (s2 _ _ h1))) t1p, by decide, by decide, by decide, by decide⟩
      | 1, _ => exact ⟨4, 3, t2, rfl, b5 _ _ (s4 _ _ (s3 _ _ h2)) t2p, by decide, by decide, by decide, by decide⟩
      | 2, _ => exact ⟨3, 4, t3, rfl, b5 _ _ (s4 _ _ h3) t3p, by decide, by decide, by decide, by decide⟩
      | k + 3, h => omega
    refine ⟨l4, _, _, _, rfl, rfl, SqL.of h45, atI_nat et, tt, _, rfl, SqT.of ht, rfl, _, _, rfl, _, _, rfl, rfl, ?_⟩
    refine ⟨_, rfl, _, rfl, _, rfl, p, va, sb, 2, rfl, hva, by omega, by omega, by decide, hp5, fun H6 t fo lo rs ls out b6 hp6 ht6 hfo6 rws ok lab lrs nv hlo6 ho lo2 nfo nlo nn np1 np2 lva lsb => ?_⟩
    exact q H6 t fo lo rs ls out ((But.of s04).trans (b5.trans b6)) hp6 ht6 hfo6 rws ok hlo6 ho lo2 (Nat.le_trans (Nat.mul_le_mul lva lsb) h12)
end
end K63

set_option Elab.async false
set_option linter.all false
set_option maxRecDepth 100000
set_option maxHeartbeats 4000000
/-! L63h: what is right. -/
namespace K63
open PySem PySem.Spec PyProof.Rows L2 LL ST
theorem dp_prl {K : PySem.W.Frag} {H : Hp} {a : Addr} {vs : List V} {ps : List IP} (h : H a = some (.lst vs)) (pr : Prs H vs ps) : Dp K H (.ref a) (.list (ps.map ipD)) := .lst (SqL.of h) (dp_ips pr)
theorem ips_inj {ps qs : List IP} (h : PyData.list (ps.map ipD) = .list (qs.map ipD)) : ps = qs := List.map_inj_right (fun x y e => ipD_inj e) |>.mp (PyData.list.inj h)
theorem dp_nil {K : PySem.W.Frag} {H : Hp} {a : Addr} (h : H a = some (.lst [])) : Dp K H (.ref a) (.list []) := .lst (SqL.of h) .nil
theorem prs_take {H : Hp} {vs : List V} {ps : List IP} (h : Prs H vs ps) (i : Nat) : Prs H (vs.take i) (ps.take i) := by
  refine ⟨by rw [List.length_take, List.length_take, h.len], fun j v p e1 e2 => ?_⟩
  have hj := (List.getElem?_eq_some_iff.mp e1).1
  rw [List.length_take] at hj
  rw [List.getElem?_take_of_lt (by omega)] at e1 e2
  exact h.at_ j v p e1 e2
theorem prs_get {H : Hp} {vs : List V} {ps : List IP} (h : Prs H vs ps) {i : Nat} {v : V} (e : vs[i]? = some v) : ∃ p, ps[i]? = some p ∧ PrV H v p := by
  have hi := (List.getElem?_eq_some_iff.mp e).1
  exact ⟨_, List.getElem?_eq_getElem (by rw [← h.len]; exact hi), h.at_ i v _ e (List.getElem?_eq_getElem (by rw [← h.len]; exact hi))⟩
theorem pn_nil : Pn 1 (.list []) := fun d hd => by cases hd
section
variable {P : Program} {w : World} {K : PySem.W.Frag} {mg : Str → Option Value} {base : Heap} {C N : Addr} {f : Addr} {fd : FuncData}
def spRt : Sp := fun vs H Q _ => ∃ (fo lo : Addr) (ls : List V) (rs : Rs) (out : List Int), vs = [.ref fo, .ref lo] ∧ H fo = some (.lst ls) ∧ Rws H ls rs ∧ RsOk rs ∧ H lo = some (.lst (out.map V.int)) ∧ (∀ n ∈ out, n ∈ vlA rs) ∧ out.length ≤ 2 ∧ (vlA rs).length * (stA rs).length ≤ 12 ∧ ∀ H', Same H H' → Q (.bl true) H'
theorem ok_l_right (T : Tn K mg C N) (G_l_book : Fnc P w K mg base CX0 1 "_law_book" [] spBook) (K_Stretch2 : Mkf P w K mg base CX0 5 "Stretch" (spMk K C)) (G_least_keeps : Fnc P w K mg base CX0 7 "least_keeps" [] (spLk C)) (G_l_candidates : Fnc P w K mg base CX0 3 "_law_candidates" [] spCand) (G_l_is_enough : Fnc P w K mg base CX0 4 "_law_is_enough" [] spEn) (G_l_lost : Fnc P w K mg base CX0 3 "_law_lost" [] spLost) (G_l_subsets : Fnc P w K mg base CX0 1 "_law_subsets" [] spSub)
    (F : FD K "_law_right" "_law_right" s_l_right [] f fd) : FnG P w K mg base CX0 8 f fd ["_law_rows_here", "_law_out"] spRt := by
  refine ok0 F sc_l_right (fun vs H Q E h => ?_) (fun cdv A outer s H vs Q E hr h => ?_)
  · obtain ⟨fo, lo, ls, rs, out, rfl, _⟩ := h
    rfl
  · obtain ⟨fo, lo, ls, rs, out, rfl, hfo, rws, ok, hlo, ho, lo2, h12, q⟩ := h
    refine ⟨_, (pss_cons (ps_par (i := 2) (j := 3) rfl sc_l_right.nd rfl rfl (by decide) rfl rfl (pa_cons (pe_fn G_l_book (hr.mono (by decide)) pass0 (pa_cons (pv 0) (pa_cons (pv 1) pa_nil))) (pa_cons (pe_mf K_Stretch2 (hr.mono (by decide)) pass0 (pa_cons (pv 0) (pa_cons (pv 1) pa_nil))) pa_nil)) (by rfl))
      (pss_cons (ps_asg (pe_tup (pa_cons (pe_fn G_least_keeps (hr.mono (by decide)) pass0 (pa_cons (pv 3) pa_nil)) (pa_cons (pe_fn G_l_candidates (hr.mono (by decide)) pass0 (pa_cons (pv 2) pa_nil)) pa_nil))) (pg_tup rfl (pgs_cons (pg_name (i := 4) sc_l_right.nd rfl (by first | exact Or.inl rfl | exact Or.inr rfl)) (pgs_cons (pg_name (i := 5) sc_l_right.nd rfl (by first | exact Or.inl rfl | exact Or.inr rfl)) pgs_nil))))
      (pss_cons (ps_if (PW.pt (pw_or (pt_not (pt_val (pe_callB call_isi (by rfl) T.n_isinstance (by decide +kernel) (pa_cons (pv 4) (pa_cons (pe_bltn (v := .ty "list") (by rfl) T.n_list (by decide +kernel) rfl) pa_nil))))) (pw_or (pt_cmpR (op_neD hr.r.units) (pv 4) (pe_callB cr_sortedPO (by rfl) T.n_sorted (by decide +kernel) (pa_cons (pv 4) pa_nil)) (nomark _)) (pw_or1 (pt_cmpR (op_neD hr.r.units) (pe_lc (own := [("_law_one", 6)]) rfl sc_l_right.nd (pi_list (pv 4)) (blkOk_by (own := [("_law_one", 6)]) (N := n_l_right) (sc := defScope s_l_right) (by decide +kernel)) (fun _ _ _ _ _ => (pg_name (i := 6) sc_l_right.nd rfl (by first | exact Or.inl rfl | exact Or.inr rfl))) (fun _ _ _ _ _ => (pts_one (pt_cmpR (op_notInP (un65 hr)) (pv 6) (pv 5) (by rfl)))) (fun _ _ _ _ _ => (pv 6))) (pe_lst pa_nil) (nomark _)))))) (pss_one (ps_ret pe_bl)) pss_nil)
      (pss_cons (ps_if (PW.pt (pw_or (pt_cmpR (op_neD hr.r.units) (pe_lc (g := (gTup K 2 (gCons (gName 7) (gCons (gName 6) gNil)))) (own := [("_law_place", 7), ("_law_one", 6)]) rfl sc_l_right.nd (pi_enumA (by rfl) T.n_enumerate (pa_cons (pv 4) pa_nil)) (blkOk_by (own := [("_law_place", 7), ("_law_one", 6)]) (N := n_l_right) (sc := defScope s_l_right) (by decide +kernel)) (fun _ _ _ _ _ => (pg_tup rfl (pgs_cons (pg_name (i := 7) sc_l_right.nd rfl (by first | exact Or.inl rfl | exact Or.inr rfl)) (pgs_cons (pg_name (i := 6) sc_l_right.nd rfl (by first | exact Or.inl rfl | exact Or.inr rfl)) pgs_nil)))) (fun _ _ _ _ _ => (pts_one (pt_cmpR (op_inP (un65 hr)) (pv 6) (pe_slice (sl_listK (K := K) (by rfl)) (pv 4) po_none (po_some (pv 7))) (by rfl)))) (fun _ _ _ _ _ => (pv 6))) (pe_lst pa_nil) (nomark _)) (pw_or1 (pt_not (pt_val (pe_fn G_l_is_enough (hr.mono (by decide)) pass0 (pa_cons (pv 2) (pa_cons (pv 4) pa_nil)))))))) (pss_one (ps_ret pe_bl)) pss_nil)
      (pss_cons (ps_par (i := 8) (j := 9) rfl sc_l_right.nd rfl rfl (by decide) rfl rfl (pa_cons (pe_fn G_l_lost (hr.mono (by decide)) pass0 (pa_cons (pv 2) (pa_cons (pv 4) pa_nil))) (pa_cons (pe_callTy call_list_of (by rfl) T.n_list (by decide +kernel) (pa_cons (pv 4) pa_nil)) pa_nil)) (by rfl))
      (pss_cons (ps_for PassesOwn.never rfl (pi_list (pe_fn G_l_subsets (hr.mono (by decide)) pass0 (pa_cons (pv 5) pa_nil))) (pg_name (i := 10) sc_l_right.nd rfl (by first | exact Or.inl rfl | exact Or.inr rfl)) (pss_one (ps_if (PW.pt (pw_and (pt_cmpR op_le (pe_callB call_len_seq (by rfl) T.n_len (by decide +kernel) (pa_cons (pv 10) pa_nil)) (pe_callB call_len_seq (by rfl) T.n_len (by decide +kernel) (pa_cons (pv 9) pa_nil)) (nomark _)) (pw_and (pt_cmpR (op_neD hr.r.units) (pe_callB cr_sortedPO (by rfl) T.n_sorted (by decide +kernel) (pa_cons (pv 10) pa_nil)) (pv 9) (nomark _)) (pw_and1 (pt_val (pe_fn G_l_is_enough (hr.mono (by decide)) pass0 (pa_cons (pv 2) (pa_cons (pv 10) pa_nil)))))))) (pss_cons (ps_set (i := 11) sc_l_right.nd rfl (by first | exact Or.inl rfl | exact Or.inr rfl) (pe_fn G_l_lost (hr.mono (by decide)) pass0 (pa_cons (pv 2) (pa_cons (pv 10) pa_nil))))
      (pss_one (ps_if (PW.pt (pw_or (pt_cmpR op_lt (pe_callB call_len_seq (by rfl) T.n_len (by decide +kernel) (pa_cons (pv 10) pa_nil)) (pe_callB call_len_seq (by rfl) T.n_len (by decide +kernel) (pa_cons (pv 9) pa_nil)) (nomark _)) (pw_or (pt_cmpR op_le (pe_callB call_len_dT (by rfl) T.n_len (by decide +kernel) (pa_cons (pv 11) pa_nil)) (pe_callB call_len_dT (by rfl) T.n_len (by decide +kernel) (pa_cons (pv 8) pa_nil)) (nomark _)) (pw_or1 (pt_cmpR (op_neD hr.r.units) (pe_lock (pe_lc (own := [("_law_one", 6)]) rfl sc_l_right.nd (pi_keys (pv 8)) (blkOk_by (own := [("_law_one", 6)]) (N := n_l_right) (sc := defScope s_l_right) (by decide +kernel)) (fun _ _ _ _ _ => (pg_name (i := 6) sc_l_right.nd rfl (by first | exact Or.inl rfl | exact Or.inr rfl))) (fun _ _ _ _ _ => (pts_one (pt_cmp (pc_dnotin (un1 hr.r.units) (pv 6) (pv 11)) rfl))) (fun _ _ _ _ _ => (pv 6)))) (pe_lst pa_nil) (nomark _)))))) (pss_one (ps_ret pe_bl)) pss_nil))) pss_nil)))
      (pss_cons (ps_expr (pe_bm PySem.F.plainAttrs_list PySem.F.slot_list_append PySem.F.type_list_append mt_append (pv 4) (pa_cons pe_non pa_nil)))
      (pss_one (ps_ret (pe_cmpR (op_eqD hr.r.units) (pe_fn G_least_keeps (hr.mono (by decide)) pass0 (pa_cons (pv 3) pa_nil)) (pv 9) (nomark _))))))))))), ?_⟩
    -- the book, the stretch
    refine ⟨_, rfl, _, rfl, fo, lo, ls, rs, out, rfl, hfo, rws, ok, hlo, by omega, fun H1 bk s1 nbk hbk1 => ?_⟩
    have hbk := hbk1.at
    refine ⟨_, rfl, _, rfl, fo, lo, rs, out, rfl, ⟨ls, .inl (s1 _ _ hfo), rws.same s1⟩, ok, .inl (.inl (s1 _ _ hlo)), ho, by omega, fun H2 st s2 nst hst2 => ?_⟩
    have hst := hst2.at
    have hbk2 := hbk.same s2
    have s02 := s1.trans s2
    refine ⟨_, _, rfl, ?_⟩
    dsimp only
    -- what is told, what may be kept
    refine ⟨_, rfl, st, rs, out, rfl, hst, ok, fun H3 to us ps s3 nto hto pr isl lx lp => ?_⟩
    refine ⟨_, rfl, bk, rs, out, rfl, hbk2.same s3, ok, fun H4 al cs qs s4 nal hal prc cand lc => ?_⟩
    refine ⟨(by show 2 ≤ sizeLine; decide), fun t5 nt5 => ?_⟩
    obtain ⟨H5, e5, s5, ht5⟩ := mkO nt5 (.tup [.ref to, .ref al])
    rw [e5]
    clear e5
    refine ⟨t5, _, rfl, SqT.of ht5, rfl, _, _, rfl, _, _, rfl, rfl, ?_⟩
    have s24 := s3.trans s4
    have s25 := s24.trans s5
    have hto5 := s5 _ _ (s4 _ _ hto)
    have pr5 := (pr.same s4).same s5
    have hal5 := s5 _ _ hal
    have prc5 := prc.same s5
    have lq : qs.length ≤ 12 := Nat.le_trans lc h12
    have sub : ∀ p ∈ ps, p ∈ qs := fun p hp => by
      obtain ⟨k, e, hm, hl⟩ := isl.cand p hp
      obtain ⟨hk, hn⟩ := mem_pts.mp hm
      exact (cand.iff p).mpr ⟨k, e, hk, hn, hl⟩
    have lps : ps.length ≤ 12 := Nat.le_trans (nd_len isl.nd sub) lq
    have uls : us.length = ps.length := pr.len
    have hbk5 := hbk2.same s25
    -- it is a list, sorted, of such tuples
    refine ⟨_, rfl, _, _, .type "list", _, _, rfl, .ty "list", .base (.lst hto5), kLL, _, rfl, iteN rfl ?_⟩
    refine ⟨_, rfl, _, rfl, ?_⟩
    unfold tNil
    refine sort_prs (SqL.of hto5) pr5 fun ys zs r pm lz prz nr => ?_
    obtain ⟨H6, e6, s6, hr6⟩ := mkO nr (.lst ys)
    rw [e6]
    clear e6
    have ez : zs = ps := lex_uniq pm lz lx
    refine ne_pd (dp_prl (s6 _ _ hto5) (pr5.same s6)) (dp_prl hr6 (prz.same s6)) (pn_ips _) (pn_ips _) fun b1 hb1 => ⟨_, rfl, iteN (by rw [hb1.mpr (by rw [ez])]; rfl) ?_⟩
    have hto6 := s6 _ _ hto5
    refine ⟨_, rfl, to, rfl, ⟨_, SqL.of hto6⟩, fun D7 nD7 => ?_⟩
    refine lc_acc (walk_list (K := K) (a := to) (xs := us)) nD7 (fun _ => []) rfl (fun _ _ => Nat.zero_le _) (fun H' s' => SqL.of (s' _ _ hto6)) ?_ ?_
    · rintro j x H9 H8 hj s8 ⟨rfl, hx⟩ Nn S hN hS
      obtain ⟨pp, epp, hpp⟩ := prs_get ((pr5.same s6).same s8) hx
      refine ⟨rfl, _, rfl, _, rfl, pp, al, qs, hpp, rfl, ⟨cs, .inl (s8 _ _ (s6 _ _ hal5)), (prc5.same s6).same s8⟩, _, rfl, iteN ?_ (hS _ Same.rfl' rfl)⟩
      show (!decide (pp ∈ qs)) = false
      rw [decide_eq_true (sub pp (List.mem_of_getElem? epp))]
      rfl
    intro H7 s7 hD7
    refine ⟨(by show 0 ≤ sizeLine; decide), fun l8 nl8 => ?_⟩
    obtain ⟨H8, e8, s8, hl8⟩ := mkO nl8 (.lst [])
    rw [e8]
    clear e8
    refine ne_pd (dp_nil (s8 _ _ hD7)) (dp_nil hl8) pn_nil pn_nil fun b2 hb2 => ⟨_, rfl, iteN (by rw [hb2.mpr rfl]; rfl) ?_⟩
    -- each once
    have s58 := (s6.trans s7).trans s8
    have hto8 := s58 _ _ hto5
    refine ⟨_, rfl, true, to, us, rfl, SqL.of hto8, fun D9 nD9 => ?_⟩
    refine lc_acc (walk_enumK (K := K) (k := true) (a := to) (xs := us)) nD9 (fun _ => []) rfl (fun _ _ => Nat.zero_le _) (fun H' s' => SqL.of (s' _ _ hto8)) ?_ ?_
    · rintro j x H10 H9 hj s9 ⟨t, y, zz, rfl, nt, rfl, hy, hz⟩ Nn S hN hS
      cases hy
      obtain ⟨G9, e9, s9', ht9⟩ := mkO nt (.tup [.int (j : Nat), zz])
      rw [e9]
      clear e9
      have s59 := s9.trans s9'
      obtain ⟨pp, epp, hpp⟩ := prs_get ((pr5.same s58).same s59) hz
      refine ⟨t, _, rfl, SqT.of ht9, rfl, _, _, rfl, _, _, rfl, rfl, rfl, ?_⟩
      refine ⟨_, rfl, _, rfl, _, rfl, _, rfl, to, us, rfl, SqL.of (s59 _ _ hto8), fun b nb => ?_⟩
      obtain ⟨G10, e10, s10, hb10⟩ := mkO nb (.lst (cutV us none (some (j : Int))))
      rw [e10]
      rw [cutV_to] at hb10
      refine ⟨pp, b, ps.take j, hpp.same s10, rfl, ⟨_, .inl hb10, prs_take (((pr5.same s58).same s59).same s10) j⟩, _, rfl, iteN ?_ (hS _ (s9'.trans s10) rfl)⟩
      show decide (pp ∈ ps.take j) = false
      refine decide_eq_false fun c => ?_
      obtain ⟨i, hi, e⟩ := List.getElem_of_mem c
      rw [List.length_take] at hi
      rw [List.getElem_take] at e
      obtain ⟨jl, e'⟩ := List.getElem?_eq_some_iff.mp epp
      exact List.pairwise_iff_getElem.mp isl.nd i j (by omega) jl (by omega) (e.trans e'.symm)
    intro H9 s9 hD9
    refine ⟨(by show 0 ≤ sizeLine; decide), fun l10 nl10 => ?_⟩
    obtain ⟨H10, e10, s10, hl10⟩ := mkO nl10 (.lst [])
    rw [e10]
    clear e10
    refine ne_pd (dp_nil (s10 _ _ hD9)) (dp_nil hl10) pn_nil pn_nil fun b3 hb3 => ⟨_, rfl, iteN (by rw [hb3.mpr rfl]; rfl) ?_⟩
    have s510 := (s58.trans s9).trans s10
    refine ⟨_, rfl, _, rfl, bk, to, rs, out, ps, rfl, hbk5.same s510, ok, ⟨us, .inl (s510 _ _ hto5), pr5.same s510⟩, fun H11 c s11 hc => ⟨_, rfl, iteN (by rw [hc.mpr isl.en]; rfl) ?_⟩⟩
    -- what is lost, a copy
    have s511 := s510.trans s11
    refine ⟨_, rfl, _, rfl, bk, to, rs, out, ps, rfl, hbk5.same s511, ok, ⟨us, .inl (s511 _ _ hto5), pr5.same s511⟩, fun H12 mi s12 nmi ⟨mkv, hmi, gm⟩ => ?_⟩
    have s512 := s511.trans s12
    refine ⟨_, rfl, to, us, rfl, .inl (SqL.of (s512 _ _ hto5)), fun ke nke => ?_⟩
    obtain ⟨H13, e13, s13, hke⟩ := mkO nke (.lst us)
    rw [e13]
    clear e13
    refine ⟨_, _, rfl, ?_⟩
    dsimp only
    have s513 := s512.trans s13
    have hmi13 := s13 _ _ hmi
    refine ⟨_, rfl, al, cs, rfl, s513 _ _ hal5, by rw [prc.len]; exact lq, fun H14 r14 fs s14 nr14 hfs hsub lfs => ?_⟩
    refine ⟨r14, rfl, ⟨_, SqL.of hfs⟩, ?_⟩
    refine for_it (walk_list (K := K) (a := r14) (xs := fs)) (fun i σ H' => Same H14 H' ∧ ∃ u6 u7 u10 u11, σ = [some (.ref fo), some (.ref lo), some (.ref bk), some (.ref st), some (.ref to), some (.ref al), u6, u7, some (.ref mi), some (.ref ke), u10, u11])
      ⟨Same.rfl', _, _, _, _, rfl⟩ (fun i σ H' _ h => SqL.of (h.1 _ _ hfs)) ?_ ?_
    · rintro i x σ H16 H15 hi ⟨s15, u6, u7, u10, u11, rfl⟩ ⟨rfl, hx⟩
      obtain ⟨tt, vs, rfl, htt, hsb⟩ := (hsub _ (List.mem_of_getElem? hx)).same s15
      have s515 := (s513.trans s14).trans s15
      obtain ⟨prv, sbv⟩ := prs_sub (prc5.same s515) hsb
      obtain ⟨kq, ekq⟩ : ∃ kq, kq = vs.map (rdP H15) := ⟨_, rfl⟩
      rw [← ekq] at prv sbv
      have hke15 := s15 _ _ (s14 _ _ hke)
      have prk := pr5.same s515
      have stay : ∀ (H' : Hp) (o : Option V), Same H15 H' → Same H14 H' ∧ ∃ u6' u7' u10' u11', ([some (.ref fo), some (.ref lo), some (.ref bk), some (.ref st), some (.ref to), some (.ref al), u6, u7, some (.ref mi), some (.ref ke), some (.ref tt), o] : L2.St) = [some (.ref fo), some (.ref lo), some (.ref bk), some (.ref st), some (.ref to), some (.ref al), u6', u7', some (.ref mi), some (.ref ke), u10', u11'] := fun H' o s' => ⟨s15.trans s', _, _, _, _, rfl⟩
      refine nm_of ?_
      dsimp only
      refine ⟨_, rfl, tt, _, rfl, .inl (SqL.of htt), _, rfl, ke, _, rfl, .inl (SqL.of hke15), _, _, rfl, rfl, _, rfl, iteB (fun c1 => ?_) (fun _ => stay _ _ Same.rfl')⟩
      have le1 : kq.length ≤ ps.length := by
        have := of_decide_eq_true c1
        rw [← prv.len, ← prk.len]
        omega
      refine ⟨_, rfl, ?_⟩
      dsimp only
      refine sort_prs (SqL.of htt) prv fun ys zs r pm lz prz nr => ?_
      obtain ⟨H17, e17, s17, hr17⟩ := mkO nr (.lst ys)
      rw [e17]
      clear e17
      refine ⟨_, rfl, ne_pd (dp_prl hr17 (prz.same s17)) (dp_prl (s17 _ _ hke15) (prk.same s17)) (pn_ips _) (pn_ips _) fun b4 hb4 => ⟨_, rfl, iteB (fun c2 => ?_) (fun _ => stay _ _ s17)⟩⟩
      have nez : zs ≠ ps := fun e => by
        rw [hb4.mpr (by rw [e])] at c2
        cases c2
      refine ⟨_, rfl, _, rfl, bk, tt, rs, out, kq, rfl, hbk5.same (s515.trans s17), ok, ⟨vs, .inl (s17 _ _ htt), prv.same s17⟩, fun H18 c s18 hc => ⟨_, rfl, iteB (fun c3 => ?_) (fun _ => stay _ _ (s17.trans s18))⟩⟩
      have en := hc.mp c3
      have s1518 := s17.trans s18
      refine ⟨_, rfl, _, rfl, bk, tt, rs, out, kq, rfl, hbk5.same (s515.trans s1518), ok, ⟨vs, .inl (s1518 _ _ htt), prv.same s1518⟩, fun H19 ot s19 not_ ⟨okv, hot, go⟩ => ?_⟩
      refine nm_of ?_
      dsimp only
      have s1519 := s1518.trans s19
      obtain ⟨w1, w2, w3⟩ := other_worse isl lx (sbv.nodup cand.nd) en le1 (fun ws pw lw e => nez ((lex_uniq (pm.trans pw.symm) lz lw).trans e)) gm go
      have hmi19 := s1519 _ _ (s15 _ _ (s14 _ _ hmi13))
      refine ⟨_, rfl, tt, _, rfl, .inl (SqL.of (s1519 _ _ htt)), _, rfl, ke, _, rfl, .inl (SqL.of (s1519 _ _ hke15)), _, _, rfl, rfl, _, rfl, iteN (decide_eq_false fun z => w1 ?_) ?_⟩
      · rw [← prv.len, ← prk.len]
        omega
      refine ⟨_, rfl, ot, okv, rfl, hot, _, rfl, mi, mkv, rfl, hmi19, _, _, rfl, rfl, _, rfl, iteN (decide_eq_false fun z => w2 (by omega)) ?_⟩
      refine ⟨mi, _, hmi19, trivial, fun od => ?_⟩
      have nom : ot ≠ mi := fun c => by rw [c] at not_; rw [s1518 _ _ (s15 _ _ (s14 _ _ hmi13))] at not_; cases not_
      refine ⟨_, rfl, mi, od, rfl, .inr ⟨_, upd_same, fun D nD => ?_⟩⟩
      refine lc_acc (walk_keysT (d := mi) (o := od) (kvs := mkv)) nD (fun _ => []) rfl (fun _ _ => Nat.zero_le _) (fun H' s' => s' _ _ upd_same) ?_ ?_
      · rintro j x H21 H20 hj s20 ⟨rfl, key, v, qa, hkv, rfl, hqa⟩ Nn S hN hS
        have hot20 := s20 _ _ (show (upd H19 mi (.frz od (.dT mkv))) ot = some (.dT okv) by rw [upd_ne nom]; exact hot)
        refine ⟨rfl, _, rfl, _, rfl, ot, _, rfl, DGet.t (k := key) hot20 hqa, _, rfl, iteN ?_ (hS _ Same.rfl' rfl)⟩
        rw [valT_some.mpr (w3 key (List.mem_map.mpr ⟨(key, v), List.mem_of_getElem? hkv, rfl⟩))]
        rfl
      intro H20 s20 hD20
      refine ⟨s20 _ _ upd_same, ?_⟩
      have sl := same_lock hmi19 s20
      have nDm : D ≠ mi := fun c => by rw [c, s20 _ _ upd_same] at hD20; cases hD20
      refine ⟨(by show 0 ≤ sizeLine; decide), fun l21 nl21 => ?_⟩
      obtain ⟨H21, e21, s21, hl21⟩ := mkO nl21 (.lst [])
      rw [e21]
      clear e21
      have hD21 := s21 _ _ (show (upd H20 mi (.dT mkv)) D = some (.lst []) by rw [upd_ne nDm]; exact hD20)
      refine ne_pd (dp_nil hD21) (dp_nil hl21) pn_nil pn_nil fun b5 hb5 => ⟨_, rfl, iteN (by rw [hb5.mpr rfl]; rfl) ?_⟩
      exact stay _ _ ((s1519.trans sl).trans s21)
    · rintro σ H15 ⟨s15, u6, u7, u10, u11, rfl⟩
      have s515 := (s513.trans s14).trans s15
      have hto15 := s515 _ _ hto5
      have hke15 := s15 _ _ (s14 _ _ hke)
      have prk := pr5.same s515
      refine ⟨_, rfl, .inl ⟨rfl, _, SqL.of hto15⟩, to, _, _, rfl, rfl, hto15, lt5 (by omega), ?_⟩
      have kto : ke ≠ to := fun c => by rw [c, s512 _ _ hto5] at nke; cases nke
      have s2F : Same H2 (upd H15 to (.lst (us ++ [.non]))) := own_same (s25.trans s515) nto
      have hke16 : (upd H15 to (.lst (us ++ [.non]))) ke = some (.lst us) := by rw [upd_ne kto]; exact hke15
      have prk16 : Prs (upd H15 to (.lst (us ++ [.non]))) us ps := ⟨prk.len, fun i v p e1 e2 => let ⟨t, a, b⟩ := prk.at_ i v p e1 e2; ⟨t, a, tk_upd hto15 _ _ b⟩⟩
      refine ⟨_, rfl, st, rs, out, rfl, hst.same s2F, ok, fun H17 r us' ps' s17 nr hr pr' isl' lx' _ => ?_⟩
      refine ⟨_, rfl, eq_pd (dp_prl hr pr') (dp_prl (s17 _ _ hke16) (prk16.same s17)) (pn_ips _) (pn_ips _) fun b6 hb6 => ?_⟩
      rw [hb6.mpr (by rw [isl_uniq isl' isl lx' lx])]
      exact q _ ((s02.trans s2F).trans s17)
end
end K63

set_option Elab.async false
set_option linter.all false
set_option maxRecDepth 100000
set_option maxHeartbeats 2000000
/-! L63i: the law. -/
namespace K63
open PySem PySem.Spec PyProof.Rows L2 LL ST
abbrev s_law : Stmt := top 48
abbrev n_law : List Str := ["_law_script", "_law_k", "_law_rows_here", "_law_out"]
theorem sc_law : FnScope n_law ["_law_script"] (defScope s_law) := ⟨rfl, rfl, rfl, by decide +kernel, rfl, by decide +kernel, by decide +kernel⟩
section
variable {P : Program} {w : World} {K : PySem.W.Frag} {mg : Str → Option Value} {base : Heap} {C : Addr} {f : Addr} {fd : FuncData}
def spLaw (K : PySem.W.Frag) : Sp := fun vs H Q _ => ∃ (a : Addr) (ns : List Int), vs = [.ref a] ∧ SqL K H a (ns.map V.int) ∧ ns.length ≤ 63 ∧ ∀ H', Q (.bl true) H'
theorem ok_law (T : Tx K mg C) (G_l_pot : Fnc P w K mg base CX0 1 "_law_pot" [] (spPot K)) (G_l_small : Fnc P w K mg base CX0 5 "_law_small" [] spSm) (G_l_right : Fnc P w K mg base CX0 8 "_law_right" [] spRt)
    (F : FD K "law" "law" s_law [] f fd) : FnG P w K mg base CX0 9 f fd ["_law_script"] (spLaw K) := by
  refine ok0 F sc_law (fun vs H Q E h => ?_) (fun cdv A outer s H vs Q E hr h => ?_)
  · obtain ⟨a, ns, rfl, _⟩ := h
    rfl
  · obtain ⟨a, ns, rfl, hS, hl, q⟩ := h
    refine ⟨_, (pss_cons (ps_for PassesOwn.never rfl (pi_range1 (by rfl) T.n_range (pa_cons (pe_callB (call_max2 rfl) (by rfl) T.n_max (by decide +kernel) (pa_cons pe_int (pa_cons (pe_callB (call_min2 rfl) (by rfl) T.n_min (by decide +kernel) (pa_cons pe_int (pa_cons (pe_callB call_len_seq (by rfl) T.n_len (by decide +kernel) (pa_cons (pv 0) pa_nil)) pa_nil))) pa_nil))) pa_nil)) (pg_name (i := 1) sc_law.nd rfl (by first | exact Or.inl rfl | exact Or.inr rfl)) (pss_cons (ps_asg (pe_fn G_l_small (hr.mono (by decide)) pass0 (pa_cons (pe_fn G_l_pot (hr.mono (by decide)) pass0 (pa_cons (pv 0) (pa_cons (pv 1) pa_nil))) pa_nil)) (pg_tup rfl (pgs_cons (pg_name (i := 2) sc_law.nd rfl (by first | exact Or.inl rfl | exact Or.inr rfl)) (pgs_cons (pg_name (i := 3) sc_law.nd rfl (by first | exact Or.inl rfl | exact Or.inr rfl)) pgs_nil))))
      (pss_one (ps_if (pt_not (pt_val (pe_fn G_l_right (hr.mono (by decide)) pass0 (pa_cons (pv 2) (pa_cons (pv 3) pa_nil))))) (pss_one (ps_ret pe_bl)) pss_nil))))
      (pss_one (ps_ret pe_bl))), ?_⟩
    refine ⟨_, rfl, a, _, rfl, .inl hS, _, _, rfl, _, _, rfl, ?_⟩
    obtain ⟨m, em, lm⟩ : ∃ m : Nat, (if (if (((ns.map V.int).length : Nat) : Int) < 3 then (((ns.map V.int).length : Nat) : Int) else 3) > 1 then (if (((ns.map V.int).length : Nat) : Int) < 3 then (((ns.map V.int).length : Nat) : Int) else 3) else 1) = (m : Nat) ∧ m ≤ 3 := by
      by_cases c : (((ns.map V.int).length : Nat) : Int) < 3
      · rw [if_pos c]
        by_cases c1 : (((ns.map V.int).length : Nat) : Int) > 1
        · exact ⟨(ns.map V.int).length, by rw [if_pos c1], by omega⟩
        · exact ⟨1, by rw [if_neg c1]; rfl, by decide⟩
      · rw [if_neg c]
        exact ⟨3, by decide, by decide⟩
    refine ⟨((m : Nat) : Int), congrArg (fun z => [V.int z]) em, by omega, by omega, ?_⟩
    rw [Int.toNat_natCast]
    refine for_it (walk_range (lo := 0) (n := m)) (fun i σ H' => Same H H' ∧ ∃ u1 u2 u3, σ = [some (.ref a), u1, u2, u3]) ⟨Same.rfl', _, _, _, rfl⟩ (fun _ _ _ _ _ => trivial) ?_ ?_
    · rintro j x σ H2 H1 hj ⟨s1, u1, u2, u3, rfl⟩ ⟨rfl, rfl⟩
      refine nm_of ?_
      dsimp only
      rw [Int.zero_add]
      refine ⟨_, rfl, _, rfl, a, ns, j, rfl, sqL_same hS s1, hl, by omega, fun H3 p s3 np hp3 => ?_⟩
      refine ⟨p, rfl, hp3, fun H4 t fo lo rs ls out b4 hp4 ht hfo rws ok hlo ho lo2 h12 => ?_⟩
      have s34 : Same H1 H4 := fun b o e => b4 _ _ (s3 _ _ e) (ne_of_none e np)
      refine ⟨t, _, rfl, SqT.of ht, rfl, _, _, rfl, _, _, rfl, rfl, ?_⟩
      refine ⟨_, rfl, _, rfl, fo, lo, ls, rs, out, rfl, hfo, rws, ok, hlo, ho, lo2, h12, fun H5 s5 => ⟨_, rfl, iteN rfl ⟨(s1.trans s34).trans s5, _, _, _, rfl⟩⟩⟩
    · rintro σ H1 ⟨s1, u1, u2, u3, rfl⟩
      exact q _
/-! ### the maker -/
theorem mkf2 (K2 : Mkr P w K mg base CX0 5 "Stretch" C [] (spSI K C)) : Mkf P w K mg base CX0 5 "Stretch" (spMk K C) := ⟨C, [], _, K2, fun vs H Q E h a dx n1 n2 ne => by rw [List.append_nil]; exact mk_of h a dx n1 n2 ne⟩
end
end K63

set_option Elab.async false
set_option linter.all false
set_option maxRecDepth 100000
set_option maxHeartbeats 0
/-! the head, the end. -/
namespace K63
open PySem PySem.Spec PyProof.Rows L2 LL
def d_points_of : DefX := dX (gA "points_of") "points_of" "points_of" s_points_of
def d_spread_node : DefX := dX (gA "spread_node") "spread_node" "spread_node" s_spread_node
def d_lost_node : DefX := dX (gA "lost_node") "lost_node" "lost_node" s_lost_node
def d_connect_point : DefX := dX (gA "connect_point") "connect_point" "connect_point" s_connect_point
def d_network_of : DefX := dX (gA "network_of") "network_of" "network_of" s_network_of
def d_least_keeps : DefX := dX (gA "least_keeps") "least_keeps" "least_keeps" s_least_keeps
def d_is_integer : DefX := dX (gA "is_integer") "is_integer" "is_integer" s_is_integer
def d_is_new : DefX := dX (gA "is_new") "is_new" "is_new" s_is_new
def d_are_set : DefX := dX (gA "are_set") "are_set" "are_set" s_are_set
def d_is_row : DefX := dX (gA "is_row") "is_row" "is_row" s_is_row
def d_places_in : DefX := dX (gA "places_in") "places_in" "places_in" s_places_in
def d_check_out : DefX := dX (gA "check_out") "check_out" "check_out" s_check_out
def d_needed_by : DefX := dX (gA "needed_by") "needed_by" "needed_by" s_needed_by
def d_last_needs : DefX := dX (gA "last_needs") "last_needs" "last_needs" s_last_needs
def d_l_pot : DefX := dX (gA "_law_pot") "_law_pot" "_law_pot" s_l_pot
def d_l_draw : DefX := dX (gA "_law_draw") "_law_draw" "_law_draw" s_l_draw
def d_l_shuffled : DefX := dX (gA "_law_shuffled") "_law_shuffled" "_law_shuffled" s_l_shuffled
def d_l_names : DefX := dX (gA "_law_names") "_law_names" "_law_names" s_l_names
def d_l_some : DefX := dX (gA "_law_some") "_law_some" "_law_some" s_l_some
def d_l_rows : DefX := dX (gA "_law_rows") "_law_rows" "_law_rows" s_l_rows
def d_l_book : DefX := dX (gA "_law_book") "_law_book" "_law_book" s_l_book
def d_l_is_there : DefX := dX (gA "_law_is_there") "_law_is_there" "_law_is_there" s_l_is_there
def d_l_is_live : DefX := dX (gA "_law_is_live") "_law_is_live" "_law_is_live" s_l_is_live
def d_l_lost : DefX := dX (gA "_law_lost") "_law_lost" "_law_lost" s_l_lost
def d_l_is_enough : DefX := dX (gA "_law_is_enough") "_law_is_enough" "_law_is_enough" s_l_is_enough
def d_l_candidates : DefX := dX (gA "_law_candidates") "_law_candidates" "_law_candidates" s_l_candidates
def d_l_subsets : DefX := dX (gA "_law_subsets") "_law_subsets" "_law_subsets" s_l_subsets
def d_l_small : DefX := dX (gA "_law_small") "_law_small" "_law_small" s_l_small
def d_l_right : DefX := dX (gA "_law_right") "_law_right" "_law_right" s_l_right
def d_law : DefX := dX (gA "law") "law" "law" s_law
def d_Stretch_stops : DefX := dX (mA "Stretch" "stops") "stops" "Stretch.stops" s_Stretch_stops
def d_Stretch_is_value : DefX := dX (mA "Stretch" "is_value") "is_value" "Stretch.is_value" s_Stretch_is_value
def d_Stretch_is_stop : DefX := dX (mA "Stretch" "is_stop") "is_stop" "Stretch.is_stop" s_Stretch_is_stop
def d_Stretch_check_value : DefX := dX (mA "Stretch" "check_value") "check_value" "Stretch.check_value" s_Stretch_check_value
def d_Stretch_check_stop : DefX := dX (mA "Stretch" "check_stop") "check_stop" "Stretch.check_stop" s_Stretch_check_stop
def d_Stretch_operands : DefX := dX (mA "Stretch" "operands") "operands" "Stretch.operands" s_Stretch_operands
def d_Stretch_asked : DefX := dX (mA "Stretch" "asked") "asked" "Stretch.asked" s_Stretch_asked
def d_Stretch_is_present : DefX := dX (mA "Stretch" "is_present") "is_present" "Stretch.is_present" s_Stretch_is_present
def d_Stretch_is_live : DefX := dX (mA "Stretch" "is_live") "is_live" "Stretch.is_live" s_Stretch_is_live
def d_Stretch_present : DefX := dX (mA "Stretch" "present") "present" "Stretch.present" s_Stretch_present
def d_Network_connect : DefX := dX (mA "Network" "connect") "connect" "Network.connect" s_Network_connect
def d_Network_next_node : DefX := dX (mA "Network" "next_node") "next_node" "Network.next_node" s_Network_next_node
def d_Network_reached : DefX := dX (mA "Network" "reached") "reached" "Network.reached" s_Network_reached
def d_Network_push : DefX := dX (mA "Network" "push") "push" "Network.push" s_Network_push
def d_Network_fill : DefX := dX (mA "Network" "fill") "fill" "Network.fill" s_Network_fill
def d_Networkinit : DefX := dX (mA "Network" "__init__") "__init__" "Network.__init__" s_Networkinit
def d_Stretchinit : DefX := dXK (mA "Stretch" "__init__") "__init__" "Stretch.__init__" s_Stretchinit (fun K => [.ref (d1A (mA "Stretch" "__init__") K)])
def fn : List DefX := [d_points_of, d_spread_node, d_lost_node, d_connect_point, d_network_of, d_least_keeps, d_is_integer, d_is_new, d_are_set, d_is_row, d_places_in, d_check_out, d_needed_by, d_last_needs, d_l_pot, d_l_draw, d_l_shuffled, d_l_names, d_l_some, d_l_rows, d_l_book, d_l_is_there, d_l_is_live, d_l_lost, d_l_is_enough, d_l_candidates, d_l_subsets, d_l_small, d_l_right, d_law, d_Stretch_stops, d_Stretch_is_value, d_Stretch_is_stop, d_Stretch_check_value, d_Stretch_check_stop, d_Stretch_operands, d_Stretch_asked, d_Stretch_is_present, d_Stretch_is_live, d_Stretch_present, d_Network_connect, d_Network_next_node, d_Network_reached, d_Network_push, d_Network_fill, d_Networkinit, d_Stretchinit]
def t0 : Ft := fGlo "points_of"
def t1 : Ft := fGlo "spread_node"
def t2 : Ft := fGlo "lost_node"
def t3 : Ft := fGlo "connect_point"
def t4 : Ft := fGlo "network_of"
def t5 : Ft := fGlo "least_keeps"
def t6 : Ft := fGlo "is_integer"
def t7 : Ft := fGlo "is_new"
def t8 : Ft := fGlo "are_set"
def t9 : Ft := fGlo "is_row"
def t10 : Ft := fGlo "places_in"
def t11 : Ft := fGlo "check_out"
def t12 : Ft := fGlo "needed_by"
def t13 : Ft := fGlo "last_needs"
def t14 : Ft := fGlo "_law_pot"
def t15 : Ft := fGlo "_law_draw"
def t16 : Ft := fGlo "_law_shuffled"
def t17 : Ft := fGlo "_law_names"
def t18 : Ft := fGlo "_law_some"
def t19 : Ft := fGlo "_law_rows"
def t20 : Ft := fGlo "_law_book"
def t21 : Ft := fGlo "_law_is_there"
def t22 : Ft := fGlo "_law_is_live"
def t23 : Ft := fGlo "_law_lost"
def t24 : Ft := fGlo "_law_is_enough"
def t25 : Ft := fGlo "_law_candidates"
def t26 : Ft := fGlo "_law_subsets"
def t27 : Ft := fGlo "_law_small"
def t28 : Ft := fGlo "_law_right"
def t29 : Ft := fGlo "law"
def t30 : Ft := fMeth "Stretch" "stops"
def t31 : Ft := fMeth "Stretch" "is_value"
def t32 : Ft := fMeth "Stretch" "is_stop"
def t33 : Ft := fMeth "Stretch" "check_value"
def t34 : Ft := fMeth "Stretch" "check_stop"
def t35 : Ft := fMeth "Stretch" "operands"
def t36 : Ft := fMeth "Stretch" "asked"
def t37 : Ft := fMeth "Stretch" "is_present"
def t38 : Ft := fMeth "Stretch" "is_live"
def t39 : Ft := fMeth "Stretch" "present"
def t40 : Ft := fMeth "Network" "connect"
def t41 : Ft := fMeth "Network" "next_node"
def t42 : Ft := fMeth "Network" "reached"
def t43 : Ft := fMeth "Network" "push"
def t44 : Ft := fMeth "Network" "fill"
def t45 : Ft := fGlo "Stretch"
def t46 : Ft := fMkr "Stretch"
def t47 : Ft := fCls "Stretch"
def t48 : Ft := fGlo "Network"
def t49 : Ft := fMkr "Network"
def t50 : Ft := fCls "Network"
def t51 : Ft := fNo "Stretch" "value_places"
def t52 : Ft := fNo "Stretch" "own_rows"
def t53 : Ft := fNo "Stretch" "own_out"
def t54 : Ft := fNo "Stretch" "stop_places"
def t55 : Ft := fNo "Stretch" "need_places"
def t56 : Ft := fNo "Network" "edges"
def t57 : Ft := fNo "Network" "flows"
def t58 : Ft := fNo "Network" "edges_at"
def t59 : Ft := fSame (fun K => PySem.W.findIn K (.ref (He.ga K "Stretch")) "__class__") (fun _ => some (some (.builtin "object.__class__")))
def t60 : Ft := fSame (fun K => PySem.W.specialIn K (.builtin "object.__class__") "__get__") (fun _ => some (some (.builtin "getset_descriptor.__get__")))
def t61 : Ft := fBool (fun K => PySem.W.takesIn K (.builtin "object.__class__")) true
def t62 : Ft := fBool (fun K => PySem.W.mroIn K (He.ga K "Stretch") (.type "object")) true
def t63 : Ft := fBool (fun K => PySem.W.kitOne K (.ref (He.ga K "Stretch")) (.ref (He.ga K "Stretch"))) true
def t64 : Ft := (fun K => PySem.W.notFirst K (He.ga K "Stretch") (.ref (He.ga K "Stretch")))
def t65 : Ft := fBool (fun K => PySem.W.kitOne K (.type "list") (.ref (He.ga K "Stretch"))) false
def t66 : Ft := (fun K => PySem.W.notFirst K (He.ga K "Stretch") (.type "list"))
def t67 : Ft := fBool (fun K => PySem.W.kitOne K (.type "int") (.ref (He.ga K "Stretch"))) false
def t68 : Ft := (fun K => PySem.W.notFirst K (He.ga K "Stretch") (.type "int"))
def t69 : Ft := fBool (fun K => PySem.W.kitOne K (.type "str") (.ref (He.ga K "Stretch"))) false
def t70 : Ft := (fun K => PySem.W.notFirst K (He.ga K "Stretch") (.type "str"))
def t71 : Ft := fSame (fun K => PySem.W.findIn K (.ref (He.ga K "Stretch")) "__ne__") (fun _ => some (some (.builtin "object.__ne__")))
def t72 : Ft := fStr "LEAF" "leaf"
def t73 : Ft := fStr "SET" "set"
def t74 : Ft := fStr "USE" "use"
def t75 : Ft := fStr "STOP" "stop"
def t76 : Ft := fInt "SOURCE" 0
def t77 : Ft := fInt "SINK" 1
def t78 : Ft := fFree "isinstance"
def t79 : Ft := fFree "int"
def t80 : Ft := fFree "bool"
def t81 : Ft := fFree "abs"
def t82 : Ft := fFree "str"
def t83 : Ft := fFree "repr"
def t84 : Ft := fFree "range"
def t85 : Ft := fFree "len"
def t86 : Ft := fFree "max"
def t87 : Ft := fFree "min"
def t88 : Ft := fFree "divmod"
def t89 : Ft := fFree "all"
def t90 : Ft := fFree "list"
def t91 : Ft := fFree "tuple"
def t92 : Ft := fFree "sorted"
def t93 : Ft := fFree "enumerate"
def ft0 : List Ft := [t0, t1, t2, t3, t4, t5, t6, t7, t8, t9, t10, t11, t12, t13, t14, t15, t16, t17, t18, t19, t20, t21, t22, t23, t24, t25, t26, t27, t28, t29]
def ft1 : List Ft := [t30, t31, t32, t33, t34, t35, t36, t37, t38, t39, t40, t41, t42, t43, t44, t45, t46, t47, t48, t49, t50, t51, t52, t53, t54, t55, t56, t57, t58, t59]
def ft2 : List Ft := [t60, t61, t62, t63, t64, t65, t66, t67, t68, t69, t70, t71, t72, t73, t74, t75, t76, t77, t78, t79, t80, t81, t82, t83, t84, t85, t86, t87, t88, t89]
def ft3 : List Ft := [t90, t91, t92, t93]
def ft : List Ft := ft0 ++ ft1 ++ ft2 ++ ft3
def tf : List (PySem.W.Frag → Addr) := []
def loose0 : List PySem.Str := ["_wall", "SOURCE", "SINK", "points_of", "Network", "spread_node", "lost_node", "connect_point", "network_of", "least_keeps", "UnknownValue", "UnknownStop", "LeastlogError", "InvalidStretch", "InvalidOut", "LEAF", "SET", "USE", "STOP", "is_integer", "is_new", "are_set", "is_row", "places_in", "check_out", "needed_by", "last_needs", "Stretch", "_law_pot", "_law_draw"]
def loose1 : List PySem.Str := ["_law_shuffled", "_law_names", "_law_some", "_law_rows", "_law_book", "_law_is_there", "_law_is_live", "_law_lost", "_law_is_enough", "_law_candidates", "_law_subsets", "_law_small", "_law_right"]
def loose : List PySem.Str := loose0 ++ loose1
abbrev R : PySem.W.OpenRow := PySem.W.OpenLaw.row PySem.Challenge.rw_leastlog_k63_whole_fewest_keeps
abbrev hk : PySem.W.Hook := hookT 7 ft fn tf
def ob (s : PySem.W.SharedT) : LL.AlT := LL.obsTG 7 ft fn tf (HandSHeadRun.getT s)
theorem ob_eq (s : PySem.W.SharedT) : ob s = hk.obs s.abs := LL.obsTG_eq (HandSHeadRun.getT_eq s)
theorem run (w : World) : HandSHeadRun.RunEq R (PySem.W.view R.prog [48]) hk ob 8000 loose w := by
  intro os
  kernel_rfl
def csOf (K : PySem.W.Frag) : List (Addr × Addr) := tf.map fun a => (cOf K (a K), tOf K (a K))
section
variable {P : Program} {w : World} {K : PySem.W.Frag} {h : Heap} {mg : Str → Option Value} {fa : Addr}
theorem facts (X : K.In h) (G : h.Ns mainGlobals mg) (hfa : mg ("law" : Str) = some (.ref fa)) (c : SaysY ft fn K) :
    ∃ fd : FuncData, (∀ (s : Shared) (v : Value), BindsTo s fd ⟨[v], []⟩ [("_law_script", v)]) ∧ ∀ base : Heap, K.In base → base.Ns mainGlobals mg → (∀ p ∈ csOf K, LamX.TabB base mg p.1 p.2) → FnG P w K mg base CX0 9 fa fd ["_law_script"] (spLaw K) := by
  obtain ⟨fd_points_of, F_points_of⟩ := c.fn_ 0
  obtain ⟨fd_spread_node, F_spread_node⟩ := c.fn_ 1
  obtain ⟨fd_lost_node, F_lost_node⟩ := c.fn_ 2
  obtain ⟨fd_connect_point, F_connect_point⟩ := c.fn_ 3
  obtain ⟨fd_network_of, F_network_of⟩ := c.fn_ 4
  obtain ⟨fd_least_keeps, F_least_keeps⟩ := c.fn_ 5
  obtain ⟨fd_is_integer, F_is_integer⟩ := c.fn_ 6
  obtain ⟨fd_is_new, F_is_new⟩ := c.fn_ 7
  obtain ⟨fd_are_set, F_are_set⟩ := c.fn_ 8
  obtain ⟨fd_is_row, F_is_row⟩ := c.fn_ 9
  obtain ⟨fd_places_in, F_places_in⟩ := c.fn_ 10
  obtain ⟨fd_check_out, F_check_out⟩ := c.fn_ 11
  obtain ⟨fd_needed_by, F_needed_by⟩ := c.fn_ 12
  obtain ⟨fd_last_needs, F_last_needs⟩ := c.fn_ 13
  obtain ⟨fd_l_pot, F_l_pot⟩ := c.fn_ 14
  obtain ⟨fd_l_draw, F_l_draw⟩ := c.fn_ 15
  obtain ⟨fd_l_shuffled, F_l_shuffled⟩ := c.fn_ 16
  obtain ⟨fd_l_names, F_l_names⟩ := c.fn_ 17
  obtain ⟨fd_l_some, F_l_some⟩ := c.fn_ 18
  obtain ⟨fd_l_rows, F_l_rows⟩ := c.fn_ 19
  obtain ⟨fd_l_book, F_l_book⟩ := c.fn_ 20
  obtain ⟨fd_l_is_there, F_l_is_there⟩ := c.fn_ 21
  obtain ⟨fd_l_is_live, F_l_is_live⟩ := c.fn_ 22
  obtain ⟨fd_l_lost, F_l_lost⟩ := c.fn_ 23
  obtain ⟨fd_l_is_enough, F_l_is_enough⟩ := c.fn_ 24
  obtain ⟨fd_l_candidates, F_l_candidates⟩ := c.fn_ 25
  obtain ⟨fd_l_subsets, F_l_subsets⟩ := c.fn_ 26
  obtain ⟨fd_l_small, F_l_small⟩ := c.fn_ 27
  obtain ⟨fd_l_right, F_l_right⟩ := c.fn_ 28
  obtain ⟨fd_law, F_law⟩ := c.fn_ 29
  obtain ⟨fd_Stretch_stops, F_Stretch_stops⟩ := c.fn_ 30
  obtain ⟨fd_Stretch_is_value, F_Stretch_is_value⟩ := c.fn_ 31
  obtain ⟨fd_Stretch_is_stop, F_Stretch_is_stop⟩ := c.fn_ 32
  obtain ⟨fd_Stretch_check_value, F_Stretch_check_value⟩ := c.fn_ 33
  obtain ⟨fd_Stretch_check_stop, F_Stretch_check_stop⟩ := c.fn_ 34
  obtain ⟨fd_Stretch_operands, F_Stretch_operands⟩ := c.fn_ 35
  obtain ⟨fd_Stretch_asked, F_Stretch_asked⟩ := c.fn_ 36
  obtain ⟨fd_Stretch_is_present, F_Stretch_is_present⟩ := c.fn_ 37
  obtain ⟨fd_Stretch_is_live, F_Stretch_is_live⟩ := c.fn_ 38
  obtain ⟨fd_Stretch_present, F_Stretch_present⟩ := c.fn_ 39
  obtain ⟨fd_Network_connect, F_Network_connect⟩ := c.fn_ 40
  obtain ⟨fd_Network_next_node, F_Network_next_node⟩ := c.fn_ 41
  obtain ⟨fd_Network_reached, F_Network_reached⟩ := c.fn_ 42
  obtain ⟨fd_Network_push, F_Network_push⟩ := c.fn_ 43
  obtain ⟨fd_Network_fill, F_Network_fill⟩ := c.fn_ 44
  obtain ⟨fd_Networkinit, F_Networkinit⟩ := c.fn_ 45
  obtain ⟨fd_Stretchinit, F_Stretchinit⟩ := c.fn_ 46
  have T : Tx K mg (He.ga K "Stretch") := {
    g_Stretch := He.glo_ok X G (c.fact 45)
    cl := He.cls_ok (c.fact 47)
    a1 := He.noat_ok (c.fact 51)
    a2 := He.noat_ok (c.fact 52)
    a3 := He.noat_ok (c.fact 53)
    a4 := He.noat_ok (c.fact 54)
    a5 := He.noat_ok (c.fact 55)
    ca := He.eqO_ok (c.fact 59)
    cn := He.eqO_ok (c.fact 60)
    ne := He.eqO_ok (c.fact 71)
    ct := of_decide_eq_true (c.fact 61)
    cm := of_decide_eq_true (c.fact 62)
    kC := of_decide_eq_true (c.fact 63)
    kL := of_decide_eq_true (c.fact 65)
    kI := of_decide_eq_true (c.fact 67)
    kS := of_decide_eq_true (c.fact 69)
    fC := (c.fact 64)
    fL := (c.fact 66)
    fI := (c.fact 68)
    fS := (c.fact 70)
    g_LEAF := He.str_ok X G (c.fact 72)
    g_SET := He.str_ok X G (c.fact 73)
    g_USE := He.str_ok X G (c.fact 74)
    g_STOP := He.str_ok X G (c.fact 75)
    n_isinstance := He.free_ok X G (c.fact 78)
    n_int := He.free_ok X G (c.fact 79)
    n_bool := He.free_ok X G (c.fact 80)
    n_abs := He.free_ok X G (c.fact 81)
    n_str := He.free_ok X G (c.fact 82)
    n_repr := He.free_ok X G (c.fact 83)
    n_range := He.free_ok X G (c.fact 84)
    n_len := He.free_ok X G (c.fact 85)
    n_max := He.free_ok X G (c.fact 86)
    n_min := He.free_ok X G (c.fact 87)
    n_divmod := He.free_ok X G (c.fact 88)
    n_all := He.free_ok X G (c.fact 89)
    n_list := He.free_ok X G (c.fact 90)
    n_tuple := He.free_ok X G (c.fact 91)
    n_sorted := He.free_ok X G (c.fact 92)
    n_enumerate := He.free_ok X G (c.fact 93)
  }
  have TN : Tn K mg (He.ga K "Stretch") (He.ga K "Network") := {
    toTx := T
    g_Network := He.glo_ok X G (c.fact 48)
    cN := He.cls_ok (c.fact 50)
    g_SOURCE := He.int_ok X G (c.fact 76)
    g_SINK := He.int_ok X G (c.fact 77)
    e1 := He.noat_ok (c.fact 56)
    e2 := He.noat_ok (c.fact 57)
    e3 := He.noat_ok (c.fact 58)
  }
  have B_points_of : Binds K fd_points_of ["stretch"] [] := F_points_of.bindsN fun _ _ _ _ _ _ us hl => match us, hl with | [_], _ => rfl
  have B_spread_node : Binds K fd_spread_node ["number"] [] := F_spread_node.bindsN fun _ _ _ _ _ _ us hl => match us, hl with | [_], _ => rfl
  have B_lost_node : Binds K fd_lost_node ["number"] [] := F_lost_node.bindsN fun _ _ _ _ _ _ us hl => match us, hl with | [_], _ => rfl
  have B_connect_point : Binds K fd_connect_point ["network", "stretch", "numbers", "point", "most"] [] := F_connect_point.bindsN fun _ _ _ _ _ _ us hl => match us, hl with | [_, _, _, _, _], _ => rfl
  have B_network_of : Binds K fd_network_of ["stretch", "points"] [] := F_network_of.bindsN fun _ _ _ _ _ _ us hl => match us, hl with | [_, _], _ => rfl
  have B_least_keeps : Binds K fd_least_keeps ["stretch"] [] := F_least_keeps.bindsN fun _ _ _ _ _ _ us hl => match us, hl with | [_], _ => rfl
  have B_is_integer : Binds K fd_is_integer ["thing"] [] := F_is_integer.bindsN fun _ _ _ _ _ _ us hl => match us, hl with | [_], _ => rfl
  have B_is_new : Binds K fd_is_new ["thing", "places"] [] := F_is_new.bindsN fun _ _ _ _ _ _ us hl => match us, hl with | [_, _], _ => rfl
  have B_are_set : Binds K fd_are_set ["things", "places"] [] := F_are_set.bindsN fun _ _ _ _ _ _ us hl => match us, hl with | [_, _], _ => rfl
  have B_is_row : Binds K fd_is_row ["thing", "places"] [] := F_is_row.bindsN fun _ _ _ _ _ _ us hl => match us, hl with | [_, _], _ => rfl
  have B_places_in : Binds K fd_places_in ["rows"] [] := F_places_in.bindsN fun _ _ _ _ _ _ us hl => match us, hl with | [_], _ => rfl
  have B_check_out : Binds K fd_check_out ["out", "places"] [] := F_check_out.bindsN fun _ _ _ _ _ _ us hl => match us, hl with | [_, _], _ => rfl
  have B_needed_by : Binds K fd_needed_by ["row"] [] := F_needed_by.bindsN fun _ _ _ _ _ _ us hl => match us, hl with | [_], _ => rfl
  have B_last_needs : Binds K fd_last_needs ["rows", "out"] [] := F_last_needs.bindsN fun _ _ _ _ _ _ us hl => match us, hl with | [_, _], _ => rfl
  have B_l_pot : Binds K fd_l_pot ["_law_script", "_law_k"] [] := F_l_pot.bindsN fun _ _ _ _ _ _ us hl => match us, hl with | [_, _], _ => rfl
  have B_l_draw : Binds K fd_l_draw ["_law_pot_here", "_law_many"] [] := F_l_draw.bindsN fun _ _ _ _ _ _ us hl => match us, hl with | [_, _], _ => rfl
  have B_l_shuffled : Binds K fd_l_shuffled ["_law_pot_here", "_law_things"] [] := F_l_shuffled.bindsN fun _ _ _ _ _ _ us hl => match us, hl with | [_, _], _ => rfl
  have B_l_names : Binds K fd_l_names ["_law_pot_here", "_law_many"] [] := F_l_names.bindsN fun _ _ _ _ _ _ us hl => match us, hl with | [_, _], _ => rfl
  have B_l_some : Binds K fd_l_some ["_law_pot_here", "_law_there", "_law_most"] [] := F_l_some.bindsN fun _ _ _ _ _ _ us hl => match us, hl with | [_, _, _], _ => rfl
  have B_l_rows : Binds K fd_l_rows ["_law_pot_here", "_law_values", "_law_stops", "_law_others"] [] := F_l_rows.bindsN fun _ _ _ _ _ _ us hl => match us, hl with | [_, _, _, _], _ => rfl
  have B_l_book : Binds K fd_l_book ["_law_rows_here", "_law_out"] [] := F_l_book.bindsN fun _ _ _ _ _ _ us hl => match us, hl with | [_, _], _ => rfl
  have B_l_is_there : Binds K fd_l_is_there ["_law_book_here", "_law_value", "_law_stop"] [] := F_l_is_there.bindsN fun _ _ _ _ _ _ us hl => match us, hl with | [_, _, _], _ => rfl
  have B_l_is_live : Binds K fd_l_is_live ["_law_book_here", "_law_value", "_law_stop"] [] := F_l_is_live.bindsN fun _ _ _ _ _ _ us hl => match us, hl with | [_, _, _], _ => rfl
  have B_l_lost : Binds K fd_l_lost ["_law_book_here", "_law_kept"] [] := F_l_lost.bindsN fun _ _ _ _ _ _ us hl => match us, hl with | [_, _], _ => rfl
  have B_l_is_enough : Binds K fd_l_is_enough ["_law_book_here", "_law_kept"] [] := F_l_is_enough.bindsN fun _ _ _ _ _ _ us hl => match us, hl with | [_, _], _ => rfl
  have B_l_candidates : Binds K fd_l_candidates ["_law_book_here"] [] := F_l_candidates.bindsN fun _ _ _ _ _ _ us hl => match us, hl with | [_], _ => rfl
  have B_l_subsets : Binds K fd_l_subsets ["_law_things"] [] := F_l_subsets.bindsN fun _ _ _ _ _ _ us hl => match us, hl with | [_], _ => rfl
  have B_l_small : Binds K fd_l_small ["_law_pot_here"] [] := F_l_small.bindsN fun _ _ _ _ _ _ us hl => match us, hl with | [_], _ => rfl
  have B_l_right : Binds K fd_l_right ["_law_rows_here", "_law_out"] [] := F_l_right.bindsN fun _ _ _ _ _ _ us hl => match us, hl with | [_, _], _ => rfl
  have B_law : Binds K fd_law ["_law_script"] [] := F_law.bindsN fun _ _ _ _ _ _ us hl => match us, hl with | [_], _ => rfl
  have B_Stretch_stops : Binds K fd_Stretch_stops ["self"] [] := F_Stretch_stops.bindsN fun _ _ _ _ _ _ us hl => match us, hl with | [_], _ => rfl
  have B_Stretch_is_value : Binds K fd_Stretch_is_value ["self", "thing"] [] := F_Stretch_is_value.bindsN fun _ _ _ _ _ _ us hl => match us, hl with | [_, _], _ => rfl
  have B_Stretch_is_stop : Binds K fd_Stretch_is_stop ["self", "thing"] [] := F_Stretch_is_stop.bindsN fun _ _ _ _ _ _ us hl => match us, hl with | [_, _], _ => rfl
  have B_Stretch_check_value : Binds K fd_Stretch_check_value ["self", "thing"] [] := F_Stretch_check_value.bindsN fun _ _ _ _ _ _ us hl => match us, hl with | [_, _], _ => rfl
  have B_Stretch_check_stop : Binds K fd_Stretch_check_stop ["self", "thing"] [] := F_Stretch_check_stop.bindsN fun _ _ _ _ _ _ us hl => match us, hl with | [_, _], _ => rfl
  have B_Stretch_operands : Binds K fd_Stretch_operands ["self", "value"] [] := F_Stretch_operands.bindsN fun _ _ _ _ _ _ us hl => match us, hl with | [_, _], _ => rfl
  have B_Stretch_asked : Binds K fd_Stretch_asked ["self", "stop"] [] := F_Stretch_asked.bindsN fun _ _ _ _ _ _ us hl => match us, hl with | [_, _], _ => rfl
  have B_Stretch_is_present : Binds K fd_Stretch_is_present ["self", "value", "stop"] [] := F_Stretch_is_present.bindsN fun _ _ _ _ _ _ us hl => match us, hl with | [_, _, _], _ => rfl
  have B_Stretch_is_live : Binds K fd_Stretch_is_live ["self", "value", "stop"] [] := F_Stretch_is_live.bindsN fun _ _ _ _ _ _ us hl => match us, hl with | [_, _, _], _ => rfl
  have B_Stretch_present : Binds K fd_Stretch_present ["self", "stop"] [] := F_Stretch_present.bindsN fun _ _ _ _ _ _ us hl => match us, hl with | [_, _], _ => rfl
  have B_Network_connect : Binds K fd_Network_connect ["self", "start", "end", "bound"] [] := F_Network_connect.bindsN fun _ _ _ _ _ _ us hl => match us, hl with | [_, _, _, _], _ => rfl
  have B_Network_next_node : Binds K fd_Network_next_node ["self", "node", "number"] [] := F_Network_next_node.bindsN fun _ _ _ _ _ _ us hl => match us, hl with | [_, _, _], _ => rfl
  have B_Network_reached : Binds K fd_Network_reached ["self"] [] := F_Network_reached.bindsN fun _ _ _ _ _ _ us hl => match us, hl with | [_], _ => rfl
  have B_Network_push : Binds K fd_Network_push ["self", "found"] [] := F_Network_push.bindsN fun _ _ _ _ _ _ us hl => match us, hl with | [_, _], _ => rfl
  have B_Network_fill : Binds K fd_Network_fill ["self"] [] := F_Network_fill.bindsN fun _ _ _ _ _ _ us hl => match us, hl with | [_], _ => rfl
  have B_Networkinit : Binds K fd_Networkinit ["self", "size"] [] := F_Networkinit.bindsN fun _ _ _ _ _ _ us hl => match us, hl with | [_, _], _ => rfl
  obtain ⟨ds2, v2, B2⟩ := FunD.binds1 (ps := ["self", "rows", "out"]) F_Stretchinit 3 1 (List.cons_ne_nil _ _) rfl fun _ _ _ _ _ _ _ us its hl hi => match us, its, hl, hi with | [_, _, _], [_], _, _ => ⟨_, rfl, rfl⟩
  have e := hfa.symm.trans (He.glo_ok X G (c.fact 29))
  cases e
  have b := FunD.bindsA (ps := ["_law_script"]) F_law fun _ _ _ _ _ _ us hl => match us, hl with | [_], _ => rfl
  refine ⟨fd_law, fun s v => b s [v] rfl, fun base kb nb tbs => ?_⟩
  have G_is_integer : Fnc P w K mg base CX0 1 "is_integer" [] spInt := ⟨_, _, _, [], He.glo_ok X G (c.fact 6), F_is_integer.kp, B_is_integer, .nil, ok_is_integer T F_is_integer⟩
  have G_is_integerG : Fnc P w K mg base CX0 1 "is_integer" [] (spIntG K) := ⟨_, _, _, [], He.glo_ok X G (c.fact 6), F_is_integer.kp, B_is_integer, .nil, ok_is_integerG T F_is_integer⟩
  have G_is_new : Fnc P w K mg base CX0 2 "is_new" [] spNew := ⟨_, _, _, [], He.glo_ok X G (c.fact 7), F_is_new.kp, B_is_new, .nil, ok_is_new T G_is_integer F_is_new⟩
  have G_are_set : Fnc P w K mg base CX0 2 "are_set" [] spAre := ⟨_, _, _, [], He.glo_ok X G (c.fact 8), F_are_set.kp, B_are_set, .nil, ok_are_set T G_is_integer F_are_set⟩
  have G_is_row : Fnc P w K mg base CX0 3 "is_row" [] spRow := ⟨_, _, _, [], He.glo_ok X G (c.fact 9), F_is_row.kp, B_is_row, .nil, ok_is_row T G_is_new G_are_set F_is_row⟩
  have G_places_in : Fnc P w K mg base CX0 4 "places_in" [] spPl := ⟨_, _, _, [], He.glo_ok X G (c.fact 10), F_places_in.kp, B_places_in, .nil, ok_places_in T G_is_row F_places_in⟩
  have G_check_out : Fnc P w K mg base CX0 2 "check_out" [] (spCO K) := ⟨_, _, _, [], He.glo_ok X G (c.fact 11), F_check_out.kp, B_check_out, .nil, ok_check_out T G_is_integer F_check_out⟩
  have G_needed_by : Fnc P w K mg base CX0 1 "needed_by" [] spNb := ⟨_, _, _, [], He.glo_ok X G (c.fact 12), F_needed_by.kp, B_needed_by, .nil, ok_needed_by T F_needed_by⟩
  have G_last_needs : Fnc P w K mg base CX0 2 "last_needs" [] (spLn K) := ⟨_, _, _, [], He.glo_ok X G (c.fact 13), F_last_needs.kp, B_last_needs, .nil, ok_last_needs T G_needed_by F_last_needs⟩
  have init := ok_sinit (P := P) (w := w) (base := base) T G_places_in G_check_out G_last_needs F_Stretchinit
  have K2 : Mkr P w K mg base CX0 5 "Stretch" (He.ga K "Stretch") [] (spSI K (He.ga K "Stretch")) := ⟨_, _, _, _, He.mkr_ok (c.fact 46), T.g_Stretch, B2, v2, init⟩
  have K_Stretch2 := mkf2 K2
  have M_stops : Mth P w K mg base CX0 1 (He.ga K "Stretch") "stops" [] (spSt (He.ga K "Stretch")) := ⟨T.cl, _, _, _, [], He.meth_ok (c.fact 30), B_Stretch_stops, .nil, ok_stops T F_Stretch_stops⟩
  have M_is_value : Mth P w K mg base CX0 2 (He.ga K "Stretch") "is_value" [] (spIV K (He.ga K "Stretch")) := ⟨T.cl, _, _, _, [], He.meth_ok (c.fact 31), B_Stretch_is_value, .nil, ok_is_value T G_is_integerG F_Stretch_is_value⟩
  have M_is_stop : Mth P w K mg base CX0 2 (He.ga K "Stretch") "is_stop" [] (spIS K (He.ga K "Stretch")) := ⟨T.cl, _, _, _, [], He.meth_ok (c.fact 32), B_Stretch_is_stop, .nil, ok_is_stop T G_is_integerG F_Stretch_is_stop⟩
  have M_check_value : Mth P w K mg base CX0 3 (He.ga K "Stretch") "check_value" [] (spCV (He.ga K "Stretch")) := ⟨T.cl, _, _, _, [], He.meth_ok (c.fact 33), B_Stretch_check_value, .nil, ok_check_value T M_is_value F_Stretch_check_value⟩
  have M_check_stop : Mth P w K mg base CX0 3 (He.ga K "Stretch") "check_stop" [] (spCS (He.ga K "Stretch")) := ⟨T.cl, _, _, _, [], He.meth_ok (c.fact 34), B_Stretch_check_stop, .nil, ok_check_stop T M_is_stop F_Stretch_check_stop⟩
  have M_operands : Mth P w K mg base CX0 4 (He.ga K "Stretch") "operands" [] (spOps (He.ga K "Stretch")) := ⟨T.cl, _, _, _, [], He.meth_ok (c.fact 35), B_Stretch_operands, .nil, ok_operands T M_check_value F_Stretch_operands⟩
  have M_asked : Mth P w K mg base CX0 4 (He.ga K "Stretch") "asked" [] (spAsk (He.ga K "Stretch")) := ⟨T.cl, _, _, _, [], He.meth_ok (c.fact 36), B_Stretch_asked, .nil, ok_asked T M_check_stop F_Stretch_asked⟩
  have M_is_present : Mth P w K mg base CX0 1 (He.ga K "Stretch") "is_present" [] (spPr (He.ga K "Stretch")) := ⟨T.cl, _, _, _, [], He.meth_ok (c.fact 37), B_Stretch_is_present, .nil, ok_is_present T F_Stretch_is_present⟩
  have M_is_live : Mth P w K mg base CX0 2 (He.ga K "Stretch") "is_live" [] (spLv (He.ga K "Stretch")) := ⟨T.cl, _, _, _, [], He.meth_ok (c.fact 38), B_Stretch_is_live, .nil, ok_is_live T M_is_present F_Stretch_is_live⟩
  have M_present : Mth P w K mg base CX0 2 (He.ga K "Stretch") "present" [] (spPrs (He.ga K "Stretch")) := ⟨T.cl, _, _, _, [], He.meth_ok (c.fact 39), B_Stretch_present, .nil, ok_present T M_is_present F_Stretch_present⟩
  have N_connect : Mth P w K mg base CX0 1 (He.ga K "Network") "connect" [] (spCon (He.ga K "Network")) := ⟨TN.cN, _, _, _, [], He.meth_ok (c.fact 40), B_Network_connect, .nil, ok_connect TN F_Network_connect⟩
  have N_next_node : Mth P w K mg base CX0 1 (He.ga K "Network") "next_node" [] (spNx (He.ga K "Network")) := ⟨TN.cN, _, _, _, [], He.meth_ok (c.fact 41), B_Network_next_node, .nil, ok_next_node TN F_Network_next_node⟩
  have N_reached : Mth P w K mg base CX0 2 (He.ga K "Network") "reached" [] (spRch (He.ga K "Network")) := ⟨TN.cN, _, _, _, [], He.meth_ok (c.fact 42), B_Network_reached, .nil, ok_reached TN N_next_node F_Network_reached⟩
  have N_push : Mth P w K mg base CX0 1 (He.ga K "Network") "push" [] (spPush (He.ga K "Network")) := ⟨TN.cN, _, _, _, [], He.meth_ok (c.fact 43), B_Network_push, .nil, ok_push TN F_Network_push⟩
  have N_fill : Mth P w K mg base CX0 3 (He.ga K "Network") "fill" [] (spFill (He.ga K "Network")) := ⟨TN.cN, _, _, _, [], He.meth_ok (c.fact 44), B_Network_fill, .nil, ok_fill TN N_reached N_push F_Network_fill⟩
  have KN : Mkr P w K mg base CX0 1 "Network" (He.ga K "Network") [] (spNI (He.ga K "Network")) := ⟨_, _, _, _, He.mkr_ok (c.fact 49), TN.g_Network, B_Networkinit, .nil, ok_ninit TN F_Networkinit⟩
  have K_Network := mkf_net KN
  have G_points_of : Fnc P w K mg base CX0 3 "points_of" [] (spPts (He.ga K "Stretch")) := ⟨_, _, _, [], He.glo_ok X G (c.fact 0), F_points_of.kp, B_points_of, .nil, ok_points_of TN M_stops M_present F_points_of⟩
  have G_spread_node : Fnc P w K mg base CX0 1 "spread_node" [] spSn := ⟨_, _, _, [], He.glo_ok X G (c.fact 1), F_spread_node.kp, B_spread_node, .nil, ok_spread_node TN F_spread_node⟩
  have G_lost_node : Fnc P w K mg base CX0 1 "lost_node" [] spLn' := ⟨_, _, _, [], He.glo_ok X G (c.fact 2), F_lost_node.kp, B_lost_node, .nil, ok_lost_node TN F_lost_node⟩
  have G_connect_point : Fnc P w K mg base CX0 5 "connect_point" [] (spCp (He.ga K "Stretch") (He.ga K "Network")) := ⟨_, _, _, [], He.glo_ok X G (c.fact 3), F_connect_point.kp, B_connect_point, .nil, ok_connect_point TN M_operands M_asked M_is_live N_connect G_spread_node G_lost_node F_connect_point⟩
  have G_network_of : Fnc P w K mg base CX0 6 "network_of" [] (spNf (He.ga K "Stretch") (He.ga K "Network")) := ⟨_, _, _, [], He.glo_ok X G (c.fact 4), F_network_of.kp, B_network_of, .nil, ok_network_of TN K_Network G_connect_point F_network_of⟩
  have G_least_keeps : Fnc P w K mg base CX0 7 "least_keeps" [] (spLk (He.ga K "Stretch")) := ⟨_, _, _, [], He.glo_ok X G (c.fact 5), F_least_keeps.kp, B_least_keeps, .nil, ok_least_keeps TN G_points_of G_network_of N_fill G_spread_node G_lost_node M_is_live F_least_keeps⟩
  have G_l_pot : Fnc P w K mg base CX0 1 "_law_pot" [] (spPot K) := ⟨_, _, _, [], He.glo_ok X G (c.fact 14), F_l_pot.kp, B_l_pot, .nil, ok_l_pot T F_l_pot⟩
  have G_l_draw : Fnc P w K mg base CX0 1 "_law_draw" [] spTake := ⟨_, _, _, [], He.glo_ok X G (c.fact 15), F_l_draw.kp, B_l_draw, .nil, ok_l_draw T F_l_draw⟩
  have G_l_shuffled : Fnc P w K mg base CX0 2 "_law_shuffled" [] spShuf := ⟨_, _, _, [], He.glo_ok X G (c.fact 16), F_l_shuffled.kp, B_l_shuffled, .nil, ok_l_shuffled T G_l_draw F_l_shuffled⟩
  have G_l_names : Fnc P w K mg base CX0 3 "_law_names" [] spNames := ⟨_, _, _, [], He.glo_ok X G (c.fact 17), F_l_names.kp, B_l_names, .nil, ok_l_names T G_l_draw G_l_shuffled F_l_names⟩
  have G_l_some : Fnc P w K mg base CX0 2 "_law_some" [] spSome := ⟨_, _, _, [], He.glo_ok X G (c.fact 18), F_l_some.kp, B_l_some, .nil, ok_l_some T G_l_draw F_l_some⟩
  have G_l_rows : Fnc P w K mg base CX0 4 "_law_rows" [] spRows := ⟨_, _, _, [], He.glo_ok X G (c.fact 19), F_l_rows.kp, B_l_rows, .nil, ok_l_rows T G_l_draw G_l_shuffled G_l_names G_l_some F_l_rows⟩
  have G_l_book : Fnc P w K mg base CX0 1 "_law_book" [] spBook := ⟨_, _, _, [], He.glo_ok X G (c.fact 20), F_l_book.kp, B_l_book, .nil, ok_l_book T F_l_book⟩
  have G_l_is_there : Fnc P w K mg base CX0 1 "_law_is_there" [] spTh := ⟨_, _, _, [], He.glo_ok X G (c.fact 21), F_l_is_there.kp, B_l_is_there, .nil, ok_l_is_there T F_l_is_there⟩
  have G_l_is_live : Fnc P w K mg base CX0 2 "_law_is_live" [] spLL := ⟨_, _, _, [], He.glo_ok X G (c.fact 22), F_l_is_live.kp, B_l_is_live, .nil, ok_l_is_live T G_l_is_there F_l_is_live⟩
  have G_l_lost : Fnc P w K mg base CX0 3 "_law_lost" [] spLost := ⟨_, _, _, [], He.glo_ok X G (c.fact 23), F_l_lost.kp, B_l_lost, .nil, ok_l_lost T G_l_is_there G_l_is_live F_l_lost⟩
  have G_l_is_enough : Fnc P w K mg base CX0 4 "_law_is_enough" [] spEn := ⟨_, _, _, [], He.glo_ok X G (c.fact 24), F_l_is_enough.kp, B_l_is_enough, .nil, ok_l_is_enough T G_l_lost F_l_is_enough⟩
  have G_l_candidates : Fnc P w K mg base CX0 3 "_law_candidates" [] spCand := ⟨_, _, _, [], He.glo_ok X G (c.fact 25), F_l_candidates.kp, B_l_candidates, .nil, ok_l_candidates T G_l_is_there G_l_is_live F_l_candidates⟩
  have G_l_subsets : Fnc P w K mg base CX0 1 "_law_subsets" [] spSub := ⟨_, _, _, [], He.glo_ok X G (c.fact 26), F_l_subsets.kp, B_l_subsets, .nil, ok_l_subsets T F_l_subsets⟩
  have G_l_small : Fnc P w K mg base CX0 5 "_law_small" [] spSm := ⟨_, _, _, [], He.glo_ok X G (c.fact 27), F_l_small.kp, B_l_small, .nil, ok_l_small T G_l_draw G_l_rows F_l_small⟩
  have G_l_right : Fnc P w K mg base CX0 8 "_law_right" [] spRt := ⟨_, _, _, [], He.glo_ok X G (c.fact 28), F_l_right.kp, B_l_right, .nil, ok_l_right TN G_l_book K_Stretch2 G_least_keeps G_l_candidates G_l_is_enough G_l_lost G_l_subsets F_l_right⟩
  exact ok_law T G_l_pot G_l_small G_l_right F_law
end
end K63
open PySem PySem.W PySem.Calls PyProof.Rows
theorem PySem.Challenge.cw_leastlog_k63_whole_fewest_keeps_holds : PySem.Challenge.rw_leastlog_k63_whole_fewest_keeps.Holds := by
  w_on; o_law
  refine HandSHeadRun.head_any (r := OpenLaw.row PySem.Challenge.rw_leastlog_k63_whole_fewest_keeps) (q := view (OpenLaw.row PySem.Challenge.rw_leastlog_k63_whole_fewest_keeps).prog [48]) (H := K63.hk) (ob := K63.ob) (M := 8000) (loose := K63.loose) (d := HandSHeadRun.topDef (OpenLaw.row PySem.Challenge.rw_leastlog_k63_whole_fewest_keeps).prog 48) (kwd := []) K63.ob_eq
    (by kernel_rfl) (fun s => by kernel_rfl) K63.run (by kernel_rfl) (by kernel_rfl) (by kernel_rfl) (by rfl) (by first | assumption | decide +kernel) (by decide +kernel) ⟨rfl, rfl, rfl, rfl, rfl, by decide +kernel⟩ ?hw ?hc
  case hw => w_witness2
  case hc =>
    refine LL.walkT (l := PySem.Challenge.rw_leastlog_k63_whole_fewest_keeps) (n := 63) (k := 9) (x := "_law_script") (CX := L2.CX0) rfl (by decide) (by kernel_rfl) ⟨⟨rfl, by decide, by decide⟩, rfl⟩ ?F (fun _ _ _ _ z => z)
    intro w mg fa h Y G hmg0
    obtain ⟨K, KX, c⟩ := Y
    have hmg : mg ("law" : PySem.Str) = some (.ref fa) := by
      have e : (HandSHeadRun.topDef (OpenLaw.row PySem.Challenge.rw_leastlog_k63_whole_fewest_keeps).prog 48).name = ("law" : PySem.Str) := by kernel_rfl
      rw [← e]
      exact hmg0
    obtain ⟨fd, hb, hF⟩ := K63.facts (P := (PySem.Challenge.rw_leastlog_k63_whole_fewest_keeps).prog) (w := w) KX G hmg c.y
    have mem : ∀ p ∈ K63.csOf K, ∃ a ∈ K63.tf, p = (LL.cOf K (a K), LL.tOf K (a K)) := fun p hp => by
      obtain ⟨a, ha, e⟩ := List.mem_map.mp hp
      exact ⟨a, ha, e.symm⟩
    refine ⟨K, fd, K63.spLaw K, K63.csOf K, KX, fun p hp => ?_, fun p hp => ?_, fun p hp => ?_, hb, fun H a ns hl _ hT hS => ⟨a, ns, rfl, hS, hl, fun _ => rfl⟩, hF⟩
    · obtain ⟨a, ha, rfl⟩ := mem p hp
      exact c.emp a ha
    · obtain ⟨a, ha, rfl⟩ := mem p hp
      exact c.out a ha
    · obtain ⟨a, ha, rfl⟩ := mem p hp
      exact c.hd a ha
