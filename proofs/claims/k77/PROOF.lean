import PyProof.Rows.All
import Wide.All
import OpenK.AllK
import Wide.FinOn
import KE.KOpsOwn
import KE.KCallOwn
import KE.KFmtOwn
import PyProof.ReprRoads
import HandS.ForMost
import HandS.Exc
import HandS.Lambda
import HandS.Defaults
import HandS.Property
import HandS.IsInst
import HandS.FStr
import HandS.WideBits
import HandS.EndTab
import HandS.SlotsOwn
import HandS.FStrTup
import HandS.RaiseMore
import HandS.Head0
import HandS.Head1
import HandS.Head2
import HandS.HeadEnd
import HandS.HeadHook1
import HandS.HeadHook2
import HandS.EndBits
import HandS.TryOnly
import HandS.TryMany
import HandS.ExcInit
import HandS.ExcField
import HandS.ExcIs
import HandS.HeadHook4
import HandS.Walk
import HandS.Zip
import KE.GoesZip
import KE.GoesMore
import HandS.SetFor
import HandS.Strs
import HandS.TupAny
import HandS.More
import HandS.Conv
import HandS.CallSlots
import HandS.ExcOwn
import HandS.Style
import HandS.MakeKw
import HandS.Small
import HandS.Deep
import PyProof.P3In
import HandS.TupSets
import HandS.DictComp
import PyProof.EqKinds
import HandS.ListEq
import HandS.Star
import KE.KExcInit
import KE.KExcPX
import PyProof.ExcBaseAll.LookupError
import PyProof.ExcBaseAll.RuntimeError
import PyProof.ExcBaseAll.ArithmeticError
import HandS.ClsMeth
import HandS.HeadNt
import HandS.Text
import HandS.StrSplit
import HandS.StrMore
import HandS.Replace
import PyProof.WalksMore
import PySem.Challenge.RW_leastlog_k77_whole_journals_found
set_option Elab.async false
set_option linter.all false
set_option maxRecDepth 100000
set_option maxHeartbeats 2000000
/-! LLBase: the layer with one fact more: no repr is under way where a def is called. -/
namespace LL
open PySem PySem.Spec PyProof.Rows L2

/-- room for k calls, and no container's repr is under way -/
structure Rm (k : Nat) (A : Around) : Prop where
  r : Room k A
  g : A.guards = some []
theorem Rm.mono {j k : Nat} {A : Around} (h : Rm k A) (q : j ≤ k) : Rm j A := ⟨h.r.mono q, h.g⟩
theorem Rm.deeper {k : Nat} {A : Around} (h : Rm (k + 1) A) (env : Env) : Rm k (A.deeper env) := ⟨h.r.deeper env, h.g⟩
theorem Rm.in1 {k : Nat} {A : Around} (h : Rm (k + 1) A) : Rm k A.in1 := ⟨h.r.in1, h.g⟩
theorem Rm.make {k : Nat} {A : Around} (h : Rm (k + 1) A) (C : Addr) (us : List Value) (kw : List (Str × Value)) : Rm k (A.under (.builtin "type.__call__" ⟨.ref C :: us, kw⟩)) :=
  ⟨h.r.make C us kw, by
    have e : (Code.builtin "type.__call__" ⟨.ref C :: us, kw⟩).guards = [] := by
      first | rfl | simp [Code.guards, Code.isGuard, guardIds]
    unfold Around.under
    rw [e, h.g]
    rfl⟩

/-- a def keeps its promise wherever there is room and no repr is under way -/
structure FnG (P : Program) (w : World) (K : PySem.W.Frag) (mg : Str → Option Value) (base : Heap) (CX : CXT) (k : Nat) (f : Addr) (fd : FuncData) (ps : List Str) (sp : Sp) : Prop where
  len : ∀ vs H Q E, sp vs H Q E → vs.length = ps.length
  run : ∀ (A : Around) (outer : List Env) (s : Shared) (H : Hp) (args : Args) (us : List Value) (vs : List V) (Q : VK) (E : XK), Rm k A → Env0 P w K mg base A outer s H → BindsTo s fd args (ps.zip us) → Vals vs us → sp vs H Q E →
    codeAny (model P w) A (.call (.ref f) args) (CR CX outer P w H s Q E) s
section
variable {P : Program} {w : World} {K : PySem.W.Frag} {mg : Str → Option Value} {base : Heap} {CX : CXT} {k : Nat} {f : Addr} {fd : FuncData} {ps : List Str} {sp sp' : Sp}
theorem FnG.mono {j : Nat} (F : FnG P w K mg base CX j f fd ps sp) (h : j ≤ k) : FnG P w K mg base CX k f fd ps sp :=
  ⟨F.len, fun A outer s H args us vs Q E hr => F.run A outer s H args us vs Q E (hr.mono h)⟩
theorem FnG.imp (F : FnG P w K mg base CX k f fd ps sp) (h : ∀ vs H Q E, sp' vs H Q E → sp vs H Q E) : FnG P w K mg base CX k f fd ps sp' :=
  ⟨fun vs H Q E q => F.len vs H Q E (h _ _ _ _ q), fun A outer s H args us vs Q E hr he hb hv hs => F.run A outer s H args us vs Q E hr he hb hv (h _ _ _ _ hs)⟩
/-- a def by its body: it may raise -/
theorem okX {x qual : Str} {params : Arguments} {body : List Stmt} {scope : Scope} {dvs : List V} {kws : List (Str × V)} {N : List Str} (F : FunD K x qual params body scope dvs kws f fd) (S : FnScope N ps scope) (len : ∀ vs H Q E, sp vs H Q E → vs.length = ps.length)
    (hbody : ∀ (cdv : Value) (A : Around) (outer : List Env) (s : Shared) (H : Hp) (vs : List V) (Q : VK) (E : XK), Rm k (A.deeper (envOfC qual scope s.heap.objs.size f cdv)) → sp vs H Q E →
      ∃ t, PSs (cxOf CX P w K mg base N qual scope f cdv A outer s H E) body t ∧ t { nx := fun _ H' => Q .non H', rt := Q } (L2.start N vs) H) : FnG P w K mg base CX (k + 1) f fd ps sp := by
  obtain ⟨oc, od, dV, kV, doc, pm, an, cdv, ct, osl, rfl, lk, hcd, _, _⟩ := F.ex
  refine ⟨len, fun A outer s H args us vs Q E hr e0 hb r hsp => ?_⟩
  exact LamX.run_ofS (CX := CX) lk hcd S hr.r e0 hb r (len _ _ _ _ hsp) fun _ => hbody cdv A outer s H vs Q E (hr.deeper _) hsp
/-- a def by its body: nothing leaves it -/
theorem ok0 {x qual : Str} {params : Arguments} {body : List Stmt} {scope : Scope} {dvs : List V} {kws : List (Str × V)} {N : List Str} (F : FunD K x qual params body scope dvs kws f fd) (S : FnScope N ps scope) (len : ∀ vs H Q E, sp vs H Q E → vs.length = ps.length)
    (hbody : ∀ (cdv : Value) (A : Around) (outer : List Env) (s : Shared) (H : Hp) (vs : List V) (Q : VK) (E : XK), Rm k (A.deeper (envOfC qual scope s.heap.objs.size f cdv)) → sp vs H Q E →
      ∃ t, PSs (cxOf CX0 P w K mg base N qual scope f cdv A outer s H E).nox body t ∧ t { nx := fun _ H' => Q .non H', rt := Q } (L2.start N vs) H) : FnG P w K mg base CX0 (k + 1) f fd ps sp :=
  okX F S len fun cdv A outer s H vs Q E hr h => by
    obtain ⟨t, ht, q⟩ := hbody cdv A outer s H vs Q E hr h
    exact ⟨t, ht.nox, q⟩
end

section
variable {X : Cx} {CX : CXT} {k : Nat} {f C : Addr} {fd : FuncData} {ps : List Str} {sp : Sp} {dvs : List V} {ds : List Value} {E : XK} {x m : Str} {p pos apos : Pos} {e o : Expr} {es : List Expr} {ta : TE} {t : TA}
/-- the callee runs, at any place that stands for this body's -/
theorem run_g {pins : List (Addr × Obj)} {σ : L2.St} {H : Hp} {s : Shared} {Q : VK} {us : List Value} {vs : List V} {A : Around} (F : FnG X.prog X.w X.K X.mg X.base CX k f fd ps sp) (hr : Rm k A) (e0 : Env0 X.prog X.w X.K X.mg X.base A X.stack s H) (hb : Binds X.K fd ps ds) (hd : Vals dvs ds) (hx : Passes CX X E)
    (I : Inv X pins σ H s) (r : Vals vs us) (h : sp (vs ++ dvs) H Q E) : wpAny (model X.prog X.w) A (call (.ref f) us) (EP X pins σ Q) X.xe s := by
  have r2 : Vals (vs ++ dvs) (us ++ ds) := r.append hd
  have hl : (us ++ ds).length = ps.length := by
    have := F.len _ _ _ _ h
    rw [← this]
    exact r2.length.symm
  have go := F.run A X.stack s H ⟨us, []⟩ (us ++ ds) (vs ++ dvs) Q E hr e0 (hb s us I.kIn hl) r2 h
  refine wpAny_call (codeAny_mono go fun r s' hq => ?_)
  match r, hq with
  | .error er, hq => exact hx pins σ H s er s' I hq
  | .ok (.ret u), hq => exact I.after hq
  | .ok .next, hq => exact False.elim hq
  | .ok .brk, hq => exact False.elim hq
  | .ok .cont, hq => exact False.elim hq
/-- f(e, ..) -/
theorem pe_callG (F : FnG X.prog X.w X.K X.mg X.base CX k f fd ps sp) (hr : Rm k X.A) (hg : Gl X x) (hm : X.mg x = some (.ref f)) (hk : PySem.W.keepIn X.K (.ref f) = true) (hb : Binds X.K fd ps ds) (hd : Vals dvs ds) (hx : Passes CX X E)
    (ha : PA X (e :: es) t) (hdb : (x == ("__debug__" : Str)) = false := by decide) (he : starEach (e :: es) X.env = (false, eval e X.env) :: starEach es X.env := by rfl) (hpl : (backTo pos (starEach es X.env)).any (·.1) = false := by rfl) :
    PE X (.Call (.Name x p) (e :: es) [] pos) (tCall sp dvs E t) :=
  ⟨fun pins s σ H Q I h => wpAny_Call_Name_kw (ld_glob I hg hm (PySem.W.callWith_K (h₀ := X.base) I.ok.mod.kin hk (thn (ha.run pos pins s σ H _ I h) fun us s1 ⟨vs, H1, I1, r, q⟩ => ⟨I1.kIn, run_g F hr I1.env0 hb hd hx I1 r q⟩) he hpl) hdb)⟩
theorem pe_call0G (F : FnG X.prog X.w X.K X.mg X.base CX k f fd ps sp) (hr : Rm k X.A) (hg : Gl X x) (hm : X.mg x = some (.ref f)) (hk : PySem.W.keepIn X.K (.ref f) = true) (hb : Binds X.K fd ps ds) (hd : Vals dvs ds) (hx : Passes CX X E)
    (hdb : (x == ("__debug__" : Str)) = false := by decide) : PE X (.Call (.Name x p) [] [] pos) (tCall sp dvs E tNil) :=
  ⟨fun pins s σ H Q I h => wpAny_Call_Name_kw (ld_glob I hg hm (PySem.W.callWith_K0 I.kIn hk (run_g (us := []) F hr I.env0 hb hd hx I .nil h)) hdb)⟩
/-- o.m(e, ..) -/
theorem pe_methG {pl : Sem Bool} (he : PE X o ta) (c : Cls X.K C) (hm : Meth X.K C m f) (F : FnG X.prog X.w X.K X.mg X.base CX k f fd ps sp) (hr : Rm k X.A) (hb : Binds X.K fd ps ds) (hd : Vals dvs ds) (hx : Passes CX X E) (ha : PA X (e :: es) t)
    (hst : starEach (e :: es) X.env = (false, eval e X.env) :: starEach es X.env := by rfl) (hpl : (backTo pos (starEach es X.env)).any (·.1) = false := by rfl)
    (ht : eval (.Call (.Attribute o m apos) (e :: es) [] pos) X.env = (do
      let ov ← eval o X.env
      standAt apos.atName
      let (f, first) ← holding [ov] (getMethod ov m pl)
      callWith pos f first (backTo pos (starEach (e :: es) X.env)) (backToKw pos (keywordEach [] X.env))) := by rfl) :
    PE X (.Call (.Attribute o m apos) (e :: es) [] pos) (tMeth C m sp dvs E ta t) := by
  refine ⟨fun pins s σ H Q I h => PySem.W.methodCall_KW (pl := pl) (thn (he.run pins s σ H _ I h) fun u s1 hh => ?_) ht⟩
  obtain ⟨x, H1, I1, rx, a, dx, fs, rfl, ea, l, q⟩ := hh
  obtain rfl : u = Value.ref a := rx
  exact getmeth_ok I1 ea c hm l (PySem.W.callWith_K (first := [.ref a]) (h₀ := X.base) I.ok.mod.kin hm.kp (thn (ha.run pos pins s1 σ H1 _ I1 q) fun us s2 ⟨vs, H2, I2, r, q2⟩ =>
    ⟨I2.kIn, run_g (us := .ref a :: us) (vs := .ref a :: vs) F hr I2.env0 hb hd hx I2 (.cons rfl r) q2⟩) hst hpl)
theorem pe_meth0G {pl : Sem Bool} (he : PE X o ta) (c : Cls X.K C) (hm : Meth X.K C m f) (F : FnG X.prog X.w X.K X.mg X.base CX k f fd ps sp) (hr : Rm k X.A) (hb : Binds X.K fd ps ds) (hd : Vals dvs ds) (hx : Passes CX X E)
    (ht : eval (.Call (.Attribute o m apos) [] [] pos) X.env = (do
      let ov ← eval o X.env
      standAt apos.atName
      let (f, first) ← holding [ov] (getMethod ov m pl)
      callWith pos f first (backTo pos (starEach [] X.env)) (backToKw pos (keywordEach [] X.env))) := by rfl) :
    PE X (.Call (.Attribute o m apos) [] [] pos) (tMeth C m sp dvs E ta tNil) := by
  refine ⟨fun pins s σ H Q I h => PySem.W.methodCall_KW (pl := pl) (thn (he.run pins s σ H _ I h) fun u s1 hh => ?_) ht⟩
  obtain ⟨x, H1, I1, rx, a, dx, fs, rfl, ea, l, q⟩ := hh
  obtain rfl : u = Value.ref a := rx
  exact getmeth_ok I1 ea c hm l (PySem.W.callWith_K0 (first := [.ref a]) I1.kIn hm.kp (run_g (us := [.ref a]) (vs := [.ref a]) F hr I1.env0 hb hd hx I1 (.cons rfl .nil) q))
/-- C(e, ..): a new instance, then its __init__ -/
theorem run_makeG {pins : List (Addr × Obj)} {σ : L2.St} {H : Hp} {s : Shared} {Q : VK} {us : List Value} {vs : List V} (M : Mk X.K C f) (F : FnG X.prog X.w X.K X.mg X.base CX k f fd ps sp) (hr : Rm (k + 1) X.A) (hb : Binds X.K fd ps ds) (hd : Vals dvs ds)
    (hx : Passes CX X E) (I : Inv X pins σ H s) (r : Vals vs us)
    (h : ∀ x dx, H x = none → H dx = none → dx ≠ x → sp (.ref x :: (vs ++ dvs)) (upd (upd H dx (.own x)) x (.ins C dx [])) (fun v H2 => v = .non ∧ Q (.ref x) H2) E) :
    wpAny (model X.prog X.w) X.A (call (.ref C) us) (EP X pins σ Q) X.xe s := by
  have n1 : H (s.heap.objs.size + 1) = none := I.hok.fresh (Nat.le_succ _)
  have n0 : H s.heap.objs.size = none := I.hok.fresh (Nat.le_refl _)
  have hq := h (s.heap.objs.size + 1) s.heap.objs.size n1 n0 (Nat.ne_of_lt (Nat.lt_succ_self _))
  have I2 := Inv.made (C := C) I
  have r2 : Vals (V.ref (s.heap.objs.size + 1) :: (vs ++ dvs)) (Value.ref (s.heap.objs.size + 1) :: (us ++ ds)) := .cons rfl (r.append hd)
  have hl : (Value.ref (s.heap.objs.size + 1) :: us ++ ds).length = ps.length := r2.length.symm.trans (F.len _ _ _ _ hq)
  have go := F.run (X.A.under (.builtin "type.__call__" ⟨.ref C :: us, []⟩)) X.stack _ _ ⟨Value.ref (s.heap.objs.size + 1) :: us, []⟩ (Value.ref (s.heap.objs.size + 1) :: (us ++ ds)) _ _ E (hr.make C us [])
    (I2.env0.make C us []) (hb _ (Value.ref (s.heap.objs.size + 1) :: us) I2.kIn hl) r2 hq
  refine wpAny_call (make_map (f := f) I.kIn M.makes M.init (beq_iff_eq.mp M.fn) (codeAny_mono go fun r s' hq' => ?_))
  match r, hq' with
  | .error er, hq' => exact hx pins σ _ _ er s' I2 hq'
  | .ok (.ret u), hq' =>
    obtain ⟨v, H', I3, rv, rfl, q3⟩ := I2.after hq'
    exact ⟨rv, ⟨V.ref (s.heap.objs.size + 1), H', I3, rfl, q3⟩⟩
  | .ok .next, hq' => exact False.elim hq'
  | .ok .brk, hq' => exact False.elim hq'
  | .ok .cont, hq' => exact False.elim hq'
theorem pe_makeG (M : Mk X.K C f) (F : FnG X.prog X.w X.K X.mg X.base CX k f fd ps sp) (hr : Rm (k + 1) X.A) (hg : Gl X x) (hm : X.mg x = some (.ref C)) (hb : Binds X.K fd ps ds) (hd : Vals dvs ds) (hx : Passes CX X E)
    (ha : PA X (e :: es) t) (hdb : (x == ("__debug__" : Str)) = false := by decide) (he : starEach (e :: es) X.env = (false, eval e X.env) :: starEach es X.env := by rfl) (hpl : (backTo pos (starEach es X.env)).any (·.1) = false := by rfl) :
    PE X (.Call (.Name x p) (e :: es) [] pos) (tMake C sp dvs E t) :=
  ⟨fun pins s σ H Q I h => wpAny_Call_Name_kw (ld_glob I hg hm (PySem.W.callWith_K (h₀ := X.base) I.ok.mod.kin M.kp (thn (ha.run pos pins s σ H _ I h) fun us s1 ⟨vs, H1, I1, r, q⟩ => ⟨I1.kIn, run_makeG M F hr hb hd hx I1 r q⟩) he hpl) hdb)⟩
theorem pe_make0G (M : Mk X.K C f) (F : FnG X.prog X.w X.K X.mg X.base CX k f fd ps sp) (hr : Rm (k + 1) X.A) (hg : Gl X x) (hm : X.mg x = some (.ref C)) (hb : Binds X.K fd ps ds) (hd : Vals dvs ds) (hx : Passes CX X E)
    (hdb : (x == ("__debug__" : Str)) = false := by decide) : PE X (.Call (.Name x p) [] [] pos) (tMake C sp dvs E tNil) :=
  ⟨fun pins s σ H Q I h => wpAny_Call_Name_kw (ld_glob I hg hm (PySem.W.callWith_K0 I.kIn M.kp (run_makeG (us := []) M F hr hb hd hx I .nil h)) hdb)⟩
end
end LL

set_option Elab.async false
set_option linter.all false
set_option maxRecDepth 100000
set_option maxHeartbeats 2000000
/-! LLOwn: operators, ==, !=, str, repr of instances of own classes; repr of data. -/
namespace LL
open PySem PySem.Spec PyProof.Rows L2
/-! ### != by an own __eq__ -/
section
variable {prog : Program} {w : World} {A : Around} {E : Value → Shared → Prop} {s : Shared} {K : PySem.W.Frag} {x C f : Addr} {ox : Obj} {od : Option Obj} {b tb : Value}
/-- a special method that is a built-in's, bound if it can be -/
theorem ifBound_b {M : Model} {name : Str} {id : String} {args : List Value} {Q : Option Value → Shared → Prop} (X : K.In s.heap) (I : PySem.W.InstAt s.heap x ox C od) (hs : PySem.W.findIn K (.ref C) name = some (some (.builtin id)))
    (hb : ∀ self, bindSpecial (.builtin id) self = pure (.builtin id, [self])) (h : wpAny M A (call (.builtin id) (.ref x :: args)) (fun v => Q (some v)) E s) : wpAny M A (callSpecialIfBound? (.ref x) name args) Q E s := by
  have fin : wpAny M A (call (.builtin id) ([.ref x] ++ args) >>= fun v => pure (some v)) Q E s := wpAny_bind (thn h fun _ _ z => wpAny_pure z)
  have bnd : PySem.W.Looks M s.heap (bindSpecial (.builtin id) (.ref x)) (.builtin id, [.ref x]) := PySem.W.Looks.of_pure (hb _)
  unfold callSpecialIfBound? bindSpecialIfBound?
  refine wpAny_holding (wpAny_bind (wpAny_bind (wpAny_bind (I.type.here ((PySem.W.looks_findIn X hs).here ?_)))))
  refine wpAny_bind (wpAny_askSetting (wpAny_ite ?_))
  split
  · exact wpAny_bind (bnd.here (wpAny_pure (by exact fin)))
  · exact wpAny_tryCatch (wpAny_bind (bnd.here (wpAny_pure (by exact fin))))
open Builtin in
theorem ne_own {Q : Value → Shared → Prop} (hu : A.units + 1 < cLine) (X : K.In s.heap) (I : PySem.W.InstAt s.heap x ox C od) (hb : PySem.W.Looks (model prog w) s.heap (typeOf b) tb) (hn : PySem.W.notFirst K C tb = true) (hm : PySem.W.mroIn K C (.type "object") = some true)
    (hs : PySem.W.findIn K (.ref C) "__eq__" = some (some (.ref f))) (hf : PySem.W.isFn K (.ref f) = true) (hne : PySem.W.findIn K (.ref C) "__ne__" = some (some (.builtin "object.__ne__")))
    (h : wpAny (model prog w) A.in1 (call (.ref f) [.ref x, b]) (fun v s' => ∃ c, v = .bool c ∧ Q (.bool (!c)) s') E s) : wpAny (model prog w) A (richCompare .NotEq (.ref x) b) Q E s := by
  have one : wpAny (model prog w) A (tryCompare (.ref x) (cmpInfo .NotEq).2.1 b) (fun r s' => ∃ v, r = some v ∧ Q v s') E s := by
    unfold tryCompare
    refine wpAny_bind (ifBound_b (name := "__ne__") X I hne PySem.F.slot_tuple_iterator_ne.bind ?_)
    refine wpAny_call (codeAny_call_builtin PySem.F.slot_tuple_iterator_ne.plain PySem.F.cmpEntry_ne (PySem.W.check_slot PySem.F.cmpKind_ne PySem.F.cmpSplit_ne (I.type.andThen (PySem.W.looks_mroIn X hm)) (PySem.F.cmpArgs_ne _ _) ?_))
    unfold Builtin.«object.__ne__»
    refine wpAny_bind (m := slotArgs "__ne__" 1 _) (wpAny_pure ?_)
    refine wpAny_bind (m := cRoomFor _ _) (wpAny_cRoomFor hu ?_)
    refine wpAny_bind (m := callSpecialIfBound? (.ref x) (Str.ofString "__eq__") _) (PySem.W.ifBound_K X I hs hf (thn h fun r s' hr => ?_))
    obtain ⟨c, rfl, hq⟩ := hr
    refine wpAny_bind (wpAny_truthy_bool (wpAny_pure ?_))
    exact wpAny_pure ⟨_, rfl, hq⟩
  unfold richCompare
  simp only [oneThing_ref]
  refine wpAny_holding (wpAny_bind (wpAny_cRoomFor (by omega) ?_))
  refine wpAny_bind (I.type.here (wpAny_bind (hb.here ?_)))
  split
  · rename_i q
    have e : PySem.W.subIn K tb (.ref C) = some false := by
      rcases Bool.or_eq_true_iff.mp hn with e | e
      · rw [beq_iff_eq.mp e] at q
        simp at q
      · exact beq_iff_eq.mp e
    refine wpAny_bind ((PySem.W.looks_subIn X e).here ?_)
    simp only [Bool.false_eq_true, if_false]
    refine wpAny_bind (thn one fun r s' z => ?_)
    obtain ⟨v, rfl, hq⟩ := z
    exact wpAny_pure hq
  · refine wpAny_bind (wpAny_pure ?_)
    simp only [Bool.false_eq_true, if_false]
    refine wpAny_bind (thn one fun r s' z => ?_)
    obtain ⟨v, rfl, hq⟩ := z
    exact wpAny_pure hq
end
/-! ### rules -/
section
variable {X : Cx} {CX : CXT} {k : Nat} {f C : Addr} {fd : FuncData} {ps : List Str} {sp : Sp} {E : XK}
/-- the object's own record -/
theorem inst_of {pins : List (Addr × Obj)} {σ : L2.St} {H : Hp} {s : Shared} {a dx : Addr} {fs : List (Str × V)} (I : Inv X pins σ H s) (e : H a = some (.ins C dx fs)) : ∃ od, PySem.W.InstAt s.heap a (PySem.W.instObj C dx) C (some od) := by
  obtain ⟨mA, O, _⟩ := ins_get I.hok e
  obtain ⟨od, J, _⟩ := O.look
  exact ⟨od, J⟩
/-- a number's operator that the class at C has as a def -/
structure OpAt (K : PySem.W.Frag) (C : Addr) (op : Operator) (f : Addr) : Prop where
  first : PySem.W.selfFirst K C = true
  at_ : PySem.W.findIn K (.ref C) (PySem.dunder op.info.2) = some (some (.ref f))
  fn : PySem.W.isFn K (.ref f) = true
/-- .. asked with an int at the right -/
structure OpInt (K : PySem.W.Frag) (C : Addr) (op : Operator) : Prop where
  back : PySem.W.findIn K (.ref C) (PySem.dunderR op.info.2) = some none
  io : ∃ fo, PySem.W.findIn K (.type "int") (PySem.dunder op.info.2) = some fo
  ir : ∃ ro, PySem.W.findIn K (.type "int") (PySem.dunderR op.info.2) = some ro
  sub : PySem.W.subIn K (.type "int") (.ref C) = some false
/-- x op y: both of the class at C; or y an int -/
def rBin (C : Addr) (sp : Sp) (E : XK) : R2 := fun x y H Q => ∃ a dx fs, x = .ref a ∧ H a = some (.ins C dx fs) ∧ ((∃ b dy gs, y = .ref b ∧ H b = some (.ins C dy gs)) ∨ ∃ i, y = .int i) ∧ sp [x, y] H Q E
theorem op_bin {op : Operator} (O : OpAt X.K C op f) (OI : OpInt X.K C op) (F : FnG X.prog X.w X.K X.mg X.base CX k f fd ps sp) (hr : Rm k X.A) (hb : Binds X.K fd ps []) (hx : Passes CX X E) : OpR X (binaryOp op) (rBin C sp E) := by
  intro pins s σ H x y v u Q I rx ry h
  obtain ⟨a, dx, fs, rfl, ha, hy, q⟩ := h
  cases (show v = Value.ref a from rx)
  obtain ⟨od, J⟩ := inst_of I ha
  obtain ⟨m, hF⟩ := I.fr
  have go : wpAny (model X.prog X.w) X.A (call (.ref f) [.ref a, u]) (PySem.W.CmpBack (EP X pins σ Q)) X.xe s := by
    refine thn (run_g (us := [.ref a, u]) (vs := [.ref a, y]) (dvs := []) F hr I.env0 hb .nil hx I (.cons rfl (.cons ry .nil)) q) fun w s' z => ?_
    obtain ⟨z', H', I', rz, qz⟩ := z
    exact SlX.cmpback rz ⟨z', H', I', rz, qz⟩
  rcases hy with ⟨b, dy, gs, rfl, hb⟩ | ⟨i, rfl⟩
  · cases (show u = Value.ref b from ry)
    obtain ⟨od', J'⟩ := inst_of I hb
    exact PySem.W.binop_K hF I.ok.mod.kin J J'.type O.first O.at_ O.fn go
  · obtain ⟨t, rfl⟩ := (show ∃ t, u = Value.int i t from ry)
    obtain ⟨fo, h1⟩ := OI.io
    obtain ⟨ro, h2⟩ := OI.ir
    exact PySem.W.ksp_binT (T := "int") hF I.ok.mod.kin J (by rfl) O.first O.at_ O.fn OI.back (.inl rfl) h1 h2 OI.sub go
/-- -x -/
def rNeg (C : Addr) (sp : Sp) (E : XK) : V → Hp → VK → Prop := fun x H Q => ∃ a dx fs, x = .ref a ∧ H a = some (.ins C dx fs) ∧ sp [x] H Q E
theorem un_own (hs : PySem.W.findIn X.K (.ref C) "__neg__" = some (some (.ref f))) (hf : PySem.W.isFn X.K (.ref f) = true) (F : FnG X.prog X.w X.K X.mg X.base CX k f fd ps sp) (hr : Rm k X.A) (hb : Binds X.K fd ps []) (hx : Passes CX X E) : UnR X (unaryOp .USub) (rNeg C sp E) := by
  intro pins s σ H x v Q I rx h
  obtain ⟨a, dx, fs, rfl, ha, q⟩ := h
  cases (show v = Value.ref a from rx)
  obtain ⟨od, J⟩ := inst_of I ha
  obtain ⟨m, hF⟩ := I.fr
  exact PySem.W.ksp_neg hF I.ok.mod.kin J hs hf (run_g (us := [.ref a]) (vs := [.ref a]) (dvs := []) F hr I.env0 hb .nil hx I (.cons rfl .nil) q)
/-- x == y by x's own __eq__, whatever y is -/
def rEqO (K : PySem.W.Frag) (C : Addr) (sp : Sp) (E : XK) : R2 := fun x y H Q => ∃ a dx fs t, x = .ref a ∧ H a = some (.ins C dx fs) ∧ TyX K H y t ∧ PySem.W.notFirst K C t = true ∧ sp [x, y] H Q E
theorem op_eqO (hs : PySem.W.findIn X.K (.ref C) "__eq__" = some (some (.ref f))) (hf : PySem.W.isFn X.K (.ref f) = true) (F : FnG X.prog X.w X.K X.mg X.base CX k f fd ps sp) (hr : Rm k X.A) (hb : Binds X.K fd ps []) (hx : Passes CX X E) : OpR X (compareOp .Eq) (rEqO X.K C sp E) := by
  intro pins s σ H x y v u Q I rx ry h
  obtain ⟨a, dx, fs, t, rfl, ha, ty, hn, q⟩ := h
  cases (show v = Value.ref a from rx)
  obtain ⟨od, J⟩ := inst_of I ha
  obtain ⟨m, hF⟩ := I.fr
  obtain ⟨P, Z, hp, _⟩ := kit_of I ry ty
  refine PySem.W.cmp_K (op := .Eq) hr.r.units0 hF I.ok.mod.kin J (Z.ty _ _ I.kIn hp) hn hs hf ?_
  refine thn (run_g (us := [.ref a, u]) (vs := [.ref a, y]) (dvs := []) F hr I.env0 hb .nil hx I (.cons rfl (.cons ry .nil)) q) fun w s' z => ?_
  obtain ⟨z', H', I', rz, qz⟩ := z
  exact SlX.cmpback rz ⟨z', H', I', rz, qz⟩
/-- x != y by x's own __eq__ -/
def rNeO (K : PySem.W.Frag) (C : Addr) (sp : Sp) (E : XK) : R2 := fun x y H Q => ∃ a dx fs t, x = .ref a ∧ H a = some (.ins C dx fs) ∧ TyX K H y t ∧ PySem.W.notFirst K C t = true ∧ sp [x, y] H (fun z H' => ∃ c, z = .bl c ∧ Q (.bl (!c)) H') E
theorem op_neO (hs : PySem.W.findIn X.K (.ref C) "__eq__" = some (some (.ref f))) (hf : PySem.W.isFn X.K (.ref f) = true) (hne : PySem.W.findIn X.K (.ref C) "__ne__" = some (some (.builtin "object.__ne__"))) (hm : PySem.W.mroIn X.K C (.type "object") = some true)
    (F : FnG X.prog X.w X.K X.mg X.base CX k f fd ps sp) (hr : Rm (k + 1) X.A) (hb : Binds X.K fd ps []) (hx : Passes CX X E) : OpR X (compareOp .NotEq) (rNeO X.K C sp E) := by
  intro pins s σ H x y v u Q I rx ry h
  obtain ⟨a, dx, fs, t, rfl, ha, ty, hn, q⟩ := h
  cases (show v = Value.ref a from rx)
  obtain ⟨od, J⟩ := inst_of I ha
  obtain ⟨P, Z, hp, _⟩ := kit_of I ry ty
  have hu := hr.r.units
  refine ne_own (by omega) I.kIn J (Z.ty _ _ I.kIn hp) hn hm hs hf hne ?_
  refine thn (run_g (us := [.ref a, u]) (vs := [.ref a, y]) (dvs := []) F hr.in1 I.env0.in1 hb .nil hx I (.cons rfl (.cons ry .nil)) q) fun w s' z => ?_
  obtain ⟨z', H', I', rz, c, rfl, qz⟩ := z
  cases (show w = Value.bool c from rz)
  exact ⟨c, rfl, .bl (!c), H', I', rfl, qz⟩
/-- repr(x), str(x) by the class's own def -/
def rShow (C : Addr) (sp : Sp) (E : XK) : List V → Hp → VK → Prop := fun xs H Q => ∃ a dx fs, xs = [.ref a] ∧ H a = some (.ins C dx fs) ∧ sp [.ref a] H (fun z H' => ∃ y, z = .str y ∧ Q z H') E
theorem call_reprO (hs : PySem.W.findIn X.K (.ref C) "__repr__" = some (some (.ref f))) (hf : PySem.W.isFn X.K (.ref f) = true) (F : FnG X.prog X.w X.K X.mg X.base CX k f fd ps sp) (hr : Rm (k + 1) X.A) (hb : Binds X.K fd ps []) (hx : Passes CX X E) : CallR X (.builtin "repr") (rShow C sp E) := by
  intro pins s σ H xs us Q I r h
  obtain ⟨a, dx, fs, rfl, ha, q⟩ := h
  obtain ⟨u, rfl, ru⟩ := r.one
  cases (show u = Value.ref a from ru)
  obtain ⟨od, J⟩ := inst_of I ha
  obtain ⟨m, hF⟩ := I.fr
  refine PySem.W.repr_K hr.in1.r.units0 hF I.ok.mod.kin J hs hf (thn (run_g (us := [.ref a]) (vs := [.ref a]) (dvs := []) F hr.in1 I.env0.in1 hb .nil hx I (.cons rfl .nil) q) fun w s' z => ?_)
  obtain ⟨z', H', I', rz, y, rfl, qz⟩ := z
  obtain ⟨t, rfl⟩ := (show ∃ t, w = Value.str y t from rz)
  exact ⟨.str y, H', I', ⟨t, rfl⟩, qz⟩
theorem call_strO (hs : PySem.W.findIn X.K (.ref C) "__str__" = some (some (.ref f))) (hf : PySem.W.isFn X.K (.ref f) = true) (F : FnG X.prog X.w X.K X.mg X.base CX k f fd ps sp) (hr : Rm (k + 2) X.A) (hb : Binds X.K fd ps []) (hx : Passes CX X E) : CallR X (.type "str") (rShow C sp E) := by
  intro pins s σ H xs us Q I r h
  obtain ⟨a, dx, fs, rfl, ha, q⟩ := h
  obtain ⟨u, rfl, ru⟩ := r.one
  cases (show u = Value.ref a from ru)
  obtain ⟨od, J⟩ := inst_of I ha
  have hr2 : Rm k X.A.in1.in1 := (show Rm (k + 1) X.A.in1 from hr.in1).in1
  refine PySem.W.kso_call hr2.r.units0 I.kIn J hs hf (thn (run_g (us := [.ref a]) (vs := [.ref a]) (dvs := []) F hr2 I.env0.in1.in1 hb .nil hx I (.cons rfl .nil) q) fun w s' z => ?_)
  obtain ⟨z', H', I', rz, y, rfl, qz⟩ := z
  obtain ⟨t, rfl⟩ := (show ∃ t, w = Value.str y t from rz)
  exact ⟨.str y, H', I', ⟨t, rfl⟩, qz⟩
/-- repr of data: ints, texts, bools, None, lists and tuples of these -/
def rRepD (K : PySem.W.Frag) : List V → Hp → VK → Prop := fun xs H Q => ∃ a d, xs = [.ref a] ∧ Dp K H (.ref a) d ∧ d.showable = true ∧ d.hasDict = false ∧ d.depth ≤ 40 ∧ d.shown.length ≤ sizeLine ∧ Q (.str d.shown) H
theorem call_reprD (hr : Rm k X.A) : CallR X (.builtin "repr") (rRepD X.K) := by
  intro pins s σ H xs us Q I r h
  obtain ⟨a, d, rfl, hd, hs, hn, hp, hz, q⟩ := h
  obtain ⟨u, rfl, ru⟩ := r.one
  obtain ⟨as, rd⟩ := Dp.reads I d _ _ hd ru
  cases (show u = Value.ref a from ru)
  have hu := hr.r.units
  exact repr_of_reads' rd hs (fun z => by rw [hn] at z; cases z) hr.g (by omega) (fun _ _ e => e) (fun h' u tk hk => ⟨.str d.shown, H, I.kept hk, ⟨_, rfl⟩, q⟩) hz
end
end LL

set_option Elab.async false
set_option linter.all false
set_option maxRecDepth 100000
set_option maxHeartbeats 2000000
/-! LLCall: a def, a method, a maker, a property, each as one fact; some operators. -/
namespace LL
open PySem PySem.Spec PyProof.Rows L2
section
variable (P : Program) (w : World) (K : PySem.W.Frag) (mg : Str → Option Value) (base : Heap) (CX : CXT) (k : Nat)
/-- the module's name x is a def that keeps sp; dvs fill up -/
structure Fnc (x : Str) (dvs : List V) (sp : Sp) : Prop where
  ex : ∃ (f : Addr) (fd : FuncData) (ps : List Str) (ds : List Value), mg x = some (.ref f) ∧ PySem.W.keepIn K (.ref f) = true ∧ Binds K fd ps ds ∧ Vals dvs ds ∧ FnG P w K mg base CX k f fd ps sp
/-- the class at C has the method m -/
structure Mth (C : Addr) (m : Str) (dvs : List V) (sp : Sp) : Prop where
  cl : Cls K C
  ex : ∃ (f : Addr) (fd : FuncData) (ps : List Str) (ds : List Value), Meth K C m f ∧ Binds K fd ps ds ∧ Vals dvs ds ∧ FnG P w K mg base CX k f fd ps sp
/-- the module's name x is the class at C, made by an __init__ that keeps sp -/
structure Mkr (x : Str) (C : Addr) (dvs : List V) (sp : Sp) : Prop where
  ex : ∃ (f : Addr) (fd : FuncData) (ps : List Str) (ds : List Value), Mk K C f ∧ mg x = some (.ref C) ∧ Binds K fd ps ds ∧ Vals dvs ds ∧ FnG P w K mg base CX k f fd ps sp
/-- the class at C has the property m -/
structure Prp (C : Addr) (m : Str) (sp : Sp) : Prop where
  cl : Cls K C
  ex : ∃ (p g : Addr) (fd : FuncData) (ps : List Str), PropOf K C m p g ∧ Binds K fd ps [] ∧ FnG P w K mg base CX k g fd ps sp
end
section
variable {X : Cx} {CX : CXT} {k : Nat} {C : Addr} {sp : Sp} {dvs : List V} {E : XK} {x m : Str} {p pos apos : Pos} {e o : Expr} {es : List Expr} {ta : TE} {t : TA}
theorem pe_fn (G : Fnc X.prog X.w X.K X.mg X.base CX k x dvs sp) (hr : Rm k X.A) (hx : Passes CX X E) (ha : PA X (e :: es) t) (hg : Gl X x := by rfl) (hdb : (x == ("__debug__" : Str)) = false := by decide)
    (he : starEach (e :: es) X.env = (false, eval e X.env) :: starEach es X.env := by rfl) (hpl : (backTo pos (starEach es X.env)).any (·.1) = false := by rfl) : PE X (.Call (.Name x p) (e :: es) [] pos) (tCall sp dvs E t) := by
  obtain ⟨f, fd, ps, ds, hm, hk, hb, hd, F⟩ := G.ex
  exact pe_callG F hr hg hm hk hb hd hx ha hdb he hpl
theorem pe_fn0 (G : Fnc X.prog X.w X.K X.mg X.base CX k x dvs sp) (hr : Rm k X.A) (hx : Passes CX X E) (hg : Gl X x := by rfl) (hdb : (x == ("__debug__" : Str)) = false := by decide) : PE X (.Call (.Name x p) [] [] pos) (tCall sp dvs E tNil) := by
  obtain ⟨f, fd, ps, ds, hm, hk, hb, hd, F⟩ := G.ex
  exact pe_call0G F hr hg hm hk hb hd hx hdb
theorem pe_mt {pl : Sem Bool} (G : Mth X.prog X.w X.K X.mg X.base CX k C m dvs sp) (hr : Rm k X.A) (hx : Passes CX X E) (he : PE X o ta) (ha : PA X (e :: es) t)
    (hst : starEach (e :: es) X.env = (false, eval e X.env) :: starEach es X.env := by rfl) (hpl : (backTo pos (starEach es X.env)).any (·.1) = false := by rfl)
    (ht : eval (.Call (.Attribute o m apos) (e :: es) [] pos) X.env = (do
      let ov ← eval o X.env
      standAt apos.atName
      let (f, first) ← holding [ov] (getMethod ov m pl)
      callWith pos f first (backTo pos (starEach (e :: es) X.env)) (backToKw pos (keywordEach [] X.env))) := by rfl) : PE X (.Call (.Attribute o m apos) (e :: es) [] pos) (tMeth C m sp dvs E ta t) := by
  obtain ⟨f, fd, ps, ds, hm, hb, hd, F⟩ := G.ex
  exact pe_methG he G.cl hm F hr hb hd hx ha hst hpl ht
theorem pe_mt0 {pl : Sem Bool} (G : Mth X.prog X.w X.K X.mg X.base CX k C m dvs sp) (hr : Rm k X.A) (hx : Passes CX X E) (he : PE X o ta)
    (ht : eval (.Call (.Attribute o m apos) [] [] pos) X.env = (do
      let ov ← eval o X.env
      standAt apos.atName
      let (f, first) ← holding [ov] (getMethod ov m pl)
      callWith pos f first (backTo pos (starEach [] X.env)) (backToKw pos (keywordEach [] X.env))) := by rfl) : PE X (.Call (.Attribute o m apos) [] [] pos) (tMeth C m sp dvs E ta tNil) := by
  obtain ⟨f, fd, ps, ds, hm, hb, hd, F⟩ := G.ex
  exact pe_meth0G he G.cl hm F hr hb hd hx ht
theorem pe_mk (G : Mkr X.prog X.w X.K X.mg X.base CX k x C dvs sp) (hr : Rm (k + 1) X.A) (hx : Passes CX X E) (ha : PA X (e :: es) t) (hg : Gl X x := by rfl) (hdb : (x == ("__debug__" : Str)) = false := by decide)
    (he : starEach (e :: es) X.env = (false, eval e X.env) :: starEach es X.env := by rfl) (hpl : (backTo pos (starEach es X.env)).any (·.1) = false := by rfl) : PE X (.Call (.Name x p) (e :: es) [] pos) (tMake C sp dvs E t) := by
  obtain ⟨f, fd, ps, ds, M, hm, hb, hd, F⟩ := G.ex
  exact pe_makeG M F hr hg hm hb hd hx ha hdb he hpl
theorem pe_mk0 (G : Mkr X.prog X.w X.K X.mg X.base CX k x C dvs sp) (hr : Rm (k + 1) X.A) (hx : Passes CX X E) (hg : Gl X x := by rfl) (hdb : (x == ("__debug__" : Str)) = false := by decide) : PE X (.Call (.Name x p) [] [] pos) (tMake C sp dvs E tNil) := by
  obtain ⟨f, fd, ps, ds, M, hm, hb, hd, F⟩ := G.ex
  exact pe_make0G M F hr hg hm hb hd hx hdb
/-- e.m, a property -/
def tPr (C : Addr) (sp : Sp) (E : XK) (ta : TE) : TE := fun σ H Q => ta σ H fun x H1 => ∃ a dx fs, x = .ref a ∧ H1 a = some (.ins C dx fs) ∧ sp [.ref a] H1 Q E
theorem pe_pr (G : Prp X.prog X.w X.K X.mg X.base CX k C m sp) (hr : Rm (k + 1) X.A) (hx : Passes CX X.nox E) (he : PE X e ta) (hab : attributeBase e m X.env (eval e X.env) = eval e X.env := by rfl) : PE X (.Attribute e m pos) (tPr C sp E ta) := by
  obtain ⟨p, g, fd, ps, hp, hb, F⟩ := G.ex
  refine ⟨fun pins s σ H Q I h => attr_of hab (thn (he.run pins s σ H _ I h) fun u s1 hh => ?_)⟩
  obtain ⟨x, H1, I1, rx, a, dx, fs, rfl, ea, q⟩ := hh
  obtain rfl : u = Value.ref a := rx
  obtain ⟨od, J⟩ := inst_of I1 ea
  have c := G.cl
  have hc : (PySem.W.clsIn X.K C).isSome = true := by
    obtain ⟨cd, hc, _⟩ := PySem.W.any_some c.hd
    rw [hc]
    rfl
  obtain ⟨rest, hrec⟩ := hp.rec_
  have I2 : Inv X pins σ H1 { s1 with toks := s1.toks + 1 } := I1.tok _
  have hl : ([Value.ref a] : List Value).length = ps.length := F.len _ _ _ _ q
  refine PySem.W.get_bind I1.kIn J (PySem.W.plainGet_of (c.get m)).1 (PySem.W.findObj_data hc hp.at_ hp.get hp.tak) (PySem.W.plainGet_of (c.get m)).2 (wpAny_call (PySem.W.prop_get (s := { s1 with toks := s1.toks + 1 }) I1.kIn hrec ?_))
  have go := F.run X.A.in1 X.stack { s1 with toks := s1.toks + 1 } H1 ⟨[.ref a], []⟩ [.ref a] [.ref a] Q E hr.in1 I2.env0.in1 (hb _ [.ref a] I2.kIn hl) (.cons rfl .nil) q
  refine codeAny_mono go fun r s' hq => ?_
  match r, hq with
  | .error er, hq => exact False.elim (hx pins σ H1 _ er s' (I2.wish _) hq)
  | .ok (.ret u), hq =>
    obtain ⟨v, H', I3, rv, q3⟩ := I2.after hq
    exact wpAny_of_eq (PySem.W.handedOut_of (handed_of rv)) ⟨v, H', I3, rv, q3⟩
  | .ok .next, hq => exact False.elim hq
  | .ok .brk, hq => exact False.elim hq
  | .ok .cont, hq => exact False.elim hq
/-! ### some operators -/
/-- // by any number but 0 -/
def CDivZ (_ j : Int) : Prop := j ≠ 0 ∧ j.natAbs.log2 < 9000
theorem op_fdivZ : OpR X (binaryOp .FloorDiv) (rI CDivZ fun i j => .int (i.fdiv j)) := opI fun _ _ _ _ _ _ _ hc q => floordiv_int hc.1 q (.inl (PyProof.noPylong_of_log2 hc.2))
theorem wide_divZ {i j : Int} {b : Nat} (h : j ≠ 0) (hb : j.natAbs < 2 ^ b) (h0 : 0 < b) (h9 : b ≤ 9000) : CDivZ i j := ⟨h, Nat.lt_of_lt_of_le (PySem.Flt.log2_lt_of h0 hb) h9⟩
end
/-! ### tests -/
theorem iteY {c : Bool} {A B : Prop} (h : c = true) (a : A) : if c = true then A else B := by
  rw [if_pos h]
  exact a
theorem iteN {c : Bool} {A B : Prop} (h : c = false) (b : B) : if c = true then A else B := by
  rw [if_neg (by rw [h]; exact Bool.false_ne_true)]
  exact b
theorem iteB {c : Bool} {A B : Prop} (h1 : c = true → A) (h2 : c = false → B) : if c = true then A else B := by
  cases c with
  | true => exact iteT (h1 rfl)
  | false => exact iteF (h2 rfl)
theorem dec_ne {i j : Int} (h : i ≠ j) : decide (V.int i = V.int j) = false := decide_eq_false fun z => h (V.int.inj z)
theorem dec_eq {i j : Int} (h : i = j) : decide (V.int i = V.int j) = true := decide_eq_true (by rw [h])
/-! ### heaps -/
/-- all that was tracked but p is as it was -/
def But (p : Addr) (H H' : Hp) : Prop := ∀ b o, H b = some o → b ≠ p → H' b = some o
theorem But.refl {p : Addr} {H : Hp} : But p H H := fun _ _ e _ => e
theorem But.trans {p : Addr} {H H1 H2 : Hp} (a : But p H H1) (b : But p H1 H2) : But p H H2 := fun c o e n => b c o (a c o e n) n
theorem But.of {p : Addr} {H H' : Hp} (a : Same H H') : But p H H' := fun c o e _ => a c o e
theorem same_upd {H : Hp} {p : Addr} {o : HO} (h : H p = none) : Same H (upd H p o) := fun b x e => by
  rw [upd_ne (ne_of_none e h)]
  exact e
theorem but_upd {H : Hp} {p : Addr} {o : HO} : But p H (upd H p o) := fun b x e n => by
  rw [upd_ne n]
  exact e
/-- what was new at p stands beside what was -/
theorem But.same {p : Addr} {H H' : Hp} (a : But p H H') (n : H p = none) : Same H H' := fun b o e => a b o e (ne_of_none e n)
theorem But.free {p : Addr} {H H' : Hp} (a : But p H H') {b : Addr} (hb : b ≠ p) (h : H' b = none) : H b = none := by
  cases q : H b with
  | none => rfl
  | some o =>
    rw [a b o q hb] at h
    cases h
end LL

set_option Elab.async false
set_option linter.all false
set_option maxRecDepth 100000
set_option maxHeartbeats 2000000
/-! LLData: what repr of data is, how long it is. -/
namespace LL
open PySem PySem.Spec PyProof.Rows L2
/-- signs as texts have them -/
def Asc (x : Str) : Prop := ∀ c ∈ x.cps.toList, c < 16 ^ 8
theorem asc_of (s : String) : Asc (Str.ofString s) := by
  intro c hc
  rw [signs_ofString] at hc
  obtain ⟨k, _, rfl⟩ := List.mem_map.mp hc
  have h : k.toNat < 1114112 := by
    have := k.valid
    rcases this with h | ⟨_, h⟩
    · exact Nat.lt_trans h (by decide)
    · exact h
  exact Nat.lt_trans h (by decide)
theorem Asc.app {x y : Str} (hx : Asc x) (hy : Asc y) : Asc (x ++ y) := by
  intro c hc
  rw [Str.cps_append, Array.toList_append] at hc
  rcases List.mem_append.mp hc with h | h
  · exact hx c h
  · exact hy c h
theorem textFrom_size : ∀ (ts : List Str) (k : Nat) (acc : Str), (textFrom k acc ts).length ≤ acc.length + piled ts
  | [], _, acc => Nat.le_add_right _ _
  | t :: r, k, acc => by
    have h := textFrom_size r (k + 1) (acc ++ (if k > 0 then ", " else "" : String) ++ t)
    have e : (((if k > 0 then ", " else "" : String) : Str)).length ≤ 2 := by split <;> decide +kernel
    rw [strLen_append, strLen_append] at h
    rw [piled_cons]
    show (textFrom (k + 1) _ r).length ≤ _
    omega
theorem listText_size (ts : List Str) : (listText ts).length ≤ piled ts + 2 := by
  have h := textFrom_size ts 0 "["
  unfold listText
  rw [strLen_append]
  have e1 : ((("[" : String) : Str)).length = 1 := rfl
  have e2 : ((("]" : String) : Str)).length = 1 := rfl
  omega
mutual
/-- a bound on the signs that are shown -/
def cost : PyData → Nat
  | .none => 5
  | .bool _ => 5
  | .int _ => 1930
  | .str x => 10 * x.length + 2
  | .list xs => costAll xs + 2
  | .tuple xs => costAll xs + 2
  | .dict _ => 0
def costAll : List PyData → Nat
  | [] => 0
  | x :: xs => cost x + 2 + costAll xs
end
mutual
/-- data without dicts that repr can show -/
def Shw : PyData → Prop
  | .none => True
  | .bool _ => True
  | .int i => i.natAbs.log2 < 1920
  | .str x => Asc x
  | .list xs => ShwAll xs
  | .tuple xs => ShwAll xs
  | .dict _ => False
def ShwAll : List PyData → Prop
  | [] => True
  | x :: xs => Shw x ∧ ShwAll xs
end
mutual
theorem Shw.all : ∀ d : PyData, Shw d → d.shown.length ≤ cost d ∧ d.showable = true ∧ d.hasDict = false
  | .none, _ => ⟨by simp only [PyData.shown, cost]; decide +kernel, by simp only [PyData.showable], by simp only [PyData.hasDict]⟩
  | .bool b, _ => ⟨by simp only [PyData.shown, cost]; cases b <;> decide +kernel, by simp only [PyData.showable], by simp only [PyData.hasDict]⟩
  | .int i, h => by
    simp only [Shw] at h
    refine ⟨?_, by simp only [PyData.showable]; exact decide_eq_true h, by simp only [PyData.hasDict]⟩
    simp only [PyData.shown, cost]
    have e := int_text_length_le (k := 1920) (by decide) h
    rw [PySem.ofString_length]
    omega
  | .str x, h => by
    simp only [Shw] at h
    exact ⟨by simp only [PyData.shown, cost]; exact StrLaws.reprText_len x h, by simp only [PyData.showable], by simp only [PyData.hasDict]⟩
  | .list xs, h => by
    simp only [Shw] at h
    obtain ⟨h1, h2, h3⟩ := ShwAll.all xs h
    refine ⟨?_, by simp only [PyData.showable]; exact h2, by simp only [PyData.hasDict]; exact h3⟩
    simp only [PyData.shown, cost]
    exact Nat.le_trans (listText_size _) (by omega)
  | .tuple xs, h => by
    simp only [Shw] at h
    obtain ⟨h1, h2, h3⟩ := ShwAll.all xs h
    refine ⟨?_, by simp only [PyData.showable]; exact h2, by simp only [PyData.hasDict]; exact h3⟩
    simp only [PyData.shown, cost]
    exact Nat.le_trans (fmt_text _) (by omega)
  | .dict _, h => by
    simp only [Shw] at h
theorem ShwAll.all : ∀ xs : List PyData, ShwAll xs → piled (PyData.shownAll xs) ≤ costAll xs ∧ PyData.showableAll xs = true ∧ PyData.hasDictAll xs = false
  | [], _ => ⟨by simp only [PyData.shownAll, costAll]; exact Nat.le_refl _, by simp only [PyData.showableAll], by simp only [PyData.hasDictAll]⟩
  | x :: xs, h => by
    simp only [ShwAll] at h
    obtain ⟨a1, a2, a3⟩ := Shw.all x h.1
    obtain ⟨b1, b2, b3⟩ := ShwAll.all xs h.2
    refine ⟨?_, by simp only [PyData.showableAll]; rw [a2, b2]; rfl, by simp only [PyData.hasDictAll]; rw [a3, b3]; rfl⟩
    simp only [PyData.shownAll, costAll]
    rw [piled_cons]
    omega
end
section
variable {X : Cx} {k : Nat}
/-- repr of a list or tuple of such -/
def rRepS (K : PySem.W.Frag) : List V → Hp → VK → Prop := fun xs H Q => ∃ a d, xs = [.ref a] ∧ Dp K H (.ref a) d ∧ Shw d ∧ d.depth ≤ 40 ∧ cost d ≤ sizeLine ∧ Q (.str d.shown) H
theorem call_reprS (hr : Rm k X.A) : CallR X (.builtin "repr") (rRepS X.K) := by
  intro pins s σ H xs us Q I r h
  obtain ⟨a, d, rfl, hd, hs, hp, hz, q⟩ := h
  obtain ⟨h1, h2, h3⟩ := Shw.all d hs
  exact call_reprD hr pins s σ H _ us Q I r ⟨a, d, rfl, hd, h2, h3, hp, Nat.le_trans h1 hz, q⟩
/-- repr of what is no object: None, a bool, an int, a text -/
def rRepF : List V → Hp → VK → Prop := fun xs H Q => (∃ i, xs = [.int i] ∧ i.natAbs.log2 < 1920 ∧ Q (.str (toString i)) H) ∨ (∃ b, xs = [.bl b] ∧ Q (.str (if b then "True" else "False")) H) ∨ (xs = [.non] ∧ Q (.str "None") H) ∨
  (∃ x, xs = [.str x] ∧ (reprText x).length ≤ sizeLine ∧ Q (.str (reprText x)) H)
theorem call_reprF : CallR X (.builtin "repr") rRepF := by
  intro pins s σ H xs us Q I r h
  rcases h with ⟨i, rfl, hi, q⟩ | ⟨b, rfl, q⟩ | ⟨rfl, q⟩ | ⟨x, rfl, hx, q⟩
  · obtain ⟨u, rfl, ru⟩ := r.one
    obtain ⟨t, rfl⟩ := (show ∃ t, u = Value.int i t from ru)
    exact PySem.P.repr_of_int hi ⟨.str _, H, I.tok _, ⟨_, rfl⟩, q⟩
  · obtain ⟨u, rfl, ru⟩ := r.one
    cases (show u = Value.bool b from ru)
    exact PySem.P.repr_of_bool ⟨.str _, H, I.tok _, ⟨_, rfl⟩, q⟩
  · obtain ⟨u, rfl, ru⟩ := r.one
    cases (show u = Value.none from ru)
    exact PySem.P.repr_of_none ⟨.str _, H, I.tok _, ⟨_, rfl⟩, q⟩
  · obtain ⟨u, rfl, ru⟩ := r.one
    obtain ⟨t, rfl⟩ := (show ∃ t, u = Value.str x t from ru)
    exact PySem.P.repr_of_str ⟨.str _, H, I.tok _, ⟨_, rfl⟩, q⟩ hx
end
/-! ### an operator, a special method of an own class, each as one fact -/
section
variable (P : Program) (w : World) (K : PySem.W.Frag) (mg : Str → Option Value) (base : Heap) (CX : CXT) (k : Nat)
structure OpF (C : Addr) (op : Operator) (sp : Sp) : Prop where
  ex : ∃ (f : Addr) (fd : FuncData) (ps : List Str), OpAt K C op f ∧ OpInt K C op ∧ Binds K fd ps [] ∧ FnG P w K mg base CX k f fd ps sp
structure SpF (C : Addr) (m : Str) (sp : Sp) : Prop where
  ex : ∃ (f : Addr) (fd : FuncData) (ps : List Str), PySem.W.findIn K (.ref C) m = some (some (.ref f)) ∧ PySem.W.isFn K (.ref f) = true ∧ Binds K fd ps [] ∧ FnG P w K mg base CX k f fd ps sp
end
section
variable {X : Cx} {CX : CXT} {k : Nat} {C : Addr} {sp : Sp} {E : XK}
theorem op_binF {op : Operator} (O : OpF X.prog X.w X.K X.mg X.base CX k C op sp) (hr : Rm k X.A) (hx : Passes CX X E) : OpR X (binaryOp op) (rBin C sp E) := by
  obtain ⟨f, fd, ps, o1, o2, hb, F⟩ := O.ex
  exact op_bin o1 o2 F hr hb hx
theorem un_negF (O : SpF X.prog X.w X.K X.mg X.base CX k C "__neg__" sp) (hr : Rm k X.A) (hx : Passes CX X E) : UnR X (unaryOp .USub) (rNeg C sp E) := by
  obtain ⟨f, fd, ps, o1, o2, hb, F⟩ := O.ex
  exact un_own o1 o2 F hr hb hx
theorem op_eqF (O : SpF X.prog X.w X.K X.mg X.base CX k C "__eq__" sp) (hr : Rm k X.A) (hx : Passes CX X E) : OpR X (compareOp .Eq) (rEqO X.K C sp E) := by
  obtain ⟨f, fd, ps, o1, o2, hb, F⟩ := O.ex
  exact op_eqO o1 o2 F hr hb hx
theorem op_neF (O : SpF X.prog X.w X.K X.mg X.base CX k C "__eq__" sp) (hne : PySem.W.findIn X.K (.ref C) "__ne__" = some (some (.builtin "object.__ne__"))) (hm : PySem.W.mroIn X.K C (.type "object") = some true) (hr : Rm (k + 1) X.A) (hx : Passes CX X E) : OpR X (compareOp .NotEq) (rNeO X.K C sp E) := by
  obtain ⟨f, fd, ps, o1, o2, hb, F⟩ := O.ex
  exact op_neO o1 o2 hne hm F hr hb hx
theorem call_reprOF (O : SpF X.prog X.w X.K X.mg X.base CX k C "__repr__" sp) (hr : Rm (k + 1) X.A) (hx : Passes CX X E) : CallR X (.builtin "repr") (rShow C sp E) := by
  obtain ⟨f, fd, ps, o1, o2, hb, F⟩ := O.ex
  exact call_reprO o1 o2 F hr hb hx
theorem call_strOF (O : SpF X.prog X.w X.K X.mg X.base CX k C "__str__" sp) (hr : Rm (k + 2) X.A) (hx : Passes CX X E) : CallR X (.type "str") (rShow C sp E) := by
  obtain ⟨f, fd, ps, o1, o2, hb, F⟩ := O.ex
  exact call_strO o1 o2 F hr hb hx
end
end LL

set_option Elab.async false
set_option linter.all false
set_option maxRecDepth 100000
set_option maxHeartbeats 2000000
/-! LLEnd: the law's end over FnG; the head's facts as any tests of the written part. -/
namespace LL
open PySem PySem.Spec PyProof.Rows L2
section
variable {P : Program} {w : World} {K : PySem.W.Frag} {mg mb : Str → Option Value} {CX : CXT} {k : Nat} {fa a : Addr} {fd : FuncData} {x : Str} {sp : Sp} {t : Shared} {us : List Value} {ns : List Int}
/-- what the caller asks of the law's call -/
abbrev LawEnd (t : Shared) (r : Result) (t' : Shared) : Prop := r = .ok (.ret (.bool true)) ∧ OldK t.heap t'.heap ∧ t'.os = t.os ∧ AllBare t'.gens
/-- the law's call where H tracks at most the script -/
theorem lawAt {H : Hp} {osc : Obj} (KX : K.In t.heap) (hns : t.heap.Ns mainGlobals mg) (hb : t.heap.Ns builtinsNs mb) (hbb : ∀ x : Str, x ≠ "__name__" → mb x = bootBuiltins x) (hlim : t.heap.NoLimit) (hg : t.gens = #[])
    (ha : t.heap.get? a = some osc) (hd : ∀ es ep, osc.data ≠ .dict es ep) (hr : Rm k callerA) (F : ∀ base : Heap, K.In base → base.Ns mainGlobals mg → FnG P w K mg base CX k fa fd [x] sp)
    (bd : ∀ (s : Shared) (u : Value), BindsTo s fd ⟨[u], []⟩ [(x, u)]) (hsp : sp [.ref a] H (fun v _ => v = .bl true) fun _ _ _ => False) (hCX : ∀ e s', CX [] H t (fun _ _ _ => False) e s' → False)
    (only : ∀ b, H b = none ∨ (b = a ∧ K.lookup a = none ∧ ∃ o l, H b = some (.frz o (.lst l)))) (hok : HOk P w H t.heap) : codeAny (model P w) callerA (.call (.ref fa) ⟨[.ref a], []⟩) (LawEnd t) t := by
  have free : ∀ {b : Addr} {o : Obj}, t.heap.get? b = some o → (b = a → K.lookup a = none → False) → H b = none := fun {b o} _ h =>
    (only b).elim id fun q => (h q.1 q.2.1).elim
  have nsB : ∀ {b : Addr} {m : Str → Option Value}, t.heap.Ns b m → (hidT t.heap H).Ns b m := by
    rintro b m ⟨o, es, ep, e, d, r⟩
    refine ⟨o, es, ep, hidT_get e (free e fun z _ => ?_), d, r⟩
    subst z
    rw [ha] at e
    cases e
    exact hd _ _ d
  have kB : K.In (hidT t.heap H) := by
    intro b o e
    refine hidT_get (KX b o e) (free (KX b o e) fun z q => ?_)
    rw [z, q] at e
    cases e
  obtain ⟨ml, l1, l2⟩ := hlim
  have env : Env0 P w K mg (hidT t.heap H) callerA [] t H :=
    { frames := rfl
      mod := ⟨kB, nsB hns, ⟨mb, nsB hb, hbb⟩, ⟨ml, nsB l1, l2⟩⟩
      bs := fun _ _ e => of_hidT e
      bsz := Nat.le_of_eq (hidT_size _ _)
      funs := trivial
      frf := fun _ z => by cases (show _ ∈ ([] : List Addr) from z)
      hok := hok
      bare := .of_eq hg }
  have go := (F _ kB (nsB hns)).run callerA [] t H ⟨[.ref a], []⟩ [.ref a] [.ref a] _ _ hr env (bd t (.ref a)) (.cons rfl .nil) hsp
  refine codeAny_mono go fun r t' h => ?_
  match r, h with
  | .error e, h => exact (hCX e t' h).elim
  | .ok .next, h => exact False.elim h
  | .ok .brk, h => exact False.elim h
  | .ok .cont, h => exact False.elim h
  | .ok (.ret u), h =>
    obtain ⟨v, H', e1, e2, un, hok', rv, (rfl : v = .bl true)⟩ := h
    cases (show u = Value.bool true from rv)
    refine ⟨rfl, OldK.of_keep fun b o e => ?_, e1, e2⟩
    rcases only b with n | ⟨_, _, ob, l, z⟩
    · exact un.keep b o e n (fun z => by cases (show b ∈ ([] : List Addr) from z)) (fun z => by cases z)
    · have z1 := (hok b _ z).1
      have z2 := (hok' b _ (un.frzs b ob _ z)).1
      rw [e] at z1
      cases z1
      exact z2
/-- the law's call -/
theorem lawG (KX : K.In t.heap) (hns : t.heap.Ns mainGlobals mg) (hb : t.heap.Ns builtinsNs mb) (hbb : ∀ x : Str, x ≠ "__name__" → mb x = bootBuiltins x) (hlim : t.heap.NoLimit) (hg : t.gens = #[])
    (ha : t.heap.get? a = some { cls := .type "list", data := .seq us.toArray }) (hi : IntsAre us ns) (hl : ns.length ≤ sizeLine) (hr : Rm k callerA) (F : ∀ base : Heap, K.In base → base.Ns mainGlobals mg → FnG P w K mg base CX k fa fd [x] sp)
    (bd : ∀ (s : Shared) (u : Value), BindsTo s fd ⟨[u], []⟩ [(x, u)]) (hsp : ∀ H : Hp, SqL K H a (ns.map V.int) → sp [.ref a] H (fun v _ => v = .bl true) fun _ _ _ => False) (hCX : ∀ H e s', CX [] H t (fun _ _ _ => False) e s' → False) :
    codeAny (model P w) callerA (.call (.ref fa) ⟨[.ref a], []⟩) (LawEnd t) t := by
  have rv := vals_ints hi
  have dd : ∀ es ep, ({ cls := .type "list", data := .seq us.toArray } : Obj).data ≠ .dict es ep := fun _ _ z => by cases z
  cases q : K.lookup a with
  | none =>
    let H : Hp := fun b => if b = a then some (.frz { cls := .type "list", data := .seq us.toArray } (.lst (ns.map V.int))) else none
    have Ha : H a = some (.frz { cls := .type "list", data := .seq us.toArray } (.lst (ns.map V.int))) := if_pos rfl
    have Hn : ∀ b, b ≠ a → H b = none := fun b n => if_neg n
    refine lawAt (H := H) KX hns hb hbb hlim hg ha dd hr F bd (hsp H (.inl (.inr ⟨_, Ha⟩))) (hCX H) (fun b => ?_) fun b u z => ?_
    · by_cases c : b = a
      · exact .inr ⟨c, q, _, _, by rw [c]; exact Ha⟩
      · exact .inl (Hn b c)
    · by_cases c : b = a
      · subst c
        rw [Ha] at z
        cases z
        exact ⟨ha, by rw [List.length_map]; exact hl, us, _, rv, ha⟩
      · rw [Hn b c] at z
        cases z
  | some o =>
    have e := KX a o q
    rw [ha] at e
    cases e
    refine lawAt (H := fun _ => none) KX hns hb hbb hlim hg ha dd hr F bd (hsp _ (.inr ⟨_, us.toArray, _, q, rfl, rfl, rfl, ?_, by simpa using rv⟩)) (hCX _) (fun _ => .inl rfl) fun b u z => by cases z
    rw [List.size_toArray, hi.length]
    exact hl
end
/-- the goal that the head leaves, from the law's promise -/
theorem walkG {l : PySem.W.OpenLaw} {n k : Nat} {q : Program} {loose : List Str} {XP : (Str → Option Value) → Heap → Prop} {YP : World → Heap → Prop} {d : DefRec} {CX : CXT} {x : Str} (hn : l.most = some n) (hn2 : n ≤ sizeLine) (hdf : d.params.defaults = []) (hr : Rm k callerA)
    (F : ∀ (w : World) (mg : Str → Option Value) (fa : Addr) (h : Heap), YP w h → h.Ns mainGlobals mg → mg d.name = some (.ref fa) →
      ∃ (K : PySem.W.Frag) (fd : FuncData) (sp : Sp), K.In h ∧ (∀ (s : Shared) (u : Value), BindsTo s fd ⟨[u], []⟩ [(x, u)]) ∧
        (∀ (H : Hp) (a : Addr) (ns : List Int), ns.length ≤ n → (∀ i ∈ ns, Builtin.Int.intBits i ≤ 1048576) → SqL K H a (ns.map V.int) → sp [.ref a] H (fun v _ => v = .bl true) fun _ _ _ => False) ∧ ∀ base : Heap, K.In base → base.Ns mainGlobals mg → FnG l.prog w K mg base CX k fa fd [x] sp)
    (hCX : ∀ (H : Hp) (s : Shared) (e : Value) (s' : Shared), CX [] H s (fun _ _ _ => False) e s' → False) : PySem.W.WalkO q loose XP YP l.row.toRowW d [] (fun f vs => PySem.call f vs) := by
  refine Att.attach_callB hn hdf fun w _ t mg mb fa _ _ _ _ a us ns G Y _ _ _ hm ho hi hlen hbits hg => ?_
  obtain ⟨K, fd, sp, KX, bd, hs, hF⟩ := F w mg fa _ Y G.T.g hm
  exact lawG KX G.T.g G.T.b G.T.builtins G.T.nolimit hg ho hi (Nat.le_trans hlen hn2) hr hF bd (fun H hS => hs H a ns hlen hbits hS) fun H e s' => hCX H t e s'
/-! ### the Hook: tests of the written part, and defs -/
abbrev Ft : Type := PySem.W.Frag → Bool
def obsX (ft : List Ft) (fn : List He.DefD) (K : PySem.W.Frag) : He.AlD := ((ft.all fun f => f K) && fn.all fun d => d.ok K, fn.map fun d => He.fnW K d.at_)
def SaysX (ft : List Ft) (fn : List He.DefD) (K : PySem.W.Frag) : Prop := obsX ft fn K = He.valD fn
def obsXG (n : Nat) (ft : List Ft) (fn : List He.DefD) (g : Addr → Option Obj) : He.AlD := obsX ft fn (He.frG g (He.asD g n))
def hookX (n : Nat) (ft : List Ft) (fn : List He.DefD) : PySem.W.Hook where
  α := He.AlD
  obs := fun s => obsXG n ft fn s.heap.get?
  val := fun _ => He.valD fn
  says := fun _ h => ∃ K : PySem.W.Frag, K.In h ∧ SaysX ft fn K
  of := fun _ _ e => ⟨_, He.frG_in, e⟩
  keeps := fun _ _ _ ⟨K, hK, c⟩ k => ⟨K, PySem.W.Frag.In.keeps hK k, c⟩
theorem obsXG_eq {n : Nat} {ft : List Ft} {fn : List He.DefD} {g : Addr → Option Obj} {s : Shared} (h : ∀ a, g a = s.heap.get? a) : obsXG n ft fn g = (hookX n ft fn).obs s := by
  have e : g = s.heap.get? := funext h
  rw [e] <;> rfl
theorem SaysX.fact {ft : List Ft} {fn : List He.DefD} {K : PySem.W.Frag} (c : SaysX ft fn K) (i : Nat) {f : Ft} (h : ft[i]? = some f := by rfl) : f K = true := by
  have e : ((ft.all fun f => f K) && fn.all fun d => d.ok K) = true := congrArg Prod.fst c
  exact List.all_eq_true.mp (He.ba e).1 f (List.mem_of_getElem? h)
theorem SaysX.def_ {ft : List Ft} {fn : List He.DefD} {K : PySem.W.Frag} (c : SaysX ft fn K) (i : Nat) {d : He.DefD} (h : fn[i]? = some d := by rfl) : ∃ fd, FunD K d.name d.qual d.params d.body d.scope (d.dvs K) (d.kws K) (He.fAd K d.at_) fd := by
  have e : ((ft.all fun f => f K) && fn.all fun d => d.ok K) = true := congrArg Prod.fst c
  have e1 : (fn.map fun d => He.fnW K d.at_)[i]? = (fn.map He.DefD.val)[i]? := congrArg (fun z : He.AlD => z.2[i]?) c
  rw [List.getElem?_map, List.getElem?_map, h] at e1
  exact He.DefD.funD (Option.some.inj e1) (List.all_eq_true.mp (He.ba e).2 d (List.mem_of_getElem? h))
end LL

set_option Elab.async false
set_option linter.all false
set_option maxRecDepth 100000
set_option maxHeartbeats 2000000
/-! LLCut: a reading cut in two: what stands between is told once. -/
namespace LL
open PySem PySem.Spec PyProof.Rows L2
/-- behind a statement I holds -/
theorem seq_cut {t u : TS} {D : Ends} {σ : L2.St} {H : Hp} (I : L2.St → Hp → Prop) (h1 : ∀ N : L2.St → Hp → Prop, (∀ σ' H', I σ' H' → N σ' H') → t { D with nx := N } σ H) (h2 : ∀ σ' H', I σ' H' → u D σ' H') : tSeq t u D σ H := h1 _ h2
/-- an expression has a value of which I holds -/
theorem ex_cut {t : TE} {σ : L2.St} {H : Hp} {Q : VK} (I : VK) (h1 : ∀ R : VK, (∀ x H', I x H' → R x H') → t σ H R) (h2 : ∀ x H', I x H' → Q x H') : t σ H Q := h1 Q h2
/-- a test has an answer of which I holds -/
theorem tt_cut {t : TT} {σ : L2.St} {H : Hp} {Q : Bool → Hp → Prop} (I : Bool → Hp → Prop) (h1 : ∀ R : Bool → Hp → Prop, (∀ x H', I x H' → R x H') → t σ H R) (h2 : ∀ x H', I x H' → Q x H') : t σ H Q := h1 Q h2
/-- a and b, both without an effect -/
theorem and_of {ta tb : TE} {σ : L2.St} {H : Hp} {Q : VK} (c d : Bool) (h1 : ∀ R : VK, R (.bl c) H → ta σ H R) (h2 : c = true → ∀ R : VK, R (.bl d) H → tb σ H R) (q : Q (.bl (c && d)) H) : tAndV ta tb σ H Q := by
  refine h1 _ ⟨c, rfl, ?_⟩
  cases c with
  | true => exact iteT (h2 rfl _ q)
  | false => exact iteF q
theorem or_of {ta tb : TE} {σ : L2.St} {H : Hp} {Q : VK} (c d : Bool) (h1 : ∀ R : VK, R (.bl c) H → ta σ H R) (h2 : c = false → ∀ R : VK, R (.bl d) H → tb σ H R) (q : Q (.bl (c || d)) H) : tOrV ta tb σ H Q := by
  refine h1 _ ⟨c, rfl, ?_⟩
  cases c with
  | true => exact iteT q
  | false => exact iteF (h2 rfl _ q)
theorem seq_asg {te : TE} {g : TG} {u : TS} {D : Ends} {σ : L2.St} {H : Hp} (h : te σ H fun x H1 => g x σ H1 (u D)) : tSeq (tAsg te g) u D σ H := h
theorem ret_of {te : TE} {D : Ends} {σ : L2.St} {H : Hp} (h : te σ H D.rt) : tRet te D σ H := h
theorem nm_of {i : Nat} {v : V} {σ : L2.St} {H : Hp} {N : L2.St → Hp → Prop} (h : N (σ.set i (some v)) H) : gName i v σ H N := h
theorem nx_of {D : Ends} {σ : L2.St} {H : Hp} (h : D.nx σ H) : tNext D σ H := h
/-! ### a class called, as a def is -/
section
variable (P : Program) (w : World) (K : PySem.W.Frag) (mg : Str → Option Value) (base : Heap) (CX : CXT) (k : Nat)
/-- C(..) keeps sp: its __init__ does, at each new instance -/
structure Mkf (x : Str) (sp : Sp) : Prop where
  ex : ∃ (C : Addr) (dvs : List V) (si : Sp), Mkr P w K mg base CX k x C dvs si ∧ ∀ vs H Q E, sp vs H Q E → ∀ a dx, H a = none → H dx = none → dx ≠ a → si (.ref a :: (vs ++ dvs)) (upd (upd H dx (.own a)) a (.ins C dx [])) (fun v H2 => v = .non ∧ Q (.ref a) H2) E
end
section
variable {X : Cx} {CX : CXT} {k : Nat} {sp : Sp} {E : XK} {x : Str} {p pos : Pos} {e : Expr} {es : List Expr} {t : TA}
theorem pe_mf (G : Mkf X.prog X.w X.K X.mg X.base CX k x sp) (hr : Rm (k + 1) X.A) (hx : Passes CX X E) (ha : PA X (e :: es) t) (hg : Gl X x := by rfl) (hdb : (x == ("__debug__" : Str)) = false := by decide)
    (he : starEach (e :: es) X.env = (false, eval e X.env) :: starEach es X.env := by rfl) (hpl : (backTo pos (starEach es X.env)).any (·.1) = false := by rfl) : PE X (.Call (.Name x p) (e :: es) [] pos) (tCall sp [] E t) := by
  obtain ⟨C, dvs, si, ⟨f, fd, ps, ds, M, hm, hb, hd, F⟩, conv⟩ := G.ex
  refine ⟨fun pins s σ H Q I h => wpAny_Call_Name_kw (ld_glob I hg hm (PySem.W.callWith_K (h₀ := X.base) I.ok.mod.kin M.kp (thn (ha.run pos pins s σ H _ I h) fun us s1 z => ?_) he hpl) hdb)⟩
  obtain ⟨vs, H1, I1, r, q⟩ := z
  exact ⟨I1.kIn, run_makeG M F hr hb hd hx I1 r (conv vs H1 Q E (by simpa using q))⟩
theorem pe_mf0 (G : Mkf X.prog X.w X.K X.mg X.base CX k x sp) (hr : Rm (k + 1) X.A) (hx : Passes CX X E) (hg : Gl X x := by rfl) (hdb : (x == ("__debug__" : Str)) = false := by decide) : PE X (.Call (.Name x p) [] [] pos) (tCall sp [] E tNil) := by
  obtain ⟨C, dvs, si, ⟨f, fd, ps, ds, M, hm, hb, hd, F⟩, conv⟩ := G.ex
  exact ⟨fun pins s σ H Q I h => wpAny_Call_Name_kw (ld_glob I hg hm (PySem.W.callWith_K0 I.kIn M.kp (run_makeG (us := []) M F hr hb hd hx I .nil (conv [] H Q E h))) hdb)⟩
end
/-! ### rules within a comprehension: the written part by its name -/
theorem ix_tupK {X : Cx} {K : PySem.W.Frag} (h : X.K = K) : IxR X (rIxT K) := h ▸ ix_tup
theorem ix_listK {X : Cx} {K : PySem.W.Frag} (h : X.K = K) : IxR X (rIxL K) := h ▸ ix_list
/-! ### texts that == can read -/
theorem okt_iff {x : Str} : PyData.strOk x = true ↔ ∀ c ∈ x.cps.toList, c < 1114112 := by
  unfold PyData.strOk
  rw [← Array.all_toList, List.all_eq_true]
  exact ⟨fun h c hc => of_decide_eq_true (h c hc), fun h c hc => decide_eq_true (h c hc)⟩
theorem okt_of (s : String) : PyData.strOk (Str.ofString s) = true := by
  rw [okt_iff]
  intro c hc
  rw [signs_ofString] at hc
  obtain ⟨k, _, rfl⟩ := List.mem_map.mp hc
  rcases k.valid with h | ⟨_, h⟩
  · exact Nat.lt_trans h (by decide)
  · exact h
theorem okt_app {x y : Str} (hx : PyData.strOk x = true) (hy : PyData.strOk y = true) : PyData.strOk (x ++ y) = true := by
  rw [okt_iff] at *
  intro c hc
  rw [Str.cps_append, Array.toList_append] at hc
  rcases List.mem_append.mp hc with h | h
  · exact hx c h
  · exact hy c h
/-! ### all but lists stay -/
def Kp (H H' : Hp) : Prop := ∀ b o, H b = some o → (∀ xs, o ≠ .lst xs) → H' b = some o
theorem Kp.refl {H : Hp} : Kp H H := fun _ _ e _ => e
theorem Kp.trans {H H1 H2 : Hp} (a : Kp H H1) (b : Kp H1 H2) : Kp H H2 := fun c o e n => b c o (a c o e n) n
theorem Kp.of {H H' : Hp} (a : Same H H') : Kp H H' := fun c o e _ => a c o e
theorem But.kp {p : Addr} {H H' : Hp} {xs : List V} (a : But p H H') (h : H p = some (.lst xs)) : Kp H H' := fun c o e n => a c o e fun z => by
  rw [z, h] at e
  exact n xs (Option.some.inj e).symm
theorem kp_upd {H : Hp} {p : Addr} {o : HO} {xs : List V} (h : H p = some (.lst xs)) : Kp H (upd H p o) := (but_upd (o := o)).kp h
end LL

set_option Elab.async false
set_option linter.all false
set_option maxRecDepth 100000
set_option maxHeartbeats 2000000
/-! LLTry: try .. with several clauses 'except x as n', all of one name. -/
namespace LL
open PySem PySem.Spec PyProof.Rows L2
/-- behind a suite the clause's name is gone -/
def Dgone (D : Ends) (i : Nat) : Ends := { nx := fun τ G => D.nx (τ.set i none) G, rt := D.rt, bk := fun τ G => D.bk (τ.set i none) G, ct := fun τ G => D.ct (τ.set i none) G }
abbrev Clause : Type := Value × (Addr → Value → Option Addr → TS)
/-- what the clauses wish of what the body lets out -/
def wRow (K : PySem.W.Frag) (Wo : WX) (D : Ends) (i : Nat) : List Clause → WX
  | [] => Wo
  | q :: r => fun cls d τ G => ∃ b, PySem.W.exmOne K cls q.1 = some b ∧ (b = true → ∀ e, G e = none → q.2 e cls d (Dgone D i) (τ.set i (some (.ref e))) G) ∧ (b = false → wRow K Wo D i r cls d τ G)
inductive RowOk (X : Cx) (n : Str) : List ExceptHandler → List Clause → Prop
  | nil : RowOk X n [] []
  | cons {x : Str} {c : Value} {ts : Addr → Value → Option Addr → TS} {t₀ : Stmt} {more : List Stmt} {q1 q2 : Pos} {hs : List ExceptHandler} {l : List Clause} (nm : Names X x c)
      (su : ∀ (e : Addr) (oe : Obj) (cls : Value) (d : Option Addr) (pn : List (Addr × Obj)), Zc cls d oe → (∃ fs, oe.data = .fields fs) → PSs (X.suite e ((e, oe) :: pn)) (t₀ :: more) (ts e cls d)) (r : RowOk X n hs l) :
      RowOk X n (.ExceptHandler (some (.Name x q1)) (some n) (t₀ :: more) q2 :: hs) ((c, ts) :: l)
section
variable {X : Cx} {n : Str} {i : Nat} {body : List Stmt} {h₀ : ExceptHandler} {hs : List ExceptHandler} {l : List Clause} {pos : Pos} {tb : WX → TS} {Wo : WX}
theorem ps_tryRow (st : X.stack = X.env :: X.outer) (fr : X.env.frame = some X.env.locals) (nd : X.N.Nodup) (ni : X.N[i]? = some n) (nl : X.env.kindOf n = some .local) (tk : Takes X Wo)
    (bd : ∀ (W : WX) (pn : List (Addr × Obj)) (xe : Value → Shared → Prop), Takes (X.tr pn xe) W → PassesOwn (model X.prog X.w) X.A X.env xe → PSs (X.tr pn xe) body (tb W)) (hh : RowOk X n (h₀ :: hs) l) :
    PS X (.Try body (h₀ :: hs) [] [] pos) (fun D τ G => tb (wRow X.K Wo D i l) D τ G) := by
  constructor
  intro pins s τ G D I h
  have ok := I.ok
  have frs' : X.A.frames = some (X.env :: X.outer) := ok.frames.trans (by rw [st])
  refine wpAny_Try_except ?_
  let after : Value → Shared → Prop := fun e u => wpAny (model X.prog X.w) X.A (noteFrame e X.env)
    (fun _ u2 => wpAny (model X.prog X.w) X.A (setFlight e none)
      (fun _ u3 => wpAny (model X.prog X.w) X.A (handleBy e X.env (h₀ :: hs)) (SP X pins D) X.xe u3) X.xe u2) X.xe u
  have catch_ : Takes (X.tr (X.pn ++ pins) after) (wRow X.K Wo D i l) := by
    intro u s' xx
    obtain ⟨e, B, sI, pn', τ', G', cls, d, eu, J', nb, up, sky, ne, os, ag, w⟩ := xx
    subst eu
    have J : Inv X pins τ' G' sI := J'.ofTry ok
    have sky2 : Sky B (X.env :: X.outer) e (Zc cls d) X.env.locals s'.heap := st ▸ sky
    show wpAny (model X.prog X.w) X.A (noteFrame (.ref e) X.env) _ _ _
    refine Sky.land Zc.steady frs' fr sky2 fun h3 fl up3 => ?_
    have J3 : Inv X pins τ' G' { s' with heap := h3 } := J.landed nb fl.1 (up.trans up3) os ag
    obtain ⟨oe, fs, at3, z3, d3⟩ := fl.there
    have out : e ∉ frs (X.env :: X.outer) := fun hm => by
      obtain ⟨_, o', q, hnf⟩ := fl.2.2.1.mem hm
      rw [at3] at q
      cases q
      exact hnf _ d3
    have nL : e ≠ X.env.locals := fun z => out (List.mem_filterMap.mpr ⟨X.env, List.mem_cons_self, by rw [fr, z]⟩)
    have nF : e ∉ X.fs := fun hm => by
      obtain ⟨v, hv, q⟩ := List.mem_filterMap.mp hm
      exact out (List.mem_filterMap.mpr ⟨v, List.mem_cons_of_mem _ hv, q⟩)
    have S3 := J3.suite at3 d3 ne nL nF
    have row : ∀ {hs' : List ExceptHandler} {l' : List Clause}, RowOk X n hs' l' → wRow X.K Wo D i l' cls d τ' G' → wpAny (model X.prog X.w) X.A (handleBy (.ref e) X.env hs') (SP X pins D) X.xe { s' with heap := h3 } := by
      intro hs' l' hk
      induction hk with
      | nil =>
        intro w
        refine wpAny_handleBy_nil ?_
        obtain ⟨k1, k2, k3, o1, v1, T1, oT, t1, g1, g2, g3, g4, g5⟩ := id fl
        unfold PySem.passOn
        refine wpAny_bind (wpAny_field g1 g3 g4 ?_)
        rw [if_neg (by simp)]
        have go : wpAny (model X.prog X.w) X.A (setFlight (.ref e) X.env.frame) (fun _ u4 => wpAny (model X.prog X.w) X.A (throw (.ref e) : Sem Flow) (SP X pins D) X.xe u4) X.xe { s' with heap := h3 } := by
          rw [fr]
          refine HandSPX.setFlight_upZ fl fun h4 up4 upb => wpAny_throw (tk _ _ ?_)
          exact ⟨e, B, sI, pins, τ', G', cls, d, rfl, J, nb, (up.trans up3).trans upb, .inr (.inr (by rw [st]; exact up4)), ne, os, ag, w⟩
        first
          | exact wpAny_bind (wpAny_pure (wpAny_bind go))
          | exact wpAny_bind go
      | @cons x c ts t₀ more q1 q2 hs2 l2 nm su r ih =>
        intro w
        obtain ⟨b, e1, yes, no⟩ := w
        refine wpAny_handleBy_cons (codeAny_handlers_test ?_) (fun q => by cases q)
        have isC : PySem.W.Looks (model X.prog X.w) h3 (typeOf (.ref e)) cls := fun A Q E s k q => wpAny_typeOf_ref (k _ _ at3) (z3.1 ▸ q)
        have ask := PySem.W.exm_one (M := model X.prog X.w) J3.kIn isC e1
        have name_ : ∀ {Q : Value → Shared → Prop} {E : Value → Shared → Prop}, Q c { s' with heap := h3 } → wpAny (model X.prog X.w) (X.A.mark (some (.ref e))) (eval (.Name x q1) X.env) Q E { s' with heap := h3 } := by
          intro Q E q
          rcases nm with ⟨y1, y2, y3 | ⟨y3, y4, y5⟩⟩
          · exact ld_glob (X := X.suite e ((e, oe) :: (X.pn ++ pins))) S3 y1 y3 q y2
          · exact ld_blt (X := X.suite e ((e, oe) :: (X.pn ++ pins))) S3 y1 y3 y4 q y5 y2
        refine name_ (ask.here ?_)
        cases b with
        | false =>
          show wpAny _ X.A (handleBy (.ref e) X.env hs2) _ _ _
          exact ih (no rfl)
        | true =>
          refine codeAny_handlers_suite_as ?_
          refine HandSPX.lands_againZ fl fun h4 fl4 up4 => ?_
          have J4 : Inv X pins τ' G' { s' with heap := h4 } := J.landed nb fl4.1 ((up.trans up3).trans up4) os ag
          obtain ⟨oe4, fs4, at4, z4, d4⟩ := fl4.there
          have S4 := J4.suite at4 d4 ne nL nF
          refine store_ok (X := X.suite e ((e, oe4) :: (X.pn ++ pins))) (v := .ref e) S4 nd ni (.inl nl) rfl (fun s5 S5 => ?_) (.inr nl)
          refine wpAny_mono ((su e oe4 cls d (X.pn ++ pins) z4 ⟨_, d4⟩).run [] s5 _ G' _ S5 (yes rfl e ne)) (fun f s6 z => ?_) (fun _ _ z => z.elim)
          have fin : ∀ {τ6 : L2.St} {G6 : Hp} {Q : Shared → Prop}, Inv (X.suite e ((e, oe4) :: (X.pn ++ pins))) [] τ6 G6 s6 → (∀ s7, Inv X pins (τ6.set i none) G6 s7 → Q s7) →
              wpAny (model X.prog X.w) X.A (do bindName X.env n .none; unbindBehindTheSuite X.env n q2) (fun _ s7 => Q s7) X.xe s6 := fun S6 hq => gone_ok (S6.unsuite ok) nd ni nl hq
          match f, z with
          | .next, ⟨_, _, S6, q6⟩ => exact fin S6 fun s7 J7 => ⟨_, _, J7, q6⟩
          | .brk, ⟨_, _, S6, q6⟩ => exact fin S6 fun s7 J7 => ⟨_, _, J7, q6⟩
          | .cont, ⟨_, _, S6, q6⟩ => exact fin S6 fun s7 J7 => ⟨_, _, J7, q6⟩
          | .ret u, ⟨_, _, _, S6, r6, q6⟩ => exact fin S6 fun s7 J7 => ⟨_, _, _, J7, r6, q6⟩
    exact row hh w
  refine wpAny_mono ((bd (wRow X.K Wo D i l) (X.pn ++ pins) after catch_ PassesOwn.looking).run [] s τ G D (I.toTry _) h) (fun f s1 z => ?_) (fun _ _ z => z)
  match f, z with
  | .next, ⟨_, _, J', q⟩ => exact wpAny_execs_nil ⟨_, _, J'.ofTry ok, q⟩
  | .brk, ⟨_, _, J', q⟩ => exact ⟨_, _, J'.ofTry ok, q⟩
  | .cont, ⟨_, _, J', q⟩ => exact ⟨_, _, J'.ofTry ok, q⟩
  | .ret u, ⟨_, _, _, J', r, q⟩ => exact ⟨_, _, _, J'.ofTry ok, r, q⟩
end
end LL

set_option Elab.async false
set_option linter.all false
set_option maxRecDepth 100000
set_option maxHeartbeats 2000000
/-! LLExc: own error classes with one field; what a suite asks of the error it holds; repr of any data. -/
namespace LL
open PySem PySem.Spec PyProof.Rows L2
/-! ### B.__init__(self, ..), B an own class over ValueError without one -/
structure LeC (K : PySem.W.Frag) (B : Addr) : Prop where
  sp : PySem.W.specialIn K (.ref B) "__getattribute__" = some (some (.builtin "type.__getattribute__"))
  rd : PySem.W.readsIn K B (.type "type") = true
  fi : PySem.W.findCls K (.ref B) (.type "type") "__init__" = some (.val (.builtin "ValueError.__init__"))
section
variable {X : Cx} {B : Addr} {x : Str} {e : Expr} {es : List Expr} {ta : TA} {p1 p2 pos : Pos}
theorem pe_leinit {pl : Sem Bool} (L : LeC X.K B) (hg : Gl X x) (hm : X.mg x = some (.ref B)) (ha : PA X (e :: es) ta) (hdb : (x == ("__debug__" : Str)) = false := by decide)
    (ev : eval (.Call (.Attribute (.Name x p1) "__init__" p2) (e :: es) [] pos) X.env = (do
      let o ← eval (.Name x p1) X.env
      standAt p2.atName
      let (g, first) ← holding [o] (getMethod o "__init__" pl)
      callWith pos g first (backTo pos (starEach (e :: es) X.env)) (backToKw pos (keywordEach [] X.env))) := by rfl)
    (se : starEach (e :: es) X.env = (false, eval e X.env) :: starEach es X.env := by rfl) (sn : (backTo pos (starEach es X.env)).any (·.1) = false := by rfl) : PE X (.Call (.Attribute (.Name x p1) "__init__" p2) (e :: es) [] pos) (tVeI X.K ta) := by
  constructor
  intro pins s σ H Q I h
  refine PySem.W.methodCall_KW (ld_glob I hg hm ?_ hdb) ev
  refine PySem.W.method_cls I.kIn L.sp (PySem.W.cls_value I.kIn L.rd L.fi (by decide +kernel) ?_)
  show wpAny _ _ (callWith pos (Value.builtin "ValueError.__init__") [] (backTo pos (starEach (e :: es) X.env)) []) _ _ _
  refine PyProof.Rows.callWith_method1 (thn (ha.run pos pins _ σ H _ (I.tok _) h) fun us s1 z => ?_) se sn
  obtain ⟨vs, H1, I1, r, a, C, ws, rfl, hl, T, ea, q⟩ := z
  cases r with
  | @cons _ u _ ur ru rr =>
    cases (show u = Value.ref a from ru)
    have hz : ur.length ≤ sizeLine := Nat.le_trans (Nat.le_of_eq (Paired.length rr).symm) (Nat.le_trans hl (by rw [sizeLine_eq]; decide))
    exact oinit_ok T I1 ea hz fun s2 J => ⟨.non, H1, J, rfl, q⟩
end
/-! ### raise C(v) -/
/-- the promise of an __init__ that keeps one value in the field f -/
def spXI (C : Addr) (f : Str) : Sp := fun vs H Q _ => ∃ a v, vs = [.ref a, v] ∧ H a = some (exo a C none) ∧ ∀ dx, H dx = none → dx ≠ a → Q .non (upd (upd H dx (exd dx [(f, v)])) a (exo a C (some dx)))
section
variable (P : Program) (w : World) (K : PySem.W.Frag) (mg : Str → Option Value) (base : Heap) (k : Nat)
/-- the module's name x is the error class at C, its field is f -/
structure Xcl (x : Str) (C : Addr) (f : Str) : Prop where
  T : OexC K C
  nf : PySem.W.findIn K (.ref C) f = some none
  mx : mg x = some (.ref C)
  ex : ∃ (fI : Addr) (fd : FuncData) (ps : List Str), PySem.W.findIn K (.ref C) "__init__" = some (some (.ref fI)) ∧ PySem.W.typeIn K (.ref fI) = some (.type "function") ∧ Binds K fd ps [] ∧ FnOk P w K mg base CX0 k fI fd ps (spXI C f)
  xf : XfC K C
  ec : ExcC K C
end
section
variable {X : Cx} {k : Nat} {C : Addr} {x f : Str} {W : WX} {e : Expr} {te : TE} {p pos rpos : Pos}
theorem ps_raiseX (G : Xcl X.prog X.w X.K X.mg X.base k x C f) (hr : Room (k + 1) X.A) (tk : Takes X W) (he : PE X e te) (hc : X.calm = true := by rfl) (hg : Gl X x := by rfl) (hdb : (x == ("__debug__" : Str)) = false := by decide)
    (se : starEach [e] X.env = (false, eval e X.env) :: starEach [] X.env := by rfl) (sn : (backTo pos (starEach [] X.env)).any (·.1) = false := by rfl) :
    PS X (.Raise (some (.Call (.Name x p) [e] [] pos)) none rpos) (fun _ σ H => tMkO C (spXI C f) [] (tCons te tNil) σ H fun cls d H' => W cls d σ H') := by
  obtain ⟨fI, fd, ps, h1, h2, h3, h4⟩ := G.ex
  exact ps_raise hc tk (pmk_oex G.T h1 h2 h4 hr h3 .nil pass0 hg G.mx (pa_cons he pa_nil (hs := se)) hdb se sn)
/-- the error's own dict is new -/
theorem raise_of {v : V} {H : Hp} {Q : XK} (h : ∀ d, H d = none → Q (.ref C) (some d) (upd H d (.xd [(f, v)]))) : ([v] : List V).length ≤ 1000 ∧ ∀ a, H a = none → spXI C f (.ref a :: ([v] ++ [])) (upd H a (exo a C none))
    (fun z H2 => z = .non ∧ ∃ (d : Addr) (fs : List (Str × V)), H2 a = some (exo a C (some d)) ∧ H2 d = some (exd d fs) ∧ H d = none ∧ Q (.ref C) (some d) (upd (del H2 a) d (.xd fs))) (fun _ _ _ => False) := by
  refine ⟨(by show 1 ≤ 1000; decide), fun a ha => ⟨a, v, rfl, upd_same, fun dx hd ne => ⟨rfl, dx, [(f, v)], upd_same, ?_, ?_, ?_⟩⟩⟩
  · rw [upd_ne ne, upd_same]
  · rw [upd_ne ne] at hd
    exact hd
  · rw [upd_ne ne] at hd
    have e : upd (del (upd (upd (upd H a (exo a C none)) dx (exd dx [(f, v)])) a (exo a C (some dx))) a) dx (.xd [(f, v)]) = upd H dx (.xd [(f, v)]) := by
      funext b
      by_cases h1 : b = dx
      · rw [h1, upd_same, upd_same]
      · rw [upd_ne h1, upd_ne h1]
        by_cases h2 : b = a
        · rw [h2, del_same, ha]
        · rw [del_ne h2, upd_ne h2, upd_ne h1, upd_ne h2]
    rw [e]
    exact h dx hd
end
/-! ### isinstance(e, c) of a caught error that has its dict -/
section
variable {prog : Program} {w : World} {A : Around} {E : Value → Shared → Prop} {s : Shared} {K : PySem.W.Frag} {z D : Addr} {oz : Obj} {od : Option Obj}
open PySem.W in
theorem clsE {Q : Option Value → Shared → Prop} (C : ExcC K D) (kin : K.In s.heap) (I : InstAt s.heap z oz D od) (h : Q (some (.ref D)) { s with toks := s.toks + 1 }) : wpAny (model prog w) A (getAttr? (.ref z) "__class__") Q E s := by
  have isc : (clsIn K D).isSome = true := by
    obtain ⟨cd, hc, _⟩ := any_some C.hd
    rw [hc]
    rfl
  have found : findObj K D od "__class__" = some (.bind (.builtin "getset_descriptor.__get__") (.builtin "object.__class__")) := by
    cases od with
    | none => exact findObj_dataN isc C.ha C.hn C.ht
    | some o => exact findObj_data isc C.ha C.hn C.ht
  obtain ⟨hh, gg, dd, tt, oo⟩ := s
  have T0 := I.type (M := model prog w)
  have T1 := looks_findIn (M := model prog w) kin C.hg
  have T2 := looks_findIn (M := model prog w) kin C.hk
  have T3 := looks_find (M := model prog w) kin I found
  have isB : Looks (model prog w) hh (isInstance (.ref z) (.type "BaseException")) true := T0.andThen (looks_subIn kin C.hs)
  have n2 : (Value.builtin "BaseException.__getattribute__" == Value.builtin "object.__getattribute__") = false := by
    decide +kernel
  have n1 : (onTheHeap (Value.ref D) && Value.builtin "BaseException.__getattribute__" == Value.builtin "object.__getattribute__") = false := by
    rw [n2]
    rfl
  unfold getAttr?
  unfold getAttrBy?
  unfold getAttrBy
  refine wpAny_bind (wpAny_mkText (wpAny_bind (wpAny_attempt (wpAny_holding (wpAny_bind (T0.at (wpAny_bind (T1.at ?_))))))))
  show wpAny _ _ (ite ((onTheHeap (Value.ref D) && Value.builtin "BaseException.__getattribute__" == Value.builtin "object.__getattribute__") = true) _ _) _ _ _
  rw [n1]
  rw [if_neg Bool.false_ne_true]
  unfold getAttrByItsOwn
  unfold hookBefore
  refine wpAny_bind ?_
  rw [if_pos (show onTheHeap (.ref D) = true from rfl)]
  refine T2.at (wpAny_bind (wpAny_attempt (wpAny_holding ?_)))
  unfold callGetattribute
  rw [show (false && onTheHeap (Value.builtin "BaseException.__getattribute__")) = false from rfl]
  rw [if_neg Bool.false_ne_true]
  unfold boundAndCalled
  rw [PySem.F.excAttr_ValueError.ga.bind (.ref z)]
  refine wpAny_bind (wpAny_pure ?_)
  show wpAny _ _ (call (.builtin "BaseException.__getattribute__") [.ref z, .str "__class__" tt]) _ _ _
  refine wpAny_call (codeAny_call_builtin PySem.F.excAttr_ValueError.ga.plain PySem.F.entry_bexc_ga (@check_slot (model prog w) _ _ ⟨hh, gg, dd, tt + 1, oo⟩ "BaseException.__getattribute__" "BaseException" "__getattribute__" (.ref z) [.str "__class__" tt] [] _ (by decide +kernel) (by decide +kernel) isB (PySem.F.args_bexc_ga (.ref z) (.str "__class__" tt)) ?_))
  unfold Builtin.«object.__getattribute__»
  refine wpAny_bind (wpAny_of_eq (a := ((Value.ref z : Value), [Value.str "__class__" tt])) (by first | rfl | (simp only [slotArgs]; rfl)) ?_)
  refine wpAny_bind (wpAny_pure (wpAny_bind (T0.at (wpAny_bind (T3.at ?_)))))
  show wpAny _ _ (holding [Value.builtin "object.__class__"] (call (.builtin "getset_descriptor.__get__") [.builtin "object.__class__", .ref z, .ref D]) >>= ret) _ _ _
  refine wpAny_bind (wpAny_holding (wpAny_call (class_get (s := ⟨hh, gg, dd, tt + 1, oo⟩) (ox := oz) (od := od) kin I C.hm (wpAny_pure ?_))))
  show wpAny _ _ (handedOut (.ref D)) _ _ _
  rw [handedOut_of (v := .ref D) rfl]
  first
    | exact wpAny_pure (wpAny_pure h)
    | exact wpAny_pure h
    | exact wpAny_pure (wpAny_bind (wpAny_pure (wpAny_pure h)))
open PySem.W in
theorem kitE (C : ExcC K D) : KitX K (.ref z) (.ref D) (fun h => ∃ od, InstAt h z oz D od) where
  ty := fun _ _ _ ⟨_, I⟩ => I.type
  it := fun _ _ kin _ => by
    obtain ⟨cd, hc, _⟩ := any_some C.hd
    unfold clsIn at hc
    split at hc
    · rename_i ho
      intro A' Q' E' s' kp q
      unfold isType loadHead
      exact wpAny_bind (wpAny_loadPart (kp _ _ (kin _ _ ho)) (wpAny_pure q))
    · cases hc
  ne := fun h tp dd its n sl kin htp => by
    obtain ⟨cd, hc, _⟩ := any_some C.hd
    rw [Bool.eq_false_iff]
    intro q
    cases (Value.ref.inj (beq_iff_eq.mp q) : D = tp)
    unfold clsIn at hc
    split at hc
    · rename_i ho
      cases (kin _ _ ho).symm.trans htp
    · cases hc
  ca := fun kin ⟨_, I⟩ q => clsE C kin I q
end
/-- isinstance(e, c) in a suite: a the error, cls its class, d its dict -/
def rIsD (K : PySem.W.Frag) (D a : Addr) (cls : Value) (d : Option Addr) : List V → Hp → VK → Prop := fun xs H Q => ∃ (c : V) (cv : Value) (b : Bool) (dd : Addr) (fs : List (Str × V)), xs = [.ref a, c] ∧ (∀ u, RelV c u → u = cv) ∧ cls = .ref D ∧ d = some dd ∧ H dd = some (.xd fs) ∧ PySem.W.kitOne K (.ref D) cv = some b ∧ Q (.bl b) H
theorem call_isD {X : Cx} {a D : Addr} {oe : Obj} {cls : Value} {d : Option Addr} {pn : List (Addr × Obj)} (C : ExcC X.K D) (hz : Zc cls d oe) (hf : ∃ vs, oe.data = .fields vs) : CallR (X.suite a ((a, oe) :: pn)) (.builtin "isinstance") (rIsD X.K D a cls d) := by
  intro pins s σ H xs us Q I r h
  obtain ⟨c, cv, b, dd, fs, rfl, hcv, rfl, rfl, ed, e, q⟩ := h
  cases r with
  | cons rx rr =>
    cases rr with
    | cons rt rr =>
      cases rr
      cases rx
      cases hcv _ rt
      obtain ⟨at_, _⟩ := I.pin (a, oe) (List.mem_append.mpr (.inl List.mem_cons_self))
      obtain ⟨vs, hv⟩ := hf
      obtain ⟨mA, hns, _⟩ := (show ObjOk X.prog X.w H s.heap dd (.xd fs) from I.hok dd _ ed)
      obtain ⟨od, ho, _⟩ := lookIn_ns hns
      have J : PySem.W.InstAt s.heap a oe D (some od) := ⟨at_, hz.1, by unfold PySem.W.notCls; rw [hv] <;> rfl, by rw [hz.2]; exact ho⟩
      exact PySem.W.kia_one (kitE C) I.kIn ⟨_, J⟩ e (fun z => nomatch z) fun tk => ⟨.bl b, H, I.kept (t' := tk) fun _ _ z => z, rfl, q⟩
/-! ### repr of any data, an empty dict among it -/
/-- data, or an empty dict -/
inductive Dq (K : PySem.W.Frag) (H : Hp) : V → PyData → Prop
  | dat {v : V} {d : PyData} : Dp K H v d → Shw d → d.depth ≤ 40 → cost d ≤ sizeLine → Dq K H v d
  | emp {a : Addr} : H a = some (.dK []) → Dq K H (.ref a) (.dict [])
theorem empty_reads {X : Cx} {pins : List (Addr × Obj)} {σ : L2.St} {H : Hp} {s : Shared} {a : Addr} (I : Inv X pins σ H s) (e : H a = some (.dK [])) : Reads s.heap (.ref a) (.dict []) (a :: [] ++ []) ∧ a ≠ sysModules := by
  obtain ⟨_, ns, vs, kv, o, es, ep, h1, h2, h3, _, h5, _⟩ := (show ObjOk X.prog X.w H s.heap a (.dK []) from I.hok a _ e)
  cases kv
  have e0 : es.toList = [] := by
    cases q : es.toList with
    | nil => rfl
    | cons y ys =>
      rw [q] at h5
      cases h5
  refine ⟨.dict h1 h2.1 h3 ?_ ?_, fun z => ?_⟩
  · rw [e0]
    exact .nil
  · rw [e0]
    exact .nil
  · rw [z] at ns
    simp at ns
def rRepV (K : PySem.W.Frag) : List V → Hp → VK → Prop := fun xs H Q => ∃ v d, xs = [v] ∧ Dq K H v d ∧ Q (.str d.shown) H
theorem call_reprV {X : Cx} {K : PySem.W.Frag} (hk : X.K = K) (g : X.A.guards = some []) (hu : X.A.units + 64 < cLine) : CallR X (.builtin "repr") (rRepV K) := by
  subst hk
  intro pins s σ H xs us Q I r h
  obtain ⟨v, d, rfl, hd, q⟩ := h
  obtain ⟨u, rfl, ru⟩ := r.one
  cases hd with
  | emp e =>
    cases (show u = Value.ref _ from ru)
    obtain ⟨rd, ns⟩ := empty_reads I e
    refine repr_of_reads' rd (by decide +kernel) (fun _ z => ns (List.mem_singleton.mp z).symm) g ?_ (fun _ _ e => e) (fun h' u tk hk => ⟨.str _, H, I.kept hk, ⟨_, rfl⟩, q⟩) (by decide +kernel)
    have : (PyData.dict []).depth ≤ 2 := by decide +kernel
    omega
  | dat hp hs hd hc =>
    obtain ⟨h1, h2, h3⟩ := Shw.all d hs
    have fin : ∀ h' t' tk, (∀ b o, s.heap.get? b = some o → h'.get? b = some o) → EP X pins σ Q (.str d.shown t') { s with heap := h', toks := tk } := fun h' t' tk hk => ⟨.str d.shown, H, I.kept hk, ⟨_, rfl⟩, q⟩
    have ref_ : ∀ a : Addr, v = .ref a → wpAny (model X.prog X.w) X.A (call (.builtin "repr") [u]) (EP X pins σ Q) X.xe s := fun a ea => by
      subst ea
      obtain ⟨as, rd⟩ := Dp.reads I d _ _ hp ru
      cases (show u = Value.ref a from ru)
      exact repr_of_reads' rd h2 (fun z => by rw [h3] at z; cases z) g (by omega) (fun _ _ e => e) fin (Nat.le_trans h1 hc)
    cases hp with
    | non =>
      cases (show u = Value.none from ru)
      refine PySem.P.repr_of_none ⟨.str _, H, I.tok _, ⟨_, rfl⟩, ?_⟩
      simp only [PyData.shown] at q
      exact q
    | bl b =>
      cases (show u = Value.bool b from ru)
      refine PySem.P.repr_of_bool ⟨.str _, H, I.tok _, ⟨_, rfl⟩, ?_⟩
      simp only [PyData.shown] at q
      exact q
    | int i =>
      obtain ⟨t, rfl⟩ := (show ∃ t, u = Value.int i t from ru)
      simp only [Shw] at hs
      refine PySem.P.repr_of_int hs ⟨.str _, H, I.tok _, ⟨_, rfl⟩, ?_⟩
      simp only [PyData.shown] at q
      exact q
    | str x =>
      obtain ⟨t, rfl⟩ := (show ∃ t, u = Value.str x t from ru)
      simp only [PyData.shown] at q h1
      exact PySem.P.repr_of_str ⟨.str _, H, I.tok _, ⟨_, rfl⟩, q⟩ (Nat.le_trans h1 hc)
    | lst _ _ => exact ref_ _ rfl
    | tup _ _ => exact ref_ _ rfl
end LL

set_option Elab.async false
set_option linter.all false
set_option maxRecDepth 100000
set_option maxHeartbeats 2000000
/-! LLLam: x(lambda: body), with no repr under way; LamX's own layer for it lacks that. -/
namespace LL
open PySem PySem.Spec PyProof.Rows L2 LamX
section
variable {X : Cx} {pins : List (Addr × Obj)} {σ : L2.St} {H : Hp} {s : Shared}
/-- the call of the lambda, in the def that got it -/
theorem pe_run {CXg : CXT} {Eg : XK} {Ng : List Str} {qg : Str} {sg : Scope} {g f c' : Addr} {cdg pm ctv : Value} {params : Arguments} {body : Expr} {scope : Scope} {k i : Nat} {y : Str} {pn : List (Addr × Obj)} {xe : Value → Shared → Prop} {W : WX} {E : XK} {tb : TE} {p1 p2 : Pos}
    (I : Inv X pins σ H s) (L : LamS X.env.scope scope) (of : s.heap.get? f = some (PySem.W.kla_obj "<lambda>" (X.env.qual ++ "<lambda>") params body scope (cloFrom X.env.cells scope.names []) pm c' ctv)) (fn : H f = none) (fo : f ∉ frs X.stack)
    (ba : bindArgs (PySem.W.kla_fn "<lambda>" (X.env.qual ++ "<lambda>") params body scope (cloFrom X.env.cells scope.names []) pm (.ref c') ctv) ⟨[], []⟩ = pure [])
    (tk : Takes ((cxOf CXg X.prog X.w X.K X.mg X.base Ng qg sg g cdg X.A X.stack s H Eg).tr pn xe) W) (hr : Rm (k + 1) (X.A.deeper (envOfC qg sg s.heap.objs.size g cdg)))
    (hb : ∀ (A : Around) (outer : List Env) (s : Shared) (H : Hp), Rm k (A.deeper (lamEnv X scope s.heap.objs.size f c')) → PE (lamCx X A outer s H E scope f c') body tb)
    (hN : Ng[i]? = some y) (hv : Vis sg y) (hd : (y == ("__debug__" : Str)) = false := by decide) (hcd : (y == ("__classdict__" : Str)) = false := by decide) :
    PE ((cxOf CXg X.prog X.w X.K X.mg X.base Ng qg sg g cdg X.A X.stack s H Eg).tr pn xe) (.Call (.Name y p1) [] [] p2)
      (fun τ G Q => τ[i]? = some (some (.ref f)) ∧ G c' = some (CodeO c' (X.env.qual ++ "<lambda>")) ∧ (∀ cls d G', E cls d G' → W cls d τ G') ∧ tb σ G Q) := by
  constructor
  intro pz sz τ G Q J h
  obtain ⟨h1, h2, hW, h3⟩ := h
  have look := (pe_var (pos := p1) (i := i) hN hv hd hcd).run pz sz τ G (fun v G1 => v = .ref f ∧ G1 = G) J ⟨.ref f, h1, rfl, rfl⟩
  refine wpAny_Call_Name_kw (thn look fun u s1 z => ?_)
  obtain ⟨v, G1, J1, rv, rfl, rfl⟩ := z
  cases (show u = Value.ref f from rv)
  have of1 := J1.base.keep f _ of fn fo (fun z => nomatch (show f ∈ ([] : List Addr) from z))
  refine PySem.W.callWith_F0 ⟨_, _, _, _, of1⟩ ?_
  obtain ⟨⟨oc, vs, t, co1, co2, co3⟩, _, _⟩ := J1.hok c' _ h2
  have run : codeAny (model X.prog X.w) (X.A.deeper (envOfC qg sg s.heap.objs.size g cdg)) (.call (.ref f) ⟨[], []⟩) (CR (L2.CX X.prog X.w) (envOfC qg sg s.heap.objs.size g cdg :: X.stack) X.prog X.w G1 s1 Q E) s1 := by
    refine PySem.W.kla_callFunE hr.r.depth of1 rfl L.co L.gen rfl ⟨c', oc, vs, t, rfl, co1, co2, co3⟩ ?_
    rw [ba]
    refine wpAny_pure (wpAny_newFunctionEnv (fun n hn => (L.own n hn).2) (fun n hn => absurd hn (by simp)) (fun h₁ ns1 sb => ⟨J1.nolimit.fresh _ sb, ?_⟩) L.kind)
    show codeAny _ _ (.expr body (lamEnv X scope s1.heap.objs.size f c')) _ _
    have kp : ∀ b o, s1.heap.get? b = some o → h₁.get? b = some o := fun b o e => sb.extBut b o (Nat.ne_of_lt (Heap.lt_size e)) (Heap.get?_push_of_some _ e)
    have S : Inv (lamCx X (X.A.deeper (envOfC qg sg s.heap.objs.size g cdg)) (envOfC qg sg s.heap.objs.size g cdg :: X.stack) s1 G1 E scope f c') [] σ G1 { s1 with heap := h₁, toks := s1.toks + ([] : List (Str × Value)).length } :=
      lam_start2 I L J1.env0 hr.r.hd J1.base ns1 kp
    refine PySem.W.kla_codeExpr (wpAny_mono ((hb _ _ s1 G1 (hr.deeper _)).run [] _ _ G1 Q S h3) (fun v s2 z => ?_) fun _ _ z => z)
    obtain ⟨w', G2, S2, rv2, q⟩ := z
    exact ⟨w', G2, S2.os, S2.bare, S2.base, S2.hok, rv2, q⟩
  refine wpAny_call (codeAny_mono run fun r s2 z => ?_)
  match r, z with
  | .error e, z => exact tk _ _ (XE.of_call J1 hW z)
  | .ok (.ret u), z => exact J1.after z
  | .ok .next, z => exact z.elim
  | .ok .brk, z => exact z.elim
  | .ok .cont, z => exact z.elim
end
/-- the def x that calls what it got by its one name y: TT is what it makes of the lambda's reading -/
def Gives (X : Cx) (k : Nat) (Ng : List Str) (x : Str) (sg : Scope) (g : Addr) (cdg : Value) (bg : List Stmt) (y : Str) (q : Str) (TT : (XK → Hp → VK → Prop) → Hp → VK → Prop) : Prop :=
  ∀ (f c' : Addr) (s : Shared) (H : Hp) (Q : VK) (tl : XK → Hp → VK → Prop), Rm k (X.A.deeper (envOfC x sg s.heap.objs.size g cdg)) →
    (∀ (W : WX) (pn : List (Addr × Obj)) (xe : Value → Shared → Prop) (E : XK) (p1 p2 : Pos), Takes ((cxOf CX0 X.prog X.w X.K X.mg X.base Ng x sg g cdg X.A X.stack s H E0).tr pn xe) W →
      PE ((cxOf CX0 X.prog X.w X.K X.mg X.base Ng x sg g cdg X.A X.stack s H E0).tr pn xe) (.Call (.Name y p1) [] [] p2) (fun τ G Q => τ[0]? = some (some (.ref f)) ∧ G c' = some (CodeO c' q) ∧ (∀ cls d G', E cls d G' → W cls d τ G') ∧ tl E G Q)) →
    H c' = some (CodeO c' q) → TT tl H Q →
    ∃ t, PSs (cxOf CX0 X.prog X.w X.K X.mg X.base Ng x sg g cdg X.A X.stack s H E0).nox bg t ∧ t { nx := fun _ H' => Q .non H', rt := Q } (L2.start Ng [.ref f]) H
/-- the def x, as one fact: it calls what it gets, and makes TT of it -/
structure Taker (P : Program) (w : World) (K : PySem.W.Frag) (mg : Str → Option Value) (base : Heap) (k : Nat) (x y : Str) (TT : (XK → Hp → VK → Prop) → Hp → VK → Prop) : Prop where
  ex : ∃ (g : Addr) (fd : FuncData) (pg : Arguments) (bg : List Stmt) (sg : Scope) (Ng : List Str), mg x = some (.ref g) ∧ FunD K x x pg bg sg [] [] g fd ∧ FnScope Ng [y] sg ∧ Ng[0]? = some y ∧ Vis sg y ∧ Binds K fd [y] [] ∧
    ∀ (X : Cx) (cdg : Value) (q : Str), X.prog = P → X.w = w → X.K = K → X.mg = mg → X.base = base → Gives X k Ng x sg g cdg bg y q TT
section
variable {X : Cx}
/-- x(lambda: body) -/
theorem pe_lamG {T : List (Addr × Str)} {TT : (XK → Hp → VK → Prop) → Hp → VK → Prop} {x y : Str} {c P : Addr} {k : Nat} {params : Arguments} {body : Expr} {scope : Scope} {t : XK → TE} {p lpos pos : Pos} (G : Taker X.prog X.w X.K X.mg X.base (k + 1) x y TT)
    (TB : TabB X.base X.mg c P) (hcode : X.env.code = .ref c) (hmT : (P, X.env.qual ++ "<lambda>") ∈ T) (hu : ∀ p ∈ T, p.1 = P → p.2 = X.env.qual ++ "<lambda>") (hr : Rm (k + 2) X.A) (L : LamS X.env.scope scope)
    (hbody : ∀ (A : Around) (outer : List Env) (s : Shared) (H : Hp) (E : XK) (f c' : Addr), Rm k (A.deeper (lamEnv X scope s.heap.objs.size f c')) → PE (lamCx X A outer s H E scope f c') body (t E)) (hg : Gl X x := by rfl)
    (hdef : defaultsOf params X.env = ([], []) := by rfl) (hbind : ∀ (q : Str) (cl : List (Str × Addr)) (pm cv ctv : Value), bindArgs (PySem.W.kla_fn "<lambda>" q params body scope cl pm cv ctv) ⟨[], []⟩ = pure [] := by intros; rfl)
    (hdb : (x == ("__debug__" : Str)) = false := by decide) (hd : (y == ("__debug__" : Str)) = false := by decide) (hcd : (y == ("__classdict__" : Str)) = false := by decide) :
    PE X (.Call (.Name x p) [.Lambda params body scope lpos] [] pos) (tLam T TT t) := by
  obtain ⟨g, fd, pg, bg, sg, Ng, hm, FF, Sg, hNg, hva, hb, hG⟩ := G.ex
  obtain ⟨oc, od, dV, kV, doc, pm, an, cdv, ct, osl, rfl, lk, hcg, _, _⟩ := FF.ex
  constructor
  intro pins s σ H Q I h
  obtain ⟨hT, h⟩ := h
  refine wpAny_Call_Name_kw (ld_glob I hg hm (PySem.W.callWith_K (h₀ := X.base) I.ok.mod.kin FF.kp ?_ (by rfl) (by rfl)) hdb)
  show wpAny _ _ (spliced ((false, eval (.Lambda params body scope lpos) X.env) :: backTo pos (starEach [] X.env))) _ _ s
  refine Calls.spliced_cons (lam_make2 I TB hcode hmT hu hT hdef (L.has I.ok) fun f c' pm' ctv H1 s1 I1 eN T1 of fn fo co => Calls.spliced_nil ⟨I1.kIn, ?_⟩)
  have run : codeAny (model X.prog X.w) X.A (.call (.ref g) ⟨[.ref f], []⟩) (CR CX0 X.stack X.prog X.w H1 s1 Q E0) s1 := by
    refine run_ofS (N := Ng) (ps := [y]) (us := [.ref f]) (vs := [.ref f]) lk hcg Sg hr.r I1.env0 (hb s1 [.ref f] I1.kIn rfl) (.cons rfl .nil) rfl fun _ => ?_
    have hr1 : Rm (k + 1) (X.A.deeper (envOfC x sg s1.heap.objs.size g cdv)) := hr.deeper _
    obtain ⟨t', ht, hq⟩ := hG X cdv (X.env.qual ++ "<lambda>") rfl rfl rfl rfl rfl f c' s1 H1 Q (fun E H' Q' => t E σ H' Q') hr1
      (fun W pn xe E p1 p2 tk => pe_run (i := 0) I1 L of fn fo (hbind _ _ _ _ _) tk hr1 (fun A outer s H hr2 => hbody A outer s H E f c' hr2) hNg hva hd hcd) co (h H1 eN T1)
    exact ⟨t', ht.nox, hq⟩
  refine wpAny_call (codeAny_mono run fun r s2 z => ?_)
  match r, z with
  | .error e, z => exact (show False from z).elim
  | .ok (.ret u), z => exact I1.after z
  | .ok .next, z => exact z.elim
  | .ok .brk, z => exact z.elim
  | .ok .cont, z => exact z.elim
end
end LL

set_option Elab.async false
set_option linter.all false
set_option maxRecDepth 100000
set_option maxHeartbeats 2000000
/-! LLHead: defs of the text at any address of the written part; the Hook over them; facts as tests. -/
namespace LL
open PySem PySem.Spec PyProof.Rows L2
/-- a def: where it stands, what it is -/
structure DefX where
  adr : PySem.W.Frag → Addr
  name : Str
  qual : Str
  params : Arguments
  body : List Stmt
  scope : Scope
  dfl : PySem.W.Frag → List V := fun _ => []
def dX (adr : PySem.W.Frag → Addr) (name qual : Str) (st : Stmt) (dfl : List V := []) : DefX := ⟨adr, name, qual, defArgs st, defBody st, defScope st, fun _ => dfl⟩
/-- .. with defaults that lie in the written part -/
def dXK (adr : PySem.W.Frag → Addr) (name qual : Str) (st : Stmt) (dfl : PySem.W.Frag → List V) : DefX := ⟨adr, name, qual, defArgs st, defBody st, defScope st, dfl⟩
/-- the function object at a -/
def fdAt (K : PySem.W.Frag) (a : Addr) : Option FuncData := match K.lookup a with
  | some ⟨_, _, .func g, _⟩ => some g
  | _ => none
def shapeX (g : FuncData) : Str × Str × Arguments × FuncBody × Scope × Addr × List (Str × Addr) × Addr := (g.name, g.qualname, g.params, g.body, g.scope, g.globals, g.closure, g.builtins)
def DefX.shape (d : DefX) : Option (Str × Str × Arguments × FuncBody × Scope × Addr × List (Str × Addr) × Addr) := some (d.name, d.qual, d.params, .stmts d.body, d.scope, mainGlobals, [], builtinsNs)
def DefX.fine (K : PySem.W.Frag) (d : DefX) : Bool := PySem.W.keepIn K (.ref (d.adr K)) && ((fdAt K (d.adr K)).any fun g => PySem.W.codeIn K g.code d.qual && He.dflB K g.defaults (d.dfl K))
theorem fdAt_look {K : PySem.W.Frag} {a : Addr} {g : FuncData} (e : fdAt K a = some g) : ∃ oc od osl, K.lookup a = some ⟨oc, od, .func g, osl⟩ := by
  unfold fdAt at e
  split at e
  · rename_i c d z sl q
    cases e
    exact ⟨c, d, sl, q⟩
  · cases e
theorem DefX.fun_ {K : PySem.W.Frag} {d : DefX} (e : (fdAt K (d.adr K)).map shapeX = d.shape) (c : d.fine K = true) : ∃ fd, FunD K d.name d.qual d.params d.body d.scope (d.dfl K) [] (d.adr K) fd := by
  obtain ⟨kp, c2⟩ := He.ba c
  obtain ⟨g, eg, es⟩ := Option.map_eq_some_iff.mp e
  rw [eg] at c2
  obtain ⟨c3, c4⟩ := He.ba (show (PySem.W.codeIn K g.code d.qual && He.dflB K g.defaults (d.dfl K)) = true from c2)
  obtain ⟨oc, od, osl, lk⟩ := fdAt_look eg
  unfold shapeX at es
  simp only [Prod.mk.injEq] at es
  obtain ⟨e1, e2, e3, e4, e5, e6, e7, e8⟩ := es
  refine ⟨g, ⟨oc, od, g.defaults, g.kwdefaults, g.doc, g.pyModule, g.annotations, g.code, g.closureTuple, osl, ?_, lk, c3, He.dflB_ok c4, .inl rfl⟩, kp⟩
  obtain ⟨a1, a2, a3, a4, a5, a6, a7, a8, a9, a10, a11, a12, a13, a14, a15⟩ := g
  subst e1 e2 e3 e4 e5 e6 e7 e8
  rfl
/-! ### the Hook -/
abbrev AlX : Type := Bool × List (Option (Str × Str × Arguments × FuncBody × Scope × Addr × List (Str × Addr) × Addr))
def obsY (ft : List Ft) (fn : List DefX) (K : PySem.W.Frag) : AlX := ((ft.all fun f => f K) && fn.all fun d => d.fine K, fn.map fun d => (fdAt K (d.adr K)).map shapeX)
def valY (fn : List DefX) : AlX := (true, fn.map DefX.shape)
def SaysY (ft : List Ft) (fn : List DefX) (K : PySem.W.Frag) : Prop := obsY ft fn K = valY fn
def obsYG (n : Nat) (ft : List Ft) (fn : List DefX) (g : Addr → Option Obj) : AlX := obsY ft fn (He.frG g (He.asD g n))
def hookY (n : Nat) (ft : List Ft) (fn : List DefX) : PySem.W.Hook where
  α := AlX
  obs := fun s => obsYG n ft fn s.heap.get?
  val := fun _ => valY fn
  says := fun _ h => ∃ K : PySem.W.Frag, K.In h ∧ SaysY ft fn K
  of := fun _ _ e => ⟨_, He.frG_in, e⟩
  keeps := fun _ _ _ ⟨K, hK, c⟩ k => ⟨K, PySem.W.Frag.In.keeps hK k, c⟩
theorem obsYG_eq {n : Nat} {ft : List Ft} {fn : List DefX} {g : Addr → Option Obj} {s : Shared} (h : ∀ a, g a = s.heap.get? a) : obsYG n ft fn g = (hookY n ft fn).obs s := by
  cases (funext h : g = s.heap.get?)
  rfl
theorem SaysY.fact {ft : List Ft} {fn : List DefX} {K : PySem.W.Frag} (c : SaysY ft fn K) (i : Nat) {f : Ft} (h : ft[i]? = some f := by rfl) : f K = true := by
  have e : ((ft.all fun f => f K) && fn.all fun d => d.fine K) = true := congrArg Prod.fst c
  exact List.all_eq_true.mp (He.ba e).1 f (List.mem_of_getElem? h)
theorem SaysY.fn_ {ft : List Ft} {fn : List DefX} {K : PySem.W.Frag} (c : SaysY ft fn K) (i : Nat) {d : DefX} (h : fn[i]? = some d := by rfl) : ∃ fd, FunD K d.name d.qual d.params d.body d.scope (d.dfl K) [] (d.adr K) fd := by
  have e : ((ft.all fun f => f K) && fn.all fun d => d.fine K) = true := congrArg Prod.fst c
  have e1 : (fn.map fun d => (fdAt K (d.adr K)).map shapeX)[i]? = (fn.map DefX.shape)[i]? := congrArg (fun z : AlX => z.2[i]?) c
  rw [List.getElem?_map, List.getElem?_map, h] at e1
  exact DefX.fun_ (Option.some.inj e1) (List.all_eq_true.mp (He.ba e).2 d (List.mem_of_getElem? h))
/-! ### addresses and tests -/
/-- a global, a method, a property's getter -/
def gA (x : Str) (K : PySem.W.Frag) : Addr := He.ga K x
def mA (x m : Str) (K : PySem.W.Frag) : Addr := He.ma K (He.ga K x) m
def pA (x m : Str) (K : PySem.W.Frag) : Addr := match PySem.W.recIn K (mA x m K) "property" with
  | some (.ref g :: _) => g
  | _ => 0
def fGlo (x : Str) : Ft := fun K => (He.Fa.glo x).ok K
def fFree (x : Str) : Ft := fun K => (He.Fa.free x).ok K
def fCls (x : Str) : Ft := fun K => (He.Fa.cls x).ok K
def fNo (x f : Str) : Ft := fun K => (He.Fa.noat x f).ok K
def fMeth (x m : Str) : Ft := fun K => (He.Fa.meth x m).ok K
def fMkr (x : Str) : Ft := fun K => (He.Fa.mkr x).ok K
def fSame (a b : PySem.W.Frag → Option (Option Value)) : Ft := fun K => He.eqO (a K) (b K)
def fBool (a : PySem.W.Frag → Option Bool) (b : Bool) : Ft := fun K => decide (a K = some b)
def fProp (x m : Str) : Ft := fun K => He.eqO (PySem.W.findIn K (.ref (He.ga K x)) m) (some (some (.ref (mA x m K)))) && (He.eqO (PySem.W.specialIn K (.ref (mA x m K)) "__get__") (some (some (.builtin "property.__get__"))) && (decide (PySem.W.takesIn K (.ref (mA x m K)) = some true) &&
  (match PySem.W.recIn K (mA x m K) "property" with
  | some (.ref _ :: _) => true
  | _ => false)))
theorem fProp_ok {K : PySem.W.Frag} {x m : Str} (h : fProp x m K = true) : PropOf K (He.ga K x) m (mA x m K) (pA x m K) := by
  obtain ⟨h1, h2⟩ := He.ba h
  obtain ⟨h3, h4⟩ := He.ba h2
  obtain ⟨h5, h6⟩ := He.ba h4
  refine ⟨He.eqO_ok h1, He.eqO_ok h3, of_decide_eq_true h5, ?_⟩
  unfold pA
  split at h6
  · rename_i g rest q
    exact ⟨rest, by rw [q]⟩
  · cases h6
/-- an operator of the class x -/
def fOper (x : Str) (op : Operator) : Ft := fun K => PySem.W.selfFirst K (He.ga K x) && (He.eqO (PySem.W.findIn K (.ref (He.ga K x)) (PySem.dunder op.info.2)) (some (some (.ref (mA x (PySem.dunder op.info.2) K)))) && PySem.W.isFn K (.ref (mA x (PySem.dunder op.info.2) K)))
theorem fOper_ok {K : PySem.W.Frag} {x : Str} {op : Operator} (h : fOper x op K = true) : OpAt K (He.ga K x) op (mA x (PySem.dunder op.info.2) K) := by
  obtain ⟨h1, h2⟩ := He.ba h
  obtain ⟨h3, h4⟩ := He.ba h2
  exact ⟨h1, He.eqO_ok h3, h4⟩
def fOpInt (x : Str) (op : Operator) : Ft := fun K => He.eqO (PySem.W.findIn K (.ref (He.ga K x)) (PySem.dunderR op.info.2)) (some none) && ((PySem.W.findIn K (.type "int") (PySem.dunder op.info.2)).isSome && ((PySem.W.findIn K (.type "int") (PySem.dunderR op.info.2)).isSome && decide (PySem.W.subIn K (.type "int") (.ref (He.ga K x)) = some false)))
theorem fOpInt_ok {K : PySem.W.Frag} {x : Str} {op : Operator} (h : fOpInt x op K = true) : OpInt K (He.ga K x) op := by
  obtain ⟨h1, h2⟩ := He.ba h
  obtain ⟨h3, h4⟩ := He.ba h2
  obtain ⟨h5, h6⟩ := He.ba h4
  exact ⟨He.eqO_ok h1, Option.isSome_iff_exists.mp h3, Option.isSome_iff_exists.mp h5, of_decide_eq_true h6⟩
/-- a special method of the class x -/
def fSpec (x m : Str) : Ft := fun K => He.eqO (PySem.W.findIn K (.ref (He.ga K x)) m) (some (some (.ref (mA x m K)))) && PySem.W.isFn K (.ref (mA x m K))
theorem fSpec_ok {K : PySem.W.Frag} {x m : Str} (h : fSpec x m K = true) : PySem.W.findIn K (.ref (He.ga K x)) m = some (some (.ref (mA x m K))) ∧ PySem.W.isFn K (.ref (mA x m K)) = true := by
  obtain ⟨h1, h2⟩ := He.ba h
  exact ⟨He.eqO_ok h1, h2⟩
end LL

set_option Elab.async false
set_option linter.all false
set_option maxRecDepth 100000
set_option maxHeartbeats 2000000
/-! LLTab: the law's end, and the head's Hook, where some defs make lambdas (tables of code objects). -/
namespace LL
open PySem PySem.Spec PyProof.Rows L2 LamX
/-! ### a def by its body, its code object known -/
section
variable {P : Program} {w : World} {K : PySem.W.Frag} {mg : Str → Option Value} {base : Heap} {CX : CXT} {k : Nat} {f : Addr} {fd : FuncData} {ps : List Str} {sp : Sp}
theorem okC {x qual : Str} {params : Arguments} {body : List Stmt} {scope : Scope} {dvs : List V} {kws : List (Str × V)} {N : List Str} (F : FunD K x qual params body scope dvs kws f fd) (S : FnScope N ps scope) (len : ∀ vs H Q E, sp vs H Q E → vs.length = ps.length)
    (hbody : ∀ (cdv : Value), (fdAt K f).map FuncData.code = some cdv → ∀ (A : Around) (outer : List Env) (s : Shared) (H : Hp) (vs : List V) (Q : VK) (E : XK), Rm k (A.deeper (envOfC qual scope s.heap.objs.size f cdv)) → sp vs H Q E →
      ∃ t, PSs (cxOf CX0 P w K mg base N qual scope f cdv A outer s H E).nox body t ∧ t { nx := fun _ H' => Q .non H', rt := Q } (L2.start N vs) H) : FnG P w K mg base CX0 (k + 1) f fd ps sp := by
  obtain ⟨oc, od, dV, kV, doc, pm, an, cdv, ct, osl, rfl, lk, hcd, _, _⟩ := F.ex
  have ec : (fdAt K f).map FuncData.code = some cdv := by
    unfold fdAt
    rw [lk]
    rfl
  refine ⟨len, fun A outer s H args us vs Q E hr e0 hb r hsp => ?_⟩
  refine LamX.run_ofS (CX := CX0) lk hcd S hr.r e0 hb r (len _ _ _ _ hsp) fun _ => ?_
  obtain ⟨t, ht, q⟩ := hbody cdv ec A outer s H vs Q E (hr.deeper _) hsp
  exact ⟨t, ht.nox, q⟩
end
/-- the code object of the def at a, its table -/
def cOf (K : PySem.W.Frag) (a : Addr) : Addr := match (fdAt K a).map FuncData.code with
  | some (Value.ref c) => c
  | _ => 0
theorem cOf_of {K : PySem.W.Frag} {a c : Addr} (e : (fdAt K a).map FuncData.code = some (Value.ref c)) : cOf K a = c := by
  unfold cOf
  rw [e]
def tOf (K : PySem.W.Frag) (a : Addr) : Addr := He.tabOf K (cOf K a)
/-! ### the law's call -/
section
variable {P : Program} {w : World} {K : PySem.W.Frag} {mg mb : Str → Option Value} {CX : CXT} {k : Nat} {fa a : Addr} {fd : FuncData} {x : Str} {sp : Sp} {t : Shared} {us : List Value} {ns : List Int} {cs : List (Addr × Addr)}
/-- an empty table -/
abbrev tab0 : Obj := { cls := .none, data := .fields #[] }
theorem lawAtT {H : Hp} (KX : K.In t.heap) (hns : t.heap.Ns mainGlobals mg) (hb : t.heap.Ns builtinsNs mb) (hbb : ∀ x : Str, x ≠ "__name__" → mb x = bootBuiltins x) (hlim : t.heap.NoLimit) (hg : t.gens = #[])
    (tT : ∀ p ∈ cs, t.heap.get? p.2 = some tab0) (tK : ∀ p ∈ cs, K.lookup p.2 = none) (tC : ∀ p ∈ cs, PySem.W.codeHdIn K p.1 p.2 = true)
    (bm : ∃ (m : Addr) (om : Obj), mg "__builtins__" = some (.ref m) ∧ m ≠ builtinsNs ∧ t.heap.get? m = some om ∧ om.cls = .type "module" ∧ om.dict = some builtinsNs ∧ om.data = .plain)
    (ha : t.heap.get? a = some { cls := .type "list", data := .seq us.toArray }) (hr : Rm k callerA) (F : ∀ base : Heap, K.In base → base.Ns mainGlobals mg → (∀ p ∈ cs, TabB base mg p.1 p.2) → FnG P w K mg base CX k fa fd [x] sp)
    (bd : ∀ (s : Shared) (u : Value), BindsTo s fd ⟨[u], []⟩ [(x, u)]) (hsp : sp [.ref a] H (fun v _ => v = .bl true) fun _ _ _ => False) (hCX : ∀ e s', CX [] H t (fun _ _ _ => False) e s' → False)
    (only : ∀ b, H b = none ∨ (b = a ∧ K.lookup a = none ∧ ∃ o l, H b = some (.frz o (.lst l))) ∨ ∃ p ∈ cs, b = p.2 ∧ H b = some (.tbl #[])) (hok : HOk P w H t.heap) : codeAny (model P w) callerA (.call (.ref fa) ⟨[.ref a], []⟩) (LawEnd t) t := by
  -- what is neither a list nor a table is free
  have free : ∀ {b : Addr} {o : Obj}, t.heap.get? b = some o → (∀ vs m, o.data ≠ .seq vs m) → (o.data ≠ .fields #[]) → H b = none := fun {b o} e n1 n2 => by
    rcases only b with z | ⟨rfl, _, _⟩ | ⟨p, hp, rfl, _⟩
    · exact z
    · rw [ha] at e
      cases e
      exact (n1 _ _ rfl).elim
    · rw [tT p hp] at e
      cases e
      exact (n2 rfl).elim
  have nsB : ∀ {b : Addr} {m : Str → Option Value}, t.heap.Ns b m → (hidT t.heap H).Ns b m := by
    rintro b m ⟨o, es, ep, e, d, r⟩
    refine ⟨o, es, ep, hidT_get e (free e (fun vs m z => ?_) fun z => ?_), d, r⟩ <;> rw [d] at z <;> cases z
  have kB : K.In (hidT t.heap H) := by
    intro b o e
    refine hidT_get (KX b o e) ?_
    rcases only b with z | ⟨z, q, _⟩ | ⟨p, hp, z, _⟩
    · exact z
    · rw [z, q] at e
      cases e
    · rw [z, tK p hp] at e
      cases e
  have TB : ∀ p ∈ cs, TabB (hidT t.heap H) mg p.1 p.2 := fun p hp => by
    refine ⟨PySem.W.codeHd_of_K kB (tC p hp), ?_, fun z => ?_⟩
    · obtain ⟨m, om, m1, m2, m3, m4, m5, m6⟩ := bm
      refine ⟨m, om, m1, m2, fun z => ?_, fun z => ?_, hidT_get m3 (free m3 (fun vs n z => ?_) fun z => ?_), m4, m5, m6⟩
      · obtain ⟨o, es, ep, e, d, _⟩ := hns
        rw [z, e] at m3
        cases m3
        rw [d] at m6
        cases m6
      · rw [z, tT p hp] at m3
        cases m3
        cases m6
      · rw [m6] at z
        cases z
      · rw [m6] at z
        cases z
    · obtain ⟨o, es, ep, e, d, _⟩ := hns
      rw [z, tT p hp] at e
      cases e
      cases d
  obtain ⟨ml, l1, l2⟩ := hlim
  have env : Env0 P w K mg (hidT t.heap H) callerA [] t H :=
    { frames := rfl
      mod := ⟨kB, nsB hns, ⟨mb, nsB hb, hbb⟩, ⟨ml, nsB l1, l2⟩⟩
      bs := fun _ _ e => of_hidT e
      bsz := Nat.le_of_eq (hidT_size _ _)
      funs := trivial
      frf := fun _ z => by cases (show _ ∈ ([] : List Addr) from z)
      hok := hok
      bare := .of_eq hg }
  have go := (F _ kB (nsB hns) TB).run callerA [] t H ⟨[.ref a], []⟩ [.ref a] [.ref a] _ _ hr env (bd t (.ref a)) (.cons rfl .nil) hsp
  refine codeAny_mono go fun r t' h => ?_
  match r, h with
  | .error e, h => exact (hCX e t' h).elim
  | .ok .next, h => exact False.elim h
  | .ok .brk, h => exact False.elim h
  | .ok .cont, h => exact False.elim h
  | .ok (.ret u), h =>
    obtain ⟨v, H', e1, e2, un, hok', rv, (rfl : v = .bl true)⟩ := h
    cases (show u = Value.bool true from rv)
    have key : ∀ b o, t.heap.get? b = some o → t'.heap.get? b = some o ∨ ∃ p ∈ cs, b = p.2 ∧ o = tab0 ∧ ∃ more : Array Value, t'.heap.get? b = some { cls := .none, data := .fields more } := fun b o e => by
      rcases only b with n | ⟨_, _, ob, l, z⟩ | ⟨p, hp, rfl, z⟩
      · exact .inl (un.keep b o e n (fun z => by cases (show b ∈ ([] : List Addr) from z)) (fun z => by cases z))
      · have z1 := (hok b _ z).1
        have z2 := (hok' b _ (un.frzs b ob _ z)).1
        rw [e] at z1
        cases z1
        exact .inl z2
      · obtain ⟨more, y⟩ := un.tbls p.2 #[] z
        have y2 := tT p hp
        rw [e] at y2
        exact .inr ⟨p, hp, rfl, Option.some.inj y2, _, hok' p.2 _ y⟩
    refine ⟨rfl, ⟨fun b o e => ?_, fun b o e => ?_⟩, e1, e2⟩
    · rcases key b o e with z | ⟨p, hp, rfl, rfl, more, z⟩
      · exact .inl z
      · exact .inr (.inl ⟨((PySem.W.codeHd_of_K KX (tC p hp)).tab (tT p hp)).isCodeTable, rfl, #[], more, rfl, by rw [Array.empty_append]; exact z⟩)
    · rcases key b o e with z | ⟨p, hp, rfl, rfl, more, z⟩
      · exact ⟨o, z⟩
      · exact ⟨_, z⟩
theorem lawT (KX : K.In t.heap) (hns : t.heap.Ns mainGlobals mg) (hb : t.heap.Ns builtinsNs mb) (hbb : ∀ x : Str, x ≠ "__name__" → mb x = bootBuiltins x) (hlim : t.heap.NoLimit) (hg : t.gens = #[])
    (tT : ∀ p ∈ cs, t.heap.get? p.2 = some tab0) (tK : ∀ p ∈ cs, K.lookup p.2 = none) (tC : ∀ p ∈ cs, PySem.W.codeHdIn K p.1 p.2 = true)
    (bm : ∃ (m : Addr) (om : Obj), mg "__builtins__" = some (.ref m) ∧ m ≠ builtinsNs ∧ t.heap.get? m = some om ∧ om.cls = .type "module" ∧ om.dict = some builtinsNs ∧ om.data = .plain)
    (ha : t.heap.get? a = some { cls := .type "list", data := .seq us.toArray }) (hi : IntsAre us ns) (hl : ns.length ≤ sizeLine) (hr : Rm k callerA) (F : ∀ base : Heap, K.In base → base.Ns mainGlobals mg → (∀ p ∈ cs, TabB base mg p.1 p.2) → FnG P w K mg base CX k fa fd [x] sp)
    (bd : ∀ (s : Shared) (u : Value), BindsTo s fd ⟨[u], []⟩ [(x, u)]) (hsp : ∀ H : Hp, (∀ p ∈ cs, H p.2 = some (.tbl #[])) → SqL K H a (ns.map V.int) → sp [.ref a] H (fun v _ => v = .bl true) fun _ _ _ => False) (hCX : ∀ H e s', CX [] H t (fun _ _ _ => False) e s' → False) :
    codeAny (model P w) callerA (.call (.ref fa) ⟨[.ref a], []⟩) (LawEnd t) t := by
  classical
  have rv := vals_ints hi
  have na : ∀ p ∈ cs, p.2 ≠ a := fun p hp z => by
    have e := tT p hp
    rw [z, ha] at e
    cases e
  let T : Hp := fun b => if ∃ p ∈ cs, b = p.2 then some (.tbl #[]) else none
  have T1 : ∀ p ∈ cs, T p.2 = some (.tbl #[]) := fun p hp => if_pos ⟨p, hp, rfl⟩
  have T2 : ∀ b u, T b = some u → (∃ p ∈ cs, b = p.2) ∧ u = .tbl #[] := fun b u e => by
    by_cases c : ∃ p ∈ cs, b = p.2
    · have e' : some (HO.tbl #[]) = some u := (if_pos c).symm.trans e
      exact ⟨c, (Option.some.inj e').symm⟩
    · have e' : none = some u := (if_neg c).symm.trans e
      cases e'
  have T3 : ∀ b, T b = none ∨ ∃ p ∈ cs, b = p.2 ∧ T b = some (.tbl #[]) := fun b => by
    by_cases c : ∃ p ∈ cs, b = p.2
    · obtain ⟨p, hp, e⟩ := c
      exact .inr ⟨p, hp, e, e ▸ T1 p hp⟩
    · exact .inl (if_neg c)
  have T4 : HOk P w T t.heap := fun b u e => by
    obtain ⟨⟨p, hp, rfl⟩, rfl⟩ := T2 b u e
    exact tT p hp
  cases q : K.lookup a with
  | none =>
    let o : Obj := { cls := .type "list", data := .seq us.toArray }
    have Ha : upd T a (.frz o (.lst (ns.map V.int))) a = some (.frz o (.lst (ns.map V.int))) := upd_same
    refine lawAtT (H := upd T a (.frz o (.lst (ns.map V.int)))) KX hns hb hbb hlim hg tT tK tC bm ha hr F bd (hsp _ (fun p hp => ?_) (.inl (.inr ⟨_, Ha⟩))) (hCX _) (fun b => ?_) fun b u z => ?_
    · rw [upd_ne (na p hp)]
      exact T1 p hp
    · by_cases c : b = a
      · exact .inr (.inl ⟨c, q, o, _, by rw [c]; exact Ha⟩)
      · rw [upd_ne c]
        exact (T3 b).imp id fun z => .inr z
    · by_cases c : b = a
      · subst c
        rw [Ha] at z
        cases z
        exact ⟨ha, by rw [List.length_map]; exact hl, us, _, rv, ha⟩
      · rw [upd_ne c] at z
        obtain ⟨⟨p, hp, rfl⟩, rfl⟩ := T2 b u z
        exact tT p hp
  | some o =>
    have e := KX a o q
    rw [ha] at e
    cases e
    refine lawAtT (H := T) KX hns hb hbb hlim hg tT tK tC bm ha hr F bd (hsp _ T1 (.inr ⟨_, us.toArray, _, q, rfl, rfl, rfl, ?_, by simpa using rv⟩)) (hCX _) (fun b => (T3 b).imp id fun z => .inr z) T4
    rw [List.size_toArray, hi.length]
    exact hl
end
/-- the goal that the head leaves, from the law's promise -/
theorem walkT {l : PySem.W.OpenLaw} {n k : Nat} {q : Program} {loose : List Str} {XP : (Str → Option Value) → Heap → Prop} {YP : World → Heap → Prop} {d : DefRec} {CX : CXT} {x : Str} (hn : l.most = some n) (hn2 : n ≤ sizeLine) (hdf : d.params.defaults = []) (hr : Rm k callerA)
    (F : ∀ (w : World) (mg : Str → Option Value) (fa : Addr) (h : Heap), YP w h → h.Ns mainGlobals mg → mg d.name = some (.ref fa) →
      ∃ (K : PySem.W.Frag) (fd : FuncData) (sp : Sp) (cs : List (Addr × Addr)), K.In h ∧ (∀ p ∈ cs, h.get? p.2 = some tab0) ∧ (∀ p ∈ cs, K.lookup p.2 = none) ∧ (∀ p ∈ cs, PySem.W.codeHdIn K p.1 p.2 = true) ∧ (∀ (s : Shared) (u : Value), BindsTo s fd ⟨[u], []⟩ [(x, u)]) ∧
        (∀ (H : Hp) (a : Addr) (ns : List Int), ns.length ≤ n → (∀ i ∈ ns, Builtin.Int.intBits i ≤ 1048576) → (∀ p ∈ cs, H p.2 = some (.tbl #[])) → SqL K H a (ns.map V.int) → sp [.ref a] H (fun v _ => v = .bl true) fun _ _ _ => False) ∧
        ∀ base : Heap, K.In base → base.Ns mainGlobals mg → (∀ p ∈ cs, TabB base mg p.1 p.2) → FnG l.prog w K mg base CX k fa fd [x] sp)
    (hCX : ∀ (H : Hp) (s : Shared) (e : Value) (s' : Shared), CX [] H s (fun _ _ _ => False) e s' → False) : PySem.W.WalkO q loose XP YP l.row.toRowW d [] (fun f vs => PySem.call f vs) := by
  refine Att.attach_callB hn hdf fun w _ t mg mb fa _ _ _ _ a us ns G Y _ _ _ hm ho hi hlen hbits hg => ?_
  obtain ⟨K, fd, sp, cs, KX, tT, tK, tC, bd, hs, hF⟩ := F w mg fa _ Y G.T.g hm
  exact lawT KX G.T.g G.T.b G.T.builtins G.T.nolimit hg tT tK tC G.T.bmain ho hi (Nat.le_trans hlen hn2) hr hF bd (fun H hT hS => hs H a ns hlen hbits hT hS) fun H e s' => hCX H t e s'
/-! ### the Hook -/
/-- what the module's names reach in n steps, and the statics -/
def asY (g : Addr → Option Obj) : Nat → List Addr
  | 0 => [mainGlobals, cStatics]
  | n + 1 => He.growD g (asY g n)
def frY (n : Nat) (g : Addr → Option Obj) : PySem.W.Frag := He.frT g (asY g n)
def tabY (g : Addr → Option Obj) (tf : List (PySem.W.Frag → Addr)) (K : PySem.W.Frag) : Bool := tf.all fun a => PySem.W.codeHdIn K (cOf K (a K)) (tOf K (a K)) && (g (tOf K (a K))).any He.emptyTab
abbrev AlT : Type := AlX × Bool
def obsTG (n : Nat) (ft : List Ft) (fn : List DefX) (tf : List (PySem.W.Frag → Addr)) (g : Addr → Option Obj) : AlT := (obsY ft fn (frY n g), tabY g tf (frY n g))
structure SaysT (ft : List Ft) (fn : List DefX) (tf : List (PySem.W.Frag → Addr)) (h : Heap) (K : PySem.W.Frag) : Prop where
  y : SaysY ft fn K
  hd : ∀ a ∈ tf, PySem.W.codeHdIn K (cOf K (a K)) (tOf K (a K)) = true
  out : ∀ a ∈ tf, K.lookup (tOf K (a K)) = none
  emp : ∀ a ∈ tf, h.get? (tOf K (a K)) = some tab0
theorem saysT_of {n : Nat} {ft : List Ft} {fn : List DefX} {tf : List (PySem.W.Frag → Addr)} {h : Heap} (e : obsTG n ft fn tf h.get? = (valY fn, true)) : SaysT ft fn tf h (frY n h.get?) := by
  have e1 : obsY ft fn (frY n h.get?) = valY fn := congrArg Prod.fst e
  have e2 : tabY h.get? tf (frY n h.get?) = true := congrArg Prod.snd e
  have key : ∀ a ∈ tf, PySem.W.codeHdIn (frY n h.get?) (cOf (frY n h.get?) (a (frY n h.get?))) (tOf (frY n h.get?) (a (frY n h.get?))) = true ∧ ∃ o, h.get? (tOf (frY n h.get?) (a (frY n h.get?))) = some o ∧ He.emptyTab o = true := fun a ha => by
    obtain ⟨h1, h2⟩ := He.ba (List.all_eq_true.mp e2 a ha)
    cases q : h.get? (tOf (frY n h.get?) (a (frY n h.get?))) with
    | none =>
      rw [q] at h2
      cases h2
    | some o =>
      rw [q] at h2
      exact ⟨h1, o, rfl, h2⟩
  refine ⟨e1, fun a ha => (key a ha).1, fun a ha => ?_, fun a ha => ?_⟩
  · obtain ⟨_, o, q, z⟩ := key a ha
    exact He.frT_none q z
  · obtain ⟨_, o, q, z⟩ := key a ha
    rw [q, He.emptyTab_eq z]
def hookT (n : Nat) (ft : List Ft) (fn : List DefX) (tf : List (PySem.W.Frag → Addr)) : PySem.W.Hook where
  α := AlT
  obs := fun s => obsTG n ft fn tf s.heap.get?
  val := fun _ => (valY fn, true)
  says := fun _ h => ∃ K : PySem.W.Frag, K.In h ∧ SaysT ft fn tf h K
  of := fun _ _ e => ⟨_, He.frT_in, saysT_of e⟩
  keeps := fun _ _ _ ⟨K, hK, c⟩ k => ⟨K, PySem.W.Frag.In.keeps hK k, ⟨c.y, c.hd, c.out, fun a ha => k _ _ (c.emp a ha)⟩⟩
theorem obsTG_eq {n : Nat} {ft : List Ft} {fn : List DefX} {tf : List (PySem.W.Frag → Addr)} {g : Addr → Option Obj} {s : Shared} (h : ∀ a, g a = s.heap.get? a) : obsTG n ft fn tf g = (hookT n ft fn tf).obs s := by
  cases (funext h : g = s.heap.get?)
  rfl
/-! ### an error class of the text, over ValueError -/
def oexB (K : PySem.W.Frag) (C : Addr) : Bool := match K.lookup C with
  | some ⟨.type c, _, .cls cd, sl⟩ => c == "type" && (match cd.mro, sl.toList with
    | .ref D :: bm, [_, _, _, _, some (.builtin n), _] => D == C && (n == "ValueError.__new__" && (!cd.hasDel && (cd.hasDict && PySem.HandSPX.refsVE bm)))
    | _, _ => false)
  | _ => false
theorem oexB_ok {K : PySem.W.Frag} {C : Addr} (h : oexB K C = true) : ∃ nm q N bs bm sn sub ab col dd k0 k1 k2 k3 k5, K.lookup C = some (excClassObj nm q C N bs bm true sn sub ab col dd k0 k1 k2 k3 k5 "ValueError.__new__") ∧ PySem.HandSPX.refsVE bm = true := by
  unfold oexB at h
  split at h
  · rename_i c dd cd sl lk
    obtain ⟨h1, h2⟩ := He.ba h
    split at h2
    · rename_i D bm k0 k1 k2 k3 n k5 hm hs
      obtain ⟨g1, g2⟩ := He.ba h2
      obtain ⟨g3, g4⟩ := He.ba g2
      obtain ⟨g5, g6⟩ := He.ba g4
      obtain ⟨g7, g8⟩ := He.ba g6
      obtain ⟨c1, c2, c3, c4, c5, c6, c7, c8, c9, c10, c11⟩ := cd
      have es : sl = #[k0, k1, k2, k3, some (.builtin n), k5] := by
        have : sl = sl.toList.toArray := by simp
        rw [this, hs]
      have e1 : c = "type" := beq_iff_eq.mp h1
      have e2 : D = C := beq_iff_eq.mp g1
      have e3 : n = "ValueError.__new__" := beq_iff_eq.mp g3
      have e4 : c11 = false := by simpa using g5
      have e5 : c6 = true := g7
      have e6 : c3 = .ref D :: bm := hm
      subst es e1 e2 e3 e4 e5 e6
      exact ⟨_, _, _, _, _, _, _, _, _, _, _, _, _, _, _, lk, g8⟩
    · cases h2
  · cases h
/-- all that is asked of an error class x with the field f -/
def fXcl (x f : Str) : Ft := fun K => oexB K (He.ga K x) && (He.eqO (PySem.W.findIn K (.ref (He.ga K x)) "__setattr__") (some (some (.builtin "object.__setattr__"))) && (decide (PySem.W.subIn K (.ref (He.ga K x)) (.type "BaseException") = some true) && (decide (PySem.W.typeIn K (.ref (He.ga K x)) = some (.type "type")) &&
  (PySem.W.keepIn K (.ref (He.ga K x)) && (He.eqO (PySem.W.findIn K (.ref (He.ga K x)) f) (some none) && (He.eqO (PySem.W.findIn K (.ref (He.ga K x)) "__init__") (some (some (.ref (mA x "__init__" K)))) && (decide (PySem.W.typeIn K (.ref (mA x "__init__" K)) = some (.type "function")) &&
  (xfB K (He.ga K x) && (He.eqO (PySem.W.findIn K (.ref (He.ga K x)) "__class__") (some (some (.builtin "object.__class__"))) && (He.eqO (PySem.W.specialIn K (.builtin "object.__class__") "__get__") (some (some (.builtin "getset_descriptor.__get__"))) && (decide (PySem.W.takesIn K (.builtin "object.__class__") = some true) && decide (PySem.W.mroIn K (He.ga K x) (.type "object") = some true))))))))))))
theorem fXcl_ok {P : Program} {w : World} {K : PySem.W.Frag} {mg : Str → Option Value} {base : Heap} {k : Nat} {x f : Str} {fd : FuncData} {ps : List Str} (c : fXcl x f K = true) (hm : mg x = some (.ref (He.ga K x))) (B : Binds K fd ps []) (F : FnOk P w K mg base CX0 k (mA x "__init__" K) fd ps (spXI (He.ga K x) f)) :
    Xcl P w K mg base k x (He.ga K x) f := by
  obtain ⟨c1, c⟩ := He.ba c
  obtain ⟨c2, c⟩ := He.ba c
  obtain ⟨c3, c⟩ := He.ba c
  obtain ⟨c4, c⟩ := He.ba c
  obtain ⟨c5, c⟩ := He.ba c
  obtain ⟨c6, c⟩ := He.ba c
  obtain ⟨c7, c⟩ := He.ba c
  obtain ⟨c8, c⟩ := He.ba c
  obtain ⟨c9, c⟩ := He.ba c
  obtain ⟨c10, c⟩ := He.ba c
  obtain ⟨c11, c⟩ := He.ba c
  obtain ⟨c12, c13⟩ := He.ba c
  have xf := xfB_ok c9
  exact ⟨⟨oexB_ok c1, He.eqO_ok c2, of_decide_eq_true c3, of_decide_eq_true c4, c5⟩, He.eqO_ok c6, hm, ⟨_, fd, ps, He.eqO_ok c7, of_decide_eq_true c8, B, F⟩, xf, ⟨xf.ga, xf.gg, xf.exC, xf.hdC, He.eqO_ok c10, He.eqO_ok c11, of_decide_eq_true c12, of_decide_eq_true c13⟩⟩
theorem fXcl_pre {K : PySem.W.Frag} {x f : Str} (c : fXcl x f K = true) : OexC K (He.ga K x) ∧ PySem.W.findIn K (.ref (He.ga K x)) f = some none := by
  obtain ⟨c1, c⟩ := He.ba c
  obtain ⟨c2, c⟩ := He.ba c
  obtain ⟨c3, c⟩ := He.ba c
  obtain ⟨c4, c⟩ := He.ba c
  obtain ⟨c5, c⟩ := He.ba c
  obtain ⟨c6, _⟩ := He.ba c
  exact ⟨⟨oexB_ok c1, He.eqO_ok c2, of_decide_eq_true c3, of_decide_eq_true c4, c5⟩, He.eqO_ok c6⟩
/-- the class B over ValueError that has no __init__ of its own -/
def fLe (x : Str) : Ft := fun K => He.eqO (PySem.W.specialIn K (.ref (He.ga K x)) "__getattribute__") (some (some (.builtin "type.__getattribute__"))) && (PySem.W.readsIn K (He.ga K x) (.type "type") && (match PySem.W.findCls K (.ref (He.ga K x)) (.type "type") "__init__" with
  | some (.val (.builtin n)) => n == "ValueError.__init__"
  | _ => false))
theorem fLe_ok {K : PySem.W.Frag} {x : Str} (c : fLe x K = true) : LeC K (He.ga K x) := by
  obtain ⟨c1, c⟩ := He.ba c
  obtain ⟨c2, c3⟩ := He.ba c
  refine ⟨He.eqO_ok c1, c2, ?_⟩
  split at c3
  · rename_i n e
    rw [e, beq_iff_eq.mp c3]
  · cases c3
end LL

set_option Elab.async false
set_option linter.all false
set_option maxRecDepth 100000
set_option maxHeartbeats 2000000
/-! LLVal: values that are refused, and how repr tells them; heaps with tables; constants of the module. -/
namespace LL
open PySem PySem.Spec PyProof.Rows L2
theorem small {n : Nat} (h : n ≤ 100000) : n ≤ sizeLine := Nat.le_trans h (by rw [sizeLine_eq]; decide)
theorem passF {X : Cx} : Passes (L2.CX X.prog X.w) X E0 := fun _ _ _ _ _ _ _ h => by
  obtain ⟨_, _, _, _, _, _, _, _, _, _, _, _, z⟩ := h
  exact z.elim
/-- a constant of the module -/
theorem pe_gS {X : Cx} {x z : Str} {pos : Pos} (h : ∃ t, X.mg x = some (.str z t)) (hg : Gl X x := by rfl) (hd : (x == ("__debug__" : Str)) = false := by decide) : PE X (.Name x pos) (tC (.str z)) := by
  obtain ⟨t, h⟩ := h
  exact pe_glob hg h ⟨t, rfl⟩ hd
theorem pe_gI {X : Cx} {x : Str} {i : Int} {pos : Pos} (h : ∃ t, X.mg x = some (.int i t)) (hg : Gl X x := by rfl) (hd : (x == ("__debug__" : Str)) = false := by decide) : PE X (.Name x pos) (tC (.int i)) := by
  obtain ⟨t, h⟩ := h
  exact pe_glob hg h ⟨t, rfl⟩ hd
def fStr (x z : Str) : Ft := fun K => (He.Fa.str x z).ok K
def fInt (x : Str) (i : Int) : Ft := fun K => (He.Fa.int x i).ok K
/-- a value that is no text -/
def NoTxt (K : PySem.W.Frag) (H : Hp) (v : V) : Prop := ∃ t, (∀ H', LamX.ExtN H H' → TyX K H' v t) ∧ PySem.W.kitOne K t (.type "str") = some false
theorem NoTxt.ext {K : PySem.W.Frag} {H H' : Hp} {v : V} (h : NoTxt K H v) (s : LamX.ExtN H H') : NoTxt K H' v := let ⟨t, a, b⟩ := h; ⟨t, fun H2 s2 => a H2 (s.trans s2), b⟩
theorem NoTxt.same {K : PySem.W.Frag} {H H' : Hp} {v : V} (h : NoTxt K H v) (s : Same H H') : NoTxt K H' v := h.ext (.of s)
/-- an error with this value -/
def Err (Cx : Addr) (H : Hp) (v : V) (E : XK) : Prop := ∀ H' d, Same H H' → H d = none → H' d = some (.xd [("value", v)]) → E (.ref Cx) (some d) H'
theorem Err.now {Cx : Addr} {H : Hp} {v : V} {E : XK} (h : Err Cx H v E) : ∀ d, H d = none → E (.ref Cx) (some d) (upd H d (.xd [("value", v)])) := fun d hd => h _ d (same_upd hd) hd upd_same
theorem Err.same {Cx : Addr} {H H1 : Hp} {v : V} {E : XK} (h : Err Cx H v E) (s : Same H H1) : Err Cx H1 v E := fun H' d s2 hd e => h H' d (s.trans s2) (s.free hd) e
theorem kStr {K : PySem.W.Frag} : PySem.W.kitOne K (.type "str") (.type "str") = some true := kit_ty (by decide +kernel)
/-! ### heaps with tables -/
def ButN (p : Addr) (H H' : Hp) : Prop := ∀ b o, H b = some o → b ≠ p → (∀ ps, o ≠ .tbl ps) → H' b = some o
theorem ButN.trans {p : Addr} {H H1 H2 : Hp} (a : ButN p H H1) (b : ButN p H1 H2) : ButN p H H2 := fun c o e n t => b c o (a c o e n t) n t
theorem ButN.of {p : Addr} {H H' : Hp} (a : But p H H') : ButN p H H' := fun c o e n _ => a c o e n
theorem ButN.ext {p : Addr} {H H' : Hp} (a : LamX.ExtN H H') : ButN p H H' := fun c o e _ t => a c o e t
theorem ButN.same {p : Addr} {H H' : Hp} (a : Same H H') : ButN p H H' := fun c o e _ _ => a c o e
theorem lst_ext {H H' : Hp} {l : Addr} {xs : List V} (h : H l = some (.lst xs)) (b : LamX.ExtN H H') : H' l = some (.lst xs) := b _ _ h (fun _ z => by cases z)
theorem tabs_kp {T : List (Addr × Str)} {H H' : Hp} (t : LamX.Tabs T H) (k : Kp H H') : LamX.Tabs T H' := fun p hp => by
  obtain ⟨ps, h1, h2, h3⟩ := t p hp
  refine ⟨ps, k _ _ h1 (fun _ z => by cases z), h2, fun pos cv hc => ?_⟩
  obtain ⟨c, e1, e2⟩ := h3 pos cv hc
  exact ⟨c, e1, k _ _ e2 (fun _ z => by unfold LamX.CodeO at z; cases z)⟩
theorem tabs_same {T : List (Addr × Str)} {H H' : Hp} (t : LamX.Tabs T H) (k : Same H H') : LamX.Tabs T H' := tabs_kp t (Kp.of k)
theorem asc_okt {z : Str} (h : PyData.strOk z = true) : Asc z := fun c hc => Nat.lt_trans (okt_iff.mp h c hc) (by decide)
theorem log_small {n : Int} (h : n.natAbs < 2 ^ 100) : n.natAbs.log2 < 1920 := Nat.lt_of_lt_of_le (PySem.Flt.log2_lt_of (by decide) h) (by decide)
section
variable {K : PySem.W.Frag}
theorem dq_of {H : Hp} {v : V} {d : PyData} (h : Dp K H v d) (s : Shw d) (p : d.depth ≤ 40) (c : cost d ≤ sizeLine) : Dq K H v d := .dat h s p c
/-- told by repr as d, whatever else is made -/
def Tld (K : PySem.W.Frag) (H : Hp) (v : V) (d : PyData) : Prop := PyData.strOk d.shown = true ∧ ∀ H', LamX.ExtN H H' → Dq K H' v d
theorem Tld.ext {H H' : Hp} {v : V} {d : PyData} (h : Tld K H v d) (s : LamX.ExtN H H') : Tld K H' v d := ⟨h.1, fun H2 s2 => h.2 H2 (s.trans s2)⟩
theorem okt_int (i : Int) : PyData.strOk (PyData.shown (.int i)) = true := by
  simp only [PyData.shown]
  exact okt_of _
theorem tld_non {H : Hp} : Tld K H .non .none := ⟨by decide +kernel, fun _ _ => dq_of .non (by simp only [Shw]) (by decide +kernel) (by decide +kernel)⟩
theorem tld_bl {H : Hp} (b : Bool) : Tld K H (.bl b) (.bool b) := ⟨by cases b <;> decide +kernel, fun _ _ => dq_of (.bl b) (by simp only [Shw]) (by cases b <;> decide +kernel) (by cases b <;> decide +kernel)⟩
theorem tld_int {H : Hp} {i : Int} (h : i.natAbs < 2 ^ 100) : Tld K H (.int i) (.int i) := by
  refine ⟨okt_int i, fun _ _ => dq_of (.int i) (by simp only [Shw]; exact log_small h) ?_ ?_⟩
  · simp only [PyData.depth]
    decide
  · simp only [cost]
    exact small (by decide)
theorem tld_zero {H : Hp} : Tld K H (.str "0") (.str "0") := ⟨by decide +kernel, fun _ _ => dq_of (.str _) (by simp only [Shw]; exact asc_of _) (by decide +kernel) (by decide +kernel)⟩
theorem tld_list1 {H : Hp} {l : Addr} {i : Int} (h : i.natAbs < 2 ^ 100) (hl : H l = some (.lst [.int i])) : Tld K H (.ref l) (.list [.int i]) := by
  refine ⟨?_, fun H' s => dq_of (.lst (SqL.of (lst_ext hl s)) (.cons (.int _) .nil)) (by simp only [Shw, ShwAll]; exact ⟨log_small h, trivial⟩) ?_ ?_⟩
  · simp only [PyData.shown, PyData.shownAll, listText, textFrom]
    exact okt_app (okt_app (okt_app (okt_of _) (okt_of _)) (okt_of _)) (okt_of _)
  · simp only [PyData.depth, PyData.depthAll]
    decide
  · simp only [cost, costAll]
    exact small (by decide)
theorem tld_a {H : Hp} {l : Addr} (hl : H l = some (.lst [.str "a"])) : Tld K H (.ref l) (.list [.str "a"]) :=
  ⟨by decide +kernel, fun H' s => dq_of (.lst (SqL.of (lst_ext hl s)) (.cons (.str _) .nil)) (by simp only [Shw, ShwAll]; exact ⟨asc_of _, trivial⟩) (by decide +kernel) (by decide +kernel)⟩
theorem tld_nil {H : Hp} {l : Addr} (hl : H l = some (.lst [])) : Tld K H (.ref l) (.list []) :=
  ⟨by decide +kernel, fun H' s => dq_of (.lst (SqL.of (lst_ext hl s)) .nil) (by simp only [Shw, ShwAll]) (by decide +kernel) (by decide +kernel)⟩
theorem tld_t0 {H : Hp} {l : Addr} (hl : H l = some (.tup [.int 0])) : Tld K H (.ref l) (.tuple [.int 0]) :=
  ⟨by decide +kernel, fun H' s => dq_of (.tup (SqT.of (s _ _ hl (fun _ z => by cases z))) (.cons (.int _) .nil)) (by simp only [Shw, ShwAll]; decide +kernel) (by decide +kernel) (by decide +kernel)⟩
theorem tld_tnil {H : Hp} {l : Addr} (hl : H l = some (.tup [])) : Tld K H (.ref l) (.tuple []) :=
  ⟨by decide +kernel, fun H' s => dq_of (.tup (SqT.of (s _ _ hl (fun _ z => by cases z))) .nil) (by simp only [Shw, ShwAll]) (by decide +kernel) (by decide +kernel)⟩
theorem tld_d {H : Hp} {l : Addr} (hl : H l = some (.dK [])) : Tld K H (.ref l) (.dict []) := ⟨by decide +kernel, fun H' s => .emp (s _ _ hl (fun _ z => by cases z))⟩
theorem kNoneI : PySem.W.kitOne K (.type "NoneType") (.type "int") = some false := kit_ty (by decide +kernel)
theorem kStrI : PySem.W.kitOne K (.type "str") (.type "int") = some false := kit_ty (by decide +kernel)
theorem kLstI : PySem.W.kitOne K (.type "list") (.type "int") = some false := kit_ty (by decide +kernel)
theorem kTupI : PySem.W.kitOne K (.type "tuple") (.type "int") = some false := kit_ty (by decide +kernel)
theorem kDicI : PySem.W.kitOne K (.type "dict") (.type "int") = some false := kit_ty (by decide +kernel)
theorem kNoneS : PySem.W.kitOne K (.type "NoneType") (.type "str") = some false := kit_ty (by decide +kernel)
theorem kIntS : PySem.W.kitOne K (.type "int") (.type "str") = some false := kit_ty (by decide +kernel)
theorem kBoolS : PySem.W.kitOne K (.type "bool") (.type "str") = some false := kit_ty (by decide +kernel)
theorem kLstS : PySem.W.kitOne K (.type "list") (.type "str") = some false := kit_ty (by decide +kernel)
theorem kTupS : PySem.W.kitOne K (.type "tuple") (.type "str") = some false := kit_ty (by decide +kernel)
theorem kDicS : PySem.W.kitOne K (.type "dict") (.type "str") = some false := kit_ty (by decide +kernel)
theorem ty_lst {H H' : Hp} {l : Addr} {xs : List V} (h : H l = some (.lst xs)) (s : LamX.ExtN H H') : TyX K H' (.ref l) (.type "list") := .base (.lst (lst_ext h s))
theorem ty_tup {H H' : Hp} {l : Addr} {xs : List V} (h : H l = some (.tup xs)) (s : LamX.ExtN H H') : TyX K H' (.ref l) (.type "tuple") := .base (.tup (s _ _ h (fun _ z => by cases z)))
theorem ty_dK {H H' : Hp} {l : Addr} (h : H l = some (.dK [])) (s : LamX.ExtN H H') : TyX K H' (.ref l) (.type "dict") := .base (.dK (s _ _ h (fun _ z => by cases z)))
/-- a refusal as a tuple, and the one that is due -/
def rfs (x s : Str) : PyData := .tuple [.str x, .str s, .bool true]
theorem rfs_lay {x s : Str} (hx : PyData.strOk x = true) (hs : PyData.strOk s = true) : PyData.canLay0 (rfs x s) = true := by
  simp [rfs, PyData.canLay0, PyData.canLayAll0, hx, hs]
theorem rfs_shp {x s : Str} (hx : PyData.strOk x = true) (hs : PyData.strOk s = true) : SeqAt.shaped (rfs x s) = true := by
  unfold SeqAt.shaped
  rw [rfs_lay hx hs]
  simp [rfs, PyData.depth, PyData.depthAll]
theorem rfs_dp {H : Hp} {t : Addr} {x s : Str} (h : H t = some (.tup [.str x, .str s, .bl true])) : Dp K H (.ref t) (rfs x s) := .tup (SqT.of h) (.cons (.str _) (.cons (.str _) (.cons (.bl _) .nil)))
end
def Fre (H : Hp) (a : Addr) : Prop := ∀ o, H a = some o → ∃ ps, o = HO.tbl ps
/-- beside what was there, but p, an own a is changed -/
theorem bn_own {p a : Addr} {H H1 H2 : Hp} (b : ButN p H H1) (f : Fre H a) (c : But a H1 H2) : ButN p H H2 := fun x o e n t => c x o (b x o e n t) fun z => by
  obtain ⟨ps, q⟩ := f o (z ▸ e)
  exact t ps q
theorem code_ref {K : PySem.W.Frag} {f : Addr} {fd : FuncData} {x qual : Str} {params : Arguments} {body : List Stmt} {scope : Scope} {dvs : List V} {kws : List (Str × V)} (F : FunD K x qual params body scope dvs kws f fd) : (fdAt K f).map FuncData.code = some (.ref (cOf K f)) := by
  obtain ⟨oc, od, dV, kV, doc, pm, an, cdv, ct, osl, rfl, lk, hcd, _, _⟩ := F.ex
  obtain ⟨c, rfl⟩ := He.codeIn_ref hcd
  have e : (fdAt K f).map FuncData.code = some (.ref c) := by
    unfold fdAt
    rw [lk]
    rfl
  rw [cOf_of e]
  exact e
theorem look_v (v : V) : ([(("value" : Str), v)] : List (Str × V)).lookup ("value" : Str) = some v := by
  rw [show ([(("value" : Str), v)] : List (Str × V)) = putF "value" v [] from rfl, lookup_putF, if_pos rfl]
theorem sq_ext {K : PySem.W.Frag} {H H' : Hp} {a : Addr} {xs : List V} (h : SqL K H a xs) (e : LamX.ExtN H H') : SqL K H' a xs := by
  rcases h with (h | ⟨o, h⟩) | h
  · exact .inl (.inl (e _ _ h (fun _ z => by cases z)))
  · exact .inl (.inr ⟨o, e _ _ h (fun _ z => by cases z)⟩)
  · exact .inr h
/-! ### slices -/
theorem cutV_to (xs : List V) (n : Nat) : cutV xs none (some (n : Int)) = xs.take n := by
  unfold cutV
  rw [HT.sIx_none, HT.sIx_nat, List.drop_zero, Nat.sub_zero, List.take_eq_take_iff]
  omega
theorem cutV_from (xs : List V) (n : Nat) : cutV xs (some (n : Int)) none = xs.drop n := by
  unfold cutV
  rw [HT.sIx_none, HT.sIx_nat]
  by_cases h : n ≤ xs.length
  · rw [Nat.min_eq_left h, List.take_of_length_le (by rw [List.length_drop]; omega)]
  · rw [Nat.min_eq_right (by omega), List.drop_of_length_le (Nat.le_refl _), List.drop_of_length_le (by omega)]
    simp
theorem cutV_one (xs : List V) (n : Nat) : cutV xs (some (n : Int)) (some ((n : Int) + 1)) = (xs.drop n).take 1 := by
  unfold cutV
  rw [show ((n : Int) + 1) = ((n + 1 : Nat) : Int) by omega, HT.sIx_nat, HT.sIx_nat]
  by_cases h : n < xs.length
  · rw [Nat.min_eq_left (by omega), Nat.min_eq_left (by omega), Nat.add_sub_cancel_left]
  · rw [show min n xs.length = xs.length by omega, List.drop_of_length_le (Nat.le_refl _), List.drop_of_length_le (by omega)]
    simp
theorem cutV_last (xs : List V) : cutV xs none (some (-1)) = xs.dropLast := by
  unfold cutV
  have e : HT.sIx xs.length xs.length (some (-1)) = xs.length - 1 := by
    show (if (-1 : Int) < 0 then ((-1 : Int) + (xs.length : Int)).toNat else min (-1 : Int).toNat xs.length) = _
    rw [if_pos (by decide)]
    omega
  rw [HT.sIx_none, e, List.drop_zero, Nat.sub_zero, List.dropLast_eq_take]
theorem cutS_to (z : Str) (n : Nat) : cutS z none (some (n : Int)) = ⟨(z.cps.toList.take n).toArray⟩ := by
  have h : z.cps.toList.length = z.length := rfl
  unfold cutS
  rw [HT.sIx_none, HT.sIx_nat, List.drop_zero, Nat.sub_zero]
  congr 2
  rw [List.take_eq_take_iff]
  omega
theorem cutS_from (z : Str) (n : Nat) : cutS z (some (n : Int)) none = ⟨(z.cps.toList.drop n).toArray⟩ := by
  have e : z.cps.toList.length = z.length := rfl
  unfold cutS
  rw [HT.sIx_none, HT.sIx_nat]
  by_cases h : n ≤ z.length
  · rw [Nat.min_eq_left h, List.take_of_length_le (by rw [List.length_drop]; omega)]
  · rw [Nat.min_eq_right (by omega), List.drop_of_length_le (by omega), List.drop_of_length_le (by omega)]
    simp
/-! ### a text times a number; texts told by repr -/
def rMulS : R2 := fun x y H Q => ∃ z k, x = .str z ∧ y = .int k ∧ MulOk z k ∧ Q (.str (Txt.mul z k)) H
theorem op_mulS {X : Cx} : OpR X (binaryOp .Mult) rMulS := by
  intro pins s σ H x y v u Q I rx ry h
  obtain ⟨i, j, rfl, rfl, hz, q⟩ := h
  obtain ⟨t, rfl⟩ := rx
  obtain ⟨t', rfl⟩ := ry
  exact PySem.SB.mul hz (fun t' tk => ⟨.str (Txt.mul i j), H, I.tok _, ⟨_, rfl⟩, q⟩)
theorem repr_char (q c : Nat) (hq : q < 1114112) (h : c < 1114112) : ∀ d ∈ Builtin.Str.reprChar q c, d < 1114112 := by
  have hx : ∀ w d, d ∈ List.replicate (w - ((Nat.toDigits 16 c).map Char.toNat).length) 48 ++ (Nat.toDigits 16 c).map Char.toNat → d < 1114112 := fun w d hd => by
    rcases List.mem_append.mp hd with hd | hd
    · rw [List.eq_of_mem_replicate hd]
      decide
    · obtain ⟨k, _, rfl⟩ := List.mem_map.mp hd
      rcases k.valid with h | ⟨_, h⟩
      · exact Nat.lt_trans h (by decide)
      · exact h
  intro d hd
  unfold Builtin.Str.reprChar at hd
  dsimp only at hd
  repeat' split at hd
  all_goals first
    | (rcases List.mem_append.mp hd with z | z
       · rcases List.mem_cons.mp z with rfl | z
         · decide
         · rw [List.mem_singleton.mp z]; decide
       · exact hx _ _ z)
    | (rcases List.mem_cons.mp hd with rfl | z
       · decide
       · rw [List.mem_singleton.mp z]; first | decide | exact h)
    | (rw [List.mem_singleton.mp hd]; exact h)
theorem fold_repr (q : Nat) (hq : q < 1114112) : ∀ (l : List Nat) (acc : Array Nat), (∀ c ∈ l, c < 1114112) → (∀ c ∈ acc.toList, c < 1114112) → ∀ c ∈ (l.foldl (fun out c => out ++ (Builtin.Str.reprChar q c).toArray) acc).toList, c < 1114112
  | [], _, _, h => h
  | d :: r, acc, hl, h => by
    refine fold_repr q hq r _ (fun c hc => hl c (List.mem_cons_of_mem _ hc)) fun c hc => ?_
    rw [Array.toList_append] at hc
    rcases List.mem_append.mp hc with z | z
    · exact h c z
    · exact repr_char q d hq (hl d (List.mem_cons_self ..)) c z
theorem okt_repr {z : Str} (h : PyData.strOk z = true) : PyData.strOk (PyData.shown (.str z)) = true := by
  simp only [PyData.shown]
  rw [okt_iff] at h ⊢
  have hq : reprQuote z < 1114112 := by
    unfold reprQuote
    split <;> decide
  intro c hc
  unfold reprText at hc
  rw [Array.toList_push, ← Array.foldl_toList] at hc
  rcases List.mem_append.mp hc with w | w
  · refine fold_repr _ hq _ _ h (fun c hc => ?_) c w
    rw [List.mem_singleton.mp hc]
    exact hq
  · rw [List.mem_singleton.mp w]
    exact hq
theorem tld_str {K : PySem.W.Frag} {H : Hp} {z : Str} (h : PyData.strOk z = true) (l : z.length ≤ 9000) : Tld K H (.str z) (.str z) := by
  refine ⟨okt_repr h, fun _ _ => dq_of (.str _) (by simp only [Shw]; exact asc_okt h) ?_ ?_⟩
  · simp only [PyData.depth]
    decide
  · simp only [cost]
    exact small (by omega)
theorem kDicS' {K : PySem.W.Frag} : PySem.W.kitOne K (.type "dict") (.type "str") = some false := kit_ty (by decide +kernel)
end LL

set_option Elab.async false
set_option linter.all false
set_option maxRecDepth 100000
set_option maxHeartbeats 2000000
/-! LLZip: enumerate of a list or a tuple; zip of three lists or tuples. -/
namespace LL
open PySem PySem.Spec PyProof.Rows L2
/-! ### a list or a tuple -/
/-- a list (k) or a tuple -/
def sqK (k : Bool) (K : PySem.W.Frag) (H : Hp) (a : Addr) (xs : List V) : Prop := match k with | true => SqL K H a xs | false => SqT K H a xs
def itK (k : Bool) (h : Heap) (it a : Addr) (i : Nat) : Prop := match k with | true => h.IsListIter it a i | false => h.IsTupleIter it a i
def hpK (k : Bool) (h : Heap) (a : Addr) (items : Array Value) : Prop := match k with | true => h.IsList a items | false => h.IsTuple a items
def obK (k : Bool) (a : Addr) : Obj := match k with | true => { cls := .type "list_iterator", data := .fields #[.ref a, .int 0 0] } | false => { cls := .type "tuple_iterator", data := .fields #[.ref a, .int 0 0] }
theorem itK.at {k : Bool} {h h' : Heap} {it a : Addr} {i : Nat} (x : itK k h it a i) (e : ∀ o, h.get? it = some o → h'.get? it = some o) : itK k h' it a i := by
  cases k with
  | true => exact Heap.IsListIter.at x e
  | false => exact Heap.IsTupleIter.at x e
theorem itK.ob {k : Bool} {h : Heap} {it a : Addr} {i : Nat} (x : itK k h it a i) : ∃ o, h.get? it = some o ∧ ∀ v, o.data ≠ .cell v := by
  cases k with
  | true => obtain ⟨o, e, _, d⟩ := x; exact ⟨o, e, fun v q => by rw [d] at q; cases q⟩
  | false => obtain ⟨o, e, _, d⟩ := x; exact ⟨o, e, fun v q => by rw [d] at q; cases q⟩
theorem itK.new {k : Bool} {h : Heap} {it a : Addr} (e : h.get? it = some (obK k a)) : itK k h it a 0 := by
  cases k with
  | true => exact ⟨_, e, rfl, rfl⟩
  | false => exact ⟨_, e, rfl, rfl⟩
theorem begK (k : Bool) (a : Addr) (items : Array Value) : Begins (.ref a) (obK k a) fun h => hpK k h a items := by
  cases k with
  | true => exact begins_list a items
  | false => exact begins_tuple a items
theorem drwK {prog : Program} {w : World} {A : Around} (hh : A.handled = none) (k : Bool) (it a : Addr) (hne : a ≠ it) (items : Array Value) :
    Draws prog w A it [it, a] items.size (fun i v => items[i]? = some v) (fun i h => itK k h it a i ∧ hpK k h a items) := by
  cases k with
  | true => exact Draws.list hh it a hne items
  | false => exact Draws.tuple hh it a hne items
section
variable {X : Cx} {pins : List (Addr × Obj)} {σ : L2.St} {H : Hp} {s : Shared}
theorem inv_K {k : Bool} {a : Addr} {xs : List V} (I : Inv X pins σ H s) (h : sqK k X.K H a xs) : ∃ its : List Value, Vals xs its ∧ hpK k s.heap a its.toArray ∧ ∃ o, s.heap.get? a = some o := by
  cases k with
  | true =>
    obtain ⟨its, r, p, _⟩ := I.list h
    obtain ⟨o, e, _⟩ := id p.isList
    exact ⟨its, r, p.isList, o, e⟩
  | false =>
    obtain ⟨its, r, p, _⟩ := I.tuple h
    obtain ⟨o, e, _⟩ := id p
    exact ⟨its, r, p, o, e⟩
theorem inj_K {k : Bool} {a : Addr} {xs ys : List V} (I : Inv X pins σ H s) (h : sqK k X.K H a xs) (h' : sqK k X.K H a ys) : xs = ys := by
  cases k with
  | true => exact I.list_inj h h'
  | false => exact I.tuple_inj h h'
end
/-! ### enumerate -/
/-- enumerate(v) makes two new objects -/
theorem enum_new {v : Value} {o : Obj} {G : Heap → Prop} (B : Begins v o G) :
    Meets (Builtin.«enumerate.__new__» ⟨[.type "enumerate", v], []⟩) (fun _ R s => G s.heap ∧ R (.ok (.ret (.ref (s.heap.push o).objs.size)))
      { s with heap := (s.heap.push o).push { cls := .type "enumerate", data := .fields #[.none, .bool false, .ref s.heap.objs.size, rawInt 0, .none, .none] } }) :=
  .of_wp fun prog w A R s h => by
    obtain ⟨hp, g, d, tk, os⟩ := s
    have sub := sub_enumerate
    have it : ∀ {A' : Around} {E : Value → Shared → Prop} {Q : Value → Shared → Prop}, Q (.ref hp.objs.size) ⟨hp.push o, g, d, tk, os⟩ → wpAny (model prog w) A' (pyIter v) Q E ⟨hp, g, d, tk, os⟩ := fun q => B.iter _ _ _ _ _ _ h.1 q
    wp_walk using it
    refine wpAny_stack_any fun st => wpAny_pure ?_
    split <;> try (rename_i c _ _ _ _ _; cases (c == Value.type "enumerate"))
    all_goals
      wp_walk using it
      exact ⟨_, rfl, h.2⟩
/-- the things at a as they stand at each turn, each in a new pair behind its number -/
def IteK (K : PySem.W.Frag) (k : Bool) (a : Addr) : It where
  go := fun i H => ∃ (xs : List V) (x : V), sqK k K H a xs ∧ xs[i]? = some x
  yld := fun i H v H' => ∃ T x, v = .ref T ∧ H T = none ∧ H' = upd H T (.tup [.int (i : Nat), x]) ∧ ∀ xs, sqK k K H a xs → xs[i]? = some x
  stop := fun i H => ∃ xs : List V, sqK k K H a xs ∧ xs.length = i
theorem two_mem {x a b : Addr} (h : x ∈ [a, b]) : x = a ∨ x = b := (List.mem_cons.mp h).imp id List.mem_singleton.mp
theorem turn_enumK {P : Program} {w : World} {K : PySem.W.Frag} {elts : List Expr} {kk : Nat} {tpos : Pos} {k : Bool} (a e it : Addr) (n1 : a ≠ it) (n2 : e ≠ a) (n3 : e ≠ it) :
    Turn P w K (.Tuple elts kk tpos) (IteK K k a) [e, it] e (fun i h => (∃ v, IsEnum h e it (i : Nat) v) ∧ itK k h it a i) where
  mem := List.mem_cons_self ..
  obj := fun i h st b hb => (two_mem hb).elim (fun z => z ▸ let ⟨_, he⟩ := st.1; ⟨_, he, fun _ q => nomatch q⟩) fun z => z ▸ st.2.ob
  keep := fun i h h' st hk => ⟨st.1.imp fun v he => hk e (List.mem_cons_self ..) _ he, st.2.at fun o q => hk it (List.mem_cons_of_mem _ (List.mem_cons_self ..)) o q⟩
  item := by
    rintro X rfl rfl rfl calm i pins s σ H E I own ⟨⟨v0, he⟩, hit⟩ ⟨xs, x, hq, hx⟩
    obtain ⟨its, rv, p, _⟩ := inv_K I hq
    obtain ⟨u, hu, ru⟩ := rv.get hx
    have bound : ∀ b ∈ [e, it], b < s.heap.objs.size := fun b hb => (two_mem hb).elim (fun z => z ▸ Heap.lt_size he) fun z => z ▸ let ⟨_, q, _⟩ := hit.ob; Heap.lt_size q
    have eu : its.toArray[i]? = some u := by simpa using hu
    refine wpAny_pyNext_enum_itemD (drwK (A := X.A.in1) (show X.A.in1.handled = none from I.ok.hd calm) k it a n1 its.toArray) he ⟨hit, p⟩ (Array.getElem?_eq_some_iff.mp eu).1 n3 (fun q => (two_mem q).elim n3 n2) fun y h1 tk py ho st' hT _ far => ?_
    cases Option.some.inj ((show its.toArray[i]? = some y from py).symm.trans eu)
    refine ⟨_, rfl, wpAny_letOwnedTupleGo_enum (s := { s with heap := h1, toks := tk + 1 }) ho fun h2 he2 sb => ?_⟩
    have off {b : Addr} (hb : b ∉ [e, it]) : b ≠ e ∧ b ≠ it := ⟨fun z => hb (z ▸ List.mem_cons_self ..), fun z => hb (z ▸ List.mem_cons_of_mem _ (List.mem_cons_self ..))⟩
    have pair : h2.get? s.heap.objs.size = some { cls := .type "tuple", data := .seq #[.int i tk, u] } := (sb.2 _ (Nat.ne_of_gt (Heap.lt_size he))).trans hT
    have I1 : Inv X pins σ (upd H s.heap.objs.size (.tup [.int (i : Nat), x])) { s with heap := h2, toks := tk + 1 } :=
      I.turnedNew (ch := [e, it]) (fun b o hb q => (sb.2 b (off hb).1).trans (far b o (off hb).1 (off hb).2 q)) own (Nat.le_refl _) ⟨by show 2 ≤ sizeLine; decide, [.int i tk, u], .cons ⟨_, rfl⟩ (.cons ru .nil), ⟨_, pair, rfl, _, rfl⟩⟩
    refine ⟨.ref s.heap.objs.size, _, I1, rfl, ⟨_, x, rfl, I.hok.fresh (Nat.le_refl _), rfl, fun ys hy => inj_K I hy hq ▸ hx⟩, ⟨⟨u, ?_⟩, st'.1.at fun o q => (sb.2 it n3.symm).trans q⟩, fun b hb => ?_⟩
    · rw [show ((i + 1 : Nat) : Int) = (i : Int) + 1 by omega]
      exact he2
    · rw [upd_ne (Nat.ne_of_lt (bound b hb))]
      exact (own b hb).1
  done := by
    rintro X rfl rfl rfl calm i pins s σ H E I own ⟨⟨v0, he⟩, hit⟩ ⟨xs, hq, rfl⟩
    obtain ⟨its, rv, p, _⟩ := inv_K I hq
    have len : xs.length = its.toArray.size := by rw [List.size_toArray]; exact rv.length
    rw [len] at hit
    obtain ⟨f0, f1, _, f3, f4, f5⟩ := own it (List.mem_cons_of_mem _ (List.mem_cons_self ..))
    exact wpAny_pyNext_enum_endD (drwK (A := X.A.in1) (show X.A.in1.handled = none from I.ok.hd calm) k it a n1 its.toArray) he ⟨hit, p⟩ fun h1 far => ⟨rfl, I.turned (t' := s.toks) (fun b o hb q => far b o hb q) f0 f1 f3 f4 f5⟩
  self := fun A i s Q E st h => let ⟨_, he⟩ := st.1; wpAny_pyIter_enum he h
def iEnumA (K : PySem.W.Frag) (ta : TA) : TI := fun σ H R => ta σ H fun vs H1 => ∃ k a xs, vs = [.ref a] ∧ sqK k K H1 a xs ∧ R (IteK K k a) H1
theorem pi_enumA {X : Cx} {e : Expr} {ta : TA} {p pos tpos : Pos} {elts : List Expr} {kk : Nat} (hg : Gl X "enumerate") (hm : X.mg "enumerate" = none) (ha : PA X [e] ta) (hs : starEach [e] X.env = [(false, eval e X.env)] := by rfl) :
    PI X (.Tuple elts kk tpos) (.Call (.Name "enumerate" p) [e] [] pos) (iEnumA X.K ta) := by
  refine ⟨fun pins s σ H R I h => Call_ (ld_blt I hg hm boot_enumerate (PyProof.Rows.callWith_type1 (thn (ha.run pos pins s σ H _ I h) fun us s1 ⟨vs, H1, I1, r1, k, a, xs, ex, hq, q⟩ => ?_) hs rfl))⟩
  subst ex
  obtain ⟨u, rfl, ru⟩ := vals1 r1
  cases ru
  obtain ⟨its, rv, p1, o1, ho1⟩ := inv_K I1 hq
  have la := Heap.lt_size ho1
  refine callType_new F.called_enumerate (by decide) (F.typeCall_enumerate_1 _) (F.newCall_enumerate_1 _) (fun obj => F.args_object_init_2 obj _) F.entry_enumerate_new (enum_new (begK k a its.toArray)) ⟨p1, ?_⟩
  have sz : (s1.heap.push (obK k a)).objs.size = s1.heap.objs.size + 1 := Heap.size_push ..
  have he := Heap.get?_push_size (s1.heap.push (obK k a)) (o := { cls := .type "enumerate", data := .fields #[.none, .bool false, .ref s1.heap.objs.size, rawInt 0, .none, .none] }) rfl
  rw [sz] at he
  have hi : ((s1.heap.push (obK k a)).push { cls := .type "enumerate", data := .fields #[.none, .bool false, .ref s1.heap.objs.size, rawInt 0, .none, .none] }).get? s1.heap.objs.size = some (obK k a) := Heap.get?_push_of_some _ (Heap.get?_push_size _ (begK k a its.toArray).free)
  show _ ∧ _
  rw [sz]
  refine ⟨⟨_, he, rfl⟩, wpAny_pyIter_enum he ?_⟩
  refine ⟨s1.heap.objs.size + 1, [s1.heap.objs.size + 1, s1.heap.objs.size], _, _, H1, rfl, I1.kept (t' := s1.toks) (fun b o x => Heap.get?_push_of_some _ (Heap.get?_push_of_some _ x)), turn_enumK a _ _ (Nat.ne_of_lt la) (Nat.ne_of_gt (Nat.lt_succ_of_lt la)) (Nat.succ_ne_self _), ⟨⟨.none, he⟩, .new hi⟩, fun b hb => ?_, q⟩
  have hle : s1.heap.objs.size ≤ b := (two_mem hb).elim (fun z => z ▸ Nat.le_succ _) fun z => z ▸ Nat.le_refl _
  exact I1.fpOk hle (I1.hok.fresh hle)
theorem walk_enumK {K : PySem.W.Frag} {k : Bool} {a : Addr} {xs : List V} : Walk (IteK K k a) xs.length (fun H => sqK k K H a xs) (YPair (fun i => some (.int (i : Nat))) (fun i => xs[i]?)) where
  goes := fun i H hi h => ⟨xs, xs[i], h, List.getElem?_eq_getElem hi⟩
  stops := fun H h => ⟨xs, h, rfl⟩
  yields := fun i H x H' hi h y => let ⟨T, v, e1, e2, e3, e4⟩ := y; ⟨T, _, v, e1, e2, e3, rfl, e4 xs h⟩
/-! ### zip of three -/
/-- the three as they stand at each turn, the items in new triples -/
def Itz3 (K : PySem.W.Frag) (k1 k2 k3 : Bool) (a b c : Addr) : It :=
  ⟨fun i H => ∃ (xs ys zs : List V) (x y z : V), sqK k1 K H a xs ∧ sqK k2 K H b ys ∧ sqK k3 K H c zs ∧ xs[i]? = some x ∧ ys[i]? = some y ∧ zs[i]? = some z,
    fun i H v H' => ∃ T x y z, v = .ref T ∧ H T = none ∧ H' = upd H T (.tup [x, y, z]) ∧ (∀ xs, sqK k1 K H a xs → xs[i]? = some x) ∧ (∀ ys, sqK k2 K H b ys → ys[i]? = some y) ∧ ∀ zs, sqK k3 K H c zs → zs[i]? = some z,
    fun i H => ∃ xs ys zs : List V, sqK k1 K H a xs ∧ sqK k2 K H b ys ∧ sqK k3 K H c zs ∧ i ≤ xs.length ∧ i ≤ ys.length ∧ i ≤ zs.length ∧ (i = xs.length ∨ i = ys.length ∨ i = zs.length)⟩
theorem turn_zip3 {P : Program} {w : World} {K : PySem.W.Frag} {elts : List Expr} {kk : Nat} {tpos : Pos} {k1 k2 k3 : Bool} {a b c z TI TO i1 i2 i3 : Addr} (S : ZipSep3 z TI TO i1 i2 i3 [i1, a] [i2, b] [i3, c]) (n1 : a ≠ i1) (n2 : b ≠ i2) (n3 : c ≠ i3) :
    Turn P w K (.Tuple elts kk tpos) (Itz3 K k1 k2 k3 a b c) [z, TI, TO, i1, i2, i3] z (fun i h => IsZip h z TI TO .none ∧ IsTupOf3 h TI (.ref i1) (.ref i2) (.ref i3) ∧ (∃ x y u, IsTupOf3 h TO x y u) ∧ itK k1 h i1 a i ∧ itK k2 h i2 b i ∧ itK k3 h i3 c i) where
  mem := by simp
  obj := fun i h st d hd => by
    obtain ⟨hz, hTI, ⟨x, y, u, hTO⟩, h1, h2, h3⟩ := st
    have e' : d = z ∨ d = TI ∨ d = TO ∨ d = i1 ∨ d = i2 ∨ d = i3 := by simpa using hd
    rcases e' with q | q | q | q | q | q
    · rw [q]; exact ⟨_, hz, fun v q => nomatch q⟩
    · rw [q]; exact ⟨_, hTI, fun v q => nomatch q⟩
    · rw [q]; exact ⟨_, hTO, fun v q => nomatch q⟩
    · rw [q]; exact h1.ob
    · rw [q]; exact h2.ob
    · rw [q]; exact h3.ob
  keep := fun i h h' st k => by
    obtain ⟨hz, hTI, ⟨x, y, u, hTO⟩, h1, h2, h3⟩ := st
    exact ⟨k z (by simp) _ hz, k TI (by simp) _ hTI, ⟨x, y, u, k TO (by simp) _ hTO⟩, h1.at fun o q => k i1 (by simp) o q, h2.at fun o q => k i2 (by simp) o q, h3.at fun o q => k i3 (by simp) o q⟩
  item := by
    intro X hP hw hK hc i pins s σ H E I hf st hg
    subst hP hw hK
    obtain ⟨hz, hTI, ⟨x0, y0, u0, hTO⟩, h1, h2, h3⟩ := st
    obtain ⟨xs, ys, zs, x, y, u, hqx, hqy, hqz, hx, hy, hu⟩ := hg
    obtain ⟨its, rv, p, _⟩ := inv_K I hqx
    obtain ⟨its2, rv2, p2, _⟩ := inv_K I hqy
    obtain ⟨its3, rv3, p3, _⟩ := inv_K I hqz
    obtain ⟨w1, hw1, rw1⟩ := rv.get hx
    obtain ⟨w2, hw2, rw2⟩ := rv2.get hy
    obtain ⟨w3, hw3, rw3⟩ := rv3.get hu
    have hzl : z < s.heap.objs.size := Heap.lt_size hz
    have hA : X.A.in1.handled = none := I.ok.hd hc
    have lt {l : List Value} {v : Value} (q : l[i]? = some v) : i < l.toArray.size := by
      have := (List.getElem?_eq_some_iff.mp q).1
      simpa using this
    have same {l : List Value} {v v' : Value} (q : l[i]? = some v) (q' : l.toArray[i]? = some v') : v' = v := by
      have : l[i]? = some v' := by simpa using q'
      rw [q] at this
      exact (Option.some.inj this).symm
    refine wpAny_pyNext_zipD3_item S (drwK hA k1 i1 a n1 its.toArray) (drwK hA k2 i2 b n2 its2.toArray) (drwK hA k3 i3 c n3 its3.toArray) hz hTI hTO ⟨h1, p⟩ ⟨h2, p2⟩ ⟨h3, p3⟩ (lt hw1) (lt hw2) (lt hw3) fun v1 v2 v3 h' tk y1 y2 y3 z' TO' d1 d2 d3 hT hsz hk => ?_
    have e1 := same hw1 y1
    have e2 := same hw2 y2
    have e3 := same hw3 y3
    subst e1 e2 e3
    refine ⟨_, rfl, wpAny_letOwnedTupleGo_zip (s := { s with heap := h', toks := tk }) z' fun h'' z'' sb => ?_⟩
    have hT2 : h''.get? s.heap.objs.size = some { cls := .type "tuple", data := .seq #[v1, v2, v3] } := (sb.2 _ (Nat.ne_of_gt hzl)).trans hT
    have new : ObjOk X.prog X.w (upd H s.heap.objs.size (.tup [x, y, u])) h'' s.heap.objs.size (.tup [x, y, u]) :=
      ⟨by show 3 ≤ sizeLine; decide, [v1, v2, v3], .cons rw1 (.cons rw2 (.cons rw3 .nil)), ⟨_, hT2, rfl, _, rfl⟩⟩
    have I1 : Inv X pins σ (upd H s.heap.objs.size (.tup [x, y, u])) { s with heap := h'', toks := tk } :=
      I.turnedNew (ch := [z, TI, TO, i1, i2, i3]) (fun d o hb q => (sb.2 d (fun q' => hb (by simp [q']))).trans (hk d o (fun q' => hb (by simp [q'])) (fun q' => hb (by simp [q'])) (fun q' => hb (by simp [q'])) (fun q' => hb (by simp [q'])) (fun q' => hb (by simp [q'])) q)) hf (Nat.le_refl _) new
    refine ⟨.ref s.heap.objs.size, _, I1, rfl, ⟨_, x, y, u, rfl, I.hok.fresh (Nat.le_refl _), rfl, fun l hl => by rw [inj_K I hl hqx]; exact hx, fun l hl => by rw [inj_K I hl hqy]; exact hy, fun l hl => by rw [inj_K I hl hqz]; exact hu⟩, ⟨z'', ?_, ⟨v1, v2, v3, ?_⟩, ?_, ?_, ?_⟩, fun d hdm => ?_⟩
    · exact (sb.2 _ S.TIz).trans (hk _ _ S.TIz S.TITO S.TIi1 S.TIi2 S.TIi3 hTI)
    · exact (sb.2 _ S.TOz).trans TO'
    · exact d1.1.at fun o q => (sb.2 _ S.zi1.symm).trans q
    · exact d2.1.at fun o q => (sb.2 _ S.zi2.symm).trans q
    · exact d3.1.at fun o q => (sb.2 _ S.zi3.symm).trans q
    · have hlt : d < s.heap.objs.size := by
        have e' : d = z ∨ d = TI ∨ d = TO ∨ d = i1 ∨ d = i2 ∨ d = i3 := by simpa using hdm
        rcases e' with q | q | q | q | q | q
        · rw [q]; exact hzl
        · rw [q]; exact Heap.lt_size hTI
        · rw [q]; exact Heap.lt_size hTO
        · rw [q]; obtain ⟨_, e1, _⟩ := h1.ob; exact Heap.lt_size e1
        · rw [q]; obtain ⟨_, e2, _⟩ := h2.ob; exact Heap.lt_size e2
        · rw [q]; obtain ⟨_, e2, _⟩ := h3.ob; exact Heap.lt_size e2
      rw [upd_ne (Nat.ne_of_lt hlt)]
      exact (hf d hdm).1
  done := by
    intro X hP hw hK hc i pins s σ H E I hf st hg
    subst hP hw hK
    obtain ⟨hz, hTI, ⟨x0, y0, u0, hTO⟩, h1, h2, h3⟩ := st
    obtain ⟨xs, ys, zs, hqx, hqy, hqz, g1, g2, g3, g4⟩ := hg
    obtain ⟨its, rv, p, _⟩ := inv_K I hqx
    obtain ⟨its2, rv2, p2, _⟩ := inv_K I hqy
    obtain ⟨its3, rv3, p3, _⟩ := inv_K I hqz
    have l1 := rv.length
    have l2 := rv2.length
    have l3 := rv3.length
    have hA : X.A.in1.handled = none := I.ok.hd hc
    have z1 : its.toArray.size = its.length := List.size_toArray
    have z2 : its2.toArray.size = its2.length := List.size_toArray
    have z3 : its3.toArray.size = its3.length := List.size_toArray
    exact wpAny_pyNext_zipD3_end S (drwK hA k1 i1 a n1 its.toArray) (drwK hA k2 i2 b n2 its2.toArray) (drwK hA k3 i3 c n3 its3.toArray) hz hTI hTO ⟨h1, p⟩ ⟨h2, p2⟩ ⟨h3, p3⟩ (by omega) (by omega) (by omega) (by omega) fun h' tk hk => ⟨rfl, I.turnedL (ch := [z, TI, TO, i1, i2, i3]) (fun d o hb q =>
      hk d o (fun q' => hb (by simp [q'])) (fun q' => hb (by simp [q'])) (fun q' => hb (by simp [q'])) (fun q' => hb (by simp [q'])) (fun q' => hb (by simp [q'])) q) hf⟩
  self := fun A i s Q E st h => wpAny_pyIter_zip st.1 h
theorem no2 {x y z : Nat} (h1 : x ≠ y) (h2 : x ≠ z) : x ∉ [y, z] := fun q => (List.mem_cons.mp q).elim h1 fun q => h2 (List.mem_singleton.mp q)
theorem sep3 (N a b c : Nat) (la : a < N) (lb : b < N) (lc : c < N) : ZipSep3 (N + 5) (N + 3) (N + 4) N (N + 1) (N + 2) [N, a] [N + 1, b] [N + 2, c] where
  TIz := fun (q : N + 3 = N + 5) => by omega
  TOz := fun (q : N + 4 = N + 5) => by omega
  TITO := fun (q : N + 3 = N + 4) => by omega
  TIi1 := fun (q : N + 3 = N) => by omega
  mem1 := List.mem_cons_self ..
  zf1 := no2 (by omega) (by omega)
  Tf1 := no2 (by omega) (by omega)
  TIi2 := fun (q : N + 3 = N + 1) => by omega
  mem2 := List.mem_cons_self ..
  zf2 := no2 (by omega) (by omega)
  Tf2 := no2 (by omega) (by omega)
  TIi3 := fun (q : N + 3 = N + 2) => by omega
  mem3 := List.mem_cons_self ..
  zf3 := no2 (by omega) (by omega)
  Tf3 := no2 (by omega) (by omega)
  sep1_2 := no2 (by omega) (by omega)
  sep1_3 := no2 (by omega) (by omega)
  sep2_1 := no2 (by omega) (by omega)
  sep2_3 := no2 (by omega) (by omega)
  sep3_1 := no2 (by omega) (by omega)
  sep3_2 := no2 (by omega) (by omega)
def iZip3 (K : PySem.W.Frag) (ta : TA) : TI := fun σ H R => ta σ H fun vs H1 => ∃ k1 k2 k3 a b c xs ys zs, vs = [.ref a, .ref b, .ref c] ∧ sqK k1 K H1 a xs ∧ sqK k2 K H1 b ys ∧ sqK k3 K H1 c zs ∧ R (Itz3 K k1 k2 k3 a b c) H1
theorem pi_zip3 {X : Cx} {e e2 e3 : Expr} {ta : TA} {p pos tpos : Pos} {elts : List Expr} {kk : Nat} (hg : Gl X "zip") (hm : X.mg "zip" = none) (ha : PA X [e, e2, e3] ta)
    (hs : starEach [e, e2, e3] X.env = (false, eval e X.env) :: starEach [e2, e3] X.env := by rfl) (hpl : (backTo pos (starEach [e2, e3] X.env)).any (·.1) = false := by rfl) :
    PI X (.Tuple elts kk tpos) (.Call (.Name "zip" p) [e, e2, e3] [] pos) (iZip3 X.K ta) := by
  refine ⟨fun pins s σ H R I h => ?_⟩
  refine Call_ (ld_blt I hg hm PyProof.Rows.boot_zip (PyProof.Rows.callWith_type1 (thn (ha.run pos pins s σ H _ I h) fun us s1 ⟨vs, H1, I1, r1, q1⟩ => ?_) hs hpl))
  obtain ⟨k1, k2, k3, a, b, c, xs, ys, zs, ex, hqx, hqy, hqz, q⟩ := q1
  subst ex
  cases r1 with
  | cons r rr =>
    cases rr with
    | cons r' rr =>
      cases rr with
      | cons r'' rr =>
        cases rr
        cases r
        cases r'
        cases r''
        obtain ⟨its, rv, p1, o1, ho1⟩ := inv_K I1 hqx
        obtain ⟨its2, rv2, p2, o2, ho2⟩ := inv_K I1 hqy
        obtain ⟨its3, rv3, p3, o3, ho3⟩ := inv_K I1 hqz
        have la : a < s1.heap.objs.size := Heap.lt_size ho1
        have lb : b < s1.heap.objs.size := Heap.lt_size ho2
        have lc : c < s1.heap.objs.size := Heap.lt_size ho3
        refine zip_begins3 (begK k1 a its.toArray) (begK k2 b its2.toArray) (begK k3 c its3.toArray) p1 p2 p3 fun h' hz hTI hTO h1 h2 h3 hsz hk => wpAny_pyIter_zip hz ?_
        have I2 : Inv X pins σ H1 { s1 with heap := h' } := I1.kept (t' := s1.toks) hk
        have sep : ZipSep3 (s1.heap.objs.size + 5) (s1.heap.objs.size + 3) (s1.heap.objs.size + 4) s1.heap.objs.size (s1.heap.objs.size + 1) (s1.heap.objs.size + 2) [s1.heap.objs.size, a] [s1.heap.objs.size + 1, b] [s1.heap.objs.size + 2, c] := sep3 _ a b c la lb lc
        refine ⟨s1.heap.objs.size + 5, [s1.heap.objs.size + 5, s1.heap.objs.size + 3, s1.heap.objs.size + 4, s1.heap.objs.size, s1.heap.objs.size + 1, s1.heap.objs.size + 2], _, _, H1, rfl, I2, turn_zip3 sep (Nat.ne_of_lt la) (Nat.ne_of_lt (Nat.lt_succ_of_lt lb)) (Nat.ne_of_lt (Nat.lt_succ_of_lt (Nat.lt_succ_of_lt lc))), ⟨hz, hTI, ⟨_, _, _, hTO⟩, .new h1, .new h2, .new h3⟩, fun d hd => ?_, q⟩
        have hle : s1.heap.objs.size ≤ d := by
          simp only [List.mem_cons, List.not_mem_nil, or_false] at hd
          rcases hd with z | z | z | z | z | z
          · rw [z]; exact Nat.le_add_right _ _
          · rw [z]; exact Nat.le_add_right _ _
          · rw [z]; exact Nat.le_add_right _ _
          · rw [z]; exact Nat.le_refl _
          · rw [z]; exact Nat.le_add_right _ _
          · rw [z]; exact Nat.le_add_right _ _
        exact I1.fpOk hle (I1.hok.fresh hle)
theorem walk_zip3 {K : PySem.W.Frag} {k1 k2 k3 : Bool} {a b c : Addr} {xs ys zs : List V} (h1 : xs.length = ys.length) (h2 : xs.length = zs.length) : Walk (Itz3 K k1 k2 k3 a b c) xs.length (fun H => sqK k1 K H a xs ∧ sqK k2 K H b ys ∧ sqK k3 K H c zs)
    (fun i H v H' => ∃ T x y z, v = .ref T ∧ H T = none ∧ H' = upd H T (.tup [x, y, z]) ∧ xs[i]? = some x ∧ ys[i]? = some y ∧ zs[i]? = some z) where
  goes := fun i H hi h => ⟨xs, ys, zs, xs[i], ys[i], zs[i], h.1, h.2.1, h.2.2, List.getElem?_eq_getElem hi, List.getElem?_eq_getElem (by omega), List.getElem?_eq_getElem (by omega)⟩
  stops := fun H h => ⟨xs, ys, zs, h.1, h.2.1, h.2.2, Nat.le_refl _, by omega, by omega, .inl rfl⟩
  yields := fun i H x H' hi h y => by
    obtain ⟨T, x, y, z, e1, e2, e3, e4, e5, e6⟩ := y
    exact ⟨T, x, y, z, e1, e2, e3, e4 xs h.1, e5 ys h.2.1, e6 zs h.2.2⟩
end LL

set_option Elab.async false
set_option linter.all false
set_option maxRecDepth 100000
set_option maxHeartbeats 3200000
/-! LLSet: set(a list of ints). -/
namespace LL
open PySem PySem.Spec PyProof.Rows L2
/-- a set as it is born -/
abbrev born (w : World) : Obj := { cls := .type "set", dict := none, data := .set #[] 0 (.fresh 0 0 (!w.params.followText "set-order")) }
abbrev walker (l : Addr) : Obj := { cls := .type "list_iterator", data := .fields #[.ref l, .int 0 0] }
section
variable {P : Program} {w : World} {A : Around} {E : Value → Shared → Prop} {s : Shared}
/-- what is left when the set is filled -/
def Filled (w : World) (s : Shared) (ns : List Int) (s2 : Shared) : Prop := ∃ (h' : Heap) (tk c : Nat), s2 = { s with heap := h', toks := tk } ∧ SetR w h' s.heap.objs.size (fun j => decide (j ∈ ns)) c ∧ c ≤ ns.length ∧ ∀ b o, s.heap.get? b = some o → h'.get? b = some o
theorem set_of_ints {l : Addr} {items : Array Value} (ns : List Int) {Q : Value → Shared → Prop} (hh : A.handled = none) (hl : s.heap.IsList l items) (hit : IntsAre items.toList ns) (hb : ns.length + 1 < scanBound)
    (h : ∀ s2, Filled w s ns s2 → Q (.ref s.heap.objs.size) s2) : wpAny (model P w) A (call (.type "set") [.ref l]) Q E s := by
  have many : items.size = ns.length := by have q := IntsAre.length hit; rwa [Array.length_toList] at q
  obtain ⟨⟨_, dc, _, sl⟩, at0, cl, nn, dt⟩ := hl
  cases cl
  cases dt
  have below : l < s.heap.objs.size := Heap.lt_size at0
  have me : (s.heap.push (born w)).get? s.heap.objs.size = some (born w) := Heap.get?_push_size _ rfl
  have at1 : (s.heap.push (born w)).get? l = some { cls := .type "list", dict := dc, data := .seq items nn, slots := sl } := Heap.get?_push_of_some _ at0
  have lst : (s.heap.push (born w)).IsList l items := ⟨_, at1, rfl, nn, rfl⟩
  -- the class is called
  obtain ⟨_, _, g1⟩ := F.called_set.mro
  have g2 := F.called_set.made
  have g3 := F.called_set.sub
  have g4 := F.called_set.notType
  have g5 := F.called_set.canCreate
  have g6 := F.typeCall_set_1 (.ref l)
  refine wpAny_call (codeAny_of_tree (show wpAny _ _ (callAny (.type "set") _) _ _ _ from wpAny_pure ⟨Code.quiet_builtin _ (by decide +kernel), codeAny_builtin F.entry_type_call ?_⟩))
  rw [Around.under_plain (weight_type_call_type "set" [.ref l] []) rfl]
  repeat (any_goals (first | assumption | wp_step))
  -- it is born
  refine codeAny_mono (code_set_led1 (.ref l) (E := E) (Q₁ := fun v s1 => v = .ref s.heap.objs.size ∧ s1 = { s with heap := s.heap.push (born w) }) ⟨rfl, rfl⟩) fun r s1 e1 => ?_
  rcases r with _ | fl
  · exact e1
  rcases fl with _ | _ | _ | v
  any_goals exact e1.elim
  all_goals
    obtain ⟨rfl, rfl⟩ := e1
    have ty : Shared.TypeIs { s with heap := s.heap.push (born w) } (.ref s.heap.objs.size) "set" := ⟨_, me, rfl⟩
    have k1 := F.called_set.init.lookup
    have k2 := F.called_set.init.bind (.ref s.heap.objs.size)
    repeat (any_goals (first | assumption | wp_step))
    -- it is filled
    refine codeAny_mono (codeAny_call_builtin (R := wants (fun v s2 => v = .none ∧ Filled w s ns s2) E) F.called_set.init.plain F.entry_set_init (check_set_init_1 ty ?_)) fun r s2 e2 => ?_
    · have u1 := F.sub_list_set
      have u2 := F.sub_list_frozenset
      have u3 : (Value.type "list" == Value.type "dict") = false := by decide
      unfold Builtin.«set.__init__» noKeywords Builtin.Frozenset.updateFrom
      generalize keep : pyIter = pi
      wp_walk
      subst keep
      refine wpAny_pyIter_list lst (wpAny_bind (wpAny_runValue ?_))
      have size1 : (s.heap.push (born w)).objs.size = s.heap.objs.size + 1 := Heap.size_push ..
      have out : s.heap.objs.size ∉ [(s.heap.push (born w)).objs.size, l] := fun q => by
        rw [size1] at q
        rcases List.mem_cons.mp q with q | q
        · exact absurd q (Nat.ne_of_lt (Nat.lt_succ_self _))
        · exact absurd (List.mem_singleton.mp q) (Nat.ne_of_gt below)
      have val : ∀ (i : Nat) (v : Value), items[i]? = some v → ∃ k t, ns[i]? = some k ∧ v = .int k t := fun i v hv => by
        have hi : i < ns.length := many ▸ (Array.getElem?_eq_some_iff.mp hv).1
        obtain ⟨t, e⟩ := IntsAre.int_at hit i v (by rw [Array.getElem?_toList]; exact hv)
        exact ⟨ns[i], t, List.getElem?_eq_getElem hi, by rw [e, List.getD_eq_getElem?_getD, List.getElem?_eq_getElem hi]; rfl⟩
      refine set_update_ints ((Walks.list (by simp [hh]) _ l (by rw [size1]; exact Nat.ne_of_lt (Nat.lt_succ_of_lt below)) items).toS) s.heap.objs.size out ns many hb val items.size 0 _ rfl (Nat.zero_le _)
        ⟨⟨_, Heap.get?_push_size _ rfl, rfl, rfl⟩, lst.push _⟩ ⟨0, Nat.le_refl 0, setR_new_at (Heap.get?_push_of_some (walker l) me)⟩ ?_
      rintro ⟨h2, g', d', tk, os'⟩ c mv hc R
      cases (show g' = s.gens from mv.gens)
      cases (show d' = s.drawn from mv.drawn)
      cases (show os' = s.os from mv.os)
      refine wpAny_pure (wpAny_pure ⟨rfl, h2, tk, c, rfl, R, many ▸ hc, fun b o e => ?_⟩)
      have lt := Heap.lt_size e
      refine mv.heap b o (fun q => ?_) (Heap.get?_push_of_some _ (Heap.get?_push_of_some _ e))
      rcases List.mem_cons.mp q with q | q
      · exact Nat.ne_of_lt lt q
      · have q := List.mem_singleton.mp q
        rw [size1] at q
        exact Nat.ne_of_lt (Nat.lt_succ_of_lt lt) q
    · rcases r with _ | fl
      · exact e2
      rcases fl with _ | _ | _ | v
      any_goals exact e2.elim
      all_goals
        obtain ⟨rfl, e2⟩ := e2
        have done := h _ e2
        obtain ⟨h2, tk, c, rfl, _⟩ := e2
        repeat (any_goals (first | assumption | wp_step))
end
section
variable {X : Cx}
/-- set(a list of ints) -/
def rSetL (K : PySem.W.Frag) (w : World) : List V → Hp → VK → Prop := fun vs H Q => ∃ (p : Addr) (ns : List Int), vs = [.ref p] ∧ SqL K H p (ns.map V.int) ∧ ns.length ≤ 1000 ∧ ∀ a c, (∀ D : List Int, (∀ x ∈ ns, x ∈ D) → c ≤ D.length) → H a = none → Q (.ref a) (upd H a (SetO w a (fun j => decide (j ∈ ns)) c))
theorem cr_setL (hc : X.calm = true) : CallR X (.type "set") (rSetL X.K X.w) := by
  intro pins s σ H xs us Q I r h
  obtain ⟨p, ns, rfl, hq, hl, q⟩ := h
  obtain ⟨u, rfl, rx⟩ := vals1 r
  cases rx
  obtain ⟨its, rv, pt, hz⟩ := I.list hq
  refine set_of_ints ns (I.ok.hd hc) pt.isList (by simpa using ints_of_vals rv) (by unfold scanBound; omega) fun s2 z => ?_
  obtain ⟨h2, tk, c, rfl, R, hc2, hk⟩ := z
  refine ⟨.ref _, _, I.laid (t' := tk) hk (Nat.le_refl _) (setO_new R), rfl, q _ c (fun D hD => ?_) (I.hok.fresh (Nat.le_refl _))⟩
  obtain ⟨o, es, ep, t, _, _, _, _, nd, mem, _, _, sz, _⟩ := R
  rw [← sz, ← Array.length_toList, ← List.length_map (f := keyOf)]
  exact nd.length_le_of_subset fun x hx => hD x (of_decide_eq_true ((mem x).mpr hx))
end
end LL

set_option Elab.async false
set_option linter.all false
set_option maxRecDepth 100000
set_option maxHeartbeats 2000000
/-! LLSeq: lists or tuples; small rules. -/
namespace LL
open PySem PySem.Spec PyProof.Rows L2
theorem un1 {n : Nat} (h : n + 64 < cLine) : n + 1 < cLine := by omega
section
variable {X : Cx} {tg l : Expr} {tl : TE}
/-- for x in s, s a list or a tuple -/
def iSeqA (K : PySem.W.Frag) (tl : TE) : TI := fun σ H R => iList K tl σ H R ∨ iTup K tl σ H R
theorem pi_seqA (hl : PE X l tl) : PI X tg l (iSeqA X.K tl) := ⟨fun pins s σ H R I h => h.elim ((pi_list hl).run pins s σ H R I) ((pi_tup hl).run pins s σ H R I)⟩
theorem ix_seqK {K : PySem.W.Frag} (h : X.K = K) : IxR X (rIx K) := h ▸ ix_seq
end
/-- s stands at a -/
def Sq (K : PySem.W.Frag) (H : Hp) (a : Addr) (xs : List V) : Prop := SqL K H a xs ∨ SqT K H a xs
theorem Sq.k {K : PySem.W.Frag} {H : Hp} {a : Addr} {xs : List V} (h : Sq K H a xs) : ∃ k, sqK k K H a xs := h.elim (fun h => ⟨true, h⟩) fun h => ⟨false, h⟩
theorem sqL_same {K : PySem.W.Frag} {H H' : Hp} {a : Addr} {xs : List V} (h : SqL K H a xs) (s : Same H H') : SqL K H' a xs := sq_ext h (.of s)
theorem sqT_same {K : PySem.W.Frag} {H H' : Hp} {a : Addr} {xs : List V} (h : SqT K H a xs) (s : Same H H') : SqT K H' a xs := by
  rcases h with (h | ⟨o, h⟩) | h
  · exact .inl (.inl (s _ _ h))
  · exact .inl (.inr ⟨o, s _ _ h⟩)
  · exact .inr h
theorem Sq.same {K : PySem.W.Frag} {H H' : Hp} {a : Addr} {xs : List V} (h : Sq K H a xs) (s : Same H H') : Sq K H' a xs := h.imp (sqL_same · s) (sqT_same · s)
end LL

set_option Elab.async false
set_option linter.all false
set_option maxRecDepth 100000
set_option maxHeartbeats 2000000
/-! LLMix: sorted of a tuple, rules by the name of the written part, errors by their field, lists or tuples that are tracked. -/
namespace LL
open PySem PySem.Spec PyProof.Rows L2
section
variable {prog : Program} {w : World} {A : Around} {E : Value → Shared → Prop} {s : Shared}
/-- what is drawn of a list or a tuple -/
theorem collect_q {l : Addr} {vs : List Value} {T : String} {o : Obj} {n : Nat} {Q : List Value → Shared → Prop} (hT : T = "list" ∨ T = "tuple") (ho : s.heap.get? l = some o) (hc : o.cls = .type T) (hd : o.data = .seq vs.toArray n) (hsz : vs.length ≤ sizeLine)
    (h : Q vs { s with heap := (s.heap.push (seqObj "list" #[] 0)).update s.heap.objs.size (Obj.mapSeq (· ++ vs.toArray)) }) : wpAny (model prog w) A (collect (.ref l)) Q E s := by
  have ho' : (s.heap.push (seqObj "list" #[] 0)).get? l = some o := Heap.get?_push_of_some _ ho
  have ht : (Builtin.List.listSameRef (.ref s.heap.objs.size) (.ref l) || Value.type T == Value.type "list" || Value.type T == Value.type "tuple") = true := by
    rcases hT with rfl | rfl <;> simp
  unfold collect; refine wpAny_bind (wpAny_runValue (codeAny_builtin entry_proto_collect' ?_))
  show wpAny _ _ (do again (.builtin "list.__iadd__" ⟨[← newList [], .ref l], []⟩)) _ _ s; refine wpAny_bind (wpAny_newList (wpAny_pure ⟨Code.quiet_builtin _ (by decide +kernel), codeAny_builtin entry_list_iadd' ?_⟩))
  show wpAny _ _ (Builtin.List.listExtendWith (.ref s.heap.objs.size) (.ref l) (.ref s.heap.objs.size)) _ _ { s with heap := s.heap.push (seqObj "list" #[] 0) }; unfold Builtin.List.listExtendWith
  refine wpAny_bind (wpAny_typeOf (T := T) ⟨o, ho', hc⟩ ?_); rw [if_pos ht]
  refine wpAny_bind (listItems_at ho' hd (wpAny_bind (listItems_at (xs := #[]) (n := 0) (Heap.get?_push_size _ rfl) rfl ?_))); rw [if_neg (by simp)]
  refine wpAny_bind (listUpdate_at (xs := #[]) (n := 0) (Heap.get?_push_size _ rfl) rfl (wpAny_pure ?_) (Nat.zero_le _) (by show (#[] ++ vs.toArray).size ≤ sizeLine + 1; simp only [Array.size_append, List.size_toArray, List.length_nil]; omega))
  refine wpAny_bind (m := load s.heap.objs.size) (wpAny_load (get?_update_seq (Heap.get?_push_size _ rfl) _) ?_)
  show wpAny _ _ (pure ((#[] : Array Value) ++ vs.toArray).toList) Q E _; rw [show ((#[] : Array Value) ++ vs.toArray).toList = vs by simp]; exact wpAny_pure h
theorem sorted_q {l : Addr} {vs : List Value} {ns : List Int} {T : String} {o : Obj} {n : Nat} {Q : Value → Shared → Prop} (hT : T = "list" ∨ T = "tuple") (ho : s.heap.get? l = some o) (hc : o.cls = .type T) (hd : o.data = .seq vs.toArray n) (hI : IntsAre vs ns) (h64 : vs.length < 64)
    (h : ∀ (out : Array Value) (ns' : List Int), IntsAre out.toList ns' → ns'.Perm ns → ns'.Pairwise (· ≤ ·) → Q (.ref (s.heap.objs.size + 1)) { s with heap := sortedAll s.heap vs out }) : wpAny (model prog w) A (call (.builtin "sorted") [.ref l]) Q E s := by
  have hsz : ((s.heap.push (seqObj "list" #[] 0)).update s.heap.objs.size (Obj.mapSeq (· ++ vs.toArray))).objs.size = s.heap.objs.size + 1 := (by rw [Heap.size_update, size_push'])
  have hoL : (((s.heap.push (seqObj "list" #[] 0)).update s.heap.objs.size (Obj.mapSeq (· ++ vs.toArray))).push (seqObj "list" vs.toArray 0)).get? (s.heap.objs.size + 1) = some (seqObj "list" vs.toArray 0) := (by rw [← hsz]; exact Heap.get?_push_size _ rfl)
  refine Calls.call_function_entry kind_sorted plain_sorted entry_sorted (args_sorted1 _) ?_; unfold Builtin.«sorted»
  refine wpAny_bind (m := checkCount "sorted" 1 1 _) (wpAny_pure (wpAny_bind (collect_q hT ho hc hd (by rw [sizeLine_eq]; omega) (wpAny_bind (wpAny_newList ?_)))))
  show wpAny _ _ _ _ _ { s with heap := ((s.heap.push (seqObj "list" #[] 0)).update s.heap.objs.size (Obj.mapSeq (· ++ vs.toArray))).push (seqObj "list" vs.toArray 0) }; rw [hsz]
  exact wpAny_bind (wpAny_holding (wpAny_call_entry slot_list_sort ⟨_, hoL, rfl⟩ entry_list_sort (list_sort_tree hoL hI h64 fun out ns' a1 a2 a3 => ⟨_, rfl, wpAny_pure ⟨_, rfl, h out ns' a1 a2 a3⟩⟩) (args_list_sort _)))
end
/-- a list or a tuple that is tracked -/
def Lt (H : Hp) (a : Addr) (vs : List V) : Prop := H a = some (.lst vs) ∨ H a = some (.tup vs)
theorem Lt.sq {K : PySem.W.Frag} {H : Hp} {a : Addr} {vs : List V} (h : Lt H a vs) : SqL K H a vs ∨ SqT K H a vs := h.imp SqL.of SqT.of
theorem Lt.same {H H' : Hp} {a : Addr} {vs : List V} (h : Lt H a vs) (s : Same H H') : Lt H' a vs := h.imp (s _ _) (s _ _)
theorem Lt.uniq {H : Hp} {a : Addr} {vs us : List V} (h : Lt H a vs) (g : Lt H a us) : vs = us := by
  rcases h with h | h <;> rcases g with g | g <;> rw [h] at g <;> cases g <;> rfl
theorem Lt.k {K : PySem.W.Frag} {H : Hp} {a : Addr} {vs : List V} (h : Lt H a vs) : ∃ k, sqK k K H a vs := h.elim (fun h => ⟨true, SqL.of h⟩) fun h => ⟨false, SqT.of h⟩
theorem sqK_same {k : Bool} {K : PySem.W.Frag} {H H' : Hp} {a : Addr} {xs : List V} (h : sqK k K H a xs) (s : Same H H') : sqK k K H' a xs := by
  cases k with
  | true => exact sqL_same h s
  | false => exact sqT_same h s
section
variable {X : Cx}
def rSortQ : List V → Hp → VK → Prop := fun vs H Q => ∃ (a : Addr) (ns : List Int), vs = [V.ref a] ∧ Lt H a (ns.map V.int) ∧ ns.length < 64 ∧ ∀ (ns' : List Int) (p : Addr), ns'.Perm ns → ns'.Pairwise (· ≤ ·) → H p = none → Q (.ref p) (upd H p (.lst (ns'.map V.int)))
theorem cr_sortedQ : CallR X (.builtin "sorted") rSortQ := by
  intro pins s σ H vs us Q I r h
  obtain ⟨a, ns, rfl, hs, h64, q⟩ := h
  rcases hs with hs | hs
  · exact cr_sorted pins s σ H _ us Q I r ⟨a, ns, rfl, SqL.of hs, h64, q⟩
  · obtain ⟨its, rv, hl, _⟩ := I.tuple (SqT.of (K := X.K) hs)
    obtain ⟨o, h1, h2, n, h3⟩ := hl
    rw [Vals.ref1 r]
    have hi := rv.ints
    refine sorted_q (.inr rfl) h1 h2 h3 hi (by rw [hi.length]; exact h64) fun out ns' a1 a2 a3 => ?_
    obtain ⟨ep, he'⟩ := PyProof.Rows.sortedAll_at s.heap its out
    exact ⟨.ref _, upd H (s.heap.objs.size + 1) (.lst (ns'.map V.int)), I.laid (t' := s.toks) (fun _ _ => PyProof.Rows.sortedAll_old) (Nat.le_succ _) ⟨by rw [List.length_map, a2.length_eq]; exact small64 h64, out.toList, ep, vals_of_ints a1, he'⟩, rfl, q ns' _ a2 a3 (I.hok.fresh (Nat.le_succ _))⟩
theorem op_in_seqK {K : PySem.W.Frag} (h : X.K = K) : OpR X (compareOp .In) (rIn K false) := h ▸ op_in_seq
theorem op_notIn_seqK {K : PySem.W.Frag} (h : X.K = K) : OpR X (compareOp .NotIn) (rIn K true) := h ▸ op_notIn_seq
end
/-- an error with the field f -/
def ErF (C : Addr) (f : Str) (H : Hp) (v : V) (E : XK) : Prop := ∀ H' d, Same H H' → H d = none → H' d = some (.xd [(f, v)]) → E (.ref C) (some d) H'
theorem ErF.now {C : Addr} {f : Str} {H : Hp} {v : V} {E : XK} (h : ErF C f H v E) : ∀ d, H d = none → E (.ref C) (some d) (upd H d (.xd [(f, v)])) := fun d hd => h _ d (same_upd hd) hd upd_same
theorem ErF.same {C : Addr} {f : Str} {H H1 : Hp} {v : V} {E : XK} (h : ErF C f H v E) (s : Same H H1) : ErF C f H1 v E := fun H' d s2 hd e => h H' d (s.trans s2) (s.free hd) e
/-- texts in a list of texts -/
theorem inV_str (c : Str) (l : List Str) : inV (.str c) (l.map V.str) = decide (c ∈ l) := by
  induction l with
  | nil => rfl
  | cons d l ih =>
    unfold inV at ih ⊢
    rw [List.map_cons, List.any_cons, ih]
    have e : eqV (.str d) (.str c) = decide (d = c) := by
      show (d == c) = _
      rw [Bool.eq_iff_iff, beq_iff_eq, decide_eq_true_iff]
    rw [e]
    by_cases h : d = c
    · simp [h]
    · have h' : c ≠ d := fun z => h z.symm
      simp [h, h']
theorem inV_int (c : Int) (l : List Int) : inV (.int c) (l.map V.int) = decide (c ∈ l) := by
  induction l with
  | nil => rfl
  | cons d l ih =>
    unfold inV at ih ⊢
    rw [List.map_cons, List.any_cons, ih]
    have e : eqV (.int d) (.int c) = decide (d = c) := by
      show (d == c) = _
      rw [Bool.eq_iff_iff, beq_iff_eq, decide_eq_true_iff]
    rw [e]
    by_cases h : d = c
    · simp [h]
    · have h' : c ≠ d := fun z => h z.symm
      simp [h, h']
theorem flatS (l : List Str) : (l.map V.str).all flatV = true := by
  rw [List.all_map]
  exact List.all_eq_true.mpr fun _ _ => rfl
theorem flatI (l : List Int) : (l.map V.int).all flatV = true := by
  rw [List.all_map]
  exact List.all_eq_true.mpr fun _ _ => rfl
/-- a list or a tuple at an index -/
theorem ix_lt {K : PySem.W.Frag} {H : Hp} {a : Addr} {vs : List V} {i : Int} {v : V} {Q : VK} (h : Lt H a vs) (e : atI vs i = some v) (q : Q v H) : rIx K (.ref a) (.int i) H Q :=
  h.elim (fun h => .inl ⟨a, vs, i, v, rfl, rfl, SqL.of h, e, q⟩) fun h => .inr (.inl ⟨a, vs, i, v, rfl, rfl, SqT.of h, e, q⟩)
/-! ### comprehensions by what they have made so far -/
section
variable {J : It} {n : Nat} {G : Hp → Prop} {Y : Nat → Hp → V → Hp → Prop} {g : TG} {tt : TT} {te : TE} {vs : List Nat} {σ : L2.St} {H1 : Hp} {D : Addr} {Qd : Hp → Prop}
theorem lc_inv (w : Walk J n G Y) (I : Nat → List V → Hp → Prop) (bl : ∀ i acc H xs, I i acc H → I i acc (upd H D (.lst xs))) (h0 : I 0 [] H1) (hl : ∀ i acc H, i < n → I i acc H → acc.length < sizeLine) (hG : ∀ i acc H, i ≤ n → I i acc H → G H)
    (hs : ∀ i x acc H H', i < n → I i acc H → H D = some (.lst acc) → Y i H x H' → ∀ (N : V → Hp → Prop) (S : Hp → Prop), (∀ v H4, H4 D = some (.lst acc) → I (i + 1) (acc ++ [v]) H4 → N v H4) → (∀ H4, H4 D = some (.lst acc) → I (i + 1) acc H4 → S H4) →
      g x (wipe σ vs) H' fun σ2 H2 => wipe σ2 vs = wipe σ vs ∧ tt σ2 H2 fun b H3 => if b = true then te σ2 H3 N else S H3) (hd : ∀ acc H, H D = some (.lst acc) → I n acc H → Qd H) :
    ∃ W : Nat → Nat → Hp → Prop, (∃ m, W 0 m (upd H1 D (.lst []))) ∧ ∀ i m H, W i m H →
      (J.stop i H ∧ Qd H) ∨ (J.go i H ∧ ∃ Nx : Hp → Prop, (∀ H', Nx H' → ∃ m', m' < m ∧ W (i + 1) m' H') ∧ ∀ x H', J.yld i H x H' → g x (wipe σ vs) H' fun σ2 H2 => wipe σ2 vs = wipe σ vs ∧ tt σ2 H2 fun b H3 =>
        if b = true then te σ2 H3 fun y H4 => ∃ acc, H4 D = some (.lst acc) ∧ acc.length < sizeLine ∧ Nx (upd H4 D (.lst (acc ++ [y]))) else Nx H3) := by
  refine lc_it w (fun i H => ∃ acc, H D = some (.lst acc) ∧ I i acc H) ⟨[], upd_same, bl _ _ _ _ h0⟩ (fun i H hi ⟨acc, _, h⟩ => hG i acc H hi h) ?_ (fun H ⟨acc, e, h⟩ => hd acc H e h)
  rintro i x H H' hi ⟨acc, e, h⟩ y
  exact hs i x acc H H' hi h e y _ _ (fun v H4 e4 h4 => ⟨acc, e4, hl i acc H hi h, _, upd_same, bl _ _ _ _ h4⟩) fun H4 e4 h4 => ⟨acc, e4, h4⟩
/-- all stays beside the new list -/
theorem lc_acc (w : Walk J n G Y) (nD : H1 D = none) (out : Nat → List V) (o0 : out 0 = []) (ol : ∀ i, i < n → (out i).length ≤ 99999) (hG : ∀ H, Same H1 H → G H)
    (hs : ∀ i x H H', i < n → Same H1 H → Y i H x H' → ∀ (N : V → Hp → Prop) (S : Hp → Prop), (∀ v H4, Same H H4 → out (i + 1) = out i ++ [v] → N v H4) → (∀ H4, Same H H4 → out (i + 1) = out i → S H4) →
      g x (wipe σ vs) H' fun σ2 H2 => wipe σ2 vs = wipe σ vs ∧ tt σ2 H2 fun b H3 => if b = true then te σ2 H3 N else S H3) (hd : ∀ H, Same H1 H → H D = some (.lst (out n)) → Qd H) :
    ∃ W : Nat → Nat → Hp → Prop, (∃ m, W 0 m (upd H1 D (.lst []))) ∧ ∀ i m H, W i m H →
      (J.stop i H ∧ Qd H) ∨ (J.go i H ∧ ∃ Nx : Hp → Prop, (∀ H', Nx H' → ∃ m', m' < m ∧ W (i + 1) m' H') ∧ ∀ x H', J.yld i H x H' → g x (wipe σ vs) H' fun σ2 H2 => wipe σ2 vs = wipe σ vs ∧ tt σ2 H2 fun b H3 =>
        if b = true then te σ2 H3 fun y H4 => ∃ acc, H4 D = some (.lst acc) ∧ acc.length < sizeLine ∧ Nx (upd H4 D (.lst (acc ++ [y]))) else Nx H3) := by
  refine lc_inv w (fun i acc H => Same H1 H ∧ acc = out i) (fun i acc H xs h => ⟨fun b o e => ?_, h.2⟩) ⟨fun _ _ e => e, o0.symm⟩ (fun i acc H hi h => ?_) (fun i acc H _ h => hG H h.1) ?_ (fun acc H e h => hd H h.1 (h.2 ▸ e))
  · rw [upd_ne (ne_of_none e nD)]
    exact h.1 b o e
  · rw [h.2]
    exact Nat.lt_of_lt_of_le (Nat.lt_succ_of_le (ol i hi)) (small (by decide))
  · rintro i x acc H H' hi ⟨s, rfl⟩ e y N S hN hS
    exact hs i x H H' hi s y N S (fun v H4 s4 eo => hN v H4 (s4 _ _ e) ⟨s.trans s4, eo.symm⟩) fun H4 s4 eo => hS H4 (s4 _ _ e) ⟨s.trans s4, eo.symm⟩
end
theorem take_map {α : Type} {β : Type} {xs : List α} {i : Nat} {x : α} (f : α → β) (h : xs[i]? = some x) : (xs.take (i + 1)).map f = (xs.take i).map f ++ [f x] := by
  rw [List.take_add_one, h, Option.toList_some, List.map_append]
  rfl
theorem take_fil {α : Type} {xs : List α} {i : Nat} {x : α} (p : α → Bool) (h : xs[i]? = some x) : (xs.take (i + 1)).filter p = (xs.take i).filter p ++ (if p x then [x] else []) := by
  rw [List.take_add_one, h, Option.toList_some, List.filter_append]
  cases e : p x <;> simp [e]
theorem rep_succ (n : Nat) : (List.replicate (n + 1) true).map V.bl = (List.replicate n true).map V.bl ++ [V.bl true] := by
  rw [List.replicate_succ', List.map_append]
  rfl
theorem rep_all (n : Nat) : (List.replicate n true).all id = true := by simp
theorem Same.rfl' {H : Hp} : Same H H := fun _ _ e => e
/-- a new object beside what was there -/
theorem mkO {H : Hp} {a : Addr} (n : H a = none) (o : HO) : ∃ G : Hp, upd H a o = G ∧ Same H G ∧ G a = some o := ⟨_, rfl, same_upd n, upd_same⟩
/-- an own object is changed beside what was there -/
theorem own_same {H0 H : Hp} {D : Addr} {o : HO} (s : Same H0 H) (n : H0 D = none) : Same H0 (upd H D o) := fun b x e => by
  rw [upd_ne (ne_of_none e n)]
  exact s b x e
/-- t + u, in whatever way -/
theorem cat_of {K : PySem.W.Frag} {H : Hp} {a b : Addr} {xs ys : List V} {Q : VK} (ha : H a = some (.tup xs)) (hb : H b = some (.tup ys)) (hz : xs.length + ys.length ≤ 100000) (q : ∀ p H', Same H H' → H' p = some (.tup (xs ++ ys)) → Q (.ref p) H') : rCatA K (.ref a) (.ref b) H Q := by
  refine ⟨a, b, xs, ys, rfl, rfl, SqT.of ha, SqT.of hb, small hz, fun e => ?_, fun _ e => ?_, fun _ _ p hp => q p _ (same_upd hp) upd_same⟩
  · subst e
    exact q b H Same.rfl' hb
  · subst e
    exact q a H Same.rfl' (by rw [List.append_nil]; exact ha)
theorem fil_pos {α : Type} {l : List α} {x : α} {p : α → Bool} (h : p x = true) : (l ++ [x]).filter p = l.filter p ++ [x] := by rw [List.filter_append, List.filter_cons_of_pos h, List.filter_nil]
theorem fil_neg {α : Type} {l : List α} {x : α} {p : α → Bool} (h : p x = false) : (l ++ [x]).filter p = l.filter p := by rw [List.filter_append, List.filter_cons_of_neg (by rw [h]; exact Bool.false_ne_true), List.filter_nil, List.append_nil]
theorem own_but {H0 H : Hp} {p D : Addr} {o : HO} (b : But p H0 H) (n : H0 D = none) : But p H0 (upd H D o) := fun c x e ne => by
  rw [upd_ne (ne_of_none e n)]
  exact b c x e ne
theorem but_same {p : Addr} {H H1 H2 : Hp} (b : But p H H1) (s : Same H1 H2) : But p H H2 := fun c x e ne => s _ _ (b c x e ne)
/-! ### texts of one sign, joined -/
abbrev tls (x : Str) : List Nat := TL.tl x
def mkS (l : List Nat) : Str := ⟨l.toArray⟩
theorem tls_mk (l : List Nat) : tls (mkS l) = l := rfl
theorem len_mk (l : List Nat) : (mkS l).length = l.length := TL.len_tl (mkS l)
theorem mk_app (a b : List Nat) : mkS a ++ mkS b = mkS (a ++ b) := TL.ext_tl (by show tls _ = tls _; rw [show tls (mkS a ++ mkS b) = tls (mkS a) ++ tls (mkS b) from TL.tl_append _ _, tls_mk, tls_mk, tls_mk])
abbrev sgV (r : List Nat) : List V := r.map fun c => V.str ⟨#[c]⟩
theorem join_sg (r : List Nat) : Txt.join "" (r.map fun c => (⟨#[c]⟩ : Str)) = mkS r := by
  rw [TL.join_eq]
  induction r with
  | nil => rfl
  | cons x r ih =>
    cases r with
    | nil => rfl
    | cons y r =>
      show mkS [x] ++ mkS [] ++ Str.join "" ((y :: r).map fun c => (⟨#[c]⟩ : Str)) = _
      rw [ih, mk_app, mk_app]
      rfl
abbrev sgs (r : List Nat) : List Str := r.map fun c => (⟨#[c]⟩ : Str)
theorem sq_sg {K : PySem.W.Frag} {H : Hp} {D : Addr} {r : List Nat} (h : H D = some (.lst (sgV r))) : SqL K H D ((sgs r).map V.str) := SqL.of (by rw [h, List.map_map]; rfl)
theorem sz_sg {r : List Nat} (l : r.length ≤ 100000) : ((sgs r).map (·.length)).sum + (sgs r).length * (("" : Str)).length ≤ 16777216 := by
  have e : ∀ r : List Nat, ((sgs r).map (·.length)).sum = r.length := fun r => by
    induction r with
    | nil => rfl
    | cons c r ih =>
      show 1 + ((sgs r).map (·.length)).sum = _
      rw [ih, List.length_cons]
      omega
  rw [e, show (("" : Str)).length = 0 from rfl]
  omega
end LL

set_option Elab.async false
set_option linter.all false
set_option maxRecDepth 100000
set_option maxHeartbeats 2000000
/-! LLEq: data of None, ints, texts, lists and tuples: == is equality. -/
namespace LL
open PySem PySem.Spec PyProof.Rows L2
/-- such data, at most n deep -/
def Pn : Nat → PyData → Prop
  | _, .none => True
  | _, .int _ => True
  | _, .str x => PyData.strOk x = true
  | n + 1, .list xs => ∀ d ∈ xs, Pn n d
  | n + 1, .tuple xs => ∀ d ∈ xs, Pn n d
  | _, _ => False
theorem lay_all : ∀ {xs : List PyData}, (∀ d ∈ xs, d.canLay0 = true) → PyData.canLayAll0 xs = true
  | [], _ => by simp only [PyData.canLayAll0]
  | x :: xs, h => by
    simp only [PyData.canLayAll0]
    rw [h x (List.mem_cons_self ..), lay_all fun d hd => h d (List.mem_cons_of_mem _ hd)]
    rfl
theorem depth_all {n : Nat} : ∀ {xs : List PyData}, (∀ d ∈ xs, d.depth ≤ n) → PyData.depthAll xs ≤ n
  | [], _ => by simp only [PyData.depthAll]; exact Nat.zero_le _
  | x :: xs, h => by
    simp only [PyData.depthAll]
    exact Nat.max_le.mpr ⟨h x (List.mem_cons_self ..), depth_all fun d hd => h d (List.mem_cons_of_mem _ hd)⟩
theorem Pn.lay : ∀ {n : Nat} {d : PyData}, Pn n d → d.canLay0 = true ∧ d.depth ≤ n
  | n, .none, _ => ⟨by simp only [PyData.canLay0], by simp only [PyData.depth]; exact Nat.zero_le _⟩
  | n, .int _, _ => ⟨by simp only [PyData.canLay0], by simp only [PyData.depth]; exact Nat.zero_le _⟩
  | n, .str x, h => ⟨by simp only [PyData.canLay0]; cases n <;> exact h, by simp only [PyData.depth]; exact Nat.zero_le _⟩
  | n + 1, .list xs, h => ⟨by simp only [PyData.canLay0]; exact lay_all fun d hd => (Pn.lay (h d hd)).1, by simp only [PyData.depth]; exact Nat.succ_le_succ (depth_all fun d hd => (Pn.lay (h d hd)).2)⟩
  | n + 1, .tuple xs, h => ⟨by simp only [PyData.canLay0]; exact lay_all fun d hd => (Pn.lay (h d hd)).1, by simp only [PyData.depth]; exact Nat.succ_le_succ (depth_all fun d hd => (Pn.lay (h d hd)).2)⟩
  | 0, .list _, h => h.elim
  | 0, .tuple _, h => h.elim
  | 0, .bool _, h => h.elim
  | n + 1, .bool _, h => h.elim
  | 0, .dict _, h => h.elim
  | n + 1, .dict _, h => h.elim
theorem Pn.shp {n : Nat} {d : PyData} (h : Pn n d) (hn : n ≤ 60) : SeqAt.shaped d = true := by
  obtain ⟨a, b⟩ := h.lay
  unfold SeqAt.shaped
  rw [a, Bool.true_and]
  exact decide_eq_true (by omega)
theorem eqv_all : ∀ {xs ys : List PyData}, (∀ d ∈ xs, ∀ e ∈ ys, (PyData.eqv d e = true ↔ d = e)) → (PyData.eqvAll xs ys = true ↔ xs = ys)
  | [], [], _ => by simp [PyData.eqvAll]
  | [], _ :: _, _ => by simp [PyData.eqvAll]
  | _ :: _, [], _ => by simp [PyData.eqvAll]
  | x :: xs, y :: ys, h => by
    simp only [PyData.eqvAll, Bool.and_eq_true, List.cons.injEq]
    exact and_congr (h x (List.mem_cons_self ..) y (List.mem_cons_self ..)) (eqv_all fun d hd e he => h d (List.mem_cons_of_mem _ hd) e (List.mem_cons_of_mem _ he))
theorem Pn.no_bool {n : Nat} {b : Bool} : ¬ Pn n (.bool b) := by cases n <;> exact fun h => h
theorem Pn.no_dict {n : Nat} {b : List (PyData × PyData)} : ¬ Pn n (.dict b) := by cases n <;> exact fun h => h
theorem Pn.eqv : ∀ {n m : Nat} {d e : PyData}, Pn n d → Pn m e → (PyData.eqv d e = true ↔ d = e) := by
  intro n
  induction n with
  | zero =>
    intro m d e hd he
    cases d <;> cases e <;> first | exact hd.elim | exact absurd he Pn.no_bool | exact absurd he Pn.no_dict | simp [PyData.eqv]
  | succ n ih =>
    intro m d e hd he
    cases d with
    | list xs =>
      cases e with
      | list ys =>
        cases m with
        | zero => exact he.elim
        | succ m =>
          simp only [PyData.eqv, PyData.list.injEq]
          exact eqv_all fun d hd' e he' => ih (hd d hd') (he e he')
      | bool b => exact absurd he Pn.no_bool
      | dict b => exact absurd he Pn.no_dict
      | _ => simp [PyData.eqv]
    | tuple xs =>
      cases e with
      | tuple ys =>
        cases m with
        | zero => exact he.elim
        | succ m =>
          simp only [PyData.eqv, PyData.tuple.injEq]
          exact eqv_all fun d hd' e he' => ih (hd d hd') (he e he')
      | bool b => exact absurd he Pn.no_bool
      | dict b => exact absurd he Pn.no_dict
      | _ => simp [PyData.eqv]
    | bool b => exact hd.elim
    | dict b => exact hd.elim
    | _ => cases e <;> first | exact absurd he Pn.no_bool | exact absurd he Pn.no_dict | simp [PyData.eqv]
theorem dec_b {b : Bool} {p : Prop} (h : b = true ↔ p) : (p → b = true) ∧ (¬ p → b = false) := ⟨h.mpr, fun n => Bool.eq_false_iff.mpr fun z => n (h.mp z)⟩
section
variable {K : PySem.W.Frag} {H : Hp} {x y : V} {d e : PyData} {n m : Nat} {Q : VK}
theorem eq_pd (hx : Dp K H x d) (hy : Dp K H y e) (pd : Pn n d) (pe : Pn m e) (q : ∀ b, (b = true ↔ d = e) → Q (.bl b) H) (hn : n ≤ 60 := by decide) (hm : m ≤ 60 := by decide) : rEqD K x y H Q := ⟨d, e, hx, hy, pd.shp hn, pe.shp hm, q _ (pd.eqv pe)⟩
theorem ne_pd (hx : Dp K H x d) (hy : Dp K H y e) (pd : Pn n d) (pe : Pn m e) (q : ∀ b, (b = true ↔ d = e) → Q (.bl (!b)) H) (hn : n ≤ 60 := by decide) (hm : m ≤ 60 := by decide) : rNeD K x y H Q := ⟨d, e, hx, hy, pd.shp hn, pe.shp hm, q _ (pd.eqv pe)⟩
end
mutual
theorem Dp.same {K : PySem.W.Frag} {H H' : Hp} (s : Same H H') : ∀ {v : V} {d : PyData}, Dp K H v d → Dp K H' v d
  | _, _, .non => .non
  | _, _, .bl b => .bl b
  | _, _, .int i => .int i
  | _, _, .str x => .str x
  | _, _, .lst h a => .lst (sqL_same h s) (DpAll.same s a)
  | _, _, .tup h a => .tup (sqT_same h s) (DpAll.same s a)
theorem DpAll.same {K : PySem.W.Frag} {H H' : Hp} (s : Same H H') : ∀ {vs : List V} {ds : List PyData}, DpAll K H vs ds → DpAll K H' vs ds
  | _, _, .nil => .nil
  | _, _, .cons h a => .cons (Dp.same s h) (DpAll.same s a)
end
theorem dpa_map {K : PySem.W.Frag} {H : Hp} {α : Type} {f : α → V} {g : α → PyData} : ∀ {l : List α}, (∀ x ∈ l, Dp K H (f x) (g x)) → DpAll K H (l.map f) (l.map g)
  | [], _ => .nil
  | x :: l, h => .cons (h x (List.mem_cons_self ..)) (dpa_map fun y hy => h y (List.mem_cons_of_mem _ hy))
theorem dpa_at {K : PySem.W.Frag} {H : Hp} : ∀ {vs : List V} {ds : List PyData}, vs.length = ds.length → (∀ (i : Nat) v d, vs[i]? = some v → ds[i]? = some d → Dp K H v d) → DpAll K H vs ds
  | [], [], _, _ => .nil
  | v :: vs, d :: ds, hl, h => .cons (h 0 v d rfl rfl) (dpa_at (by simpa using hl) fun i v d h1 h2 => h (i + 1) v d h1 h2)
  | [], _ :: _, hl, _ => by cases hl
  | _ :: _, [], hl, _ => by cases hl
theorem pn_ints (l : List Int) : Pn 1 (.list (l.map PyData.int)) := fun d hd => by
  obtain ⟨i, _, rfl⟩ := List.mem_map.mp hd
  trivial
theorem dp_ints {K : PySem.W.Frag} {H : Hp} {a : Addr} {l : List Int} (h : H a = some (.lst (l.map V.int))) : Dp K H (.ref a) (.list (l.map PyData.int)) := .lst (SqL.of h) (dpa_map fun i _ => .int i)
theorem int_inj {a b : List Int} (h : a.map PyData.int = b.map PyData.int) : a = b := List.map_inj_right (fun x y e => PyData.int.inj e) |>.mp h
theorem Lt.keep {H H' : Hp} {a : Addr} {us : List V} (h : Lt H a us) (s : Same H H') : H' a = H a := by
  rcases h with h | h <;> rw [h, s _ _ h]
/-- a walk of a list or a tuple that stands -/
theorem seq_lt {K : PySem.W.Frag} {tl : TE} {σ : L2.St} {H : Hp} {a : Addr} {us : List V} {R : It → Hp → Prop} (h : Lt H a us) (hq : ∀ Q : VK, Q (.ref a) H → tl σ H Q) (k : ∀ J, Walk J us.length (fun H' => H' a = H a) (YAt us) → R J H) : iSeqA K tl σ H R := by
  rcases h with h | h
  · exact .inl (hq _ ⟨a, rfl, ⟨us, SqL.of h⟩, k _ ((walk_list (K := K)).mono (fun H' s => SqL.of (s.trans h)) fun _ _ _ _ _ _ y => y)⟩)
  · exact .inr (hq _ ⟨a, rfl, ⟨us, SqT.of h⟩, k _ ((walk_tup (K := K)).mono (fun H' s => SqT.of (s.trans h)) fun _ _ _ _ _ _ y => y)⟩)
theorem putK_len {κ : Type} [DecidableEq κ] (kvs : List (κ × V)) (k : κ) (v : V) : (putK kvs k v).length ≤ kvs.length + 1 := by
  unfold putK
  split
  · rw [List.length_map]
    exact Nat.le_succ _
  · rw [List.length_append]
    exact Nat.le_refl _
theorem all_dec {α : Type} (l : List α) (p : α → Bool) : ((l.map p).all id) = l.all p := by rw [List.all_map]; rfl
end LL

set_option Elab.async false
set_option linter.all false
set_option maxRecDepth 100000
set_option maxHeartbeats 2000000
/-! LLNest: rules for what stands within a comprehension; the scope of a comprehension in a text. -/
namespace LL
open PySem PySem.Spec PyProof.Rows L2
section
variable {X : Cx} {K : PySem.W.Frag} {tg l : Expr} {tl : TE}
theorem pi_listK (h : X.K = K) (hl : PE X l tl) : PI X tg l (iList K tl) := h ▸ pi_list hl
theorem op_eqDK (h : X.K = K) (hu : X.A.units + 64 < cLine) : OpR X (compareOp .Eq) (rEqD K) := h ▸ op_eqD hu
theorem op_neDK (h : X.K = K) (hu : X.A.units + 64 < cLine) : OpR X (compareOp .NotEq) (rNeD K) := h ▸ op_neD hu
theorem sl_listK (h : X.K = K) : SlR X (rSlL K) := h ▸ sl_list
end
def stIn (b : List Stmt) (i : Nat) : Stmt := b.getD i (.Pass ⟨0, 0, 0, 0⟩)
def forBody : Stmt → List Stmt
  | .For _ _ b _ _ => b
  | _ => []
def asgVal : Stmt → Expr
  | .Assign _ e _ => e
  | _ => .Name "" ⟨0, 0, 0, 0⟩
def compSc : Expr → Scope
  | .ListComp _ _ sc _ => sc
  | _ => defScope (.Pass ⟨0, 0, 0, 0⟩)
end LL

set_option Elab.async false
set_option linter.all false
set_option maxRecDepth 100000
set_option maxHeartbeats 2000000
/-! LLSlots: a def called in a try's body: what is raised is wished for at the slots that stand then. -/
namespace LL
open PySem PySem.Spec PyProof.Rows L2
section
variable {X : Cx} {CX : CXT} {k : Nat} {sp : Sp} {dvs : List V} {E : L2.St → XK} {x : Str} {p pos : Pos} {e : Expr} {es : List Expr} {t : TA}
theorem pe_fnS (G : Fnc X.prog X.w X.K X.mg X.base CX k x dvs sp) (hr : Rm k X.A) (hx : ∀ σ, PassesAt CX X σ (E σ)) (ha : PA X (e :: es) t) (hg : Gl X x := by rfl) (hdb : (x == ("__debug__" : Str)) = false := by decide)
    (he : starEach (e :: es) X.env = (false, eval e X.env) :: starEach es X.env := by rfl) (hpl : (backTo pos (starEach es X.env)).any (·.1) = false := by rfl) : PE X (.Call (.Name x p) (e :: es) [] pos) (tCallSD sp dvs E t) := by
  obtain ⟨f, fd, ps, ds, hm, hk, hb, hd, F⟩ := G.ex
  refine ⟨fun pins s σ H Q I h => wpAny_Call_Name_kw (ld_glob I hg hm (PySem.W.callWith_K (h₀ := X.base) I.ok.mod.kin hk (thn (ha.run pos pins s σ H _ I h) fun us s1 z => ?_) he hpl) hdb)⟩
  obtain ⟨vs, H1, I1, r, q⟩ := z
  have r2 : Vals (vs ++ dvs) (us ++ ds) := r.append hd
  have hl : (us ++ ds).length = ps.length := r2.length.symm.trans (F.len _ _ _ _ q)
  refine ⟨I1.kIn, wpAny_call (codeAny_mono (F.run X.A X.stack s1 H1 ⟨us, []⟩ (us ++ ds) (vs ++ dvs) Q (E σ) hr I1.env0 (hb s1 us I1.kIn hl) r2 q) fun r s' hq => ?_)⟩
  match r, hq with
  | .error er, hq => exact hx σ pins H1 s1 er s' I1 hq
  | .ok (.ret u), hq => exact I1.after hq
  | .ok .next, hq => exact False.elim hq
  | .ok .brk, hq => exact False.elim hq
  | .ok .cont, hq => exact False.elim hq
end
theorem look_f (f : Str) (v : V) : ([(f, v)] : List (Str × V)).lookup f = some v := by
  rw [show ([(f, v)] : List (Str × V)) = putF f v [] from rfl, lookup_putF, if_pos rfl]
section
variable {K : PySem.W.Frag}
theorem kNoneL : PySem.W.kitOne K (.type "NoneType") (.type "list") = some false := kit_ty (by decide +kernel)
theorem kNoneT : PySem.W.kitOne K (.type "NoneType") (.type "tuple") = some false := kit_ty (by decide +kernel)
theorem kIntL : PySem.W.kitOne K (.type "int") (.type "list") = some false := kit_ty (by decide +kernel)
theorem kIntT : PySem.W.kitOne K (.type "int") (.type "tuple") = some false := kit_ty (by decide +kernel)
theorem kStrL : PySem.W.kitOne K (.type "str") (.type "list") = some false := kit_ty (by decide +kernel)
theorem kStrT : PySem.W.kitOne K (.type "str") (.type "tuple") = some false := kit_ty (by decide +kernel)
theorem kDicL : PySem.W.kitOne K (.type "dict") (.type "list") = some false := kit_ty (by decide +kernel)
theorem kDicT : PySem.W.kitOne K (.type "dict") (.type "tuple") = some false := kit_ty (by decide +kernel)
end
end LL

set_option Elab.async false
set_option linter.all false
set_option maxRecDepth 100000
set_option maxHeartbeats 2000000
/-! LLKw: a class called with keywords; t[::-1] of a tuple; {x!r} of data. -/
namespace LL
open PySem PySem.Spec PyProof.Rows L2
section
variable (P : Program) (w : World) (K : PySem.W.Frag) (mg : Str → Option Value) (base : Heap) (CX : CXT) (k : Nat)
/-- C(e, .., k = v, ..): n values and the keywords ks; sp of all in the order in which they are written -/
structure Mkk (x : Str) (n : Nat) (ks : List Str) (sp : Sp) : Prop where
  ex : ∃ (C f : Addr) (fd : FuncData) (ps : List Str) (g : List Value → List Value → List Value) (gV : List V → List V → List V) (si : Sp), Mk K C f ∧ mg x = some (.ref C) ∧ KBn K fd ps (n + 1) ks g gV ∧ FnG P w K mg base CX k f fd ps si ∧
    ∀ vs zs H Q E, vs.length = n → zs.length = ks.length → sp (vs ++ zs) H Q E → ∀ a dx, H a = none → H dx = none → dx ≠ a → si (gV (.ref a :: vs) zs) (upd (upd H dx (.own a)) a (.ins C dx [])) (fun v H2 => v = .non ∧ Q (.ref a) H2) E
end
def tKw (n m : Nat) (sp : Sp) (E : XK) (t tk : TA) : TE := fun σ H Q => t σ H fun vs H1 => tk σ H1 fun zs H2 => vs.length = n ∧ zs.length = m ∧ sp (vs ++ zs) H2 Q E
section
variable {X : Cx} {CX : CXT} {k n : Nat} {f C : Addr} {fd : FuncData} {ps ks : List Str} {sp : Sp} {E : XK} {x : Str} {p pos : Pos} {e : Expr} {es : List Expr} {kws : List Keyword} {t tk : TA} {g : List Value → List Value → List Value} {gV : List V → List V → List V}
theorem run_makeW {pins : List (Addr × Obj)} {σ : L2.St} {H : Hp} {s : Shared} {Q : VK} {us ws : List Value} {vs zs : List V} (M : Mk X.K C f) (F : FnG X.prog X.w X.K X.mg X.base CX k f fd ps sp) (hr : Rm (k + 1) X.A) (hb : KBn X.K fd ps (n + 1) ks g gV)
    (hx : Passes CX X E) (I : Inv X pins σ H s) (r : Vals vs us) (rz : Vals zs ws) (l1 : vs.length = n) (l2 : zs.length = ks.length)
    (h : ∀ x dx, H x = none → H dx = none → dx ≠ x → sp (gV (.ref x :: vs) zs) (upd (upd H dx (.own x)) x (.ins C dx [])) (fun v H2 => v = .non ∧ Q (.ref x) H2) E) :
    wpAny (model X.prog X.w) X.A (call (.ref C) us (ks.zip ws)) (EP X pins σ Q) X.xe s := by
  have hq := h (s.heap.objs.size + 1) s.heap.objs.size (I.hok.fresh (Nat.le_succ _)) (I.hok.fresh (Nat.le_refl _)) (Nat.ne_of_lt (Nat.lt_succ_self _))
  have I2 := Inv.made (C := C) I
  have r1 : Vals (V.ref (s.heap.objs.size + 1) :: vs) (Value.ref (s.heap.objs.size + 1) :: us) := .cons rfl r
  have r2 := hb.rel r1 rz
  have e1 : (Value.ref (s.heap.objs.size + 1) :: us).length = n + 1 := r1.length.symm.trans (congrArg Nat.succ l1)
  have e2 : ws.length = ks.length := rz.length.symm.trans l2
  refine wpAny_call (make_map (f := f) I.kIn M.makes M.init (beq_iff_eq.mp M.fn) (codeAny_mono (F.run _ X.stack _ _ ⟨Value.ref (s.heap.objs.size + 1) :: us, ks.zip ws⟩ (g (Value.ref (s.heap.objs.size + 1) :: us) ws) _ _ E (hr.make C us (ks.zip ws))
    (I2.env0.make C us (ks.zip ws)) (hb.to _ (Value.ref (s.heap.objs.size + 1) :: us) ws I2.kIn e1 e2) r2 hq) fun r s' hq' => ?_))
  match r, hq' with
  | .error er, hq' => exact hx pins σ _ _ er s' I2 hq'
  | .ok (.ret u), hq' =>
    obtain ⟨v, H', I3, rv, rfl, q3⟩ := I2.after hq'
    exact ⟨rv, ⟨V.ref (s.heap.objs.size + 1), H', I3, rfl, q3⟩⟩
  | .ok .next, hq' => exact False.elim hq'
  | .ok .brk, hq' => exact False.elim hq'
  | .ok .cont, hq' => exact False.elim hq'
theorem pe_mkk (G : Mkk X.prog X.w X.K X.mg X.base CX k x n ks sp) (hr : Rm (k + 1) X.A) (hx : Passes CX X E) (ha : PA X (e :: es) t) (hkw : PK X kws tk) (hg : Gl X x := by rfl)
    (hall : (backToKw pos (keywordEach kws X.env)).all (·.1.isSome) = true := by rfl) (hks : (backToKw pos (keywordEach kws X.env)).filterMap (·.1) = ks := by rfl)
    (hdb : (x == ("__debug__" : Str)) = false := by decide) (he : starEach (e :: es) X.env = (false, eval e X.env) :: starEach es X.env := by rfl)
    (hpl : ((backTo pos (starEach (e :: es) X.env)).any (·.1) || (backToKw pos (keywordEach kws X.env)).any (·.1.isNone)) = false := by rfl) :
    PE X (.Call (.Name x p) (e :: es) kws pos) (tKw n ks.length sp E t tk) := by
  obtain ⟨C, f, fd, ps, g, gV, si, M, hm, hb, F, conv⟩ := G.ex
  refine ⟨fun pins s σ H Q I h => ?_⟩
  refine wpAny_Call_Name_kw (ld_glob I hg hm ?_ hdb)
  refine PySem.W.callWith_KW (h₀ := X.base) I.ok.mod.kin M.kp hall (thn (ha.run pos pins s σ H _ I h) fun us s1 z => ?_) hpl he
  obtain ⟨vs, H1, I1, r, q⟩ := z
  refine thn (hkw.run pos pins s1 σ H1 _ I1 q) fun ws s2 z => ?_
  obtain ⟨zs, H2, I2, rz, l1, l2, q2⟩ := z
  refine ⟨I2.kIn, ?_⟩
  rw [hks]
  exact run_makeW M F hr hb hx I2 r rz l1 l2 (conv vs zs H2 Q E l1 l2 q2)
theorem pe_mkk0 (G : Mkk X.prog X.w X.K X.mg X.base CX k x 0 ks sp) (hr : Rm (k + 1) X.A) (hx : Passes CX X E) (hkw : PK X kws tk) (hg : Gl X x := by rfl)
    (hall : (backToKw pos (keywordEach kws X.env)).all (·.1.isSome) = true := by rfl) (hks : (backToKw pos (keywordEach kws X.env)).filterMap (·.1) = ks := by rfl) (hdb : (x == ("__debug__" : Str)) = false := by decide)
    (hpl : ((backTo pos (starEach [] X.env)).any (·.1) || (backToKw pos (keywordEach kws X.env)).any (·.1.isNone)) = false := by rfl) :
    PE X (.Call (.Name x p) [] kws pos) (tKw 0 ks.length sp E tNil tk) := by
  obtain ⟨C, f, fd, ps, g, gV, si, M, hm, hb, F, conv⟩ := G.ex
  refine ⟨fun pins s σ H Q I h => ?_⟩
  refine wpAny_Call_Name_kw (ld_glob I hg hm ?_ hdb)
  refine PySem.W.callWith_KW0 (h₀ := X.base) I.ok.mod.kin M.kp hall ?_ hpl
  refine thn (hkw.run pos pins s σ H _ I h) fun ws s2 z => ?_
  obtain ⟨zs, H2, I2, rz, l1, l2, q2⟩ := z
  refine ⟨I2.kIn, ?_⟩
  rw [hks]
  exact run_makeW (us := []) (vs := []) M F hr hb hx I2 .nil rz rfl l2 (conv [] zs H2 Q E rfl l2 q2)
end
/-! ### t[::-1] -/
section
variable {prog : Program} {w : World} {A : Around} {E : Value → Shared → Prop} {s : Shared}
theorem adjust_rev (n : Nat) : Builtin.Slice.sliceAdjust none none (-1) (n : Int) = ((n : Int) - 1, -1) := rfl
theorem places_rev (n : Nat) : Builtin.Slice.slicePlaces ((n : Int) - 1) (-1) (-1) = n := by
  unfold Builtin.Slice.slicePlaces
  rw [if_neg (by decide)]
  have e : (-(-1) : Int) = 1 := rfl
  rw [e, Int.ediv_one]
  split <;> omega
theorem fm_congr {α β : Type} {f g : α → Option β} : ∀ {l : List α}, (∀ a ∈ l, f a = g a) → l.filterMap f = l.filterMap g
  | [], _ => rfl
  | a :: l, h => by rw [List.filterMap_cons, List.filterMap_cons, h a (List.mem_cons_self ..), fm_congr fun b hb => h b (List.mem_cons_of_mem _ hb)]
theorem pick_rev (xs : Array Value) : ((List.range xs.size).filterMap fun (m : Nat) => xs[((xs.size : Int) - 1 + (m : Int) * -1).toNat]?).toArray = xs.toList.reverse.toArray := by
  have e := HT.pick_gen xs.toList.reverse.toArray 0 xs.size
  rw [List.drop_zero, List.take_of_length_le (by rw [List.length_reverse, Array.length_toList]; exact Nat.le_refl _)] at e
  refine Eq.trans (congrArg List.toArray (fm_congr fun m hm => ?_)) e
  have hm := List.mem_range.mp hm
  have q : ((xs.size : Int) - 1 + (m : Int) * -1).toNat = xs.size - 1 - m := by omega
  have q2 : (((0 : Nat) : Int) + (m : Int) * 1).toNat = m := by omega
  rw [q, q2, show xs.toList.reverse.toArray[m]? = xs.toList.reverse[m]? from List.getElem?_toArray .., List.getElem?_reverse (by rw [Array.length_toList]; exact hm), Array.length_toList, Array.getElem?_toList]
theorem getItem_tuple_rev {t sl : Addr} {items : Array Value} {vl vu vs : Value} {Q : Value → Shared → Prop} (ht : IsTup s.heap t items) (hs : s.heap.IsSliceOf sl vl vu vs) (pl : IsPart vl none) (pu : IsPart vu none) (ps : IsPart vs (some (-1)))
    (h : Q (.ref s.heap.objs.size) { s with heap := s.heap.push { cls := .type "tuple", data := .seq items.toList.reverse.toArray } })
    (hsz : items.size ≤ sizeLine) : wpAny (model prog w) A (getItem (.ref t) (.ref sl)) Q E s := by
  have htake : sizeOk (.seq items.toList.reverse.toArray) := by
    show items.toList.reverse.toArray.size ≤ sizeLine
    rw [List.size_toArray, List.length_reverse, Array.length_toList]
    exact hsz
  obtain ⟨os, hos, hcs, hds⟩ := id hs
  have hTs : s.TypeIs (.ref sl) "slice" := ⟨os, hos, hcs⟩
  unfold getItem
  try with_reducible refine wpAny_holding ?_
  first | refine wpAny_bind (wpAny_pure ?_) | skip
  refine wpAny_bind (wpAny_sequenceKey ht.typeIs (by decide) ?_)
  refine wpAny_bind (wpAny_callSpecial?_slot (name := Str.ofString "__getitem__") ht.typeIs PyProof.Rows.slot_tuple_getitem
    (wpAny_call_entry PyProof.Rows.slot_tuple_getitem ht.typeIs entry_tuple_getitem ?_ (args_tuple_getitem _ _)))
  show wpAny _ _ (Builtin.Tuple.tupleItemsOf (.ref t) >>= _) _ _ s
  refine wpAny_bind (tupleItemsOf_ ht ?_)
  refine wpAny_bind (wpAny_typeOf hTs ?_)
  rw [if_pos (by decide)]
  have app : ∀ {A : Around} {Q : Int × Int × Nat → Shared → Prop}, Q ((items.size : Int) - 1, -1, items.size) s → wpAny (model prog w) A (Builtin.Slice.sliceApplied (.ref sl) (pure (items.size : Int))) Q E s := by
    intro A Q h
    unfold Builtin.Slice.sliceApplied Builtin.Slice.sliceFields
    refine wpAny_bind (wpAny_bind (wpAny_field hos hds (x := vl) rfl (wpAny_bind (wpAny_field hos hds (x := vu) rfl (wpAny_bind (wpAny_field hos hds (x := vs) rfl (wpAny_pure ?_)))))))
    refine wpAny_bind (HT.slicePart_ ps ?_)
    show wpAny _ _ (if ((-1 : Int) == 0) = true then _ else _) _ _ s
    rw [if_neg (by decide)]
    refine wpAny_bind (HT.slicePart_ pl (wpAny_bind (HT.slicePart_ pu (wpAny_bind (wpAny_pure ?_)))))
    show wpAny _ _ (match Builtin.Slice.sliceAdjust none none (-1) (items.size : Int) with | (lo, hi) => pure (lo, (-1 : Int), Builtin.Slice.slicePlaces lo hi (-1))) _ _ s
    rw [adjust_rev]
    show wpAny _ _ (pure ((items.size : Int) - 1, (-1 : Int), Builtin.Slice.slicePlaces ((items.size : Int) - 1) (-1) (-1))) _ _ s
    rw [places_rev]
    exact wpAny_pure h
  refine wpAny_bind (app ?_)
  have hno : ¬ ((((items.size : Int) - 1) == 0 && (-1 : Int) == 1 && items.size == items.size) = true) := by
    rw [show ((-1 : Int) == 1) = false from rfl, Bool.and_false, Bool.false_and]
    exact Bool.false_ne_true
  show wpAny _ _ (if (((items.size : Int) - 1) == 0 && (-1 : Int) == 1 && items.size == items.size) = true then _ else _) _ _ s
  rw [if_neg hno, pick_rev]
  first
    | exact wpAny_bind (m := Builtin.Tuple.tupleExact _) (wpAny_newObj_type (wpAny_pure ⟨_, rfl, wpAny_pure h⟩) htake)
    | exact wpAny_bind (m := Builtin.Tuple.tupleExact _) (wpAny_newObj_type (wpAny_bind (wpAny_pure (wpAny_pure ⟨_, rfl, wpAny_pure h⟩))) htake)
    | exact wpAny_bind (wpAny_bind (m := Builtin.Tuple.tupleExact _) (wpAny_newObj_type (wpAny_pure (wpAny_pure ⟨_, rfl, wpAny_pure h⟩)) htake))
    | exact wpAny_bind (wpAny_bind (m := Builtin.Tuple.tupleExact _) (wpAny_newObj_type (wpAny_pure ⟨_, rfl, wpAny_pure h⟩) htake))
end
section
variable {X : Cx}
def tRevT (K : PySem.W.Frag) (te : TE) : TE := fun σ H Q => te σ H fun x H1 => ∃ a xs, x = .ref a ∧ SqT K H1 a xs ∧ ∀ p, H1 p = none → Q (.ref p) (upd H1 p (.tup xs.reverse))
theorem pe_revT {e : Expr} {te : TE} {k : Nat} {p1 p2 p3 pos : Pos} (he : PE X e te) : PE X (.Subscript e (.Slice none none (some (.UnaryOp .USub (.Constant (.int 1) k p1) p2)) p3) pos) (tRevT X.K te) := by
  refine ⟨fun pins s σ H Q I h => ?_⟩
  refine Subscript_ (thn (he.run pins s σ H _ I h) fun v s1 z => ?_)
  obtain ⟨x, H1, I1, r1, q1⟩ := z
  obtain ⟨a, xs, ex, hx, q⟩ := q1
  subst ex
  cases r1
  have hst : PO X (some (.UnaryOp .USub (.Constant (.int 1) k p1) p2)) (tPart (tUn (rU fun i => .int (-i)) (tC (.int 1)))) := po_some (pe_un un_neg pe_int)
  refine wpAny_Slice (thn (po_none.run pins s1 σ H1 (fun o H2 => o = none ∧ H2 = H1) I1 ⟨rfl, rfl⟩) fun vl s2 z => ?_)
  obtain ⟨l, H2, I2, pl, el, e2⟩ := z
  subst el e2
  refine thn (po_none.run pins s2 σ H2 (fun o H3 => o = none ∧ H3 = H2) I2 ⟨rfl, rfl⟩) fun vu s3 z => ?_
  obtain ⟨u, H3, I3, pu, eu, e3⟩ := z
  subst eu e3
  refine thn (hst.run pins s3 σ H3 (fun o H4 => o = some (-1) ∧ H4 = H3) I3 ⟨1, rfl, -1, rfl, rfl, rfl⟩) fun vs s4 z => ?_
  obtain ⟨o, H4, I4, ps, eo, e4⟩ := z
  subst eo e4
  have I5 : Inv X pins σ H4 { s4 with heap := s4.heap.push { cls := .type "slice", data := .fields #[vl, vu, vs] } } := I4.kept (t' := s4.toks) fun b ob q => Heap.get?_push_of_some _ q
  obtain ⟨its, r, ht, hz⟩ := I5.tuple hx
  have hlen := r.length
  show wpAny (model X.prog X.w) X.A (subscriptTail e (.Slice none none (some (.UnaryOp .USub (.Constant (.int 1) k p1) p2)) p3) (.ref a) (.ref s4.heap.objs.size)) (EP X pins σ Q) X.xe { s4 with heap := s4.heap.push { cls := .type "slice", data := .fields #[vl, vu, vs] } }
  refine tail_any (ops := [.ref a, .ref s4.heap.objs.size]) ht.typeIs (PyProof.Rows.slot_tuple_getitem.lookup) ?_ (by with_unfolding_all rfl)
  refine getItem_tuple_rev ht (Heap.IsSliceOf.new _ vl vu vs) pl pu ps ?_ (by rw [List.size_toArray]; omega)
  refine ⟨.ref _, _, I5.laid (t' := s4.toks) (o := .tup xs.reverse) (fun b ob q => Heap.get?_push_of_some _ q) (Nat.le_refl _) ?_, rfl, q _ (I5.hok.fresh (Nat.le_refl _))⟩
  exact ⟨by rw [List.length_reverse]; exact hz, _, r.reverse, IsTup.new _ _⟩
end
/-! ### {x!r} of data -/
def tFmtRD (K : PySem.W.Frag) (te : TE) : TE := fun σ H Q => te σ H fun x H1 => ∃ a d, x = .ref a ∧ Dp K H1 (.ref a) d ∧ Shw d ∧ d.depth ≤ 40 ∧ cost d ≤ 1000000 ∧ Q (.str d.shown) H1
theorem pe_fmtRD {X : Cx} {k : Nat} {e : Expr} {te : TE} {pos : Pos} (hr : Rm k X.A) (he : PE X e te) : PE X (.FormattedValue e 114 none pos) (tFmtRD X.K te) := by
  refine ⟨fun pins s σ H Q I h => ?_⟩
  refine wpAny_FormattedValue_repr (thn (he.run pins s σ H _ I h) fun v s1 hv => ?_)
  obtain ⟨x, H1, I1, r1, a, d, rfl, hd, hs, hp, hc, q⟩ := hv
  obtain ⟨as, rd⟩ := Dp.reads I1 d _ _ hd r1
  cases (show v = Value.ref a from r1)
  have hu := hr.r.units
  obtain ⟨z1, z2, z3⟩ := hs.all
  have hz : d.shown.length ≤ sizeLine := Nat.le_trans (Nat.le_trans z1 hc) (by rw [sizeLine_eq]; decide)
  exact pyReprObj_of_reads rd z2 (fun z => by rw [z3] at z; cases z) hr.g (by omega) (fun _ _ e => e) (fun h' u tk hk => wpAny_formatField_str ⟨.str d.shown, H1, I1.kept hk, ⟨_, rfl⟩, q⟩ ⟨.str d.shown, H1, (I1.kept hk).tok _, ⟨_, rfl⟩, q⟩ hz) hz
/-- list(d) of a dict that may be walked -/
theorem listD_of {H : Hp} {p : Addr} {kvs : List (Key × V)} {Q : VK} (h : H p = some (.dK kvs)) (q : ∀ r H', Same H H' → H r = none → H' r = some (.lst (kvs.map fun kv => kV kv.1)) → Q (.ref r) H') : rListD [.ref p] H Q := ⟨p, kvs, rfl, h, fun r hr => q r _ (same_upd hr) hr upd_same⟩
section
variable {X : Cx} {K : PySem.W.Frag} {e : Expr} {f : Str} {pos : Pos} {ta : TE}
theorem pe_fldK (h : X.K = K) (he : PE X e ta) (hab : attributeBase e f X.env (eval e X.env) = eval e X.env := by rfl) : PE X (.Attribute e f pos) (tFld K ta f) := h ▸ pe_fld he hab
end
section
variable {X : Cx} {K : PySem.W.Frag} {o e : Expr} {es : List Expr} {to : TE} {t : TA} {name : Str} {apos cpos : Pos} {T id : String} {r : V → List V → Hp → VK → Prop}
theorem pe_bmN (hK : X.K = K) (pa : PlainAttrs T) (slot : Slot T name id) (hty : typeOf (.builtin id) = pure (.type "method_descriptor")) (hm : MtR X id r) (ho : PE X o to) (ha : PA X (e :: es) t)
    (hbase : attributeBase o name X.env (eval o X.env) = eval o X.env := by rfl)
    (hfew : ((backTo cpos (starEach (e :: es) X.env)).all (fun x => !x.1) && (backToKw cpos (keywordEach [] X.env)).all (fun x => x.1.isSome)
      && decide ((e :: es).length + ([] : List Keyword).length + (if ([] : List Keyword).isEmpty then 0 else 1) < 30)) = true := by rfl)
    (hline : (apos.endLine == cpos.line) = true := by rfl) (hs : starEach (e :: es) X.env = (false, eval e X.env) :: starEach es X.env := by rfl) (hplain : (backTo cpos (starEach es X.env)).any (·.1) = false := by rfl) :
    PE X (.Call (.Attribute o name apos) (e :: es) [] cpos) (tBM K T r to t) := hK ▸ pe_bm pa slot hty hm ho ha hbase hfew hline hs hplain
theorem call_len_seqK (hK : X.K = K) : CallR X (.builtin "len") (fun xs H Q => ∃ p ys, xs = [.ref p] ∧ (SqL K H p ys ∨ SqT K H p ys) ∧ Q (.int ys.length) H) := hK ▸ call_len_seq
end
/-! ### a default that is an empty tuple -/
/-- the first default of the def at adr -/
def d1A (adr : PySem.W.Frag → Addr) (K : PySem.W.Frag) : Addr := match fdAt K (adr K) with
  | some g => (match g.defaults with
    | .ref T => (match K.lookup T with
      | some ⟨_, _, .seq its _, _⟩ => (match its.toList with
        | .ref a :: _ => a
        | _ => 0)
      | _ => 0)
    | _ => 0)
  | none => 0
/-- the empty tuple lies at a -/
def fEmpT (ad : PySem.W.Frag → Addr) : Ft := fun K => match K.lookup (ad K) with
  | some ⟨c, _, .seq its _, _⟩ => (c == .type "tuple") && its.toList.isEmpty
  | _ => false
theorem fEmpT_ok {ad : PySem.W.Frag → Addr} {K : PySem.W.Frag} (h : fEmpT ad K = true) : ∃ (o : Obj) (its : Array Value) (n : Nat), K.lookup (ad K) = some o ∧ o.cls = .type "tuple" ∧ o.data = .seq its n ∧ its.size ≤ sizeLine ∧ Vals [] its.toList := by
  unfold fEmpT at h
  split at h
  · rename_i c d its n sl e
    obtain ⟨h1, h2⟩ := He.ba h
    refine ⟨_, its, n, e, beq_iff_eq.mp h1, rfl, ?_, ?_⟩
    · rw [← Array.length_toList, List.isEmpty_iff.mp h2]
      exact Nat.zero_le _
    · rw [List.isEmpty_iff.mp h2]
      exact .nil
  · cases h
end LL

set_option Elab.async false
set_option linter.all false
set_option maxRecDepth 100000
set_option maxHeartbeats 2000000
/-! LLDeep: a pair of ints in a list or a tuple of such. -/
namespace LL
open PySem PySem.Spec PyProof.Rows L2
abbrev IP := Int × Int
def PrV (H : Hp) (v : V) (p : IP) : Prop := ∃ t, v = .ref t ∧ H t = some (.tup [.int p.1, .int p.2])
theorem PrV.same {H H' : Hp} {v : V} {p : IP} (h : PrV H v p) (s : Same H H') : PrV H' v p := let ⟨t, e, x⟩ := h; ⟨t, e, s _ _ x⟩
structure Prs (H : Hp) (vs : List V) (ps : List IP) : Prop where
  len : vs.length = ps.length
  at_ : ∀ (i : Nat) v p, vs[i]? = some v → ps[i]? = some p → PrV H v p
theorem Prs.same {H H' : Hp} {vs : List V} {ps : List IP} (h : Prs H vs ps) (s : Same H H') : Prs H' vs ps := ⟨h.len, fun i v p e1 e2 => (h.at_ i v p e1 e2).same s⟩
def PsAt (H : Hp) (a : Addr) (ps : List IP) : Prop := ∃ vs, Lt H a vs ∧ Prs H vs ps
theorem PsAt.same {H H' : Hp} {a : Addr} {ps : List IP} (h : PsAt H a ps) (s : Same H H') : PsAt H' a ps := let ⟨vs, l, r⟩ := h; ⟨vs, l.same s, r.same s⟩
def ipD (p : IP) : PyData := .tuple [.int p.1, .int p.2]
theorem ipD_inj {p q : IP} (h : ipD p = ipD q) : p = q := by
  unfold ipD at h
  simp only [PyData.tuple.injEq, List.cons.injEq, PyData.int.injEq, and_true] at h
  exact Prod.ext h.1 h.2
theorem pn_ip (p : IP) : Pn 1 (ipD p) := fun d hd => by
  rcases List.mem_cons.mp hd with rfl | hd
  · trivial
  · cases List.mem_singleton.mp hd
    trivial
theorem pn_ips (ps : List IP) : Pn 2 (.list (ps.map ipD)) := fun d hd => by
  obtain ⟨p, _, rfl⟩ := List.mem_map.mp hd
  exact pn_ip p
theorem pn_ipt (ps : List IP) : Pn 2 (.tuple (ps.map ipD)) := fun d hd => by
  obtain ⟨p, _, rfl⟩ := List.mem_map.mp hd
  exact pn_ip p
theorem ip_any (ps : List IP) (p : IP) : ((ps.map ipD).any fun z => PyData.eqv z (ipD p)) = decide (p ∈ ps) := by
  rw [List.any_map]
  have e : ∀ q : IP, ((fun z => PyData.eqv z (ipD p)) ∘ ipD) q = decide (q = p) := fun q => by
    show PyData.eqv (ipD q) (ipD p) = _
    by_cases h : q = p
    · rw [decide_eq_true h, (Pn.eqv (pn_ip q) (pn_ip p)).mpr (by rw [h])]
    · rw [decide_eq_false h]
      exact Bool.eq_false_iff.mpr fun z => h (ipD_inj ((Pn.eqv (pn_ip q) (pn_ip p)).mp z))
  rw [show ((fun z => PyData.eqv z (ipD p)) ∘ ipD) = fun q => decide (q = p) from funext e]
  by_cases h : p ∈ ps
  · rw [decide_eq_true h]
    exact List.any_eq_true.mpr ⟨p, h, decide_eq_true rfl⟩
  · rw [decide_eq_false h]
    exact List.any_eq_false.mpr fun q hq z => h (of_decide_eq_true z ▸ hq)
section
variable {K : PySem.W.Frag} {H : Hp}
theorem dp_ip {v : V} {p : IP} (h : PrV H v p) : Dp K H v (ipD p) := by
  obtain ⟨t, rfl, ht⟩ := h
  exact .tup (SqT.of ht) (.cons (.int _) (.cons (.int _) .nil))
theorem dp_ips {vs : List V} {ps : List IP} (h : Prs H vs ps) : DpAll K H vs (ps.map ipD) := dpa_at (by rw [List.length_map]; exact h.len) fun i v d e1 e2 => by
  rw [List.getElem?_map] at e2
  obtain ⟨p, hp, rfl⟩ := Option.map_eq_some_iff.mp e2
  exact dp_ip (h.at_ i v p e1 hp)
end
/-- p in ps -/
def rInP (neg : Bool) : R2 := fun x y H Q => ∃ (p : IP) (a : Addr) (ps : List IP), PrV H x p ∧ y = .ref a ∧ PsAt H a ps ∧ Q (.bl (if neg then !decide (p ∈ ps) else decide (p ∈ ps))) H
section
variable {X : Cx}
theorem op_inP (hu : X.A.units + 65 < cLine) : OpR X (compareOp .In) (rInP false) := by
  intro pins s σ H x y v u Q I rx ry h
  obtain ⟨p, a, ps, hx, rfl, ⟨vs, hl, pr⟩, q⟩ := h
  obtain ⟨as, r1⟩ := Dp.reads I _ x v (dp_ip (K := X.K) hx) rx
  have sd := (pn_ip p).shp (n := 1) (by decide)
  have q : Q (.bl ((ps.map ipD).any fun z => PyData.eqv z (ipD p))) H := by rw [ip_any]; exact q
  rcases hl with hl | hl
  · obtain ⟨bs, r2⟩ := Dp.reads I _ _ u (.lst (SqL.of (K := X.K) hl) (dp_ips pr)) ry
    exact SeqAt.in_list_reads r2 r1 (SeqAt.canLay_of_shaped ((pn_ips ps).shp (n := 2) (by decide))) (SeqAt.canLay_of_shaped sd) (room_in_shaped sd hu) ⟨.bl _, H, I, rfl, q⟩
  · obtain ⟨bs, r2⟩ := Dp.reads I _ _ u (.tup (SqT.of (K := X.K) hl) (dp_ips pr)) ry
    exact SeqAt.in_tuple_reads r2 r1 (SeqAt.canLay_of_shaped ((pn_ipt ps).shp (n := 2) (by decide))) (SeqAt.canLay_of_shaped sd) (room_in_shaped sd hu) ⟨.bl _, H, I, rfl, q⟩
theorem op_notInP (hu : X.A.units + 65 < cLine) : OpR X (compareOp .NotIn) (rInP true) := by
  intro pins s σ H x y v u Q I rx ry h
  obtain ⟨p, a, ps, hx, rfl, ⟨vs, hl, pr⟩, q⟩ := h
  obtain ⟨as, r1⟩ := Dp.reads I _ x v (dp_ip (K := X.K) hx) rx
  have sd := (pn_ip p).shp (n := 1) (by decide)
  have q : Q (.bl (!(ps.map ipD).any fun z => PyData.eqv z (ipD p))) H := by rw [ip_any]; exact q
  rcases hl with hl | hl
  · obtain ⟨bs, r2⟩ := Dp.reads I _ _ u (.lst (SqL.of (K := X.K) hl) (dp_ips pr)) ry
    exact SeqAt.notIn_list_reads r2 r1 (SeqAt.canLay_of_shaped ((pn_ips ps).shp (n := 2) (by decide))) (SeqAt.canLay_of_shaped sd) (room_in_shaped sd hu) ⟨.bl _, H, I, rfl, q⟩
  · obtain ⟨bs, r2⟩ := Dp.reads I _ _ u (.tup (SqT.of (K := X.K) hl) (dp_ips pr)) ry
    exact SeqAt.notIn_tuple_reads r2 r1 (SeqAt.canLay_of_shaped ((pn_ipt ps).shp (n := 2) (by decide))) (SeqAt.canLay_of_shaped sd) (room_in_shaped sd hu) ⟨.bl _, H, I, rfl, q⟩
end
theorem un65 {k : Nat} {A : Around} (hr : Rm k A) : A.units + 65 < cLine := by
  have := hr.r.un
  omega
/-! ### a slice of a list or a tuple -/
def rSlQ (K : PySem.W.Frag) : V → Option Int → Option Int → Hp → VK → Prop := fun x lo hi H Q => rSlL K x lo hi H Q ∨ rSlA K x lo hi H Q
theorem sl_seqA {X : Cx} : SlR X (rSlQ X.K) := sl_list.or sl_tupA
theorem cut_lt {K : PySem.W.Frag} {H : Hp} {a : Addr} {vs : List V} {n : Nat} {Q : VK} (h : Lt H a vs) (hn : n ≤ vs.length) (q : ∀ H' b, Same H H' → Lt H' b (vs.take n) → Q (.ref b) H') : rSlQ K (.ref a) none (some (n : Int)) H Q := by
  rcases h with h | h
  · refine .inl ⟨a, vs, rfl, SqL.of h, fun p hp => ?_⟩
    rw [cutV_to]
    exact q _ p (same_upd hp) (.inl upd_same)
  · have e1 : HT.sIx vs.length 0 none = 0 := rfl
    have e2 : HT.sIx vs.length vs.length (some (n : Int)) = n := by
      show (if (n : Int) < 0 then ((n : Int) + (vs.length : Int)).toNat else min (n : Int).toNat vs.length) = n
      rw [if_neg (by omega)]
      omega
    refine .inr ⟨a, vs, rfl, SqT.of h, fun w => ?_, fun w p hp => ?_⟩
    · rw [e2] at w
      refine q H a Same.rfl' (.inr ?_)
      rw [w.2, List.take_length]
      exact h
    · rw [cutV_to]
      exact q _ p (same_upd hp) (.inr upd_same)
end LL

set_option Elab.async false
set_option linter.all false
set_option maxRecDepth 100000
set_option maxHeartbeats 3200000
/-! LLSetT: a set of pairs, made of a list of any length of which few are unlike; its length. -/
namespace LL
open PySem PySem.Spec PyProof.Rows L2
abbrev TL := List (Addr × List Int)
/-- whatever is chosen of ks, each once, is little -/
def Few (ks : TL) : Prop := ∀ L : TL, (∀ p ∈ L, p ∈ ks) → (L.map (·.2)).Nodup → L.length < 63
/-- heap g has all that heap b has -/
def Up (b g : Heap) : Prop := ∀ c o, b.get? c = some o → g.get? c = some o
section
variable {P : Program} {w : World} {A : Around} {E : Value → Shared → Prop} {s : Shared}
/-- the set Z that stands at g has got the first i of ks -/
def Has (P : Program) (w : World) (ks : TL) (Z : Addr) (i : Nat) (g : Heap) : Prop := ∃ L es ep t, SetTR P w g Z L es ep t ∧ Got ks i L
theorem Has.stay {ks : TL} {Z : Addr} {i : Nat} {b g g' : Heap} (h : Has P w ks Z i g) (hz : ∀ o, g.get? Z = some o → g'.get? Z = some o) (tk : ∀ p ∈ ks, IsT P w b p.2 p.1) (u : Up b g') : Has P w ks Z i g' :=
  let ⟨L, es, ep, t, r, q⟩ := h
  ⟨L, es, ep, t, r.keep hz fun p hp => isT_keep (tk p (List.mem_of_mem_take (q.sub p hp))) u, q⟩
theorem set_go {I Z : Addr} {fp wr : List Addr} {G : Array GenState → Array GenState → Prop} {n : Nat} {V1 : Nat → Value → Prop} {St : Nat → Shared → Prop} {R : Result → Shared → Prop} {ks : TL} {b : Heap}
    (W : WalksS P w A.in1 I fp wr G n V1 St) (zf : Z ∉ fp) (en : n = ks.length) (few : Few ks) (val : ∀ i v, V1 i v → ∃ p, ks[i]? = some p ∧ v = .ref p.1) (tk : ∀ p ∈ ks, IsT P w b p.2 p.1) (z0 : b.get? Z = none) (wn : ∀ c ∈ wr, b.get? c = none) (un : A.in1.units < cLine) :
    ∀ (k i : Nat) (s : Shared), n - i = k → i ≤ n → St i s → Up b s.heap → Has P w ks Z i s.heap → (∀ s', Moved (Z :: wr) G s s' → Has P w ks Z n s'.heap → Up b s'.heap → R (.ok (.ret .none)) s') →
      codeAny (model P w) A (.builtin "set.update.loop" ⟨[.ref Z, .ref I], []⟩) R s := by
  have zw : Z ∉ wr := fun h => zf (W.sub _ h)
  have wz : ∀ c ∈ wr, c ∈ Z :: wr := fun c h => List.mem_cons_of_mem _ h
  have up : ∀ {x y : Shared}, Moved wr G x y → Up b x.heap → Up b y.heap := fun m u c o e => m.heap c o (fun h => by rw [wn c h] at e; cases e) (u c o e)
  intro k
  induction k with
  | zero =>
    intro i s ek hi st u hs fin
    obtain rfl : i = n := by omega
    refine codeAny_builtin F.entry_set_update_loop (?_)
    rw [Around.under_plainId F.plain_set_update_loop _]
    show wpAny _ A.in1 (pyNext (.ref I) >>= _) _ _ _
    refine wpAny_bind (W.done s _ _ st fun y m => (?_))
    show wpAny _ A.in1 (ret Value.none) _ _ y
    have uy := up m u
    exact wpAny_pure (fin y (m.mono wz) (hs.stay (fun o e => m.heap Z o zw e) tk uy) uy)
  | succ k ih =>
    intro i s ek hi st u hs fin
    have li : i < n := by omega
    refine codeAny_builtin F.entry_set_update_loop (?_)
    rw [Around.under_plainId F.plain_set_update_loop _]
    show wpAny _ A.in1 (pyNext (.ref I) >>= _) _ _ _
    refine wpAny_bind (W.item i s _ _ li st fun v y hv sty m => (?_))
    obtain ⟨p, ep, rfl⟩ := val i v hv
    have uy := up m u
    obtain ⟨L, es, nn, t, r, q⟩ := hs.stay (g' := y.heap) (fun o e => m.heap Z o zw e) tk uy
    have xt : IsT P w y.heap p.2 p.1 := isT_keep (tk p (List.mem_of_getElem? ep)) uy
    show wpAny _ A.in1 (holding [Value.ref p.1] (setAdd Z (.ref p.1)) >>= _) _ _ y
    refine wpAny_bind (wpAny_holding (?_))
    unfold setAdd
    refine wpAny_holding (wpAny_bind (wpAny_pyHash_tuple un xt (?_)))
    have fl := few L (fun x hx => List.mem_of_mem_take (q.sub x hx)) r.nd
    refine add_at (s := { y with toks := y.toks + (p.2.length + 1) }) r xt un (by omega) fun _ g L1 es1 n1 t1 sb r1 c1 c2 => (?_)
    have q1 : Got ks (i + 1) L1 := by
      by_cases c : p.2 ∈ L.map (·.2)
      · rw [c1 c]
        exact q.same ep c
      · exact q.more ep (c2 c)
    have ug : Up b g := fun c o e => (sb.2 c (fun h => by rw [h, z0] at e; cases e)).trans (uy c o e)
    refine wpAny_pure ⟨plainId_quiet F.plain_set_update_loop _, ih (i + 1) _ (by omega) li (W.frame _ y _ _ sty (Nat.le_add_right _ _) fun c hc o e => (?_)) ug ⟨L1, es1, n1, t1, r1, q1⟩ fun x mx hx ux => (?_)⟩
    · exact (sb.2 c fun h => zf (h ▸ hc)).trans e
    · refine fin x (Moved.trans W.gtrans ((m.mono wz).then_heap (Nat.le_add_right _ _) fun c o hc e => (?_)) mx) hx ux
      exact (sb.2 c fun h => hc (by rw [h]; exact List.mem_cons_self ..)).trans e
/-- the empty set, just made -/
def set0 (w : World) : Obj := { cls := .type "set", dict := none, data := .set #[] 0 (.fresh 0 0 (!w.params.followText "set-order")) }
/-- set(xs), xs a list of tuples of ints of which few are unlike -/
theorem call_setF {l : Addr} {xs : Array Value} {ks : TL} {Q : Value → Shared → Prop} (nh : A.handled = none) (il : s.heap.IsList l xs) (ex : xs.toList = ks.map fun p => Value.ref p.1) (tk : ∀ p ∈ ks, IsT P w s.heap p.2 p.1) (few : Few ks) (un : A.units + 3 < cLine)
    (h : ∀ (g : Heap) (t : Nat), Has P w ks s.heap.objs.size ks.length g → Up s.heap g → Q (.ref s.heap.objs.size) { s with heap := g, toks := t }) : wpAny (model P w) A (call (.type "set") [.ref l]) Q E s := by
  have sz : xs.size = ks.length := by
    rw [← Array.length_toList, ex, List.length_map]
  obtain ⟨c0, t0, mr⟩ := F.called_set.mro
  have a1 := F.called_set.made
  have a2 := F.called_set.sub
  refine wpAny_call (codeAny_of_tree (?_))
  show wpAny _ _ (callAny (.type "set") _) _ _ s
  refine wpAny_pure ⟨Code.quiet_builtin _ (by decide +kernel), codeAny_builtin F.entry_type_call (?_)⟩
  rw [Around.under_plain (weight_type_call_type "set" [.ref l] []) rfl]
  have a3 := F.called_set.notType
  have a4 := F.called_set.canCreate
  have a5 := F.typeCall_set_1 (.ref l)
  repeat any_goals first | assumption | wp_step
  refine codeAny_mono (code_set_led1 (.ref l) (E := E) (Q₁ := fun z y => z = .ref s.heap.objs.size ∧ y = { s with heap := s.heap.push (set0 w) }) ⟨rfl, rfl⟩) fun r y hr => (?_)
  cases r with
  | error e => exact hr
  | ok fl =>
    cases fl with
    | ret z =>
      obtain ⟨rfl, rfl⟩ := hr
      have gz : (s.heap.push (set0 w)).get? s.heap.objs.size = some (set0 w) := Heap.get?_push_size _ rfl
      have tz : Shared.TypeIs { s with heap := s.heap.push (set0 w) } (.ref s.heap.objs.size) "set" := ⟨_, gz, rfl⟩
      have a6 := F.called_set.init.lookup
      have a7 := F.called_set.init.bind (.ref s.heap.objs.size)
      repeat any_goals first | assumption | wp_step
      refine codeAny_mono (codeAny_call_builtin (R := wants (fun r y => r = .none ∧ ∃ g t, y = { s with heap := g, toks := t } ∧ Has P w ks s.heap.objs.size ks.length g ∧ Up s.heap g) E) F.called_set.init.plain F.entry_set_init (check_set_init_1 tz (?_))) fun r2 y2 hr2 => (?_)
      · obtain ⟨ol, hol, hc, nl, hd⟩ := il
        obtain ⟨oc, od, odt, osl⟩ := ol
        simp only at hc hd
        subst hc
        subst hd
        have gl : (s.heap.push (set0 w)).get? l = some { cls := .type "list", dict := od, data := .seq xs nl, slots := osl } := Heap.get?_push_of_some _ hol
        have b1 := F.sub_list_set
        have b2 := F.sub_list_frozenset
        have b3 : (Value.type "list" == Value.type "dict") = false := by decide
        have il1 : (s.heap.push (set0 w)).IsList l xs := ⟨_, gl, rfl, nl, rfl⟩
        unfold Builtin.«set.__init__» noKeywords Builtin.Frozenset.updateFrom
        generalize eI : pyIter = PI
        wp_walk
        subst eI
        refine wpAny_pyIter_list il1 (?_)
        refine wpAny_bind (wpAny_runValue (?_))
        have lt := Heap.lt_size hol
        have nh3 : A.in1.in1.in1.handled = none := by simp [nh]
        have ps : (s.heap.push (set0 w)).objs.size = s.heap.objs.size + 1 := Heap.size_push ..
        have nI : l ≠ (s.heap.push (set0 w)).objs.size := Nat.ne_of_lt (by rw [ps]; exact Nat.lt_succ_of_lt lt)
        have zf : s.heap.objs.size ∉ [(s.heap.push (set0 w)).objs.size, l] := fun h => by
          rcases List.mem_cons.mp h with h | h
          · exact Nat.ne_of_lt (Nat.lt_succ_self _) (h.trans ps)
          · exact Nat.ne_of_gt lt (List.mem_singleton.mp h)
        have val : ∀ (i : Nat) (v : Value), xs[i]? = some v → ∃ p, ks[i]? = some p ∧ v = .ref p.1 := fun i v hv => by
          rw [← Array.getElem?_toList, ex, List.getElem?_map] at hv
          obtain ⟨p, e1, e2⟩ := Option.map_eq_some_iff.mp hv
          exact ⟨p, e1, e2.symm⟩
        have big : ∀ c, s.heap.objs.size ≤ c → s.heap.get? c = none := fun c hc => by
          cases q : s.heap.get? c with
          | none => rfl
          | some o => exact (Nat.not_lt.mpr hc (Heap.lt_size q)).elim
        refine set_go (ks := ks) (b := s.heap) ((Walks.list nh3 _ l nI xs).toS) zf sz few val tk (big _ (Nat.le_refl _)) (fun c hc => big c (by rw [List.mem_singleton.mp hc, ps]; exact Nat.le_succ _)) un (xs.size - 0) 0 _ (by omega) (Nat.zero_le _)
          ⟨⟨_, Heap.get?_push_size _ rfl, rfl, rfl⟩, (il1.push _)⟩ (fun c o e => Heap.get?_push_of_some _ (Heap.get?_push_of_some _ e)) (?_) (?_)
        · exact ⟨[], #[], 0, _, setTR_fresh (Heap.get?_push_of_some _ gz), Got.zero ks⟩
        · intro y m hy uy
          obtain ⟨g, gs, d, t, os⟩ := y
          obtain rfl : gs = s.gens := m.gens
          obtain rfl : d = s.drawn := m.drawn
          obtain rfl : os = s.os := m.os
          show wpAny _ _ _ _ _ _
          refine wpAny_pure (?_)
          show wpAny _ _ (ret Value.none) _ _ _
          rw [sz] at hy
          exact wpAny_pure ⟨rfl, g, t, rfl, hy, uy⟩
      · cases r2 with
        | error e => exact hr2
        | ok fl2 =>
          cases fl2 with
          | ret r =>
            obtain ⟨rfl, g, t, rfl, hy, uy⟩ := hr2
            repeat any_goals first | assumption | wp_step
            exact h _ _ hy uy
          | _ => exact hr2.elim
    | _ => exact hr.elim
end
end LL

set_option Elab.async false
set_option linter.all false
set_option maxRecDepth 100000
set_option maxHeartbeats 2000000
/-! LLSetU: len(set(pairs)). -/
namespace LL
open PySem PySem.Spec PyProof.Rows L2
section
variable {X : Cx}
def rSetF (K : PySem.W.Frag) (P : Program) (w : World) : List V → Hp → VK → Prop := fun xs H Q => ∃ (l : Addr) (ks : TL), xs = [V.ref l] ∧ SqL K H l (ks.map fun p => V.ref p.1) ∧ (∀ p ∈ ks, SqT K H p.1 (p.2.map V.int)) ∧ Few ks ∧ ∀ (a : Addr) (L : TL), H a = none → (∀ p ∈ L, p ∈ ks) → (∀ p ∈ ks, p.2 ∈ L.map (·.2)) → (L.map (·.2)).Nodup → Q (.ref a) (upd H a (SetTO P w a L))
theorem cr_setF (hc : X.calm = true) (hu : X.A.units + 64 < cLine) : CallR X (.type "set") (rSetF X.K X.prog X.w) := by
  intro pins s σ H xs us Q I r h
  obtain ⟨l, ks, rfl, hl, tk, few, q⟩ := h
  rw [Vals.ref1 r]
  obtain ⟨its, rv, pl, hz⟩ := I.list hl
  have nn : H s.heap.objs.size = none := I.hok.fresh (Nat.le_refl _)
  refine call_setF (P := X.prog) (w := X.w) (ks := ks) (I.ok.hd hc) pl.isList (by simpa using refs_of_vals rv) (fun p hp => I.isT (tk p hp)) few (by omega) fun g t hh u => ?_
  obtain ⟨L, es, ep, tb, R, g2⟩ := hh
  refine ⟨.ref s.heap.objs.size, upd H s.heap.objs.size (SetTO X.prog X.w s.heap.objs.size L), I.laid (t' := t) u (Nat.le_refl _) (setTO_new R.t0), rfl, q _ L nn (fun p hp => List.mem_of_mem_take (g2.sub p hp)) (fun p hp => g2.all p ?_) R.nd⟩
  rw [List.take_length]
  exact hp
def rLenF (K : PySem.W.Frag) (P : Program) (w : World) : List V → Hp → VK → Prop := fun xs H Q => ∃ (a : Addr) (L : TL), xs = [V.ref a] ∧ H a = some (SetTO P w a L) ∧ (∀ p ∈ L, SqT K H p.1 (p.2.map V.int)) ∧ Q (.int ((L.length : Nat) : Int)) H
theorem call_lenF : CallR X (.builtin "len") (rLenF X.K X.prog X.w) := by
  intro pins s σ H xs us Q I r h
  obtain ⟨a, L, rfl, ha, tk, q⟩ := h
  rw [Vals.ref1 r]
  have z : SetT0 X.prog X.w s.heap a L := (show ObjOk X.prog X.w H s.heap a (SetTO X.prog X.w a L) from I.hok a _ ha).1
  obtain ⟨es, ep, t, R⟩ := z.full fun p hp => I.isT (tk p hp)
  obtain ⟨o, ho, hx, hd⟩ := R.ob
  have sz := R.size
  have fw := R.few
  refine call_len_set ho hx hd R.fits (by rw [sz]; omega) ?_
  rw [sz]
  exact ⟨.int ((L.length : Nat) : Int), H, I.tok _, ⟨_, rfl⟩, q⟩
end
/-- the length of a list that holds each of gs once -/
theorem len_of {gs : List (List Int)} {L : TL} {ks : TL} (e : ks.map (·.2) = gs) (h1 : ∀ p ∈ L, p ∈ ks) (h2 : ∀ p ∈ ks, p.2 ∈ L.map (·.2)) (nd : (L.map (·.2)).Nodup) : ∃ ds : List (List Int), ds.length = L.length ∧ ds.Nodup ∧ ∀ x, x ∈ ds ↔ x ∈ gs := by
  refine ⟨L.map (·.2), List.length_map _, nd, fun x => ⟨fun hx => ?_, fun hx => ?_⟩⟩
  · obtain ⟨p, hp, rfl⟩ := List.mem_map.mp hx
    rw [← e]
    exact List.mem_map_of_mem (h1 p hp)
  · rw [← e] at hx
    obtain ⟨p, hp, rfl⟩ := List.mem_map.mp hx
    exact h2 p hp
end LL

set_option Elab.async false
set_option linter.all false
set_option maxRecDepth 100000
set_option maxHeartbeats 2000000
/-! LLDc: a dict comprehension whose keys are tuples (turned from the one with flat keys); a list's place in place. -/
namespace LL
open PySem PySem.Spec PyProof.Rows L2
/-- d[k] = v by a comprehension, k a tuple -/
theorem d_dictSetT {X : Cx} {pins : List (Addr × Obj)} {σ : L2.St} {H : Hp} {s : Shared} {E : Value → Shared → Prop} {D b : Addr} {kvs : List (List Key × V)} {k : List Key} {v : V} {u r : Value} {Q : Unit → Shared → Prop} (hu : X.A.units + 1 < cLine) (I : Inv X pins σ H s) (hD : H D = some (.dT kvs)) (eb : H b = some (.tup (k.map kV))) (hz : kvs.length < sizeLine)
    (ry : RelV (.ref b) u) (rv : RelV v r) (h : ∀ s', Inv X pins σ (upd H D (.dT (putK kvs k v))) s' → Q () s') : wpAny (model X.prog X.w) X.A (dictSet D u r) Q E s := by
  cases (show u = Value.ref b from ry)
  obtain ⟨z, hd, xs, rel, dd⟩ := dt_of I.hok hD
  have zx : xs.length ≤ sizeLine := by rw [← Paired.length rel]; exact z
  have hl : (putK kvs k v).length ≤ sizeLine := by have := length_putK kvs k v; omega
  refine wpAny_dictSet_heap (hsz := zx) ((show (tupleKind (mixKind X.prog X.w)).room X.A from Nat.lt_of_succ_lt hu)) (key_of I.hok eb) dd fun h' dd' hs => h _ ?_
  obtain ⟨q, es, ep, hq, h2, h3, h4, h6, h5⟩ := dd'
  refine d_write I (by rw [hD]; exact True.intro) hs ⟨q, hq⟩ ⟨hl, hd, _, (rel.put k eb rv).keeps fun c ys ec => ?_, q, es, ep, hq, h2, h3, h4, h5⟩
  rw [upd_ne (ne_of ec hD (fun z => nomatch z))]
  exact ec
section
variable {X : Cx}
/-- {k: v for ..}, keys tuples: D the new dict -/
def tDcT (wi : TI) (g : TG) (tt : TT) (tk tv : TE) (vs : List Nat) : TE := fun σ H Q => wi σ H fun J H1 => ∀ D, H1 D = none → ∃ W : Nat → Nat → Hp → Prop, (∃ m, W 0 m (upd H1 D (.dT []))) ∧ ∀ i m H, W i m H →
  (J.stop i H ∧ Q (.ref D) H) ∨ (J.go i H ∧ ∃ Nx : Hp → Prop, (∀ H', Nx H' → ∃ m', m' < m ∧ W (i + 1) m' H') ∧ ∀ x H', J.yld i H x H' → g x (wipe σ vs) H' fun σ2 H2 => wipe σ2 vs = wipe σ vs ∧ tt σ2 H2 fun b H3 =>
    if b = true then tk σ2 H3 fun y H4 => tv σ2 H4 fun z H5 => ∃ kvs k b, y = .ref b ∧ H5 b = some (.tup (k.map kV)) ∧ H5 D = some (.dT kvs) ∧ kvs.length < sizeLine ∧ Nx (upd H5 D (.dT (putK kvs k z))) else Nx H3)
theorem dcT_core {pins : List (Addr × Obj)} {s : Shared} {σ : L2.St} {H : Hp} {Q : VK} {kx vx tg iter : Expr} {ifs : List Expr} {scope : Scope} {own : List (Str × Nat)} {pos pos' : Pos} {wi : TI} {g : TG} {tt : TT} {tk tv : TE} {use : Option (Value → Sem Unit)} {Qf : Value → Shared → Prop}
    (hu : X.A.units + 1 < cLine) (hc : X.calm = true) (hN : X.N.Nodup) (I : Inv X pins σ H s) (hi : PI X tg iter wi) (ok : BlkOk X.N X.env.scope scope own)
    (hg : ∀ (s : Shared) (H : Hp) (C : Addr) (cl : List (Str × Addr)) (fp : List Addr), PG (X.blk s H scope (compEnvC scope cl C X.env) fp) tg g) (ht : ∀ (s : Shared) (H : Hp) (C : Addr) (cl : List (Str × Addr)) (fp : List Addr), PTs (X.blk s H scope (compEnvC scope cl C X.env) fp) ifs tt)
    (hk : ∀ (s : Shared) (H : Hp) (C : Addr) (cl : List (Str × Addr)) (fp : List Addr), PE (X.blk s H scope (compEnvC scope cl C X.env) fp) kx tk)
    (he : ∀ (s : Shared) (H : Hp) (C : Addr) (cl : List (Str × Addr)) (fp : List Addr), PE (X.blk s H scope (compEnvC scope cl C X.env) fp) vx tv) (hs : ∀ x, foldedSetIterable iter X.env x = pure x)
    (h : tDcT wi g tt tk tv (own.map (·.2)) σ H Q)
    (hRR : ∀ D C s' m H', Inv X pins σ H' s' → Q (.ref D) H' → s'.heap.Ns C m → FpOk X pins H' C → compPost (model X.prog X.w) X.A X.xe use Qf (.ref D) C (.ok .next) s') :
    wpAny (model X.prog X.w) X.A (comprehension (.DictComp kx vx [⟨tg, iter, ifs, 0⟩] scope pos) scope X.env pos' newDict false (eval iter X.env) use) Qf X.xe s := by
  have hfree : ∀ y ∈ scope.names, y.2 = .free → ∃ c, X.env.cells.lookup y.1 = some c := fun y hy e => by
    rcases ok.free y hy e with k | k
    · exact I.ok.has _ (.inl k)
    · exact I.ok.has _ (.inr k)
  refine wpAny_comprehension_free (use := use) rfl hs (closure_ok hfree) ok.kind (fun y hy e => by rw [ok.uniq y hy, e])
    (thn (hi.run pins s σ H _ I h) fun xv s1 hx => thn hx fun itv s2 h2 => ?_)
  obtain ⟨it, fp, tn, J, H2, e, I2, T, st2, f2, q⟩ := h2
  subst e
  refine wpAny_newObj_type (newEnv_comp ?_)
  generalize hD : s2.heap.objs.size = D
  have hDn : H2 D = none := I2.hok.fresh (Nat.le_of_eq hD)
  obtain ⟨W, ⟨m0, w0⟩, turn⟩ := q D hDn
  -- the new list
  generalize hs3 : ({ s2 with heap := s2.heap.push { cls := .type "dict", data := .dict #[] } } : Shared) = s3
  have I3 : Inv X pins σ (upd H2 D (.dT [])) s3 := by
    rw [← hs3]
    refine I2.laid (t' := s2.toks) (fun b o e => Heap.get?_push_of_some _ e) (Nat.le_of_eq hD) ?_
    rw [← hD]
    exact dt_empty s2.heap I2.big
  have h3 : s3.heap = s2.heap.push { cls := .type "dict", data := .dict #[] } := by rw [← hs3]
  have sz : ∀ b ∈ fp, b < s2.heap.objs.size := fun b hb => by
    obtain ⟨o, e, _⟩ := T.obj _ _ st2 b hb
    exact Heap.lt_size e
  have f3 : ∀ b ∈ fp, FpOk X pins (upd H2 D (.dT [])) b ∧ b < s3.heap.objs.size := fun b hb => by
    have hlt := sz b hb
    refine ⟨⟨?_, (f2 b hb).2⟩, by rw [h3, Heap.size_push]; exact Nat.lt_succ_of_lt hlt⟩
    rw [upd_ne (by rw [← hD]; exact Nat.ne_of_lt hlt)]
    exact (f2 b hb).1
  have st3 : tn 0 s3.heap := T.keep _ _ _ st2 fun b _ o e => by rw [h3]; exact Heap.get?_push_of_some _ e
  have I4 := block_start I3 ok hN f3
  have pg := hg s3 (upd H2 D (.dT [])) s3.heap.objs.size (cellsFrom (s3.heap.objs.size + 1) scope.names (cloFrom X.env.cells scope.names [])) fp
  have pt := ht s3 (upd H2 D (.dT [])) s3.heap.objs.size (cellsFrom (s3.heap.objs.size + 1) scope.names (cloFrom X.env.cells scope.names [])) fp
  have pk := hk s3 (upd H2 D (.dT [])) s3.heap.objs.size (cellsFrom (s3.heap.objs.size + 1) scope.names (cloFrom X.env.cells scope.names [])) fp
  have pe := he s3 (upd H2 D (.dT [])) s3.heap.objs.size (cellsFrom (s3.heap.objs.size + 1) scope.names (cloFrom X.env.cells scope.names [])) fp
  show codeAny _ _ (.compStart (.DictComp kx vx [⟨tg, iter, ifs, 0⟩] scope pos) 0 (.ref it) (.ref D) (compEnvC scope (cellsFrom (s3.heap.objs.size + 1) scope.names (cloFrom X.env.cells scope.names [])) s3.heap.objs.size X.env)) (compPost (model X.prog X.w) X.A X.xe use Qf (.ref D) s3.heap.objs.size) { s3 with heap := pushCells (s3.heap.push { cls := .type "dict", data := .dict #[] }) scope.names }
  have nfp : ∀ b ∈ fp, (upd H2 D (.dT [])) b = none := fun b hb => (f3 b hb).1.1
  generalize hce : compEnvC scope (cellsFrom (s3.heap.objs.size + 1) scope.names (cloFrom X.env.cells scope.names [])) s3.heap.objs.size X.env = ce at I4 pg pt pk pe ⊢
  have cL : ce.locals = s3.heap.objs.size := by subst hce; rfl
  generalize hH3 : upd H2 D (.dT []) = H3 at I3 I4 pg pt pk pe w0 nfp f3
  generalize hs4 : ({ s3 with heap := pushCells (s3.heap.push { cls := .type "dict", data := .dict #[] }) scope.names } : Shared) = s4 at I4 ⊢
  have st4 : tn 0 s4.heap := T.keep _ _ _ st3 fun b _ o e => by rw [← hs4]; exact pushCells_keeps _ _ _ _ (Heap.get?_push_of_some _ e)
  have stat : ∀ {σ' : L2.St} {H' : Hp} {s' : Shared}, Inv (X.blk s3 H3 scope ce fp) [] σ' H' s' → (∀ b ∈ fp, H' b = none) → ∀ b ∈ fp, FpOk (X.blk s3 H3 scope ce fp) [] H' b := fun {σ' H' s'} I' hn b hb =>
    ⟨hn b hb, (I'.ok.exf b hb).1, I'.ok.exfs b hb, .inl hb, fun x c e => (I'.ok.exf b hb).2 x c e, fun p hp => absurd (show p ∈ ([] : List (Addr × Obj)) ++ [] from hp) (by simp)⟩
  have loop : codeAny (model X.prog X.w) X.A (.compLoop (.DictComp kx vx [⟨tg, iter, ifs, 0⟩] scope pos) 0 (.ref it) (.ref D) ce) (compPost (model X.prog X.w) X.A X.xe use Qf (.ref D) s3.heap.objs.size) s4 := by
    refine compLoop_anyD (fun n s' => ∃ i H', Inv (X.blk s3 H3 scope ce fp) [] (wipe σ (own.map (·.2))) H' s' ∧ tn i s'.heap ∧ (∀ b ∈ fp, H' b = none) ∧ W i n H') ?_ m0 ⟨0, H3, I4, st4, nfp, w0⟩
    rintro n s5 ⟨i, H5, I5, st5, n5, w5⟩
    rcases turn i n H5 w5 with ⟨stop, qq⟩ | ⟨go, Nx, hNx, step⟩
    · have td := T.done (X.blk s3 H3 scope ce fp) rfl rfl rfl hc i [] s5 _ H5 (fun _ _ => False) I5 (stat I5 n5) st5 stop
      refine thnF td fun r s6 ⟨hr, I6⟩ => ?_
      subst hr
      -- back in the def's context
      have I7 : Inv X pins σ H5 s6 := I3.call' (ch := fp) I6.os I6.base I6.hok I6.bare fun b hb => ⟨(f3 b hb).1.2.2.2.1, (f3 b hb).1.2.1, (f3 b hb).1.2.2.2.2.1, (f3 b hb).1.2.2.2.2.2⟩
      have nC : H5 s3.heap.objs.size = none := by
        have z : H5 ce.locals = none := I6.free
        rw [cL] at z
        exact z
      obtain ⟨m, hn, _⟩ := I6.loc
      have hn : s6.heap.Ns ce.locals m := hn
      rw [cL] at hn
      exact hRR D s3.heap.objs.size s6 m H5 I7 qq hn (I3.fpOk (Nat.le_refl _) nC)
    · have ti := T.item (X.blk s3 H3 scope ce fp) rfl rfl rfl hc i [] s5 _ H5 (fun _ _ => False) I5 (stat I5 n5) st5 go
      refine thnF ti fun r s6 ⟨u, hr, h6⟩ => ?_
      subst hr
      refine thnF h6 fun _ s7 ⟨x, H7, I7, r7, y7, st7, n7⟩ => ?_
      have I7' := I7.pinned (stat I7 n7) (T.obj _ _ st7)
      refine thnF (pg.run _ s7 _ H7 x u _ I7' r7 (step x H7 y7)) fun _ s8 ⟨σ8, H8, I8, hw8, q8⟩ => ?_
      refine thnF (pt.run _ s8 σ8 H8 _ I8 q8) fun b s9 ⟨H9, I9, q9⟩ => ?_
      -- the turn's end
      have fin : ∀ {s' : Shared} {H' : Hp}, Inv (X.blk s3 H3 scope ce fp) ([] ++ pinsAt fp s7.heap) σ8 H' s' → Nx H' → ∃ m, m < n ∧ ∃ i H', Inv (X.blk s3 H3 scope ce fp) [] (wipe σ (own.map (·.2))) H' s' ∧ tn i s'.heap ∧ (∀ b ∈ fp, H' b = none) ∧ W i m H' := fun {s' H'} I' nx => by
        obtain ⟨m', hm, w'⟩ := hNx H' nx
        have pin' : ∀ b ∈ fp, ∀ o, s7.heap.get? b = some o → s'.heap.get? b = some o ∧ H' b = none := fun b hb o e =>
          let z := I'.pin (b, o) (List.mem_append_right _ (List.mem_append_right _ (mem_pinsAt hb e)))
          ⟨z.1, z.2.1⟩
        have hl : (wipe σ (own.map (·.2))).length = σ8.length := by rw [← hw8, wipe_length]
        refine ⟨m', hm, i + 1, H', (I'.unpinned (pins := [])).weak hl (fun j v e => ?_), T.keep _ _ _ st7 fun b hb o e => (pin' b hb o e).1, fun b hb => ?_, w'⟩
        · rw [← hw8] at e
          exact (wipe_some e).1
        · obtain ⟨o, e, _⟩ := T.obj _ _ st7 b hb
          exact (pin' b hb o e).2
      cases b with
      | false =>
        simp only [Bool.false_eq_true, if_false] at q9 ⊢
        exact fin I9 q9
      | true =>
        simp only [if_true] at q9 ⊢
        refine thnF (pk.run _ s9 σ8 H9 _ I9 q9) fun z s10 ⟨yk, H10, I10, r10, q10⟩ => ?_
        refine thnF (pe.run _ s10 σ8 H10 _ I10 q10) fun z2 s11 ⟨yv, H11, I11, r11, kvs, k, b, ek, eb, hD11, hz11, nx⟩ => ?_
        subst ek
        exact d_dictSetT (X := X.blk s3 H3 scope ce fp) hu I11 hD11 eb hz11 r10 r11 fun s12 I12 => fin I12 nx
  exact codeAny_compStart_dict loop (T.self X.A 0 _ _ _ st4 loop)
theorem pe_dcT {kx vx tg iter : Expr} {ifs : List Expr} {scope : Scope} {own : List (Str × Nat)} {pos : Pos} {wi : TI} {g : TG} {tt : TT} {tk tv : TE} (hu : X.A.units + 1 < cLine) (hc : X.calm = true) (hN : X.N.Nodup) (hi : PI X tg iter wi) (ok : BlkOk X.N X.env.scope scope own)
    (hg : ∀ (s : Shared) (H : Hp) (C : Addr) (cl : List (Str × Addr)) (fp : List Addr), PG (X.blk s H scope (compEnvC scope cl C X.env) fp) tg g) (ht : ∀ (s : Shared) (H : Hp) (C : Addr) (cl : List (Str × Addr)) (fp : List Addr), PTs (X.blk s H scope (compEnvC scope cl C X.env) fp) ifs tt)
    (hk : ∀ (s : Shared) (H : Hp) (C : Addr) (cl : List (Str × Addr)) (fp : List Addr), PE (X.blk s H scope (compEnvC scope cl C X.env) fp) kx tk)
    (he : ∀ (s : Shared) (H : Hp) (C : Addr) (cl : List (Str × Addr)) (fp : List Addr), PE (X.blk s H scope (compEnvC scope cl C X.env) fp) vx tv) (hs : ∀ x, foldedSetIterable iter X.env x = pure x := by intro _; rfl) :
    PE X (.DictComp kx vx [⟨tg, iter, ifs, 0⟩] scope pos) (tDcT wi g tt tk tv (own.map (·.2))) := by
  refine ⟨fun pins s σ H Q I h => ?_⟩
  rw [arm_eval_DictComp]
  refine dcT_core hu hc hN I hi ok hg ht hk he hs h fun D C s' m H' I' q hn f => ⟨m, hn, fun h'' sb => ?_⟩
  obtain ⟨f0, f1, f2, f3, f4, f5⟩ := f
  exact ⟨.ref D, H', I'.turned (t' := s'.toks) (fun b o hb e => (sb.2 b hb).trans e) f0 f1 f3 f4 f5, rfl, q⟩
/-- name = {..: .. for ..} on one line, the name a local -/
theorem ps_setDcT {i : Nat} {y : Str} {py : Pos} {kx vx tg iter : Expr} {ifs : List Expr} {scope : Scope} {own : List (Str × Nat)} {pos spos : Pos} {wi : TI} {g : TG} {tt : TT} {tk tv : TE} (hu : X.A.units + 1 < cLine) (hc : X.calm = true) (hN : X.N.Nodup) (hy : X.N[i]? = some y) (hyl : X.env.scope.names.lookup y = some .local)
    (hsw : swapsWith (.DictComp kx vx [⟨tg, iter, ifs, 0⟩] scope pos) (some (.Name y py)) spos.line X.env = pure true) (hi : PI X tg iter wi) (ok : BlkOk X.N X.env.scope scope own)
    (hg : ∀ (s : Shared) (H : Hp) (C : Addr) (cl : List (Str × Addr)) (fp : List Addr), PG (X.blk s H scope (compEnvC scope cl C X.env) fp) tg g) (ht : ∀ (s : Shared) (H : Hp) (C : Addr) (cl : List (Str × Addr)) (fp : List Addr), PTs (X.blk s H scope (compEnvC scope cl C X.env) fp) ifs tt)
    (hk : ∀ (s : Shared) (H : Hp) (C : Addr) (cl : List (Str × Addr)) (fp : List Addr), PE (X.blk s H scope (compEnvC scope cl C X.env) fp) kx tk)
    (he : ∀ (s : Shared) (H : Hp) (C : Addr) (cl : List (Str × Addr)) (fp : List Addr), PE (X.blk s H scope (compEnvC scope cl C X.env) fp) vx tv) (hs : ∀ x, foldedSetIterable iter X.env x = pure x := by intro _; rfl) :
    PS X (.Assign [.Name y py] (.DictComp kx vx [⟨tg, iter, ifs, 0⟩] scope pos) spos) (tAsg (tDcT wi g tt tk tv (own.map (·.2))) (gName i)) := by
  refine ⟨fun pins s σ H D I h => ?_⟩
  rw [exec_Assign_Name_used _ _ _ _ hsw]
  refine wpAny_bind (wpAny_standAt (wpAny_bind ?_))
  show wpAny _ X.A (do let _ ← comprehension (.DictComp kx vx [⟨tg, iter, ifs, 0⟩] scope pos) scope X.env (firstIterPos [⟨tg, iter, ifs, 0⟩] pos) newDict false (eval iter X.env) (some (assign (.Name y py) X.env))) _ _ s
  have h : tDcT wi g tt tk tv (own.map (·.2)) σ H (fun x H1 => gName i x σ H1 D.nx) := h
  refine wpAny_bind (thn (dcT_core (Qf := fun _ s' => SP X pins D .next s') hu hc hN I hi ok hg ht hk he hs h fun L C s' m H' I' q hn f => ?_) fun _ s' hq => wpAny_pure (wpAny_pure hq))
  show wpAny _ _ (assign (.Name y py) X.env (.ref L)) _ _ _
  refine wpAny_assign_Name (store_ok2 (v := V.ref L) I' hN hy (.inl hyl) rfl (fun s2 I2 ⟨a, sb, ha⟩ => ?_) (.inr hyl))
  obtain ⟨f0, f1, f2, f3, f4, f5⟩ := f
  have nC : C ≠ a := by
    rcases ha with z | z
    · rw [z]
      exact f1
    · exact fun e => f4 y a z e.symm
  exact ⟨m, hn.sameBut sb nC, fun h3 sb3 => ⟨_, H', I2.turned (t' := s2.toks) (fun b o hb e => (sb3.2 b hb).trans e) f0 f1 f3 f4 f5, q⟩⟩
theorem swD_true {kx vx : Expr} {gs : List Comprehension} {scope : Scope} {pos py : Pos} {y : Str} {l : Nat} {env : Env} (hk : env.scope.kind = .function) (hy : env.scope.names.lookup y = some .local) (hl : (py.line == pos.line) = true)
    (ha : (scope.names.any fun (n, k) => n == y && (k == .local || k == .cell)) = false) : swapsWith (.DictComp kx vx gs scope pos) (some (.Name y py)) l env = pure true := by
  have ky : env.kindOf y = some .local := hy
  have hb : env.blockKind = .function := by unfold Env.blockKind; rw [hk]; rfl
  unfold swapsWith
  simp only [hb, ky, ha, Expr.pos, hl]
  rfl
/-- such a comprehension by what it has made so far -/
theorem dcT_inv {J : It} {n : Nat} {G : Hp → Prop} {Y : Nat → Hp → V → Hp → Prop} {g : TG} {tt : TT} {tk tv : TE} {vs : List Nat} {σ : L2.St} {H1 : Hp} {D : Addr} {Qd : Hp → Prop} (w : Walk J n G Y) (I : Nat → List (List Key × V) → Hp → Prop) (bl : ∀ i kvs H o, I i kvs H → I i kvs (upd H D o)) (h0 : I 0 [] H1) (hl : ∀ i kvs H, i < n → I i kvs H → kvs.length < sizeLine) (hG : ∀ i kvs H, i ≤ n → I i kvs H → G H)
    (hs : ∀ i x kvs H H', i < n → I i kvs H → H D = some (.dT kvs) → Y i H x H' → ∀ (R : V → V → Hp → Prop) (S : Hp → Prop), (∀ k a v H4, H4 D = some (.dT kvs) → H4 a = some (.tup (k.map kV)) → I (i + 1) (putK kvs k v) H4 → R (.ref a) v H4) → (∀ H4, H4 D = some (.dT kvs) → I (i + 1) kvs H4 → S H4) →
      g x (wipe σ vs) H' fun σ2 H2 => wipe σ2 vs = wipe σ vs ∧ tt σ2 H2 fun b H3 => if b = true then tk σ2 H3 fun y H4 => tv σ2 H4 fun v H5 => R y v H5 else S H3) (hd : ∀ kvs H, H D = some (.dT kvs) → I n kvs H → Qd H) :
    ∃ W : Nat → Nat → Hp → Prop, (∃ m, W 0 m (upd H1 D (.dT []))) ∧ ∀ i m H, W i m H →
      (J.stop i H ∧ Qd H) ∨ (J.go i H ∧ ∃ Nx : Hp → Prop, (∀ H', Nx H' → ∃ m', m' < m ∧ W (i + 1) m' H') ∧ ∀ x H', J.yld i H x H' → g x (wipe σ vs) H' fun σ2 H2 => wipe σ2 vs = wipe σ vs ∧ tt σ2 H2 fun b H3 =>
        if b = true then tk σ2 H3 fun y H4 => tv σ2 H4 fun v H5 => ∃ kvs k a, y = .ref a ∧ H5 a = some (.tup (k.map kV)) ∧ H5 D = some (.dT kvs) ∧ kvs.length < sizeLine ∧ Nx (upd H5 D (.dT (putK kvs k v))) else Nx H3) := by
  refine ⟨fun i m H => m = n - i ∧ i ≤ n ∧ ∃ kvs, H D = some (.dT kvs) ∧ I i kvs H, ⟨n, by simp, Nat.zero_le _, [], upd_same, bl _ _ _ _ h0⟩, ?_⟩
  rintro i m H ⟨rfl, hi, kvs, e, p⟩
  by_cases hlt : i < n
  · refine .inr ⟨w.goes i H hlt (hG i kvs H hi p), fun H' => ∃ kvs, H' D = some (.dT kvs) ∧ I (i + 1) kvs H', fun H' p' => ⟨n - (i + 1), by omega, rfl, hlt, p'⟩, fun x H' y => ?_⟩
    exact hs i x kvs H H' hlt p e (w.yields i H x H' hlt (hG i kvs H hi p) y) _ _ (fun k a v H4 e4 ea p4 => ⟨kvs, k, a, rfl, ea, e4, hl i kvs H hlt p, _, upd_same, bl _ _ _ _ p4⟩) fun H4 e4 p4 => ⟨kvs, e4, p4⟩
  · have ei : i = n := by omega
    subst ei
    exact .inl ⟨w.stops H (hG _ kvs H hi p), hd kvs H e p⟩
/-- xs[i], to be written in place -/
def rGetL (K : PySem.W.Frag) : V → V → Hp → VK → Prop := fun x y H Q => ∃ (p : Addr) (xs : List V) (j : Nat) (v : V), x = .ref p ∧ y = .int (j : Nat) ∧ SqL K H p xs ∧ xs[j]? = some v ∧ Q v H
theorem get_list : PGet X (rGetL X.K) := by
  intro pins s σ H o i ov iv Q I ro ri h
  obtain ⟨p, xs, j, v, rfl, rfl, hq, he, q⟩ := h
  cases ro
  obtain ⟨t, rfl⟩ := ri
  obtain ⟨its, r, pl, hz⟩ := I.list hq
  obtain ⟨u, eu, ru⟩ := r.get he
  have hj := (List.getElem?_eq_some_iff.mp he).1
  have hn := line63
  exact wpAny_getItem_list pl.isList (by omega) (by omega) (by simpa using eu) ⟨v, H, I, ru, q⟩
end
end LL

set_option Elab.async false
set_option linter.all false
set_option maxRecDepth 100000
set_option maxHeartbeats 2000000
/-! LLNone: None in a list of None's and of lists; its first place. -/
namespace LL
open PySem PySem.Spec PyProof.Rows L2
def isNn : V → Bool
  | .non => true
  | _ => false
def isNnU : Value → Bool
  | .none => true
  | _ => false
/-- None, or a list -/
def NonL (K : PySem.W.Frag) (H : Hp) (v : V) : Prop := v = .non ∨ ∃ a ys, v = .ref a ∧ SqL K H a ys
section
variable {X : Cx} {pins : List (Addr × Obj)} {σ : L2.St} {H : Hp} {s : Shared}
theorem isNn_of {v : V} {u : Value} (r : RelV v u) (h : NonL X.K H v) : isNnU u = isNn v := by
  rcases h with rfl | ⟨a, ys, rfl, _⟩
  · cases (show u = .none from r)
    rfl
  · cases (show u = .ref a from r)
    rfl
theorem any_non : ∀ {xs : List V} {us : List Value}, Vals xs us → (∀ v ∈ xs, NonL X.K H v) → us.any isNnU = xs.any isNn
  | _, _, .nil, _ => rfl
  | y :: xs, u :: us, .cons r t, h => by
    rw [List.any_cons, List.any_cons, isNn_of r (h y (List.mem_cons_self ..)), any_non t fun v hv => h v (List.mem_cons_of_mem _ hv)]
theorem eqAt_non {A : Around} (I : Inv X pins σ H s) (hu : A.units < cLine) : ∀ {xs : List V} {us : List Value}, Vals xs us → (∀ v ∈ xs, NonL X.K H v) → ∀ u ∈ us, SeqAt.EqAt A s u .none (isNnU u)
  | _, _, .nil, _ => fun u hu => by cases hu
  | y :: xs, u :: us, .cons r t, h => fun u' hm => by
    rcases List.mem_cons.mp hm with rfl | hm
    · rcases h y (List.mem_cons_self ..) with rfl | ⟨a, ys, rfl, hl⟩
      · cases (show u' = .none from r)
        exact SeqAt.EqAt.same _
      · cases (show u' = .ref a from r)
        obtain ⟨its, _, pl, _⟩ := I.list hl
        exact SeqAt.EqAt.list_none pl.isList hu
    · exact eqAt_non I hu t (fun v hv => h v (List.mem_cons_of_mem _ hv)) u' hm
def rInN (K : PySem.W.Frag) : R2 := fun x y H Q => ∃ p xs, x = .non ∧ y = .ref p ∧ SqL K H p xs ∧ (∀ v ∈ xs, NonL K H v) ∧ Q (.bl (xs.any isNn)) H
theorem op_inN (hu : X.A.units + 65 < cLine) : OpR X (compareOp .In) (rInN X.K) := by
  intro pins s σ H x y v u Q I rx ry h
  obtain ⟨p, xs, rfl, rfl, hq, hx, q⟩ := h
  cases rx
  cases ry
  obtain ⟨its, r, pl, hz⟩ := I.list hq
  have hu1 : X.A.in1.units < cLine := by
    have : X.A.in1.units ≤ X.A.units + 1 := by
      first | exact Nat.le_refl _ | (unfold Around.in1; simp) | simp [Around.in1]
    omega
  refine SeqAt.in_listAt isNnU pl.isList (fun w hw => eqAt_non I hu1 r hx w (by simpa using hw)) ⟨.bl _, H, I, rfl, ?_⟩
  rw [show its.toArray.any isNnU = its.any isNnU by simp, any_non r hx]
  exact q
/-- l.index(None): the first place of None -/
def rIndexN (K : PySem.W.Frag) : V → List V → Hp → VK → Prop := fun x xs H Q => ∃ (a : Addr) (ys : List V) (j : Nat), x = V.ref a ∧ xs = [.non] ∧ SqL K H a ys ∧ (∀ v ∈ ys, NonL K H v) ∧ ys[j]? = some .non ∧ (∀ (m : Nat) (z' : V), m < j → ys[m]? = some z' → isNn z' = false) ∧ Q (.int (j : Nat)) H
theorem mt_indexN (hu : X.A.units + 65 < cLine) : MtR X "list.index" (rIndexN X.K) := by
  intro pins s σ H x xs v us Q I rx rxs h
  obtain ⟨a, ys, j, rfl, rfl, hs, fys, hz, hno, q⟩ := h
  cases rx
  cases rxs with
  | cons ry rt =>
    rename_i uy ut
    cases rt
    cases (show uy = .none from ry)
    obtain ⟨its, rv, ⟨⟨cls, dd, data, sl⟩, n, ho, hc, hdn, hd⟩, hlen⟩ := I.list hs
    simp only at hc hd
    subst hc hd
    obtain ⟨u, hu', ru⟩ := rv.get hz
    obtain ⟨hjl, hje⟩ := List.getElem?_eq_some_iff.mp hu'
    have hvl := rv.length
    have hj : j < its.toArray.size := by simpa using hjl
    have hsl := sizeLine_eq
    have hu1 : X.A.in1.units < cLine := by
      have : X.A.in1.units ≤ X.A.units + 1 := by
        first | exact Nat.le_refl _ | (unfold Around.in1; simp) | simp [Around.in1]
      omega
    refine call_meets PySem.F.slot_list_index ⟨_, ho, rfl⟩ PySem.F.entry_list_index (PySem.F.args_list_index_2 _ _)
      (SeqAt.list_indexAt a its.toArray n dd sl .none isNnU j hj (by omega) ?_ ?_) ⟨ho, fun u' hm => eqAt_non I hu1 rv fys u' (by simpa using hm), ?_⟩
    · have e1 : its.toArray[j] = u := by simpa using hje
      rw [e1]
      cases (show u = .none from ru)
      rfl
    · intro m hm hmj
      have hml : m < its.length := by simpa using hm
      have hmy : m < ys.length := by omega
      have hy' : ys[m]? = some ys[m] := List.getElem?_eq_getElem hmy
      obtain ⟨u2, hu2, ru2⟩ := rv.get hy'
      obtain ⟨_, hme⟩ := List.getElem?_eq_some_iff.mp hu2
      have e1 : its.toArray[m] = u2 := by simpa using hme
      rw [e1, isNn_of ru2 (fys _ (List.getElem_mem hmy))]
      exact hno m _ hmj hy'
    · exact ⟨.int (j : Nat), H, I.tok _, ⟨_, rfl⟩, q⟩
end
end LL

set_option Elab.async false
set_option linter.all false
set_option maxRecDepth 100000
set_option maxHeartbeats 2000000
/-! LLOList: == of lists of own objects, by their own __eq__. -/
namespace PySem.SeqAt
open AutoSeq1 (wpAny_loadPart')
open MeetsSeq MeetsSeq2 MeetsSeq3 SeqRoads2
section
variable {prog : Program} {w : World}
/-- the items' == runs, St stays -/
def EqSt (prog : Program) (w : World) (St : Shared → Prop) (A : Around) (y x : Value) (b : Bool) : Prop := ∀ (s : Shared), St s → ∀ (E : Value → Shared → Prop) (Q : Bool → Shared → Prop), (∀ s', St s' → Q b s') → wpAny (model prog w) A (eqBool y x) Q E s
theorem eqO_loop (St : Shared → Prop) (l b : Addr) (items items2 : Array Value) (hsz : items.size = items2.size) (e : Nat → Bool)
    (hst : ∀ s, St s → s.heap.IsList l items ∧ s.heap.IsList b items2) (k : Nat) :
    ∀ i : Nat, items.size - i = k → MeetsIn prog w (Builtin.«list.__eq__.loop» ⟨[.ref l, .ref b, rawInt i, rawInt 2], []⟩)
      (fun A R s => St s ∧ (∀ j (h1 : j < items.size) (h2 : j < items2.size), EqSt prog w St A.in1 items[j] items2[j] (e j)) ∧
        ∀ s', St s' → R (.ok (.ret (.bool (((List.range items.size).drop i).all e)))) s') := by
  induction k with
  | zero =>
    intro i hk A R s h
    obtain ⟨hs, he, h⟩ := h
    obtain ⟨⟨⟨cls, dd, data, sl⟩, hl, hc, n, hd⟩, ⟨cls2, dd2, data2, sl2⟩, hb, hc2, n2, hd2⟩ := hst s hs
    simp only at hc hd hc2 hd2
    subst hc hd hc2 hd2
    have h := h s hs
    clear hs
    obtain ⟨hp, g, d, tk, os⟩ := s
    wp_walk using wpAny_loadPart' hl, wpAny_loadPart' hb
    have hi1 : items[((i : Nat) : Int).toNat]? = none := by simp; omega
    have hi2 : items2[((i : Nat) : Int).toNat]? = none := by simp; omega
    have hd : (List.range items.size).drop i = [] := by simp; omega
    rw [hd] at h
    rw [hi1, hi2]
    wp_walk using wpAny_loadPart' hl, wpAny_loadPart' hb
    show R (.ok (.ret (.bool (items.size == items2.size)))) _
    rw [hsz]
    simpa using h
  | succ k ih =>
    intro i hk A R s h
    obtain ⟨hs, he, h⟩ := h
    obtain ⟨⟨⟨cls, dd, data, sl⟩, hl, hc, n, hd⟩, ⟨cls2, dd2, data2, sl2⟩, hb, hc2, n2, hd2⟩ := hst s hs
    simp only at hc hd hc2 hd2
    subst hc hd hc2 hd2
    have hlt : i < items.size := by omega
    have hlt2 : i < items2.size := by omega
    have hi1 : items[((i : Nat) : Int).toNat]? = some items[i] := by simp [hlt]
    have hi2 : items2[((i : Nat) : Int).toNat]? = some items2[i] := by simp [hlt2]
    have hd : (List.range items.size).drop i = i :: (List.range items.size).drop (i + 1) := by simp [List.drop_eq_getElem_cons, hlt]
    have hc : ((i : Int) + 1) = ((i + 1 : Nat) : Int) := by push_cast; rfl
    have step := he i hlt hlt2 s hs
    clear hs
    obtain ⟨hp, g, d, tk, os⟩ := s
    wp_walk using wpAny_loadPart' hl, wpAny_loadPart' hb
    rw [hd] at h
    simp only [List.all_cons] at h
    rw [hi1, hi2]
    refine wpAny_bind (step _ _ fun s' hs' => ?_)
    clear hl hb
    obtain ⟨⟨⟨cls', dd', data', sl'⟩, hl', hc', n', hd'⟩, ⟨cls2', dd2', data2', sl2'⟩, hb', hc2', n2', hd2'⟩ := hst s' hs'
    simp only at hc' hd' hc2' hd2'
    subst hc' hd' hc2' hd2'
    have h' := h s' hs'
    cases hb2 : e i with
    | true =>
      rw [hb2] at h
      have key := ih (i + 1) (by omega) A R s' ⟨hs', he, fun s2 h2 => by simpa using h s2 h2⟩
      clear hs' h'
      obtain ⟨hp, g, d, tk, os⟩ := s'
      wp_walk
      rw [hc]
      exact ⟨plainId_quiet plain_eq_loop _, codeAny_builtin entry_eq_loop (by
        rw [Around.under_plainId plain_eq_loop _]
        exact key)⟩
    | false =>
      rw [hb2] at h'
      clear hs'
      obtain ⟨hp, g, d, tk, os⟩ := s'
      wp_walk using wpAny_loadPart' hl', wpAny_loadPart' hb'
      rw [hi1, hi2]
      wp_walk
      simpa using h'
theorem eqO_list (St : Shared → Prop) (l b : Addr) (items items2 : Array Value) (e : Nat → Bool)
    (hst : ∀ s, St s → s.heap.IsList l items ∧ s.heap.IsList b items2) :
    MeetsIn prog w (Builtin.«list.__eq__» ⟨[.ref l, .ref b], []⟩)
      (fun A R s => St s ∧ (items.size = items2.size → ∀ j (h1 : j < items.size) (h2 : j < items2.size), EqSt prog w St A.in1 items[j] items2[j] (e j)) ∧
        ∀ s', St s' → R (.ok (.ret (.bool (decide (items.size = items2.size) && (List.range items.size).all e)))) s') := by
  intro A R s h
  obtain ⟨hs, he, h⟩ := h
  have f3 := AutoSeq1.sub_list_list
  obtain ⟨⟨⟨cls, dd, data, sl⟩, hl, hc, n, hd⟩, ⟨cls2, dd2, data2, sl2⟩, hb, hc2, n2, hd2⟩ := hst s hs
  simp only at hc hd hc2 hd2
  subst hc hd hc2 hd2
  by_cases hsz : items.size = items2.size
  · have hne : ¬ (items.size != items2.size) = true := by simp [hsz]
    have key := eqO_loop (prog := prog) (w := w) St l b items items2 hsz e hst _ 0 rfl A R s ⟨hs, he hsz, fun s2 h2 => by simpa [hsz] using h s2 h2⟩
    clear hs
    obtain ⟨hp, g, d, tk, os⟩ := s
    wp_walk using wpAny_loadPart' hl, wpAny_loadPart' hb
    exact ⟨plainId_quiet plain_eq_loop _, codeAny_builtin entry_eq_loop (by
      rw [Around.under_plainId plain_eq_loop _]
      exact key)⟩
  · have hne : (items.size != items2.size) = true := by simp [hsz]
    have h' := h s hs
    rw [decide_eq_false hsz, Bool.false_and] at h'
    clear hs
    obtain ⟨hp, g, d, tk, os⟩ := s
    wp_walk using wpAny_loadPart' hl, wpAny_loadPart' hb
    exact h'
theorem rcO_lists {A : Around} {s : Shared} {St : Shared → Prop} {l b : Addr} {items items2 : Array Value} {e : Nat → Bool}
    (hst : ∀ s, St s → s.heap.IsList l items ∧ s.heap.IsList b items2) (hs : St s) (hu : A.units < cLine)
    (he : items.size = items2.size → ∀ j (h1 : j < items.size) (h2 : j < items2.size), EqSt prog w St A.in1 items[j] items2[j] (e j)) (E Q : Value → Shared → Prop) (h : ∀ s', St s' → Q (.bool (decide (items.size = items2.size) && (List.range items.size).all e)) s') : wpAny (model prog w) A (richCompare .Eq (.ref l) (.ref b)) Q E s := by
  obtain ⟨⟨o1, ho, hc, n, hd⟩, o2, ho2, hc2, n2, hd2⟩ := hst s hs
  have ta : s.TypeIs (.ref l) "list" := ⟨_, ho, hc⟩
  have tb : s.TypeIs (.ref b) "list" := ⟨_, ho2, hc2⟩
  exact wpAny_richCompare_same_room (op := .Eq) ta tb F.slot_list_eq (call_meetsIn F.slot_list_eq ta F.entry_list_eq (F.args_list_eq_2 _ _) (eqO_list (prog := prog) (w := w) St l b items items2 e hst)
    ⟨hs, he, fun s' hs' => show Value.bool _ ≠ Value.notImplemented ∧ Q (.bool _) s' from ⟨(fun x => nomatch x), h s' hs'⟩⟩) hu
end
end PySem.SeqAt
namespace LL
open PySem PySem.Spec PyProof.Rows L2
section
variable {X : Cx} {CX : CXT} {k : Nat} {C : Addr} {sp : Sp} {E : XK}
/-- x == y, lists of instances of the class at C, item by item by its own __eq__ -/
def rEqLO (K : PySem.W.Frag) (C : Addr) (sp : Sp) (E : XK) : R2 := fun x y H Q => ∃ (a b : Addr) (xs ys : List Addr) (c : Nat → Bool), x = .ref a ∧ y = .ref b ∧ H a = some (.lst (xs.map V.ref)) ∧ H b = some (.lst (ys.map V.ref)) ∧ PySem.W.notFirst K C (.ref C) = true ∧
  (xs.length = ys.length → ∀ (i : Nat) p q, xs[i]? = some p → ys[i]? = some q → (∃ dx fs, H p = some (.ins C dx fs)) ∧ (∃ dy gs, H q = some (.ins C dy gs)) ∧ (p = q → c i = true) ∧
    ∀ H', Same H H' → sp [.ref p, .ref q] H' (fun z H2 => z = .bl (c i) ∧ Same H' H2) E) ∧
  ∀ H', Same H H' → Q (.bl (decide (xs.length = ys.length) && (List.range xs.length).all c)) H'
theorem vals_refs : ∀ {xs : List Addr} {us : List Value}, Vals (xs.map V.ref) us → us = xs.map Value.ref
  | [], _, .nil => rfl
  | p :: xs, _, .cons r t => by
    cases r
    rw [vals_refs t]
    rfl
theorem op_eqLO (G : SpF X.prog X.w X.K X.mg X.base CX k C "__eq__" sp) (hr : Rm (k + 1) X.A) (hx : Passes CX X.nox E) : OpR X (compareOp .Eq) (rEqLO X.K C sp E) := by
  obtain ⟨f, fd, ps, hs, hf, hb, F⟩ := G.ex
  intro pins s σ H x y v u Q I rx ry h
  obtain ⟨a, b, xs, ys, c, rfl, rfl, ha, hb', hn, he, q⟩ := h
  cases (show v = Value.ref a from rx)
  cases (show u = Value.ref b from ry)
  have hst : ∀ s', (∃ H', Same H H' ∧ Inv X pins σ H' s') → s'.heap.IsList a (xs.map Value.ref).toArray ∧ s'.heap.IsList b (ys.map Value.ref).toArray := by
    rintro s' ⟨H', sm, I'⟩
    obtain ⟨i1, r1, p1, _⟩ := I'.list (SqL.of (sm _ _ ha))
    obtain ⟨i2, r2, p2, _⟩ := I'.list (SqL.of (sm _ _ hb'))
    rw [← vals_refs r1, ← vals_refs r2]
    exact ⟨p1.isList, p2.isList⟩
  refine SeqAt.rcO_lists (e := c) hst ⟨H, Same.rfl', I⟩ (by have := hr.r.un; omega) (fun hl i h1 h2 => ?_) _ _ ?_
  · rw [List.size_toArray, List.length_map] at h1 h2
    rw [List.size_toArray, List.size_toArray, List.length_map, List.length_map] at hl
    obtain ⟨⟨dx, fs, hp⟩, ⟨dy, gs, hq⟩, same, go⟩ := he hl i xs[i] ys[i] (List.getElem?_eq_getElem h1) (List.getElem?_eq_getElem h2)
    have e1 : (xs.map Value.ref).toArray[i] = Value.ref xs[i] := by simp
    have e2 : (ys.map Value.ref).toArray[i] = Value.ref ys[i] := by simp
    rw [e1, e2]
    rintro s1 ⟨H1, sm, I1⟩ E1 Q1 hq1
    unfold eqBool
    refine wpAny_holding ?_
    refine wpAny_ite_split (fun hab => ?_) (fun hab => ?_)
    · refine wpAny_pure (M := model X.prog X.w) (E := E1) ?_
      have e : xs[i] = ys[i] := by
        have := eq_of_beq hab
        injection this
      have := hq1 s1 ⟨H1, sm, I1⟩
      rw [same e] at this
      exact this
    · obtain ⟨od, J⟩ := inst_of I1 (sm _ _ hp)
      obtain ⟨m, hF⟩ := I1.fr
      obtain ⟨od', J'⟩ := inst_of I1 (sm _ _ hq)
      refine wpAny_bind ?_
      refine PySem.W.cmp_K (op := .Eq) hr.in1.r.units0 hF I1.ok.mod.kin J J'.type hn hs hf ?_
      have go1 := run_g (X := X.nox) (us := [.ref xs[i], .ref ys[i]]) (vs := [.ref xs[i], .ref ys[i]]) (dvs := []) F hr.in1 (I1.wish _).env0.in1 hb .nil hx (I1.wish _) (.cons rfl (.cons rfl .nil)) (by rw [List.append_nil]; exact go H1 sm)
      refine wpAny_mono go1 (fun w s' z => ?_) fun _ _ z => z.elim
      obtain ⟨z', H', I', rz, rfl, sm'⟩ := z
      cases (show w = Value.bool (c i) from rz)
      exact SlX.cmpback (show RelV (.bl (c i)) (.bool (c i)) from rfl) (wpAny_truthy_bool (hq1 s' ⟨H', sm.trans sm', I'.wish _⟩))
  · rintro s1 ⟨H1, sm, I1⟩
    refine ⟨.bl _, H1, I1, ?_, q H1 sm⟩
    show _ = _
    simp
end
end LL

set_option Elab.async false
set_option linter.all false
set_option maxRecDepth 100000
set_option maxHeartbeats 2000000
/-! LLStar: a method def m(self, *v), its calls. -/
namespace LL
open PySem PySem.Spec PyProof.Rows L2
/-- a def with a star parameter keeps its promise -/
structure FnS (P : Program) (w : World) (K : PySem.W.Frag) (mg : Str → Option Value) (base : Heap) (CX : CXT) (k : Nat) (f : Addr) (sp : Sp) : Prop where
  run : ∀ (A : Around) (outer : List Env) (s : Shared) (H : Hp) (us : List Value) (vs : List V) (Q : VK) (E : XK), Rm k A → Env0 P w K mg base A outer s H → Vals vs us → sp vs H Q E → codeAny (model P w) A (.call (.ref f) ⟨us, []⟩) (CR CX outer P w H s Q E) s
/-- ws, then what is left over as a new tuple -/
def spStar (n : Nat) (sp : Sp) : Sp := fun vs H Q E => ∃ ws rest, vs = ws ++ rest ∧ ws.length = n ∧ rest.length ≤ sizeLine ∧ ∀ p, H p = none → sp (ws ++ [V.ref p]) (upd H p (.tup rest)) Q E
section
variable {P : Program} {w : World} {K : PySem.W.Frag} {mg : Str → Option Value} {base : Heap} {CX : CXT} {k : Nat} {f : Addr} {fd : FuncData} {sp sp' : Sp}
theorem FnS.mono {j : Nat} (F : FnS P w K mg base CX j f sp) (h : j ≤ k) : FnS P w K mg base CX k f sp := ⟨fun A outer s H us vs Q E hr => F.run A outer s H us vs Q E (hr.mono h)⟩
theorem okStar {x qual pv : Str} {params : Arguments} {body : List Stmt} {scope : Scope} {N ps : List Str} (F : FunD K x qual params body scope [] [] f fd) (S : FnScope N (ps ++ [pv]) scope) (hCX : StX.CXUp CX)
    (hb : ∀ (kV doc pm : Value) (an : Option Addr) (cdv ct : Value) (us rest : List Value), us.length = ps.length → bindArgs (PySem.W.fnOf x qual params body scope .none kV doc pm an cdv ct) ⟨us ++ rest, []⟩ = (newTuple rest >>= fun t => pure (ps.zip us ++ [(pv, t)])))
    (hbody : ∀ (cdv : Value) (A : Around) (outer : List Env) (s : Shared) (H : Hp) (vs : List V) (Q : VK) (E : XK), Rm k (A.deeper (envOfC qual scope s.heap.objs.size f cdv)) → sp vs H Q E →
      ∃ t, PSs (cxOf CX P w K mg base N qual scope f cdv A outer s H E) body t ∧ t { nx := fun _ H' => Q .non H', rt := Q } (L2.start N vs) H) : FnS P w K mg base CX (k + 1) f (spStar ps.length sp) := by
  obtain ⟨oc, od, dV, kV, doc, pm, an, cdv, ct, osl, rfl, lk, hcd, dfl, _⟩ := F.ex
  obtain rfl : dV = .none := dfl.elim (fun h => h.2) fun h => absurd rfl h.1
  refine ⟨fun A outer s H us vs Q E hr e0 r hsp => ?_⟩
  obtain ⟨ws, rest, ev, hl, hz, hq⟩ := hsp
  subst ev
  obtain ⟨u1, u2, eu, r1, r2⟩ := StX.vals_split r
  subst eu
  have hn : H s.heap.objs.size = Option.none := e0.hok.fresh (Nat.le_refl _)
  have hl1 : u1.length = ps.length := by rw [← r1.length]; exact hl
  have hl2 : u2.length ≤ sizeLine := by rw [← r2.length]; exact hz
  refine StX.run_bnd lk hcd S hr.r e0 (G := fun xs H2 => ∃ p, H p = Option.none ∧ xs = ws ++ [V.ref p] ∧ H2 = upd H p (.tup rest)) (fun A' Ex Q' h => ?_) fun s2 H2 xs ⟨p, hp, ex, eH⟩ hr' => ?_
  · rw [hb kV doc pm an cdv ct u1 u2 hl1]
    refine wpAny_bind (wpAny_newTuple (wpAny_pure ?_) hl2)
    have new : ObjOk P w (upd H s.heap.objs.size (.tup rest)) (s.heap.push ({ cls := .type "tuple", data := .seq u2.toArray } : Obj)) s.heap.objs.size (.tup rest) := ⟨hz, u2, r2, ⟨_, Heap.get?_push_size _ rfl, rfl, _, rfl⟩⟩
    have un := StX.un_laid (fs := frs outer) (s := s) (o := ({ cls := .type "tuple", data := .seq u2.toArray } : Obj)) (u := .tup rest) hn
    have z := h _ _ (ws ++ [V.ref s.heap.objs.size]) (u1 ++ [Value.ref s.heap.objs.size]) (StX.env0_laid e0 new) un rfl (fun e s' => hCX outer s H _ _ E e s' un (fun b o q => Heap.get?_push_of_some _ q) rfl) (r1.append (.cons rfl .nil))
      (by rw [List.length_append, List.length_append, hl] <;> rfl) ⟨_, hn, rfl, rfl⟩
    rw [List.zip_append hl1.symm] at z
    exact z
  · subst ex eH
    exact hbody cdv A outer s2 _ _ Q E (hr.deeper _) (hq p hp)
end
section
variable (P : Program) (w : World) (K : PySem.W.Frag) (mg : Str → Option Value) (base : Heap) (CX : CXT) (k : Nat)
/-- the class at C has the method m, with a star parameter -/
structure Mts (C : Addr) (m : Str) (sp : Sp) : Prop where
  cl : Cls K C
  ex : ∃ (f : Addr), Meth K C m f ∧ FnS P w K mg base CX k f sp
end
section
variable {X : Cx} {CX : CXT} {k : Nat} {C : Addr} {sp : Sp} {E : XK} {m : Str} {pos apos : Pos} {e o : Expr} {es : List Expr} {ta : TE} {t : TA}
theorem run_s {pins : List (Addr × Obj)} {σ : L2.St} {H : Hp} {s : Shared} {Q : VK} {us : List Value} {vs : List V} {A : Around} {f : Addr} (F : FnS X.prog X.w X.K X.mg X.base CX k f sp) (hr : Rm k A) (e0 : Env0 X.prog X.w X.K X.mg X.base A X.stack s H) (hx : Passes CX X E)
    (I : Inv X pins σ H s) (r : Vals vs us) (h : sp vs H Q E) : wpAny (model X.prog X.w) A (call (.ref f) us) (EP X pins σ Q) X.xe s := by
  have go := F.run A X.stack s H us vs Q E hr e0 r h
  refine wpAny_call (codeAny_mono go fun r s' hq => ?_)
  match r, hq with
  | .error er, hq => exact hx pins σ H s er s' I hq
  | .ok (.ret u), hq => exact I.after hq
  | .ok .next, hq => exact False.elim hq
  | .ok .brk, hq => exact False.elim hq
  | .ok .cont, hq => exact False.elim hq
theorem pe_ms {pl : Sem Bool} (G : Mts X.prog X.w X.K X.mg X.base CX k C m sp) (hr : Rm k X.A) (hx : Passes CX X E) (he : PE X o ta) (ha : PA X (e :: es) t)
    (hst : starEach (e :: es) X.env = (false, eval e X.env) :: starEach es X.env := by rfl) (hpl : (backTo pos (starEach es X.env)).any (·.1) = false := by rfl)
    (ht : eval (.Call (.Attribute o m apos) (e :: es) [] pos) X.env = (do
      let ov ← eval o X.env
      standAt apos.atName
      let (f, first) ← holding [ov] (getMethod ov m pl)
      callWith pos f first (backTo pos (starEach (e :: es) X.env)) (backToKw pos (keywordEach [] X.env))) := by rfl) : PE X (.Call (.Attribute o m apos) (e :: es) [] pos) (tMeth C m sp [] E ta t) := by
  obtain ⟨f, hm, F⟩ := G.ex
  refine ⟨fun pins s σ H Q I h => PySem.W.methodCall_KW (pl := pl) (thn (he.run pins s σ H _ I h) fun u s1 hh => ?_) ht⟩
  obtain ⟨x, H1, I1, rx, a, dx, fs, rfl, ea, l, q⟩ := hh
  obtain rfl : u = Value.ref a := rx
  exact getmeth_ok I1 ea G.cl hm l (PySem.W.callWith_K (first := [.ref a]) (h₀ := X.base) I.ok.mod.kin hm.kp (thn (ha.run pos pins s1 σ H1 _ I1 q) fun us s2 ⟨vs, H2, I2, r, q2⟩ =>
    ⟨I2.kIn, run_s (us := .ref a :: us) (vs := .ref a :: vs) F hr I2.env0 hx I2 (.cons rfl r) (by have q3 : sp (V.ref a :: (vs ++ [])) H2 Q E := q2; rw [List.append_nil] at q3; exact q3)⟩) hst hpl)
theorem pe_ms0 {pl : Sem Bool} (G : Mts X.prog X.w X.K X.mg X.base CX k C m sp) (hr : Rm k X.A) (hx : Passes CX X E) (he : PE X o ta)
    (ht : eval (.Call (.Attribute o m apos) [] [] pos) X.env = (do
      let ov ← eval o X.env
      standAt apos.atName
      let (f, first) ← holding [ov] (getMethod ov m pl)
      callWith pos f first (backTo pos (starEach [] X.env)) (backToKw pos (keywordEach [] X.env))) := by rfl) : PE X (.Call (.Attribute o m apos) [] [] pos) (tMeth C m sp [] E ta tNil) := by
  obtain ⟨f, hm, F⟩ := G.ex
  refine ⟨fun pins s σ H Q I h => PySem.W.methodCall_KW (pl := pl) (thn (he.run pins s σ H _ I h) fun u s1 hh => ?_) ht⟩
  obtain ⟨x, H1, I1, rx, a, dx, fs, rfl, ea, l, q⟩ := hh
  obtain rfl : u = Value.ref a := rx
  exact getmeth_ok I1 ea G.cl hm l (PySem.W.callWith_K0 (first := [.ref a]) I1.kIn hm.kp (run_s (us := [.ref a]) (vs := [.ref a]) F hr I1.env0 hx I1 (.cons rfl .nil) q))
end
end LL

set_option Elab.async false
set_option linter.all false
set_option maxRecDepth 100000
set_option maxHeartbeats 2000000
/-! LLExb: own error classes over LookupError, RuntimeError, ArithmeticError, with one field or two. -/
namespace LL
open PySem PySem.Spec PyProof.Rows L2
/-- what is known of a built-in error class -/
structure Bas (B nI iI : String) (tl : List Value) : Prop where
  eb : ExcBaseFacts B nI iI tl
  st : StoreFacts B tl "object.__setattr__" "object"
  ty : typeOf (.type B) = pure (.type "type")
  sb : Manifest.isStub B = false
  hi : PySem.W.handedIn (.builtin iI) = true
  bt : bootBuiltins (Str.ofString B) = some (.type B)
  n1 : Str.ofString B ≠ "__name__"
  n2 : (Str.ofString B == ("__debug__" : Str)) = false
theorem bas_L : Bas "LookupError" "LookupError.__new__" "LookupError.__init__" [.type "LookupError", .type "Exception", .type "BaseException", .type "object"] := ⟨F.excBase_LookupError, F.store_LookupError, by kernel_rfl, by decide +kernel, by decide +kernel, by decide +kernel, by decide +kernel, by decide +kernel⟩
theorem bas_R : Bas "RuntimeError" "RuntimeError.__new__" "RuntimeError.__init__" [.type "RuntimeError", .type "Exception", .type "BaseException", .type "object"] := ⟨F.excBase_RuntimeError, F.store_RuntimeError, by kernel_rfl, by decide +kernel, by decide +kernel, by decide +kernel, by decide +kernel, by decide +kernel⟩
theorem bas_A : Bas "ArithmeticError" "ArithmeticError.__new__" "ArithmeticError.__init__" [.type "ArithmeticError", .type "Exception", .type "BaseException", .type "object"] := ⟨F.excBase_ArithmeticError, F.store_ArithmeticError, by kernel_rfl, by decide +kernel, by decide +kernel, by decide +kernel, by decide +kernel, by decide +kernel⟩
/-- what the written part says of the own class at C -/
structure OexB (K : PySem.W.Frag) (C : Addr) (nI : String) (tl : List Value) : Prop where
  cls : PySem.W.excInitIn K C tl nI = true
  over : PySem.W.excOver K C tl = true
  hd : PySem.W.hasDictIn K C = true
  sa : PySem.W.findIn K (.ref C) "__setattr__" = some (some (.builtin "object.__setattr__"))
  exC : PySem.W.subIn K (.ref C) (.type "BaseException") = some true
  tyC : PySem.W.typeIn K (.ref C) = some (.type "type")
  kC : PySem.W.keepIn K (.ref C) = true
theorem taker_of {K : PySem.W.Frag} {C : Addr} {f : Str} (h : PySem.W.findIn K (.ref C) f = some none) : PySem.W.takerIn K C f = some none := by
  unfold PySem.W.takerIn
  rw [h]
  rfl
section
variable {X : Cx} {pins : List (Addr × Obj)} {σ : L2.St} {H : Hp} {s : Shared} {a C dx : Addr} {f : Str} {y : V} {u : Value} {fs : List (Str × V)} {Q : Unit → Shared → Prop} {E : Value → Shared → Prop} {A : Around} {B nI iI : String} {tl : List Value}
/-- the error has got its dict -/
theorem inv_dict {hp h' : Heap} {g : Array GenState} {d : Drawn} {t tk' : Nat} {os : OsState} {t1 : Addr} (I : Inv X pins σ H ⟨hp, g, d, t, os⟩) (e : H a = some (exo a C none)) (ry : RelV y u) (k : ∀ b o, b ≠ a → hp.get? b = some o → h'.get? b = some o) (dn : hp.objs.size ≤ dx)
    (hx : h'.get? a = some ({ cls := .ref C, dict := some dx, data := .fields #[.ref t1, .none, .none, .none, .bool false, .none] } : Obj)) (hn : h'.Ns1 dx fun y => if y = f then some u else none) :
    Inv X pins σ (upd (upd H dx (exd dx [(f, y)])) a (exo a C (some dx))) ⟨h', g, d, tk', os⟩ := by
  have free : H dx = none := I.hok.fresh dn
  have off : ∀ {b : Addr}, H b = none → b ≠ a := fun {b} n z => (by rw [z, e] at n; cases n)
  have low : ∀ {b : Addr} {o : Obj}, hp.get? b = some o → b ≠ dx := fun {b o} q => Nat.ne_of_lt (Nat.lt_of_lt_of_le (Heap.lt_size q) dn)
  have same : ∀ {b : Addr} {o : HO}, H b = some o → b ≠ a → upd (upd H dx (exd dx [(f, y)])) a (exo a C (some dx)) b = some o := fun {b o} q n => by rw [upd_ne n, upd_ne (ne_of_none q free)]; exact q
  refine I.un (t' := tk') ⟨fun b o q n _ _ => k b o (off n) q, fun b o q n _ _ => ⟨o.slots, k b o (off n) q⟩, fun b o q n _ => ?_, fun b o q _ => ?_, fun b xs q => same q (at_ne e q exo_tup), fun b o v q => same q (at_ne e q exo_frz), fun b ps q => ⟨#[], ?_⟩⟩ fun b o q => ?_
  · rw [upd_ne (off n), upd_ne (low q)]
    exact n
  · by_cases c : b = a
    · exact ⟨_, c ▸ hx⟩
    · exact ⟨o, k b o c q⟩
  · rw [same q (at_ne e q exo_tbl)]
    simp
  · by_cases c : b = a
    · subst c
      rw [upd_same] at q
      cases q
      exact exo_ok hx
    rw [upd_ne c] at q
    by_cases c2 : b = dx
    · subst c2
      rw [upd_same] at q
      cases q
      exact exd_ok hn (relO_put (fs := []) ry fun _ => trivial)
    rw [upd_ne c2] at q
    refine (I.hok b o q).stay (fun z v hz w => k z v ?_ w) (fun z hz => same hz (at_ne e hz exo_own)) fun z xs hz => same hz (at_ne e hz exo_tup)
    exact hz.elim (fun hz => hz ▸ c) fun hz => at_ne e hz exo_own
/-- self.f = y, the first one -/
theorem ostB_new (Z : Bas B nI iI tl) (T : OexB X.K C nI tl) (I : Inv X pins σ H s) (e : H a = some (exo a C none)) (hno : PySem.W.findIn X.K (.ref C) f = some none) (ry : RelV y u)
    (h : ∀ dx s', H dx = none → dx ≠ a → Inv X pins σ (upd (upd H dx (exd dx [(f, y)])) a (exo a C (some dx))) s' → Q () s') : wpAny (model X.prog X.w) A (setAttr (.ref a) f u) Q E s := by
  obtain ⟨t1, ho⟩ := exo_at I.hok e
  obtain ⟨hp, g, d, t, os⟩ := s
  have J : PySem.W.InstAt hp a { cls := .ref C, dict := none, data := .fields #[.ref t1, .none, .none, .none, .bool false, .none] } C none := ⟨ho, rfl, rfl, trivial⟩
  obtain ⟨cd, hc, hd'⟩ := PySem.W.any_some T.hd
  have as : a < hp.objs.size := Heap.lt_size ho
  refine PySem.W.set_plain I.kIn J T.sa (PySem.W.osa_openX (s := ⟨hp, g, d, t + 1, os⟩) Z.st I.kIn J T.over (taker_of hno) fun b => ?_)
  show wpAny _ _ (Builtin.ObjectAttr.storeInOwnDict (.ref a) (.ref C) (.str f t) f u b) _ _ _
  refine wpAny_bind (wpAny_pure (wpAny_bind (PySem.W.instanceDict_exc (t := t1) (c2 := .none) ho (PySem.W.looks_clsIn I.kIn hc) hd' ?_)))
  show wpAny _ _ (Builtin.ObjectAttr.storeInDict hp.objs.size (.str f t) f u) _ _ ⟨_, g, d, t + 1, os⟩
  have n0 : ((hp.push (PySem.W.dictOf [] 0)).update a fun o => { o with dict := some hp.objs.size }).Ns1 hp.objs.size fun _ => none :=
    ⟨_, #[], 0, (Heap.get?_update_ne _ _ _ _ (Nat.ne_of_gt as)).trans (Heap.get?_push_size _ rfl), rfl, fun e he => absurd he (by simp), List.Pairwise.nil, fun _ => rfl⟩
  refine PySem.OEX.store_in_old (ns := []) n0 (fun y hy => absurd rfl hy) (Nat.zero_le _) fun h' tk' hn' hs => ?_
  have ho1 : (hp.push (PySem.W.dictOf [] 0)).get? a = some { cls := .ref C, dict := none, data := .fields #[.ref t1, .none, .none, .none, .bool false, .none] } := Heap.get?_push_of_some _ ho
  refine h hp.objs.size _ (I.hok.fresh (Nat.le_refl _)) (Nat.ne_of_gt as) (inv_dict (t1 := t1) I e ry (fun b o nb q => ?_) (Nat.le_refl _) ?_ hn')
  · exact (hs.2 b (Nat.ne_of_lt (Heap.lt_size q))).trans ((Heap.get?_update_ne _ _ _ _ nb).trans (Heap.get?_push_of_some _ q))
  · exact (hs.2 a (Nat.ne_of_lt as)).trans (Heap.get?_update_self _ ho1 rfl)
/-- self.f = y, a further one -/
theorem ostB_old (Z : Bas B nI iI tl) (T : OexB X.K C nI tl) (I : Inv X pins σ H s) (e : H a = some (exo a C (some dx))) (ed : H dx = some (exd dx fs)) (hl : fs.length ≤ 900) (hno : PySem.W.findIn X.K (.ref C) f = some none) (ry : RelV y u)
    (h : ∀ s', Inv X pins σ (upd H dx (exd dx ((f, y) :: fs))) s' → Q () s') : wpAny (model X.prog X.w) A (setAttr (.ref a) f u) Q E s := by
  obtain ⟨t1, ho⟩ := exo_at I.hok e
  obtain ⟨mA, hns, rel⟩ := exd_at I.hok ed
  obtain ⟨hp, g, d, t, os⟩ := s
  obtain ⟨oD, _, _, hoD, _, _⟩ := hns.count (within_of rel)
  have J : PySem.W.InstAt hp a { cls := .ref C, dict := some dx, data := .fields #[.ref t1, .none, .none, .none, .bool false, .none] } C (some oD) := ⟨ho, rfl, rfl, hoD⟩
  obtain ⟨cd, hc, hd'⟩ := PySem.W.any_some T.hd
  have cl : PySem.W.Looks (model X.prog X.w) hp (classData C) cd := PySem.W.looks_clsIn I.kIn hc
  refine PySem.W.set_plain I.kIn J T.sa (PySem.W.osa_openX (s := ⟨hp, g, d, t + 1, os⟩) Z.st I.kIn J T.over (taker_of hno) fun b => ?_)
  show wpAny _ _ (Builtin.ObjectAttr.storeInOwnDict (.ref a) (.ref C) (.str f t) f u b) _ _ _
  have go : ∀ {Qf : Fin → Shared → Prop} {E' : Value → Shared → Prop}, (∀ s', Q () s' → Qf (.done (.ret .none)) s') → wpAny (model X.prog X.w) A.in1 (Builtin.ObjectAttr.storeInDict dx (.str f t) f u) Qf E' ⟨hp, g, d, t + 1, os⟩ := fun {Qf E'} hQ => by
    refine PySem.OEX.store_in_old hns (within_of rel) (by rw [List.length_map]; omega) fun h' tk' hn' hs => ?_
    have ex : ∃ o, h'.get? dx = some o := let ⟨o, _, _, e', _⟩ := hn'; ⟨o, e'⟩
    exact hQ _ (h _ (I.write (t' := tk') (x := dx) (e := dx) (o := exd dx ((f, y) :: fs)) (by rw [ed]; exact trivial) (.inl rfl) (fun b o nb q => (hs.2 b nb).trans q) ex (exd_ok hn' (relO_put ry rel))))
  refine wpAny_bind (wpAny_pure (wpAny_bind (show wpAny _ _ (instanceDict a true) _ _ _ from ?_)))
  unfold instanceDict
  refine wpAny_bind (wpAny_loadPart ho ?_)
  dsimp only
  refine wpAny_bind (cl.at ?_)
  rw [hd']
  first
    | exact wpAny_pure (by exact go fun _ z => z)
    | exact wpAny_bind (wpAny_pure (wpAny_pure (by exact go fun _ z => z)))
theorem oinitB {us : List Value} {Q : Value → Shared → Prop} (Z : Bas B nI iI tl) (T : OexB X.K C nI tl) (I : Inv X pins σ H s) (e : H a = some (exo a C none)) (hl : us.length ≤ sizeLine) (h : ∀ s', Inv X pins σ H s' → Q .none s') : wpAny (model X.prog X.w) A (call (.builtin iI) (.ref a :: us)) Q E s := by
  obtain ⟨nm, N, qn, bs, bm, hdct, sn, sub, ab, col, dd, k0, k1, k2, k3, k5, hC, hT⟩ := PySem.W.excInit_of I.kIn T.cls
  obtain ⟨t1, ho⟩ := exo_at I.hok e
  obtain ⟨hp, g, d, t, os⟩ := s
  refine wpAny_call (PySem.PX.init_base Z.eb hT hC ho hl fun h' t2 k hx => ?_)
  have J := I.write (t' := t) (x := a) (e := a) (o := exo a C none) (by rw [e]; exact trivial) (.inl rfl) k ⟨_, hx⟩ (exo_ok hx)
  have same : upd H a (exo a C none) = H := funext fun b => by
    by_cases c : b = a
    · rw [c, upd_same, e]
    · rw [upd_ne c]
  exact h _ (same ▸ J)
end
/-! ### readings -/
def tBeI (K : PySem.W.Frag) (nI : String) (tl : List Value) (ta : TA) : TE := fun σ H Q => ta σ H fun vs H1 => ∃ (a C : Addr) (ws : List V), vs = .ref a :: ws ∧ ws.length ≤ 1000 ∧ OexB K C nI tl ∧ H1 a = some (exo a C none) ∧ Q .non H1
def tOstB (K : PySem.W.Frag) (nI : String) (tl : List Value) (f : Str) (to te : TE) : TS := fun D σ H => te σ H fun y H1 => to σ H1 fun x H2 => ∃ a C : Addr, x = .ref a ∧ OexB K C nI tl ∧ PySem.W.findIn K (.ref C) f = some none ∧
  ((H2 a = some (exo a C none) ∧ ∀ dx, H2 dx = none → dx ≠ a → D.nx σ (upd (upd H2 dx (exd dx [(f, y)])) a (exo a C (some dx)))) ∨
    ∃ (dx : Addr) (fs : List (Str × V)), H2 a = some (exo a C (some dx)) ∧ H2 dx = some (exd dx fs) ∧ fs.length ≤ 900 ∧ D.nx σ (upd H2 dx (exd dx ((f, y) :: fs))))
section
variable {X : Cx} {o e : Expr} {es : List Expr} {to te : TE} {ta : TA} {f : Str} {p p' p1 p2 pos : Pos} {B nI iI : String} {tl : List Value}
/-- B.__init__(self, ..) -/
theorem pe_beinit {pl : Sem Bool} (Z : Bas B nI iI tl) (hm : X.mg (Str.ofString B) = none) (vV : PySem.W.findCls X.K (.type B) (.type "type") "__init__" = some (.val (.builtin iI))) (ha : PA X (e :: es) ta)
    (hg : Gl X (Str.ofString B) := by rfl) (ev : eval (.Call (.Attribute (.Name (Str.ofString B) p1) "__init__" p2) (e :: es) [] pos) X.env = (do
      let o ← eval (.Name (Str.ofString B) p1) X.env
      standAt p2.atName
      let (g, first) ← holding [o] (getMethod o "__init__" pl)
      callWith pos g first (backTo pos (starEach (e :: es) X.env)) (backToKw pos (keywordEach [] X.env))) := by rfl)
    (se : starEach (e :: es) X.env = (false, eval e X.env) :: starEach es X.env := by rfl) (sn : (backTo pos (starEach es X.env)).any (·.1) = false := by rfl) : PE X (.Call (.Attribute (.Name (Str.ofString B) p1) "__init__" p2) (e :: es) [] pos) (tBeI X.K nI tl ta) := by
  constructor
  intro pins s σ H Q I h
  obtain ⟨m, fr⟩ := I.fr
  refine PySem.W.methodCall_KW (ld_blt I hg hm Z.bt ?_ Z.n1 Z.n2) ev
  refine PySem.W.method_type fr I.ok.mod.kin Z.ty Z.sb vV Z.hi ?_
  show wpAny _ _ (callWith pos (Value.builtin iI) [] (backTo pos (starEach (e :: es) X.env)) []) _ _ _
  refine PyProof.Rows.callWith_method1 (thn (ha.run pos pins _ σ H _ (I.tok _) h) fun us s1 z => ?_) se sn
  obtain ⟨vs, H1, I1, r, a, C, ws, rfl, hl, T, ea, q⟩ := z
  cases r with
  | @cons _ u _ ur ru rr =>
    cases (show u = Value.ref a from ru)
    exact oinitB Z T I1 ea (Nat.le_trans (Nat.le_of_eq (Paired.length rr).symm) (Nat.le_trans hl (by rw [sizeLine_eq]; decide))) fun s2 J => ⟨.non, H1, J, rfl, q⟩
theorem ps_ostB (Z : Bas B nI iI tl) (ho : PE X o to) (he : PE X e te) (hs : swapsWith e (some (.Attribute o f p')) pos.line X.env = pure false := by rfl) : PS X (.Assign [.Attribute o f p'] e pos) (tOstB X.K nI tl f to te) := by
  constructor
  intro pins s σ H D I h
  refine plainObj_wpAny_Assign_Attribute (thn (he.run pins s σ H _ I h) fun v s1 z => ?_) hs
  obtain ⟨y, H1, I1, r1, q1⟩ := z
  refine thn (ho.run pins s1 σ H1 _ I1 q1) fun u s2 z => ?_
  obtain ⟨x, H2, I2, r2, a, C, rfl, T, hno, q⟩ := z
  cases (show u = Value.ref a from r2)
  rcases q with ⟨ea, q⟩ | ⟨dx, fs, ea, ed, hl, q⟩
  · exact ostB_new Z T I2 ea hno r1 fun dx s' n ne J => ⟨σ, _, J, q dx n ne⟩
  · exact ostB_old Z T I2 ea ed hl hno r1 fun s' J => ⟨σ, _, J, q⟩
theorem pmk_oexB {CX : CXT} {x : Str} {C fI : Addr} {k : Nat} {fd : FuncData} {ps : List Str} {sp : Sp} (Z : Bas B nI iI tl) (T : OexB X.K C nI tl) (iC : PySem.W.findIn X.K (.ref C) "__init__" = some (some (.ref fI))) (tI : PySem.W.typeIn X.K (.ref fI) = some (.type "function"))
    (F1 : FnOk X.prog X.w X.K X.mg X.base CX k fI fd ps sp) (hr : Room (k + 1) X.A) (hb : Binds X.K fd ps []) (hx : Passes CX X (fun _ _ _ => False)) (hg : Gl X x) (hm : X.mg x = some (.ref C)) (ha : PA X (e :: es) ta)
    (hdb : (x == ("__debug__" : Str)) = false := by decide) (he : starEach (e :: es) X.env = (false, eval e X.env) :: starEach es X.env := by rfl) (hpl : (backTo pos (starEach es X.env)).any (·.1) = false := by rfl) : PMk X (.Call (.Name x p) (e :: es) [] pos) (tMkO C sp [] ta) := by
  intro pins s σ H Q I h
  refine wpAny_Call_Name_kw (ld_glob I hg hm (PySem.W.callWith_K (h₀ := X.base) I.ok.mod.kin T.kC (thn (ha.run pos pins s σ H _ I h) fun us s1 z => ?_) he hpl) hdb)
  obtain ⟨vs, H1, I1, r1, hz, q1⟩ := z
  refine ⟨I1.kIn, show wpAny _ _ (call (.ref C) us) _ _ _ from ?_⟩
  obtain ⟨nm, N, qn, bs, bm, hdct, sn, sub, ab, col, dd, k0, k1, k2, k3, k5, hC, hT⟩ := PySem.W.excInit_of I1.kIn T.cls
  obtain ⟨hp, g, dr, tk, os⟩ := s1
  have up : hp.objs.size ≤ hp.objs.size + 1 := Nat.le_succ _
  have hq := q1 (hp.objs.size + 1) (I1.hok.fresh up)
  have kk : ∀ b o, hp.get? b = some o → ((hp.push (PySem.W.kdv_tup us)).push (PySem.PX.excO C hp.objs.size)).get? b = some o := fun b o e => Heap.get?_push_of_some _ (Heap.get?_push_of_some _ e)
  have got : ((hp.push (PySem.W.kdv_tup us)).push (PySem.PX.excO C hp.objs.size)).get? (hp.objs.size + 1) = some (PySem.PX.excO C hp.objs.size) := by heap_get
  have I2 : Inv X pins σ (upd H1 (hp.objs.size + 1) (exo (hp.objs.size + 1) C none)) ⟨(hp.push (PySem.W.kdv_tup us)).push (PySem.PX.excO C hp.objs.size), g, dr, tk, os⟩ := I1.laid (t' := tk) (o := exo (hp.objs.size + 1) C none) kk up (exo_ok got)
  have r2 : Vals (V.ref (hp.objs.size + 1) :: (vs ++ [])) (Value.ref (hp.objs.size + 1) :: (us ++ [])) := .cons rfl (r1.append .nil)
  have hl : (Value.ref (hp.objs.size + 1) :: us ++ []).length = ps.length := r2.length.symm.trans (F1.len _ _ _ _ hq)
  have hus : us.length ≤ sizeLine := Nat.le_trans (Nat.le_of_eq (Paired.length r1).symm) (Nat.le_trans hz (by rw [sizeLine_eq]; decide))
  have bd : BindsTo (⟨(hp.push (PySem.W.kdv_tup us)).push (PySem.PX.excO C hp.objs.size), g, dr, tk, os⟩ : Shared) fd ⟨Value.ref (hp.objs.size + 1) :: us, []⟩ (ps.zip (Value.ref (hp.objs.size + 1) :: (us ++ []))) := by
    have z := hb ⟨(hp.push (PySem.W.kdv_tup us)).push (PySem.PX.excO C hp.objs.size), g, dr, tk, os⟩ (Value.ref (hp.objs.size + 1) :: us) I2.kIn hl
    rw [List.cons_append] at z
    exact z
  refine wpAny_call (PySem.PX.call_own Z.eb hT hC (PySem.W.looks_findIn I1.kIn iC) (fun self => PySem.W.bind_fn I1.kIn self tI) hus (codeAny_mono (F1.run _ X.stack _ _ ⟨Value.ref (hp.objs.size + 1) :: us, []⟩ (Value.ref (hp.objs.size + 1) :: (us ++ [])) _ _ (fun _ _ _ => False) (hr.make C us []) (I2.env0.make C us []) bd r2 hq) fun r s' hq' => ?_))
  match r, hq' with
  | .error er, hq' => exact hx pins σ _ _ er s' I2 hq'
  | .ok (.ret u), hq' =>
    obtain ⟨v, H2, os2, bare2, un2, hok2, rv, rfl, d, fs, ea, ed, hd1, q2⟩ := hq'
    obtain ⟨h2, g2, d2, t2, os'⟩ := s'
    exact ⟨rv, mk_end (raises_own T.exC T.tyC) I1 up kk un2 hok2 os2 bare2 ea ed hd1 q2⟩
  | .ok .next, hq' => exact False.elim hq'
  | .ok .brk, hq' => exact False.elim hq'
  | .ok .cont, hq' => exact False.elim hq'
end
/-! ### the class as one fact -/
/-- an __init__ that keeps its arguments in the fields fs -/
def spXB (C : Addr) (fs : List Str) : Sp := fun vs H Q _ => ∃ a us, vs = .ref a :: us ∧ us.length = fs.length ∧ H a = some (exo a C none) ∧ ∀ dx, H dx = none → dx ≠ a → Q .non (upd (upd H dx (exd dx (fs.zip us).reverse)) a (exo a C (some dx)))
section
variable (P : Program) (w : World) (K : PySem.W.Frag) (mg : Str → Option Value) (base : Heap) (k : Nat)
structure XclB (x : Str) (C : Addr) (fs : List Str) : Prop where
  nf : ∀ f ∈ fs, PySem.W.findIn K (.ref C) f = some none
  mx : mg x = some (.ref C)
  ex : ∃ (B nI iI : String) (tl : List Value) (fI : Addr) (fd : FuncData) (ps : List Str), Bas B nI iI tl ∧ OexB K C nI tl ∧ PySem.W.findIn K (.ref C) "__init__" = some (some (.ref fI)) ∧ PySem.W.typeIn K (.ref fI) = some (.type "function") ∧ Binds K fd ps [] ∧ FnOk P w K mg base CX0 k fI fd ps (spXB C fs)
  xf : XfC K C
  ec : ExcC K C
end
section
variable {X : Cx} {k : Nat} {C : Addr} {x : Str} {fs : List Str} {W : WX} {e : Expr} {es : List Expr} {ta : TA} {p pos rpos : Pos}
theorem ps_raiseB (G : XclB X.prog X.w X.K X.mg X.base k x C fs) (hr : Room (k + 1) X.A) (tk : Takes X W) (ha : PA X (e :: es) ta) (hc : X.calm = true := by rfl) (hg : Gl X x := by rfl) (hdb : (x == ("__debug__" : Str)) = false := by decide)
    (se : starEach (e :: es) X.env = (false, eval e X.env) :: starEach es X.env := by rfl) (sn : (backTo pos (starEach es X.env)).any (·.1) = false := by rfl) :
    PS X (.Raise (some (.Call (.Name x p) (e :: es) [] pos)) none rpos) (fun _ σ H => tMkO C (spXB C fs) [] ta σ H fun cls d H' => W cls d σ H') := by
  obtain ⟨B, nI, iI, tl, fI, fd, ps, z, h0, h1, h2, h3, h4⟩ := G.ex
  exact ps_raise hc tk (pmk_oexB z h0 h1 h2 h4 hr h3 pass0 hg G.mx ha hdb se sn)
theorem raiseB_of {us : List V} {H : Hp} {Q : XK} (hl : us.length = fs.length) (h9 : us.length ≤ 1000) (h : ∀ d, H d = none → Q (.ref C) (some d) (upd H d (.xd (fs.zip us).reverse))) : us.length ≤ 1000 ∧ ∀ a, H a = none → spXB C fs (.ref a :: (us ++ [])) (upd H a (exo a C none))
    (fun z H2 => z = .non ∧ ∃ (d : Addr) (gs : List (Str × V)), H2 a = some (exo a C (some d)) ∧ H2 d = some (exd d gs) ∧ H d = none ∧ Q (.ref C) (some d) (upd (del H2 a) d (.xd gs))) (fun _ _ _ => False) := by
  refine ⟨h9, fun a ha => ⟨a, us, by rw [List.append_nil], hl, upd_same, fun dx hd ne => ⟨rfl, dx, (fs.zip us).reverse, upd_same, ?_, ?_, ?_⟩⟩⟩
  · rw [upd_ne ne, upd_same]
  · rw [upd_ne ne] at hd
    exact hd
  · rw [upd_ne ne] at hd
    have e : upd (del (upd (upd (upd H a (exo a C none)) dx (exd dx (fs.zip us).reverse)) a (exo a C (some dx))) a) dx (.xd (fs.zip us).reverse) = upd H dx (.xd (fs.zip us).reverse) := funext fun b => by
      by_cases h1 : b = dx
      · rw [h1, upd_same, upd_same]
      · rw [upd_ne h1, upd_ne h1]
        by_cases h2 : b = a
        · rw [h2, del_same, ha]
        · rw [del_ne h2, upd_ne h2, upd_ne h1, upd_ne h2]
    rw [e]
    exact h dx hd
end
/-! ### the __init__ with one field, with two -/
section
variable {P : Program} {w : World} {K : PySem.W.Frag} {mg : Str → Option Value} {base : Heap} {C f : Addr} {fd : FuncData} {nI iI : String} {tl : List Value}
theorem two_up {H : Hp} {a dx : Addr} {f1 f2 : Str} {v1 v2 : V} (ne : dx ≠ a) : upd (upd (upd H dx (exd dx [(f1, v1)])) a (exo a C (some dx))) dx (exd dx [(f2, v2), (f1, v1)]) = upd (upd H dx (exd dx [(f2, v2), (f1, v1)])) a (exo a C (some dx)) := funext fun b => by
  by_cases h1 : b = dx
  · rw [h1, upd_same, upd_ne ne, upd_same]
  · rw [upd_ne h1]
    by_cases h2 : b = a
    · rw [h2, upd_same, upd_same]
    · rw [upd_ne h2, upd_ne h2, upd_ne h1, upd_ne h1]
end
/-! ### tests -/
def oexBB (nI : String) (tl : List Value) (K : PySem.W.Frag) (C : Addr) : Bool := PySem.W.excInitIn K C tl nI && (PySem.W.excOver K C tl && (PySem.W.hasDictIn K C && (He.eqO (PySem.W.findIn K (.ref C) "__setattr__") (some (some (.builtin "object.__setattr__"))) && (decide (PySem.W.subIn K (.ref C) (.type "BaseException") = some true) && (decide (PySem.W.typeIn K (.ref C) = some (.type "type")) && PySem.W.keepIn K (.ref C))))))
theorem oexBB_ok {nI : String} {tl : List Value} {K : PySem.W.Frag} {C : Addr} (c : oexBB nI tl K C = true) : OexB K C nI tl := by
  obtain ⟨c1, c⟩ := He.ba c
  obtain ⟨c2, c⟩ := He.ba c
  obtain ⟨c3, c⟩ := He.ba c
  obtain ⟨c4, c⟩ := He.ba c
  obtain ⟨c5, c⟩ := He.ba c
  obtain ⟨c6, c7⟩ := He.ba c
  exact ⟨c1, c2, c3, He.eqO_ok c4, of_decide_eq_true c5, of_decide_eq_true c6, c7⟩
/-- all that is asked of an own error class x over the built-in with nI, tl; its fields are fs -/
def fXb (x : Str) (nI : String) (tl : List Value) (fs : List Str) : Ft := fun K => oexBB nI tl K (He.ga K x) && ((fs.all fun f => He.eqO (PySem.W.findIn K (.ref (He.ga K x)) f) (some none)) && (He.eqO (PySem.W.findIn K (.ref (He.ga K x)) "__init__") (some (some (.ref (mA x "__init__" K)))) && (decide (PySem.W.typeIn K (.ref (mA x "__init__" K)) = some (.type "function")) &&
  (xfB K (He.ga K x) && (He.eqO (PySem.W.findIn K (.ref (He.ga K x)) "__class__") (some (some (.builtin "object.__class__"))) && (He.eqO (PySem.W.specialIn K (.builtin "object.__class__") "__get__") (some (some (.builtin "getset_descriptor.__get__"))) && (decide (PySem.W.takesIn K (.builtin "object.__class__") = some true) && decide (PySem.W.mroIn K (He.ga K x) (.type "object") = some true))))))))
theorem fXb_pre {x : Str} {nI : String} {tl : List Value} {fs : List Str} {K : PySem.W.Frag} (c : fXb x nI tl fs K = true) : OexB K (He.ga K x) nI tl ∧ ∀ f ∈ fs, PySem.W.findIn K (.ref (He.ga K x)) f = some none := by
  obtain ⟨c1, c⟩ := He.ba c
  obtain ⟨c2, _⟩ := He.ba c
  exact ⟨oexBB_ok c1, fun f hf => He.eqO_ok (List.all_eq_true.mp c2 f hf)⟩
theorem fXb_ok {P : Program} {w : World} {K : PySem.W.Frag} {mg : Str → Option Value} {base : Heap} {k : Nat} {x : Str} {B nI iI : String} {tl : List Value} {fs : List Str} {fd : FuncData} {ps : List Str} (Z : Bas B nI iI tl) (c : fXb x nI tl fs K = true) (hm : mg x = some (.ref (He.ga K x))) (Bd : Binds K fd ps []) (F : FnOk P w K mg base CX0 k (mA x "__init__" K) fd ps (spXB (He.ga K x) fs)) :
    XclB P w K mg base k x (He.ga K x) fs := by
  obtain ⟨h1, h2⟩ := fXb_pre c
  obtain ⟨_, c⟩ := He.ba c
  obtain ⟨_, c⟩ := He.ba c
  obtain ⟨c3, c⟩ := He.ba c
  obtain ⟨c4, c⟩ := He.ba c
  obtain ⟨c5, c⟩ := He.ba c
  obtain ⟨c6, c⟩ := He.ba c
  obtain ⟨c7, c⟩ := He.ba c
  obtain ⟨c8, c9⟩ := He.ba c
  have xf := xfB_ok c5
  exact ⟨h2, hm, ⟨B, nI, iI, tl, _, fd, ps, Z, h1, He.eqO_ok c3, of_decide_eq_true c4, Bd, F⟩, xf, ⟨xf.ga, xf.gg, xf.exC, xf.hdC, He.eqO_ok c6, He.eqO_ok c7, of_decide_eq_true c8, of_decide_eq_true c9⟩⟩
/-- the built-in's __init__ -/
def fBi (B iI : String) : Ft := fun K => match PySem.W.findCls K (.type B) (.type "type") "__init__" with
  | some (.val (.builtin n)) => n == iI
  | _ => false
theorem fBi_ok {B iI : String} {K : PySem.W.Frag} (c : fBi B iI K = true) : PySem.W.findCls K (.type B) (.type "type") "__init__" = some (.val (.builtin iI)) := by
  unfold fBi at c
  split at c
  · rename_i n e
    rw [e, beq_iff_eq.mp c]
  · cases c
end LL

set_option Elab.async false
set_option linter.all false
set_option maxRecDepth 100000
set_option maxHeartbeats 2000000
/-! LLMeth: len of an own object; a class held by a local name; classmethods. -/
namespace LL
open PySem PySem.Spec PyProof.Rows L2
section
variable {X : Cx} {CX : CXT} {k : Nat} {C f : Addr} {fd : FuncData} {ps : List Str} {sp : Sp} {E : XK}
def rLenO (C : Addr) (sp : Sp) (E : XK) : List V → Hp → VK → Prop := fun xs H Q => ∃ a dx fs, xs = [.ref a] ∧ H a = some (.ins C dx fs) ∧ sp [.ref a] H (fun z H' => ∃ n : Nat, z = .int (n : Nat) ∧ n ≤ 100000 ∧ Q z H') E
theorem call_lenO (G : SpF X.prog X.w X.K X.mg X.base CX k C "__len__" sp) (hr : Rm (k + 1) X.A) (hx : Passes CX X E) : CallR X (.builtin "len") (rLenO C sp E) := by
  obtain ⟨f, fd, ps, hs, hf, hb, F⟩ := G.ex
  intro pins s σ H xs us Q I r h
  obtain ⟨a, dx, fs, rfl, ha, q⟩ := h
  obtain ⟨u, rfl, ru⟩ := r.one
  cases (show u = Value.ref a from ru)
  obtain ⟨od, J⟩ := inst_of I ha
  obtain ⟨m, hF⟩ := I.fr
  refine PySem.W.len_K hF I.ok.mod.kin J hs hf (thn (run_g (us := [.ref a]) (vs := [.ref a]) (dvs := []) F hr.in1 I.env0.in1 hb .nil hx I (.cons rfl .nil) q) fun w s' z => ?_)
  obtain ⟨z', H', I', rz, n, rfl, hn, qz⟩ := z
  obtain ⟨t, rfl⟩ := (show ∃ t, w = Value.int (n : Nat) t from rz)
  exact ⟨⟨by omega, by omega⟩, .int (n : Nat), H', I'.tok _, ⟨_, rfl⟩, qz⟩
/-- the class at C, made -/
structure MkC (P : Program) (w : World) (K : PySem.W.Frag) (mg : Str → Option Value) (base : Heap) (CX : CXT) (k : Nat) (C : Addr) (sp : Sp) : Prop where
  ex : ∃ (x : Str) (dvs : List V) (si : Sp), Mkr P w K mg base CX k x C dvs si ∧ ∀ vs H Q E, sp vs H Q E → ∀ a dx, H a = none → H dx = none → dx ≠ a → si (.ref a :: (vs ++ dvs)) (upd (upd H dx (.own a)) a (.ins C dx [])) (fun v H2 => v = .non ∧ Q (.ref a) H2) E
def tMkL (i : Nat) (C : Addr) (sp : Sp) (E : XK) (t : TA) : TE := fun σ H Q => σ[i]? = some (some (.ref C)) ∧ t σ H fun vs H1 => sp vs H1 Q E
theorem pe_mkL {i : Nat} {x : Str} {p pos : Pos} {e : Expr} {es : List Expr} {t : TA} (G : MkC X.prog X.w X.K X.mg X.base CX k C sp) (hr : Rm (k + 1) X.A) (hx : Passes CX X E) (hN : X.N[i]? = some x) (hv : Vis X.env.scope x) (ha : PA X (e :: es) t)
    (hdb : (x == ("__debug__" : Str)) = false := by decide) (hcd : (x == ("__classdict__" : Str)) = false := by decide)
    (he : starEach (e :: es) X.env = (false, eval e X.env) :: starEach es X.env := by rfl) (hpl : (backTo pos (starEach es X.env)).any (·.1) = false := by rfl) : PE X (.Call (.Name x p) (e :: es) [] pos) (tMkL i C sp E t) := by
  obtain ⟨y, dvs, si, ⟨f, fd, ps, ds, M, hm, hb, hd, F⟩, conv⟩ := G.ex
  refine ⟨fun pins s σ H Q I h => ?_⟩
  obtain ⟨hs, ht⟩ := h
  refine wpAny_Call_Name_kw (thn ((pe_var (pos := p) hN hv hdb hcd).run pins s σ H (fun v H1 => v = .ref C ∧ H1 = H) I ⟨.ref C, hs, rfl, rfl⟩) fun u s1 ⟨v, H1, I1, r1, q1⟩ => ?_)
  obtain ⟨rfl, rfl⟩ := q1
  cases r1
  refine PySem.W.callWith_K (h₀ := X.base) I.ok.mod.kin M.kp (thn (ha.run pos pins s1 σ _ _ I1 ht) fun us s2 ⟨vs, H2, I2, r, q⟩ => ⟨I2.kIn, ?_⟩) he hpl
  exact run_makeG M F hr hb hd hx I2 r (conv vs H2 Q E q)
/-- C.m is a classmethod -/
structure Cmt (P : Program) (w : World) (K : PySem.W.Frag) (mg : Str → Option Value) (base : Heap) (CX : CXT) (k : Nat) (C : Addr) (m : Str) (sp : Sp) : Prop where
  rd : ClX.CRead K C (.type "type")
  ex : ∃ (p g : Addr) (fd : FuncData) (ps : List Str), ClX.CMet K C (.type "type") m p g ∧ Binds K fd ps [] ∧ FnG P w K mg base CX k g fd ps sp
theorem run_gC {pins : List (Addr × Obj)} {σ : L2.St} {H : Hp} {s : Shared} {Q : VK} {us : List Value} {vs : List V} {A : Around} (F : FnG X.prog X.w X.K X.mg X.base CX k f fd ps sp) (hr : Rm k A) (e0 : Env0 X.prog X.w X.K X.mg X.base A X.stack s H) (hb : Binds X.K fd ps []) (hx : Passes CX X E)
    (I : Inv X pins σ H s) (r : Vals vs us) (h : sp vs H Q E) : codeAny (model X.prog X.w) A (.call (.ref f) ⟨us, []⟩) (fun r s' => match r with | .ok (.ret v) => EP X pins σ Q v s' | .ok _ => False | .error e => X.xe e s') s := by
  have hl : (us ++ []).length = ps.length := by
    rw [List.append_nil, ← F.len _ _ _ _ h]
    exact r.length.symm
  have b := hb s us I.kIn hl
  rw [List.append_nil] at b
  have go := F.run A X.stack s H ⟨us, []⟩ us vs Q E hr e0 b r h
  refine codeAny_mono go fun r s' hq => ?_
  match r, hq with
  | .error er, hq => exact hx pins σ H s er s' I hq
  | .ok (.ret u), hq => exact I.after hq
  | .ok .next, hq => exact False.elim hq
  | .ok .brk, hq => exact False.elim hq
  | .ok .cont, hq => exact False.elim hq
theorem pe_cm {o e : Expr} {es : List Expr} {m : Str} {pos apos : Pos} {ta : TE} {t : TA} {pl : Sem Bool} (he : PE X o ta) (G : Cmt X.prog X.w X.K X.mg X.base CX k C m sp) (hr : Rm k X.A) (hx : Passes CX X E) (ha : PA X (e :: es) t)
    (hst : starEach (e :: es) X.env = (false, eval e X.env) :: starEach es X.env := by rfl) (hpl : (backTo pos (starEach es X.env)).any (·.1) = false := by rfl)
    (ht : eval (.Call (.Attribute o m apos) (e :: es) [] pos) X.env = (do
      let ov ← eval o X.env
      standAt apos.atName
      let (f, first) ← holding [ov] (getMethod ov m pl)
      callWith pos f first (backTo pos (starEach (e :: es) X.env)) (backToKw pos (keywordEach [] X.env))) := by rfl) :
    PE X (.Call (.Attribute o m apos) (e :: es) [] pos) (ClX.tCMeth C sp E ta t) := by
  obtain ⟨p, g, fd, ps, c, hb, F⟩ := G.ex
  refine ⟨fun pins s σ H Q I h => ?_⟩
  refine PySem.W.methodCall_KW (pl := pl) (thn (he.run pins s σ H _ I h) fun u s1 ⟨x, H1, I1, rx, ex, q⟩ => ?_) ht
  subst ex
  obtain rfl : u = Value.ref C := rx
  refine ClX.getmethcm_ok I1 G.rd c fun s2 I2 => ?_
  refine ClX.callwith_cm I2 (ClX.base_none I1 (Nat.le_refl _)) c.fi (thn (ha.run pos _ s2 σ H1 _ I2 q) fun us s3 ⟨vs, H2, I3, rv, q2⟩ => ⟨⟨ClX.pin_at I3, I3.kIn⟩, ?_⟩) hst hpl
  refine thn (wpAny_call (PySem.W.method_call (ClX.pin_at I3) (run_gC (us := .ref C :: us) (vs := .ref C :: vs) F hr I3.env0 hb hx I3 (.cons rfl rv) q2))) fun _ _ y => ClX.unpinE y
end
end LL

set_option linter.all false
set_option maxRecDepth 100000
/-! M75: sealed rows, as lists of signs. -/
namespace K75
open PySem
/-- the check of a record, from c on -/
def chkF (c : Nat) (l : List Nat) : Nat := l.foldl (fun c x => (31 * c + x) % 1000003) c
def chk (l : List Nat) : Nat := chkF 7 l
abbrev dg (n : Nat) : List Nat := TL.numL n
/-- a sealed row -/
def row (r : List Nat) : List Nat := dg r.length ++ 32 :: (dg (chk r) ++ 32 :: (r ++ [10]))
theorem dg32 (n : Nat) : 32 ∉ dg n := TL.numL_free (.inl (by decide))
theorem dg10 (n : Nat) : 10 ∉ dg n := TL.numL_free (.inl (by decide))
theorem dg_len : ∀ (n m : Nat), m ≤ n → (dg m).length ≤ (dg n).length := by
  intro n
  induction n using Nat.strongRecOn with
  | _ n ih =>
    intro m h
    by_cases hm : m < 10
    · rw [show dg m = _ from TL.numL_lt hm]
      exact List.length_pos_iff.mpr (TL.numL_ne n)
    · rw [show dg m = _ from TL.numL_step (by omega), show dg n = _ from TL.numL_step (by omega), List.length_append, List.length_append]
      have := ih (n / 10) (by omega) (m / 10) (by omega)
      show (dg (m / 10)).length + 1 ≤ (dg (n / 10)).length + 1
      omega
/-- what stands ahead of the first s is one's own -/
theorem cut_inj {s : Nat} : ∀ {a b x y : List Nat}, s ∉ a → s ∉ b → a ++ s :: x = b ++ s :: y → a = b ∧ x = y
  | [], [], _, _, _, _, h => ⟨rfl, (List.cons.inj h).2⟩
  | [], c :: b, _, _, _, hb, h => absurd (List.mem_cons.mpr (.inl (List.cons.inj h).1)) hb
  | c :: a, [], _, _, ha, _, h => absurd (List.mem_cons.mpr (.inl (List.cons.inj h).1.symm)) ha
  | c :: a, d :: b, x, y, ha, hb, h => by
    obtain ⟨h1, h2⟩ := List.cons.inj h
    obtain ⟨e1, e2⟩ := cut_inj (fun z => ha (List.mem_cons_of_mem _ z)) (fun z => hb (List.mem_cons_of_mem _ z)) h2
    exact ⟨by rw [h1, e1], e2⟩
/-! ### the check -/
theorem chkF_lt {c : Nat} (h : c < 1000003) : ∀ l : List Nat, chkF c l < 1000003
  | [] => h
  | x :: l => chkF_lt (c := (31 * c + x) % 1000003) (Nat.mod_lt _ (by decide)) l
theorem chkF_inj : ∀ (l : List Nat) {c d : Nat}, c < 1000003 → d < 1000003 → chkF c l = chkF d l → c = d
  | [], _, _, _, _, h => h
  | x :: l, c, d, hc, hd, h => by
    have e := chkF_inj l (c := (31 * c + x) % 1000003) (d := (31 * d + x) % 1000003) (Nat.mod_lt _ (by decide)) (Nat.mod_lt _ (by decide)) h
    omega
theorem chkF_set : ∀ (l : List Nat) (j s c : Nat), c < 1000003 → (h : j < l.length) → s < 1000003 → l[j] < 1000003 → chkF c (l.set j s) = chkF c l → s = l[j]
  | [], j, _, _, _, h, _, _, _ => absurd h (Nat.not_lt_zero j)
  | x :: l, 0, s, c, hc, _, hs, hx, e => by
    have e' : chkF ((31 * c + s) % 1000003) l = chkF ((31 * c + x) % 1000003) l := e
    have q := chkF_inj l (Nat.mod_lt _ (by decide)) (Nat.mod_lt _ (by decide)) e'
    have hx' : x < 1000003 := hx
    show s = x
    omega
  | x :: l, j + 1, s, c, hc, h, hs, hx, e => chkF_set l j s ((31 * c + x) % 1000003) (Nat.mod_lt _ (by decide)) (Nat.lt_of_succ_lt_succ h) hs hx e
/-! ### a row with another sign is none -/
theorem set_mem_not {l : List Nat} {j s t : Nat} (h : t ∉ l) (ne : s ≠ t) : t ∉ l.set j s := fun z => by
  rcases List.mem_or_eq_of_mem_set z with e | e
  · exact h e
  · exact ne e.symm
theorem set_eq_take {l : List Nat} {j s : Nat} (h : j < l.length) : l.set j s = l.take j ++ s :: l.drop (j + 1) := List.set_eq_take_append_cons_drop.trans (if_pos h)
theorem set_self_eq {l : List Nat} {j s : Nat} (h : j < l.length) (e : l.set j s = l) : s = l[j] := by
  have := List.getElem_set_self (l := l) (i := j) (a := s) (by simpa using h)
  simp only [e] at this
  exact this.symm
theorem no_row {rec r rest tail l1 : List Nat} {i s : Nat} (h10 : 10 ∉ rec) (hlt : ∀ c ∈ rec, c < 1000) (hs : s < 1000) (hi : i < (row rec).length) (hne : s ≠ (row rec)[i]) (h1 : 10 ∉ l1) (hp : (row rec).set i s ++ rest = l1 ++ 10 :: tail) (hr : row r = l1 ++ [10]) : False := by
  have el : l1 = dg r.length ++ 32 :: (dg (chk r) ++ 32 :: r) := by
    have e : l1 ++ [10] = (dg r.length ++ 32 :: (dg (chk r) ++ 32 :: r)) ++ [10] := by
      rw [← hr]
      unfold row
      simp
    exact (List.append_inj' e rfl).1
  have r10 : 10 ∉ r := fun z => h1 (by rw [el]; simp [z])
  have l32 : 32 ∈ l1 := by
    rw [el]
    simp
  have a32 := dg32 rec.length
  have b32 := dg32 (chk rec)
  have a10 := dg10 rec.length
  have b10 := dg10 (chk rec)
  have a32' := dg32 r.length
  have b32' := dg32 (chk r)
  have lenR : (dg r.length).length ≤ (dg rec.length).length ∨ rec.length < r.length := by
    by_cases c : r.length ≤ rec.length
    · exact .inl (dg_len _ _ c)
    · exact .inr (by omega)
  have lenM : rec.length ≤ r.length → (dg rec.length).length ≤ (dg r.length).length := fun c => dg_len _ _ c
  have injA : dg r.length = dg rec.length → r.length = rec.length := fun e => TL.numL_inj e
  have injB : dg (chk r) = dg (chk rec) → chk r = chk rec := fun e => TL.numL_inj e
  have hp2 : (row rec).set i s ++ rest = dg r.length ++ 32 :: (dg (chk r) ++ 32 :: (r ++ 10 :: tail)) := by
    rw [hp, el]
    simp
  unfold row at hp hp2 hi hne
  generalize eA : dg rec.length = A at *
  generalize eB : dg (chk rec) = B at *
  generalize eA' : dg r.length = A' at *
  generalize eB' : dg (chk r) = B' at *
  have ne' : (A ++ 32 :: (B ++ 32 :: (rec ++ [10])))[i]? = some ((A ++ 32 :: (B ++ 32 :: (rec ++ [10])))[i]) := List.getElem?_eq_getElem hi
  by_cases c1 : i < A.length
  · -- in the length
    have lhs : (A ++ 32 :: (B ++ 32 :: (rec ++ [10]))).set i s = A.set i s ++ 32 :: (B ++ 32 :: (rec ++ [10])) := by rw [List.set_append, if_pos c1]
    rw [lhs] at hp hp2
    have hA : s ≠ A[i] := fun z => hne (by rw [List.getElem_append_left c1]; exact z)
    by_cases z10 : s = 10
    · subst z10
      rw [set_eq_take c1] at hp
      have e : A.take i ++ 10 :: (A.drop (i + 1) ++ 32 :: (B ++ 32 :: (rec ++ [10])) ++ rest) = l1 ++ 10 :: tail := by
        rw [← hp]
        simp
      obtain ⟨e1, _⟩ := cut_inj (fun z => a10 (List.mem_of_mem_take z)) h1 e
      exact a32 (List.mem_of_mem_take (e1 ▸ l32))
    by_cases z32 : s = 32
    · subst z32
      rw [set_eq_take c1] at hp2
      have e : A.take i ++ 32 :: (A.drop (i + 1) ++ 32 :: (B ++ 32 :: (rec ++ 10 :: rest))) = A' ++ 32 :: (B' ++ 32 :: (r ++ 10 :: tail)) := by
        rw [← hp2]
        simp
      obtain ⟨e1, e2⟩ := cut_inj (fun z => a32 (List.mem_of_mem_take z)) a32' e
      obtain ⟨_, e3⟩ := cut_inj (fun z => a32 (List.mem_of_mem_drop z)) b32' e2
      have e4 : (B ++ 32 :: rec) ++ 10 :: rest = r ++ 10 :: tail := by
        rw [← e3]
        simp
      obtain ⟨e5, _⟩ := cut_inj (by simp [b10, h10]) r10 e4
      have lr : r.length = B.length + 1 + rec.length := by
        rw [← e5, List.length_append, List.length_cons]
        omega
      have := lenM (by omega)
      have l2 := congrArg List.length e1
      rw [List.length_take] at l2
      omega
    · have e : A.set i s ++ 32 :: (B ++ 32 :: (rec ++ 10 :: rest)) = A' ++ 32 :: (B' ++ 32 :: (r ++ 10 :: tail)) := by
        rw [← hp2]
        simp
      obtain ⟨e1, e2⟩ := cut_inj (set_mem_not a32 z32) a32' e
      obtain ⟨_, e3⟩ := cut_inj b32 b32' e2
      obtain ⟨e4, _⟩ := cut_inj h10 r10 e3
      subst e4
      rw [eA] at eA'
      rw [← eA'] at e1
      exact hA (set_self_eq c1 e1)
  by_cases c2 : i = A.length
  · subst c2
    have hs32 : s ≠ 32 := fun z => hne (by simp [z])
    have lhs : (A ++ 32 :: (B ++ 32 :: (rec ++ [10]))).set A.length s = A ++ s :: (B ++ 32 :: (rec ++ [10])) := by
      rw [List.set_append, if_neg (by omega), Nat.sub_self]
      rfl
    rw [lhs] at hp hp2
    by_cases z10 : s = 10
    · subst z10
      have e : A ++ 10 :: (B ++ 32 :: (rec ++ [10]) ++ rest) = l1 ++ 10 :: tail := by
        rw [← hp]
        simp
      obtain ⟨e1, _⟩ := cut_inj a10 h1 e
      exact a32 (e1 ▸ l32)
    · have e : (A ++ s :: B) ++ 32 :: (rec ++ 10 :: rest) = A' ++ 32 :: (B' ++ 32 :: (r ++ 10 :: tail)) := by
        rw [← hp2]
        simp
      obtain ⟨e1, e2⟩ := cut_inj (by simp [a32, b32, Ne.symm hs32]) a32' e
      have e3 : rec ++ 10 :: rest = (B' ++ 32 :: r) ++ 10 :: tail := by
        rw [e2]
        simp
      have b10' : 10 ∉ B' := eB' ▸ dg10 _
      obtain ⟨e4, _⟩ := cut_inj h10 (by simp [b10', r10]) e3
      have l2 := congrArg List.length e1
      have l3 := congrArg List.length e4
      rw [List.length_append, List.length_cons] at l2 l3
      omega
  -- behind the first blank
  have lhs1 : (A ++ 32 :: (B ++ 32 :: (rec ++ [10]))).set i s = A ++ 32 :: (B ++ 32 :: (rec ++ [10])).set (i - A.length - 1) s := by
    rw [List.set_append, if_neg (by omega)]
    obtain ⟨k, hk⟩ : ∃ k, i - A.length = k + 1 := ⟨i - A.length - 1, by omega⟩
    rw [hk]
    rfl
  generalize hj : i - A.length - 1 = j at lhs1
  have hij : i = A.length + 1 + j := by omega
  have hne2 : (B ++ 32 :: (rec ++ [10]))[j]? ≠ some s := fun z => by
    apply hne
    have q : (A ++ 32 :: (B ++ 32 :: (rec ++ [10])))[i]? = some s := by
      rw [hij, List.getElem?_append_right (by omega), show A.length + 1 + j - A.length = j + 1 by omega, List.getElem?_cons_succ]
      exact z
    rw [ne'] at q
    exact (Option.some.inj q).symm
  rw [lhs1] at hp2
  have e0 : A ++ 32 :: ((B ++ 32 :: (rec ++ [10])).set j s ++ rest) = A' ++ 32 :: (B' ++ 32 :: (r ++ 10 :: tail)) := by
    rw [← hp2]
    simp
  obtain ⟨eAA, e0⟩ := cut_inj a32 a32' e0
  have lrr : r.length = rec.length := injA eAA.symm
  by_cases c3 : j < B.length
  · have lhs : (B ++ 32 :: (rec ++ [10])).set j s = B.set j s ++ 32 :: (rec ++ [10]) := by rw [List.set_append, if_pos c3]
    rw [lhs] at e0
    have hB : s ≠ B[j] := fun z => hne2 (by rw [List.getElem?_append_left c3, List.getElem?_eq_getElem c3, z])
    by_cases z10 : s = 10
    · subst z10
      rw [set_eq_take c3] at e0
      have b10' : 10 ∉ B' := eB' ▸ dg10 _
      have e : B.take j ++ 10 :: (B.drop (j + 1) ++ 32 :: (rec ++ [10]) ++ rest) = (B' ++ 32 :: r) ++ 10 :: tail := by
        rw [show (B' ++ 32 :: r) ++ 10 :: tail = B' ++ 32 :: (r ++ 10 :: tail) by simp, ← e0]
        simp
      obtain ⟨e1, _⟩ := cut_inj (fun z => b10 (List.mem_of_mem_take z)) (by simp [b10', r10]) e
      exact b32 (List.mem_of_mem_take (i := j) (by rw [e1]; simp))
    by_cases z32 : s = 32
    · subst z32
      rw [set_eq_take c3] at e0
      have e : B.take j ++ 32 :: (B.drop (j + 1) ++ 32 :: (rec ++ 10 :: rest)) = B' ++ 32 :: (r ++ 10 :: tail) := by
        rw [← e0]
        simp
      obtain ⟨_, e2⟩ := cut_inj (fun z => b32 (List.mem_of_mem_take z)) b32' e
      have e3 : (B.drop (j + 1) ++ 32 :: rec) ++ 10 :: rest = r ++ 10 :: tail := by
        rw [← e2]
        simp
      obtain ⟨e4, _⟩ := cut_inj (by simp only [List.mem_append, List.mem_cons, not_or]; exact ⟨fun z => b10 (List.mem_of_mem_drop z), by decide, h10⟩) r10 e3
      have l3 := congrArg List.length e4
      rw [List.length_append, List.length_cons] at l3
      omega
    · have e : B.set j s ++ 32 :: (rec ++ 10 :: rest) = B' ++ 32 :: (r ++ 10 :: tail) := by
        rw [← e0]
        simp
      obtain ⟨e1, e2⟩ := cut_inj (set_mem_not b32 z32) b32' e
      obtain ⟨e3, _⟩ := cut_inj h10 r10 e2
      subst e3
      rw [eB] at eB'
      rw [← eB'] at e1
      exact hB (set_self_eq c3 e1)
  by_cases c4 : j = B.length
  · subst c4
    have hs32 : s ≠ 32 := fun z => hne2 (by simp [z])
    have lhs : (B ++ 32 :: (rec ++ [10])).set B.length s = B ++ s :: (rec ++ [10]) := by
      rw [List.set_append, if_neg (by omega), Nat.sub_self]
      rfl
    rw [lhs] at e0
    have b10' : 10 ∉ B' := eB' ▸ dg10 _
    by_cases z10 : s = 10
    · subst z10
      have e : B ++ 10 :: (rec ++ [10] ++ rest) = (B' ++ 32 :: r) ++ 10 :: tail := by
        rw [show (B' ++ 32 :: r) ++ 10 :: tail = B' ++ 32 :: (r ++ 10 :: tail) by simp, ← e0]
        simp
      obtain ⟨e1, _⟩ := cut_inj b10 (by simp [b10', r10]) e
      exact b32 (by rw [e1]; simp)
    · have e : (B ++ s :: rec) ++ 10 :: rest = (B' ++ 32 :: r) ++ 10 :: tail := by
        rw [show (B' ++ 32 :: r) ++ 10 :: tail = B' ++ 32 :: (r ++ 10 :: tail) by simp, ← e0]
        simp
      obtain ⟨e1, _⟩ := cut_inj (by simp [b10, h10, Ne.symm z10]) (by simp [b10', r10]) e
      have l3 := congrArg List.length e1
      rw [List.length_append, List.length_append, List.length_cons, List.length_cons] at l3
      obtain ⟨_, e3⟩ := List.append_inj e1 (by omega)
      exact hs32 (List.cons.inj e3).1
  -- behind the second blank
  have lhs2 : (B ++ 32 :: (rec ++ [10])).set j s = B ++ 32 :: (rec ++ [10]).set (j - B.length - 1) s := by
    rw [List.set_append, if_neg (by omega)]
    obtain ⟨k, hk⟩ : ∃ k, j - B.length = k + 1 := ⟨j - B.length - 1, by omega⟩
    rw [hk]
    rfl
  generalize hm : j - B.length - 1 = m at lhs2
  have hjm : j = B.length + 1 + m := by omega
  have hne3 : (rec ++ [10])[m]? ≠ some s := fun z => hne2 (by
    rw [hjm, List.getElem?_append_right (by omega), show B.length + 1 + m - B.length = m + 1 by omega, List.getElem?_cons_succ]
    exact z)
  rw [lhs2] at e0
  have e1 : B ++ 32 :: ((rec ++ [10]).set m s ++ rest) = B' ++ 32 :: (r ++ 10 :: tail) := by
    rw [← e0]
    simp
  obtain ⟨eBB, e1⟩ := cut_inj b32 b32' e1
  have cc := injB eBB.symm
  by_cases c5 : m < rec.length
  · rw [List.set_append, if_pos c5] at e1
    have hR : s ≠ rec[m] := fun z => hne3 (by rw [List.getElem?_append_left c5, List.getElem?_eq_getElem c5, z])
    by_cases z10 : s = 10
    · subst z10
      rw [set_eq_take c5] at e1
      have e : rec.take m ++ 10 :: (rec.drop (m + 1) ++ [10] ++ rest) = r ++ 10 :: tail := by
        rw [← e1]
        simp
      obtain ⟨e2, _⟩ := cut_inj (fun z => h10 (List.mem_of_mem_take z)) r10 e
      have l2 := congrArg List.length e2
      rw [List.length_take] at l2
      omega
    · have e : rec.set m s ++ 10 :: rest = r ++ 10 :: tail := by
        rw [← e1]
        simp
      obtain ⟨e2, _⟩ := cut_inj (set_mem_not h10 z10) r10 e
      subst e2
      exact hR (chkF_set rec m s 7 (by decide) c5 (by omega) (by have := hlt _ (List.getElem_mem c5); omega) cc)
  · have hm2 : m = rec.length := by
      have hl : i < (A ++ 32 :: (B ++ 32 :: (rec ++ [10]))).length := hi
      simp only [List.length_append, List.length_cons, List.length_nil] at hl
      omega
    subst hm2
    have hs10 : s ≠ 10 := fun z => hne3 (by simp [z])
    have lhs3 : (rec ++ [10]).set rec.length s = rec ++ [s] := by
      rw [List.set_append, if_neg (by omega), Nat.sub_self]
      rfl
    rw [lhs3] at e1
    have e : rec ++ s :: rest = r ++ 10 :: tail := by
      rw [← e1]
      simp
    obtain ⟨_, e3⟩ := List.append_inj e lrr.symm
    exact hs10 (List.cons.inj e3).1
end K75

set_option linter.all false
set_option maxRecDepth 100000
/-! M75b: lines, whole records; what split, index and partition tell of them. -/
namespace K75
open PySem PySem.StrLaws PySem.Builtin.Str
/-- behind the first blank -/
def aft : List Nat → List Nat
  | [] => []
  | c :: r => if c = 32 then r else aft r
theorem aft_app : ∀ {a x : List Nat}, 32 ∉ a → aft (a ++ 32 :: x) = x
  | [], _, _ => if_pos rfl
  | c :: a, x, h => by
    show (if c = 32 then a ++ 32 :: x else aft (a ++ 32 :: x)) = x
    rw [if_neg (fun z => h (List.mem_cons.mpr (.inl z.symm)))]
    exact aft_app fun z => h (List.mem_cons_of_mem _ z)
theorem aft_no : ∀ {a : List Nat}, 32 ∉ a → aft a = []
  | [], _ => rfl
  | c :: a, h => by
    show (if c = 32 then a else aft a) = []
    rw [if_neg (fun z => h (List.mem_cons.mpr (.inl z.symm)))]
    exact aft_no fun z => h (List.mem_cons_of_mem _ z)
def cand (l : List Nat) : List Nat := aft (aft l)
theorem row_line {r l : List Nat} (h : row r = l ++ [10]) : l = dg r.length ++ 32 :: (dg (chk r) ++ 32 :: r) := by
  have e : l ++ [10] = (dg r.length ++ 32 :: (dg (chk r) ++ 32 :: r)) ++ [10] := by
    rw [← h]
    unfold row
    simp
  exact (List.append_inj' e rfl).1
theorem cand_row {r l : List Nat} (h : row r = l ++ [10]) : cand l = r := by
  rw [row_line h]
  unfold cand
  rw [aft_app (dg32 _), aft_app (dg32 _)]
/-- the record in a line -/
def rin (l : List Nat) : Option (List Nat) := if row (cand l) = l ++ [10] then some (cand l) else none
theorem rin_some {r l : List Nat} (h : row r = l ++ [10]) : rin l = some r := by
  unfold rin
  rw [cand_row h, if_pos h]
theorem rin_none {l : List Nat} (h : ∀ r, row r ≠ l ++ [10]) : rin l = none := if_neg (h _)
theorem rin_of {r l : List Nat} (h : rin l = some r) : row r = l ++ [10] := by
  unfold rin at h
  split at h
  · rename_i c
    cases h
    exact c
  · cases h
/-- a line of fewer than two blanks holds none -/
theorem rin_few {l : List Nat} (h : 32 ∉ aft l ∨ 32 ∉ l) : rin l = none := by
  refine rin_none fun r e => ?_
  have el := row_line e
  rcases h with h | h
  · apply h
    rw [el, aft_app (dg32 _)]
    simp
  · apply h
    rw [el]
    simp
/-! ### lines -/
def lin (t : List Nat) : List (List Nat) := TL.spl [10] 0 [] t
theorem lin_app {l t : List Nat} (h : 10 ∉ l) : lin (l ++ 10 :: t) = l :: lin t := by
  have := TL.spl_part1 (s := 10) (S := []) (p := l) (rest := t) (acc := []) h
  simpa [lin] using this
theorem lin_one {l : List Nat} (h : 10 ∉ l) : lin l = [l] := by
  have := TL.spl_last1 (s := 10) (S := []) (p := l) (acc := []) h
  simpa [lin] using this
/-- a text is cut at its first s, or has none -/
theorem cut_cases (s : Nat) (t : List Nat) : s ∉ t ∨ ∃ l r, s ∉ l ∧ t = l ++ s :: r := by
  induction t with
  | nil => exact .inl (by simp)
  | cons c t ih =>
    by_cases h : c = s
    · exact .inr ⟨[], t, by simp, by rw [h]; rfl⟩
    · rcases ih with ih | ⟨l, r, hl, rfl⟩
      · exact .inl (by simp [ih, Ne.symm h])
      · exact .inr ⟨c :: l, r, by simp [hl, Ne.symm h], rfl⟩
theorem line_cases (t : List Nat) : 10 ∉ t ∨ ∃ l r, 10 ∉ l ∧ t = l ++ 10 :: r := cut_cases 10 t
theorem lin_ne (t : List Nat) : lin t ≠ [] := by
  rcases line_cases t with h | ⟨l, r, hl, rfl⟩
  · rw [lin_one h]
    simp
  · rw [lin_app hl]
    simp
def wh : List (List Nat) → List (List Nat)
  | [] => []
  | l :: ls => match rin l with
    | some r => r :: wh ls
    | none => []
/-- the whole records of a text -/
def whole (t : List Nat) : List (List Nat) := wh (lin t).dropLast
theorem whole_no {t : List Nat} (h : 10 ∉ t) : whole t = [] := by
  unfold whole
  rw [lin_one h]
  rfl
theorem whole_line {l t : List Nat} (h : 10 ∉ l) : whole (l ++ 10 :: t) = match rin l with | some r => r :: whole t | none => [] := by
  unfold whole
  rw [lin_app h]
  obtain ⟨a, as, e⟩ : ∃ a as, lin t = a :: as := by
    cases q : lin t with
    | nil => exact absurd q (lin_ne t)
    | cons a as => exact ⟨a, as, rfl⟩
  rw [e]
  rfl
theorem row_split (r : List Nat) (t : List Nat) : row r ++ t = (dg r.length ++ 32 :: (dg (chk r) ++ 32 :: r)) ++ 10 :: t := by
  unfold row
  simp
theorem row_no {r : List Nat} (h : 10 ∉ r) : 10 ∉ dg r.length ++ 32 :: (dg (chk r) ++ 32 :: r) := by
  simp [dg10, h]
theorem whole_row {r : List Nat} (h : 10 ∉ r) (t : List Nat) : whole (row r ++ t) = r :: whole t := by
  rw [row_split, whole_line (row_no h)]
  have e : rin (dg r.length ++ 32 :: (dg (chk r) ++ 32 :: r)) = some r := rin_some (by unfold row; simp)
  rw [e]
theorem whole_rows : ∀ {rs : List (List Nat)}, (∀ r ∈ rs, 10 ∉ r) → ∀ t, whole (rs.flatMap row ++ t) = rs ++ whole t
  | [], _, t => rfl
  | r :: rs, h, t => by
    rw [List.flatMap_cons, List.append_assoc, whole_row (h r (List.mem_cons_self ..)), whole_rows (fun x hx => h x (List.mem_cons_of_mem _ hx))]
    rfl
theorem whole_all {rs : List (List Nat)} (h : ∀ r ∈ rs, 10 ∉ r) : whole (rs.flatMap row) = rs := by
  have := whole_rows h []
  have e : whole [] = [] := whole_no (by simp)
  rw [List.append_nil, e, List.append_nil] at this
  exact this
/-- a beginning of the rows -/
theorem whole_take : ∀ {rs : List (List Nat)}, (∀ r ∈ rs, 10 ∉ r) → ∀ k, ∃ j, whole ((rs.flatMap row).take k) = rs.take j
  | [], _, k => ⟨0, by simp [whole_no]⟩
  | r :: rs, h, k => by
    rw [List.flatMap_cons]
    by_cases c : k < (row r).length
    · refine ⟨0, ?_⟩
      rw [List.take_append_of_le_length (by omega)]
      refine whole_no fun z => ?_
      have e : row r = (dg r.length ++ 32 :: (dg (chk r) ++ 32 :: r)) ++ [10] := by
        have := row_split r []
        rwa [List.append_nil] at this
      rw [e] at c z
      rw [List.length_append] at c
      have c2 : k ≤ (dg r.length ++ 32 :: (dg (chk r) ++ 32 :: r)).length := by
        have : ([10] : List Nat).length = 1 := rfl
        omega
      rw [List.take_append_of_le_length c2] at z
      exact row_no (h r (List.mem_cons_self ..)) (List.mem_of_mem_take z)
    · obtain ⟨j, e⟩ := whole_take (fun x hx => h x (List.mem_cons_of_mem _ hx)) (k - (row r).length)
      refine ⟨j + 1, ?_⟩
      rw [List.take_append, List.take_of_length_le (by omega), whole_row (h r (List.mem_cons_self ..)), e]
      rfl
/-- one sign exchanged -/
theorem whole_set {rec : List Nat} (h10 : 10 ∉ rec) (hlt : ∀ c ∈ rec, c < 1000) {i s : Nat} (hs : s < 1000) (hi : i < (row rec).length) (hne : s ≠ (row rec)[i]) (rest : List Nat) : whole ((row rec).set i s ++ rest) = [] := by
  rcases line_cases ((row rec).set i s ++ rest) with h | ⟨l, r, hl, e⟩
  · exact whole_no h
  · rw [e, whole_line hl, rin_none fun x hx => no_row h10 hlt hs hi hne hl e hx]
/-! ### texts -/
abbrev tl (x : Str) : List Nat := TL.tl x
/-- the text of these signs -/
def S (l : List Nat) : Str := ⟨l.toArray⟩
theorem tl_S (l : List Nat) : tl (S l) = l := rfl
theorem S_tl (x : Str) : S (tl x) = x := TL.mk_tl x
theorem tl_one (c : Nat) : tl ⟨#[c]⟩ = [c] := rfl
theorem split_lin (x : Str) : (Txt.split x ⟨#[10]⟩).map tl = lin (tl x) := TL.split_spl x ⟨#[10]⟩ (fun z => by cases (show ([10] : List Nat) = [] from z)) (TL.kind_ok (by decide +kernel))
theorem part_aft (x : Str) : tl (Txt.partition x ⟨#[32]⟩).2.2 = aft (tl x) := by
  rcases cut_cases 32 (tl x) with h | ⟨a, b, hn, e⟩
  · rw [TL.partition_none (s := 32) (S := []) rfl h, aft_no h]
    rfl
  · have ex : x = S a ++ ⟨#[32]⟩ ++ S b := TL.ext_tl (by rw [TL.tl_append, TL.tl_append, show TL.tl x = _ from e]; simp [S, TL.tl])
    have := TL.partition_app (y := ⟨#[32]⟩) (s := 32) (S := []) rfl (a := S a) (b := S b) (by simpa [S, TL.tl] using hn)
    rw [← ex] at this
    rw [this, e, aft_app hn]
    rfl
/-! ### occurrences of one sign, at most so many -/
theorem lim_run (s sub : Str) (hi limit lo : Nat) (hw : 1 ≤ sub.length) : ∀ (m cur : Nat) (st : Array Nat × Nat), ChainG s sub hi lo st.fst.toList st.snd → (st.fst.size < limit → ∀ k, st.snd ≤ k → k < cur → ¬ At s sub hi k) → st.fst.size ≤ limit →
    ChainG s sub hi lo (forIn (List.range' cur m) st (occBody s sub hi limit)).run.fst.toList (forIn (List.range' cur m) st (occBody s sub hi limit)).run.snd ∧ (forIn (List.range' cur m) st (occBody s sub hi limit)).run.fst.size ≤ limit ∧
    ((forIn (List.range' cur m) st (occBody s sub hi limit)).run.fst.size < limit → ∀ k, (forIn (List.range' cur m) st (occBody s sub hi limit)).run.snd ≤ k → k < cur + m → ¬ At s sub hi k)
  | 0, cur, st, h, hn, hl => ⟨h, hl, hn⟩
  | m + 1, cur, st, h, hn, hl => by
    rw [List.range'_succ, List.forIn_cons]
    unfold occBody
    rw [show cur + (m + 1) = (cur + 1) + m by omega]
    split
    · rename_i hc
      refine lim_run s sub hi limit lo hw m (cur + 1) _ ?_ ?_ ?_
      · show ChainG s sub hi lo (st.fst.push cur).toList (cur + sub.length)
        rw [Array.toList_push]
        exact chainG_snoc h hc.1.1.2 ⟨hc.1.2, hc.2⟩ (hn hc.1.1.1)
      · intro _ k h1 h2
        have h3 : cur + sub.length ≤ k := h1
        omega
      · show (st.fst.push cur).size ≤ limit
        rw [Array.size_push]
        exact hc.1.1.1
    · rename_i hc
      refine lim_run s sub hi limit lo hw m (cur + 1) _ h (fun hz k h1 h2 hA => ?_) hl
      by_cases hk : k < cur
      · exact hn hz k h1 hk hA
      · have ek : k = cur := by omega
        subst ek
        exact hc ⟨⟨⟨hz, h1⟩, hA.1⟩, hA.2⟩
theorem lim_tight (x y : Str) (limit : Nat) (hw : 1 ≤ y.length) : ∃ f, ChainG x y x.length 0 (occurrences x y 0 x.length limit) f ∧ (occurrences x y 0 x.length limit).length ≤ limit ∧ ((occurrences x y 0 x.length limit).length < limit → ∀ k, f ≤ k → ¬ At x y x.length k) := by
  rw [occ_eq]
  have key := lim_run x y x.length limit 0 hw (x.length + 1 - 0) 0 ((#[] : Array Nat), 0) rfl (fun _ k _ h => by omega) (by simp)
  refine ⟨_, key.1, key.2.1, fun hl k hk hA => ?_⟩
  exact key.2.2 hl k hk (by have := hA.1; omega) hA
theorem at_one {x : Str} {c i : Nat} : At x ⟨#[c]⟩ x.length i ↔ (tl x)[i]? = some c := subAt_one x c i
theorem free_take {l : List Nat} {c i : Nat} (h : ∀ k, k < i → l[k]? ≠ some c) : c ∉ l.take i := fun z => by
  obtain ⟨k, hk, e⟩ := List.mem_iff_getElem.mp z
  rw [List.length_take] at hk
  refine h k (by omega) ?_
  rw [List.getElem_take] at e
  rw [List.getElem?_eq_getElem (by omega), e]
/-- x.index(c) -/
theorem index_one {x : Str} {c : Nat} {l r : List Nat} (h : c ∉ l) (e : tl x = l ++ c :: r) : ∃ rest, occurrences x ⟨#[c]⟩ 0 x.length 1 = l.length :: rest := by
  obtain ⟨f, ch, len, no⟩ := lim_tight x ⟨#[c]⟩ 1 (Nat.le_refl 1)
  have hit : (tl x)[l.length]? = some c := by rw [e]; simp
  cases q : occurrences x ⟨#[c]⟩ 0 x.length 1 with
  | nil =>
    rw [q] at ch no
    have ef : f = 0 := ch
    exact absurd (at_one.mpr hit) (no (by decide) l.length (by omega))
  | cons i rest =>
    rw [q] at ch
    obtain ⟨_, h2, h3, _⟩ := ch
    refine ⟨rest, ?_⟩
    congr 1
    have h2 := at_one.mp h2
    rcases Nat.lt_trichotomy i l.length with z | z | z
    · rw [e, List.getElem?_append_left z] at h2
      exact absurd (List.mem_of_getElem? h2) h
    · exact z
    · exact absurd (at_one.mpr hit) (h3 l.length (by omega) z)
/-- x.split(' ', 2) -/
theorem split_two (x : Str) (hx : 1 ≤ x.length) : (∃ ws, Txt.splitMax x ⟨#[32]⟩ 2 = ws ∧ ws.length < 3 ∧ rin (tl x) = none) ∨ ∃ a b c, Txt.splitMax x ⟨#[32]⟩ 2 = [a, b, c] ∧ tl c = cand (tl x) := by
  have lx := TL.len_tl x
  obtain ⟨f, ch, len, no⟩ := lim_tight x ⟨#[32]⟩ 2 (by decide)
  have lim : Txt.splitMax x ⟨#[32]⟩ 2 = if (occurrences x ⟨#[32]⟩ 0 x.length 2).isEmpty = true then [x] else partsBetween x (occurrences x ⟨#[32]⟩ 0 x.length 2) 1 := by
    unfold Txt.splitMax
    have c1 : (decide (x.length < (⟨#[32]⟩ : Str).length) || decide (strKind x < strKind ⟨#[32]⟩)) = false := by
      rw [Bool.or_eq_false_iff]
      refine ⟨decide_eq_false (by show ¬ x.length < 1; omega), decide_eq_false (TL.kind_ok (by decide +kernel))⟩
    rw [if_neg (by rw [c1]; decide)]
    rfl
  cases q : occurrences x ⟨#[32]⟩ 0 x.length 2 with
  | nil =>
    rw [q] at ch no lim
    have ef : f = 0 := ch
    refine .inl ⟨_, lim, (by show 1 < 3; decide), rin_few (.inr fun z => ?_)⟩
    obtain ⟨k, hk, e⟩ := List.mem_iff_getElem.mp z
    exact no (by decide) k (by omega) (at_one.mpr (by rw [List.getElem?_eq_getElem hk, e]))
  | cons i rest =>
    rw [q] at ch no len lim
    obtain ⟨_, h2, h3, h4⟩ := ch
    have h2 := at_one.mp h2
    have hi := (List.getElem?_eq_some_iff.mp h2).1
    have e1 : tl x = (tl x).take i ++ 32 :: (tl x).drop (i + 1) := by
      have := List.drop_eq_getElem_cons hi
      rw [List.getElem?_eq_getElem hi] at h2
      rw [Option.some.inj h2] at this
      rw [← this, List.take_append_drop]
    have f1 : 32 ∉ (tl x).take i := free_take fun k hk z => h3 k (Nat.zero_le _) hk (at_one.mpr z)
    have a1 : aft (tl x) = (tl x).drop (i + 1) := by rw [e1, aft_app f1, ← e1]
    rw [partsBetween_eq] at lim
    cases rest with
    | nil =>
      have ef : f = i + 1 := h4
      refine .inl ⟨_, lim, (by show 2 < 3; decide), rin_few (.inl fun z => ?_)⟩
      rw [a1] at z
      obtain ⟨k, hk, e⟩ := List.mem_iff_getElem.mp z
      rw [List.getElem_drop] at e
      rw [List.length_drop] at hk
      exact no (by show 1 < 2; decide) (i + 1 + k) (by omega) (at_one.mpr (by rw [List.getElem?_eq_getElem (by omega), e]))
    | cons j rest =>
      cases rest with
      | cons k r =>
        simp at len
      | nil =>
        obtain ⟨g1, g2, g3, _⟩ := h4
        have g2 := at_one.mp g2
        have hj := (List.getElem?_eq_some_iff.mp g2).1
        have g1' : i + 1 ≤ j := g1
        refine .inr ⟨_, _, _, lim, ?_⟩
        rw [show tl (strSub x (j + 1) x.length) = _ from TL.tl_strSub_end x (j + 1)]
        unfold cand
        rw [a1]
        have e2 : (tl x).drop (i + 1) = ((tl x).drop (i + 1)).take (j - (i + 1)) ++ 32 :: (tl x).drop (j + 1) := by
          have d := List.drop_eq_getElem_cons hj
          rw [List.getElem?_eq_getElem hj] at g2
          rw [Option.some.inj g2] at d
          have dd : (tl x).drop j = ((tl x).drop (i + 1)).drop (j - (i + 1)) := by
            rw [List.drop_drop, show i + 1 + (j - (i + 1)) = j by omega]
          rw [← d, dd, List.take_append_drop]
        rw [e2, aft_app]
        refine free_take fun k hk z => ?_
        rw [List.getElem?_drop] at z
        exact g3 (i + 1 + k) (by show i + 1 ≤ _; omega) (by omega) (at_one.mpr z)
end K75

set_option Elab.async false
set_option linter.all false
set_option maxRecDepth 100000
set_option maxHeartbeats 2000000
/-! M77: journals, plain: entries, their records, rows, what a stop leaves, the order. -/
namespace JN
open PySem PySem.Spec PyProof.Rows L2 K75
structure En where
  pl : Nat
  prs : List (Nat × Nat)
  pay : Str
def num (n : Nat) : Str := Str.ofString (toString ((n : Nat) : Int))
def word (p : Nat × Nat) : Str := num p.1 ++ ⟨#[46]⟩ ++ num p.2
def names (ps : List (Nat × Nat)) : Str := if ps = [] then ⟨#[45]⟩ else Txt.join ⟨#[44]⟩ (ps.map word)
def recd (e : En) : Str := num e.pl ++ ⟨#[32]⟩ ++ names e.prs ++ ⟨#[32]⟩ ++ e.pay
def rowL (e : En) : List Nat := row (tl (recd e))
def rowsL (es : List En) : List Nat := es.flatMap rowL
def lex (p q : Nat × Nat) : Prop := p.1 < q.1 ∨ (p.1 = q.1 ∧ p.2 < q.2)
/-- an entry of a lane of n -/
structure OkE (n lane : Nat) (e : En) : Prop where
  pl : e.pl < 64
  ln : ∀ p ∈ e.prs, p.1 < n ∧ p.1 ≠ lane ∧ p.2 < 64
  up : e.prs.Pairwise lex
  few : e.prs.length ≤ 8
  free : 10 ∉ tl e.pay
  len : e.pay.length ≤ 100
  asc : ∀ c ∈ tl e.pay, c < 1000
theorem tl_app (x y : Str) : tl (x ++ y) = tl x ++ tl y := TL.tl_append x y
theorem tl_num (n : Nat) : tl (num n) = dg n := TL.tl_num n
theorem app_assoc (x y z : Str) : x ++ y ++ z = x ++ (y ++ z) := TL.ext_tl (by show tl _ = tl _; rw [tl_app, tl_app, tl_app, tl_app, List.append_assoc])
theorem num_free {s : Nat} (n : Nat) (h : s < 48 ∨ 57 < s) : s ∉ tl (num n) := by
  rw [tl_num]
  exact TL.numL_free h
theorem num_len {n k : Nat} (hk : 0 < k) (h : n < 10 ^ k) : (num n).length ≤ k := by
  rw [TL.len_tl, show TL.tl (num n) = dg n from tl_num n]
  exact TL.numL_len hk h
theorem word_tl (p : Nat × Nat) : tl (word p) = dg p.1 ++ (46 :: dg p.2) := by
  unfold word
  rw [tl_app, tl_app, tl_num, tl_num, tl_one, List.append_assoc]
  rfl
theorem word_free {s : Nat} (p : Nat × Nat) (h : s < 46 ∨ 57 < s) : s ∉ tl (word p) := by
  rw [word_tl]
  intro z
  rcases List.mem_append.mp z with z | z
  · exact TL.numL_free (by omega) z
  · rcases List.mem_cons.mp z with z | z
    · omega
    · exact TL.numL_free (by omega) z
theorem mem_join {x : Nat} {S : List Nat} : ∀ {ps : List (List Nat)}, x ∈ TL.joinL S ps → x ∈ S ∨ ∃ p ∈ ps, x ∈ p
  | [], h => by cases h
  | [p], h => .inr ⟨p, List.mem_cons_self .., h⟩
  | p :: q :: ps, h => by
    have h' : x ∈ p ++ (S ++ TL.joinL S (q :: ps)) := by simpa [TL.joinL] using h
    rcases List.mem_append.mp h' with z | z
    · exact .inr ⟨p, List.mem_cons_self .., z⟩
    · rcases List.mem_append.mp z with z | z
      · exact .inl z
      · rcases mem_join z with z | ⟨r, hr, z⟩
        · exact .inl z
        · exact .inr ⟨r, List.mem_cons_of_mem _ hr, z⟩
theorem names_tl {ps : List (Nat × Nat)} (h : ps ≠ []) : tl (names ps) = TL.joinL [44] (ps.map fun p => tl (word p)) := by
  unfold names
  rw [if_neg h, TL.join_eq]
  show TL.tl _ = _
  rw [TL.tl_join, List.map_map]
  rfl
theorem names_free {s : Nat} (ps : List (Nat × Nat)) (h : s < 44 ∨ 57 < s) : s ∉ tl (names ps) := by
  intro z
  by_cases e : ps = []
  · rw [names, if_pos e, tl_one] at z
    cases List.mem_singleton.mp z
    omega
  · rw [names_tl e] at z
    rcases mem_join z with z | ⟨r, hr, z⟩
    · cases List.mem_singleton.mp z
      omega
    · obtain ⟨p, _, rfl⟩ := List.mem_map.mp hr
      exact word_free p (by omega) z
theorem part_word (p : Nat × Nat) : Txt.partition (word p) ⟨#[46]⟩ = (num p.1, ⟨#[46]⟩, num p.2) := TL.partition_app (y := ⟨#[46]⟩) (s := 46) (S := []) rfl (num_free _ (by omega))
theorem part_rest (ps : List (Nat × Nat)) (z : Str) : Txt.partition (names ps ++ ⟨#[32]⟩ ++ z) ⟨#[32]⟩ = (names ps, ⟨#[32]⟩, z) := TL.partition_app (y := ⟨#[32]⟩) (s := 32) (S := []) rfl (names_free _ (by omega))
theorem part_rec (e : En) : Txt.partition (recd e) ⟨#[32]⟩ = (num e.pl, ⟨#[32]⟩, names e.prs ++ ⟨#[32]⟩ ++ e.pay) := by
  have q : recd e = num e.pl ++ ⟨#[32]⟩ ++ (names e.prs ++ ⟨#[32]⟩ ++ e.pay) := by
    unfold recd
    rw [app_assoc (num e.pl ++ ⟨#[32]⟩) (names e.prs) ⟨#[32]⟩, app_assoc (num e.pl ++ ⟨#[32]⟩)]
  rw [q]
  exact TL.partition_app (y := ⟨#[32]⟩) (s := 32) (S := []) rfl (num_free _ (by omega))
theorem split_names {ps : List (Nat × Nat)} (h : ps ≠ []) : Txt.split (names ps) ⟨#[44]⟩ = ps.map word := by
  unfold names
  rw [if_neg h]
  exact TL.split_join (y := ⟨#[44]⟩) (s := 44) (S := []) rfl (by decide +kernel) (fun z => h (List.map_eq_nil_iff.mp z)) fun p hp => by
    obtain ⟨q, _, rfl⟩ := List.mem_map.mp hp
    exact word_free q (by omega)
theorem dg_head : ∀ (n : Nat), ∃ c r, dg n = c :: r ∧ 48 ≤ c ∧ c ≤ 57 ∧ (n ≠ 0 → c ≠ 48) := by
  intro n
  induction n using Nat.strongRecOn with
  | _ n ih =>
    by_cases h : n < 10
    · exact ⟨48 + n, [], TL.numL_lt h, by omega, by omega, fun z => by omega⟩
    · obtain ⟨c, r, e, h1, h2, h3⟩ := ih (n / 10) (by omega)
      refine ⟨c, r ++ [48 + n % 10], ?_, h1, h2, fun _ => h3 (by omega)⟩
      rw [show dg n = _ from TL.numL_step (by omega), show TL.numL (n / 10) = c :: r from e]
      rfl
theorem names_dash {ps : List (Nat × Nat)} (h : ps ≠ []) : names ps ≠ ⟨#[45]⟩ := fun z => by
  have q := congrArg tl z
  rw [names_tl h, tl_one] at q
  match ps, h with
  | p :: ps, _ =>
    obtain ⟨c, r, e, h1, _⟩ := dg_head p.1
    have : ∃ r', TL.joinL [44] ((p :: ps).map fun p => tl (word p)) = c :: r' := by
      cases ps with
      | nil => exact ⟨r ++ (46 :: dg p.2), by show tl (word p) = _; rw [word_tl, e]; rfl⟩
      | cons p2 ps =>
        refine ⟨r ++ (46 :: dg p.2) ++ ([44] ++ TL.joinL [44] ((p2 :: ps).map fun p => tl (word p))), ?_⟩
        have : TL.joinL [44] ((p :: p2 :: ps).map fun p => tl (word p)) = tl (word p) ++ ([44] ++ TL.joinL [44] ((p2 :: ps).map fun p => tl (word p))) := by simp [TL.joinL]
        rw [this, word_tl, e]
        simp
    obtain ⟨r', e'⟩ := this
    rw [e'] at q
    cases q
    omega
theorem recd_free {n l : Nat} {e : En} (h : OkE n l e) : 10 ∉ tl (recd e) := by
  unfold recd
  rw [tl_app, tl_app, tl_app, tl_app]
  intro z
  rcases List.mem_append.mp z with z | z
  · rcases List.mem_append.mp z with z | z
    · rcases List.mem_append.mp z with z | z
      · rcases List.mem_append.mp z with z | z
        · exact num_free _ (by omega) z
        · rw [tl_one] at z
          cases List.mem_singleton.mp z
      · exact names_free _ (by omega) z
    · rw [tl_one] at z
      cases List.mem_singleton.mp z
  · exact h.free z
/-! ### lengths -/
theorem join_len {S : List Nat} {m : Nat} : ∀ (ps : List (List Nat)), (∀ p ∈ ps, p.length ≤ m) → (TL.joinL S ps).length ≤ ps.length * (m + S.length)
  | [], _ => Nat.zero_le _
  | [p], h => by
    have := h p (List.mem_cons_self ..)
    show p.length ≤ 1 * _
    omega
  | p :: q :: ps, h => by
    have h1 := h p (List.mem_cons_self ..)
    have h2 := join_len (S := S) (q :: ps) fun r hr => h r (List.mem_cons_of_mem _ hr)
    have : TL.joinL S (p :: q :: ps) = p ++ (S ++ TL.joinL S (q :: ps)) := by simp [TL.joinL]
    rw [this, List.length_append, List.length_append, List.length_cons (as := q :: ps), Nat.succ_mul]
    omega
theorem word_len {p : Nat × Nat} (h1 : p.1 < 8) (h2 : p.2 < 64) : (tl (word p)).length ≤ 4 := by
  rw [word_tl, List.length_append, List.length_cons]
  have a : (dg p.1).length ≤ 1 := TL.numL_len (by decide) (by omega)
  have b : (dg p.2).length ≤ 2 := TL.numL_len (by decide) (by omega)
  omega
theorem names_len {n l : Nat} {e : En} (hn : n ≤ 8) (h : OkE n l e) : (tl (names e.prs)).length ≤ 40 := by
  by_cases q : e.prs = []
  · rw [q]
    decide
  · rw [names_tl q]
    have := join_len (S := [44]) (m := 4) (e.prs.map fun p => tl (word p)) fun r hr => by
      obtain ⟨p, hp, rfl⟩ := List.mem_map.mp hr
      obtain ⟨a, _, b⟩ := h.ln p hp
      exact word_len (by omega) b
    have f := h.few
    rw [List.length_map] at this
    simp only [List.length_singleton] at this
    omega
theorem recd_len {n l : Nat} {e : En} (hn : n ≤ 8) (h : OkE n l e) : (tl (recd e)).length ≤ 144 := by
  unfold recd
  rw [tl_app, tl_app, tl_app, tl_app]
  simp only [List.length_append, tl_num]
  have a : (dg e.pl).length ≤ 2 := TL.numL_len (by decide) (by have := h.pl; omega)
  have b := names_len hn h
  have c : (tl e.pay).length ≤ 100 := by rw [← show e.pay.length = (tl e.pay).length from TL.len_tl _]; exact h.len
  have d : (tl (⟨#[32]⟩ : Str)).length = 1 := rfl
  omega
theorem row_len {n l : Nat} {e : En} (hn : n ≤ 8) (h : OkE n l e) : (rowL e).length ≤ 160 := by
  have a := recd_len hn h
  unfold rowL row
  have b : (dg (tl (recd e)).length).length ≤ 3 := TL.numL_len (by decide) (by omega)
  have c : (dg (chk (tl (recd e)))).length ≤ 7 := TL.numL_len (by decide) (by have := chkF_lt (c := 7) (by decide) (tl (recd e)); unfold chk; omega)
  simp only [List.length_append, List.length_cons, List.length_nil]
  omega
theorem rows_len {n l : Nat} (hn : n ≤ 8) : ∀ {es : List En}, (∀ e ∈ es, OkE n l e) → (rowsL es).length ≤ es.length * 160
  | [], _ => Nat.zero_le _
  | e :: es, h => by
    have a := row_len hn (h e (List.mem_cons_self ..))
    have b := rows_len hn (es := es) fun x hx => h x (List.mem_cons_of_mem _ hx)
    show (rowL e ++ rowsL es).length ≤ _
    rw [List.length_append, List.length_cons, Nat.succ_mul]
    omega
theorem dg_lt {n c : Nat} (h : c ∈ dg n) : c < 1000 := by
  have := TL.numL_digits n c h
  have h2 : 48 ≤ c ∧ c ≤ 57 := this
  omega
theorem names_lt {ps : List (Nat × Nat)} {c : Nat} (h : c ∈ tl (names ps)) : c < 1000 := by
  by_cases e : ps = []
  · rw [names, if_pos e, tl_one] at h
    cases List.mem_singleton.mp h
    decide
  · rw [names_tl e] at h
    rcases mem_join h with z | ⟨r, hr, z⟩
    · cases List.mem_singleton.mp z
      decide
    · obtain ⟨p, _, rfl⟩ := List.mem_map.mp hr
      rw [word_tl] at z
      rcases List.mem_append.mp z with z | z
      · exact dg_lt z
      · rcases List.mem_cons.mp z with rfl | z
        · decide
        · exact dg_lt z
theorem recd_lt {n l : Nat} {e : En} (h : OkE n l e) {c : Nat} (hc : c ∈ tl (recd e)) : c < 1000 := by
  unfold recd at hc
  rw [tl_app, tl_app, tl_app, tl_app] at hc
  rcases List.mem_append.mp hc with z | z
  · rcases List.mem_append.mp z with z | z
    · rcases List.mem_append.mp z with z | z
      · rcases List.mem_append.mp z with z | z
        · rw [tl_num] at z
          exact dg_lt z
        · rw [tl_one] at z
          cases List.mem_singleton.mp z
          decide
      · exact names_lt z
    · rw [tl_one] at z
      cases List.mem_singleton.mp z
      decide
  · exact h.asc c z
theorem row_lt {n l : Nat} {e : En} (h : OkE n l e) {c : Nat} (hc : c ∈ rowL e) : c < 1000 := by
  unfold rowL row at hc
  rcases List.mem_append.mp hc with z | z
  · exact dg_lt z
  · rcases List.mem_cons.mp z with rfl | z
    · decide
    · rcases List.mem_append.mp z with z | z
      · exact dg_lt z
      · rcases List.mem_cons.mp z with rfl | z
        · decide
        · rcases List.mem_append.mp z with z | z
          · exact recd_lt h z
          · cases List.mem_singleton.mp z
            decide
theorem rows_lt {n l : Nat} {es : List En} (h : ∀ e ∈ es, OkE n l e) {c : Nat} (hc : c ∈ rowsL es) : c < 1000 := by
  obtain ⟨e, he, hc⟩ := List.mem_flatMap.mp hc
  exact row_lt (h e he) hc
/-! ### what is whole -/
theorem rows_map (es : List En) : rowsL es = (es.map fun e => tl (recd e)).flatMap row := by
  unfold rowsL
  rw [List.flatMap_map]
  rfl
theorem whole_es {n l : Nat} {es : List En} (h : ∀ e ∈ es, OkE n l e) {t : List Nat} (ht : 10 ∉ t) : whole (rowsL es ++ t) = es.map fun e => tl (recd e) := by
  rw [rows_map, whole_rows (fun r hr => ?_), whole_no ht, List.append_nil]
  obtain ⟨e, he, rfl⟩ := List.mem_map.mp hr
  exact recd_free (h e he)
theorem row_end (r : List Nat) : row r = (dg r.length ++ 32 :: (dg (chk r) ++ 32 :: r)) ++ [10] := by
  have := row_split r []
  simpa using this
theorem row_pre {n l : Nat} {e : En} (h : OkE n l e) {k : Nat} (hk : k < (rowL e).length) : 10 ∉ (rowL e).take k := by
  have q := row_no (recd_free h)
  unfold rowL at hk ⊢
  rw [row_end] at hk ⊢
  generalize dg (tl (recd e)).length ++ 32 :: (dg (chk (tl (recd e))) ++ 32 :: tl (recd e)) = x at *
  rw [List.length_append, List.length_singleton] at hk
  rw [List.take_append_of_le_length (by omega)]
  exact fun z => q (List.mem_of_mem_take z)
/-! ### a stop -/
def kept : List En → Nat → List En
  | [], _ => []
  | e :: es, n => if (rowL e).length ≤ n then e :: kept es (n - (rowL e).length) else []
theorem kept_pre : ∀ (es : List En) (n : Nat), ∃ k, k ≤ es.length ∧ kept es n = es.take k
  | [], _ => ⟨0, Nat.le_refl _, rfl⟩
  | e :: es, n => by
    unfold kept
    split
    · obtain ⟨k, h1, h2⟩ := kept_pre es (n - (rowL e).length)
      exact ⟨k + 1, by rw [List.length_cons]; omega, by rw [h2]; rfl⟩
    · exact ⟨0, Nat.zero_le _, rfl⟩
theorem kept_len (es : List En) (n : Nat) : (kept es n).length ≤ es.length := by
  obtain ⟨k, h1, h2⟩ := kept_pre es n
  rw [h2, List.length_take]
  omega
theorem kept_snoc (e : En) : ∀ (es : List En) (n : Nat), kept (es ++ [e]) n = kept es n ++ if (rowsL es).length + (rowL e).length ≤ n then [e] else []
  | [], n => by
    show (if (rowL e).length ≤ n then e :: kept [] (n - (rowL e).length) else []) = [] ++ if 0 + (rowL e).length ≤ n then [e] else []
    rw [Nat.zero_add]
    rfl
  | x :: es, n => by
    have ih := kept_snoc e es (n - (rowL x).length)
    show (if (rowL x).length ≤ n then x :: kept (es ++ [e]) (n - (rowL x).length) else []) = (if (rowL x).length ≤ n then x :: kept es (n - (rowL x).length) else []) ++ if (rowL x ++ rowsL es).length + (rowL e).length ≤ n then [e] else []
    rw [List.length_append]
    by_cases h : (rowL x).length ≤ n
    · rw [if_pos h, if_pos h, ih, List.cons_append]
      by_cases q : (rowsL es).length + (rowL e).length ≤ n - (rowL x).length
      · rw [if_pos q, if_pos (by omega)]
      · rw [if_neg q, if_neg (by omega)]
    · rw [if_neg h, if_neg h, if_neg (by omega)]
      rfl
/-- what is left behind the whole rows -/
theorem kept_take {n l : Nat} : ∀ {es : List En}, (∀ e ∈ es, OkE n l e) → n ≤ 8 → ∀ {t : List Nat}, 10 ∉ t → t.length ≤ 160 → ∀ k, ∃ t', (rowsL es ++ t).take k = rowsL (kept es k) ++ t' ∧ 10 ∉ t' ∧ t'.length ≤ 160
  | [], _, _, t, ht, hl, k => ⟨t.take k, rfl, fun z => ht (List.mem_of_mem_take z), by rw [List.length_take]; omega⟩
  | e :: es, h, hn, t, ht, hl, k => by
    show ∃ t', ((rowL e ++ rowsL es) ++ t).take k = rowsL (if (rowL e).length ≤ k then e :: kept es (k - (rowL e).length) else []) ++ t' ∧ _
    by_cases q : (rowL e).length ≤ k
    · obtain ⟨t', h1, h2, h3⟩ := kept_take (es := es) (fun x hx => h x (List.mem_cons_of_mem _ hx)) hn ht hl (k - (rowL e).length)
      refine ⟨t', ?_, h2, h3⟩
      rw [if_pos q, List.append_assoc, List.take_append, List.take_of_length_le q, h1, ← List.append_assoc]
      rfl
    · have he := h e (List.mem_cons_self ..)
      refine ⟨(rowL e).take k, ?_, row_pre he (by omega), ?_⟩
      · rw [if_neg q, List.append_assoc, List.take_append_of_le_length (by omega)]
        rfl
      · have := row_len hn he
        rw [List.length_take]
        omega
theorem kept_all : ∀ (es : List En) {k : Nat}, (rowsL es).length ≤ k → kept es k = es
  | [], _, _ => rfl
  | e :: es, k, h => by
    have h' : (rowL e ++ rowsL es).length ≤ k := h
    rw [List.length_append] at h'
    show (if (rowL e).length ≤ k then e :: kept es (k - (rowL e).length) else []) = _
    rw [if_pos (by omega), kept_all es (by omega)]
end JN

set_option Elab.async false
set_option linter.all false
set_option maxRecDepth 100000
set_option maxHeartbeats 2000000
/-! M77b: sorted pairs, the journal, what a stop leaves, the recovered order. -/
namespace JN
open PySem PySem.Spec PyProof.Rows L2 K75
/-! ### sorted pairs -/
theorem lex_trans {p q r : Nat × Nat} (h1 : lex p q) (h2 : lex q r) : lex p r := by
  unfold lex at *
  omega
theorem lex_irr (p : Nat × Nat) : ¬ lex p p := by
  unfold lex
  omega
theorem lex_tri (p q : Nat × Nat) : lex p q ∨ p = q ∨ lex q p := by
  rcases p with ⟨a, b⟩
  rcases q with ⟨c, d⟩
  unfold lex
  simp only [Prod.mk.injEq]
  omega
instance (p q : Nat × Nat) : Decidable (lex p q) := inferInstanceAs (Decidable (_ ∨ _))
def insP (p : Nat × Nat) : List (Nat × Nat) → List (Nat × Nat)
  | [] => [p]
  | q :: r => if lex p q then p :: q :: r else if p = q then q :: r else q :: insP p r
def nrm : List (Nat × Nat) → List (Nat × Nat)
  | [] => []
  | p :: r => insP p (nrm r)
theorem mem_insP {p x : Nat × Nat} : ∀ {l : List (Nat × Nat)}, x ∈ insP p l ↔ x = p ∨ x ∈ l
  | [] => by simp [insP]
  | q :: r => by
    unfold insP
    split
    · simp
    · split
      · rename_i h
        subst h
        simp
      · rw [List.mem_cons, mem_insP, List.mem_cons]
        constructor <;> (intro h; rcases h with h | h | h <;> simp [h])
theorem insP_up {p : Nat × Nat} : ∀ {l : List (Nat × Nat)}, l.Pairwise lex → (insP p l).Pairwise lex
  | [], _ => by simp [insP]
  | q :: r, h => by
    obtain ⟨h1, h2⟩ := List.pairwise_cons.mp h
    unfold insP
    split
    · rename_i c
      refine List.pairwise_cons.mpr ⟨fun x hx => ?_, h⟩
      rcases List.mem_cons.mp hx with rfl | hx
      · exact c
      · exact lex_trans c (h1 x hx)
    · split
      · exact h
      · rename_i c d
        refine List.pairwise_cons.mpr ⟨fun x hx => ?_, insP_up h2⟩
        rcases mem_insP.mp hx with rfl | hx
        · rcases lex_tri x q with z | z | z
          · exact absurd z c
          · exact absurd z d
          · exact z
        · exact h1 x hx
theorem nrm_up : ∀ ps : List (Nat × Nat), (nrm ps).Pairwise lex
  | [] => List.Pairwise.nil
  | _ :: r => insP_up (nrm_up r)
theorem mem_nrm {x : Nat × Nat} : ∀ {ps : List (Nat × Nat)}, x ∈ nrm ps ↔ x ∈ ps
  | [] => Iff.rfl
  | p :: r => by rw [nrm, mem_insP, mem_nrm, List.mem_cons]
theorem insP_len (p : Nat × Nat) : ∀ l : List (Nat × Nat), (insP p l).length ≤ l.length + 1
  | [] => Nat.le_refl _
  | q :: r => by
    unfold insP
    have := insP_len p r
    split
    · simp
    · split
      · simp
      · simp only [List.length_cons]
        omega
theorem nrm_len : ∀ ps : List (Nat × Nat), (nrm ps).length ≤ ps.length
  | [] => Nat.le_refl _
  | p :: r => by
    have := insP_len p (nrm r)
    have := nrm_len r
    rw [nrm, List.length_cons]
    omega
/-- sorted lists with the same members -/
theorem up_unique : ∀ {l m : List (Nat × Nat)}, l.Pairwise lex → m.Pairwise lex → (∀ x, x ∈ l ↔ x ∈ m) → l = m
  | [], [], _, _, _ => rfl
  | [], q :: m, _, _, h => by have := (h q).mpr (List.mem_cons_self ..); cases this
  | p :: l, [], _, _, h => by have := (h p).mp (List.mem_cons_self ..); cases this
  | p :: l, q :: m, h1, h2, h => by
    obtain ⟨a1, a2⟩ := List.pairwise_cons.mp h1
    obtain ⟨b1, b2⟩ := List.pairwise_cons.mp h2
    have e : p = q := by
      rcases List.mem_cons.mp ((h p).mp (List.mem_cons_self ..)) with z | z
      · exact z
      · rcases List.mem_cons.mp ((h q).mpr (List.mem_cons_self ..)) with y | y
        · exact y.symm
        · exact absurd (lex_trans (b1 p z) (a1 q y)) (lex_irr q)
    subst e
    rw [up_unique a2 b2 fun x => ?_]
    constructor
    · intro hx
      rcases List.mem_cons.mp ((h x).mp (List.mem_cons_of_mem _ hx)) with rfl | z
      · exact absurd (a1 x hx) (lex_irr x)
      · exact z
    · intro hx
      rcases List.mem_cons.mp ((h x).mpr (List.mem_cons_of_mem _ hx)) with rfl | z
      · exact absurd (b1 x hx) (lex_irr x)
      · exact z
theorem nrm_of {l ps : List (Nat × Nat)} (h1 : l.Pairwise lex) (h2 : ∀ x, x ∈ l ↔ x ∈ ps) : l = nrm ps := up_unique h1 (nrm_up ps) fun x => (h2 x).trans mem_nrm.symm
theorem nrm_id {l : List (Nat × Nat)} (h : l.Pairwise lex) : nrm l = l := (nrm_of h fun _ => Iff.rfl).symm
/-! ### sums -/
def sumTo (f : Nat → Nat) : Nat → Nat
  | 0 => 0
  | n + 1 => sumTo f n + f n
theorem sumTo_congr {f g : Nat → Nat} : ∀ {n : Nat}, (∀ l, l < n → f l = g l) → sumTo f n = sumTo g n
  | 0, _ => rfl
  | n + 1, h => by rw [sumTo, sumTo, sumTo_congr fun l hl => h l (by omega), h n (by omega)]
theorem sumTo_le {f g : Nat → Nat} : ∀ {n : Nat}, (∀ l, l < n → f l ≤ g l) → sumTo f n ≤ sumTo g n
  | 0, _ => Nat.le_refl _
  | n + 1, h => by
    have := sumTo_le (f := f) (g := g) (n := n) fun l hl => h l (by omega)
    have := h n (by omega)
    rw [sumTo, sumTo]
    omega
theorem sumTo_at {f g : Nat → Nat} {k : Nat} : ∀ {n : Nat}, k < n → (∀ l, l < n → l ≠ k → g l = f l) → g k = f k + 1 → sumTo g n = sumTo f n + 1
  | 0, h, _, _ => by omega
  | n + 1, h, e, q => by
    rw [sumTo, sumTo]
    by_cases c : k = n
    · subst c
      rw [sumTo_congr (f := g) (g := f) fun l hl => e l (by omega) (by omega), q]
      omega
    · rw [sumTo_at (f := f) (g := g) (k := k) (n := n) (by omega) (fun l hl ne => e l (by omega) ne) q, e n (by omega) (by omega)]
      omega
theorem sumTo_one {f : Nat → Nat} : ∀ {n l : Nat}, l < n → f l ≤ sumTo f n
  | 0, _, h => by omega
  | n + 1, l, h => by
    rw [sumTo]
    by_cases c : l = n
    · subst c
      omega
    · have := sumTo_one (f := f) (n := n) (l := l) (by omega)
      omega
/-! ### the journal -/
structure Jr where
  n : Nat
  cut : Nat → Nat
  es : Nat → List En
  tail : Nat → List Nat
  sure : Nat → Nat
def Jr.txt (J : Jr) (l : Nat) : List Nat := rowsL (J.es l) ++ J.tail l
def Jr.ends (J : Jr) (l : Nat) : Nat := J.cut l + (J.es l).length
structure OkJ (J : Jr) : Prop where
  pos : 1 ≤ J.n
  n8 : J.n ≤ 8
  ok : ∀ l, l < J.n → ∀ e ∈ J.es l, OkE J.n l e
  at_ : ∀ l, l < J.n → ∀ (i : Nat) (h : i < (J.es l).length), (J.es l)[i].pl = J.cut l + i
  free : ∀ l, l < J.n → 10 ∉ J.tail l
  tlen : ∀ l, l < J.n → (J.tail l).length ≤ 160
  tlt : ∀ l, l < J.n → ∀ c ∈ J.tail l, c < 1000
  sure : ∀ l, l < J.n → J.sure l ≤ (J.txt l).length
  ends : ∀ l, l < J.n → J.ends l < 64
  tot : sumTo (fun l => (J.es l).length) J.n ≤ 63
theorem OkJ.txt_len {J : Jr} (O : OkJ J) {l : Nat} (hl : l < J.n) : (J.txt l).length ≤ 10240 := by
  have a := rows_len O.n8 (O.ok l hl)
  have b := O.tlen l hl
  have c := O.ends l hl
  unfold Jr.ends at c
  unfold Jr.txt
  rw [List.length_append]
  omega
theorem OkJ.txt_lt {J : Jr} (O : OkJ J) {l : Nat} (hl : l < J.n) {c : Nat} (hc : c ∈ J.txt l) : c < 1000 := by
  rcases List.mem_append.mp hc with z | z
  · exact rows_lt (O.ok l hl) z
  · exact O.tlt l hl c z
theorem OkJ.whole {J : Jr} (O : OkJ J) {l : Nat} (hl : l < J.n) : whole (J.txt l) = (J.es l).map fun e => tl (recd e) := whole_es (O.ok l hl) (O.free l hl)
/-- a new journal -/
def newJ (n : Nat) : Jr := ⟨n, fun _ => 0, fun _ => [], fun _ => [], fun _ => 0⟩
theorem sumTo_zero : ∀ n : Nat, sumTo (fun _ => 0) n = 0
  | 0 => rfl
  | n + 1 => by rw [sumTo, sumTo_zero n]
theorem newJ_ok {n : Nat} (h1 : 1 ≤ n) (h2 : n ≤ 8) : OkJ (newJ n) where
  pos := h1
  n8 := h2
  ok := fun _ _ _ h => by cases h
  at_ := fun _ _ i h => absurd h (Nat.not_lt_zero i)
  free := fun _ _ => by show 10 ∉ []; simp
  tlen := fun _ _ => Nat.zero_le _
  tlt := fun _ _ c h => by cases h
  sure := fun _ _ => Nat.zero_le _
  ends := fun _ _ => by show 0 + 0 < 64; decide
  tot := by
    show sumTo (fun _ => 0) n ≤ 63
    rw [sumTo_zero]
    omega
/-- one entry more -/
def addJ (J : Jr) (k : Nat) (e : En) : Jr := ⟨J.n, J.cut, fun l => if l = k then J.es l ++ [e] else J.es l, J.tail, J.sure⟩
theorem rows_snoc (es : List En) (e : En) : rowsL (es ++ [e]) = rowsL es ++ rowL e := by
  unfold rowsL
  rw [List.flatMap_append]
  simp
theorem addJ_txt {J : Jr} {k l : Nat} {e : En} (h : J.tail k = []) : (addJ J k e).txt l = if l = k then J.txt l ++ rowL e else J.txt l := by
  unfold Jr.txt addJ
  dsimp only
  split
  · rename_i c
    subst c
    rw [h, List.append_nil, List.append_nil, rows_snoc]
  · rfl
theorem addJ_ok {J : Jr} (O : OkJ J) {k : Nat} {e : En} (hk : k < J.n) (he : OkE J.n k e) (hp : e.pl = J.ends k) (ht : J.tail k = []) (h1 : J.ends k + 1 < 64) (h2 : sumTo (fun l => (J.es l).length) J.n + 1 ≤ 63) : OkJ (addJ J k e) where
  pos := O.pos
  n8 := O.n8
  ok := fun l hl x hx => by
    dsimp only [addJ] at hx
    split at hx
    · rename_i c
      subst c
      rcases List.mem_append.mp hx with hx | hx
      · exact O.ok l hl x hx
      · cases List.mem_singleton.mp hx
        exact he
    · exact O.ok l hl x hx
  at_ := fun l hl i hi => by
    dsimp only [addJ] at hi ⊢
    by_cases c : l = k
    · subst c
      simp only [if_pos] at hi ⊢
      rw [List.length_append, List.length_singleton] at hi
      by_cases q : i < (J.es l).length
      · rw [List.getElem_append_left q]
        exact O.at_ l hl i q
      · have e1 : i = (J.es l).length := by omega
        subst e1
        rw [List.getElem_append_right (Nat.le_refl _)]
        simpa [Jr.ends] using hp
    · simp only [if_neg c] at hi ⊢
      exact O.at_ l hl i hi
  free := O.free
  tlen := O.tlen
  tlt := O.tlt
  sure := fun l hl => by
    rw [addJ_txt ht]
    have := O.sure l hl
    show J.sure l ≤ _
    split
    · rw [List.length_append]
      omega
    · exact this
  ends := fun l hl => by
    unfold Jr.ends addJ
    dsimp only
    split
    · rename_i c
      subst c
      rw [List.length_append, List.length_singleton]
      unfold Jr.ends at h1
      omega
    · exact O.ends l hl
  tot := by
    rw [show (addJ J k e).n = J.n from rfl, sumTo_at (f := fun l => (J.es l).length) (k := k) hk (fun l _ ne => by dsimp only [addJ]; rw [if_neg ne]) (by dsimp only [addJ]; rw [if_pos rfl, List.length_append]; rfl)]
    exact h2
/-- some lanes are sure -/
def syncJ (J : Jr) (p : Nat → Bool) : Jr := ⟨J.n, J.cut, J.es, J.tail, fun l => if p l then (J.txt l).length else J.sure l⟩
theorem syncJ_txt (J : Jr) (p : Nat → Bool) (l : Nat) : (syncJ J p).txt l = J.txt l := rfl
theorem syncJ_ok {J : Jr} (O : OkJ J) (p : Nat → Bool) : OkJ (syncJ J p) where
  pos := O.pos
  n8 := O.n8
  ok := O.ok
  at_ := O.at_
  free := O.free
  tlen := O.tlen
  tlt := O.tlt
  sure := fun l hl => by
    show (if p l then (J.txt l).length else J.sure l) ≤ (J.txt l).length
    split
    · exact Nat.le_refl _
    · exact O.sure l hl
  ends := O.ends
  tot := O.tot
/-- a stop at these lengths -/
def stopJ (J : Jr) (f : Nat → Nat) : Jr := ⟨J.n, J.cut, fun l => kept (J.es l) (f l), fun l => ((J.txt l).take (f l)).drop (rowsL (kept (J.es l) (f l))).length, f⟩
theorem stopJ_txt {J : Jr} (O : OkJ J) (f : Nat → Nat) {l : Nat} (hl : l < J.n) : (stopJ J f).txt l = (J.txt l).take (f l) ∧ 10 ∉ (stopJ J f).tail l ∧ ((stopJ J f).tail l).length ≤ 160 := by
  obtain ⟨t, h1, h2, h3⟩ := kept_take (O.ok l hl) O.n8 (O.free l hl) (O.tlen l hl) (f l)
  have e : (stopJ J f).tail l = t := by
    show ((J.txt l).take (f l)).drop _ = t
    rw [show J.txt l = rowsL (J.es l) ++ J.tail l from rfl, h1, List.drop_left]
  rw [e]
  refine ⟨?_, h2, h3⟩
  show rowsL (kept (J.es l) (f l)) ++ (stopJ J f).tail l = _
  rw [e]
  exact h1.symm
theorem stopJ_ok {J : Jr} (O : OkJ J) {f : Nat → Nat} (hf : ∀ l, l < J.n → f l ≤ (J.txt l).length) : OkJ (stopJ J f) where
  pos := O.pos
  n8 := O.n8
  ok := fun l hl e he => by
    obtain ⟨k, _, h2⟩ := kept_pre (J.es l) (f l)
    have he' : e ∈ kept (J.es l) (f l) := he
    rw [h2] at he'
    exact O.ok l hl e (List.mem_of_mem_take he')
  at_ := fun l hl i hi => by
    obtain ⟨k, _, h2⟩ := kept_pre (J.es l) (f l)
    have e : (stopJ J f).es l = (J.es l).take k := h2
    simp only [e] at hi ⊢
    rw [List.getElem_take]
    rw [List.length_take] at hi
    exact O.at_ l hl i (by omega)
  free := fun l hl => (stopJ_txt O f hl).2.1
  tlen := fun l hl => (stopJ_txt O f hl).2.2
  tlt := fun l hl c h => by
    have h2 : c ∈ (J.txt l).take (f l) := List.mem_of_mem_drop h
    exact O.txt_lt hl (List.mem_of_mem_take h2)
  sure := fun l hl => by
    rw [(stopJ_txt O f hl).1, List.length_take]
    have := hf l hl
    show f l ≤ _
    omega
  ends := fun l hl => by
    have a := O.ends l hl
    have b := kept_len (J.es l) (f l)
    unfold Jr.ends at *
    show J.cut l + (kept (J.es l) (f l)).length < 64
    omega
  tot := Nat.le_trans (sumTo_le fun l _ => kept_len (J.es l) (f l)) O.tot
/-! ### the recovered order -/
def can (J : Jr) (c : Nat → Nat) (l : Nat) : Bool := match (J.es l)[c l - J.cut l]? with
  | some e => e.prs.all fun p => decide (p.1 < J.n) && decide (p.2 < c p.1)
  | none => false
def nxt (J : Jr) (c : Nat → Nat) : Option Nat := (List.range J.n).find? (can J c)
def bmp (c : Nat → Nat) (k : Nat) : Nat → Nat := fun l => if l = k then c l + 1 else c l
structure Os where
  c : Nat → Nat
  o : List (Nat × Nat)
def stp (J : Jr) (s : Os) : Os := match nxt J s.c with
  | some k => ⟨bmp s.c k, s.o ++ [(k, s.c k)]⟩
  | none => s
def it (J : Jr) : Nat → Os
  | 0 => ⟨J.cut, []⟩
  | i + 1 => stp J (it J i)
def fin (J : Jr) : Os := it J 63
theorem nxt_some {J : Jr} {c : Nat → Nat} {k : Nat} (h : nxt J c = some k) : k < J.n ∧ can J c k = true ∧ ∀ l, l < k → can J c l = false := by
  have h1 := List.find?_some h
  have h2 := List.mem_of_find?_eq_some h
  refine ⟨List.mem_range.mp h2, h1, fun l hl => ?_⟩
  obtain ⟨_, as, bs, e, h3⟩ := List.find?_eq_some_iff_append.mp h
  have hm : l ∈ as := by
    have hk : k < J.n := List.mem_range.mp h2
    have e1 : as.length = k := by
      have q := congrArg (fun z : List Nat => z[as.length]?) e
      simp only [List.getElem?_append_right (Nat.le_refl _), Nat.sub_self, List.getElem?_cons_zero] at q
      obtain ⟨a, b⟩ := List.getElem?_eq_some_iff.mp q
      rw [List.getElem_range] at b
      exact b
    have q := congrArg (fun z : List Nat => z[l]?) e
    simp only [List.getElem?_append_left (show l < as.length by omega), List.getElem?_range (show l < J.n by omega)] at q
    exact List.mem_of_getElem? q.symm
  have := h3 l hm
  simpa using this
theorem nxt_none {J : Jr} {c : Nat → Nat} (h : nxt J c = none) : ∀ l, l < J.n → can J c l = false := fun l hl => by
  have := List.find?_eq_none.mp h l (List.mem_range.mpr hl)
  simpa using this
theorem nxt_of {J : Jr} {c : Nat → Nat} {k : Nat} (hk : k < J.n) (h1 : can J c k = true) (h2 : ∀ l, l < k → can J c l = false) : nxt J c = some k := by
  cases h : nxt J c with
  | none => rw [nxt_none h k hk] at h1; cases h1
  | some m =>
    obtain ⟨a, b, d⟩ := nxt_some h
    rcases Nat.lt_trichotomy m k with q | q | q
    · rw [h2 m q] at b; cases b
    · rw [q]
    · rw [d k q] at h1; cases h1
theorem nxt_of_none {J : Jr} {c : Nat → Nat} (h : ∀ l, l < J.n → can J c l = false) : nxt J c = none := by
  cases e : nxt J c with
  | none => rfl
  | some m =>
    obtain ⟨a, b, _⟩ := nxt_some e
    rw [h m a] at b
    cases b
/-- what holds on the way -/
structure Sp (J : Jr) (s : Os) : Prop where
  lo : ∀ l, l < J.n → J.cut l ≤ s.c l
  hi : ∀ l, l < J.n → s.c l ≤ J.ends l
  cnt : ∀ l, l < J.n → s.c l = J.cut l + (s.o.filter fun p => decide (p.1 = l)).length
  len : s.o.length = sumTo (fun l => s.c l - J.cut l) J.n
  mem : ∀ p ∈ s.o, p.1 < J.n ∧ J.cut p.1 ≤ p.2 ∧ p.2 < J.ends p.1
theorem can_at {J : Jr} {c : Nat → Nat} {l : Nat} (h : can J c l = true) : c l - J.cut l < (J.es l).length := by
  unfold can at h
  cases e : (J.es l)[c l - J.cut l]? with
  | none => rw [e] at h; cases h
  | some _ => exact (List.getElem?_eq_some_iff.mp e).1
theorem Sp.step {J : Jr} {s : Os} (S : Sp J s) : Sp J (stp J s) := by
  unfold stp
  cases h : nxt J s.c with
  | none => exact S
  | some k =>
    obtain ⟨hk, hc, _⟩ := nxt_some h
    have ha := can_at hc
    have lo := S.lo k hk
    refine ⟨fun l hl => ?_, fun l hl => ?_, fun l hl => ?_, ?_, fun p hp => ?_⟩
    · have := S.lo l hl
      show J.cut l ≤ (if l = k then s.c l + 1 else s.c l)
      split <;> omega
    · have := S.hi l hl
      show (if l = k then s.c l + 1 else s.c l) ≤ J.cut l + (J.es l).length
      split
      · rename_i e
        subst e
        omega
      · exact this
    · have := S.cnt l hl
      show (if l = k then s.c l + 1 else s.c l) = J.cut l + ((s.o ++ [(k, s.c k)]).filter fun p => decide (p.1 = l)).length
      rw [List.filter_append, List.length_append]
      by_cases e : l = k
      · subst e
        rw [if_pos rfl, List.filter_cons_of_pos (by simp), List.filter_nil, List.length_singleton]
        omega
      · rw [if_neg e, List.filter_cons_of_neg (by simp; omega), List.filter_nil, List.length_nil]
        omega
    · show (s.o ++ [(k, s.c k)]).length = sumTo (fun l => (if l = k then s.c l + 1 else s.c l) - J.cut l) J.n
      rw [List.length_append, List.length_singleton, S.len, sumTo_at (f := fun l => s.c l - J.cut l) (g := fun l => (if l = k then s.c l + 1 else s.c l) - J.cut l) hk (fun l _ ne => by rw [if_neg ne]) (by rw [if_pos rfl]; omega)]
    · rcases List.mem_append.mp hp with hp | hp
      · exact S.mem p hp
      · cases List.mem_singleton.mp hp
        exact ⟨hk, lo, by unfold Jr.ends; dsimp only; omega⟩
theorem sp_it (J : Jr) : ∀ i, Sp J (it J i)
  | 0 => ⟨fun _ _ => Nat.le_refl _, fun _ _ => Nat.le_add_right _ _, fun _ _ => rfl, by
      show 0 = sumTo (fun l => J.cut l - J.cut l) J.n
      rw [sumTo_congr (g := fun _ => 0) fun l _ => Nat.sub_self _, sumTo_zero], fun p hp => by cases hp⟩
  | i + 1 => (sp_it J i).step
theorem Sp.few {J : Jr} {s : Os} (S : Sp J s) (O : OkJ J) : s.o.length ≤ 63 := by
  rw [S.len]
  refine Nat.le_trans (sumTo_le fun l hl => ?_) O.tot
  have := S.hi l hl
  unfold Jr.ends at this
  omega
/-- i steps, if none was the last -/
theorem it_len {J : Jr} : ∀ {i : Nat}, nxt J (it J i).c ≠ none → (it J i).o.length = i ∧ ∀ j, j ≤ i → nxt J (it J j).c ≠ none
  | 0, h => ⟨rfl, fun j hj => by rw [Nat.le_zero.mp hj]; exact h⟩
  | i + 1, h => by
    have q : nxt J (it J i).c ≠ none := fun z => h (by
      have : it J (i + 1) = it J i := by
        show stp J (it J i) = _
        unfold stp
        rw [z]
      rw [this]
      exact z)
    obtain ⟨a, b⟩ := it_len q
    refine ⟨?_, fun j hj => ?_⟩
    · show (stp J (it J i)).o.length = _
      unfold stp
      cases e : nxt J (it J i).c with
      | none => exact absurd e q
      | some k =>
        show ((it J i).o ++ _).length = _
        rw [List.length_append, a]
        rfl
    · by_cases c : j = i + 1
      · rw [c]; exact h
      · exact b j (by omega)
theorem it_const {J : Jr} {i : Nat} (h : nxt J (it J i).c = none) : ∀ d, it J (i + d) = it J i
  | 0 => rfl
  | d + 1 => by
    have := it_const h d
    show stp J (it J (i + d)) = _
    rw [this]
    unfold stp
    rw [h]
theorem it_next {J : Jr} {i k : Nat} (h : nxt J (it J i).c = some k) : it J (i + 1) = ⟨bmp (it J i).c k, (it J i).o ++ [(k, (it J i).c k)]⟩ := by
  show stp J (it J i) = _
  unfold stp
  rw [h]
theorem it_few {J : Jr} (O : OkJ J) {i : Nat} (h : nxt J (it J i).c ≠ none) : i < 63 := by
  obtain ⟨a, _⟩ := it_len h
  have b := (sp_it J (i + 1)).few O
  cases e : nxt J (it J i).c with
  | none => exact absurd e h
  | some k =>
    rw [it_next e] at b
    simp only [List.length_append, List.length_singleton] at b
    omega
/-- where the steps end -/
theorem it_fin {J : Jr} (O : OkJ J) {i : Nat} (h : nxt J (it J i).c = none) (hb : ∀ j, j < i → nxt J (it J j).c ≠ none) : it J i = fin J := by
  have hi : i ≤ 63 := by
    cases i with
    | zero => omega
    | succ i =>
      have := it_few O (hb i (by omega))
      omega
  have := it_const h (63 - i)
  rw [show i + (63 - i) = 63 by omega] at this
  exact this.symm
theorem fin_sp (J : Jr) : Sp J (fin J) := sp_it J 63
theorem fin_none {J : Jr} (O : OkJ J) : nxt J (fin J).c = none := by
  cases h : nxt J (fin J).c with
  | none => rfl
  | some k =>
    have := it_few O (i := 63) (by rw [show it J 63 = fin J from rfl, h]; exact fun z => by cases z)
    omega
end JN

set_option Elab.async false
set_option linter.all false
set_option maxRecDepth 100000
set_option maxHeartbeats 4000000
/-! O77: disks. -/
namespace K77
open PySem PySem.Spec PyProof.Rows L2 LL K75 JN
def top (i : Nat) : Stmt := PySem.Challenge.pw_leastlog_k77_whole_journals_found.main.body.getD i (.Pass ⟨0, 0, 0, 0⟩)
abbrev s_check_text : Stmt := top 7
abbrev n_check_text : List Str := ["text"]
theorem sc_check_text : FnScope n_check_text ["text"] (defScope s_check_text) := ⟨rfl, rfl, rfl, by decide +kernel, rfl, by decide +kernel, by decide +kernel⟩
abbrev s_Diskinit : Stmt := inClass (top 8) 0
abbrev n_Diskinit : List Str := ["self", "text"]
theorem sc_Diskinit : FnScope n_Diskinit ["self", "text"] (defScope s_Diskinit) := ⟨rfl, rfl, rfl, by decide +kernel, rfl, by decide +kernel, by decide +kernel⟩
abbrev s_Disk_content : Stmt := inClass (top 8) 1
abbrev n_Disk_content : List Str := ["self"]
theorem sc_Disk_content : FnScope n_Disk_content ["self"] (defScope s_Disk_content) := ⟨rfl, rfl, rfl, by decide +kernel, rfl, by decide +kernel, by decide +kernel⟩
abbrev s_Disk_sure : Stmt := inClass (top 8) 2
abbrev n_Disk_sure : List Str := ["self"]
theorem sc_Disk_sure : FnScope n_Disk_sure ["self"] (defScope s_Disk_sure) := ⟨rfl, rfl, rfl, by decide +kernel, rfl, by decide +kernel, by decide +kernel⟩
abbrev s_Disk_append : Stmt := inClass (top 8) 3
abbrev n_Disk_append : List Str := ["self", "text"]
theorem sc_Disk_append : FnScope n_Disk_append ["self", "text"] (defScope s_Disk_append) := ⟨rfl, rfl, rfl, by decide +kernel, rfl, by decide +kernel, by decide +kernel⟩
abbrev s_Disk_sync : Stmt := inClass (top 8) 4
abbrev n_Disk_sync : List Str := ["self"]
theorem sc_Disk_sync : FnScope n_Disk_sync ["self"] (defScope s_Disk_sync) := ⟨rfl, rfl, rfl, by decide +kernel, rfl, by decide +kernel, by decide +kernel⟩
abbrev s_Disk_stopped : Stmt := inClass (top 8) 5
abbrev n_Disk_stopped : List Str := ["self", "length"]
theorem sc_Disk_stopped : FnScope n_Disk_stopped ["self", "length"] (defScope s_Disk_stopped) := ⟨rfl, rfl, rfl, by decide +kernel, rfl, by decide +kernel, by decide +kernel⟩
abbrev s_Disk_without : Stmt := inClass (top 8) 6
abbrev n_Disk_without : List Str := ["self", "length", "found"]
theorem sc_Disk_without : FnScope n_Disk_without ["self", "length"] (defScope s_Disk_without) := ⟨rfl, rfl, rfl, by decide +kernel, rfl, by decide +kernel, by decide +kernel⟩
abbrev s_Disk_clone : Stmt := inClass (top 8) 7
abbrev n_Disk_clone : List Str := ["self"]
theorem sc_Disk_clone : FnScope n_Disk_clone ["self"] (defScope s_Disk_clone) := ⟨rfl, rfl, rfl, by decide +kernel, rfl, by decide +kernel, by decide +kernel⟩
abbrev s_Diskeq : Stmt := inClass (top 8) 8
abbrev n_Diskeq : List Str := ["self", "other"]
theorem sc_Diskeq : FnScope n_Diskeq ["self", "other"] (defScope s_Diskeq) := ⟨rfl, rfl, rfl, by decide +kernel, rfl, by decide +kernel, by decide +kernel⟩
abbrev s_is_number : Stmt := top 15
abbrev n_is_number : List Str := ["value"]
theorem sc_is_number : FnScope n_is_number ["value"] (defScope s_is_number) := ⟨rfl, rfl, rfl, by decide +kernel, rfl, by decide +kernel, by decide +kernel⟩
abbrev s_check_lanes : Stmt := top 17
abbrev n_check_lanes : List Str := ["lanes"]
theorem sc_check_lanes : FnScope n_check_lanes ["lanes"] (defScope s_check_lanes) := ⟨rfl, rfl, rfl, by decide +kernel, rfl, by decide +kernel, by decide +kernel⟩
abbrev s_check_lane : Stmt := top 18
abbrev n_check_lane : List Str := ["lane", "lanes"]
theorem sc_check_lane : FnScope n_check_lane ["lane", "lanes"] (defScope s_check_lane) := ⟨rfl, rfl, rfl, by decide +kernel, rfl, by decide +kernel, by decide +kernel⟩
/-- what the top has made -/
structure Tx (K : PySem.W.Frag) (mg : Str → Option Value) (CD CJ : Addr) : Prop where
  cD : Cls K CD
  cJ : Cls K CJ
  nT : NoAttr K CD "own_text"
  nS : NoAttr K CD "own_sure"
  nD : NoAttr K CJ "own_disks"
  nC : NoAttr K CJ "own_cut"
  g_Disk : mg "Disk" = some (.ref CD)
  g_Journal : mg "Journal" = some (.ref CJ)
  g_FEED : ∃ t, mg "FEED" = some (.str ⟨#[10]⟩ t)
  g_SPACE_seals : ∃ t, mg "SPACE_seals" = some (.str ⟨#[32]⟩ t)
  g_FIRST_CHECK : ∃ t, mg "FIRST_CHECK" = some (.int 7 t)
  g_FACTOR : ∃ t, mg "FACTOR" = some (.int 31 t)
  g_MODULUS : ∃ t, mg "MODULUS" = some (.int 1000003 t)
  g_SPACE_journals : ∃ t, mg "SPACE_journals" = some (.str ⟨#[32]⟩ t)
  g_NO_PAIRS : ∃ t, mg "NO_PAIRS" = some (.str ⟨#[45]⟩ t)
  g_POINT : ∃ t, mg "POINT" = some (.str ⟨#[46]⟩ t)
  g_COMMA : ∃ t, mg "COMMA" = some (.str ⟨#[44]⟩ t)
  g_DIGITS : ∃ t, mg "DIGITS" = some (.str "0123456789" t)
  g_MOST_DIGITS : ∃ t, mg "MOST_DIGITS" = some (.int 9 t)
  g_MOST_LANES : ∃ t, mg "MOST_LANES" = some (.int 8 t)
  caD : PySem.W.findIn K (.ref CD) "__class__" = some (some (.builtin "object.__class__"))
  caJ : PySem.W.findIn K (.ref CJ) "__class__" = some (some (.builtin "object.__class__"))
  cn : PySem.W.specialIn K (.builtin "object.__class__") "__get__" = some (some (.builtin "getset_descriptor.__get__"))
  ct : PySem.W.takesIn K (.builtin "object.__class__") = some true
  cmD : PySem.W.mroIn K CD (.type "object") = some true
  cmJ : PySem.W.mroIn K CJ (.type "object") = some true
  neJ : PySem.W.findIn K (.ref CJ) "__ne__" = some (some (.builtin "object.__ne__"))
  kD : PySem.W.kitOne K (.ref CD) (.ref CD) = some true
  kJ : PySem.W.kitOne K (.ref CJ) (.ref CJ) = some true
  kJd : PySem.W.kitOne K (.type "dict") (.ref CJ) = some false
  fD : PySem.W.notFirst K CD (.ref CD) = true
  fJ : PySem.W.notFirst K CJ (.ref CJ) = true
  fJd : PySem.W.notFirst K CJ (.type "dict") = true
  n_isinstance : mg "isinstance" = none
  n_int : mg "int" = none
  n_bool : mg "bool" = none
  n_abs : mg "abs" = none
  n_str : mg "str" = none
  n_repr : mg "repr" = none
  n_range : mg "range" = none
  n_len : mg "len" = none
  n_max : mg "max" = none
  n_min : mg "min" = none
  n_divmod : mg "divmod" = none
  n_all : mg "all" = none
  n_list : mg "list" = none
  n_tuple : mg "tuple" = none
  n_set : mg "set" = none
  n_sorted : mg "sorted" = none
  n_zip : mg "zip" = none
  n_enumerate : mg "enumerate" = none
  n_ord : mg "ord" = none
section
variable {P : Program} {w : World} {K : PySem.W.Frag} {mg : Str → Option Value} {base : Heap} {CD CJ : Addr} {f : Addr} {fd : FuncData}
abbrev FD (K : PySem.W.Frag) (x qual : Str) (st : Stmt) (dvs : List V) (f : Addr) (fd : FuncData) : Prop := FunD K x qual (defArgs st) (defBody st) (defScope st) dvs [] f fd
theorem kII {K : PySem.W.Frag} : PySem.W.kitOne K (.type "int") (.type "int") = some true := kit_ty (by decide +kernel)
theorem kIB {K : PySem.W.Frag} : PySem.W.kitOne K (.type "int") (.type "bool") = some false := kit_ty (by decide +kernel)
theorem kSS {K : PySem.W.Frag} : PySem.W.kitOne K (.type "str") (.type "str") = some true := kit_ty (by decide +kernel)
theorem kTT {K : PySem.W.Frag} : PySem.W.kitOne K (.type "tuple") (.type "tuple") = some true := kit_ty (by decide +kernel)
/-! ### numbers -/
def spNum : Sp := fun vs H Q _ => ∃ n : Nat, vs = [.int n] ∧ Q (.bl true) H
theorem ok_is_number (T : Tx K mg CD CJ) (F : FD K "is_number" "is_number" s_is_number [] f fd) : FnG P w K mg base CX0 1 f fd ["value"] spNum := by
  refine ok0 F sc_is_number (fun vs H Q E h => ?_) (fun cdv A outer s H vs Q E hr h => ?_)
  · obtain ⟨n, rfl, _⟩ := h
    rfl
  · obtain ⟨n, rfl, q⟩ := h
    refine ⟨_, (pss_one (ps_ret (pe_and (pe_callB call_isi (by rfl) T.n_isinstance (by decide +kernel) (pa_cons (pv 0) (pa_cons (pe_bltn (v := .ty "int") (by rfl) T.n_int (by decide +kernel) rfl) pa_nil))) (pe_and (pe_not (pe_callB call_isi (by rfl) T.n_isinstance (by decide +kernel) (pa_cons (pv 0) (pa_cons (pe_bltn (v := .ty "bool") (by rfl) T.n_bool (by decide +kernel) rfl) pa_nil)))) (pe_one (pe_cmpR op_ge (pv 0) pe_int (nomark _))))))), ?_⟩
    refine ⟨_, rfl, _, _, .type "int", _, _, rfl, .ty "int", .base (.int _), kII, _, rfl, iteT ?_⟩
    refine ⟨_, rfl, _, _, .type "int", _, _, rfl, .ty "bool", .base (.int _), kIB, _, rfl, _, rfl, iteT ?_⟩
    refine ⟨_, rfl, _, _, rfl, rfl, ?_⟩
    show Q (.bl (decide ((0 : Int) ≤ (n : Int)))) H
    rw [decide_eq_true (show (0 : Int) ≤ (n : Int) by omega)]
    exact q
def spLanes : Sp := fun vs H Q _ => ∃ n : Nat, vs = [.int n] ∧ 1 ≤ n ∧ n ≤ 8 ∧ Q .non H
theorem ok_check_lanes (T : Tx K mg CD CJ) (G_is_number : Fnc P w K mg base CX0 1 "is_number" [] spNum) (F : FD K "check_lanes" "check_lanes" s_check_lanes [] f fd) : FnG P w K mg base CX0 2 f fd ["lanes"] spLanes := by
  refine ok0 F sc_check_lanes (fun vs H Q E h => ?_) (fun cdv A outer s H vs Q E hr h => ?_)
  · obtain ⟨n, rfl, _⟩ := h
    rfl
  · obtain ⟨n, rfl, h1, h2, q⟩ := h
    refine ⟨_, (pss_one (ps_if (PW.pt (pw_or (pt_not (pt_val (pe_fn G_is_number (hr.mono (by decide)) pass0 (pa_cons (pv 0) pa_nil)))) (pw_or1 (pt_not (pt_chain op_le op_le pe_int (pv 0) (pe_gI T.g_MOST_LANES)))))) (pss_one ps_never) pss_nil)), ?_⟩
    refine ⟨_, rfl, n, rfl, _, rfl, iteF ?_⟩
    refine ⟨_, rfl, _, _, rfl, rfl, _, rfl, iteY (decide_eq_true (by omega)) ?_⟩
    exact ⟨_, _, rfl, rfl, _, rfl, iteN (by rw [decide_eq_true (by omega)]; rfl) q⟩
def spLane : Sp := fun vs H Q _ => ∃ l n : Nat, vs = [.int l, .int n] ∧ l < n ∧ Q .non H
theorem ok_check_lane (T : Tx K mg CD CJ) (G_is_number : Fnc P w K mg base CX0 1 "is_number" [] spNum) (F : FD K "check_lane" "check_lane" s_check_lane [] f fd) : FnG P w K mg base CX0 2 f fd ["lane", "lanes"] spLane := by
  refine ok0 F sc_check_lane (fun vs H Q E h => ?_) (fun cdv A outer s H vs Q E hr h => ?_)
  · obtain ⟨l, n, rfl, _⟩ := h
    rfl
  · obtain ⟨l, n, rfl, h1, q⟩ := h
    refine ⟨_, (pss_one (ps_if (PW.pt (pw_or (pt_not (pt_val (pe_fn G_is_number (hr.mono (by decide)) pass0 (pa_cons (pv 0) pa_nil)))) (pw_or1 (pt_cmpR op_ge (pv 0) (pv 1) (nomark _))))) (pss_one ps_never) pss_nil)), ?_⟩
    refine ⟨_, rfl, l, rfl, _, rfl, iteF ?_⟩
    exact ⟨_, rfl, _, rfl, _, _, rfl, rfl, _, rfl, iteN (decide_eq_false (by omega)) q⟩
/-! ### the object -/
def spChk : Sp := fun vs H Q _ => ∃ z, vs = [.str z] ∧ Q .non H
theorem ok_check_text (T : Tx K mg CD CJ) (F : FD K "check_text" "check_text" s_check_text [] f fd) : FnG P w K mg base CX0 1 f fd ["text"] spChk := by
  refine ok0 F sc_check_text (fun vs H Q E h => ?_) (fun cdv A outer s H vs Q E hr h => ?_)
  · obtain ⟨z, rfl, _⟩ := h
    rfl
  · obtain ⟨z, rfl, q⟩ := h
    exact ⟨_, (pss_one (ps_if (pt_not (pt_val (pe_callB call_isi (by rfl) T.n_isinstance (by decide +kernel) (pa_cons (pv 0) (pa_cons (pe_bltn (v := .ty "str") (by rfl) T.n_str (by decide +kernel) rfl) pa_nil))))) (pss_one ps_never) pss_nil)), _, rfl, _, _, .type "str", _, _, rfl, .ty "str", .base (.str _), kSS, _, rfl, iteF q⟩
def dfl (z : Str) (n : Nat) : List (Str × V) := [("own_text", .str z), ("own_sure", .int n)]
theorem ne_ts : ¬ (("own_text" : Str) = "own_sure") := by decide +kernel
theorem ne_st : ¬ (("own_sure" : Str) = "own_text") := by decide +kernel
theorem put_new (z : Str) (n : Nat) : putF "own_sure" (.int n) (putF "own_text" (.str z) []) = dfl z n := by
  show (if ("own_text" : Str) = "own_sure" then [(("own_text" : Str), V.int n)] else (("own_text" : Str), V.str z) :: putF "own_sure" (V.int n) []) = _
  rw [if_neg ne_ts]
  rfl
theorem put_t (z y : Str) (n : Nat) : putF "own_text" (.str y) (dfl z n) = dfl y n := by
  show (if ("own_text" : Str) = "own_text" then (("own_text" : Str), V.str y) :: [(("own_sure" : Str), V.int n)] else _) = _
  rw [if_pos rfl]
  rfl
theorem put_s (z : Str) (n m : Nat) : putF "own_sure" (.int m) (dfl z n) = dfl z m := by
  show (if ("own_text" : Str) = "own_sure" then _ else (("own_text" : Str), V.str z) :: (if ("own_sure" : Str) = "own_sure" then [(("own_sure" : Str), V.int m)] else _)) = _
  rw [if_neg ne_ts, if_pos rfl]
  rfl
theorem look_t (z : Str) (n : Nat) : (dfl z n).lookup ("own_text" : Str) = some (V.str z) := by
  rw [← put_new, lookup_putF, if_neg ne_ts, lookup_putF, if_pos rfl]
theorem look_s (z : Str) (n : Nat) : (dfl z n).lookup ("own_sure" : Str) = some (V.int n) := by
  rw [← put_new, lookup_putF, if_pos rfl]
theorem look_no (z : Str) (n : Nat) {m : Str} (h1 : ¬ m = "own_text") (h2 : ¬ m = "own_sure") : (dfl z n).lookup m = none := by
  rw [← put_new, lookup_putF, if_neg h2, lookup_putF, if_neg h1]
  rfl
def DAt (C : Addr) (H : Hp) (p : Addr) (z : Str) (n : Nat) : Prop := ∃ dx, H p = some (.ins C dx (dfl z n))
theorem DAt.same {C : Addr} {H H' : Hp} {p : Addr} {z : Str} {n : Nat} (h : DAt C H p z n) (s : Same H H') : DAt C H' p z n := let ⟨dx, e⟩ := h; ⟨dx, s _ _ e⟩
theorem small {n : Nat} (h : n ≤ 100000) : n ≤ sizeLine := Nat.le_trans h (by rw [sizeLine_eq]; decide)
/-! ### __init__ -/
def spDI (C : Addr) : Sp := fun vs H Q _ => ∃ p dx z, vs = [.ref p, .str z] ∧ H p = some (.ins C dx []) ∧ z.length ≤ 100000 ∧ ∀ H', H' p = some (.ins C dx (dfl z z.length)) → But p H H' → Q .non H'
theorem ok_dinit (T : Tx K mg CD CJ) (G_check_text : Fnc P w K mg base CX0 1 "check_text" [] spChk) (F : FD K "__init__" "Disk.__init__" s_Diskinit [.str ""] f fd) : FnG P w K mg base CX0 2 f fd ["self", "text"] (spDI CD) := by
  refine ok0 F sc_Diskinit (fun vs H Q E h => ?_) (fun cdv A outer s H vs Q E hr h => ?_)
  · obtain ⟨p, dx, z, rfl, _⟩ := h
    rfl
  · obtain ⟨p, dx, z, rfl, hp, hz, q⟩ := h
    refine ⟨_, (pss_cons (ps_expr (pe_fn G_check_text (hr.mono (by decide)) pass0 (pa_cons (pv 1) pa_nil)))
      (pss_cons (ps_fld (pv 0) (pv 1) rfl)
      (pss_one (ps_fld (pv 0) (pe_callB call_len_str (by rfl) T.n_len (by decide +kernel) (pa_cons (pv 1) pa_nil)) rfl)))), ?_⟩
    refine ⟨_, rfl, z, rfl, ?_⟩
    refine ⟨_, rfl, _, rfl, p, CD, dx, [], rfl, hp, T.cD, T.nT, (by show 0 < 1000; decide), ?_⟩
    refine ⟨_, rfl, _, rfl, small hz, _, rfl, p, CD, dx, _, rfl, upd_same, T.cD, T.nS, (by show 1 < 1000; decide), ?_⟩
    refine q _ (upd_same.trans ?_) fun b o e n => ?_
    · rw [put_new]
    · rw [upd_ne n, upd_ne n]
      exact e
/-- Disk(v), Disk() -/
def spMk1 (C : Addr) : Sp := fun vs H Q _ => ∃ z, vs = [.str z] ∧ z.length ≤ 100000 ∧ ∀ H' p, Same H H' → H p = none → DAt C H' p z z.length → Q (.ref p) H'
def spMk0 (C : Addr) : Sp := fun vs H Q _ => vs = [] ∧ ∀ H' p, Same H H' → H p = none → DAt C H' p "" 0 → Q (.ref p) H'
theorem same_new {C : Addr} {H H' : Hp} {a dx : Addr} (ha : H a = none) (hd : H dx = none) (b : But a (upd (upd H dx (.own a)) a (.ins C dx [])) H') : Same H H' := fun c o e => by
  refine b c o ?_ (ne_of_none e ha)
  rw [upd_ne (ne_of_none e ha), upd_ne (ne_of_none e hd)]
  exact e
theorem mkf1 (G : Mkr P w K mg base CX0 2 "Disk" CD [] (spDI CD)) : Mkf P w K mg base CX0 2 "Disk" (spMk1 CD) := by
  refine ⟨CD, [], _, G, fun vs H Q E h a dx ha hd ne => ?_⟩
  obtain ⟨z, rfl, hz, q⟩ := h
  exact ⟨a, dx, z, rfl, upd_same, hz, fun H' e b => ⟨rfl, q H' a (same_new ha hd b) ha ⟨dx, e⟩⟩⟩
theorem mkf0 (G : Mkr P w K mg base CX0 2 "Disk" CD [.str ""] (spDI CD)) : Mkf P w K mg base CX0 2 "Disk" (spMk0 CD) := by
  refine ⟨CD, [.str ""], _, G, fun vs H Q E h a dx ha hd ne => ?_⟩
  obtain ⟨rfl, q⟩ := h
  exact ⟨a, dx, "", rfl, upd_same, by decide, fun H' e b => ⟨rfl, q H' a (same_new ha hd b) ha ⟨dx, e⟩⟩⟩
/-! ### its methods -/
def spGetT (C : Addr) : Sp := fun vs H Q _ => ∃ p z n, vs = [.ref p] ∧ DAt C H p z n ∧ Q (.str z) H
def spGetS (C : Addr) : Sp := fun vs H Q _ => ∃ (p : Addr) (z : Str) (n : Nat), vs = [.ref p] ∧ DAt C H p z n ∧ Q (.int n) H
theorem ok_content (T : Tx K mg CD CJ) (F : FD K "content" "Disk.content" s_Disk_content [] f fd) : FnG P w K mg base CX0 1 f fd ["self"] (spGetT CD) := by
  refine ok0 F sc_Disk_content (fun vs H Q E h => ?_) (fun cdv A outer s H vs Q E hr h => ?_)
  · obtain ⟨p, z, n, rfl, _⟩ := h
    rfl
  · obtain ⟨p, z, n, rfl, ⟨dx, hp⟩, q⟩ := h
    exact ⟨_, (pss_one (ps_ret (pe_fld (pv 0) rfl))), _, rfl, p, CD, dx, _, _, rfl, hp, T.cD, T.nT, look_t _ _, q⟩
theorem ok_sure (T : Tx K mg CD CJ) (F : FD K "sure" "Disk.sure" s_Disk_sure [] f fd) : FnG P w K mg base CX0 1 f fd ["self"] (spGetS CD) := by
  refine ok0 F sc_Disk_sure (fun vs H Q E h => ?_) (fun cdv A outer s H vs Q E hr h => ?_)
  · obtain ⟨p, z, n, rfl, _⟩ := h
    rfl
  · obtain ⟨p, z, n, rfl, ⟨dx, hp⟩, q⟩ := h
    exact ⟨_, (pss_one (ps_ret (pe_fld (pv 0) rfl))), _, rfl, p, CD, dx, _, _, rfl, hp, T.cD, T.nS, look_s _ _, q⟩
def spApp (C : Addr) : Sp := fun vs H Q _ => ∃ p t z n, vs = [.ref p, .str t] ∧ DAt C H p z n ∧ z.length + t.length ≤ 100000 ∧ ∀ H', But p H H' → DAt C H' p (z ++ t) n → Q (.int ((z ++ t).length : Nat)) H'
theorem ok_append (T : Tx K mg CD CJ) (G_check_text : Fnc P w K mg base CX0 1 "check_text" [] spChk) (F : FD K "append" "Disk.append" s_Disk_append [] f fd) : FnG P w K mg base CX0 2 f fd ["self", "text"] (spApp CD) := by
  refine ok0 F sc_Disk_append (fun vs H Q E h => ?_) (fun cdv A outer s H vs Q E hr h => ?_)
  · obtain ⟨p, t, z, n, rfl, _⟩ := h
    rfl
  · obtain ⟨p, t, z, n, rfl, ⟨dx, hp⟩, hz, q⟩ := h
    refine ⟨_, (pss_cons (ps_expr (pe_fn G_check_text (hr.mono (by decide)) pass0 (pa_cons (pv 1) pa_nil)))
      (pss_cons (ps_fld (pv 0) (pe_op op_add_str (pe_fld (pv 0) rfl) (pv 1)) rfl)
      (pss_one (ps_ret (pe_callB call_len_str (by rfl) T.n_len (by decide +kernel) (pa_cons (pe_fld (pv 0) rfl) pa_nil)))))), ?_⟩
    refine ⟨_, rfl, t, rfl, ?_⟩
    refine ⟨_, rfl, p, CD, dx, _, _, rfl, hp, T.cD, T.nT, look_t _ _, _, rfl, _, _, rfl, rfl, small hz, _, rfl, p, CD, dx, _, rfl, hp, T.cD, T.nT, (by show 2 < 1000; decide), ?_⟩
    have e2 : upd H p (.ins CD dx (putF "own_text" (.str (z ++ t)) (dfl z n))) p = some (.ins CD dx (dfl (z ++ t) n)) := by rw [upd_same, put_t]
    refine ⟨_, rfl, p, CD, dx, _, _, rfl, e2, T.cD, T.nT, look_t _ _, _, rfl, (by rw [strLen_append]; exact small hz), ?_⟩
    exact q _ but_upd ⟨dx, e2⟩
def spSync (C : Addr) : Sp := fun vs H Q _ => ∃ (p : Addr) (z : Str) (n : Nat), vs = [.ref p] ∧ DAt C H p z n ∧ z.length ≤ 100000 ∧ ∀ H', But p H H' → DAt C H' p z z.length → Q (.int z.length) H'
theorem ok_sync (T : Tx K mg CD CJ) (F : FD K "sync" "Disk.sync" s_Disk_sync [] f fd) : FnG P w K mg base CX0 1 f fd ["self"] (spSync CD) := by
  refine ok0 F sc_Disk_sync (fun vs H Q E h => ?_) (fun cdv A outer s H vs Q E hr h => ?_)
  · obtain ⟨p, z, n, rfl, _⟩ := h
    rfl
  · obtain ⟨p, z, n, rfl, ⟨dx, hp⟩, hz, q⟩ := h
    refine ⟨_, (pss_cons (ps_fld (pv 0) (pe_callB call_len_str (by rfl) T.n_len (by decide +kernel) (pa_cons (pe_fld (pv 0) rfl) pa_nil)) rfl)
      (pss_one (ps_ret (pe_fld (pv 0) rfl)))), ?_⟩
    refine ⟨_, rfl, p, CD, dx, _, _, rfl, hp, T.cD, T.nT, look_t _ _, _, rfl, small hz, _, rfl, p, CD, dx, _, rfl, hp, T.cD, T.nS, (by show 2 < 1000; decide), ?_⟩
    have e2 : upd H p (.ins CD dx (putF "own_sure" (.int z.length) (dfl z n))) p = some (.ins CD dx (dfl z z.length)) := by rw [upd_same, put_s]
    exact ⟨_, rfl, p, CD, dx, _, _, rfl, e2, T.cD, T.nS, look_s _ _, q _ but_upd ⟨dx, e2⟩⟩
def spStop (C : Addr) : Sp := fun vs H Q _ => ∃ (p : Addr) (z : Str) (n m : Nat), vs = [.ref p, .int m] ∧ DAt C H p z n ∧ z.length ≤ 100000 ∧ n ≤ m ∧ m ≤ z.length ∧ ∀ H' r, Same H H' → H r = none → DAt C H' r (S ((tl z).take m)) m → Q (.ref r) H'
theorem cut_to (z : Str) (m : Nat) : cutS z none (some (m : Int)) = S ((tl z).take m) := cutS_to z m
theorem cut_len {z : Str} {m : Nat} (h : m ≤ z.length) : (S ((tl z).take m)).length = m := by
  show (((tl z).take m).toArray).size = m
  rw [List.size_toArray, List.length_take, show (tl z).length = z.length from (TL.len_tl z).symm]
  omega
theorem ok_stopped (T : Tx K mg CD CJ) (K_Disk1 : Mkf P w K mg base CX0 2 "Disk" (spMk1 CD)) (F : FD K "stopped" "Disk.stopped" s_Disk_stopped [] f fd) :
    FnG P w K mg base CX0 4 f fd ["self", "length"] (spStop CD) := by
  refine ok0 F sc_Disk_stopped (fun vs H Q E h => ?_) (fun cdv A outer s H vs Q E hr h => ?_)
  · obtain ⟨p, z, n, m, rfl, _⟩ := h
    rfl
  · obtain ⟨p, z, n, m, rfl, ⟨dx, hp⟩, hz, h1, h2, q⟩ := h
    refine ⟨_, (pss_cons (ps_if (PW.pt (pw_or (pt_not (pt_val (pe_callB call_isi (by rfl) T.n_isinstance (by decide +kernel) (pa_cons (pv 1) (pa_cons (pe_bltn (v := .ty "int") (by rfl) T.n_int (by decide +kernel) rfl) pa_nil))))) (pw_or1 (pt_val (pe_callB call_isi (by rfl) T.n_isinstance (by decide +kernel) (pa_cons (pv 1) (pa_cons (pe_bltn (v := .ty "bool") (by rfl) T.n_bool (by decide +kernel) rfl) pa_nil))))))) (pss_one ps_never) pss_nil)
      (pss_cons (ps_if (pt_not (pt_chain op_le op_le (pe_fld (pv 0) rfl) (pv 1) (pe_callB call_len_str (by rfl) T.n_len (by decide +kernel) (pa_cons (pe_fld (pv 0) rfl) pa_nil)))) (pss_one ps_never) pss_nil)
      (pss_one (ps_ret (pe_mf K_Disk1 (hr.mono (by decide)) pass0 (pa_cons (pe_slice sl_str (pe_fld (pv 0) rfl) po_none (po_some (pv 1))) pa_nil)))))), ?_⟩
    refine ⟨_, rfl, _, _, .type "int", _, _, rfl, .ty "int", .base (.int _), kII, _, rfl, iteF ?_⟩
    refine ⟨_, rfl, _, _, .type "int", _, _, rfl, .ty "bool", .base (.int _), kIB, _, rfl, iteF ?_⟩
    refine ⟨_, rfl, p, CD, dx, _, _, rfl, hp, T.cD, T.nS, look_s _ _, _, rfl, _, _, rfl, rfl, _, rfl, iteY (decide_eq_true (by omega)) ?_⟩
    refine ⟨_, rfl, p, CD, dx, _, _, rfl, hp, T.cD, T.nT, look_t _ _, _, rfl, small hz, _, _, rfl, rfl, _, rfl, iteN (by rw [decide_eq_true (by omega)]; rfl) ?_⟩
    have cl := cut_len h2
    refine ⟨_, rfl, p, CD, dx, _, _, rfl, hp, T.cD, T.nT, look_t _ _, _, rfl, m, rfl, z, rfl, small hz, _, rfl, ?_, fun H' r s n da => q H' r s n ?_⟩
    · rw [cut_to, cl]
      omega
    · rw [cut_to, cl] at da
      exact da
/-- self.without(m) -/
def spWo (C : Addr) : Sp := fun vs H Q _ => ∃ (p : Addr) (z : Str) (n m : Nat), vs = [.ref p, .int m] ∧ DAt C H p z n ∧ z.length ≤ 100000 ∧ ∀ H' r, Same H H' → H r = none → DAt C H' r (S ((tl z).drop m)) (n - m) → Q (.ref r) H'
theorem cut_from (z : Str) (m : Nat) : cutS z (some (m : Int)) none = S ((tl z).drop m) := cutS_from z m
theorem ok_without (T : Tx K mg CD CJ) (K_Disk1 : Mkf P w K mg base CX0 2 "Disk" (spMk1 CD)) (F : FD K "without" "Disk.without" s_Disk_without [] f fd) : FnG P w K mg base CX0 4 f fd ["self", "length"] (spWo CD) := by
  refine ok0 F sc_Disk_without (fun vs H Q E h => ?_) (fun cdv A outer s H vs Q E hr h => ?_)
  · obtain ⟨p, z, n, m, rfl, _⟩ := h
    rfl
  · obtain ⟨p, z, n, m, rfl, ⟨dx, hp⟩, hz, q⟩ := h
    refine ⟨_, (pss_cons (ps_set (i := 2) sc_Disk_without.nd rfl (by first | exact Or.inl rfl | exact Or.inr rfl) (pe_mf K_Disk1 (hr.mono (by decide)) pass0 (pa_cons (pe_slice sl_str (pe_fld (pv 0) rfl) (po_some (pv 1)) po_none) pa_nil)))
      (pss_cons (ps_fld (pv 2) (pe_callB (call_max2 rfl) (by rfl) T.n_max (by decide +kernel) (pa_cons pe_int (pa_cons (pe_op op_sub (pe_fld (pv 0) rfl) (pv 1)) pa_nil))) rfl)
      (pss_one (ps_ret (pv 2))))), ?_⟩
    refine ⟨_, rfl, p, CD, dx, _, _, rfl, hp, T.cD, T.nT, look_t _ _, _, rfl, m, rfl, z, rfl, small hz, _, rfl, ?_, fun H1 r s1 n1 da => ?_⟩
    · rw [cut_from]
      show ((tl z).drop m).toArray.size ≤ _
      rw [List.size_toArray, List.length_drop, show (tl z).length = z.length from (TL.len_tl z).symm]
      omega
    · rw [cut_from] at da
      obtain ⟨dy, e1⟩ := da
      have hp1 := s1 _ _ hp
      have e3 : (if (n : Int) - (m : Int) > 0 then (n : Int) - (m : Int) else 0) = ((n - m : Nat) : Int) := by split <;> omega
      refine ⟨_, rfl, p, CD, dx, _, _, rfl, hp1, T.cD, T.nS, look_s _ _, _, rfl, _, _, rfl, rfl, _, _, rfl, _, rfl, r, CD, dy, _, rfl, e1, T.cD, T.nS, (by show 2 < 1000; decide), ?_⟩
      refine ⟨_, rfl, q _ r (fun b o e => ?_) n1 ⟨dy, upd_same.trans ?_⟩⟩
      · rw [upd_ne (ne_of_none e n1)]
        exact s1 _ _ e
      · rw [e3, put_s]
def spClone (C : Addr) : Sp := fun vs H Q _ => ∃ (p : Addr) (z : Str) (n : Nat), vs = [.ref p] ∧ DAt C H p z n ∧ z.length ≤ 100000 ∧ ∀ H' r, Same H H' → H r = none → DAt C H' r z n → Q (.ref r) H'
theorem ok_clone (T : Tx K mg CD CJ) (M_D_without : Mth P w K mg base CX0 4 CD "without" [] (spWo CD)) (F : FD K "clone" "Disk.clone" s_Disk_clone [] f fd) : FnG P w K mg base CX0 5 f fd ["self"] (spClone CD) := by
  refine ok0 F sc_Disk_clone (fun vs H Q E h => ?_) (fun cdv A outer s H vs Q E hr h => ?_)
  · obtain ⟨p, z, n, rfl, _⟩ := h
    rfl
  · obtain ⟨p, z, n, rfl, ⟨dx, hp⟩, hz, q⟩ := h
    refine ⟨_, (pss_one (ps_ret (pe_mt M_D_without (hr.mono (by decide)) pass0 (pv 0) (pa_cons pe_int pa_nil)))), ?_⟩
    refine ⟨_, rfl, p, dx, _, rfl, hp, look_no _ _ (by decide +kernel) (by decide +kernel), p, z, n, 0, rfl, ⟨dx, hp⟩, hz, fun H' r s e da => q H' r s e ?_⟩
    rw [List.drop_zero, S_tl, Nat.sub_zero] at da
    exact da
/-- x == y -/
def spEq (C : Addr) : Sp := fun vs H Q _ => ∃ (p r : Addr) (z y : Str) (n m : Nat), vs = [.ref p, .ref r] ∧ DAt C H p z n ∧ DAt C H r y m ∧ Q (.bl (decide (z = y) && decide (n = m))) H
theorem decS (i j : Str) : decide (V.str i = V.str j) = decide (i = j) := decide_eq_decide.mpr ⟨fun h => V.str.inj h, fun h => by rw [h]⟩
theorem decV (i j : Int) : decide (V.int i = V.int j) = decide (i = j) := decide_eq_decide.mpr ⟨fun h => V.int.inj h, fun h => by rw [h]⟩
theorem decN (i j : Nat) : decide (V.int (i : Int) = V.int (j : Int)) = decide (i = j) := decide_eq_decide.mpr ⟨fun h => Int.ofNat.inj (V.int.inj h), fun h => by rw [h]⟩
theorem tyD (T : Tx K mg CD CJ) {H : Hp} {p dx : Addr} {fs : List (Str × V)} (h : H p = some (.ins CD dx fs)) : TyX K H (.ref p) (.ref CD) := .base (.ins h T.cD T.caD T.cn T.ct T.cmD)
theorem tyJ (T : Tx K mg CD CJ) {H : Hp} {p dx : Addr} {fs : List (Str × V)} (h : H p = some (.ins CJ dx fs)) : TyX K H (.ref p) (.ref CJ) := .base (.ins h T.cJ T.caJ T.cn T.ct T.cmJ)
theorem ok_deq (T : Tx K mg CD CJ) (F : FD K "__eq__" "Disk.__eq__" s_Diskeq [] f fd) : FnG P w K mg base CX0 1 f fd ["self", "other"] (spEq CD) := by
  refine ok0 F sc_Diskeq (fun vs H Q E h => ?_) (fun cdv A outer s H vs Q E hr h => ?_)
  · obtain ⟨p, r, z, y, n, m, rfl, _⟩ := h
    rfl
  · obtain ⟨p, r, z, y, n, m, rfl, ⟨dx, hp⟩, ⟨dy, hr1⟩, q⟩ := h
    refine ⟨_, (pss_one (ps_ret (pe_and (pe_callB call_isi (by rfl) T.n_isinstance (by decide +kernel) (pa_cons (pv 1) (pa_cons (pe_glob (v := .ref CD) (by rfl) T.g_Disk rfl) pa_nil))) (pe_and (pe_cmpR op_eq (pe_fld (pv 0) rfl) (pe_fld (pv 1) rfl) (nomark _)) (pe_one (pe_cmpR op_eq (pe_fld (pv 0) rfl) (pe_fld (pv 1) rfl) (nomark _))))))), ?_⟩
    refine ⟨_, rfl, _, _, .ref CD, _, _, rfl, .own CD, tyD T hr1, T.kD, _, rfl, iteT ?_⟩
    refine ⟨_, rfl, p, CD, dx, _, _, rfl, hp, T.cD, T.nT, look_t _ _, _, rfl, r, CD, dy, _, _, rfl, hr1, T.cD, T.nT, look_t _ _, rfl, _, rfl, iteB (fun e => ?_) (fun e => ?_)⟩
    · refine ⟨_, rfl, p, CD, dx, _, _, rfl, hp, T.cD, T.nS, look_s _ _, _, rfl, r, CD, dy, _, _, rfl, hr1, T.cD, T.nS, look_s _ _, rfl, ?_⟩
      rw [decS] at e
      rw [decN]
      rw [e] at q
      exact q
    · rw [decS] at e
      rw [e] at q
      exact q
end
end K77

set_option Elab.async false
set_option linter.all false
set_option maxRecDepth 100000
set_option maxHeartbeats 4000000
/-! O77b: seals. -/
namespace K77
open PySem PySem.Spec PyProof.Rows L2 LL K75 JN
abbrev s_is_record : Stmt := top 25
abbrev n_is_record : List Str := ["value"]
theorem sc_is_record : FnScope n_is_record ["value"] (defScope s_is_record) := ⟨rfl, rfl, rfl, by decide +kernel, rfl, by decide +kernel, by decide +kernel⟩
abbrev s_check_of : Stmt := top 26
abbrev n_check_of : List Str := ["record", "check", "character"]
theorem sc_check_of : FnScope n_check_of ["record"] (defScope s_check_of) := ⟨rfl, rfl, rfl, by decide +kernel, rfl, by decide +kernel, by decide +kernel⟩
abbrev s_sealed : Stmt := top 27
abbrev n_sealed : List Str := ["record"]
theorem sc_sealed : FnScope n_sealed ["record"] (defScope s_sealed) := ⟨rfl, rfl, rfl, by decide +kernel, rfl, by decide +kernel, by decide +kernel⟩
abbrev s_record_in : Stmt := top 28
abbrev n_record_in : List Str := ["line", "length", "space", "rest", "check", "gap", "record"]
theorem sc_record_in : FnScope n_record_in ["line"] (defScope s_record_in) := ⟨rfl, rfl, rfl, by decide +kernel, rfl, by decide +kernel, by decide +kernel⟩
abbrev s_whole_records : Stmt := top 29
abbrev n_whole_records : List Str := ["text", "found", "line", "record"]
theorem sc_whole_records : FnScope n_whole_records ["text"] (defScope s_whole_records) := ⟨rfl, rfl, rfl, by decide +kernel, rfl, by decide +kernel, by decide +kernel⟩
section
variable {P : Program} {w : World} {K : PySem.W.Frag} {mg : Str → Option Value} {base : Heap} {CD CJ : Addr} {f : Addr} {fd : FuncData}
/-! ### is_record -/
def spIs : Sp := fun vs H Q _ => ∃ z : Str, vs = [.str z] ∧ Q (.bl (!decide (10 ∈ tl z))) H
theorem ok_is_record (T : Tx K mg CD CJ) (F : FD K "is_record" "is_record" s_is_record [] f fd) : FnG P w K mg base CX0 1 f fd ["value"] spIs := by
  refine ok0 F sc_is_record (fun vs H Q E h => ?_) (fun cdv A outer s H vs Q E hr h => ?_)
  · obtain ⟨z, rfl, _⟩ := h
    rfl
  · obtain ⟨z, rfl, q⟩ := h
    refine ⟨_, (pss_one (ps_ret (pe_and (pe_callB call_isi (by rfl) T.n_isinstance (by decide +kernel) (pa_cons (pv 0) (pa_cons (pe_bltn (v := .ty "str") (by rfl) T.n_str (by decide +kernel) rfl) pa_nil))) (pe_one (pe_cmpR op_notIn_sign (pe_gS T.g_FEED) (pv 0) (by rfl)))))), ?_⟩
    exact ⟨_, rfl, _, _, .type "str", _, _, rfl, .ty "str", .base (.str _), kSS, _, rfl, iteT ⟨_, rfl, 10, z, rfl, rfl, q⟩⟩
/-! ### check_of -/
def spCk : Sp := fun vs H Q _ => ∃ z : Str, vs = [.str z] ∧ Q (.int (chk (tl z) : Nat)) H
theorem chk_snoc (c : Nat) (l : List Nat) (x : Nat) : chkF c (l ++ [x]) = (31 * chkF c l + x) % 1000003 := by
  unfold chkF
  rw [List.foldl_append]
  rfl
theorem ok_check_of (T : Tx K mg CD CJ) (F : FD K "check_of" "check_of" s_check_of [] f fd) : FnG P w K mg base CX0 1 f fd ["record"] spCk := by
  refine ok0 F sc_check_of (fun vs H Q E h => ?_) (fun cdv A outer s H vs Q E hr h => ?_)
  · obtain ⟨z, rfl, _⟩ := h
    rfl
  · obtain ⟨z, rfl, q⟩ := h
    refine ⟨_, (pss_cons (ps_set (i := 1) sc_check_of.nd rfl (by first | exact Or.inl rfl | exact Or.inr rfl) (pe_gI T.g_FIRST_CHECK))
      (pss_cons (ps_for PassesOwn.never rfl (pi_str (pv 0)) (pg_name (i := 2) sc_check_of.nd rfl (by first | exact Or.inl rfl | exact Or.inr rfl)) (pss_one (ps_set (i := 1) sc_check_of.nd rfl (by first | exact Or.inl rfl | exact Or.inr rfl) (pe_op op_mod (pe_op op_add (pe_op op_mulX (pe_gI T.g_FACTOR) (pv 1)) (pe_callB call_ord (by rfl) T.n_ord (by decide +kernel) (pa_cons (pv 2) pa_nil))) (pe_gI T.g_MODULUS)))))
      (pss_one (ps_ret (pv 1))))), ?_⟩
    refine ⟨_, rfl, z, rfl, ?_⟩
    refine for_it (walk_str (z := z)) (fun i σ H' => H' = H ∧ ∃ v, σ = [some (.str z), some (.int (chkF 7 ((tl z).take i) : Nat)), v]) ⟨rfl, none, rfl⟩ (fun _ _ _ _ _ => trivial) ?_ ?_
    · rintro i x σ H' H2 hi ⟨rfl, v, rfl⟩ ⟨rfl, c, hc, rfl⟩
      have hl := chkF_lt (c := 7) (by decide) ((tl z).take i)
      have hc' : (tl z)[i]? = some c := by rw [← Array.getElem?_toList] at hc; exact hc
      refine ⟨_, rfl, _, _, rfl, rfl, mulx_ok (a := 5) (b := 20) (by decide) (by omega) (by decide), _, rfl, _, rfl, rfl, _, _, rfl, rfl, _, _, rfl, rfl, (show (0 : Int) < 1000003 by decide), ?_⟩
      refine ⟨rfl, some (.str ⟨#[c]⟩), ?_⟩
      rw [List.take_add_one, hc', Option.toList_some, chk_snoc]
      rfl
    · rintro σ H' ⟨rfl, v, rfl⟩
      have e : (tl z).take z.cps.size = tl z := List.take_of_length_le (by show (z.cps.toList).length ≤ _; simp)
      rw [e]
      exact ⟨_, rfl, q⟩
/-! ### sealed -/
theorem tl_numS (n : Nat) : tl (Str.ofString (toString ((n : Nat) : Int))) = dg n := TL.tl_num n
theorem chk_lt (l : List Nat) : chk l < 1000003 := chkF_lt (by decide) l
theorem num_lenS {n : Nat} (h : n < 10 ^ 9) : (Str.ofString (toString ((n : Nat) : Int))).length ≤ 9 := by
  rw [TL.len_tl, TL.tl_num]
  exact TL.numL_len (by decide) h
theorem log_nat {n : Nat} (h : n < 10 ^ 9) : (n : Int).natAbs.log2 < 1920 := log_small (Nat.lt_of_lt_of_le (show (n : Int).natAbs < 10 ^ 9 by omega) (by decide))
def spSealed : Sp := fun vs H Q _ => ∃ z : Str, vs = [.str z] ∧ 10 ∉ tl z ∧ z.length ≤ 50000 ∧ Q (.str (S (row (tl z)))) H
theorem row_str (z : Str) : Str.ofString (toString ((z.length : Nat) : Int)) ++ ⟨#[32]⟩ ++ Str.ofString (toString ((chk (tl z) : Nat) : Int)) ++ ⟨#[32]⟩ ++ z ++ ⟨#[10]⟩ = S (row (tl z)) := by
  apply TL.ext_tl
  show tl _ = row (tl z)
  rw [tl_app, tl_app, tl_app, tl_app, tl_app, tl_numS, tl_numS, tl_one, tl_one, TL.len_tl]
  unfold row
  simp
theorem ok_sealed (T : Tx K mg CD CJ) (G_is_record : Fnc P w K mg base CX0 1 "is_record" [] spIs) (G_check_of : Fnc P w K mg base CX0 1 "check_of" [] spCk) (F : FD K "sealed" "sealed" s_sealed [] f fd) : FnG P w K mg base CX0 2 f fd ["record"] spSealed := by
  refine ok0 F sc_sealed (fun vs H Q E h => ?_) (fun cdv A outer s H vs Q E hr h => ?_)
  · obtain ⟨z, rfl, _⟩ := h
    rfl
  · obtain ⟨z, rfl, hz, lz, q⟩ := h
    refine ⟨_, (pss_cons (ps_if (pt_not (pt_val (pe_fn G_is_record (hr.mono (by decide)) pass0 (pa_cons (pv 0) pa_nil)))) (pss_one ps_never) pss_nil)
      (pss_one (ps_ret (pe_op op_add_str (pe_op op_add_str (pe_op op_add_str (pe_op op_add_str (pe_op op_add_str (pe_callTy call_str_int (by rfl) T.n_str (by decide +kernel) (pa_cons (pe_callB call_len_str (by rfl) T.n_len (by decide +kernel) (pa_cons (pv 0) pa_nil)) pa_nil)) (pe_gS T.g_SPACE_seals)) (pe_callTy call_str_int (by rfl) T.n_str (by decide +kernel) (pa_cons (pe_fn G_check_of (hr.mono (by decide)) pass0 (pa_cons (pv 0) pa_nil)) pa_nil))) (pe_gS T.g_SPACE_seals)) (pv 0)) (pe_gS T.g_FEED))))), ?_⟩
    · refine ⟨_, rfl, z, rfl, _, rfl, iteN (by rw [decide_eq_false hz]; rfl) ?_⟩
      have h1 := chk_lt (tl z)
      have n1 : (Str.ofString (toString ((z.length : Nat) : Int))).length ≤ 9 := num_lenS (by omega)
      have n2 : (Str.ofString (toString ((chk (tl z) : Nat) : Int))).length ≤ 9 := num_lenS (by omega)
      have b1 : ((⟨#[32]⟩ : Str)).length = 1 := rfl
      have b2 : ((⟨#[10]⟩ : Str)).length = 1 := rfl
      rw [← row_str] at q
      refine ⟨_, rfl, _, rfl, small (by omega), _, rfl, log_nat (by omega), _, _, rfl, rfl, small (by omega), _, rfl, z, rfl, _, rfl, log_nat (by omega), _, _, rfl, rfl, ?_, _, _, rfl, rfl, ?_, _, rfl, _, _, rfl, rfl, ?_, _, _, rfl, rfl, ?_, q⟩
      · rw [strLen_append]
        exact small (by omega)
      · rw [strLen_append, strLen_append]
        exact small (by omega)
      · rw [strLen_append, strLen_append, strLen_append]
        exact small (by omega)
      · rw [strLen_append, strLen_append, strLen_append, strLen_append]
        exact small (by omega)
/-! ### record_in -/
def optV : Option (List Nat) → V
  | some r => .str (S r)
  | none => .non
theorem mem_aft {x : Nat} : ∀ {l : List Nat}, x ∈ aft l → x ∈ l
  | [], h => h
  | c :: r, h => by
    have h' : x ∈ (if c = 32 then r else aft r) := h
    split at h'
    · exact List.mem_cons_of_mem _ h'
    · exact List.mem_cons_of_mem _ (mem_aft h')
theorem len_aft : ∀ l : List Nat, (aft l).length ≤ l.length
  | [] => Nat.le_refl _
  | c :: r => by
    show (if c = 32 then r else aft r).length ≤ _
    split
    · exact Nat.le_succ _
    · exact Nat.le_trans (len_aft r) (Nat.le_succ _)
def spRin : Sp := fun vs H Q _ => ∃ z : Str, vs = [.str z] ∧ 10 ∉ tl z ∧ z.length ≤ 40000 ∧ ∀ H', Same H H' → Q (optV (rin (tl z))) H'
theorem ok_record_in (T : Tx K mg CD CJ) (G_sealed : Fnc P w K mg base CX0 2 "sealed" [] spSealed) (F : FD K "record_in" "record_in" s_record_in [] f fd) : FnG P w K mg base CX0 3 f fd ["line"] spRin := by
  refine ok0 F sc_record_in (fun vs H Q E h => ?_) (fun cdv A outer s H vs Q E hr h => ?_)
  · obtain ⟨z, rfl, _⟩ := h
    rfl
  · obtain ⟨z, rfl, hz, lz, q⟩ := h
    refine ⟨_, (pss_cons (ps_asg (pe_partition (pv 0) (pe_gS T.g_SPACE_seals)) (pg_tup rfl (pgs_cons (pg_name (i := 1) sc_record_in.nd rfl (by first | exact Or.inl rfl | exact Or.inr rfl)) (pgs_cons (pg_name (i := 2) sc_record_in.nd rfl (by first | exact Or.inl rfl | exact Or.inr rfl)) (pgs_cons (pg_name (i := 3) sc_record_in.nd rfl (by first | exact Or.inl rfl | exact Or.inr rfl)) pgs_nil)))))
      (pss_cons (ps_asg (pe_partition (pv 3) (pe_gS T.g_SPACE_seals)) (pg_tup rfl (pgs_cons (pg_name (i := 4) sc_record_in.nd rfl (by first | exact Or.inl rfl | exact Or.inr rfl)) (pgs_cons (pg_name (i := 5) sc_record_in.nd rfl (by first | exact Or.inl rfl | exact Or.inr rfl)) (pgs_cons (pg_name (i := 6) sc_record_in.nd rfl (by first | exact Or.inl rfl | exact Or.inr rfl)) pgs_nil)))))
      (pss_one (ps_ret (pe_ifExp (pt_cmpR op_eq (pe_fn G_sealed (hr.mono (by decide)) pass0 (pa_cons (pv 6) pa_nil)) (pe_op op_add_str (pv 0) (pe_gS T.g_FEED)) (nomark _)) (pv 6) pe_non))))), ?_⟩
    have b1 : (((⟨#[32]⟩ : Str)).length == 0) = false := by decide +kernel
    refine ⟨_, rfl, ⟨_, rfl⟩, z, _, rfl, rfl, b1, small (by omega), fun t nt => ?_⟩
    refine ⟨t, _, rfl, SqT.of upd_same, rfl, _, _, rfl, _, _, rfl, _, _, rfl, rfl, ?_⟩
    have e1 := part_aft z
    generalize Txt.partition z ⟨#[32]⟩ = p1 at *
    have l1 : p1.2.2.length ≤ z.length := by
      rw [TL.len_tl, TL.len_tl, show TL.tl p1.2.2 = _ from e1]
      exact len_aft _
    refine ⟨_, rfl, ⟨_, rfl⟩, p1.2.2, _, rfl, rfl, b1, small (by omega), fun u nu => ?_⟩
    refine ⟨u, _, rfl, SqT.of upd_same, rfl, _, _, rfl, _, _, rfl, _, _, rfl, rfl, ?_⟩
    have e2 := part_aft p1.2.2
    generalize Txt.partition p1.2.2 ⟨#[32]⟩ = p2 at *
    have l2 : p2.2.2.length ≤ p1.2.2.length := by
      rw [TL.len_tl, TL.len_tl, show TL.tl p2.2.2 = _ from e2]
      exact len_aft _
    have e3 : tl p2.2.2 = cand (tl z) := by rw [e2, e1]; rfl
    have h10 : 10 ∉ tl p2.2.2 := fun w => hz (mem_aft (mem_aft (show 10 ∈ aft (aft (tl z)) from (by rw [e3] at w; exact w))))
    refine ⟨_, rfl, _, rfl, h10, by omega, _, rfl, _, _, rfl, rfl, small (by show z.length + 1 ≤ _; omega), rfl, _, rfl, ?_⟩
    have same := (same_upd (o := .tup [.str p1.1, .str p1.2.1, .str p1.2.2]) nt).trans (same_upd (o := .tup [.str p2.1, .str p2.2.1, .str p2.2.2]) nu)
    have qq := q _ same
    have cmp : (V.str (S (row (tl p2.2.2))) = V.str (z ++ ⟨#[10]⟩)) ↔ row (cand (tl z)) = tl z ++ [10] := by
      rw [e3]
      constructor
      · intro h
        have := congrArg tl (V.str.inj h)
        rw [tl_app, tl_S] at this
        exact this
      · intro h
        rw [h]
        congr 1
        exact TL.ext_tl (by show tl (S _) = tl _; rw [tl_S, tl_app])
    unfold rin at qq
    refine iteB (fun c => ?_) (fun c => ?_)
    · rw [if_pos (cmp.mp (of_decide_eq_true c))] at qq
      refine ⟨_, rfl, ?_⟩
      have e4 : optV (some (cand (tl z))) = V.str p2.2.2 := congrArg V.str (TL.ext_tl e3).symm
      rw [e4] at qq
      exact qq
    · rw [if_neg (fun h => of_decide_eq_false c (cmp.mpr h))] at qq
      exact qq
/-! ### whole_records -/
theorem lin_ok : ∀ (n : Nat) (t : List Nat), t.length ≤ n → (∀ l ∈ lin t, 10 ∉ l ∧ l.length ≤ t.length) ∧ (lin t).length ≤ t.length + 1
  | 0, t, h => by
    have e : t = [] := List.length_eq_zero_iff.mp (by omega)
    subst e
    rw [lin_one (by simp)]
    exact ⟨fun l hl => by rw [List.mem_singleton.mp hl]; simp, by simp⟩
  | n + 1, t, h => by
    rcases line_cases t with c | ⟨l, r, hl, rfl⟩
    · rw [lin_one c]
      exact ⟨fun l hl => by rw [List.mem_singleton.mp hl]; exact ⟨c, Nat.le_refl _⟩, by simp⟩
    · rw [List.length_append, List.length_cons] at h
      obtain ⟨a, b⟩ := lin_ok n r (by omega)
      rw [lin_app hl, List.length_append, List.length_cons]
      refine ⟨fun x hx => ?_, by rw [List.length_cons]; omega⟩
      rcases List.mem_cons.mp hx with rfl | hx
      · exact ⟨hl, by omega⟩
      · exact ⟨(a x hx).1, by have := (a x hx).2; omega⟩
theorem wh_len : ∀ ls : List (List Nat), (wh ls).length ≤ ls.length
  | [] => Nat.le_refl _
  | l :: ls => by
    show (match rin l with | some r => r :: wh ls | none => []).length ≤ _
    have := wh_len ls
    split
    · rw [List.length_cons, List.length_cons]
      omega
    · exact Nat.zero_le _
theorem whole_len (t : List Nat) : (whole t).length ≤ t.length := by
  have h1 := (lin_ok _ t (Nat.le_refl _)).2
  have h2 := wh_len (lin t).dropLast
  rw [List.length_dropLast] at h2
  unfold whole
  omega
abbrev stV (rs : List (List Nat)) : List V := rs.map fun r => .str (S r)
def spWhole : Sp := fun vs H Q _ => ∃ z : Str, vs = [.str z] ∧ z.length ≤ 40000 ∧ ∀ H' p, Same H H' → H p = none → H' p = some (.lst (stV (whole (tl z)))) → Q (.ref p) H'
theorem ok_whole (T : Tx K mg CD CJ) (G_record_in : Fnc P w K mg base CX0 3 "record_in" [] spRin) (F : FD K "whole_records" "whole_records" s_whole_records [] f fd) : FnG P w K mg base CX0 4 f fd ["text"] spWhole := by
  refine ok0 F sc_whole_records (fun vs H Q E h => ?_) (fun cdv A outer s H vs Q E hr h => ?_)
  · obtain ⟨z, rfl, _⟩ := h
    rfl
  · obtain ⟨z, rfl, lz, q⟩ := h
    refine ⟨_, (pss_cons (ps_if (pt_not (pt_val (pe_callB call_isi (by rfl) T.n_isinstance (by decide +kernel) (pa_cons (pv 0) (pa_cons (pe_bltn (v := .ty "str") (by rfl) T.n_str (by decide +kernel) rfl) pa_nil))))) (pss_one ps_never) pss_nil)
      (pss_cons (ps_set (i := 1) sc_whole_records.nd rfl (by first | exact Or.inl rfl | exact Or.inr rfl) (pe_lst pa_nil))
      (pss_cons (ps_for PassesOwn.never rfl (pi_list (pe_slice sl_list (pe_split (pv 0) (pe_gS T.g_FEED)) po_none (po_some (pe_un un_neg pe_int)))) (pg_name (i := 2) sc_whole_records.nd rfl (by first | exact Or.inl rfl | exact Or.inr rfl)) (pss_cons (ps_set (i := 3) sc_whole_records.nd rfl (by first | exact Or.inl rfl | exact Or.inr rfl) (pe_fn G_record_in (hr.mono (by decide)) pass0 (pa_cons (pv 2) pa_nil)))
      (pss_cons (ps_if (pt_cmpR op_isN (pv 3) pe_non (nomark _)) (pss_one ps_break) pss_nil)
      (pss_one (ps_expr (pe_bm PySem.F.plainAttrs_list PySem.F.slot_list_append PySem.F.type_list_append mt_append (pv 1) (pa_cons (pv 3) pa_nil)))))))
      (pss_one (ps_ret (pv 1)))))), ?_⟩
    · refine ⟨_, rfl, _, _, .type "str", _, _, rfl, .ty "str", .base (.str _), kSS, _, rfl, iteF ?_⟩
      refine ⟨(by show 0 ≤ sizeLine; decide), fun D nD => ?_⟩
      have b1 : (((⟨#[10]⟩ : Str)).length == 0) = false := by decide +kernel
      refine ⟨_, rfl, ⟨_, rfl⟩, z, _, rfl, rfl, b1, small (by omega), fun p1 n1 => ?_⟩
      have nDp : D ≠ p1 := fun e => by rw [← e, upd_same] at n1; cases n1
      refine ⟨_, rfl, _, rfl, p1, _, rfl, SqL.of upd_same, fun p2 n2 => ?_⟩
      rw [cutV_last]
      have eL : (List.map V.str (Txt.split z ⟨#[10]⟩)).dropLast = stV (lin (tl z)).dropLast := by
        rw [← split_lin, ← List.map_dropLast, ← List.map_dropLast, stV, List.map_map]
        refine List.map_congr_left fun x _ => ?_
        show V.str x = V.str (S (tl x))
        rw [S_tl]
      rw [eL]
      have nDp2 : D ≠ p2 := fun e => by rw [← e, upd_ne nDp, upd_same] at n2; cases n2
      obtain ⟨ok, many⟩ := lin_ok _ (tl z) (Nat.le_refl _)
      have lt : (tl z).length = z.length := (TL.len_tl z).symm
      refine ⟨p2, rfl, ⟨_, SqL.of upd_same⟩, ?_⟩
      refine for_list (xs := stV (lin (tl z)).dropLast) (fun i σ H' => Same H H' ∧ H' p2 = some (.lst (stV (lin (tl z)).dropLast)) ∧ ∃ R v w, R.length = i ∧ H' D = some (.lst (stV R)) ∧ whole (tl z) = R ++ wh ((lin (tl z)).dropLast.drop i) ∧ σ = [some (.str z), some (.ref D), v, w]) ?_ ?_ ?_ ?_
      · refine ⟨((same_upd nD).trans (same_upd n1)).trans (same_upd n2), upd_same, [], none, none, rfl, ?_, rfl, rfl⟩
        rw [upd_ne nDp2, upd_ne nDp, upd_same]
        rfl
      · rintro i σ H' _ ⟨_, h2, _⟩
        exact SqL.of h2
      · rintro i x σ H' hx ⟨s1, h2, R, v, w, lR, hD, eR, rfl⟩
        obtain ⟨l, hl, rfl⟩ : ∃ l, (lin (tl z)).dropLast[i]? = some l ∧ x = .str (S l) := by
          rw [List.getElem?_map] at hx
          cases q : (lin (tl z)).dropLast[i]? with
          | none => rw [q] at hx; cases hx
          | some l => rw [q] at hx; exact ⟨l, rfl, (Option.some.inj hx).symm⟩
        obtain ⟨hi, hl'⟩ := List.getElem?_eq_some_iff.mp hl
        have ml : l ∈ lin (tl z) := List.dropLast_subset _ (List.mem_of_getElem? hl)
        have ll : (S l).length = l.length := TL.len_tl (S l)
        have e1 : wh ((lin (tl z)).dropLast.drop i) = match rin l with | some r => r :: wh ((lin (tl z)).dropLast.drop (i + 1)) | none => [] := by
          rw [List.drop_eq_getElem_cons hi, hl']
          rfl
        rw [List.length_dropLast] at hi
        refine ⟨_, rfl, _, rfl, (ok l ml).1, by have := (ok l ml).2; omega, fun H2 s2 => ?_⟩
        rw [tl_S]
        rw [e1] at eR
        cases hr : rin l with
        | none =>
          rw [hr] at eR
          refine ⟨_, rfl, rfl, _, rfl, iteY rfl ?_⟩
          refine ⟨_, rfl, q _ D (s1.trans s2) nD ?_⟩
          rw [eR, List.append_nil]
          exact s2 _ _ hD
        | some r =>
          rw [hr] at eR
          refine ⟨_, rfl, rfl, _, rfl, iteN rfl ?_⟩
          refine ⟨_, rfl, .inl ⟨rfl, _, SqL.of (s2 _ _ hD)⟩, _, rfl, D, _, _, rfl, rfl, s2 _ _ hD, ?_, ?_⟩
          · rw [List.length_map, lR]
            exact Nat.lt_of_lt_of_le (show i < 100000 by omega) (small (Nat.le_refl _))
          · refine ⟨fun b o e => ?_, by rw [upd_ne nDp2.symm]; exact s2 _ _ h2, R ++ [r], some (.str (S l)), some (.str (S r)), by rw [List.length_append, lR]; rfl, ?_, ?_, rfl⟩
            · rw [upd_ne (ne_of_none e nD)]
              exact s2 _ _ (s1 _ _ e)
            · rw [upd_same, stV, stV, List.map_append]
              rfl
            · rw [eR, List.append_assoc]
              rfl
      · rintro σ H' ⟨s1, h2, R, v, w, lR, hD, eR, rfl⟩
        refine ⟨_, rfl, q _ D s1 nD ?_⟩
        rw [stV, List.length_map, List.drop_length, show wh [] = [] from rfl, List.append_nil] at eR
        rw [eR]
        exact hD
end
end K77

set_option Elab.async false
set_option linter.all false
set_option maxRecDepth 100000
set_option maxHeartbeats 2000000
/-! LLNonT: None in a list or a tuple of None's, ints, tuples and lists. -/
namespace LL
open PySem PySem.Spec PyProof.Rows L2
/-- None, an int, a list or a tuple -/
inductive NonX (K : PySem.W.Frag) (H : Hp) : V → Prop
  | non : NonX K H .non
  | int (i : Int) : NonX K H (.int i)
  | lst {a : Addr} {ys : List V} (h : SqL K H a ys) : NonX K H (.ref a)
  | tup {a : Addr} {ys : List V} (h : SqT K H a ys) : NonX K H (.ref a)
section
variable {X : Cx} {pins : List (Addr × Obj)} {σ : L2.St} {H : Hp} {s : Shared}
theorem isNx_of {v : V} {u : Value} (r : RelV v u) (h : NonX X.K H v) : isNnU u = isNn v := by
  cases h with
  | non =>
    cases (show u = .none from r)
    rfl
  | int i =>
    obtain ⟨t, rfl⟩ := (show ∃ t, u = Value.int i t from r)
    rfl
  | lst h =>
    rename_i a ys
    cases (show u = .ref a from r)
    rfl
  | tup h =>
    rename_i a ys
    cases (show u = .ref a from r)
    rfl
theorem any_nonX : ∀ {xs : List V} {us : List Value}, Vals xs us → (∀ v ∈ xs, NonX X.K H v) → us.any isNnU = xs.any isNn
  | _, _, .nil, _ => rfl
  | y :: xs, u :: us, .cons r t, h => by
    rw [List.any_cons, List.any_cons, isNx_of r (h y (List.mem_cons_self ..)), any_nonX t fun v hv => h v (List.mem_cons_of_mem _ hv)]
theorem eqAt_nonX {A : Around} (I : Inv X pins σ H s) (hu : A.units < cLine) : ∀ {xs : List V} {us : List Value}, Vals xs us → (∀ v ∈ xs, NonX X.K H v) → ∀ u ∈ us, SeqAt.EqAt A s u .none (isNnU u)
  | _, _, .nil, _ => fun u hu => by cases hu
  | y :: xs, u :: us, .cons r t, h => fun u' hm => by
    rcases List.mem_cons.mp hm with rfl | hm
    · have hy := h y (List.mem_cons_self ..)
      cases hy with
      | non =>
        cases (show u' = .none from r)
        exact SeqAt.EqAt.same _
      | int i =>
        obtain ⟨t, rfl⟩ := (show ∃ t, u' = Value.int i t from r)
        exact SeqAt.EqAt.int_none i t
      | lst hl =>
        rename_i a ys
        cases (show u' = .ref a from r)
        obtain ⟨its, _, pl, _⟩ := I.list hl
        exact SeqAt.EqAt.list_none pl.isList hu
      | tup hl =>
        rename_i a ys
        cases (show u' = .ref a from r)
        obtain ⟨its, _, pl, _⟩ := I.tuple hl
        exact SeqAt.EqAt.tuple_none pl hu
    · exact eqAt_nonX I hu t (fun v hv => h v (List.mem_cons_of_mem _ hv)) u' hm
def rInX (K : PySem.W.Frag) : R2 := fun x y H Q => ∃ p xs, x = .non ∧ y = .ref p ∧ (SqL K H p xs ∨ SqT K H p xs) ∧ (∀ v ∈ xs, NonX K H v) ∧ Q (.bl (xs.any isNn)) H
theorem op_inX (hu : X.A.units + 65 < cLine) : OpR X (compareOp .In) (rInX X.K) := by
  intro pins s σ H x y v u Q I rx ry h
  obtain ⟨p, xs, rfl, rfl, hq, hx, q⟩ := h
  cases rx
  cases ry
  have hu1 : X.A.in1.units < cLine := by
    have : X.A.in1.units ≤ X.A.units + 1 := by
      first | exact Nat.le_refl _ | (unfold Around.in1; simp) | simp [Around.in1]
    omega
  rcases hq with hq | hq
  · obtain ⟨its, r, pl, hz⟩ := I.list hq
    refine SeqAt.in_listAt isNnU pl.isList (fun w hw => eqAt_nonX I hu1 r hx w (by simpa using hw)) ⟨.bl _, H, I, rfl, ?_⟩
    rw [show its.toArray.any isNnU = its.any isNnU by simp, any_nonX r hx]
    exact q
  · obtain ⟨its, r, pl, hz⟩ := I.tuple hq
    refine SeqAt.in_tupleAt isNnU pl (fun w hw => eqAt_nonX I hu1 r hx w (by simpa using hw)) ⟨.bl _, H, I, rfl, ?_⟩
    rw [show its.toArray.any isNnU = its.any isNnU by simp, any_nonX r hx]
    exact q
end
end LL

set_option Elab.async false
set_option linter.all false
set_option maxRecDepth 100000
set_option maxHeartbeats 3200000
/-! LLSetQ: sorted(set(xs)), xs a list or a tuple of pairs. -/
namespace LL
open PySem PySem.Spec PyProof.Rows L2
section
variable {P : Program} {w : World} {A : Around} {E : Value → Shared → Prop} {s : Shared}
/-- set(xs), xs a tuple of tuples of ints of which few are unlike -/
theorem call_setFT {l : Addr} {xs : Array Value} {ks : TL} {Q : Value → Shared → Prop} (nh : A.handled = none) (il : s.heap.IsTuple l xs) (ex : xs.toList = ks.map fun p => Value.ref p.1) (tk : ∀ p ∈ ks, IsT P w s.heap p.2 p.1) (few : Few ks) (un : A.units + 3 < cLine)
    (h : ∀ (g : Heap) (t : Nat), Has P w ks s.heap.objs.size ks.length g → Up s.heap g → Q (.ref s.heap.objs.size) { s with heap := g, toks := t }) : wpAny (model P w) A (call (.type "set") [.ref l]) Q E s := by
  have sz : xs.size = ks.length := by
    rw [← Array.length_toList, ex, List.length_map]
  obtain ⟨c0, t0, mr⟩ := F.called_set.mro
  have a1 := F.called_set.made
  have a2 := F.called_set.sub
  refine wpAny_call (codeAny_of_tree (?_))
  show wpAny _ _ (callAny (.type "set") _) _ _ s
  refine wpAny_pure ⟨Code.quiet_builtin _ (by decide +kernel), codeAny_builtin F.entry_type_call (?_)⟩
  rw [Around.under_plain (weight_type_call_type "set" [.ref l] []) rfl]
  have a3 := F.called_set.notType
  have a4 := F.called_set.canCreate
  have a5 := F.typeCall_set_1 (.ref l)
  repeat any_goals first | assumption | wp_step
  refine codeAny_mono (code_set_led1 (.ref l) (E := E) (Q₁ := fun z y => z = .ref s.heap.objs.size ∧ y = { s with heap := s.heap.push (set0 w) }) ⟨rfl, rfl⟩) fun r y hr => (?_)
  cases r with
  | error e => exact hr
  | ok fl =>
    cases fl with
    | ret z =>
      obtain ⟨rfl, rfl⟩ := hr
      have gz : (s.heap.push (set0 w)).get? s.heap.objs.size = some (set0 w) := Heap.get?_push_size _ rfl
      have tz : Shared.TypeIs { s with heap := s.heap.push (set0 w) } (.ref s.heap.objs.size) "set" := ⟨_, gz, rfl⟩
      have a6 := F.called_set.init.lookup
      have a7 := F.called_set.init.bind (.ref s.heap.objs.size)
      repeat any_goals first | assumption | wp_step
      refine codeAny_mono (codeAny_call_builtin (R := wants (fun r y => r = .none ∧ ∃ g t, y = { s with heap := g, toks := t } ∧ Has P w ks s.heap.objs.size ks.length g ∧ Up s.heap g) E) F.called_set.init.plain F.entry_set_init (check_set_init_1 tz (?_))) fun r2 y2 hr2 => (?_)
      · obtain ⟨ol, hol, hc, nl, hd⟩ := il
        obtain ⟨oc, od, odt, osl⟩ := ol
        simp only at hc hd
        subst hc
        subst hd
        have gl : (s.heap.push (set0 w)).get? l = some { cls := .type "tuple", dict := od, data := .seq xs nl, slots := osl } := Heap.get?_push_of_some _ hol
        have b1 := F.sub_tuple_set
        have b2 := F.sub_tuple_frozenset
        have b3 : (Value.type "tuple" == Value.type "dict") = false := by decide
        have il1 : (s.heap.push (set0 w)).IsTuple l xs := ⟨_, gl, rfl, nl, rfl⟩
        unfold Builtin.«set.__init__» noKeywords Builtin.Frozenset.updateFrom
        generalize eI : pyIter = PI
        wp_walk
        subst eI
        refine wpAny_pyIter_tuple il1 (?_)
        refine wpAny_bind (wpAny_runValue (?_))
        have lt := Heap.lt_size hol
        have nh3 : A.in1.in1.in1.handled = none := by simp [nh]
        have ps : (s.heap.push (set0 w)).objs.size = s.heap.objs.size + 1 := Heap.size_push ..
        have nI : l ≠ (s.heap.push (set0 w)).objs.size := Nat.ne_of_lt (by rw [ps]; exact Nat.lt_succ_of_lt lt)
        have zf : s.heap.objs.size ∉ [(s.heap.push (set0 w)).objs.size, l] := fun h => by
          rcases List.mem_cons.mp h with h | h
          · exact Nat.ne_of_lt (Nat.lt_succ_self _) (h.trans ps)
          · exact Nat.ne_of_gt lt (List.mem_singleton.mp h)
        have val : ∀ (i : Nat) (v : Value), xs[i]? = some v → ∃ p, ks[i]? = some p ∧ v = .ref p.1 := fun i v hv => by
          rw [← Array.getElem?_toList, ex, List.getElem?_map] at hv
          obtain ⟨p, e1, e2⟩ := Option.map_eq_some_iff.mp hv
          exact ⟨p, e1, e2.symm⟩
        have big : ∀ c, s.heap.objs.size ≤ c → s.heap.get? c = none := fun c hc => by
          cases q : s.heap.get? c with
          | none => rfl
          | some o => exact (Nat.not_lt.mpr hc (Heap.lt_size q)).elim
        refine set_go (ks := ks) (b := s.heap) ((Walks.tuple nh3 _ l nI xs).toS) zf sz few val tk (big _ (Nat.le_refl _)) (fun c hc => big c (by rw [List.mem_singleton.mp hc, ps]; exact Nat.le_succ _)) un (xs.size - 0) 0 _ (by omega) (Nat.zero_le _)
          ⟨⟨_, Heap.get?_push_size _ rfl, rfl, rfl⟩, (il1.push _)⟩ (fun c o e => Heap.get?_push_of_some _ (Heap.get?_push_of_some _ e)) (?_) (?_)
        · exact ⟨[], #[], 0, _, setTR_fresh (Heap.get?_push_of_some _ gz), Got.zero ks⟩
        · intro y m hy uy
          obtain ⟨g, gs, d, t, os⟩ := y
          obtain rfl : gs = s.gens := m.gens
          obtain rfl : d = s.drawn := m.drawn
          obtain rfl : os = s.os := m.os
          show wpAny _ _ _ _ _ _
          refine wpAny_pure (?_)
          show wpAny _ _ (ret Value.none) _ _ _
          rw [sz] at hy
          exact wpAny_pure ⟨rfl, g, t, rfl, hy, uy⟩
      · cases r2 with
        | error e => exact hr2
        | ok fl2 =>
          cases fl2 with
          | ret r =>
            obtain ⟨rfl, g, t, rfl, hy, uy⟩ := hr2
            repeat any_goals first | assumption | wp_step
            exact h _ _ hy uy
          | _ => exact hr2.elim
    | _ => exact hr.elim
end
theorem nd_lenQ {α : Type} [DecidableEq α] : ∀ {l m : List α}, l.Nodup → (∀ x ∈ l, x ∈ m) → l.length ≤ m.length
  | [], _, _, _ => Nat.zero_le _
  | x :: l, m, h, hs => by
    obtain ⟨h1, h2⟩ := List.nodup_cons.mp h
    have hm := hs x (List.mem_cons_self ..)
    have := nd_lenQ (l := l) (m := m.erase x) h2 fun y hy => (List.mem_erase_of_ne fun e => h1 (by rw [← e]; exact hy)).mpr (hs y (List.mem_cons_of_mem _ hy))
    rw [List.length_erase_of_mem hm] at this
    have p := List.length_pos_of_mem hm
    rw [List.length_cons]
    omega
section
variable {X : Cx}
/-- set(xs), xs a list or a tuple of tuples of ints -/
def rSetQ (P : Program) (w : World) : List V → Hp → VK → Prop := fun xs H Q => ∃ (l : Addr) (ks : TL), xs = [V.ref l] ∧ Lt H l (ks.map fun p => V.ref p.1) ∧ (∀ p ∈ ks, H p.1 = some (.tup (p.2.map V.int))) ∧ ks.length < 63 ∧ ∀ (a : Addr) (L : TL), H a = none → (∀ p ∈ L, p ∈ ks) → (∀ p ∈ ks, p.2 ∈ L.map (·.2)) → (L.map (·.2)).Nodup → Q (.ref a) (upd H a (SetTO P w a L))
theorem cr_setQ (hc : X.calm = true) (hu : X.A.units + 64 < cLine) : CallR X (.type "set") (rSetQ X.prog X.w) := by
  intro pins s σ H xs us Q I r h
  obtain ⟨l, ks, rfl, hl, tk, few, q⟩ := h
  rw [Vals.ref1 r]
  have nn : H s.heap.objs.size = none := I.hok.fresh (Nat.le_refl _)
  have few' : Few ks := fun L h1 h2 => by
    have := nd_lenQ (l := L.map (·.2)) (m := ks.map (·.2)) h2 fun x hx => by
      obtain ⟨p, hp, rfl⟩ := List.mem_map.mp hx
      exact List.mem_map_of_mem (h1 p hp)
    rw [List.length_map, List.length_map] at this
    omega
  have tk' : ∀ p ∈ ks, SqT X.K H p.1 (p.2.map V.int) := fun p hp => SqT.of (tk p hp)
  rcases hl with hl | hl
  · obtain ⟨its, rv, pl, hz⟩ := I.list (SqL.of (K := X.K) hl)
    refine call_setF (P := X.prog) (w := X.w) (ks := ks) (I.ok.hd hc) pl.isList (by simpa using refs_of_vals rv) (fun p hp => I.isT (tk' p hp)) few' (by omega) fun g t hh u => ?_
    obtain ⟨L, es, ep, tb, R, g2⟩ := hh
    refine ⟨.ref s.heap.objs.size, upd H s.heap.objs.size (SetTO X.prog X.w s.heap.objs.size L), I.laid (t' := t) u (Nat.le_refl _) (setTO_new R.t0), rfl, q _ L nn (fun p hp => List.mem_of_mem_take (g2.sub p hp)) (fun p hp => g2.all p ?_) R.nd⟩
    rw [List.take_length]
    exact hp
  · obtain ⟨its, rv, pl, hz⟩ := I.tuple (SqT.of (K := X.K) hl)
    refine call_setFT (P := X.prog) (w := X.w) (ks := ks) (I.ok.hd hc) pl (by simpa using refs_of_vals rv) (fun p hp => I.isT (tk' p hp)) few' (by omega) fun g t hh u => ?_
    obtain ⟨L, es, ep, tb, R, g2⟩ := hh
    refine ⟨.ref s.heap.objs.size, upd H s.heap.objs.size (SetTO X.prog X.w s.heap.objs.size L), I.laid (t' := t) u (Nat.le_refl _) (setTO_new R.t0), rfl, q _ L nn (fun p hp => List.mem_of_mem_take (g2.sub p hp)) (fun p hp => g2.all p ?_) R.nd⟩
    rw [List.take_length]
    exact hp
end
end LL

set_option Elab.async false
set_option linter.all false
set_option maxRecDepth 100000
set_option maxHeartbeats 2000000
/-! MJ77: pairs and entries in the heap. -/
namespace JN
open PySem PySem.Spec PyProof.Rows L2 LL K75
def ip (p : Nat × Nat) : IP := ((p.1 : Int), (p.2 : Int))
theorem ip_inj {p q : Nat × Nat} (h : ip p = ip q) : p = q := by
  unfold ip at h
  obtain ⟨a, b⟩ := Prod.mk.inj h
  exact Prod.ext (by omega) (by omega)
def key (p : Nat × Nat) : List Int := [(p.1 : Int), (p.2 : Int)]
theorem key_inj {p q : Nat × Nat} (h : key p = key q) : p = q := by
  unfold key at h
  simp only [List.cons.injEq, and_true] at h
  exact Prod.ext (by omega) (by omega)
/-- pairs in the heap -/
abbrev PrN (H : Hp) (us : List V) (ps : List (Nat × Nat)) : Prop := Prs H us (ps.map ip)
theorem PrN.len' {H : Hp} {us : List V} {ps : List (Nat × Nat)} (h : PrN H us ps) : us.length = ps.length := by rw [h.len, List.length_map]
theorem PrN.get {H : Hp} {us : List V} {ps : List (Nat × Nat)} (h : PrN H us ps) {i : Nat} {v : V} {p : Nat × Nat} (e1 : us[i]? = some v) (e2 : ps[i]? = some p) : ∃ t, v = .ref t ∧ H t = some (.tup [.int p.1, .int p.2]) :=
  h.at_ i v (ip p) e1 (by rw [List.getElem?_map, e2]; rfl)
theorem PrN.mk {H : Hp} {us : List V} {ps : List (Nat × Nat)} (h1 : us.length = ps.length) (h2 : ∀ (i : Nat) v p, us[i]? = some v → ps[i]? = some p → ∃ t, v = .ref t ∧ H t = some (.tup [.int p.1, .int p.2])) : PrN H us ps :=
  ⟨by rw [h1, List.length_map], fun i v q e1 e2 => by
    rw [List.getElem?_map] at e2
    obtain ⟨p, hp, rfl⟩ := Option.map_eq_some_iff.mp e2
    exact h2 i v p e1 hp⟩
theorem PrN.nil {H : Hp} : PrN H [] [] := ⟨rfl, fun i v p e => by cases e⟩
theorem PrN.tail {H : Hp} {u : V} {us : List V} {p : Nat × Nat} {ps : List (Nat × Nat)} (h : PrN H (u :: us) (p :: ps)) : PrN H us ps := PrN.mk (Nat.succ.inj h.len') fun i v q e1 e2 => h.get (i := i + 1) e1 e2
theorem prn_ks {H : Hp} : ∀ {us : List V} {ps : List (Nat × Nat)}, PrN H us ps → ∃ ks : TL, us = ks.map (fun p => V.ref p.1) ∧ ks.map (·.2) = ps.map key ∧ ∀ p ∈ ks, H p.1 = some (.tup (p.2.map V.int))
  | [], [], _ => ⟨[], rfl, rfl, fun p hp => by cases hp⟩
  | [], p :: ps, h => by cases h.len
  | u :: us, [], h => by cases h.len
  | u :: us, p :: ps, h => by
    obtain ⟨ks, e1, e2, e3⟩ := prn_ks h.tail
    obtain ⟨t, rfl, ht⟩ := h.get (i := 0) rfl rfl
    refine ⟨(t, key p) :: ks, by rw [e1]; rfl, by rw [List.map_cons, e2]; rfl, fun q hq => ?_⟩
    rcases List.mem_cons.mp hq with rfl | hq
    · exact ht
    · exact e3 q hq
theorem ks_prn {H : Hp} : ∀ {ks : TL} {ps : List (Nat × Nat)}, ks.map (·.2) = ps.map key → (∀ p ∈ ks, H p.1 = some (.tup (p.2.map V.int))) → PrN H (ks.map fun p => V.ref p.1) ps
  | [], [], _, _ => PrN.nil
  | [], p :: ps, h, _ => by cases h
  | k :: ks, [], h, _ => by cases h
  | k :: ks, p :: ps, h, hk => by
    rw [List.map_cons, List.map_cons, List.cons.injEq] at h
    have ih := ks_prn h.2 fun q hq => hk q (List.mem_cons_of_mem _ hq)
    refine PrN.mk ?_ fun i v q e1 e2 => ?_
    · rw [List.length_map, List.length_cons, List.length_cons, ← List.length_map (f := (·.2)) (as := ks), h.2, List.length_map]
    · cases i with
      | zero =>
        cases Option.some.inj e1
        cases Option.some.inj e2
        have := hk k (List.mem_cons_self ..)
        rw [h.1] at this
        exact ⟨k.1, rfl, this⟩
      | succ i => exact ih.get e1 e2
theorem code_key (p : Nat × Nat) : TS.code 64 (key p) = (p.1 : Int) * 64 + p.2 := code_pair _ _
/-- sorted(set(xs)) -/
theorem set_sort {P : Program} {w : World} {K : PySem.W.Frag} {H : Hp} {l : Addr} {us : List V} {ps : List (Nat × Nat)} {Q : VK} (hl : Lt H l us) (hp : PrN H us ps) (few : ps.length < 63) (b : ∀ p ∈ ps, p.1 < 64 ∧ p.2 < 64)
    (q : ∀ H' r us', Same H H' → H r = none → H' r = some (.lst us') → PrN H' us' (nrm ps) → Q (.ref r) H') : rSetQ P w [.ref l] H (fun v H1 => rSortedT K P w [v] H1 Q) := by
  obtain ⟨ks, rfl, e2, e3⟩ := prn_ks hp
  have kl : ks.length = ps.length := by rw [← List.length_map (f := (·.2)) (as := ks), e2, List.length_map]
  refine ⟨l, ks, rfl, hl, e3, by omega, fun a L ha m1 m2 nd => ?_⟩
  have mem : ∀ p ∈ L, ∃ x ∈ ps, p.2 = key x := fun p hp' => by
    have : p.2 ∈ ks.map (·.2) := List.mem_map_of_mem (m1 p hp')
    rw [e2] at this
    obtain ⟨x, hx, ex⟩ := List.mem_map.mp this
    exact ⟨x, hx, ex.symm⟩
  have e3' : ∀ p ∈ L, upd H a (SetTO P w a L) p.1 = some (.tup (p.2.map V.int)) := fun p hp' => by
    have := e3 p (m1 p hp')
    rw [upd_ne (ne_of_none this ha)]
    exact this
  refine ⟨a, L, 2, 64, rfl, upd_same, fun p hp' => SqT.of (e3' p hp'), by decide, fun p hp' => ?_, fun L' r pm nd' few' pw hr => ?_⟩
  · obtain ⟨x, hx, ex⟩ := mem p hp'
    obtain ⟨b1, b2⟩ := b x hx
    rw [ex]
    refine ⟨rfl, fun i hi => ?_⟩
    rcases List.mem_cons.mp hi with rfl | hi
    · omega
    · cases List.mem_singleton.mp hi
      omega
  · have memL : ∀ p ∈ L', p ∈ L := fun p hp' => pm.mem_iff.mp hp'
    -- the pairs of L'
    have ex : ∀ M : TL, (∀ p ∈ M, ∃ x ∈ ps, p.2 = key x) → ∃ xs : List (Nat × Nat), M.map (·.2) = xs.map key ∧ ∀ x ∈ xs, x ∈ ps := by
      intro M
      induction M with
      | nil => exact fun _ => ⟨[], rfl, fun x hx => by cases hx⟩
      | cons m M ih =>
        intro h
        obtain ⟨xs, e, hxs⟩ := ih fun p hp' => h p (List.mem_cons_of_mem _ hp')
        obtain ⟨x, hx, exx⟩ := h m (List.mem_cons_self ..)
        refine ⟨x :: xs, by rw [List.map_cons, List.map_cons, e, exx], fun y hy => ?_⟩
        rcases List.mem_cons.mp hy with rfl | hy
        · exact hx
        · exact hxs y hy
    obtain ⟨xs, exs, hxs⟩ := ex L' fun p hp' => mem p (memL p hp')
    have same : Same H (upd (upd H a (SetTO P w a L)) r (.lst (L'.map fun q => V.ref q.1))) := (same_upd ha).trans (same_upd hr)
    have hr0 : H r = none := by
      by_cases c : r = a
      · rw [c]; exact ha
      · rwa [upd_ne c] at hr
    have up : xs.Pairwise lex := by
      have h1 : (L'.map (·.2)).Pairwise (fun a b => TS.code 64 a ≤ TS.code 64 b) := List.pairwise_map.mpr pw
      rw [exs] at h1 nd'
      have h2 := List.pairwise_map.mp h1
      have h3 := List.pairwise_map.mp nd'
      refine (h2.and h3).imp_of_mem fun {x y} hx hy h => ?_
      obtain ⟨c1, c2⟩ := h
      rw [code_key, code_key] at c1
      obtain ⟨b1, b2⟩ := b x (hxs x hx)
      obtain ⟨b3, b4⟩ := b y (hxs y hy)
      have ne : x ≠ y := fun e => c2 (by rw [e])
      unfold lex
      by_cases c : x.1 = y.1
      · refine .inr ⟨c, ?_⟩
        rcases Nat.lt_trichotomy x.2 y.2 with z | z | z
        · exact z
        · exact absurd (Prod.ext c z) ne
        · omega
      · exact .inl (by omega)
    have en : xs = nrm ps := nrm_of up fun x => ⟨hxs x, fun hx => by
      have h1 : key x ∈ ks.map (·.2) := by
        rw [e2]
        exact List.mem_map_of_mem hx
      obtain ⟨p, hp', ep⟩ := List.mem_map.mp h1
      obtain ⟨p', hp2, ep2⟩ := List.mem_map.mp (m2 p hp')
      have h2 : key x ∈ L'.map (·.2) := List.mem_map.mpr ⟨p', pm.mem_iff.mpr hp2, by rw [ep2, ep]⟩
      rw [exs] at h2
      obtain ⟨y, hy, ey⟩ := List.mem_map.mp h2
      rw [← key_inj ey]
      exact hy⟩
    refine q _ r _ same hr0 upd_same (ks_prn (by rw [exs, en]) fun p hp' => ?_)
    have := e3' p (memL p hp')
    rw [upd_ne (ne_of_none this hr)]
    exact this
/-! ### entries -/
structure EnV (H : Hp) (v : V) (l : Nat) (e : En) : Prop where
  ex : ∃ t q us, v = .ref t ∧ H t = some (.tup [.int l, .int e.pl, .ref q, .str e.pay]) ∧ H q = some (.tup us) ∧ PrN H us e.prs
theorem EnV.same {H H' : Hp} {v : V} {l : Nat} {e : En} (h : EnV H v l e) (s : Same H H') : EnV H' v l e := by
  obtain ⟨t, q, us, a, b, c, d⟩ := h.ex
  exact ⟨t, q, us, a, s _ _ b, s _ _ c, d.same s⟩
structure EsV (H : Hp) (vs : List V) (l : Nat) (es : List En) : Prop where
  len : vs.length = es.length
  at_ : ∀ (i : Nat) v e, vs[i]? = some v → es[i]? = some e → EnV H v l e
theorem EsV.same {H H' : Hp} {vs : List V} {l : Nat} {es : List En} (h : EsV H vs l es) (s : Same H H') : EsV H' vs l es := ⟨h.len, fun i v e a b => (h.at_ i v e a b).same s⟩
theorem EsV.nil {H : Hp} {l : Nat} : EsV H [] l [] := ⟨rfl, fun i v e a => by cases a⟩
theorem EsV.snoc {H : Hp} {vs : List V} {l : Nat} {es : List En} {v : V} {e : En} (h : EsV H vs l es) (x : EnV H v l e) : EsV H (vs ++ [v]) l (es ++ [e]) := by
  refine ⟨by rw [List.length_append, List.length_append, h.len]; rfl, fun i u d a b => ?_⟩
  by_cases c : i < vs.length
  · rw [List.getElem?_append_left c] at a
    rw [List.getElem?_append_left (by rw [← h.len]; exact c)] at b
    exact h.at_ i u d a b
  · rw [List.getElem?_append_right (by omega)] at a
    rw [List.getElem?_append_right (by rw [← h.len]; omega), ← h.len] at b
    cases hi : i - vs.length with
    | zero =>
      rw [hi] at a b
      cases Option.some.inj a
      cases Option.some.inj b
      exact x
    | succ j => rw [hi] at a; cases a
theorem EsV.take {H : Hp} {vs : List V} {l : Nat} {es : List En} (h : EsV H vs l es) (k : Nat) : EsV H (vs.take k) l (es.take k) := by
  refine ⟨by rw [List.length_take, List.length_take, h.len], fun i u d a b => ?_⟩
  rw [List.getElem?_take] at a b
  split at a
  · rename_i c
    rw [if_pos c] at b
    exact h.at_ i u d a b
  · cases a
def EsAt (H : Hp) (a : Addr) (l : Nat) (es : List En) : Prop := ∃ vs, H a = some (.lst vs) ∧ EsV H vs l es
theorem EsAt.same {H H' : Hp} {a : Addr} {l : Nat} {es : List En} (h : EsAt H a l es) (s : Same H H') : EsAt H' a l es := let ⟨vs, x, y⟩ := h; ⟨vs, s _ _ x, y.same s⟩
/-! ### what is new -/
/-- what H' has and H has not -/
def newH (H H' : Hp) : Hp := fun a => match H a with
  | none => H' a
  | some _ => none
theorem newH_at {H H' : Hp} {a : Addr} (h : H a = none) : newH H H' a = H' a := by
  unfold newH
  rw [h]
theorem newH_old {H H' : Hp} {a : Addr} {o : HO} (h : H a = some o) : newH H H' a = none := by
  unfold newH
  rw [h]
theorem newH_le {H H' : Hp} : Same (newH H H') H' := fun a o e => by
  cases h : H a with
  | none => rwa [newH_at h] at e
  | some x => rw [newH_old h] at e; cases e
theorem newH_same {H H' H2 : Hp} (s : Same H' H2) : Same (newH H H') (newH H H2) := fun a o e => by
  cases h : H a with
  | none =>
    rw [newH_at h] at e ⊢
    exact s a o e
  | some x => rw [newH_old h] at e; cases e
theorem newH_mono {H0 H H' : Hp} (s : Same H0 H) : Same (newH H H') (newH H0 H') := fun a o e => by
  cases h : H a with
  | none =>
    rw [newH_at h] at e
    rw [newH_at (s.free h)]
    exact e
  | some x => rw [newH_old h] at e; cases e
theorem newH_upd {H H' : Hp} {D : Addr} {o x : HO} (h : H D = some o) : newH H (upd H' D x) = newH H H' := funext fun a => by
  unfold newH
  by_cases c : a = D
  · rw [c, h]
  · rw [upd_ne c]
/-- a fresh list D, to be filled: what is new beside it -/
abbrev fillH (H : Hp) (D : Addr) (H' : Hp) : Hp := newH (upd H D (.lst [])) H'
theorem fill_upd {H H' : Hp} {D : Addr} {x : HO} : fillH H D (upd H' D x) = fillH H D H' := newH_upd upd_same
theorem fill_at {H H' : Hp} {D a : Addr} (ne : a ≠ D) (h : H a = none) : fillH H D H' a = H' a := newH_at (by rw [upd_ne ne]; exact h)
theorem fill_new {H H' : Hp} {D : Addr} (n : H D = none) : Same (fillH H D H') (newH H H') := newH_mono (same_upd n)
theorem fill_same {H H' H2 : Hp} {D : Addr} (s : Same H' H2) : Same (fillH H D H') (fillH H D H2) := newH_same s
/-- what is new to H' is so to what is filled -/
theorem fill_of {H H' H2 : Hp} {D : Addr} {o : HO} (s : Same H H') (hD : H' D = some o) : Same (newH H' H2) (fillH H D H2) := fun a x e => by
  cases h : H' a with
  | none =>
    rw [newH_at h] at e
    rw [fill_at (fun c => by rw [c, hD] at h; cases h) (s.free h)]
    exact e
  | some y => rw [newH_old h] at e; cases e
theorem PrN.snoc {H : Hp} {us : List V} {ps : List (Nat × Nat)} {t : Addr} {p : Nat × Nat} (h : PrN H us ps) (e : H t = some (.tup [.int p.1, .int p.2])) : PrN H (us ++ [.ref t]) (ps ++ [p]) := by
  refine PrN.mk (by rw [List.length_append, List.length_append, h.len']; rfl) fun i v q e3 e4 => ?_
  by_cases c : i < us.length
  · rw [List.getElem?_append_left c] at e3
    rw [List.getElem?_append_left (by rw [← h.len']; exact c)] at e4
    exact h.get e3 e4
  · rw [List.getElem?_append_right (by omega)] at e3
    rw [List.getElem?_append_right (by rw [← h.len']; omega), ← h.len'] at e4
    cases hi : i - us.length with
    | zero =>
      rw [hi] at e3 e4
      cases Option.some.inj e3
      cases Option.some.inj e4
      exact ⟨t, rfl, e⟩
    | succ m => rw [hi] at e3; cases e3
theorem take_snoc {α : Type} {l : List α} {j : Nat} {x : α} (h : l[j]? = some x) : l.take (j + 1) = l.take j ++ [x] := by rw [List.take_add_one, h]; rfl
/-! ### lists by places -/
abbrev nL (f : Nat → Nat) (n : Nat) : List V := (List.range n).map fun i => V.int (f i)
theorem nL_len (f : Nat → Nat) (n : Nat) : (nL f n).length = n := by rw [List.length_map, List.length_range]
theorem nL_get {f : Nat → Nat} {n l : Nat} (h : l < n) : (nL f n)[l]? = some (.int (f l)) := by
  rw [List.getElem?_map, List.getElem?_range h]
  rfl
theorem nL_at {f : Nat → Nat} {n l : Nat} (h : l < n) : atI (nL f n) (l : Int) = some (.int (f l)) := atI_nat (nL_get h)
theorem nL_congr {f g : Nat → Nat} {n : Nat} (h : ∀ l, l < n → f l = g l) : nL f n = nL g n := List.map_congr_left fun i hi => by rw [h i (List.mem_range.mp hi)]
theorem map_get {α : Type} {f : Nat → α} {n l : Nat} (h : l < n) : ((List.range n).map f)[l]? = some (f l) := by
  rw [List.getElem?_map, List.getElem?_range h]
  rfl
theorem map_set {α : Type} {f : Nat → α} {n k : Nat} {x : α} (h : k < n) : ((List.range n).map f).set k x = (List.range n).map fun l => if l = k then x else f l := by
  refine List.ext_getElem? fun i => ?_
  by_cases hi : i < n
  · rw [map_get hi]
    by_cases c : k = i
    · subst c
      rw [List.getElem?_set_self (by rw [List.length_map, List.length_range]; exact hi), if_pos rfl]
    · rw [List.getElem?_set_ne c, map_get hi, if_neg (fun e => c e.symm)]
  · rw [List.getElem?_eq_none (by rw [List.length_set, List.length_map, List.length_range]; omega), List.getElem?_eq_none (by rw [List.length_map, List.length_range]; omega)]
theorem nL_set {f : Nat → Nat} {n k v : Nat} (h : k < n) : (nL f n).set k (.int v) = nL (fun l => if l = k then v else f l) n := by
  rw [nL, map_set h]
  refine List.map_congr_left fun i _ => ?_
  by_cases c : i = k
  · simp only [if_pos c]
  · simp only [if_neg c]
/-- the lists of a journal's entries -/
def LnsAt (H : Hp) (a : Addr) (J : Jr) : Prop := ∃ la : List Addr, H a = some (.lst (la.map V.ref)) ∧ la.length = J.n ∧ ∀ (l : Nat) q, la[l]? = some q → EsAt H q l (J.es l)
theorem LnsAt.same {H H' : Hp} {a : Addr} {J : Jr} (h : LnsAt H a J) (s : Same H H') : LnsAt H' a J := let ⟨la, x, y, z⟩ := h; ⟨la, s _ _ x, y, fun l q e => (z l q e).same s⟩
theorem ref_get {la : List Addr} {l : Nat} {v : V} (h : (la.map V.ref)[l]? = some v) : ∃ q, la[l]? = some q ∧ v = .ref q := by
  rw [List.getElem?_map] at h
  obtain ⟨q, a, b⟩ := Option.map_eq_some_iff.mp h
  exact ⟨q, a, b.symm⟩
theorem ref_at {la : List Addr} {l : Nat} (h : l < la.length) : (la.map V.ref)[l]? = some (.ref la[l]) := by rw [List.getElem?_map, List.getElem?_eq_getElem h]; rfl
theorem ixN_nat {n j : Nat} (h : j < n) : ixN n (j : Int) = some j := by
  unfold ixN
  rw [if_pos (by omega), if_pos (by omega)]
  simp
/-- all but what stands at A stays -/
def Chg (A : List Addr) (H H' : Hp) : Prop := ∀ b o, H b = some o → b ∉ A → H' b = some o
theorem Chg.of {A : List Addr} {H H' : Hp} (s : Same H H') : Chg A H H' := fun b o e _ => s b o e
theorem Chg.trans {A : List Addr} {H H1 H2 : Hp} (c : Chg A H H1) (d : Chg A H1 H2) : Chg A H H2 := fun b o e n => d b o (c b o e n) n
theorem Chg.mono {A B : List Addr} {H H' : Hp} (c : Chg A H H') (h : ∀ a ∈ A, a ∈ B) : Chg B H H' := fun b o e n => c b o e fun z => n (h b z)
theorem Chg.upd {A : List Addr} {H : Hp} {a : Addr} {o : HO} (h : a ∈ A) : Chg A H (upd H a o) := fun b x e n => by rw [upd_ne (fun c => n (by rw [c]; exact h))]; exact e
theorem Chg.but {A : List Addr} {H H' : Hp} {a : Addr} (h : a ∈ A) (b : But a H H') : Chg A H H' := fun c o e n => b c o e fun z => n (by rw [z]; exact h)
theorem Chg.same {A : List Addr} {H0 H H' : Hp} (s : Same H0 H) (c : Chg A H H') (n : ∀ a ∈ A, H0 a = none) : Same H0 H' := fun b o e => c b o (s b o e) fun z => by rw [n b z] at e; cases e
theorem word_ok (p : Nat × Nat) : PyData.strOk (word p) = true := okt_iff.mpr fun c hc => by
  have h : c ∈ tl (word p) := hc
  rw [word_tl] at h
  rcases List.mem_append.mp h with z | z
  · have := TL.numL_digits _ c z
    have : 48 ≤ c ∧ c ≤ 57 := this
    omega
  · rcases List.mem_cons.mp z with z | z
    · omega
    · have := TL.numL_digits _ c z
      have : 48 ≤ c ∧ c ≤ 57 := this
      omega
theorem PrN.app {H : Hp} {us vs : List V} {ps qs : List (Nat × Nat)} (h : PrN H us ps) (k : PrN H vs qs) : PrN H (us ++ vs) (ps ++ qs) := by
  refine PrN.mk (by rw [List.length_append, List.length_append, h.len', k.len']) fun i v p e3 e4 => ?_
  by_cases c : i < us.length
  · rw [List.getElem?_append_left c] at e3
    rw [List.getElem?_append_left (by rw [← h.len']; exact c)] at e4
    exact h.get e3 e4
  · rw [List.getElem?_append_right (by omega)] at e3
    rw [List.getElem?_append_right (by rw [← h.len']; omega), ← h.len'] at e4
    exact k.get e3 e4
/-- tuples stay -/
def KT (H H' : Hp) : Prop := ∀ c ys, H c = some (.tup ys) → H' c = some (.tup ys)
theorem KT.of {H H' : Hp} (s : Same H H') : KT H H' := fun c _ e => s c _ e
theorem KT.upd {H : Hp} {a : Addr} {o : HO} (n : ∀ ys, H a ≠ some (.tup ys)) : KT H (upd H a o) := fun c ys e => by rw [upd_ne (fun z => n ys (by rw [← z]; exact e))]; exact e
theorem PrN.kt {H H' : Hp} {us : List V} {ps : List (Nat × Nat)} (h : PrN H us ps) (k : KT H H') : PrN H' us ps := PrN.mk h.len' fun i v p e1 e2 => by
  obtain ⟨t, e, x⟩ := h.get e1 e2
  exact ⟨t, e, k _ _ x⟩
theorem EnV.kt {H H' : Hp} {v : V} {l : Nat} {e : En} (h : EnV H v l e) (k : KT H H') : EnV H' v l e := by
  obtain ⟨t, q, us, a, b, c, d⟩ := h.ex
  exact ⟨t, q, us, a, k _ _ b, k _ _ c, d.kt k⟩
theorem EsV.kt {H H' : Hp} {vs : List V} {l : Nat} {es : List En} (h : EsV H vs l es) (k : KT H H') : EsV H' vs l es := ⟨h.len, fun i v e a b => (h.at_ i v e a b).kt k⟩
end JN

set_option Elab.async false
set_option linter.all false
set_option maxRecDepth 100000
set_option maxHeartbeats 4000000
/-! O77c: words that denote numbers, spots, pairs. -/
namespace K77
open PySem PySem.Spec PyProof.Rows L2 LL K75 JN
abbrev s_is_list : Stmt := top 37
abbrev n_is_list : List Str := ["value"]
theorem sc_is_list : FnScope n_is_list ["value"] (defScope s_is_list) := ⟨rfl, rfl, rfl, by decide +kernel, rfl, by decide +kernel, by decide +kernel⟩
abbrev s_number_in : Stmt := top 38
abbrev n_number_in : List Str := ["word", "digit"]
theorem sc_number_in : FnScope n_number_in ["word"] (defScope s_number_in) := ⟨rfl, rfl, rfl, by decide +kernel, rfl, by decide +kernel, by decide +kernel⟩
abbrev s_spot_in : Stmt := top 39
abbrev n_spot_in : List Str := ["word", "lane", "point", "place", "numbers"]
theorem sc_spot_in : FnScope n_spot_in ["word"] (defScope s_spot_in) := ⟨rfl, rfl, rfl, by decide +kernel, rfl, by decide +kernel, by decide +kernel⟩
abbrev s_pairs_in : Stmt := top 40
abbrev n_pairs_in : List Str := ["word", "lane", "pairs", "part", "pair"]
theorem sc_pairs_in : FnScope n_pairs_in ["word", "lane"] (defScope s_pairs_in) := ⟨rfl, rfl, rfl, by decide +kernel, rfl, by decide +kernel, by decide +kernel⟩
section
variable {P : Program} {w : World} {K : PySem.W.Frag} {mg : Str → Option Value} {base : Heap} {CD CJ : Addr} {f : Addr} {fd : FuncData}
abbrev dgs : Str := "0123456789"
theorem dg_in {n c : Nat} (h : c ∈ dg n) : c ∈ dgs.cps.toList := by
  have := TL.numL_digits n c h
  have e : dgs.cps.toList = [48, 49, 50, 51, 52, 53, 54, 55, 56, 57] := by decide +kernel
  rw [e]
  have h2 : 48 ≤ c ∧ c ≤ 57 := this
  simp only [List.mem_cons, List.not_mem_nil, or_false]
  omega
theorem un64 {k : Nat} {A : Around} (hr : Rm k A) : A.units + 64 < cLine := by
  have := un65 hr
  omega
def spNin : Sp := fun vs H Q _ => ∃ n : Nat, vs = [.str (num n)] ∧ n < 10 ^ 9 ∧ ∀ H', Same H H' → Q (.int n) H'
theorem ok_number_in (T : Tx K mg CD CJ) (F : FD K "number_in" "number_in" s_number_in [] f fd) : FnG P w K mg base CX0 1 f fd ["word"] spNin := by
  refine ok0 F sc_number_in (fun vs H Q E h => ?_) (fun cdv A outer s H vs Q E hr h => ?_)
  · obtain ⟨n, rfl, _⟩ := h
    rfl
  · obtain ⟨n, rfl, hn, q⟩ := h
    refine ⟨_, (pss_cons (ps_if (PW.pt (pw_or (pt_not (pt_chain op_le op_le pe_int (pe_callB call_len_str (by rfl) T.n_len (by decide +kernel) (pa_cons (pv 0) pa_nil)) (pe_gI T.g_MOST_DIGITS))) (pw_or1 (pt_not (pt_val (pe_callB (cr_all rfl) (by rfl) T.n_all (by decide +kernel) (pa_cons (pe_lc (own := [("digit", 1)]) rfl sc_number_in.nd (pi_str (pv 0)) (blkOk_by (own := [("digit", 1)]) (N := n_number_in) (sc := defScope s_number_in) (by decide +kernel)) (fun _ _ _ _ _ => (pg_name (i := 1) sc_number_in.nd rfl (by first | exact Or.inl rfl | exact Or.inr rfl))) (fun _ _ _ _ _ => pts_nil) (fun _ _ _ _ _ => (pe_cmpR op_in_sign (pv 1) (pe_gS T.g_DIGITS) (by rfl)))) pa_nil))))))) (pss_one (ps_ret pe_non)) pss_nil)
      (pss_one (ps_ret (pe_ifExp (PW.pt (pw_and (pt_cmpR op_eq (pe_ix ix_str (pv 0) pe_int (fun _ _ => rfl)) pe_str (nomark _)) (pw_and1 (pt_cmpR op_ne (pv 0) pe_str (nomark _))))) pe_non (pe_callTy call_int_str (by rfl) T.n_int (by decide +kernel) (pa_cons (pv 0) pa_nil)))))), ?_⟩
    have l1 : (num n).length ≤ 9 := num_len (by decide) hn
    have l2 : 1 ≤ (num n).length := by
      rw [TL.len_tl, show TL.tl (num n) = dg n from tl_num n]
      obtain ⟨c, r, e, _⟩ := dg_head n
      rw [e, List.length_cons]
      omega
    have l3 : (num n).length ≤ sizeLine := small (by omega)
    refine ⟨_, rfl, _, rfl, l3, _, _, rfl, rfl, _, rfl, iteY (decide_eq_true (by omega)) ⟨_, _, rfl, rfl, _, rfl, iteN (by rw [decide_eq_true (by omega)]; rfl) ?_⟩⟩
    refine ⟨_, rfl, _, rfl, fun D hD => ?_⟩
    have ez : (num n).cps.toList.length = (num n).length := rfl
    have ez' : (num n).cps.size = (num n).length := rfl
    refine lc_acc (walk_str (z := num n)) hD (fun i => (List.replicate i true).map V.bl) rfl (fun i hi => ?_) (fun _ _ => trivial) ?_ ?_
    · rw [List.length_map, List.length_replicate]
      omega
    · rintro i x H2 H3 hi s2 ⟨rfl, c, hc, rfl⟩ N S hN hS
      rw [← Array.getElem?_toList] at hc
      have hm : c ∈ dgs.cps.toList := dg_in (n := n) (by rw [← tl_num]; exact List.mem_of_getElem? hc)
      refine ⟨rfl, _, rfl, c, dgs, rfl, rfl, hN _ _ Same.rfl' ?_⟩
      rw [decide_eq_true hm, List.replicate_succ', List.map_append]
      rfl
    · intro H2 s2 h2
      refine ⟨D, _, rfl, SqL.of h2, ?_⟩
      rw [show (List.replicate (num n).cps.size true).all id = true by simp]
      refine ⟨_, rfl, iteF ?_⟩
      obtain ⟨c, r, ed, c1, c2, c3⟩ := dg_head n
      have et : tl (num n) = c :: r := by rw [tl_num, ed]
      have fin : ∃ v, (L2.start n_number_in [V.str (num n)])[0]? = some (some v) ∧ ∃ (a : Str) (m : Int), [v] = [V.str a] ∧ intText? a = some m ∧ a.length ≤ 640 ∧ Q (.int m) H2 := ⟨_, rfl, num n, n, rfl, TL.int_num (by rw [show TL.numL n = dg n from rfl, ← tl_num, ← show (num n).length = (tl (num n)).length from TL.len_tl _]; omega), by omega, q _ s2⟩
      refine ⟨_, rfl, num n, 0, c, rfl, rfl, l3, ?_, rfl, _, rfl, ?_⟩
      · exact atI_nat (by show (tl (num n))[0]? = some c; rw [et]; rfl)
      · by_cases h0 : n = 0
        · subst h0
          have e0 : num 0 = "0" := by decide +kernel
          refine iteB (fun _ => ⟨_, rfl, rfl, _, rfl, ?_⟩) (fun _ => ?_)
          · rw [e0]
            exact fin
          · exact fin
        · refine iteN (decide_eq_false fun z => c3 h0 ?_) fin
          have := congrArg tl (V.str.inj z)
          cases this
          rfl
def spSin : Sp := fun vs H Q _ => ∃ p : Nat × Nat, vs = [.str (word p)] ∧ p.1 < 8 ∧ p.2 < 64 ∧ ∀ H' t, Same H H' → H t = none → H' t = some (.tup [.int p.1, .int p.2]) → Q (.ref t) H'
theorem ok_spot_in (T : Tx K mg CD CJ) (G_number_in : Fnc P w K mg base CX0 1 "number_in" [] spNin) (F : FD K "spot_in" "spot_in" s_spot_in [] f fd) : FnG P w K mg base CX0 2 f fd ["word"] spSin := by
  refine ok0 F sc_spot_in (fun vs H Q E h => ?_) (fun cdv A outer s H vs Q E hr h => ?_)
  · obtain ⟨p, rfl, _⟩ := h
    rfl
  · obtain ⟨p, rfl, p1, p2, q⟩ := h
    refine ⟨_, (pss_cons (ps_asg (pe_partition (pv 0) (pe_gS T.g_POINT)) (pg_tup rfl (pgs_cons (pg_name (i := 1) sc_spot_in.nd rfl (by first | exact Or.inl rfl | exact Or.inr rfl)) (pgs_cons (pg_name (i := 2) sc_spot_in.nd rfl (by first | exact Or.inl rfl | exact Or.inr rfl)) (pgs_cons (pg_name (i := 3) sc_spot_in.nd rfl (by first | exact Or.inl rfl | exact Or.inr rfl)) pgs_nil)))))
      (pss_cons (ps_set (i := 4) sc_spot_in.nd rfl (by first | exact Or.inl rfl | exact Or.inr rfl) (pe_tup (pa_cons (pe_fn G_number_in (hr.mono (by decide)) pass0 (pa_cons (pv 1) pa_nil)) (pa_cons (pe_fn G_number_in (hr.mono (by decide)) pass0 (pa_cons (pv 3) pa_nil)) pa_nil))))
      (pss_one (ps_ret (pe_ifExp (pt_cmpR (op_inX (un65 hr)) pe_non (pv 4) (by rfl)) pe_non (pv 4)))))), ?_⟩
    have b1 : (((⟨#[46]⟩ : Str)).length == 0) = false := by decide +kernel
    have lw : (word p).length ≤ 4 := by rw [TL.len_tl]; exact word_len p1 p2
    refine ⟨_, rfl, ⟨_, rfl⟩, _, _, rfl, rfl, b1, small (by omega), fun t nt => ?_⟩
    rw [part_word]
    refine ⟨t, _, rfl, SqT.of upd_same, rfl, _, _, rfl, _, _, rfl, _, _, rfl, rfl, ?_⟩
    refine ⟨_, rfl, p.1, rfl, by omega, fun H1 s1 => ⟨_, rfl, p.2, rfl, by omega, fun H2 s2 => ⟨small (by show 2 ≤ 100000; decide), fun u nu => ?_⟩⟩⟩
    refine ⟨_, rfl, u, [.int p.1, .int p.2], rfl, rfl, .inr (SqT.of upd_same), fun v hv => ?_, _, rfl, iteN (by rfl) ⟨_, rfl, ?_⟩⟩
    · rcases List.mem_cons.mp hv with rfl | hv
      · exact .int _
      · cases List.mem_singleton.mp hv
        exact .int _
    · have sm := ((same_upd nt).trans s1).trans s2
      refine q _ u (sm.trans (same_upd nu)) (sm.free nu) upd_same
def spPin : Sp := fun vs H Q _ => ∃ (ps : List (Nat × Nat)) (l : Nat), vs = [.str (names ps), .int l] ∧ (∀ p ∈ ps, p.1 < 8 ∧ p.1 ≠ l ∧ p.2 < 64) ∧ ps.Pairwise lex ∧ ps.length ≤ 8 ∧ ∀ H' t us, Same H H' → H t = none → H' t = some (.tup us) → PrN (newH H H') us ps → Q (.ref t) H'
theorem ok_pairs_in (T : Tx K mg CD CJ) (G_spot_in : Fnc P w K mg base CX0 2 "spot_in" [] spSin) (F : FD K "pairs_in" "pairs_in" s_pairs_in [] f fd) : FnG P w K mg base CX0 3 f fd ["word", "lane"] spPin := by
  refine ok0 F sc_pairs_in (fun vs H Q E h => ?_) (fun cdv A outer s H vs Q E hr h => ?_)
  · obtain ⟨ps, l, rfl, _⟩ := h
    rfl
  · obtain ⟨ps, l, rfl, ok, up, few, q⟩ := h
    refine ⟨_, (pss_cons (ps_if (pt_cmpR op_eq (pv 0) (pe_gS T.g_NO_PAIRS) (nomark _)) (pss_one (ps_ret (pe_tup pa_nil))) pss_nil)
      (pss_cons (ps_setLc (i := 2) (own := [("part", 3)]) rfl sc_pairs_in.nd rfl rfl (sw_true rfl rfl rfl (by decide +kernel)) (pi_list (pe_split (pv 0) (pe_gS T.g_COMMA))) (blkOk_by (own := [("part", 3)]) (N := n_pairs_in) (sc := defScope s_pairs_in) (by decide +kernel)) (fun _ _ _ _ _ => (pg_name (i := 3) sc_pairs_in.nd rfl (by first | exact Or.inl rfl | exact Or.inr rfl))) (fun _ _ _ _ _ => pts_nil) (fun _ _ _ _ _ => (pe_fn G_spot_in (hr.mono (by decide)) pass0 (pa_cons (pv 3) pa_nil))))
      (pss_cons (ps_if (PW.pt (pw_or (pt_cmpR (op_inX (un65 hr)) pe_non (pv 2) (by rfl)) (pw_or1 (pt_not (pt_val (pe_callB (cr_all rfl) (by rfl) T.n_all (by decide +kernel) (pa_cons (pe_lc (own := [("pair", 4)]) rfl sc_pairs_in.nd (pi_list (pv 2)) (blkOk_by (own := [("pair", 4)]) (N := n_pairs_in) (sc := defScope s_pairs_in) (by decide +kernel)) (fun _ _ _ _ _ => (pg_name (i := 4) sc_pairs_in.nd rfl (by first | exact Or.inl rfl | exact Or.inr rfl))) (fun _ _ _ _ _ => pts_nil) (fun _ _ _ _ _ => (pe_and (pe_cmpR op_lt (pe_ix (ix_tupK (K := K) (by rfl)) (pv 4) pe_int (fun _ _ => rfl)) (pe_gI T.g_MOST_LANES) (nomark _)) (pe_one (pe_cmpR op_ne (pe_ix (ix_tupK (K := K) (by rfl)) (pv 4) pe_int (fun _ _ => rfl)) (pv 1) (nomark _)))))) pa_nil))))))) (pss_one (ps_ret pe_non)) pss_nil)
      (pss_one (ps_ret (pe_ifExp (pt_cmpR (op_eqD hr.r.units) (pv 2) (pe_callB (cr_sortedT rfl) (by rfl) T.n_sorted (by decide +kernel) (pa_cons (pe_callTy (cr_setQ rfl (un64 hr)) (by rfl) T.n_set (by decide +kernel) (pa_cons (pv 2) pa_nil)) pa_nil)) (nomark _)) (pe_callTy call_tuple_of (by rfl) T.n_tuple (by decide +kernel) (pa_cons (pv 2) pa_nil)) pe_non)))))), ?_⟩
    by_cases h0 : ps = []
    · subst h0
      refine ⟨_, rfl, rfl, _, rfl, iteY (by decide +kernel) ?_⟩
      exact ⟨(by decide +kernel), fun t nt => q _ t [] (same_upd nt) nt upd_same PrN.nil⟩
    · have nd := names_dash h0
      refine ⟨_, rfl, rfl, _, rfl, iteN (decide_eq_false fun z => nd (V.str.inj z)) ?_⟩
      have b1 : (((⟨#[44]⟩ : Str)).length == 0) = false := by decide +kernel
      have ln : (names ps).length ≤ 40 := by
        rw [TL.len_tl, show TL.tl (names ps) = _ from names_tl h0]
        have := join_len (S := [44]) (m := 4) (ps.map fun p => tl (word p)) fun r hr => by
          obtain ⟨p, hp, rfl⟩ := List.mem_map.mp hr
          obtain ⟨a, _, b⟩ := ok p hp
          exact word_len a b
        rw [List.length_map] at this
        simp only [List.length_singleton] at this
        omega
      refine ⟨_, rfl, ⟨_, rfl⟩, _, _, rfl, rfl, b1, small (by omega), fun p1 n1 => ?_⟩
      rw [split_names h0]
      refine ⟨p1, rfl, ⟨_, SqL.of upd_same⟩, fun D nD => ?_⟩
      have s01 := same_upd (o := .lst (List.map V.str (List.map word ps))) n1
      generalize hG1 : upd H p1 (.lst (List.map V.str (List.map word ps))) = G1 at *
      have hp1 : G1 p1 = some (.lst (List.map V.str (List.map word ps))) := by rw [← hG1, upd_same]
      refine lc_inv (walk_list (K := K) (a := p1) (xs := List.map V.str (List.map word ps))) (fun j acc G => Same G1 G ∧ PrN (fillH G1 D G) acc (ps.take j)) (fun j acc G xs z => by rw [fill_upd]; exact ⟨own_same z.1 nD, z.2⟩) ⟨Same.rfl', PrN.nil⟩ (fun j acc G hj z => ?_) (fun j acc G hj z => SqL.of (z.1 _ _ hp1)) ?_ ?_
      · have := z.2.len'
        rw [List.length_take] at this
        exact Nat.lt_of_lt_of_le (show acc.length < 100 by omega) (small (by decide))
      · rintro j x acc G G' hj ⟨s1, pr⟩ hD ⟨rfl, hx⟩ N S hN hS
        obtain ⟨p, hp, rfl⟩ : ∃ p, ps[j]? = some p ∧ x = .str (word p) := by
          rw [List.getElem?_map, List.getElem?_map] at hx
          cases q : ps[j]? with
          | none => rw [q] at hx; cases hx
          | some p => rw [q] at hx; exact ⟨p, rfl, (Option.some.inj hx).symm⟩
        obtain ⟨a1, a2, a3⟩ := ok p (List.mem_of_getElem? hp)
        refine ⟨rfl, _, rfl, p, rfl, a1, a3, fun G2 t s2 n2 e2 => hN _ _ (s2 _ _ hD) ⟨s1.trans s2, ?_⟩⟩
        have ne : t ≠ D := fun e => by rw [e, hD] at n2; cases n2
        rw [take_snoc hp]
        exact PrN.snoc (pr.same (fill_same s2)) (by rw [fill_at ne (s1.free n2)]; exact e2)
      · rintro acc G2 hD ⟨s1, pr⟩
        have es : List.take (List.map V.str (List.map word ps)).length ps = ps := by
          rw [List.length_map, List.length_map]
          exact List.take_length
        rw [es] at pr
        have pr2 : PrN G2 acc ps := pr.same newH_le
        have prn : PrN (newH H G2) acc ps := pr.same ((fill_new nD).trans (newH_mono s01))
        have s02 : Same H G2 := s01.trans s1
        refine ⟨_, rfl, D, acc, rfl, rfl, .inl (SqL.of hD), fun v hv => ?_, _, rfl, ?_⟩
        · obtain ⟨i, hi⟩ := List.getElem?_of_mem hv
          obtain ⟨hl, _⟩ := List.getElem?_eq_some_iff.mp hi
          rw [pr2.len'] at hl
          obtain ⟨t, rfl, ht⟩ := pr2.get hi (List.getElem?_eq_getElem hl)
          exact .tup (SqT.of ht)
        have na : acc.any isNn = false := by
          rw [Bool.eq_false_iff]
          intro z
          obtain ⟨v, hv, e⟩ := List.any_eq_true.mp z
          obtain ⟨i, hi⟩ := List.getElem?_of_mem hv
          obtain ⟨hl, _⟩ := List.getElem?_eq_some_iff.mp hi
          rw [pr2.len'] at hl
          obtain ⟨t, rfl, ht⟩ := pr2.get hi (List.getElem?_eq_getElem hl)
          cases e
        refine iteN na ?_
        refine ⟨_, rfl, D, rfl, ⟨_, SqL.of hD⟩, fun D2 nD2 => ?_⟩
        have la : acc.length = ps.length := pr2.len'
        refine lc_acc (walk_list (K := K) (a := D) (xs := acc)) nD2 (fun j => (List.replicate j true).map V.bl) rfl (fun j hj => ?_) (fun H' s' => SqL.of (s' _ _ hD)) ?_ ?_
        · rw [List.length_map, List.length_replicate]
          omega
        · rintro j x G G' hj s2 ⟨rfl, hx⟩ N S hN hS
          have hj' : j < ps.length := by omega
          obtain ⟨t, rfl, ht⟩ := pr2.get hx (List.getElem?_eq_getElem hj')
          obtain ⟨a1, a2, a3⟩ := ok ps[j] (List.getElem_mem hj')
          have ht' := s2 _ _ ht
          refine ⟨rfl, _, rfl, t, _, 0, _, rfl, rfl, SqT.of ht', rfl, _, _, rfl, rfl, _, rfl, iteY (decide_eq_true (by omega)) ⟨_, rfl, t, _, 0, _, rfl, rfl, SqT.of ht', rfl, _, rfl, rfl, hN _ _ Same.rfl' ?_⟩⟩
          rw [decide_eq_false (fun z => a2 (by have := V.int.inj z; omega)), List.replicate_succ', List.map_append]
          rfl
        · intro G s2 h2
          refine ⟨D2, _, rfl, SqL.of h2, _, rfl, iteN (by simp) ?_⟩
          have pr3 : PrN G acc ps := pr2.same s2
          have hD3 := s2 _ _ hD
          refine ⟨_, rfl, _, rfl, ?_⟩
          dsimp only [tNil]
          refine set_sort (.inl hD3) pr3 (by omega) (fun p hp => by obtain ⟨a, _, b⟩ := ok p hp; omega) fun G3 r us s3 nr hr pr4 => ?_
          rw [nrm_id up] at pr4
          have hD4 := s3 _ _ hD3
          refine eq_pd (.lst (SqL.of hD4) (dp_ips (pr3.same s3))) (.lst (SqL.of hr) (dp_ips pr4)) (pn_ips _) (pn_ips _) fun b hb => ?_
          refine ⟨_, rfl, iteY (hb.mpr rfl) ⟨_, rfl, D, acc, rfl, .inl ⟨SqL.of hD4, fun T nT => ?_⟩⟩⟩
          have sm : Same H G3 := (s02.trans s2).trans s3
          exact q _ T acc (sm.trans (same_upd nT)) (sm.free nT) upd_same (prn.same (newH_same ((s2.trans s3).trans (same_upd nT))))
end
end K77

set_option Elab.async false
set_option linter.all false
set_option maxRecDepth 100000
set_option maxHeartbeats 4000000
/-! O77d: entries and their records; rows. -/
namespace K77
open PySem PySem.Spec PyProof.Rows L2 LL K75 JN
abbrev s_entry_record : Stmt := top 41
abbrev n_entry_record : List Str := ["entry", "lane", "place", "pairs", "payload", "words", "other", "spot"]
theorem sc_entry_record : FnScope n_entry_record ["entry"] (defScope s_entry_record) := ⟨rfl, rfl, rfl, by decide +kernel, rfl, by decide +kernel, by decide +kernel⟩
abbrev s_entry_in : Stmt := top 42
abbrev n_entry_in : List Str := ["lane", "record", "first", "space", "rest", "second", "gap", "payload", "place", "pairs"]
theorem sc_entry_in : FnScope n_entry_in ["lane", "record"] (defScope s_entry_in) := ⟨rfl, rfl, rfl, by decide +kernel, rfl, by decide +kernel, by decide +kernel⟩
abbrev s_rows_of : Stmt := top 44
abbrev n_rows_of : List Str := ["entries", "entry"]
theorem sc_rows_of : FnScope n_rows_of ["entries"] (defScope s_rows_of) := ⟨rfl, rfl, rfl, by decide +kernel, rfl, by decide +kernel, by decide +kernel⟩
abbrev s_is_spot : Stmt := top 45
abbrev n_is_spot : List Str := ["value", "lane", "ends"]
theorem sc_is_spot : FnScope n_is_spot ["value", "lane", "ends"] (defScope s_is_spot) := ⟨rfl, rfl, rfl, by decide +kernel, rfl, by decide +kernel, by decide +kernel⟩
abbrev s_is_counted : Stmt := top 47
abbrev n_is_counted : List Str := ["pair", "counts", "lane", "place"]
theorem sc_is_counted : FnScope n_is_counted ["pair", "counts"] (defScope s_is_counted) := ⟨rfl, rfl, rfl, by decide +kernel, rfl, by decide +kernel, by decide +kernel⟩
abbrev s_next_spot : Stmt := top 46
abbrev n_next_spot : List Str := ["lanes", "cut", "counts", "lane", "entries", "position", "pair"]
theorem sc_next_spot : FnScope n_next_spot ["lanes", "cut", "counts"] (defScope s_next_spot) := ⟨rfl, rfl, rfl, by decide +kernel, rfl, by decide +kernel, by decide +kernel⟩
section
variable {P : Program} {w : World} {K : PySem.W.Frag} {mg : Str → Option Value} {base : Heap} {CD CJ : Addr} {f : Addr} {fd : FuncData}
theorem log_small' {n : Nat} (h : n < 100000) : (n : Int).natAbs.log2 < 1920 := log_nat (by omega)
theorem join_nil : ∀ ps : List (List Nat), TL.joinL [] ps = ps.flatten
  | [] => rfl
  | [p] => by simp [TL.joinL]
  | p :: q :: r => by
    have := join_nil (q :: r)
    simp only [TL.joinL, List.nil_append, this, List.flatten_cons]
theorem sum_len {α : Type} {f : α → Nat} {m : Nat} : ∀ {l : List α}, (∀ x ∈ l, f x ≤ m) → (l.map f).sum ≤ l.length * m
  | [], _ => Nat.zero_le _
  | x :: l, h => by
    have a := h x (List.mem_cons_self ..)
    have b := sum_len (f := f) (m := m) (l := l) fun y hy => h y (List.mem_cons_of_mem _ hy)
    rw [List.map_cons, List.sum_cons, List.length_cons, Nat.succ_mul]
    omega
def spErec : Sp := fun vs H Q _ => ∃ v l e n, vs = [v] ∧ EnV H v l e ∧ OkE n l e ∧ n ≤ 8 ∧ ∀ H', Same H H' → Q (.str (recd e)) H'
theorem ok_entry_record (T : Tx K mg CD CJ) (F : FD K "entry_record" "entry_record" s_entry_record [] f fd) : FnG P w K mg base CX0 1 f fd ["entry"] spErec := by
  refine ok0 F sc_entry_record (fun vs H Q E h => ?_) (fun cdv A outer s H vs Q E hr h => ?_)
  · obtain ⟨v, l, e, n, rfl, _⟩ := h
    rfl
  · obtain ⟨v, l, e, n, rfl, he, ok, n8, q⟩ := h
    refine ⟨_, (pss_cons (ps_asg (pv 0) (pg_tup rfl (pgs_cons (pg_name (i := 1) sc_entry_record.nd rfl (by first | exact Or.inl rfl | exact Or.inr rfl)) (pgs_cons (pg_name (i := 2) sc_entry_record.nd rfl (by first | exact Or.inl rfl | exact Or.inr rfl)) (pgs_cons (pg_name (i := 3) sc_entry_record.nd rfl (by first | exact Or.inl rfl | exact Or.inr rfl)) (pgs_cons (pg_name (i := 4) sc_entry_record.nd rfl (by first | exact Or.inl rfl | exact Or.inr rfl)) pgs_nil))))))
      (pss_cons (ps_setLc (i := 5) (g := (gTup K 2 (gCons (gName 6) (gCons (gName 7) gNil)))) (own := [("other", 6), ("spot", 7)]) rfl sc_entry_record.nd rfl rfl (sw_true rfl rfl rfl (by decide +kernel)) (pi_tup (pv 3)) (blkOk_by (own := [("other", 6), ("spot", 7)]) (N := n_entry_record) (sc := defScope s_entry_record) (by decide +kernel)) (fun _ _ _ _ _ => (pg_tup rfl (pgs_cons (pg_name (i := 6) sc_entry_record.nd rfl (by first | exact Or.inl rfl | exact Or.inr rfl)) (pgs_cons (pg_name (i := 7) sc_entry_record.nd rfl (by first | exact Or.inl rfl | exact Or.inr rfl)) pgs_nil)))) (fun _ _ _ _ _ => pts_nil) (fun _ _ _ _ _ => (pe_op op_add_str (pe_op op_add_str (pe_callTy call_str_int (by rfl) T.n_str (by decide +kernel) (pa_cons (pv 6) pa_nil)) (pe_gS T.g_POINT)) (pe_callTy call_str_int (by rfl) T.n_str (by decide +kernel) (pa_cons (pv 7) pa_nil)))))
      (pss_one (ps_ret (pe_op op_add_str (pe_op op_add_str (pe_op op_add_str (pe_op op_add_str (pe_callTy call_str_int (by rfl) T.n_str (by decide +kernel) (pa_cons (pv 2) pa_nil)) (pe_gS T.g_SPACE_journals)) (pe_ifExp (pt_truth (pv 5) (by intro _; rfl)) (pe_join (pe_gS T.g_COMMA) (pv 5)) (pe_gS T.g_NO_PAIRS))) (pe_gS T.g_SPACE_journals)) (pv 4)))))), ?_⟩
    obtain ⟨t, qa, us, rfl, ht, hq, pr⟩ := he.ex
    refine ⟨_, rfl, t, _, rfl, SqT.of ht, rfl, _, _, rfl, _, _, rfl, _, _, rfl, _, _, rfl, rfl, ?_⟩
    refine ⟨_, rfl, qa, rfl, ⟨us, SqT.of hq⟩, fun D nD => ?_⟩
    have lu : us.length = e.prs.length := pr.len'
    refine lc_acc (walk_tup (K := K) (a := qa) (xs := us)) nD (fun j => ((e.prs.take j).map word).map V.str) rfl (fun j hj => ?_) (fun H' s' => SqT.of (s' _ _ hq)) ?_ ?_
    · have := ok.few
      rw [List.length_map, List.length_map, List.length_take]
      omega
    · rintro j x G G' hj s2 ⟨rfl, hx⟩ N S hN hS
      have hj' : j < e.prs.length := by omega
      obtain ⟨t2, rfl, ht2⟩ := pr.get hx (List.getElem?_eq_getElem hj')
      obtain ⟨a1, a2, a3⟩ := ok.ln e.prs[j] (List.getElem_mem hj')
      have wl := word_len (p := e.prs[j]) (by omega) a3
      refine ⟨t2, _, rfl, SqT.of (s2 _ _ ht2), rfl, _, _, rfl, _, _, rfl, rfl, rfl, ?_⟩
      have n1 : (num e.prs[j].1).length ≤ 1 := num_len (by decide) (by omega)
      have n2 : (num e.prs[j].2).length ≤ 2 := num_len (by decide) (by omega)
      refine ⟨_, rfl, _, rfl, log_small' (by omega), _, _, rfl, rfl, small (by show (num e.prs[j].1).length + 1 ≤ _; omega), _, rfl, _, rfl, log_small' (by omega), _, _, rfl, rfl, small (by rw [strLen_append]; show (num e.prs[j].1).length + 1 + (num e.prs[j].2).length ≤ _; omega), hN _ _ Same.rfl' ?_⟩
      rw [take_snoc (List.getElem?_eq_getElem hj'), List.map_append, List.map_append]
      rfl
    · intro G s2 h2
      rw [lu, List.take_length] at h2
      have l1 : (num e.pl).length ≤ 2 := num_len (by decide) (by have := ok.pl; omega)
      have l2 : (names e.prs).length ≤ 40 := by rw [TL.len_tl]; exact names_len n8 ok
      have l3 := ok.len
      have b1 : ((⟨#[32]⟩ : Str)).length = 1 := rfl
      have qq := q _ s2
      unfold recd at qq
      refine ⟨_, rfl, _, rfl, log_small' (by have := ok.pl; omega), _, _, rfl, rfl, small (by show (num e.pl).length + 1 ≤ _; omega), ?_⟩
      by_cases h0 : e.prs = []
      · have en : names e.prs = ⟨#[45]⟩ := if_pos h0
        rw [en] at qq l2
        have b2 : ((⟨#[45]⟩ : Str)).length = 1 := rfl
        refine ⟨_, rfl, false, ?_, iteN rfl ⟨_, _, rfl, rfl, small (by rw [strLen_append]; show (num e.pl).length + 1 + 1 ≤ _; omega), _, _, rfl, rfl, small (by rw [strLen_append, strLen_append]; show (num e.pl).length + 1 + 1 + 1 ≤ _; omega), _, rfl, _, _, rfl, rfl, small (by rw [strLen_append, strLen_append, strLen_append]; show (num e.pl).length + 1 + 1 + 1 + _ ≤ _; omega), qq⟩⟩
        refine .inl ⟨_, SqL.of h2, ?_⟩
        rw [h0]
        rfl
      · have en : names e.prs = Txt.join ⟨#[44]⟩ (e.prs.map word) := if_neg h0
        rw [en] at qq l2
        have sm := sum_len (f := fun x : Str => x.length) (m := 4) (l := e.prs.map word) fun x hx => by
          obtain ⟨p, hp, rfl⟩ := List.mem_map.mp hx
          obtain ⟨a1, a2, a3⟩ := ok.ln p hp
          rw [TL.len_tl]
          exact word_len (by omega) a3
        have fw := ok.few
        rw [List.length_map] at sm
        refine ⟨_, rfl, true, .inl ⟨_, SqL.of h2, ?_⟩, iteY rfl ⟨⟨_, rfl⟩, _, rfl, _, D, _, rfl, rfl, .inl (SqL.of h2), ?_, ?_⟩⟩
        · cases hp : e.prs with
          | nil => exact absurd hp h0
          | cons p r => rfl
        · rw [List.length_map]
          show _ + _ * 1 ≤ _
          omega
        · exact ⟨_, _, rfl, rfl, small (by rw [strLen_append]; show (num e.pl).length + 1 + _ ≤ _; omega), _, _, rfl, rfl, small (by rw [strLen_append, strLen_append]; show (num e.pl).length + 1 + _ + 1 ≤ _; omega), _, rfl, _, _, rfl, rfl, small (by rw [strLen_append, strLen_append, strLen_append]; show (num e.pl).length + 1 + _ + 1 + _ ≤ _; omega), qq⟩
def spEin : Sp := fun vs H Q _ => ∃ (l : Nat) (e : En) (n : Nat), vs = [.int l, .str (recd e)] ∧ OkE n l e ∧ n ≤ 8 ∧ ∀ H' v, Same H H' → EnV (newH H H') v l e → Q v H'
theorem ok_entry_in (T : Tx K mg CD CJ) (G_number_in : Fnc P w K mg base CX0 1 "number_in" [] spNin) (G_pairs_in : Fnc P w K mg base CX0 3 "pairs_in" [] spPin) (F : FD K "entry_in" "entry_in" s_entry_in [] f fd) : FnG P w K mg base CX0 4 f fd ["lane", "record"] spEin := by
  refine ok0 F sc_entry_in (fun vs H Q E h => ?_) (fun cdv A outer s H vs Q E hr h => ?_)
  · obtain ⟨l, e, n, rfl, _⟩ := h
    rfl
  · obtain ⟨l, e, n, rfl, ok, n8, q⟩ := h
    refine ⟨_, (pss_cons (ps_asg (pe_partition (pv 1) (pe_gS T.g_SPACE_journals)) (pg_tup rfl (pgs_cons (pg_name (i := 2) sc_entry_in.nd rfl (by first | exact Or.inl rfl | exact Or.inr rfl)) (pgs_cons (pg_name (i := 3) sc_entry_in.nd rfl (by first | exact Or.inl rfl | exact Or.inr rfl)) (pgs_cons (pg_name (i := 4) sc_entry_in.nd rfl (by first | exact Or.inl rfl | exact Or.inr rfl)) pgs_nil)))))
      (pss_cons (ps_asg (pe_partition (pv 4) (pe_gS T.g_SPACE_journals)) (pg_tup rfl (pgs_cons (pg_name (i := 5) sc_entry_in.nd rfl (by first | exact Or.inl rfl | exact Or.inr rfl)) (pgs_cons (pg_name (i := 6) sc_entry_in.nd rfl (by first | exact Or.inl rfl | exact Or.inr rfl)) (pgs_cons (pg_name (i := 7) sc_entry_in.nd rfl (by first | exact Or.inl rfl | exact Or.inr rfl)) pgs_nil)))))
      (pss_cons (ps_par (i := 8) (j := 9) rfl sc_entry_in.nd rfl rfl (by decide) rfl rfl (pa_cons (pe_fn G_number_in (hr.mono (by decide)) pass0 (pa_cons (pv 2) pa_nil)) (pa_cons (pe_fn G_pairs_in (hr.mono (by decide)) pass0 (pa_cons (pv 5) (pa_cons (pv 0) pa_nil))) pa_nil)) (by rfl))
      (pss_one (ps_ret (pe_ifExp (PW.pt (pw_or (pt_cmpR op_eq (pv 6) pe_str (nomark _)) (pw_or (pt_cmpR op_isN (pv 8) pe_non (nomark _)) (pw_or1 (pt_cmpR op_isN (pv 9) pe_non (nomark _)))))) pe_non (pe_tup (pa_cons (pv 0) (pa_cons (pv 8) (pa_cons (pv 9) (pa_cons (pv 7) pa_nil))))))))))), ?_⟩
    have b1 : (((⟨#[32]⟩ : Str)).length == 0) = false := by decide +kernel
    have lr : (recd e).length ≤ 144 := by rw [TL.len_tl]; exact recd_len n8 ok
    refine ⟨_, rfl, ⟨_, rfl⟩, _, _, rfl, rfl, b1, small (by omega), fun t nt => ?_⟩
    rw [part_rec]
    refine ⟨t, _, rfl, SqT.of upd_same, rfl, _, _, rfl, _, _, rfl, _, _, rfl, rfl, ?_⟩
    have lr2 : (names e.prs ++ ⟨#[32]⟩ ++ e.pay).length ≤ 144 := by
      have := lr
      unfold recd at this
      rw [app_assoc (num e.pl ++ ⟨#[32]⟩) (names e.prs) ⟨#[32]⟩, app_assoc (num e.pl ++ ⟨#[32]⟩), strLen_append] at this
      omega
    dsimp only
    refine ⟨_, rfl, ⟨_, rfl⟩, _, _, rfl, rfl, b1, small (by omega), fun u nu => ?_⟩
    rw [part_rest]
    refine ⟨u, _, rfl, SqT.of upd_same, rfl, _, _, rfl, _, _, rfl, _, _, rfl, rfl, ?_⟩
    have s12 := (same_upd (o := .tup [.str (num e.pl), .str ⟨#[32]⟩, .str (names e.prs ++ ⟨#[32]⟩ ++ e.pay)]) nt).trans (same_upd (o := .tup [.str (names e.prs), .str ⟨#[32]⟩, .str e.pay]) nu)
    refine ⟨_, rfl, e.pl, rfl, by have := ok.pl; omega, fun H1 s1 => ⟨_, rfl, _, rfl, e.prs, l, rfl, (fun p hp => by obtain ⟨a, b, c⟩ := ok.ln p hp; exact ⟨by omega, b, c⟩), ok.up, ok.few, fun H2 qa us s2 nq hq pr => ⟨_, _, rfl, ?_⟩⟩⟩
    refine ⟨_, rfl, rfl, _, rfl, iteN (decide_eq_false fun z => by cases congrArg tl (V.str.inj z)) ⟨_, rfl, rfl, _, rfl, iteN rfl ⟨_, rfl, rfl, _, rfl, iteN rfl ?_⟩⟩⟩
    refine ⟨_, rfl, _, rfl, _, rfl, _, rfl, small (by show 4 ≤ 100000; decide), fun v nv => ?_⟩
    have sm := (s12.trans s1).trans s2
    refine q _ (.ref v) (sm.trans (same_upd nv)) ⟨v, qa, us, rfl, ?_, ?_, ?_⟩
    · rw [newH_at (sm.free nv), upd_same]
    · have nq0 := (s12.trans s1).free nq
      rw [newH_at nq0, upd_ne (ne_of_none hq nv)]
      exact hq
    · exact (pr.same (newH_mono (s12.trans s1))).same (newH_same (same_upd nv))
def spRows : Sp := fun vs H Q _ => ∃ (a : Addr) (l : Nat) (es : List En) (n : Nat), vs = [.ref a] ∧ EsAt H a l es ∧ (∀ e ∈ es, OkE n l e) ∧ n ≤ 8 ∧ es.length ≤ 64 ∧ ∀ H', Same H H' → Q (.str (S (rowsL es))) H'
theorem ok_rows_of (T : Tx K mg CD CJ) (G_entry_record : Fnc P w K mg base CX0 1 "entry_record" [] spErec) (G_sealed : Fnc P w K mg base CX0 2 "sealed" [] spSealed) (F : FD K "rows_of" "rows_of" s_rows_of [] f fd) : FnG P w K mg base CX0 3 f fd ["entries"] spRows := by
  refine ok0 F sc_rows_of (fun vs H Q E h => ?_) (fun cdv A outer s H vs Q E hr h => ?_)
  · obtain ⟨a, l, es, n, rfl, _⟩ := h
    rfl
  · obtain ⟨a, l, es, n, rfl, ⟨vs, ha, ev⟩, ok, n8, le, q⟩ := h
    refine ⟨_, (pss_one (ps_ret (pe_join pe_str (pe_lc (own := [("entry", 1)]) rfl sc_rows_of.nd (pi_list (pv 0)) (blkOk_by (own := [("entry", 1)]) (N := n_rows_of) (sc := defScope s_rows_of) (by decide +kernel)) (fun _ _ _ _ _ => (pg_name (i := 1) sc_rows_of.nd rfl (by first | exact Or.inl rfl | exact Or.inr rfl))) (fun _ _ _ _ _ => pts_nil) (fun _ _ _ _ _ => (pe_fn G_sealed (hr.mono (by decide)) pass0 (pa_cons (pe_fn G_entry_record (hr.mono (by decide)) pass0 (pa_cons (pv 1) pa_nil)) pa_nil))))))), ?_⟩
    refine ⟨⟨_, rfl⟩, _, rfl, a, rfl, ⟨_, SqL.of ha⟩, fun D nD => ?_⟩
    refine lc_acc (walk_list (K := K) (a := a) (xs := vs)) nD (fun j => ((es.take j).map fun e => S (rowL e)).map V.str) rfl (fun j hj => ?_) (fun H' s' => SqL.of (s' _ _ ha)) ?_ ?_
    · rw [List.length_map, List.length_map, List.length_take]
      omega
    · rintro j x G G' hj s2 ⟨rfl, hx⟩ N S hN hS
      have lv := ev.len
      have hj' : j < es.length := by omega
      have ej := ev.at_ j x es[j] hx (List.getElem?_eq_getElem hj')
      have oj := ok es[j] (List.getElem_mem hj')
      refine ⟨rfl, _, rfl, x, l, es[j], n, rfl, ej.same s2, oj, n8, fun G3 s3 => ⟨_, rfl, recd_free oj, ?_, hN _ _ s3 ?_⟩⟩
      · have := recd_len n8 oj
        rw [← show (recd es[j]).length = (tl (recd es[j])).length from TL.len_tl _] at this
        omega
      · rw [take_snoc (List.getElem?_eq_getElem hj'), List.map_append, List.map_append]
        rfl
    · intro G s2 h2
      have lv := ev.len
      rw [lv, List.take_length] at h2
      refine ⟨_, D, _, rfl, rfl, .inl (SqL.of h2), ?_, ?_⟩
      · have sm := sum_len (f := fun x : Str => x.length) (m := 160) (l := es.map fun e => S (rowL e)) fun x hx => by
          obtain ⟨e, he, rfl⟩ := List.mem_map.mp hx
          have := row_len n8 (ok e he)
          rw [TL.len_tl]
          exact this
        rw [List.length_map] at sm ⊢
        show _ + es.length * 0 ≤ _
        omega
      · have : Txt.join (Str.ofString "") (es.map fun e => S (rowL e)) = S (rowsL es) := by
          rw [TL.join_eq]
          apply TL.ext_tl
          show TL.tl _ = rowsL es
          rw [TL.tl_join, show TL.tl (Str.ofString "") = [] by decide +kernel, join_nil, List.map_map]
          unfold rowsL
          rw [List.flatMap_def]
          rfl
        rw [this]
        exact q _ s2
end
end K77

set_option Elab.async false
set_option linter.all false
set_option maxRecDepth 100000
set_option maxHeartbeats 4000000
/-! O77e: spots; which entry may stand next. -/
namespace K77
open PySem PySem.Spec PyProof.Rows L2 LL K75 JN
section
variable {P : Program} {w : World} {K : PySem.W.Frag} {mg : Str → Option Value} {base : Heap} {CD CJ : Addr} {f : Addr} {fd : FuncData}
theorem kLL {K : PySem.W.Frag} : PySem.W.kitOne K (.type "list") (.type "list") = some true := kit_ty (by decide +kernel)
theorem kLT {K : PySem.W.Frag} : PySem.W.kitOne K (.type "list") (.type "tuple") = some false := kit_ty (by decide +kernel)
theorem kTL {K : PySem.W.Frag} : PySem.W.kitOne K (.type "tuple") (.type "list") = some false := kit_ty (by decide +kernel)
theorem kitA {K : PySem.W.Frag} {t : Value} {b c : Bool} (h1 : PySem.W.kitOne K t (.type "list") = some b) (h2 : PySem.W.kitOne K t (.type "tuple") = some c) : PySem.W.kitAny K t [.type "list", .type "tuple"] = some (b || c) := by
  cases b <;> cases c <;> simp [PySem.W.kitAny, h1, h2]
theorem ty_lt {K : PySem.W.Frag} {H : Hp} {a : Addr} {vs : List V} (h : Lt H a vs) : ∃ t, TyX K H (.ref a) t ∧ PySem.W.kitAny K t [.type "list", .type "tuple"] = some true := by
  rcases h with h | h
  · exact ⟨.type "list", .base (.lst h), kitA kLL kLT⟩
  · exact ⟨.type "tuple", .base (.tup h), kitA kTL kTT⟩
def spIsl : Sp := fun vs H Q _ => ∃ a us, vs = [.ref a] ∧ Lt H a us ∧ ∀ H', Same H H' → Q (.bl true) H'
theorem ok_is_list (T : Tx K mg CD CJ) (F : FD K "is_list" "is_list" s_is_list [] f fd) : FnG P w K mg base CX0 1 f fd ["value"] spIsl := by
  refine ok0 F sc_is_list (fun vs H Q E h => ?_) (fun cdv A outer s H vs Q E hr h => ?_)
  · obtain ⟨a, us, rfl, _⟩ := h
    rfl
  · obtain ⟨a, us, rfl, ha, q⟩ := h
    refine ⟨_, (pss_one (ps_ret (pe_callB call_isiT (by rfl) T.n_isinstance (by decide +kernel) (pa_cons (pv 0) (pa_cons (pe_tup (pa_cons (pe_bltn (v := .ty "list") (by rfl) T.n_list (by decide +kernel) rfl) (pa_cons (pe_bltn (v := .ty "tuple") (by rfl) T.n_tuple (by decide +kernel) rfl) pa_nil))) pa_nil))))), ?_⟩
    refine ⟨_, rfl, small (by show 2 ≤ 100000; decide), fun T nT => ?_⟩
    have s1 := same_upd (o := .tup [.ty "list", .ty "tuple"]) nT
    obtain ⟨t, ty, kt⟩ := ty_lt (K := K) (ha.same s1)
    exact ⟨_, _, _, t, _, _, rfl, upd_same, .cons (.ty _) (.cons (.ty _) .nil), ty, kt, q _ s1⟩
def spIsp : Sp := fun vs H Q _ => ∃ (t c : Addr) (p : Nat × Nat) (l n : Nat) (ends : Nat → Nat), vs = [.ref t, .int l, .ref c] ∧ H t = some (.tup [.int p.1, .int p.2]) ∧ H c = some (.lst (nL ends n)) ∧ n ≤ 8 ∧ p.1 < n ∧ p.1 ≠ l ∧ p.2 < ends p.1 ∧ Q (.bl true) H
theorem ok_is_spot (T : Tx K mg CD CJ) (G_is_number : Fnc P w K mg base CX0 1 "is_number" [] spNum) (F : FD K "is_spot" "is_spot" s_is_spot [] f fd) : FnG P w K mg base CX0 2 f fd ["value", "lane", "ends"] spIsp := by
  refine ok0 F sc_is_spot (fun vs H Q E h => ?_) (fun cdv A outer s H vs Q E hr h => ?_)
  · obtain ⟨t, c, p, l, n, ends, rfl, _⟩ := h
    rfl
  · obtain ⟨t, c, p, l, n, ends, rfl, ht, hc, n8, h1, h2, h3, q⟩ := h
    refine ⟨_, (pss_cons (ps_if (PW.pt (pw_or (pt_not (pt_val (pe_callB call_isi (by rfl) T.n_isinstance (by decide +kernel) (pa_cons (pv 0) (pa_cons (pe_bltn (v := .ty "tuple") (by rfl) T.n_tuple (by decide +kernel) rfl) pa_nil))))) (pw_or (pt_cmpR op_ne (pe_callB call_len_seq (by rfl) T.n_len (by decide +kernel) (pa_cons (pv 0) pa_nil)) pe_int (nomark _)) (pw_or (pt_not (pt_val (pe_fn G_is_number (hr.mono (by decide)) pass0 (pa_cons (pe_ix ix_tup (pv 0) pe_int (fun _ _ => rfl)) pa_nil)))) (pw_or1 (pt_not (pt_val (pe_fn G_is_number (hr.mono (by decide)) pass0 (pa_cons (pe_ix ix_tup (pv 0) pe_int (fun _ _ => rfl)) pa_nil))))))))) (pss_one (ps_ret pe_bl)) pss_nil)
      (pss_one (ps_ret (pe_and (pe_cmpR op_lt (pe_ix ix_tup (pv 0) pe_int (fun _ _ => rfl)) (pe_callB call_len_seq (by rfl) T.n_len (by decide +kernel) (pa_cons (pv 2) pa_nil)) (nomark _)) (pe_and (pe_cmpR op_ne (pe_ix ix_tup (pv 0) pe_int (fun _ _ => rfl)) (pv 1) (nomark _)) (pe_one (pe_cmpR op_lt (pe_ix ix_tup (pv 0) pe_int (fun _ _ => rfl)) (pe_ix ix_list (pv 2) (pe_ix ix_tup (pv 0) pe_int (fun _ _ => rfl)) (fun _ _ => rfl)) (nomark _)))))))), ?_⟩
    have lc : (nL ends n).length = n := nL_len _ _
    refine ⟨_, rfl, _, _, .type "tuple", _, _, rfl, .ty "tuple", .base (.tup ht), kTT, _, rfl, iteF ⟨_, rfl, t, _, rfl, .inr (SqT.of ht), rfl, _, rfl, iteN rfl ⟨_, rfl, t, _, 0, _, rfl, rfl, SqT.of ht, rfl, p.1, rfl, _, rfl, iteF ⟨_, rfl, t, _, 1, _, rfl, rfl, SqT.of ht, rfl, p.2, rfl, _, rfl, iteF ?_⟩⟩⟩⟩
    refine ⟨_, rfl, t, _, 0, _, rfl, rfl, SqT.of ht, rfl, _, rfl, c, _, rfl, .inl (SqL.of hc), _, _, rfl, rfl, _, rfl, iteY (decide_eq_true (by rw [lc]; omega)) ?_⟩
    refine ⟨_, rfl, t, _, 0, _, rfl, rfl, SqT.of ht, rfl, _, rfl, rfl, _, rfl, iteY (by rw [decide_eq_false fun z => h2 (by have := V.int.inj z; omega)]; rfl) ?_⟩
    refine ⟨_, rfl, t, _, 1, _, rfl, rfl, SqT.of ht, rfl, _, rfl, _, rfl, t, _, 0, _, rfl, rfl, SqT.of ht, rfl, c, _, _, _, rfl, rfl, SqL.of hc, nL_at h1, _, _, rfl, rfl, ?_⟩
    show Q (.bl (decide ((p.2 : Int) < (ends p.1 : Int)))) H
    rw [decide_eq_true (by omega)]
    exact q
def spCnt : Sp := fun vs H Q _ => ∃ (t c : Addr) (p : Nat × Nat) (n : Nat) (cs : Nat → Nat), vs = [.ref t, .ref c] ∧ H t = some (.tup [.int p.1, .int p.2]) ∧ H c = some (.lst (nL cs n)) ∧ n ≤ 8 ∧ Q (.bl (decide (p.1 < n) && decide (p.2 < cs p.1))) H
theorem ok_is_counted (T : Tx K mg CD CJ) (F : FD K "is_counted" "is_counted" s_is_counted [] f fd) : FnG P w K mg base CX0 1 f fd ["pair", "counts"] spCnt := by
  refine ok0 F sc_is_counted (fun vs H Q E h => ?_) (fun cdv A outer s H vs Q E hr h => ?_)
  · obtain ⟨t, c, p, n, cs, rfl, _⟩ := h
    rfl
  · obtain ⟨t, c, p, n, cs, rfl, ht, hc, n8, q⟩ := h
    refine ⟨_, (pss_cons (ps_asg (pv 0) (pg_tup rfl (pgs_cons (pg_name (i := 2) sc_is_counted.nd rfl (by first | exact Or.inl rfl | exact Or.inr rfl)) (pgs_cons (pg_name (i := 3) sc_is_counted.nd rfl (by first | exact Or.inl rfl | exact Or.inr rfl)) pgs_nil))))
      (pss_one (ps_ret (pe_and (pe_cmpR op_lt (pv 2) (pe_callB call_len_seq (by rfl) T.n_len (by decide +kernel) (pa_cons (pv 1) pa_nil)) (nomark _)) (pe_one (pe_cmpR op_lt (pv 3) (pe_ix ix_list (pv 1) (pv 2) (fun _ _ => rfl)) (nomark _))))))), ?_⟩
    refine ⟨_, rfl, t, _, rfl, SqT.of ht, rfl, _, _, rfl, _, _, rfl, rfl, ?_⟩
    have lc : (nL cs n).length = n := nL_len _ _
    refine ⟨_, rfl, _, rfl, c, _, rfl, .inl (SqL.of hc), _, _, rfl, rfl, _, rfl, iteB (fun e => ?_) (fun e => ?_)⟩
    · have h1 : p.1 < n := by have := of_decide_eq_true e; rw [lc] at this; omega
      refine ⟨_, rfl, _, rfl, _, rfl, c, _, _, _, rfl, rfl, SqL.of hc, nL_at h1, _, _, rfl, rfl, ?_⟩
      show Q (.bl (decide ((p.2 : Int) < (cs p.1 : Int)))) H
      rw [decide_eq_true h1, Bool.true_and] at q
      rw [show decide ((p.2 : Int) < (cs p.1 : Int)) = decide (p.2 < cs p.1) from decide_eq_decide.mpr (by omega)]
      exact q
    · have h1 : ¬ p.1 < n := by have := of_decide_eq_false e; rw [lc] at this; omega
      rw [decide_eq_false h1, Bool.false_and] at q
      exact q
/-- the next spot, as told -/
def SpV (J : Jr) (c : Nat → Nat) (N : Hp) (v : V) : Prop := (nxt J c = none ∧ v = .non) ∨ ∃ (k : Nat) (t : Addr), nxt J c = some k ∧ v = .ref t ∧ N t = some (.tup [.int k, .int (c k)])
theorem SpV.same {J : Jr} {c : Nat → Nat} {N N' : Hp} {v : V} (h : SpV J c N v) (s : Same N N') : SpV J c N' v := h.imp id fun ⟨k, t, a, b, e⟩ => ⟨k, t, a, b, s _ _ e⟩
def spNxt : Sp := fun vs H Q _ => ∃ (a b c : Addr) (J : Jr) (cs : Nat → Nat), vs = [.ref a, .ref b, .ref c] ∧ LnsAt H a J ∧ OkJ J ∧ H b = some (.lst (nL J.cut J.n)) ∧ H c = some (.lst (nL cs J.n)) ∧ (∀ l, l < J.n → J.cut l ≤ cs l) ∧
  ∀ H' v, Same H H' → SpV J cs (newH H H') v → Q v H'
theorem ok_next_spot (T : Tx K mg CD CJ) (G_is_counted : Fnc P w K mg base CX0 1 "is_counted" [] spCnt) (F : FD K "next_spot" "next_spot" s_next_spot [] f fd) : FnG P w K mg base CX0 2 f fd ["lanes", "cut", "counts"] spNxt := by
  refine ok0 F sc_next_spot (fun vs H Q E h => ?_) (fun cdv A outer s H vs Q E hr h => ?_)
  · obtain ⟨a, b, c, J, cs, rfl, _⟩ := h
    rfl
  · obtain ⟨a, b, c, J, cs, rfl, ⟨la, ha, ll, le⟩, O, hb, hc, lo, fin⟩ := h
    refine ⟨_, (pss_cons (ps_for PassesOwn.never rfl (pi_enumA (by rfl) T.n_enumerate (pa_cons (pv 0) pa_nil)) (pg_tup rfl (pgs_cons (pg_name (i := 3) sc_next_spot.nd rfl (by first | exact Or.inl rfl | exact Or.inr rfl)) (pgs_cons (pg_name (i := 4) sc_next_spot.nd rfl (by first | exact Or.inl rfl | exact Or.inr rfl)) pgs_nil))) (pss_cons (ps_set (i := 5) sc_next_spot.nd rfl (by first | exact Or.inl rfl | exact Or.inr rfl) (pe_op op_sub (pe_ix ix_list (pv 2) (pv 3) (fun _ _ => rfl)) (pe_ix ix_list (pv 1) (pv 3) (fun _ _ => rfl))))
      (pss_one (ps_if (PW.pt (pw_and (pt_cmpR op_lt (pv 5) (pe_callB call_len_seq (by rfl) T.n_len (by decide +kernel) (pa_cons (pv 4) pa_nil)) (nomark _)) (pw_and1 (pt_val (pe_callB (cr_all rfl) (by rfl) T.n_all (by decide +kernel) (pa_cons (pe_lc (own := [("pair", 6)]) rfl sc_next_spot.nd (pi_tup (pe_ix ix_tup (pe_ix ix_list (pv 4) (pv 5) (fun _ _ => rfl)) pe_int (fun _ _ => rfl))) (blkOk_by (own := [("pair", 6)]) (N := n_next_spot) (sc := defScope s_next_spot) (by decide +kernel)) (fun _ _ _ _ _ => (pg_name (i := 6) sc_next_spot.nd rfl (by first | exact Or.inl rfl | exact Or.inr rfl))) (fun _ _ _ _ _ => pts_nil) (fun _ _ _ _ _ => (pe_fn G_is_counted (hr.mono (by decide)) pass0 (pa_cons (pv 6) (pa_cons (pv 2) pa_nil))))) pa_nil)))))) (pss_one (ps_ret (pe_tup (pa_cons (pv 3) (pa_cons (pe_ix ix_list (pv 2) (pv 3) (fun _ _ => rfl)) pa_nil))))) pss_nil))))
      (pss_one (ps_ret pe_non))), ?_⟩
    refine ⟨_, rfl, true, a, la.map V.ref, rfl, SqL.of ha, ?_⟩
    refine for_it (walk_enumK (K := K) (k := true) (a := a) (xs := la.map V.ref)) (fun i σ H' => Same H H' ∧ (∀ l, l < i → can J cs l = false) ∧ ∃ u v x y, σ = [some (.ref a), some (.ref b), some (.ref c), u, v, x, y]) ⟨Same.rfl', fun l hl => absurd hl (Nat.not_lt_zero l), none, none, none, none, rfl⟩ (fun i σ H' _ h => SqL.of (h.1 _ _ ha)) ?_ ?_
    · rintro i x σ H2 H3 hi ⟨s2, no, u, v, x5, x6, rfl⟩ ⟨t, y, zz, rfl, nt, rfl, hy, hz⟩
      cases hy
      obtain ⟨qa, hqa, rfl⟩ := ref_get hz
      rw [List.length_map, ll] at hi
      obtain ⟨vs, hvs, ev⟩ := le i qa hqa
      obtain ⟨G3, e3, s3, ht3⟩ := mkO nt (.tup [.int (i : Nat), .ref qa])
      rw [e3]
      have s03 := s2.trans s3
      have lo' := lo i hi
      have lcs : (nL cs J.n).length = J.n := nL_len _ _
      refine ⟨t, _, rfl, SqT.of ht3, rfl, _, _, rfl, _, _, rfl, rfl, ?_⟩
      refine ⟨_, rfl, _, rfl, c, _, _, _, rfl, rfl, SqL.of (s03 _ _ hc), nL_at hi, _, rfl, _, rfl, b, _, _, _, rfl, rfl, SqL.of (s03 _ _ hb), nL_at hi, _, _, rfl, rfl, ?_⟩
      have ep : (cs i : Int) - (J.cut i : Int) = ((cs i - J.cut i : Nat) : Int) := by omega
      dsimp only
      rw [ep]
      have hv3 := s03 _ _ hvs
      have lv := ev.len
      refine ⟨_, rfl, _, rfl, qa, _, rfl, .inl (SqL.of hv3), _, _, rfl, rfl, _, rfl, iteB (fun e => ?_) (fun e => ?_)⟩
      · have hp : cs i - J.cut i < (J.es i).length := by have := of_decide_eq_true e; omega
        have hp' : cs i - J.cut i < vs.length := by omega
        have ee := (ev.at_ _ _ _ (List.getElem?_eq_getElem hp') (List.getElem?_eq_getElem hp)).same s03
        have oe := O.ok i hi _ (List.getElem_mem hp)
        generalize hve : vs[cs i - J.cut i] = ve at ee
        have hav : atI vs ((cs i - J.cut i : Nat) : Int) = some ve := by rw [← hve]; exact atI_nat (List.getElem?_eq_getElem hp')
        have hcan : can J cs i = ((J.es i)[cs i - J.cut i]).prs.all fun p => decide (p.1 < J.n) && decide (p.2 < cs p.1) := by
          unfold can
          rw [List.getElem?_eq_getElem hp]
        generalize (J.es i)[cs i - J.cut i] = en at *
        obtain ⟨te, qe, us, rfl, hte, hqe, pr⟩ := ee.ex
        refine ⟨_, rfl, _, rfl, qa, vs, _, _, rfl, rfl, SqL.of hv3, hav, te, _, 2, _, rfl, rfl, SqT.of hte, rfl, qe, rfl, ⟨us, SqT.of hqe⟩, fun D nD => ?_⟩
        have lu : us.length = en.prs.length := pr.len'
        refine lc_acc (walk_tup (K := K) (a := qe) (xs := us)) nD (fun j => ((en.prs.take j).map fun p => decide (p.1 < J.n) && decide (p.2 < cs p.1)).map V.bl) rfl (fun j hj => ?_) (fun H' s' => SqT.of (s' _ _ hqe)) ?_ ?_
        · have := oe.few
          rw [List.length_map, List.length_map, List.length_take]
          omega
        · rintro j x G G' hj s4 ⟨rfl, hx⟩ N S hN hS
          have hj' : j < en.prs.length := by omega
          obtain ⟨tp, rfl, htp⟩ := pr.get hx (List.getElem?_eq_getElem hj')
          refine ⟨rfl, _, rfl, _, rfl, tp, c, en.prs[j], J.n, cs, rfl, s4 _ _ htp, s4 _ _ (s03 _ _ hc), O.n8, hN _ _ Same.rfl' ?_⟩
          rw [take_snoc (List.getElem?_eq_getElem hj'), List.map_append, List.map_append]
          rfl
        · intro G s4 h4
          have s04 := s03.trans s4
          rw [lu, List.take_length] at h4
          refine ⟨D, _, rfl, SqL.of h4, _, rfl, ?_⟩
          rw [show ((en.prs.map fun p => decide (p.1 < J.n) && decide (p.2 < cs p.1)).all id) = can J cs i by rw [hcan, List.all_map]; rfl]
          refine iteB (fun e => ?_) (fun e => ?_)
          · refine ⟨_, rfl, _, rfl, _, rfl, c, _, _, _, rfl, rfl, SqL.of (s04 _ _ hc), nL_at hi, small (by show 2 ≤ 100000; decide), fun T nT => ?_⟩
            exact fin _ _ (s04.trans (same_upd nT)) (.inr ⟨i, T, nxt_of hi e no, rfl, by rw [newH_at (s04.free nT), upd_same]⟩)
          · refine ⟨s04, fun l hl => ?_, _, _, _, _, rfl⟩
            by_cases c' : l = i
            · rw [c']
              exact e
            · exact no l (by omega)
      · refine ⟨s03, fun l hl => ?_, _, _, _, _, rfl⟩
        by_cases c' : l = i
        · have hp := of_decide_eq_false e
          rw [c']
          unfold can
          rw [List.getElem?_eq_none (by omega)]
        · exact no l (by omega)
    · rintro σ H2 ⟨s2, no, u, v, x5, x6, rfl⟩
      exact fin _ _ s2 (.inl ⟨nxt_of_none fun l hl => no l (by rw [List.length_map, ll]; exact hl), rfl⟩)
end
end K77

set_option Elab.async false
set_option linter.all false
set_option maxRecDepth 100000
set_option maxHeartbeats 4000000
/-! O77f: a journal in the heap; made; its entries. -/
namespace K77
open PySem PySem.Spec PyProof.Rows L2 LL K75 JN
abbrev s_Journalinit : Stmt := inClass (top 43) 0
abbrev n_Journalinit : List Str := ["self", "lanes", "lane"]
theorem sc_Journalinit : FnScope n_Journalinit ["self", "lanes"] (defScope s_Journalinit) := ⟨rfl, rfl, rfl, by decide +kernel, rfl, by decide +kernel, by decide +kernel⟩
abbrev s_Journal_with_disks : Stmt := inClass (top 43) 1
abbrev n_Journal_with_disks : List Str := ["self", "disks", "cut", "found"]
theorem sc_Journal_with_disks : FnScope n_Journal_with_disks ["self", "disks", "cut"] (defScope s_Journal_with_disks) := ⟨rfl, rfl, rfl, by decide +kernel, rfl, by decide +kernel, by decide +kernel⟩
abbrev s_Journal_entries : Stmt := inClass (top 43) 2
abbrev n_Journal_entries : List Str := ["self", "lane", "found", "record", "entry"]
theorem sc_Journal_entries : FnScope n_Journal_entries ["self", "lane"] (defScope s_Journal_entries) := ⟨rfl, rfl, rfl, by decide +kernel, rfl, by decide +kernel, by decide +kernel⟩
abbrev s_Journal_all_entries : Stmt := inClass (top 43) 3
abbrev n_Journal_all_entries : List Str := ["self", "lane"]
theorem sc_Journal_all_entries : FnScope n_Journal_all_entries ["self"] (defScope s_Journal_all_entries) := ⟨rfl, rfl, rfl, by decide +kernel, rfl, by decide +kernel, by decide +kernel⟩
section
variable {P : Program} {w : World} {K : PySem.W.Frag} {mg : Str → Option Value} {base : Heap} {CD CJ : Addr} {f : Addr} {fd : FuncData}
def jfl (pd pc : Addr) : List (Str × V) := [("own_disks", .ref pd), ("own_cut", .ref pc)]
theorem ne_dc : ¬ (("own_disks" : Str) = "own_cut") := by decide +kernel
theorem ne_cd : ¬ (("own_cut" : Str) = "own_disks") := by decide +kernel
theorem jput_d (pd : Addr) : putF "own_disks" (.ref pd) [] = [(("own_disks" : Str), V.ref pd)] := rfl
theorem jput_new (pd pc : Addr) : putF "own_cut" (.ref pc) [(("own_disks" : Str), V.ref pd)] = jfl pd pc := by
  show (if ("own_disks" : Str) = "own_cut" then _ else (("own_disks" : Str), V.ref pd) :: [(("own_cut" : Str), V.ref pc)]) = _
  rw [if_neg ne_dc]
  rfl
theorem jput_disks (pd pc q : Addr) : putF "own_disks" (.ref q) (jfl pd pc) = jfl q pc := by
  show (if ("own_disks" : Str) = "own_disks" then (("own_disks" : Str), V.ref q) :: [(("own_cut" : Str), V.ref pc)] else _) = _
  rw [if_pos rfl]
  rfl
theorem jput_cut (pd pc q : Addr) : putF "own_cut" (.ref q) (jfl pd pc) = jfl pd q := by
  show (if ("own_disks" : Str) = "own_cut" then _ else (("own_disks" : Str), V.ref pd) :: (if ("own_cut" : Str) = "own_cut" then [(("own_cut" : Str), V.ref q)] else _)) = _
  rw [if_neg ne_dc, if_pos rfl]
  rfl
theorem look_d (pd pc : Addr) : (jfl pd pc).lookup ("own_disks" : Str) = some (V.ref pd) := by
  rw [← jput_new, lookup_putF, if_neg ne_dc]
  show (putF "own_disks" (V.ref pd) []).lookup _ = _
  rw [lookup_putF, if_pos rfl]
theorem look_c (pd pc : Addr) : (jfl pd pc).lookup ("own_cut" : Str) = some (V.ref pc) := by
  rw [← jput_new, lookup_putF, if_pos rfl]
theorem look_jno (pd pc : Addr) {m : Str} (h1 : ¬ m = "own_disks") (h2 : ¬ m = "own_cut") : (jfl pd pc).lookup m = none := by
  rw [← jput_new, lookup_putF, if_neg h2]
  show (putF "own_disks" (V.ref pd) []).lookup _ = _
  rw [lookup_putF, if_neg h1]
  rfl
/-- a journal at p, its disks at ds -/
structure JAt (CD CJ : Addr) (H : Hp) (p : Addr) (ds : List Addr) (J : Jr) : Prop where
  ex : ∃ dx pd pc, H p = some (.ins CJ dx (jfl pd pc)) ∧ H pd = some (.lst (ds.map V.ref)) ∧ H pc = some (.lst (nL J.cut J.n))
  len : ds.length = J.n
  nd : ds.Nodup
  at_ : ∀ (l : Nat) d, ds[l]? = some d → DAt CD H d (S (J.txt l)) (J.sure l)
theorem JAt.same {H H' : Hp} {p : Addr} {ds : List Addr} {J : Jr} (h : JAt CD CJ H p ds J) (s : Same H H') : JAt CD CJ H' p ds J := by
  obtain ⟨dx, pd, pc, a, b, c⟩ := h.ex
  exact ⟨⟨dx, pd, pc, s _ _ a, s _ _ b, s _ _ c⟩, h.len, h.nd, fun l d e => (h.at_ l d e).same s⟩
theorem newH_some {H H' : Hp} {a : Addr} {o : HO} (h : newH H H' a = some o) : H a = none ∧ H' a = some o := by
  cases e : H a with
  | none => rw [newH_at e] at h; exact ⟨rfl, h⟩
  | some x => rw [newH_old e] at h; cases h
theorem snoc_get {α : Type} {la : List α} {a q : α} {l : Nat} (e : (la ++ [a])[l]? = some q) : la[l]? = some q ∨ (l = la.length ∧ q = a) := by
  by_cases c : l < la.length
  · rw [List.getElem?_append_left c] at e
    exact .inl e
  · rw [List.getElem?_append_right (by omega)] at e
    cases hi : l - la.length with
    | zero =>
      rw [hi] at e
      cases Option.some.inj e
      exact .inr ⟨by omega, rfl⟩
    | succ m => rw [hi] at e; cases e
theorem rep_nL (n c : Nat) : (List.replicate n [V.int (c : Nat)]).flatten = nL (fun _ => c) n := by
  rw [List.flatten_replicate_singleton]
  refine List.ext_getElem? fun i => ?_
  by_cases h : i < n
  · rw [nL_get h, List.getElem?_replicate_of_lt h]
  · rw [List.getElem?_eq_none (by rw [List.length_replicate]; omega), List.getElem?_eq_none (by rw [nL_len]; omega)]
/-! ### made -/
def spJI (CD CJ : Addr) : Sp := fun vs H Q _ => ∃ (p dx : Addr) (n : Nat), vs = [.ref p, .int n] ∧ H p = some (.ins CJ dx []) ∧ 1 ≤ n ∧ n ≤ 8 ∧ ∀ (H' : Hp) (pd pc : Addr) (ds : List Addr), But p H H' → H' p = some (.ins CJ dx (jfl pd pc)) → newH H H' pd = some (.lst (ds.map V.ref)) → newH H H' pc = some (.lst (nL (fun _ => 0) n)) → ds.length = n → ds.Nodup → (∀ d ∈ ds, DAt CD (newH H H') d "" 0) → Q .non H'
theorem ok_jinit (T : Tx K mg CD CJ) (G_check_lanes : Fnc P w K mg base CX0 2 "check_lanes" [] spLanes) (K_Disk0 : Mkf P w K mg base CX0 2 "Disk" (spMk0 CD)) (F : FD K "__init__" "Journal.__init__" s_Journalinit [] f fd) : FnG P w K mg base CX0 4 f fd ["self", "lanes"] (spJI CD CJ) := by
  refine ok0 F sc_Journalinit (fun vs H Q E h => ?_) (fun cdv A outer s H vs Q E hr h => ?_)
  · obtain ⟨p, dx, n, rfl, _⟩ := h
    rfl
  · obtain ⟨p, dx, n, rfl, hp, n1, n8, q⟩ := h
    refine ⟨_, (pss_cons (ps_expr (pe_fn G_check_lanes (hr.mono (by decide)) pass0 (pa_cons (pv 1) pa_nil)))
      (pss_cons (ps_fld (pv 0) (pe_lc (own := [("lane", 2)]) rfl sc_Journalinit.nd (pi_range1 (by rfl) T.n_range (pa_cons (pv 1) pa_nil)) (blkOk_by (own := [("lane", 2)]) (N := n_Journalinit) (sc := defScope s_Journalinit) (by decide +kernel)) (fun _ _ _ _ _ => (pg_name (i := 2) sc_Journalinit.nd rfl (by first | exact Or.inl rfl | exact Or.inr rfl))) (fun _ _ _ _ _ => pts_nil) (fun _ _ _ _ _ => (pe_mf0 K_Disk0 (hr.mono (by decide)) pass0))) rfl)
      (pss_one (ps_fld (pv 0) (pe_op op_rep (pe_lst (pa_cons pe_int pa_nil)) (pv 1)) rfl)))), ?_⟩
    refine ⟨_, rfl, n, rfl, n1, n8, ?_⟩
    refine ⟨_, rfl, n, rfl, by omega, by omega, fun D nD => ?_⟩
    refine lc_inv (walk_range (lo := 0) (n := n)) (fun j acc G => Same H G ∧ ∃ ds : List Addr, acc = ds.map V.ref ∧ ds.length = j ∧ ds.Nodup ∧ ∀ d ∈ ds, DAt CD (fillH H D G) d "" 0) (fun j acc G xs z => by rw [fill_upd]; exact ⟨own_same z.1 nD, z.2⟩) ⟨Same.rfl', [], rfl, rfl, List.nodup_nil, fun d hd => by cases hd⟩ (fun j acc G hj z => ?_) (fun _ _ _ _ _ => trivial) ?_ ?_
    · obtain ⟨_, ds, rfl, ld, _⟩ := z
      rw [List.length_map, ld]
      exact Nat.lt_of_lt_of_le (show j < 100 by omega) (small (by decide))
    · rintro j x acc G G' hj ⟨s1, ds, rfl, ld, nd, da⟩ hD ⟨rfl, hx⟩ N S hN hS
      refine ⟨rfl, rfl, fun G2 r s2 nr dr => hN _ _ (s2 _ _ hD) ⟨s1.trans s2, ds ++ [r], by rw [List.map_append]; rfl, by rw [List.length_append, ld]; rfl, ?_, fun d hd => ?_⟩⟩
      · rw [List.nodup_append]
        refine ⟨nd, by simp, fun a ha b hb => ?_⟩
        cases List.mem_singleton.mp hb
        rintro rfl
        obtain ⟨dx', e⟩ := da a ha
        rw [newH_le _ _ e] at nr
        cases nr
      · rcases List.mem_append.mp hd with hd | hd
        · exact (da d hd).same (fill_same s2)
        · cases List.mem_singleton.mp hd
          obtain ⟨dx', e⟩ := dr
          exact ⟨dx', by rw [fill_at (fun c => by rw [c, hD] at nr; cases nr) (s1.free nr)]; exact e⟩
    · rintro acc G2 hD ⟨s1, ds, rfl, ld, nd, da⟩
      have hp2 := s1 _ _ hp
      refine ⟨_, rfl, p, CJ, dx, [], rfl, hp2, T.cJ, T.nD, (by show 0 < 1000; decide), ?_⟩
      have npD : p ≠ D := fun e => by rw [e, nD] at hp; cases hp
      refine ⟨small (by show 1 ≤ 100000; decide), fun l nl => ⟨_, rfl, l, n, [.int 0], rfl, rfl, upd_same, by omega, by omega, small (by show 1 * n ≤ _; omega), fun pc npc => ?_⟩⟩
      have nlp : l ≠ p := fun e => by rw [e, upd_same] at nl; cases nl
      have h4 := same_upd (o := .lst [.int 0]) nl _ _ (upd_same (H := G2) (a := p) (o := .ins CJ dx (putF "own_disks" (.ref D) [])))
      have hp5 := same_upd (o := .lst (List.replicate (n : Int).toNat [.int 0]).flatten) npc _ _ h4
      have npp : pc ≠ p := fun e => by rw [e, h4] at npc; cases npc
      refine ⟨_, rfl, p, CJ, dx, _, rfl, hp5, T.cJ, T.nC, (by show 1 < 1000; decide), ?_⟩
      have chain : ∀ b o, G2 b = some o → b ≠ p → upd (upd (upd (upd G2 p (.ins CJ dx (putF "own_disks" (.ref D) []))) l (.lst [.int 0])) pc (.lst (List.replicate (n : Int).toNat [.int 0]).flatten)) p (.ins CJ dx (putF "own_cut" (.ref pc) [(("own_disks" : Str), V.ref D)])) b = some o := fun b o e ne => by
        have h3 : upd G2 p (.ins CJ dx (putF "own_disks" (.ref D) [])) b = some o := by rw [upd_ne ne]; exact e
        rw [upd_ne ne]
        exact same_upd npc _ _ (same_upd nl _ _ h3)
      have npcH : H pc = none := s1.free (by
        cases e : G2 pc with
        | none => rfl
        | some o =>
          have h3 : upd G2 p (.ins CJ dx (putF "own_disks" (.ref D) [])) pc = some o := by rw [upd_ne npp]; exact e
          rw [same_upd nl _ _ h3] at npc
          cases npc)
      refine q _ D pc ds (fun b o e ne => chain b o (s1 _ _ e) ne) (by rw [← jput_new]; exact upd_same) (by rw [newH_at nD]; exact chain _ _ hD (fun e => npD e.symm)) ?_ ld nd fun d hd => ?_
      · rw [newH_at npcH, upd_ne npp, upd_same]
        show some (HO.lst (List.replicate n [V.int ((0 : Nat) : Int)]).flatten) = _
        rw [rep_nL]
      · obtain ⟨dy, e⟩ := da d hd
        obtain ⟨e1, e2⟩ := newH_some e
        have ne : d ≠ D := fun c => by rw [c, upd_same] at e1; cases e1
        rw [upd_ne ne] at e1
        exact ⟨dy, by rw [newH_at e1]; exact chain _ _ e2 fun c => by rw [c, hp] at e1; cases e1⟩
def spMkJ (CD CJ : Addr) : Sp := fun vs H Q _ => ∃ n : Nat, vs = [.int n] ∧ 1 ≤ n ∧ n ≤ 8 ∧ ∀ (H' : Hp) (p pd pc : Addr) (ds : List Addr) (dx : Addr), Same H H' → newH H H' p = some (.ins CJ dx (jfl pd pc)) → newH H H' pd = some (.lst (ds.map V.ref)) → newH H H' pc = some (.lst (nL (fun _ => 0) n)) → ds.length = n → ds.Nodup → (∀ d ∈ ds, DAt CD (newH H H') d "" 0) → Q (.ref p) H'
def spWd (CD CJ : Addr) : Sp := fun vs H Q _ => ∃ (v : V) (pd pc : Addr) (ds : List Addr) (J : Jr), vs = [v, .ref pd, .ref pc] ∧ H pd = some (.lst (ds.map V.ref)) ∧ H pc = some (.lst (nL J.cut J.n)) ∧ ds.length = J.n ∧ 1 ≤ J.n ∧ J.n ≤ 8 ∧ ∀ (H' : Hp) (r dx qc : Addr), Same H H' → newH H H' r = some (.ins CJ dx (jfl pd qc)) → newH H H' qc = some (.lst (nL J.cut J.n)) → Q (.ref r) H'
theorem ok_with_disks (T : Tx K mg CD CJ) (K_Journal1 : Mkf P w K mg base CX0 4 "Journal" (spMkJ CD CJ)) (F : FD K "with_disks" "Journal.with_disks" s_Journal_with_disks [] f fd) : FnG P w K mg base CX0 6 f fd ["self", "disks", "cut"] (spWd CD CJ) := by
  refine ok0 F sc_Journal_with_disks (fun vs H Q E h => ?_) (fun cdv A outer s H vs Q E hr h => ?_)
  · obtain ⟨v, pd, pc, ds, J, rfl, _⟩ := h
    rfl
  · obtain ⟨v, pd, pc, ds, J, rfl, hd, hc, ld, n1, n8, q⟩ := h
    refine ⟨_, (pss_cons (ps_set (i := 3) sc_Journal_with_disks.nd rfl (by first | exact Or.inl rfl | exact Or.inr rfl) (pe_mf K_Journal1 (hr.mono (by decide)) pass0 (pa_cons (pe_callB call_len_seq (by rfl) T.n_len (by decide +kernel) (pa_cons (pv 1) pa_nil)) pa_nil)))
      (pss_cons (ps_fld (pv 3) (pv 1) rfl)
      (pss_cons (ps_fld (pv 3) (pe_callTy call_list_of (by rfl) T.n_list (by decide +kernel) (pa_cons (pv 2) pa_nil)) rfl)
      (pss_one (ps_ret (pv 3)))))), ?_⟩
    refine ⟨_, rfl, pd, _, rfl, .inl (SqL.of hd), (ds.map V.ref).length, rfl, by rw [List.length_map]; omega, by rw [List.length_map]; omega, fun H1 r p0 c0 ds0 dx s1 hr h0 hc0 _ _ _ => ?_⟩
    obtain ⟨nr, hr1⟩ := newH_some hr
    have rne : ∀ {b : Addr} {o : HO}, H b = some o → b ≠ r := fun e c => by rw [c, nr] at e; cases e
    refine ⟨_, rfl, _, rfl, r, CJ, dx, _, rfl, hr1, T.cJ, T.nD, (by show 2 < 1000; decide), ?_⟩
    have hc1 : upd H1 r (.ins CJ dx (putF "own_disks" (.ref pd) (jfl p0 c0))) pc = some (.lst (nL J.cut J.n)) := by
      rw [upd_ne (rne hc)]
      exact s1 _ _ hc
    refine ⟨_, rfl, pc, _, rfl, .inl (SqL.of hc1), fun l nl => ?_⟩
    have hr2 := same_upd (o := .lst (nL J.cut J.n)) nl _ _ (upd_same (H := H1) (a := r) (o := .ins CJ dx (putF "own_disks" (.ref pd) (jfl p0 c0))))
    have nlr : l ≠ r := fun e => by rw [e, upd_same] at nl; cases nl
    refine ⟨_, rfl, r, CJ, dx, _, rfl, hr2, T.cJ, T.nC, (by rw [jput_disks]; show 2 < 1000; decide), ⟨_, rfl, ?_⟩⟩
    rw [jput_disks, jput_cut]
    have chain : ∀ b o, H b = some o → upd (upd (upd H1 r (.ins CJ dx (jfl pd c0))) l (.lst (nL J.cut J.n))) r (.ins CJ dx (jfl pd l)) b = some o := fun b o e => by
      have h3 : upd H1 r (.ins CJ dx (jfl pd c0)) b = some o := by rw [upd_ne (rne e)]; exact s1 _ _ e
      rw [upd_ne (rne e)]
      rw [jput_disks] at nl
      exact same_upd nl _ _ h3
    have nl0 : H l = none := by
      cases e : H l with
      | none => rfl
      | some o =>
        have h3 : upd H1 r (.ins CJ dx (jfl pd c0)) l = some o := by rw [upd_ne (rne e)]; exact s1 _ _ e
        rw [jput_disks] at nl
        rw [h3] at nl
        cases nl
    exact q _ r dx l chain (by rw [newH_at nr, upd_same]) (by rw [newH_at nl0, upd_ne nlr, upd_same])
/-! ### its entries -/
def spEnt (CD CJ : Addr) : Sp := fun vs H Q _ => ∃ (p : Addr) (ds : List Addr) (J : Jr) (l : Nat), vs = [.ref p, .int l] ∧ JAt CD CJ H p ds J ∧ OkJ J ∧ l < J.n ∧ ∀ H' a, Same H H' → EsAt (newH H H') a l (J.es l) → Q (.ref a) H'
theorem ok_entries (T : Tx K mg CD CJ) (G_check_lane : Fnc P w K mg base CX0 2 "check_lane" [] spLane) (G_whole_records : Fnc P w K mg base CX0 4 "whole_records" [] spWhole) (G_entry_in : Fnc P w K mg base CX0 4 "entry_in" [] spEin) (P_D_content : Prp P w K mg base CX0 1 CD "content" (spGetT CD)) (F : FD K "entries" "Journal.entries" s_Journal_entries [] f fd) : FnG P w K mg base CX0 5 f fd ["self", "lane"] (spEnt CD CJ) := by
  refine ok0 F sc_Journal_entries (fun vs H Q E h => ?_) (fun cdv A outer s H vs Q E hr h => ?_)
  · obtain ⟨p, ds, J, l, rfl, _⟩ := h
    rfl
  · obtain ⟨p, ds, J, l, rfl, ja, O, hl, q⟩ := h
    refine ⟨_, (pss_cons (ps_expr (pe_fn G_check_lane (hr.mono (by decide)) pass0 (pa_cons (pv 1) (pa_cons (pe_callB call_len_seq (by rfl) T.n_len (by decide +kernel) (pa_cons (pe_fld (pv 0) rfl) pa_nil)) pa_nil))))
      (pss_cons (ps_set (i := 2) sc_Journal_entries.nd rfl (by first | exact Or.inl rfl | exact Or.inr rfl) (pe_lst pa_nil))
      (pss_cons (ps_for PassesOwn.never rfl (pi_list (pe_fn G_whole_records (hr.mono (by decide)) pass0 (pa_cons (pe_pr P_D_content (hr.mono (by decide)) pass0 (pe_ix ix_list (pe_fld (pv 0) rfl) (pv 1) (fun _ _ => rfl))) pa_nil))) (pg_name (i := 3) sc_Journal_entries.nd rfl (by first | exact Or.inl rfl | exact Or.inr rfl)) (pss_cons (ps_set (i := 4) sc_Journal_entries.nd rfl (by first | exact Or.inl rfl | exact Or.inr rfl) (pe_fn G_entry_in (hr.mono (by decide)) pass0 (pa_cons (pv 1) (pa_cons (pv 3) pa_nil))))
      (pss_cons (ps_if (PW.pt (pw_or (pt_cmpR op_isN (pv 4) pe_non (nomark _)) (pw_or1 (pt_cmpR op_ne (pe_ix ix_tup (pv 4) pe_int (fun _ _ => rfl)) (pe_op op_add (pe_ix ix_list (pe_fld (pv 0) rfl) (pv 1) (fun _ _ => rfl)) (pe_callB call_len_seq (by rfl) T.n_len (by decide +kernel) (pa_cons (pv 2) pa_nil))) (nomark _))))) (pss_one ps_break) pss_nil)
      (pss_one (ps_expr (pe_bm PySem.F.plainAttrs_list PySem.F.slot_list_append PySem.F.type_list_append mt_append (pv 2) (pa_cons (pv 4) pa_nil)))))))
      (pss_one (ps_ret (pv 2)))))), ?_⟩
    obtain ⟨dx, pd, pc, hp, hd, hc⟩ := ja.ex
    have ll := ja.len
    refine ⟨_, rfl, _, rfl, p, CJ, dx, _, _, rfl, hp, T.cJ, T.nD, look_d _ _, pd, _, rfl, .inl (SqL.of hd), l, (ds.map V.ref).length, rfl, by rw [List.length_map]; omega, ?_⟩
    refine ⟨small (by show 0 ≤ 100000; decide), fun D nD => ?_⟩
    have s1 := same_upd (o := .lst []) nD
    generalize hB : upd H D (.lst []) = B at *
    have hBD : B D = some (.lst []) := by rw [← hB, upd_same]
    have hld : l < ds.length := by omega
    obtain ⟨dy, hdl⟩ := ja.at_ l ds[l] (List.getElem?_eq_getElem hld)
    refine ⟨_, rfl, p, CJ, dx, _, _, rfl, s1 _ _ hp, T.cJ, T.nD, look_d _ _, _, rfl, pd, _, _, _, rfl, rfl, SqL.of (s1 _ _ hd), atI_nat (ref_at hld), ds[l], dy, _, rfl, s1 _ _ hdl, ds[l], _, _, rfl, ⟨dy, s1 _ _ hdl⟩, ?_⟩
    have tlen := O.txt_len hl
    refine ⟨_, rfl, (by rw [TL.len_tl]; show (J.txt l).length ≤ _; omega), fun H2 p2 s2 n2 h2 => ?_⟩
    rw [tl_S, O.whole hl] at h2
    have e1 : stV ((J.es l).map fun e => tl (recd e)) = (J.es l).map fun e => V.str (recd e) := by
      rw [stV, List.map_map]
      refine List.map_congr_left fun e _ => ?_
      show V.str (S (tl (recd e))) = _
      rw [S_tl]
    rw [e1] at h2
    have s02 := s1.trans s2
    have o8 := O.n8
    have les : (J.es l).length ≤ 64 := by have := O.ends l hl; unfold Jr.ends at this; omega
    refine ⟨p2, rfl, ⟨_, SqL.of h2⟩, ?_⟩
    refine for_it (walk_list (K := K) (a := p2) (xs := (J.es l).map fun e => V.str (recd e))) (fun i σ G => Same H G ∧ G p2 = some (.lst ((J.es l).map fun e => V.str (recd e))) ∧ (∃ vs, G D = some (.lst vs) ∧ EsV (newH B G) vs l ((J.es l).take i)) ∧ ∃ u v, σ = [some (.ref p), some (.int l), some (.ref D), u, v])
      ⟨s02, h2, ⟨[], s2 _ _ hBD, EsV.nil⟩, none, none, rfl⟩ (fun i σ G _ z => SqL.of z.2.1) ?_ ?_
    · rintro i x σ G G' hi ⟨s3, h3, ⟨vs, hD, ev⟩, u, v, rfl⟩ ⟨rfl, hx⟩
      rw [List.length_map] at hi
      have he : (J.es l)[i]? = some (J.es l)[i] := List.getElem?_eq_getElem hi
      rw [List.getElem?_map, he] at hx
      cases hx
      have oe := O.ok l hl _ (List.getElem_mem hi)
      have at_ := O.at_ l hl i hi
      generalize (J.es l)[i] = e at *
      refine ⟨_, rfl, _, rfl, l, e, J.n, rfl, oe, o8, fun G2 v s4 hv => ?_⟩
      obtain ⟨t, qa, us, rfl, ht, _, _⟩ := hv.ex
      have s04 := s3.trans s4
      have hD4 := s4 _ _ hD
      have ht4 := newH_le _ _ ht
      have lv : vs.length = i := by rw [ev.len, List.length_take]; omega
      refine ⟨_, rfl, rfl, _, rfl, iteN rfl ⟨_, rfl, t, _, 1, _, rfl, rfl, SqT.of ht4, rfl, _, rfl, p, CJ, dx, _, _, rfl, s04 _ _ hp, T.cJ, T.nC, look_c _ _, _, rfl, pc, _, _, _, rfl, rfl, SqL.of (s04 _ _ hc), nL_at hl, _, rfl, D, vs, rfl, .inl (SqL.of hD4), _, _, rfl, rfl, rfl, _, rfl, iteN ?_ ?_⟩⟩
      · rw [at_, lv]
        simp
      · refine ⟨_, rfl, .inl ⟨rfl, _, SqL.of hD4⟩, _, rfl, D, vs, _, rfl, rfl, hD4, Nat.lt_of_lt_of_le (show vs.length < 100 by omega) (small (by decide)), ?_⟩
        have nDt : ∀ {b : Addr} {o : HO}, H b = some o → b ≠ D := fun e c => by rw [c, nD] at e; cases e
        have np2 : p2 ≠ D := fun c => by rw [c, hBD] at n2; cases n2
        refine ⟨fun b o e => by rw [upd_ne (nDt e)]; exact s04 _ _ e, by rw [upd_ne np2]; exact s4 _ _ h3, ⟨_, upd_same, ?_⟩, _, _, rfl⟩
        rw [newH_upd hBD, take_snoc he]
        refine (ev.same (newH_same s4)).snoc (hv.same ?_)
        intro b o e
        obtain ⟨e5, e6⟩ := newH_some e
        have nb : B b = none := by
          rw [← hB]
          by_cases c : b = D
          · rw [c, hD] at e5; cases e5
          · rw [upd_ne c]
            exact s3.free e5
        rw [newH_at nb]
        exact e6
    · rintro σ G ⟨s3, h3, ⟨vs, hD, ev⟩, u, v, rfl⟩
      rw [List.length_map, List.take_length] at ev
      refine ⟨_, rfl, q _ D s3 ⟨vs, by rw [newH_at nD]; exact hD, ev.same (newH_mono s1)⟩⟩
def spAll (CD CJ : Addr) : Sp := fun vs H Q _ => ∃ (p : Addr) (ds : List Addr) (J : Jr), vs = [.ref p] ∧ JAt CD CJ H p ds J ∧ OkJ J ∧ ∀ H' a, Same H H' → LnsAt (newH H H') a J → Q (.ref a) H'
theorem ok_all_entries (T : Tx K mg CD CJ) (M_J_entries : Mth P w K mg base CX0 5 CJ "entries" [] (spEnt CD CJ)) (F : FD K "all_entries" "Journal.all_entries" s_Journal_all_entries [] f fd) : FnG P w K mg base CX0 6 f fd ["self"] (spAll CD CJ) := by
  refine ok0 F sc_Journal_all_entries (fun vs H Q E h => ?_) (fun cdv A outer s H vs Q E hr h => ?_)
  · obtain ⟨p, ds, J, rfl, _⟩ := h
    rfl
  · obtain ⟨p, ds, J, rfl, ja, O, q⟩ := h
    refine ⟨_, (pss_one (ps_ret (pe_lc (own := [("lane", 1)]) rfl sc_Journal_all_entries.nd (pi_range1 (by rfl) T.n_range (pa_cons (pe_callB call_len_seq (by rfl) T.n_len (by decide +kernel) (pa_cons (pe_fld (pv 0) rfl) pa_nil)) pa_nil)) (blkOk_by (own := [("lane", 1)]) (N := n_Journal_all_entries) (sc := defScope s_Journal_all_entries) (by decide +kernel)) (fun _ _ _ _ _ => (pg_name (i := 1) sc_Journal_all_entries.nd rfl (by first | exact Or.inl rfl | exact Or.inr rfl))) (fun _ _ _ _ _ => pts_nil) (fun _ _ _ _ _ => (pe_mt M_J_entries (hr.mono (by decide)) pass0 (pv 0) (pa_cons (pv 1) pa_nil)))))), ?_⟩
    obtain ⟨dx, pd, pc, hp, hd, hc⟩ := ja.ex
    have ll := ja.len
    refine ⟨_, rfl, p, CJ, dx, _, _, rfl, hp, T.cJ, T.nD, look_d _ _, pd, _, rfl, .inl (SqL.of hd), (ds.map V.ref).length, rfl, by omega, by rw [List.length_map]; have := O.n8; omega, fun D nD => ?_⟩
    rw [List.length_map, ll]
    refine lc_inv (walk_range (lo := 0) (n := J.n)) (fun j acc G => Same H G ∧ ∃ la : List Addr, acc = la.map V.ref ∧ la.length = j ∧ ∀ (l : Nat) q, la[l]? = some q → EsAt (fillH H D G) q l (J.es l)) (fun j acc G xs z => by rw [fill_upd]; exact ⟨own_same z.1 nD, z.2⟩) ⟨Same.rfl', [], rfl, rfl, fun l q e => by cases e⟩ (fun j acc G hj z => ?_) (fun _ _ _ _ _ => trivial) ?_ ?_
    · obtain ⟨_, la, rfl, la2, _⟩ := z
      have := O.n8
      rw [List.length_map, la2]
      exact Nat.lt_of_lt_of_le (show j < 100 by omega) (small (by decide))
    · rintro j x acc G G' hj ⟨s1, la, rfl, lla, ea⟩ hD ⟨rfl, hx⟩ N S hN hS
      cases hx
      refine ⟨rfl, _, rfl, p, dx, _, rfl, s1 _ _ hp, look_jno _ _ (by decide +kernel) (by decide +kernel), _, rfl, p, ds, J, j, ?_, ja.same s1, O, hj, fun G2 a s2 ha => hN _ _ (s2 _ _ hD) ⟨s1.trans s2, la ++ [a], by rw [List.map_append]; rfl, by rw [List.length_append, lla]; rfl, fun l q e => ?_⟩⟩
      · show V.ref p :: ([V.int (0 + (j : Nat))] ++ []) = _
        rw [Int.zero_add]
        rfl
      · rcases snoc_get e with e | ⟨rfl, rfl⟩
        · exact (ea l q e).same (fill_same s2)
        · rw [lla]
          exact ha.same (fill_of s1 hD)
    · rintro acc G2 hD ⟨s1, la, rfl, lla, ea⟩
      exact q _ D s1 ⟨la, by rw [newH_at nD]; exact hD, lla, fun l q e => (ea l q e).same (fill_new nD)⟩
end
end K77

set_option Elab.async false
set_option linter.all false
set_option maxRecDepth 100000
set_option maxHeartbeats 4000000
/-! O77g: disk, cut, order, counting. -/
namespace K77
open PySem PySem.Spec PyProof.Rows L2 LL K75 JN
abbrev s_Journal_disk : Stmt := inClass (top 43) 4
abbrev n_Journal_disk : List Str := ["self", "lane"]
theorem sc_Journal_disk : FnScope n_Journal_disk ["self", "lane"] (defScope s_Journal_disk) := ⟨rfl, rfl, rfl, by decide +kernel, rfl, by decide +kernel, by decide +kernel⟩
abbrev s_Journal_cut : Stmt := inClass (top 43) 5
abbrev n_Journal_cut : List Str := ["self"]
theorem sc_Journal_cut : FnScope n_Journal_cut ["self"] (defScope s_Journal_cut) := ⟨rfl, rfl, rfl, by decide +kernel, rfl, by decide +kernel, by decide +kernel⟩
abbrev s_Journal_order : Stmt := inClass (top 43) 9
abbrev n_Journal_order : List Str := ["self", "lanes", "counts", "found", "spot"]
theorem sc_Journal_order : FnScope n_Journal_order ["self"] (defScope s_Journal_order) := ⟨rfl, rfl, rfl, by decide +kernel, rfl, by decide +kernel, by decide +kernel⟩
abbrev s_Journal_counting : Stmt := inClass (top 43) 7
abbrev n_Journal_counting : List Str := ["self", "order", "spot", "lane", "cut"]
theorem sc_Journal_counting : FnScope n_Journal_counting ["self"] (defScope s_Journal_counting) := ⟨rfl, rfl, rfl, by decide +kernel, rfl, by decide +kernel, by decide +kernel⟩
section
variable {P : Program} {w : World} {K : PySem.W.Frag} {mg : Str → Option Value} {base : Heap} {CD CJ : Addr} {f : Addr} {fd : FuncData}
def spDisk (CD CJ : Addr) : Sp := fun vs H Q _ => ∃ (p : Addr) (ds : List Addr) (J : Jr) (l : Nat), vs = [.ref p, .int l] ∧ JAt CD CJ H p ds J ∧ OkJ J ∧ l < J.n ∧ ∀ H' r, Same H H' → H r = none → DAt CD H' r (S (J.txt l)) (J.sure l) → Q (.ref r) H'
theorem ok_disk (T : Tx K mg CD CJ) (G_check_lane : Fnc P w K mg base CX0 2 "check_lane" [] spLane) (M_D_clone : Mth P w K mg base CX0 5 CD "clone" [] (spClone CD)) (F : FD K "disk" "Journal.disk" s_Journal_disk [] f fd) : FnG P w K mg base CX0 6 f fd ["self", "lane"] (spDisk CD CJ) := by
  refine ok0 F sc_Journal_disk (fun vs H Q E h => ?_) (fun cdv A outer s H vs Q E hr h => ?_)
  · obtain ⟨p, ds, J, l, rfl, _⟩ := h
    rfl
  · obtain ⟨p, ds, J, l, rfl, ja, O, hl, q⟩ := h
    refine ⟨_, (pss_cons (ps_expr (pe_fn G_check_lane (hr.mono (by decide)) pass0 (pa_cons (pv 1) (pa_cons (pe_callB call_len_seq (by rfl) T.n_len (by decide +kernel) (pa_cons (pe_fld (pv 0) rfl) pa_nil)) pa_nil))))
      (pss_one (ps_ret (pe_mt0 M_D_clone (hr.mono (by decide)) pass0 (pe_ix ix_list (pe_fld (pv 0) rfl) (pv 1) (fun _ _ => rfl)))))), ?_⟩
    obtain ⟨dx, pd, pc, hp, hd, hc⟩ := ja.ex
    have ll := ja.len
    have hld : l < ds.length := by omega
    obtain ⟨dy, hdl⟩ := ja.at_ l ds[l] (List.getElem?_eq_getElem hld)
    have tlen := O.txt_len hl
    refine ⟨_, rfl, _, rfl, p, CJ, dx, _, _, rfl, hp, T.cJ, T.nD, look_d _ _, pd, _, rfl, .inl (SqL.of hd), l, (ds.map V.ref).length, rfl, by rw [List.length_map]; omega, ?_⟩
    refine ⟨_, rfl, p, CJ, dx, _, _, rfl, hp, T.cJ, T.nD, look_d _ _, _, rfl, pd, _, _, _, rfl, rfl, SqL.of hd, atI_nat (ref_at hld), ds[l], dy, _, rfl, hdl, look_no _ _ (by decide +kernel) (by decide +kernel), ds[l], _, _, rfl, ⟨dy, hdl⟩, (by rw [TL.len_tl]; show (J.txt l).length ≤ _; omega), q⟩
def spCut (CD CJ : Addr) : Sp := fun vs H Q _ => ∃ (p : Addr) (ds : List Addr) (J : Jr), vs = [.ref p] ∧ JAt CD CJ H p ds J ∧ ∀ H' r, Same H H' → newH H H' r = some (.lst (nL J.cut J.n)) → Q (.ref r) H'
theorem ok_cut (T : Tx K mg CD CJ) (F : FD K "cut" "Journal.cut" s_Journal_cut [] f fd) : FnG P w K mg base CX0 1 f fd ["self"] (spCut CD CJ) := by
  refine ok0 F sc_Journal_cut (fun vs H Q E h => ?_) (fun cdv A outer s H vs Q E hr h => ?_)
  · obtain ⟨p, ds, J, rfl, _⟩ := h
    rfl
  · obtain ⟨p, ds, J, rfl, ja, q⟩ := h
    refine ⟨_, (pss_one (ps_ret (pe_callTy call_list_of (by rfl) T.n_list (by decide +kernel) (pa_cons (pe_fld (pv 0) rfl) pa_nil)))), ?_⟩
    obtain ⟨dx, pd, pc, hp, hd, hc⟩ := ja.ex
    exact ⟨_, rfl, p, CJ, dx, _, _, rfl, hp, T.cJ, T.nC, look_c _ _, pc, _, rfl, .inl (SqL.of hc), fun r nr => q _ r (same_upd nr) (by rw [newH_at nr, upd_same])⟩
def spOrd (CD CJ : Addr) : Sp := fun vs H Q _ => ∃ (p : Addr) (ds : List Addr) (J : Jr), vs = [.ref p] ∧ JAt CD CJ H p ds J ∧ OkJ J ∧ ∀ H' r us, Same H H' → newH H H' r = some (.lst us) → PrN (newH H H') us (fin J).o → Q (.ref r) H'
theorem ok_order (T : Tx K mg CD CJ) (M_J_all_entries : Mth P w K mg base CX0 6 CJ "all_entries" [] (spAll CD CJ)) (G_next_spot : Fnc P w K mg base CX0 2 "next_spot" [] spNxt) (F : FD K "order" "Journal.order" s_Journal_order [] f fd) : FnG P w K mg base CX0 7 f fd ["self"] (spOrd CD CJ) := by
  refine ok0 F sc_Journal_order (fun vs H Q E h => ?_) (fun cdv A outer s H vs Q E hr h => ?_)
  · obtain ⟨p, ds, J, rfl, _⟩ := h
    rfl
  · obtain ⟨p, ds, J, rfl, ja, O, q⟩ := h
    refine ⟨_, (pss_cons (ps_set (i := 1) sc_Journal_order.nd rfl (by first | exact Or.inl rfl | exact Or.inr rfl) (pe_mt0 M_J_all_entries (hr.mono (by decide)) pass0 (pv 0)))
      (pss_cons (ps_set (i := 2) sc_Journal_order.nd rfl (by first | exact Or.inl rfl | exact Or.inr rfl) (pe_callTy call_list_of (by rfl) T.n_list (by decide +kernel) (pa_cons (pe_fld (pv 0) rfl) pa_nil)))
      (pss_cons (ps_set (i := 3) sc_Journal_order.nd rfl (by first | exact Or.inl rfl | exact Or.inr rfl) (pe_lst pa_nil))
      (pss_cons (ps_set (i := 4) sc_Journal_order.nd rfl (by first | exact Or.inl rfl | exact Or.inr rfl) (pe_fn G_next_spot (hr.mono (by decide)) pass0 (pa_cons (pv 1) (pa_cons (pe_fld (pv 0) rfl) (pa_cons (pv 2) pa_nil)))))
      (pss_cons (ps_while PassesOwn.never (pt_cmpR op_notN (pv 4) pe_non (nomark _)) (pss_cons (ps_expr (pe_bm PySem.F.plainAttrs_list PySem.F.slot_list_append PySem.F.type_list_append mt_append (pv 3) (pa_cons (pv 4) pa_nil)))
      (pss_cons (ps_augS (pv 2) (pe_ix ix_tup (pv 4) pe_int (fun _ _ => rfl)) get_list pe_int ip_add set_list)
      (pss_one (ps_set (i := 4) sc_Journal_order.nd rfl (by first | exact Or.inl rfl | exact Or.inr rfl) (pe_fn G_next_spot (hr.mono (by decide)) pass0 (pa_cons (pv 1) (pa_cons (pe_fld (pv 0) rfl) (pa_cons (pv 2) pa_nil)))))))))
      (pss_one (ps_ret (pv 3)))))))), ?_⟩
    obtain ⟨dx, pd, pc, hp, hd, hc⟩ := ja.ex
    have ll := ja.len
    refine ⟨_, rfl, p, dx, _, rfl, hp, look_jno _ _ (by decide +kernel) (by decide +kernel), p, ds, J, rfl, ja, O, fun H1 la s1 hla => ?_⟩
    have hla1 : LnsAt H1 la J := hla.same newH_le
    refine ⟨_, rfl, p, CJ, dx, _, _, rfl, s1 _ _ hp, T.cJ, T.nC, look_c _ _, pc, _, rfl, .inl (SqL.of (s1 _ _ hc)), fun C nC => ?_⟩
    refine ⟨small (by show 0 ≤ 100000; decide), fun D nD => ?_⟩
    have s12 := (same_upd (o := .lst (nL J.cut J.n)) nC).trans (same_upd (o := .lst []) nD)
    have neCD : C ≠ D := fun e => by rw [← e, upd_same] at nD; cases nD
    have nD1 : H1 D = none := by rwa [upd_ne (fun e => neCD e.symm)] at nD
    generalize hB : upd (upd H1 C (.lst (nL J.cut J.n))) D (.lst []) = B at *
    have hBC : B C = some (.lst (nL J.cut J.n)) := by rw [← hB, upd_ne neCD, upd_same]
    have hBD : B D = some (.lst []) := by rw [← hB, upd_same]
    have uB : ∀ {a : Addr}, H1 a = none → a ≠ C → a ≠ D → B a = none := fun e c1 c2 => by rw [← hB, upd_ne c2, upd_ne c1]; exact e
    refine ⟨_, rfl, _, rfl, p, CJ, dx, _, _, rfl, s12 _ _ (s1 _ _ hp), T.cJ, T.nC, look_c _ _, _, rfl, la, pc, C, J, J.cut, rfl, hla1.same s12, O, s12 _ _ (s1 _ _ hc), hBC, fun l _ => Nat.le_refl _, fun G0 v0 s0 sv0 => ?_⟩
    refine ⟨fun m σ G => ∃ i, m + i = 63 ∧ Same H1 G ∧ G C = some (.lst (nL (it J i).c J.n)) ∧ (∃ us, G D = some (.lst us) ∧ PrN (newH B G) us (it J i).o) ∧ (∀ j, j < i → nxt J (it J j).c ≠ none) ∧ ∃ v, σ = [some (.ref p), some (.ref la), some (.ref C), some (.ref D), some v] ∧ SpV J (it J i).c (newH B G) v,
      ⟨63, 0, rfl, s12.trans s0, s0 _ _ hBC, ⟨[], s0 _ _ hBD, PrN.nil⟩, fun j hj => absurd hj (Nat.not_lt_zero j), v0, rfl, sv0⟩, ?_⟩
    rintro m σ G ⟨i, hm, s2, hC, ⟨us, hD, pr⟩, no, v, rfl, sv⟩
    rcases sv with ⟨hn, rfl⟩ | ⟨k, t, hk, rfl, ht⟩
    · refine ⟨_, rfl, rfl, _, rfl, iteN (by simp) ⟨_, rfl, ?_⟩⟩
      have ef := it_fin O hn no
      rw [ef] at pr
      exact q _ D us (s1.trans s2) (by rw [newH_at (s1.free nD1)]; exact hD) (pr.same (newH_mono (s1.trans s12)))
    · have hi := it_few O (i := i) (by rw [hk]; exact fun z => by cases z)
      obtain ⟨kn, _, _⟩ := nxt_some hk
      have sp := sp_it J i
      have ht2 := newH_le _ _ ht
      have lus : us.length ≤ 63 := by rw [pr.len']; exact sp.few O
      have ntD : t ≠ D := fun e => by rw [e, newH_old hBD] at ht; cases ht
      have ntC : t ≠ C := fun e => by rw [e, newH_old hBC] at ht; cases ht
      refine ⟨_, rfl, rfl, _, rfl, iteY (by simp) ⟨fun σ' G' => ∃ i', (m - 1) + i' = 63 ∧ Same H1 G' ∧ G' C = some (.lst (nL (it J i').c J.n)) ∧ (∃ us, G' D = some (.lst us) ∧ PrN (newH B G') us (it J i').o) ∧ (∀ j, j < i' → nxt J (it J j).c ≠ none) ∧ ∃ v, σ' = [some (.ref p), some (.ref la), some (.ref C), some (.ref D), some v] ∧ SpV J (it J i').c (newH B G') v, fun σ' G' z => ⟨m - 1, by omega, z⟩, ?_⟩⟩
      refine ⟨_, rfl, .inl ⟨rfl, _, SqL.of hD⟩, _, rfl, D, us, _, rfl, rfl, hD, Nat.lt_of_lt_of_le (show us.length < 100 by omega) (small (by decide)), ?_⟩
      have hC3 : upd G D (.lst (us ++ [.ref t])) C = some (.lst (nL (it J i).c J.n)) := by rw [upd_ne neCD]; exact hC
      have ht3 : upd G D (.lst (us ++ [.ref t])) t = some (.tup [.int k, .int ((it J i).c k)]) := by rw [upd_ne ntD]; exact ht2
      refine ⟨_, rfl, _, rfl, t, _, 0, _, rfl, rfl, SqT.of ht3, rfl, C, _, k, _, rfl, rfl, SqL.of hC3, nL_get kn, _, _, rfl, rfl, C, _, _, k, rfl, rfl, hC3, ?_, ?_⟩
      · rw [nL_len]
        exact ixN_nat kn
      · have eset : (nL (it J i).c J.n).set k (V.int ((it J i).c k + 1 : Int)) = nL (bmp (it J i).c k) J.n := by
          have := nL_set (f := (it J i).c) (v := (it J i).c k + 1) kn
          rw [show ((it J i).c k + 1 : Int) = (((it J i).c k + 1 : Nat) : Int) from rfl, this]
          refine nL_congr fun l _ => ?_
          unfold bmp
          by_cases e : l = k
          · rw [if_pos e, if_pos e, e]
          · rw [if_neg e, if_neg e]
        have enx : (it J (i + 1)).c = bmp (it J i).c k := by rw [it_next hk]
        have eno : (it J (i + 1)).o = (it J i).o ++ [(k, (it J i).c k)] := by rw [it_next hk]
        dsimp only
        rw [eset]
        generalize hG4 : upd (upd G D (.lst (us ++ [.ref t]))) C (.lst (nL (bmp (it J i).c k) J.n)) = G4
        have s4 : Same H1 G4 := fun b o e => by
          rw [← hG4, upd_ne (ne_of_none e nC), upd_ne (ne_of_none e nD1)]
          exact s2 _ _ e
        have hC4 : G4 C = some (.lst (nL (bmp (it J i).c k) J.n)) := by rw [← hG4, upd_same]
        have hD4 : G4 D = some (.lst (us ++ [.ref t])) := by rw [← hG4, upd_ne (fun e => neCD e.symm), upd_same]
        have en4 : newH B G4 = newH B G := by rw [← hG4, newH_upd hBC, newH_upd hBD]
        have lo2 := (sp_it J (i + 1)).lo
        rw [enx] at lo2
        refine ⟨_, rfl, _, rfl, p, CJ, dx, _, _, rfl, s4 _ _ (s1 _ _ hp), T.cJ, T.nC, look_c _ _, _, rfl, la, pc, C, J, bmp (it J i).c k, rfl, hla1.same s4, O, s4 _ _ (s1 _ _ hc), hC4, lo2, fun G5 v5 s5 sv5 => ?_⟩
        refine ⟨i + 1, by omega, s4.trans s5, by rw [enx]; exact s5 _ _ hC4, ⟨_, s5 _ _ hD4, ?_⟩, fun j hj => ?_, v5, rfl, ?_⟩
        · rw [eno]
          refine PrN.snoc (pr.same ?_) ?_
          · rw [← en4]
            exact newH_same s5
          · have := newH_same (H := B) s5
            rw [en4] at this
            exact this _ _ ht
        · by_cases c : j = i
          · rw [c, hk]
            exact fun z => by cases z
          · exact no j (by omega)
        · rw [enx]
          refine sv5.same fun a o e => ?_
          obtain ⟨e1, e2⟩ := newH_some e
          have na : B a = none := uB (s4.free e1) (fun c => by rw [c, hC4] at e1; cases e1) (fun c => by rw [c, hD4] at e1; cases e1)
          rw [newH_at na]
          exact e2
def spCtg (CD CJ : Addr) : Sp := fun vs H Q _ => ∃ (p : Addr) (ds : List Addr) (J : Jr), vs = [.ref p] ∧ JAt CD CJ H p ds J ∧ OkJ J ∧ ∀ H' r, Same H H' → newH H H' r = some (.lst (nL (fin J).c J.n)) → Q (.ref r) H'
theorem ok_counting (T : Tx K mg CD CJ) (M_J_order : Mth P w K mg base CX0 7 CJ "order" [] (spOrd CD CJ)) (F : FD K "counting" "Journal.counting" s_Journal_counting [] f fd) : FnG P w K mg base CX0 8 f fd ["self"] (spCtg CD CJ) := by
  refine ok0 F sc_Journal_counting (fun vs H Q E h => ?_) (fun cdv A outer s H vs Q E hr h => ?_)
  · obtain ⟨p, ds, J, rfl, _⟩ := h
    rfl
  · obtain ⟨p, ds, J, rfl, ja, O, q⟩ := h
    refine ⟨_, (pss_cons (ps_set (i := 1) sc_Journal_counting.nd rfl (by first | exact Or.inl rfl | exact Or.inr rfl) (pe_mt0 M_J_order (hr.mono (by decide)) pass0 (pv 0)))
      (pss_one (ps_ret (pe_lc (g := (gTup K 2 (gCons (gName 3) (gCons (gName 4) gNil)))) (own := [("lane", 3), ("cut", 4)]) rfl sc_Journal_counting.nd (pi_enumA (by rfl) T.n_enumerate (pa_cons (pe_fld (pv 0) rfl) pa_nil)) (blkOk_by (own := [("lane", 3), ("cut", 4)]) (N := n_Journal_counting) (sc := defScope s_Journal_counting) (by decide +kernel)) (fun _ _ _ _ _ => (pg_tup rfl (pgs_cons (pg_name (i := 3) sc_Journal_counting.nd rfl (by first | exact Or.inl rfl | exact Or.inr rfl)) (pgs_cons (pg_name (i := 4) sc_Journal_counting.nd rfl (by first | exact Or.inl rfl | exact Or.inr rfl)) pgs_nil)))) (fun _ _ _ _ _ => pts_nil) (fun _ _ _ _ _ => (pe_op op_add (pv 4) (pe_callB (call_len_seqK (K := K) (by rfl)) (by rfl) T.n_len (by decide +kernel) (pa_cons (pe_lc (own := [("spot", 2)]) rfl sc_Journal_counting.nd (pi_listK (K := K) (by rfl) (pv 1)) (blkOk_by (own := [("spot", 2)]) (N := n_Journal_counting) (sc := ({ kind := .function, names := [(".0", .local), ("lane", .cell), ("cut", .local), ("len", .globalImplicit), ("order", .cell)], isGenerator := false, isCoroutine := false } : Scope)) (by decide +kernel)) (fun _ _ _ _ _ => (pg_name (i := 2) sc_Journal_counting.nd rfl (by first | exact Or.inl rfl | exact Or.inr rfl))) (fun _ _ _ _ _ => (pts_one (pt_cmpR op_eq (pe_ix (ix_tupK (K := K) (by rfl)) (pv 2) pe_int (fun _ _ => rfl)) (pv 3) (nomark _)))) (fun _ _ _ _ _ => (pv 2))) pa_nil)))))))), ?_⟩
    obtain ⟨dx, pd, pc, hp, hd, hc⟩ := ja.ex
    have ll := ja.len
    refine ⟨_, rfl, p, dx, _, rfl, hp, look_jno _ _ (by decide +kernel) (by decide +kernel), p, ds, J, rfl, ja, O, fun H1 r us s1 hr pr => ?_⟩
    have hr1 := newH_le _ _ hr
    have pr1 : PrN H1 us (fin J).o := pr.same newH_le
    have sp := fin_sp J
    have lus : us.length = (fin J).o.length := pr.len'
    have few := sp.few O
    have o8 := O.n8
    refine ⟨_, rfl, p, CJ, dx, _, _, rfl, s1 _ _ hp, T.cJ, T.nC, look_c _ _, true, pc, _, rfl, SqL.of (s1 _ _ hc), fun D nD => ?_⟩
    refine lc_acc (walk_enumK (K := K) (k := true) (a := pc) (xs := nL J.cut J.n)) nD (fun j => (nL (fin J).c J.n).take j) rfl (fun j hj => ?_) (fun G s2 => SqL.of (s2 _ _ (s1 _ _ hc))) ?_ ?_
    · rw [List.length_take, nL_len]
      omega
    · rintro i x G2 G3 hi s2 ⟨t, y, zz, rfl, nt, rfl, hy, hz⟩ N S hN hS
      rw [nL_len] at hi
      cases hy
      have hz' : V.int (J.cut i) = zz := Option.some.inj ((nL_get hi).symm.trans hz)
      subst hz'
      obtain ⟨G4, e4, s4, ht4⟩ := mkO nt (.tup [.int (i : Nat), .int (J.cut i)])
      rw [e4]
      have s24 := s2.trans s4
      refine ⟨t, _, rfl, SqT.of ht4, rfl, _, _, rfl, _, _, rfl, rfl, rfl, ?_⟩
      refine ⟨_, rfl, _, rfl, r, rfl, ⟨_, SqL.of (s24 _ _ hr1)⟩, fun D2 nD2 => ?_⟩
      refine lc_acc (walk_list (K := K) (a := r) (xs := us)) nD2 (fun j => ((us.zip (fin J).o).take j |>.filter fun z => decide (z.2.1 = i)).map Prod.fst) rfl (fun j hj => ?_) (fun G s' => SqL.of (s' _ _ (s24 _ _ hr1))) ?_ ?_
      · have := List.length_filter_le (fun z => decide (z.2.1 = i)) ((us.zip (fin J).o).take j)
        rw [List.length_map]
        rw [List.length_take] at this
        omega
      · rintro j x G5 G6 hj s5 ⟨rfl, hx⟩ N2 S2 hN2 hS2
        have hj' : j < (fin J).o.length := by omega
        have ho := List.getElem?_eq_getElem hj'
        obtain ⟨ts, rfl, hts⟩ := pr1.get hx ho
        have hts5 := s5 _ _ (s24 _ _ hts)
        have hzip : (us.zip (fin J).o)[j]? = some (V.ref ts, (fin J).o[j]) := List.getElem?_zip_eq_some.mpr ⟨hx, ho⟩
        refine ⟨rfl, _, rfl, ts, _, 0, _, rfl, rfl, SqT.of hts5, rfl, _, rfl, rfl, _, rfl, ?_⟩
        have ed : decide (V.int ((fin J).o[j].1 : Nat) = V.int (i : Nat)) = decide ((fin J).o[j].1 = i) := decN _ _
        rw [ed]
        have et := take_fil (fun z : V × (Nat × Nat) => decide (z.2.1 = i)) hzip
        refine iteB (fun e => ⟨_, rfl, hN2 _ _ Same.rfl' ?_⟩) (fun e => hS2 _ Same.rfl' ?_)
        · rw [et]
          dsimp only
          rw [e, if_pos rfl, List.map_append]
          rfl
        · rw [et]
          dsimp only
          rw [e]
          simp
      · intro G5 s5 h5
        have elen : ((((us.zip (fin J).o).take us.length).filter fun z => decide (z.2.1 = i)).map Prod.fst).length = ((fin J).o.filter fun z => decide (z.1 = i)).length := by
          have e1 : (us.zip (fin J).o).take us.length = us.zip (fin J).o := List.take_of_length_le (by rw [List.length_zip]; omega)
          have e2 : (us.zip (fin J).o).map Prod.snd = (fin J).o := List.map_snd_zip (by omega)
          rw [e1, List.length_map]
          conv => rhs; rw [← e2]
          rw [List.filter_map, List.length_map]
          rfl
        refine ⟨D2, _, rfl, .inl (SqL.of h5), _, _, rfl, rfl, hN _ _ (s4.trans s5) ?_⟩
        rw [elen, take_snoc (nL_get hi)]
        have := sp.cnt i hi
        congr 2
        show V.int (((fin J).c i : Nat) : Int) = V.int ((J.cut i : Int) + _)
        rw [this]
        rfl
    · intro G2 s2 h2
      rw [nL_len] at h2
      have : (nL (fin J).c J.n).take J.n = nL (fin J).c J.n := List.take_of_length_le (by rw [nL_len]; exact Nat.le_refl _)
      rw [this] at h2
      exact q _ D (s1.trans s2) (by rw [newH_at (s1.free nD)]; exact h2)
end
end K77

set_option Elab.async false
set_option linter.all false
set_option maxRecDepth 100000
set_option maxHeartbeats 4000000
/-! O77h: stopped, durable, clone, equal. -/
namespace K77
open PySem PySem.Spec PyProof.Rows L2 LL K75 JN
abbrev s_Journal_stopped : Stmt := inClass (top 43) 11
abbrev n_Journal_stopped : List Str := ["self", "lengths", "disk", "length"]
theorem sc_Journal_stopped : FnScope n_Journal_stopped ["self", "lengths"] (defScope s_Journal_stopped) := ⟨rfl, rfl, rfl, by decide +kernel, rfl, by decide +kernel, by decide +kernel⟩
abbrev s_Journal_durable : Stmt := inClass (top 43) 8
abbrev n_Journal_durable : List Str := ["self", "disk"]
theorem sc_Journal_durable : FnScope n_Journal_durable ["self"] (defScope s_Journal_durable) := ⟨rfl, rfl, rfl, by decide +kernel, rfl, by decide +kernel, by decide +kernel⟩
abbrev s_Journal_clone : Stmt := inClass (top 43) 14
abbrev n_Journal_clone : List Str := ["self", "disk"]
theorem sc_Journal_clone : FnScope n_Journal_clone ["self"] (defScope s_Journal_clone) := ⟨rfl, rfl, rfl, by decide +kernel, rfl, by decide +kernel, by decide +kernel⟩
abbrev s_Journaleq : Stmt := inClass (top 43) 15
abbrev n_Journaleq : List Str := ["self", "other"]
theorem sc_Journaleq : FnScope n_Journaleq ["self", "other"] (defScope s_Journaleq) := ⟨rfl, rfl, rfl, by decide +kernel, rfl, by decide +kernel, by decide +kernel⟩
section
variable {P : Program} {w : World} {K : PySem.W.Frag} {mg : Str → Option Value} {base : Heap} {CD CJ : Addr} {f : Addr} {fd : FuncData}
/-- disks made in a comprehension -/
def DsF (CD : Addr) (N : Hp) (acc : List V) (j : Nat) (z : Nat → Str) (n : Nat → Nat) : Prop := ∃ ds : List Addr, acc = ds.map V.ref ∧ ds.length = j ∧ ds.Nodup ∧ ∀ (l : Nat) d, ds[l]? = some d → DAt CD N d (z l) (n l)
theorem DsF.same {N N' : Hp} {acc : List V} {j : Nat} {z : Nat → Str} {n : Nat → Nat} (h : DsF CD N acc j z n) (s : Same N N') : DsF CD N' acc j z n := let ⟨ds, a, b, c, d⟩ := h; ⟨ds, a, b, c, fun l x e => (d l x e).same s⟩
theorem DsF.nil {N : Hp} {z : Nat → Str} {n : Nat → Nat} : DsF CD N [] 0 z n := ⟨[], rfl, rfl, List.nodup_nil, fun l x e => by cases e⟩
theorem DsF.snoc {N N' : Hp} {acc : List V} {j : Nat} {z : Nat → Str} {n : Nat → Nat} {r : Addr} (h : DsF CD N acc j z n) (nr : N r = none) (s : Same N N') (da : DAt CD N' r (z j) (n j)) : DsF CD N' (acc ++ [.ref r]) (j + 1) z n := by
  obtain ⟨ds, rfl, ld, nd, at_⟩ := h
  refine ⟨ds ++ [r], by rw [List.map_append]; rfl, by rw [List.length_append, ld]; rfl, ?_, fun l d e => ?_⟩
  · rw [List.nodup_append]
    refine ⟨nd, by simp, fun a ha b hb => ?_⟩
    cases List.mem_singleton.mp hb
    rintro rfl
    obtain ⟨l, hl⟩ := List.getElem?_of_mem ha
    obtain ⟨dy, e⟩ := at_ l a hl
    rw [nr] at e
    cases e
  · rcases snoc_get e with e | ⟨rfl, rfl⟩
    · exact (at_ l d e).same s
    · rw [ld]
      exact da
theorem nL_ints (f : Nat → Nat) (n : Nat) : nL f n = ((List.range n).map fun i => (f i : Int)).map V.int := by
  rw [List.map_map]
  rfl
def spStp (CD CJ : Addr) : Sp := fun vs H Q _ => ∃ (p a : Addr) (ds : List Addr) (J : Jr) (f : Nat → Nat), vs = [.ref p, .ref a] ∧ JAt CD CJ H p ds J ∧ OkJ J ∧ H a = some (.lst (nL f J.n)) ∧ (∀ l, l < J.n → J.sure l ≤ f l ∧ f l ≤ (J.txt l).length) ∧ ∀ H' r es, Same H H' → JAt CD CJ (newH H H') r es (stopJ J f) → Q (.ref r) H'
theorem ok_jstopped (T : Tx K mg CD CJ) (G_is_list : Fnc P w K mg base CX0 1 "is_list" [] spIsl) (M_D_stopped : Mth P w K mg base CX0 4 CD "stopped" [] (spStop CD)) (M_J_with_disks : Mth P w K mg base CX0 6 CJ "with_disks" [] (spWd CD CJ)) (F : FD K "stopped" "Journal.stopped" s_Journal_stopped [] f fd) : FnG P w K mg base CX0 7 f fd ["self", "lengths"] (spStp CD CJ) := by
  refine ok0 F sc_Journal_stopped (fun vs H Q E h => ?_) (fun cdv A outer s H vs Q E hr h => ?_)
  · obtain ⟨p, a, ds, J, f, rfl, _⟩ := h
    rfl
  · obtain ⟨p, a, ds, J, f, rfl, ja, O, ha, hf, q⟩ := h
    refine ⟨_, (pss_cons (ps_if (PW.pt (pw_or (pt_not (pt_val (pe_fn G_is_list (hr.mono (by decide)) pass0 (pa_cons (pv 1) pa_nil)))) (pw_or1 (pt_cmpR op_ne (pe_callB call_len_seq (by rfl) T.n_len (by decide +kernel) (pa_cons (pv 1) pa_nil)) (pe_callB call_len_seq (by rfl) T.n_len (by decide +kernel) (pa_cons (pe_fld (pv 0) rfl) pa_nil)) (nomark _))))) (pss_one ps_never) pss_nil)
      (pss_one (ps_ret (pe_mt M_J_with_disks (hr.mono (by decide)) pass0 (pv 0) (pa_cons (pe_lc (g := (gTup K 2 (gCons (gName 2) (gCons (gName 3) gNil)))) (own := [("disk", 2), ("length", 3)]) rfl sc_Journal_stopped.nd (pi_zip (by rfl) T.n_zip (pa_cons (pe_fld (pv 0) rfl) (pa_cons (pv 1) pa_nil))) (blkOk_by (own := [("disk", 2), ("length", 3)]) (N := n_Journal_stopped) (sc := defScope s_Journal_stopped) (by decide +kernel)) (fun _ _ _ _ _ => (pg_tup rfl (pgs_cons (pg_name (i := 2) sc_Journal_stopped.nd rfl (by first | exact Or.inl rfl | exact Or.inr rfl)) (pgs_cons (pg_name (i := 3) sc_Journal_stopped.nd rfl (by first | exact Or.inl rfl | exact Or.inr rfl)) pgs_nil)))) (fun _ _ _ _ _ => pts_nil) (fun _ _ _ _ _ => (pe_mt M_D_stopped (hr.mono (by decide)) pass0 (pv 2) (pa_cons (pv 3) pa_nil)))) (pa_cons (pe_fld (pv 0) rfl) pa_nil)))))), ?_⟩
    obtain ⟨dx, pd, pc, hp, hd, hc⟩ := ja.ex
    have ll := ja.len
    refine ⟨_, rfl, a, _, rfl, .inl ha, fun H1 s1 => ⟨_, rfl, iteF ?_⟩⟩
    refine ⟨_, rfl, a, _, rfl, .inl (SqL.of (s1 _ _ ha)), _, rfl, p, CJ, dx, _, _, rfl, s1 _ _ hp, T.cJ, T.nD, look_d _ _, pd, _, rfl, .inl (SqL.of (s1 _ _ hd)), rfl, _, rfl, iteN (by rw [nL_len, List.length_map, ll]; simp) ?_⟩
    refine ⟨_, rfl, p, dx, _, rfl, s1 _ _ hp, look_jno _ _ (by decide +kernel) (by decide +kernel), _, rfl, p, CJ, dx, _, _, rfl, s1 _ _ hp, T.cJ, T.nD, look_d _ _, _, rfl, ?_⟩
    have o8 := O.n8
    refine ⟨pd, a, ds.map V.ref, nL f J.n, rfl, SqL.of (s1 _ _ hd), SqL.of (s1 _ _ ha), fun D nD => ?_⟩
    refine lc_inv (walk_zip (K := K) (a := pd) (b := a) (xs := ds.map V.ref) (ys := nL f J.n) (n := J.n) (by rw [List.length_map, nL_len, ll, Nat.min_self])) (fun j acc G => Same H1 G ∧ DsF CD (fillH H1 D G) acc j (fun l => S ((stopJ J f).txt l)) f) (fun j acc G xs z => by rw [fill_upd]; exact ⟨own_same z.1 nD, z.2⟩) ⟨Same.rfl', DsF.nil⟩ (fun j acc G hj z => ?_) (fun j acc G hj z => ⟨SqL.of (z.1 _ _ (s1 _ _ hd)), SqL.of (z.1 _ _ (s1 _ _ ha))⟩) ?_ ?_
    · obtain ⟨_, es, rfl, le, _⟩ := z
      rw [List.length_map]
      exact Nat.lt_of_lt_of_le (show es.length < 100 by omega) (small (by decide))
    · rintro i x acc G2 G3 hi ⟨s2, df⟩ hD ⟨t, y, zz, rfl, nt, rfl, hy, hz⟩ N S' hN hS
      obtain ⟨d, hd2, rfl⟩ := ref_get hy
      have hz' : V.int (f i) = zz := Option.some.inj ((nL_get hi).symm.trans hz)
      subst hz'
      obtain ⟨G4, e4, s4, ht4⟩ := mkO nt (.tup [.ref d, .int (f i)])
      rw [e4]
      have s24 := s2.trans s4
      obtain ⟨dy, e⟩ := ja.at_ i d hd2
      have e' := s24 _ _ (s1 _ _ e)
      have tlen := O.txt_len hi
      obtain ⟨f1, f2⟩ := hf i hi
      have hD4 := s4 _ _ hD
      refine ⟨t, _, rfl, SqT.of ht4, rfl, _, _, rfl, _, _, rfl, rfl, rfl, ?_⟩
      refine ⟨_, rfl, d, dy, _, rfl, e', look_no _ _ (by decide +kernel) (by decide +kernel), _, rfl, d, _, _, f i, rfl, ⟨dy, e'⟩, (by rw [TL.len_tl]; show (J.txt i).length ≤ _; omega), f1, (by rw [TL.len_tl]; exact f2), fun G5 r s5 nr dr => hN _ _ (s5 _ _ hD4) ⟨s24.trans s5, (df.same (fill_same s4)).snoc (r := r) ?_ (fill_same s5) ?_⟩⟩
      · cases c : fillH H1 D G4 r with
        | none => rfl
        | some o => rw [newH_le _ _ c] at nr; cases nr
      · obtain ⟨dz, e2⟩ := dr
        refine ⟨dz, ?_⟩
        rw [fill_at (fun c => by rw [c, hD4] at nr; cases nr) (s24.free nr), (stopJ_txt O f hi).1]
        exact e2
    · rintro acc G2 hD ⟨s2, es, rfl, le, nd, da⟩
      have s02 := s1.trans s2
      refine ⟨_, rfl, p, CJ, dx, _, _, rfl, s02 _ _ hp, T.cJ, T.nC, look_c _ _, _, D, pc, es, stopJ J f, rfl, hD, s02 _ _ hc, le, O.pos, O.n8, fun G3 r dz qc s3 hr3 hq3 => ?_⟩
      have hD3 := s3 _ _ hD
      exact q _ r es (s02.trans s3) ⟨⟨dz, D, qc, newH_mono s02 _ _ hr3, by rw [newH_at (s1.free nD)]; exact hD3, newH_mono s02 _ _ hq3⟩, le, nd, fun l d e => (((da l d e).same (fill_new nD)).same (newH_same s3)).same (newH_mono s1)⟩
def spDur (CD CJ : Addr) : Sp := fun vs H Q _ => ∃ (p : Addr) (ds : List Addr) (J : Jr), vs = [.ref p] ∧ JAt CD CJ H p ds J ∧ OkJ J ∧ ∀ H' r, Same H H' → newH H H' r = some (.lst (nL (fin (stopJ J J.sure)).c J.n)) → Q (.ref r) H'
theorem ok_durable (T : Tx K mg CD CJ) (P_D_sure : Prp P w K mg base CX0 1 CD "sure" (spGetS CD)) (M_J_stopped : Mth P w K mg base CX0 7 CJ "stopped" [] (spStp CD CJ)) (M_J_counting : Mth P w K mg base CX0 8 CJ "counting" [] (spCtg CD CJ)) (F : FD K "durable" "Journal.durable" s_Journal_durable [] f fd) : FnG P w K mg base CX0 9 f fd ["self"] (spDur CD CJ) := by
  refine ok0 F sc_Journal_durable (fun vs H Q E h => ?_) (fun cdv A outer s H vs Q E hr h => ?_)
  · obtain ⟨p, ds, J, rfl, _⟩ := h
    rfl
  · obtain ⟨p, ds, J, rfl, ja, O, q⟩ := h
    refine ⟨_, (pss_one (ps_ret (pe_mt0 M_J_counting (hr.mono (by decide)) pass0 (pe_mt M_J_stopped (hr.mono (by decide)) pass0 (pv 0) (pa_cons (pe_lc (own := [("disk", 1)]) rfl sc_Journal_durable.nd (pi_list (pe_fld (pv 0) rfl)) (blkOk_by (own := [("disk", 1)]) (N := n_Journal_durable) (sc := defScope s_Journal_durable) (by decide +kernel)) (fun _ _ _ _ _ => (pg_name (i := 1) sc_Journal_durable.nd rfl (by first | exact Or.inl rfl | exact Or.inr rfl))) (fun _ _ _ _ _ => pts_nil) (fun _ _ _ _ _ => (pe_pr P_D_sure (hr.mono (by decide)) pass0 (pv 1)))) pa_nil))))), ?_⟩
    obtain ⟨dx, pd, pc, hp, hd, hc⟩ := ja.ex
    have ll := ja.len
    have o8 := O.n8
    refine ⟨_, rfl, p, dx, _, rfl, hp, look_jno _ _ (by decide +kernel) (by decide +kernel), _, rfl, p, CJ, dx, _, _, rfl, hp, T.cJ, T.nD, look_d _ _, pd, rfl, ⟨_, SqL.of hd⟩, fun D nD => ?_⟩
    refine lc_acc (walk_list (K := K) (a := pd) (xs := ds.map V.ref)) nD (fun j => (nL J.sure J.n).take j) rfl (fun j hj => ?_) (fun G s2 => SqL.of (s2 _ _ hd)) ?_ ?_
    · rw [List.length_take, nL_len]
      omega
    · rintro i x G2 G3 hi s2 ⟨rfl, hx⟩ N S hN hS
      rw [List.length_map] at hi
      obtain ⟨d, hd2, rfl⟩ := ref_get hx
      obtain ⟨dy, e⟩ := ja.at_ i d hd2
      have e' := s2 _ _ e
      refine ⟨rfl, _, rfl, d, dy, _, rfl, e', d, _, _, rfl, ⟨dy, e'⟩, hN _ _ Same.rfl' (take_snoc (nL_get (by omega)))⟩
    · intro G2 s2 h2
      have h3 : G2 D = some (.lst (nL J.sure J.n)) := by
        rw [h2, List.take_of_length_le (by rw [nL_len, List.length_map]; omega)]
      refine ⟨p, D, ds, J, J.sure, rfl, ja.same s2, O, h3, fun l hl => ⟨Nat.le_refl _, O.sure l hl⟩, fun G3 r es s3 jr => ?_⟩
      have jr2 := jr.same newH_le
      obtain ⟨dz, qd, qc, hr2, _, _⟩ := jr2.ex
      refine ⟨r, dz, _, rfl, hr2, look_jno _ _ (by decide +kernel) (by decide +kernel), r, es, stopJ J J.sure, rfl, jr2, stopJ_ok O O.sure, fun G4 r4 s4 h4 => q _ r4 ((s2.trans s3).trans s4) (newH_mono (s2.trans s3) _ _ h4)⟩
def spJcl (CD CJ : Addr) : Sp := fun vs H Q _ => ∃ (p : Addr) (ds : List Addr) (J : Jr), vs = [.ref p] ∧ JAt CD CJ H p ds J ∧ OkJ J ∧ ∀ H' r es, Same H H' → JAt CD CJ (newH H H') r es J → Q (.ref r) H'
theorem ok_jclone (T : Tx K mg CD CJ) (M_D_clone : Mth P w K mg base CX0 5 CD "clone" [] (spClone CD)) (M_J_with_disks : Mth P w K mg base CX0 6 CJ "with_disks" [] (spWd CD CJ)) (F : FD K "clone" "Journal.clone" s_Journal_clone [] f fd) : FnG P w K mg base CX0 7 f fd ["self"] (spJcl CD CJ) := by
  refine ok0 F sc_Journal_clone (fun vs H Q E h => ?_) (fun cdv A outer s H vs Q E hr h => ?_)
  · obtain ⟨p, ds, J, rfl, _⟩ := h
    rfl
  · obtain ⟨p, ds, J, rfl, ja, O, q⟩ := h
    refine ⟨_, (pss_one (ps_ret (pe_mt M_J_with_disks (hr.mono (by decide)) pass0 (pv 0) (pa_cons (pe_lc (own := [("disk", 1)]) rfl sc_Journal_clone.nd (pi_list (pe_fld (pv 0) rfl)) (blkOk_by (own := [("disk", 1)]) (N := n_Journal_clone) (sc := defScope s_Journal_clone) (by decide +kernel)) (fun _ _ _ _ _ => (pg_name (i := 1) sc_Journal_clone.nd rfl (by first | exact Or.inl rfl | exact Or.inr rfl))) (fun _ _ _ _ _ => pts_nil) (fun _ _ _ _ _ => (pe_mt0 M_D_clone (hr.mono (by decide)) pass0 (pv 1)))) (pa_cons (pe_fld (pv 0) rfl) pa_nil))))), ?_⟩
    obtain ⟨dx, pd, pc, hp, hd, hc⟩ := ja.ex
    have ll := ja.len
    have o8 := O.n8
    refine ⟨_, rfl, p, dx, _, rfl, hp, look_jno _ _ (by decide +kernel) (by decide +kernel), _, rfl, p, CJ, dx, _, _, rfl, hp, T.cJ, T.nD, look_d _ _, pd, rfl, ⟨_, SqL.of hd⟩, fun D nD => ?_⟩
    refine lc_inv (walk_list (K := K) (a := pd) (xs := ds.map V.ref)) (fun j acc G => Same H G ∧ DsF CD (fillH H D G) acc j (fun l => S (J.txt l)) J.sure) (fun j acc G xs z => by rw [fill_upd]; exact ⟨own_same z.1 nD, z.2⟩) ⟨Same.rfl', DsF.nil⟩ (fun j acc G hj z => ?_) (fun j acc G hj z => SqL.of (z.1 _ _ hd)) ?_ ?_
    · obtain ⟨_, es, rfl, le, _⟩ := z
      rw [List.length_map] at hj ⊢
      exact Nat.lt_of_lt_of_le (show es.length < 100 by omega) (small (by decide))
    · rintro i x acc G2 G3 hi ⟨s2, df⟩ hD ⟨rfl, hx⟩ N S hN hS
      rw [List.length_map] at hi
      obtain ⟨d, hd2, rfl⟩ := ref_get hx
      obtain ⟨dy, e⟩ := ja.at_ i d hd2
      have e' := s2 _ _ e
      have tlen := O.txt_len (show i < J.n by omega)
      refine ⟨rfl, _, rfl, d, dy, _, rfl, e', look_no _ _ (by decide +kernel) (by decide +kernel), d, _, _, rfl, ⟨dy, e'⟩, (by rw [TL.len_tl]; show (J.txt i).length ≤ _; omega), fun G4 r s4 nr dr => hN _ _ (s4 _ _ hD) ⟨s2.trans s4, df.snoc (r := r) ?_ (fill_same s4) ?_⟩⟩
      · cases c : fillH H D G3 r with
        | none => rfl
        | some o => rw [newH_le _ _ c] at nr; cases nr
      · obtain ⟨dz, e2⟩ := dr
        exact ⟨dz, by rw [fill_at (fun c => by rw [c, hD] at nr; cases nr) (s2.free nr)]; exact e2⟩
    · rintro acc G2 hD ⟨s2, es, rfl, le, nd, da⟩
      rw [List.length_map] at le
      refine ⟨_, rfl, p, CJ, dx, _, _, rfl, s2 _ _ hp, T.cJ, T.nC, look_c _ _, _, D, pc, es, J, rfl, hD, s2 _ _ hc, by omega, O.pos, O.n8, fun G3 r dz qc s3 hr3 hq3 => ?_⟩
      have hD3 := s3 _ _ hD
      exact q _ r es (s2.trans s3) ⟨⟨dz, D, qc, newH_mono s2 _ _ hr3, by rw [newH_at nD]; exact hD3, newH_mono s2 _ _ hq3⟩, by omega, nd, fun l d e => ((da l d e).same (fill_new nD)).same (newH_same s3)⟩
def EqJ (J I : Jr) : Prop := J.n = I.n ∧ ∀ l, l < J.n → J.cut l = I.cut l ∧ J.txt l = I.txt l ∧ J.sure l = I.sure l
def spJeq (K : PySem.W.Frag) (CD CJ : Addr) : Sp := fun vs H Q _ => ∃ (p : Addr) (ds : List Addr) (J : Jr) (v : V), vs = [.ref p, v] ∧ JAt CD CJ H p ds J ∧ ((∃ t, TyX K H v t ∧ PySem.W.kitOne K t (.ref CJ) = some false ∧ Q (.bl false) H) ∨ ∃ r es I, v = .ref r ∧ JAt CD CJ H r es I ∧ ∀ H' b, Same H H' → (b = true ↔ EqJ J I) → Q (.bl b) H')
theorem ok_jeq (T : Tx K mg CD CJ) (S_deq : SpF P w K mg base CX0 1 CD "__eq__" (spEq CD)) (F : FD K "__eq__" "Journal.__eq__" s_Journaleq [] f fd) : FnG P w K mg base CX0 3 f fd ["self", "other"] (spJeq K CD CJ) := by
  refine ok0 F sc_Journaleq (fun vs H Q E h => ?_) (fun cdv A outer s H vs Q E hr h => ?_)
  · obtain ⟨p, ds, J, v, rfl, _⟩ := h
    rfl
  · obtain ⟨p, ds, J, v, rfl, ja, h⟩ := h
    refine ⟨_, (pss_one (ps_ret (pe_and (pe_callB call_isi (by rfl) T.n_isinstance (by decide +kernel) (pa_cons (pv 1) (pa_cons (pe_glob (v := .ref CJ) (by rfl) T.g_Journal rfl) pa_nil))) (pe_and (pe_cmpR (op_eqD hr.r.units) (pe_fld (pv 0) rfl) (pe_fld (pv 1) rfl) (nomark _)) (pe_one (pe_cmpR (op_eqLO S_deq (hr.mono (by decide)) pass0) (pe_fld (pv 0) rfl) (pe_fld (pv 1) rfl) (nomark _))))))), ?_⟩
    obtain ⟨dx, pd, pc, hp, hd, hc⟩ := ja.ex
    have ll := ja.len
    rcases h with ⟨t, ty, kt, q⟩ | ⟨r, es, I, rfl, jb, q⟩
    · exact ⟨_, rfl, _, _, t, _, _, rfl, .own CJ, ty, kt, _, rfl, iteF q⟩
    · obtain ⟨dz, qd, qc, hp2, hd2, hc2⟩ := jb.ex
      have ll2 := jb.len
      refine ⟨_, rfl, _, _, .ref CJ, _, _, rfl, .own CJ, tyJ T hp2, T.kJ, _, rfl, iteT ?_⟩
      refine ⟨_, rfl, p, CJ, dx, _, _, rfl, hp, T.cJ, T.nC, look_c _ _, _, rfl, r, CJ, dz, _, _, rfl, hp2, T.cJ, T.nC, look_c _ _, ?_⟩
      rw [nL_ints] at hc hc2
      refine eq_pd (dp_ints hc) (dp_ints hc2) (pn_ints _) (pn_ints _) fun b hb => ⟨_, rfl, ?_⟩
      have hb' : b = true ↔ J.n = I.n ∧ ∀ l, l < J.n → J.cut l = I.cut l := by
        rw [hb]
        constructor
        · intro e
          have e1 := int_inj (PyData.list.inj e)
          have e2 : J.n = I.n := by simpa using congrArg List.length e1
          refine ⟨e2, fun l hl => ?_⟩
          have e3 := congrArg (fun z : List Int => z[l]?) e1
          simp only [map_get hl, map_get (show l < I.n by omega)] at e3
          have := Option.some.inj e3
          omega
        · rintro ⟨e1, e2⟩
          rw [← e1]
          congr 2
          exact List.map_congr_left fun l hl => by rw [e2 l (List.mem_range.mp hl)]
      refine iteB (fun e => ?_) (fun e => ?_)
      · obtain ⟨e1, e2⟩ := hb'.mp e
        refine ⟨_, rfl, p, CJ, dx, _, _, rfl, hp, T.cJ, T.nD, look_d _ _, _, rfl, r, CJ, dz, _, _, rfl, hp2, T.cJ, T.nD, look_d _ _, ?_⟩
        refine ⟨pd, qd, ds, es, fun i => decide (S (J.txt i) = S (I.txt i)) && decide (J.sure i = I.sure i), rfl, rfl, hd, hd2, T.fD, fun _ i d d2 h1 h2 => ?_, fun H' s' => q _ _ s' ?_⟩
        · obtain ⟨x1, y1⟩ := ja.at_ i d h1
          obtain ⟨x2, y2⟩ := jb.at_ i d2 h2
          refine ⟨⟨_, _, y1⟩, ⟨_, _, y2⟩, fun e => ?_, fun H' s' => ⟨d, d2, _, _, _, _, rfl, ⟨x1, s' _ _ y1⟩, ⟨x2, s' _ _ y2⟩, rfl, Same.rfl'⟩⟩
          rw [← e, y1] at y2
          have := (HO.ins.inj (Option.some.inj y2)).2.2
          have h3 := congrArg (fun z : List (Str × V) => z.lookup ("own_text" : Str)) this
          have h4 := congrArg (fun z : List (Str × V) => z.lookup ("own_sure" : Str)) this
          simp only [look_t, look_s] at h3 h4
          dsimp only
          rw [V.str.inj (Option.some.inj h3)]
          have h5 := V.int.inj (Option.some.inj h4)
          rw [show J.sure i = I.sure i by omega]
          simp
        · rw [decide_eq_true (by omega), Bool.true_and, List.all_eq_true]
          constructor
          · intro h
            refine ⟨e1, fun l hl => ?_⟩
            have := h l (List.mem_range.mpr (by omega))
            rw [Bool.and_eq_true, decide_eq_true_eq, decide_eq_true_eq] at this
            exact ⟨e2 l hl, by have h := congrArg tl this.1; exact h, this.2⟩
          · rintro ⟨_, h⟩ l hl
            obtain ⟨_, h1, h2⟩ := h l (by have := List.mem_range.mp hl; omega)
            rw [h1, h2]
            simp
      · refine q _ false Same.rfl' ⟨(fun z => by cases z), fun h => ?_⟩
        rw [hb'.mpr ⟨h.1, fun l hl => (h.2 l hl).1⟩] at e
        cases e
end
end K77

set_option Elab.async false
set_option linter.all false
set_option maxRecDepth 100000
set_option maxHeartbeats 4000000
/-! O77i: enter, sync. -/
namespace K77
open PySem PySem.Spec PyProof.Rows L2 LL K75 JN
abbrev s_Journal_enter : Stmt := inClass (top 43) 6
abbrev n_Journal_enter : List Str := ["self", "lane", "pairs", "payload", "found", "ends", "cut", "some", "pair", "entry"]
theorem sc_Journal_enter : FnScope n_Journal_enter ["self", "lane", "pairs", "payload"] (defScope s_Journal_enter) := ⟨rfl, rfl, rfl, by decide +kernel, rfl, by decide +kernel, by decide +kernel⟩
abbrev s_Journal_sync : Stmt := inClass (top 43) 10
abbrev n_Journal_sync : List Str := ["self", "lanes", "lane"]
theorem sc_Journal_sync : FnScope n_Journal_sync ["self", "lanes"] (defScope s_Journal_sync) := ⟨rfl, rfl, rfl, by decide +kernel, rfl, by decide +kernel, by decide +kernel⟩
section
variable {P : Program} {w : World} {K : PySem.W.Frag} {mg : Str → Option Value} {base : Heap} {CD CJ : Addr} {f : Addr} {fd : FuncData}
theorem S_app (a b : List Nat) : S a ++ S b = S (a ++ b) := TL.ext_tl (by show tl _ = tl _; rw [tl_app, tl_S, tl_S, tl_S])
theorem dfl_jfl {z : Str} {n : Nat} {pd pc : Addr} : dfl z n ≠ jfl pd pc := fun e => by
  have := congrArg (fun x : List (Str × V) => x.lookup ("own_text" : Str)) e
  simp only [look_t] at this
  rw [look_jno _ _ (by decide +kernel) (by decide +kernel)] at this
  cases this
/-- a journal stays where other disks change -/
theorem JAt.chg {H H' : Hp} {A : List Addr} {p : Addr} {ds : List Addr} {J : Jr} (h : JAt CD CJ H p ds J) (c : Chg A H H') (hA : ∀ a ∈ A, ∃ z n, DAt CD H a z n) (dis : ∀ d ∈ ds, d ∉ A) : JAt CD CJ H' p ds J := by
  obtain ⟨dx, pd, pc, a, b, e⟩ := h.ex
  refine ⟨⟨dx, pd, pc, c _ _ a fun z => ?_, c _ _ b fun z => ?_, c _ _ e fun z => ?_⟩, h.len, h.nd, fun l d e => ?_⟩
  · obtain ⟨_, _, _, q⟩ := hA _ z
    rw [a] at q
    exact dfl_jfl (HO.ins.inj (Option.some.inj q)).2.2.symm
  · obtain ⟨_, _, _, q⟩ := hA _ z
    rw [b] at q
    cases q
  · obtain ⟨_, _, _, q⟩ := hA _ z
    rw [e] at q
    cases q
  · obtain ⟨dy, q⟩ := h.at_ l d e
    exact ⟨dy, c _ _ q (dis d (List.mem_of_getElem? e))⟩
/-- its own disk at l changes -/
theorem JAt.own {H H' : Hp} {p d : Addr} {ds : List Addr} {J I : Jr} {l : Nat} (h : JAt CD CJ H p ds J) (hd : ds[l]? = some d) (c : But d H H') (da : DAt CD H' d (S (I.txt l)) (I.sure l)) (hn : I.n = J.n) (hc : I.cut = J.cut) (ho : ∀ k, k < J.n → k ≠ l → I.txt k = J.txt k ∧ I.sure k = J.sure k) : JAt CD CJ H' p ds I := by
  obtain ⟨dx, pd, pc, a, b, e⟩ := h.ex
  obtain ⟨dy, q⟩ := h.at_ l d hd
  refine ⟨⟨dx, pd, pc, c _ _ a fun z => ?_, c _ _ b fun z => ?_, ?_⟩, by rw [h.len, hn], h.nd, fun k d2 e2 => ?_⟩
  · rw [← z, a] at q
    exact dfl_jfl (HO.ins.inj (Option.some.inj q)).2.2.symm
  · rw [← z, b] at q
    cases q
  · rw [hn, hc]
    exact c _ _ e fun z => by rw [← z, e] at q; cases q
  · by_cases ck : k = l
    · subst ck
      rw [hd] at e2
      cases e2
      exact da
    · obtain ⟨hk, _⟩ := List.getElem?_eq_some_iff.mp e2
      rw [h.len] at hk
      obtain ⟨t1, t2⟩ := ho k hk ck
      rw [t1, t2]
      obtain ⟨dz, q2⟩ := h.at_ k d2 e2
      refine ⟨dz, c _ _ q2 fun z => ck ?_⟩
      have i1 := (List.getElem?_eq_some_iff.mp e2)
      have i2 := (List.getElem?_eq_some_iff.mp hd)
      exact (List.getElem_inj h.nd).mp (i1.2.trans (z.trans i2.2.symm))
def spEnter (CD CJ : Addr) : Sp := fun vs H Q _ => ∃ (p qa : Addr) (ds : List Addr) (J : Jr) (l : Nat) (us : List V) (ps : List (Nat × Nat)) (pay : Str), vs = [.ref p, .int l, .ref qa, .str pay] ∧ JAt CD CJ H p ds J ∧ OkJ J ∧ l < J.n ∧ J.tail l = [] ∧ Lt H qa us ∧ PrN H us ps ∧ ps.length < 63 ∧ (nrm ps).length ≤ 8 ∧ (∀ x ∈ ps, x.1 < J.n ∧ x.1 ≠ l ∧ x.2 < J.ends x.1) ∧ 10 ∉ tl pay ∧ pay.length ≤ 100 ∧ (∀ c ∈ tl pay, c < 1000) ∧
  ∀ H', Chg ds H H' → JAt CD CJ H' p ds (addJ J l ⟨J.ends l, nrm ps, pay⟩) → Q (.int (J.ends l)) H'
theorem ok_enter (T : Tx K mg CD CJ) (M_J_entries : Mth P w K mg base CX0 5 CJ "entries" [] (spEnt CD CJ)) (M_J_all_entries : Mth P w K mg base CX0 6 CJ "all_entries" [] (spAll CD CJ)) (G_rows_of : Fnc P w K mg base CX0 3 "rows_of" [] spRows) (P_D_content : Prp P w K mg base CX0 1 CD "content" (spGetT CD)) (G_is_list : Fnc P w K mg base CX0 1 "is_list" [] spIsl) (G_is_spot : Fnc P w K mg base CX0 2 "is_spot" [] spIsp)
    (G_is_record : Fnc P w K mg base CX0 1 "is_record" [] spIs) (G_sealed : Fnc P w K mg base CX0 2 "sealed" [] spSealed) (G_entry_record : Fnc P w K mg base CX0 1 "entry_record" [] spErec) (M_D_append : Mth P w K mg base CX0 2 CD "append" [] (spApp CD)) (F : FD K "enter" "Journal.enter" s_Journal_enter [] f fd) : FnG P w K mg base CX0 7 f fd ["self", "lane", "pairs", "payload"] (spEnter CD CJ) := by
  refine ok0 F sc_Journal_enter (fun vs H Q E h => ?_) (fun cdv A outer s H vs Q E hr h => ?_)
  · obtain ⟨p, qa, ds, J, l, us, ps, pay, rfl, _⟩ := h
    rfl
  · obtain ⟨p, qa, ds, J, l, us, ps, pay, rfl, ja, O, hl, tl0, hqa, pr, few, few2, okp, free, lp, lt, q⟩ := h
    refine ⟨_, (pss_cons (ps_set (i := 4) sc_Journal_enter.nd rfl (by first | exact Or.inl rfl | exact Or.inr rfl) (pe_mt M_J_entries (hr.mono (by decide)) pass0 (pv 0) (pa_cons (pv 1) pa_nil)))
      (pss_cons (ps_if (pt_cmpR op_ne (pe_callB call_len_str (by rfl) T.n_len (by decide +kernel) (pa_cons (pe_fn G_rows_of (hr.mono (by decide)) pass0 (pa_cons (pv 4) pa_nil)) pa_nil)) (pe_callB call_len_str (by rfl) T.n_len (by decide +kernel) (pa_cons (pe_pr P_D_content (hr.mono (by decide)) pass0 (pe_ix ix_list (pe_fld (pv 0) rfl) (pv 1) (fun _ _ => rfl))) pa_nil)) (nomark _)) (pss_one ps_never) pss_nil)
      (pss_cons (ps_if (pt_not (pt_val (pe_fn G_is_list (hr.mono (by decide)) pass0 (pa_cons (pv 2) pa_nil)))) (pss_one ps_never) pss_nil)
      (pss_cons (ps_setLc (i := 5) (g := (gTup K 2 (gCons (gName 6) (gCons (gName 7) gNil)))) (own := [("cut", 6), ("some", 7)]) rfl sc_Journal_enter.nd rfl rfl (sw_true rfl rfl rfl (by decide +kernel)) (pi_zip (by rfl) T.n_zip (pa_cons (pe_fld (pv 0) rfl) (pa_cons (pe_mt0 M_J_all_entries (hr.mono (by decide)) pass0 (pv 0)) pa_nil))) (blkOk_by (own := [("cut", 6), ("some", 7)]) (N := n_Journal_enter) (sc := defScope s_Journal_enter) (by decide +kernel)) (fun _ _ _ _ _ => (pg_tup rfl (pgs_cons (pg_name (i := 6) sc_Journal_enter.nd rfl (by first | exact Or.inl rfl | exact Or.inr rfl)) (pgs_cons (pg_name (i := 7) sc_Journal_enter.nd rfl (by first | exact Or.inl rfl | exact Or.inr rfl)) pgs_nil)))) (fun _ _ _ _ _ => pts_nil) (fun _ _ _ _ _ => (pe_op op_add (pv 6) (pe_callB (call_len_seqK (K := K) (by rfl)) (by rfl) T.n_len (by decide +kernel) (pa_cons (pv 7) pa_nil)))))
      (pss_cons (ps_for PassesOwn.never rfl (pi_seqA (pv 2)) (pg_name (i := 8) sc_Journal_enter.nd rfl (by first | exact Or.inl rfl | exact Or.inr rfl)) (pss_one (ps_if (pt_not (pt_val (pe_fn G_is_spot (hr.mono (by decide)) pass0 (pa_cons (pv 8) (pa_cons (pv 1) (pa_cons (pv 5) pa_nil)))))) (pss_one ps_never) pss_nil)))
      (pss_cons (ps_if (pt_not (pt_val (pe_fn G_is_record (hr.mono (by decide)) pass0 (pa_cons (pv 3) pa_nil)))) (pss_one ps_never) pss_nil)
      (pss_cons (ps_set (i := 9) sc_Journal_enter.nd rfl (by first | exact Or.inl rfl | exact Or.inr rfl) (pe_tup (pa_cons (pv 1) (pa_cons (pe_ix ix_list (pv 5) (pv 1) (fun _ _ => rfl)) (pa_cons (pe_callTy call_tuple_of (by rfl) T.n_tuple (by decide +kernel) (pa_cons (pe_callB (cr_sortedT rfl) (by rfl) T.n_sorted (by decide +kernel) (pa_cons (pe_callTy (cr_setQ rfl (un64 hr)) (by rfl) T.n_set (by decide +kernel) (pa_cons (pv 2) pa_nil)) pa_nil)) pa_nil)) (pa_cons (pv 3) pa_nil))))))
      (pss_cons (ps_expr (pe_mt M_D_append (hr.mono (by decide)) pass0 (pe_ix ix_list (pe_fld (pv 0) rfl) (pv 1) (fun _ _ => rfl)) (pa_cons (pe_fn G_sealed (hr.mono (by decide)) pass0 (pa_cons (pe_fn G_entry_record (hr.mono (by decide)) pass0 (pa_cons (pv 9) pa_nil)) pa_nil)) pa_nil)))
      (pss_one (ps_ret (pe_ix ix_list (pv 5) (pv 1) (fun _ _ => rfl)))))))))))), ?_⟩
    obtain ⟨dx, pd, pc, hp, hd, hc⟩ := ja.ex
    have ll := ja.len
    refine ⟨_, rfl, p, dx, _, rfl, hp, look_jno _ _ (by decide +kernel) (by decide +kernel), _, rfl, p, ds, J, l, rfl, ja, O, hl, fun H1 fa s1 hfa => ?_⟩
    have hld : l < ds.length := by omega
    obtain ⟨dy, hdl⟩ := ja.at_ l ds[l] (List.getElem?_eq_getElem hld)
    have o8 := O.n8
    have tlen := O.txt_len hl
    have les : (J.es l).length ≤ 64 := by have := O.ends l hl; unfold Jr.ends at this; omega
    have etxt : J.txt l = rowsL (J.es l) := by unfold Jr.txt; rw [tl0, List.append_nil]
    have slen : (S (J.txt l)).length = (J.txt l).length := TL.len_tl _
    have slen2 : (S (rowsL (J.es l))).length = (rowsL (J.es l)).length := TL.len_tl _
    refine ⟨_, rfl, fa, l, J.es l, J.n, rfl, hfa.same newH_le, O.ok l hl, O.n8, les, fun H2 s2 => ?_⟩
    have s02 := s1.trans s2
    refine ⟨_, rfl, small (by rw [slen2, ← etxt]; omega), _, rfl, p, CJ, dx, _, _, rfl, s02 _ _ hp, T.cJ, T.nD, look_d _ _, _, rfl, pd, _, _, _, rfl, rfl, SqL.of (s02 _ _ hd), atI_nat (ref_at hld), ds[l], dy, _, rfl, s02 _ _ hdl, ds[l], _, _, rfl, ⟨dy, s02 _ _ hdl⟩, _, rfl, small (by rw [slen]; omega), rfl, _, rfl, iteN (by rw [slen, slen2, ← etxt]; simp) ?_⟩
    refine ⟨_, rfl, qa, us, rfl, hqa.same s02, fun H3 s3 => ⟨_, rfl, iteF ?_⟩⟩
    have s03 := s02.trans s3
    refine ⟨_, rfl, p, CJ, dx, _, _, rfl, s03 _ _ hp, T.cJ, T.nC, look_c _ _, _, rfl, p, dx, _, rfl, s03 _ _ hp, look_jno _ _ (by decide +kernel) (by decide +kernel), p, ds, J, rfl, ja.same s03, O, fun H4 la s4 hla => ?_⟩
    obtain ⟨lb, hlb, llb, lev⟩ := hla.same (newH_le (H := H3))
    have s04 := s03.trans s4
    refine ⟨pc, la, _, _, rfl, SqL.of (s04 _ _ hc), SqL.of hlb, fun D nD => ?_⟩
    refine lc_acc (walk_zip (K := K) (a := pc) (b := la) (xs := nL J.cut J.n) (ys := lb.map V.ref) (n := J.n) (by rw [nL_len, List.length_map, llb, Nat.min_self])) nD (fun j => (nL J.ends J.n).take j) rfl (fun j hj => ?_) (fun G s' => ⟨SqL.of (s' _ _ (s04 _ _ hc)), SqL.of (s' _ _ hlb)⟩) ?_ ?_
    · rw [List.length_take, nL_len]
      omega
    · rintro i x G2 G3 hi s5 ⟨t, y, zz, rfl, nt, rfl, hy, hz⟩ N S' hN hS
      have hy' : V.int (J.cut i) = y := Option.some.inj ((nL_get hi).symm.trans hy)
      subst hy'
      obtain ⟨qi, hqi, rfl⟩ := ref_get hz
      obtain ⟨vi, hvi, evi⟩ := lev i qi hqi
      obtain ⟨G4, e4, s6, ht6⟩ := mkO nt (.tup [.int (J.cut i), .ref qi])
      rw [e4]
      refine ⟨t, _, rfl, SqT.of ht6, rfl, _, _, rfl, _, _, rfl, rfl, rfl, ?_⟩
      refine ⟨_, rfl, _, rfl, qi, vi, rfl, .inl (SqL.of ((s5.trans s6) _ _ hvi)), _, _, rfl, rfl, hN _ _ s6 ?_⟩
      rw [take_snoc (nL_get hi), evi.len]
      rfl
    · intro H5 s5 h5
      have s05 := s04.trans s5
      have hD : H5 D = some (.lst (nL J.ends J.n)) := by rw [h5, List.take_of_length_le (by rw [nL_len]; exact Nat.le_refl _)]
      have nD0 : H D = none := s04.free nD
      -- the pairs
      refine seq_lt (hqa.same s05) (fun R hR => ⟨_, rfl, hR⟩) fun Jw wk => ?_
      refine for_it wk (fun i σ G => G = H5 ∧ ∃ v, σ = [some (.ref p), some (.int l), some (.ref qa), some (.str pay), some (.ref fa), some (.ref D), none, none, v, none]) ⟨rfl, none, rfl⟩ (fun i σ G _ z => by rw [z.1]) ?_ ?_
      · rintro i x σ G G' hi ⟨rfl, v, rfl⟩ ⟨rfl, hx⟩
        have hi' : i < ps.length := by rw [← pr.len']; exact hi
        obtain ⟨tp, rfl, htp⟩ := pr.get hx (List.getElem?_eq_getElem hi')
        obtain ⟨a1, a2, a3⟩ := okp ps[i] (List.getElem_mem hi')
        exact ⟨_, rfl, _, rfl, _, rfl, tp, D, ps[i], l, J.n, J.ends, rfl, s05 _ _ htp, hD, o8, a1, a2, a3, _, rfl, iteF ⟨rfl, _, rfl⟩⟩
      · rintro σ G ⟨rfl, v, rfl⟩
        refine ⟨_, rfl, pay, rfl, _, rfl, iteN (by rw [decide_eq_false free]; rfl) ?_⟩
        refine ⟨_, rfl, _, rfl, _, rfl, D, _, _, _, rfl, rfl, SqL.of hD, nL_at hl, _, rfl, ?_⟩
        dsimp only [tNil]
        have pr5 : PrN G us ps := pr.same s05
        have oe : OkE J.n l ⟨J.ends l, nrm ps, pay⟩ := ⟨O.ends l hl, fun x hx => by
          obtain ⟨a, b, c⟩ := okp x (mem_nrm.mp hx)
          exact ⟨a, b, Nat.lt_trans c (O.ends _ a)⟩, nrm_up ps, few2, free, lp, lt⟩
        refine set_sort (hqa.same s05) pr5 few (fun x hx => by obtain ⟨a, _, c⟩ := okp x hx; have := O.ends _ a; omega) fun G1 r us1 s6 nr hr1 pr6 => ?_
        refine ⟨r, us1, rfl, .inl ⟨SqL.of hr1, fun T1 nT => ⟨_, rfl, small (by show 4 ≤ 100000; decide), fun u nu => ?_⟩⟩⟩
        have s7 := (same_upd (o := .tup us1) nT).trans (same_upd (o := .tup [.int l, .int (J.ends l), .ref T1, .str pay]) nu)
        generalize hG2 : upd (upd G1 T1 (.tup us1)) u (.tup [.int l, .int (J.ends l), .ref T1, .str pay]) = G2 at *
        have en : EnV G2 (.ref u) l ⟨J.ends l, nrm ps, pay⟩ := ⟨u, T1, us1, rfl, by rw [← hG2, upd_same], by
          rw [← hG2, upd_ne (fun c => by rw [← c, upd_same] at nu; cases nu), upd_same], pr6.same s7⟩
        have s08 := (s05.trans s6).trans s7
        have s58 := s6.trans s7
        have rl := recd_len o8 oe
        refine ⟨_, rfl, p, CJ, dx, _, _, rfl, s08 _ _ hp, T.cJ, T.nD, look_d _ _, _, rfl, pd, _, _, _, rfl, rfl, SqL.of (s08 _ _ hd), atI_nat (ref_at hld), ds[l], dy, _, rfl, s08 _ _ hdl, look_no _ _ (by decide +kernel) (by decide +kernel), ?_⟩
        refine ⟨_, rfl, _, l, _, J.n, rfl, en, oe, o8, fun G3 s9 => ?_⟩
        have s09 := s08.trans s9
        have rw1 := row_len o8 oe
        refine ⟨_, rfl, recd_free oe, (by rw [TL.len_tl]; exact Nat.le_trans rl (by decide)), ds[l], _, _, _, rfl, ⟨dy, s09 _ _ hdl⟩, ?_, fun G4 bt da => ?_⟩
        · have : (S (row (tl (recd ⟨J.ends l, nrm ps, pay⟩)))).length = (rowL ⟨J.ends l, nrm ps, pay⟩).length := TL.len_tl _
          rw [slen, this]
          omega
        · have hD9 : G3 D = some (.lst (nL J.ends J.n)) := s9 _ _ (s58 _ _ hD)
          have neD : D ≠ ds[l] := fun c => by rw [c, hdl] at nD0; cases nD0
          refine ⟨_, rfl, _, rfl, D, _, _, _, rfl, rfl, SqL.of (bt _ _ hD9 neD), nL_at hl, q _ (fun b o e n => bt _ _ (s09 _ _ e) fun c => n (by rw [c]; exact List.getElem_mem hld)) ?_⟩
          refine (ja.same s09).own (List.getElem?_eq_getElem hld) bt ?_ rfl rfl fun k hk ne => ⟨?_, rfl⟩
          · rw [S_app] at da
            rw [addJ_txt tl0, if_pos rfl]
            exact da
          · rw [addJ_txt tl0, if_neg ne]
theorem JAt.cong {H : Hp} {p : Addr} {ds : List Addr} {J I : Jr} (h : JAt CD CJ H p ds J) (hn : I.n = J.n) (hc : ∀ l, l < J.n → I.cut l = J.cut l) (ht : ∀ l, l < J.n → I.txt l = J.txt l ∧ I.sure l = J.sure l) : JAt CD CJ H p ds I := by
  obtain ⟨dx, pd, pc, a, b, e⟩ := h.ex
  refine ⟨⟨dx, pd, pc, a, b, by rw [hn, nL_congr hc]; exact e⟩, by rw [h.len, hn], h.nd, fun l d e => ?_⟩
  obtain ⟨hl, _⟩ := List.getElem?_eq_some_iff.mp e
  rw [h.len] at hl
  obtain ⟨t1, t2⟩ := ht l hl
  rw [t1, t2]
  exact h.at_ l d e
/-- one lane more is sure -/
theorem JAt.sync1 {H H' : Hp} {p d : Addr} {ds : List Addr} {J : Jr} {L : List Nat} {i l : Nat} (h : JAt CD CJ H p ds (syncJ J fun l => decide (l ∈ L.take i))) (hl : L[i]? = some l) (hd : ds[l]? = some d) (c : But d H H') (da : DAt CD H' d (S (J.txt l)) (S (J.txt l)).length) : JAt CD CJ H' p ds (syncJ J fun l => decide (l ∈ L.take (i + 1))) := by
  have e : ∀ k, (k ∈ L.take (i + 1)) ↔ (k ∈ L.take i ∨ k = l) := fun k => by rw [take_snoc hl, List.mem_append, List.mem_singleton]
  refine h.own hd c ?_ rfl rfl fun k hk ne => ⟨rfl, ?_⟩
  · have : (syncJ J fun l => decide (l ∈ L.take (i + 1))).sure l = (S (J.txt l)).length := by
      show (if decide (l ∈ L.take (i + 1)) = true then (J.txt l).length else J.sure l) = _
      rw [if_pos (decide_eq_true ((e l).mpr (.inr rfl)))]
      exact (TL.len_tl (S (J.txt l))).symm
    rw [this]
    exact da
  · show (if decide (k ∈ L.take (i + 1)) = true then _ else _) = (if decide (k ∈ L.take i) = true then _ else _)
    by_cases c : k ∈ L.take i
    · rw [if_pos (decide_eq_true ((e k).mpr (.inl c))), if_pos (decide_eq_true c)]
    · rw [if_neg (by rw [decide_eq_true_eq, e k]; exact fun z => z.elim c ne), if_neg (by rw [decide_eq_true_eq]; exact c)]
def spSyn (CD CJ : Addr) : Sp := fun vs H Q _ => ∃ (p t : Addr) (ds : List Addr) (J : Jr) (ls : List Nat), vs = [.ref p, .ref t] ∧ JAt CD CJ H p ds J ∧ OkJ J ∧ H t = some (.tup (ls.map fun l => V.int (l : Nat))) ∧ (∀ l ∈ ls, l < J.n) ∧ ls.length ≤ 8 ∧ ∀ H', Chg ds H H' → JAt CD CJ H' p ds (syncJ J fun l => decide (ls = []) || decide (l ∈ ls)) → Q .non H'
theorem ok_jsync (T : Tx K mg CD CJ) (G_check_lane : Fnc P w K mg base CX0 2 "check_lane" [] spLane) (M_D_sync : Mth P w K mg base CX0 1 CD "sync" [] (spSync CD)) (F : FD K "sync" "Journal.sync" s_Journal_sync [] f fd) : FnS P w K mg base CX0 3 f (spStar 1 (spSyn CD CJ)) := by
  refine okStar (ps := ["self"]) (pv := "lanes") F sc_Journal_sync StX.cxUp_none (fun kV doc pm an cdv ct => ?_) (fun cdv A outer s H vs Q E hr h => ?_)
  · exact StX.bind_star1 (B := fun us => bindArgs (PySem.W.fnOf "sync" "Journal.sync" (defArgs s_Journal_sync) (defBody s_Journal_sync) (defScope s_Journal_sync) .none kV doc pm an cdv ct) ⟨us, []⟩) (p1 := "self") (pv := "lanes") (fun a => rfl) (fun a r rs => rfl)
  · obtain ⟨p, t, ds, J, ls, rfl, ja, O, ht, hls, l8, q⟩ := h
    refine ⟨_, PSs.nox ((pss_cons (ps_for PassesOwn.never rfl (pi_tup (pv 1)) (pg_name (i := 2) sc_Journal_sync.nd rfl (by first | exact Or.inl rfl | exact Or.inr rfl)) (pss_one (ps_expr (pe_fn G_check_lane (hr.mono (by decide)) pass0 (pa_cons (pv 2) (pa_cons (pe_callB call_len_seq (by rfl) T.n_len (by decide +kernel) (pa_cons (pe_fld (pv 0) rfl) pa_nil)) pa_nil))))))
      (pss_one (ps_for PassesOwn.never rfl (pi_seqA (pe_ifExp (pt_cmpR (op_neD hr.r.units) (pv 1) (pe_tup pa_nil) (nomark _)) (pv 1) (pe_listRg rfl (by rfl) T.n_list (prg_1 (by rfl) T.n_range (pe_callB call_len_seq (by rfl) T.n_len (by decide +kernel) (pa_cons (pe_fld (pv 0) rfl) pa_nil)))))) (pg_name (i := 2) sc_Journal_sync.nd rfl (by first | exact Or.inl rfl | exact Or.inr rfl)) (pss_one (ps_expr (pe_mt0 M_D_sync (hr.mono (by decide)) pass0 (pe_ix ix_list (pe_fld (pv 0) rfl) (pv 2) (fun _ _ => rfl))))))))), ?_⟩
    obtain ⟨dx, pd, pc, hp, hd, hc⟩ := ja.ex
    have ll := ja.len
    have o8 := O.n8
    refine ⟨_, rfl, t, rfl, ⟨_, SqT.of ht⟩, ?_⟩
    refine for_it (walk_tup (K := K) (a := t) (xs := ls.map fun l => V.int (l : Nat))) (fun i σ G => G = H ∧ ∃ v, σ = [some (.ref p), some (.ref t), v]) ⟨rfl, none, rfl⟩ (fun i σ G _ z => by rw [z.1]; exact SqT.of ht) ?_ ?_
    · rintro i x σ G G' hi ⟨rfl, v, rfl⟩ ⟨rfl, hx⟩
      rw [List.getElem?_map] at hx
      obtain ⟨l, hl, rfl⟩ := Option.map_eq_some_iff.mp hx
      have hln := hls l (List.mem_of_getElem? hl)
      exact ⟨_, rfl, _, rfl, p, CJ, dx, _, _, rfl, hp, T.cJ, T.nD, look_d _ _, pd, _, rfl, .inl (SqL.of hd), l, (ds.map V.ref).length, rfl, by rw [List.length_map]; omega, rfl, _, rfl⟩
    · rintro σ G ⟨rfl, v, rfl⟩
      have dpt : Dp K G (.ref t) (.tuple (ls.map fun l => PyData.int (l : Nat))) := .tup (SqT.of ht) (dpa_map fun i _ => .int _)
      have pnt : Pn 1 (.tuple (ls.map fun l => PyData.int (l : Nat))) := fun d hd => by
        obtain ⟨x, _, rfl⟩ := List.mem_map.mp hd
        trivial
      have pn0 : Pn 1 (.tuple []) := fun d hd => by cases hd
      by_cases h0 : ls = []
      · subst h0
        refine .inl ⟨_, rfl, ⟨small (by show 0 ≤ 100000; decide), fun E nE => ne_pd (LL.Dp.same (same_upd nE) dpt) (.tup (SqT.of upd_same) .nil) pnt pn0 fun b hb => ?_⟩⟩
        have s1 := same_upd (o := .tup []) nE
        refine ⟨_, rfl, iteN (by rw [hb.mpr rfl]; rfl) ?_⟩
        refine ⟨_, rfl, p, CJ, dx, _, _, rfl, s1 _ _ hp, T.cJ, T.nD, look_d _ _, pd, _, rfl, .inl (SqL.of (s1 _ _ hd)), _, rfl, ?_⟩
        refine ⟨RgOk.of_le (by decide) (by rw [List.length_map]; omega) (by decide) (by omega), fun q1 nq => ?_⟩
        have s12 := s1.trans (same_upd (o := .lst (rgV 0 ((ds.map V.ref).length : Nat))) nq)
        have erg : rgV 0 ((ds.map V.ref).length : Nat) = (List.range J.n).map fun l => V.int (l : Nat) := by
          unfold rgV
          rw [List.length_map, ll, show (((J.n : Nat) : Int) - 0).toNat = J.n by omega]
          refine List.map_congr_left fun i _ => ?_
          rw [Int.zero_add]
        rw [erg] at s12 ⊢
        have hq1 : upd (upd G E (.tup [])) q1 (.lst ((List.range J.n).map fun l => V.int (l : Nat))) q1 = some (.lst ((List.range J.n).map fun l => V.int (l : Nat))) := upd_same
        refine ⟨q1, rfl, ⟨_, SqL.of hq1⟩, ?_⟩
        refine for_it (walk_list (K := K) (a := q1) (xs := (List.range J.n).map fun l => V.int (l : Nat))) (fun i σ G2 => Chg ds G G2 ∧ JAt CD CJ G2 p ds (syncJ J fun l => decide (l ∈ (List.range J.n).take i)) ∧ G2 q1 = some (.lst ((List.range J.n).map fun l => V.int (l : Nat))) ∧ ∃ v, σ = [some (.ref p), some (.ref t), v]) ⟨.of s12, ja.same s12 |>.cong rfl (fun _ _ => rfl) fun l _ => ⟨rfl, by show (if decide (l ∈ (List.range J.n).take 0) = true then (J.txt l).length else J.sure l) = J.sure l; simp⟩, hq1, v, rfl⟩ (fun i σ G2 _ z => SqL.of z.2.2.1) ?_ ?_
        · rintro i x σ G2 G3 hi ⟨c2, j2, h2, v, rfl⟩ ⟨rfl, hx⟩
          rw [List.getElem?_map] at hx
          obtain ⟨l, hl, rfl⟩ := Option.map_eq_some_iff.mp hx
          have hln : l < J.n := (fun l h => List.mem_range.mp h) l (List.mem_of_getElem? hl)
          have hld : l < ds.length := by omega
          have hdl := List.getElem?_eq_getElem hld
          obtain ⟨dx2, pd2, pc2, hp2, hd2, _⟩ := j2.ex
          obtain ⟨dy, hy⟩ := j2.at_ l ds[l] hdl
          have tlen := O.txt_len hln
          refine ⟨_, rfl, p, CJ, dx2, _, _, rfl, hp2, T.cJ, T.nD, look_d _ _, _, rfl, pd2, _, _, _, rfl, rfl, SqL.of hd2, atI_nat (ref_at hld), ds[l], dy, _, rfl, hy, look_no _ _ (by decide +kernel) (by decide +kernel), ds[l], _, _, rfl, ⟨dy, hy⟩, (by rw [TL.len_tl]; show (J.txt l).length ≤ _; omega), fun G4 bt da => ⟨fun b o e n => bt _ _ (c2 _ _ e n) fun c => n (by rw [c]; exact List.getElem_mem hld), j2.sync1 hl hdl bt da, bt _ _ h2 (fun c => by rw [← c, h2] at hy; cases hy), _, rfl⟩⟩
        · rintro σ G2 ⟨c2, j2, h2, v, rfl⟩
          refine q _ c2 (j2.cong rfl (fun _ _ => rfl) fun l hl => ⟨rfl, ?_⟩)
          rw [List.length_map, List.take_length]
          show (if (decide (([] : List Nat) = []) || decide (l ∈ ([] : List Nat))) = true then (J.txt l).length else J.sure l) = (if decide (l ∈ List.range J.n) = true then (J.txt l).length else J.sure l)
          have hl' : l < J.n := hl
          rw [if_pos (by simp), if_pos (decide_eq_true (List.mem_range.mpr hl'))]
      · refine .inr ⟨_, rfl, ⟨small (by show 0 ≤ 100000; decide), fun E nE => ne_pd (LL.Dp.same (same_upd nE) dpt) (.tup (SqT.of upd_same) .nil) pnt pn0 fun b hb => ?_⟩⟩
        have s1 := same_upd (o := .tup []) nE
        have hb0 : b = false := by
          cases b with
          | false => rfl
          | true =>
            have := PyData.tuple.inj (hb.mp rfl)
            exact absurd (List.map_eq_nil_iff.mp this) h0
        refine ⟨_, rfl, iteY (by rw [hb0]; rfl) ?_⟩
        refine ⟨_, rfl, t, rfl, ⟨_, SqT.of (s1 _ _ ht)⟩, ?_⟩
        refine for_it (walk_tup (K := K) (a := t) (xs := ls.map fun l => V.int (l : Nat))) (fun i σ G2 => Chg ds G G2 ∧ JAt CD CJ G2 p ds (syncJ J fun l => decide (l ∈ (ls).take i)) ∧ G2 t = some (.tup (ls.map fun l => V.int (l : Nat))) ∧ ∃ v, σ = [some (.ref p), some (.ref t), v]) ⟨.of s1, ja.same s1 |>.cong rfl (fun _ _ => rfl) fun l _ => ⟨rfl, by show (if decide (l ∈ (ls).take 0) = true then (J.txt l).length else J.sure l) = J.sure l; simp⟩, s1 _ _ ht, v, rfl⟩ (fun i σ G2 _ z => SqT.of z.2.2.1) ?_ ?_
        · rintro i x σ G2 G3 hi ⟨c2, j2, h2, v, rfl⟩ ⟨rfl, hx⟩
          rw [List.getElem?_map] at hx
          obtain ⟨l, hl, rfl⟩ := Option.map_eq_some_iff.mp hx
          have hln : l < J.n := hls l (List.mem_of_getElem? hl)
          have hld : l < ds.length := by omega
          have hdl := List.getElem?_eq_getElem hld
          obtain ⟨dx2, pd2, pc2, hp2, hd2, _⟩ := j2.ex
          obtain ⟨dy, hy⟩ := j2.at_ l ds[l] hdl
          have tlen := O.txt_len hln
          refine ⟨_, rfl, p, CJ, dx2, _, _, rfl, hp2, T.cJ, T.nD, look_d _ _, _, rfl, pd2, _, _, _, rfl, rfl, SqL.of hd2, atI_nat (ref_at hld), ds[l], dy, _, rfl, hy, look_no _ _ (by decide +kernel) (by decide +kernel), ds[l], _, _, rfl, ⟨dy, hy⟩, (by rw [TL.len_tl]; show (J.txt l).length ≤ _; omega), fun G4 bt da => ⟨fun b o e n => bt _ _ (c2 _ _ e n) fun c => n (by rw [c]; exact List.getElem_mem hld), j2.sync1 hl hdl bt da, bt _ _ h2 (fun c => by rw [← c, h2] at hy; cases hy), _, rfl⟩⟩
        · rintro σ G2 ⟨c2, j2, h2, v, rfl⟩
          refine q _ c2 (j2.cong rfl (fun _ _ => rfl) fun l hl => ⟨rfl, ?_⟩)
          rw [List.length_map, List.take_length]
          show (if (decide (ls = []) || decide (l ∈ ls)) = true then (J.txt l).length else J.sure l) = (if decide (l ∈ ls) = true then (J.txt l).length else J.sure l)
          rw [decide_eq_false h0, Bool.false_or]
end
end K77

set_option Elab.async false
set_option linter.all false
set_option maxRecDepth 100000
set_option maxHeartbeats 4000000
/-! L77: draws; the law's rows and records. -/
namespace K77
open PySem PySem.Spec PyProof.Rows L2 LL K75 JN
abbrev s_l_pot : Stmt := top 49
abbrev n_l_pot : List Str := ["_law_script", "_law_k", "_law_cell"]
theorem sc_l_pot : FnScope n_l_pot ["_law_script", "_law_k"] (defScope s_l_pot) := ⟨rfl, rfl, rfl, by decide +kernel, rfl, by decide +kernel, by decide +kernel⟩
abbrev s_l_take : Stmt := top 50
abbrev n_l_take : List Str := ["_law_pot_here", "_law_many", "_law_digit"]
theorem sc_l_take : FnScope n_l_take ["_law_pot_here", "_law_many"] (defScope s_l_take) := ⟨rfl, rfl, rfl, by decide +kernel, rfl, by decide +kernel, by decide +kernel⟩
abbrev s_l_pick : Stmt := top 51
abbrev n_l_pick : List Str := ["_law_pot_here", "_law_some"]
theorem sc_l_pick : FnScope n_l_pick ["_law_pot_here", "_law_some"] (defScope s_l_pick) := ⟨rfl, rfl, rfl, by decide +kernel, rfl, by decide +kernel, by decide +kernel⟩
abbrev s_l_check : Stmt := top 52
abbrev n_l_check : List Str := ["_law_record_here", "_law_check_here", "_law_sign"]
theorem sc_l_check : FnScope n_l_check ["_law_record_here"] (defScope s_l_check) := ⟨rfl, rfl, rfl, by decide +kernel, rfl, by decide +kernel, by decide +kernel⟩
abbrev s_l_row : Stmt := top 53
abbrev n_l_row : List Str := ["_law_record_here"]
theorem sc_l_row : FnScope n_l_row ["_law_record_here"] (defScope s_l_row) := ⟨rfl, rfl, rfl, by decide +kernel, rfl, by decide +kernel, by decide +kernel⟩
abbrev s_l_record : Stmt := top 54
abbrev n_l_record : List Str := ["_law_entry", "_law_lane", "_law_place", "_law_pairs", "_law_payload", "_law_words", "_law_other", "_law_spot"]
theorem sc_l_record : FnScope n_l_record ["_law_entry"] (defScope s_l_record) := ⟨rfl, rfl, rfl, by decide +kernel, rfl, by decide +kernel, by decide +kernel⟩
section
variable {P : Program} {w : World} {K : PySem.W.Frag} {mg : Str → Option Value} {base : Heap} {CD CJ : Addr} {f : Addr} {fd : FuncData}
def Pot (x y : Int) : Prop := 0 ≤ x ∧ 0 ≤ y ∧ y < 1099511627776
def PotAt (H : Hp) (p : Addr) : Prop := ∃ x y, H p = some (.lst [.int x, .int y]) ∧ Pot x y
theorem PotAt.ne {H : Hp} {p r : Addr} (h : PotAt H p) (n : H r = none) : r ≠ p := fun z => by
  obtain ⟨x, y, e, _⟩ := h
  rw [z, e] at n
  cases n
theorem PotAt.upd {H : Hp} {p r : Addr} {o : HO} (h : PotAt H p) (n : H r = none) : PotAt (L2.upd H r o) p := by
  obtain ⟨x, y, e, q⟩ := id h
  exact ⟨x, y, by rw [upd_ne (h.ne n).symm]; exact e, q⟩
theorem PotAt.same {H H' : Hp} {p : Addr} (h : PotAt H p) (b : Same H H') : PotAt H' p := let ⟨x, y, e, z⟩ := h; ⟨x, y, b _ _ e, z⟩
theorem PotAt.but {H H' : Hp} {p q : Addr} (h : PotAt H p) (b : But q H H') (n : p ≠ q) : PotAt H' p := let ⟨x, y, e, z⟩ := h; ⟨x, y, b _ _ e n, z⟩
theorem PotAt.kp {H H' : Hp} {p : Addr} (h : PotAt H p) (b : But p H H') : Kp H H' := let ⟨_, _, e, _⟩ := h; b.kp e
/-! ### _law_pot -/
def spPot (K : PySem.W.Frag) : Sp := fun vs H Q _ => ∃ (a : Addr) (ns : List Int) (k : Nat), vs = [.ref a, .int k] ∧ SqL K H a (ns.map V.int) ∧ ns.length ≤ 63 ∧ k < 100 ∧ ∀ H' p, Same H H' → H p = none → PotAt H' p → Q (.ref p) H'
theorem at_map {ns : List Int} {k : Nat} (h : k < ns.length) : atI (ns.map V.int) (k : Int) = some (.int ns[k]) := atI_nat (by rw [List.getElem?_map, List.getElem?_eq_getElem h]; rfl)
theorem ok_l_pot (T : Tx K mg CD CJ) (F : FD K "_law_pot" "_law_pot" s_l_pot [] f fd) : FnG P w K mg base CX0 1 f fd ["_law_script", "_law_k"] (spPot K) := by
  refine ok0 F sc_l_pot (fun vs H Q E h => ?_) (fun cdv A outer s H vs Q E hr h => ?_)
  · obtain ⟨a, ns, k, rfl, _⟩ := h
    rfl
  · obtain ⟨a, ns, k, rfl, hS, hl, hk, q⟩ := h
    refine ⟨_, (pss_cons (ps_set (i := 2) sc_l_pot.nd rfl (by first | exact Or.inl rfl | exact Or.inr rfl) (pe_op op_add (pe_op op_mulX pe_int (pv 1)) pe_int))
      (pss_cons (ps_if (pt_cmpR op_lt (pv 1) (pe_callB call_len_seq (by rfl) T.n_len (by decide +kernel) (pa_cons (pv 0) pa_nil)) (nomark _)) (pss_one (ps_set (i := 2) sc_l_pot.nd rfl (by first | exact Or.inl rfl | exact Or.inr rfl) (pe_callB call_abs (by rfl) T.n_abs (by decide +kernel) (pa_cons (pe_ix ix_list (pv 0) (pv 1) (fun _ _ => rfl)) pa_nil)))) pss_nil)
      (pss_one (ps_ret (pe_lst (pa_cons (pe_callB (call_max2 rfl) (by rfl) T.n_max (by decide +kernel) (pa_cons pe_int (pa_cons (pe_op op_sub (pv 2) (pe_op op_pow pe_int pe_int)) pa_nil))) (pa_cons (pe_op op_add (pe_op op_add (pe_op op_mulX (pe_op op_mod (pe_callTy call_int1 (by rfl) T.n_int (by decide +kernel) (pa_cons (pv 2) pa_nil)) pe_int) pe_int) (pe_op op_mulX pe_int (pv 1))) pe_int) pa_nil))))))), ?_⟩
    refine ⟨_, rfl, _, _, rfl, rfl, mulx_ok (a := 4) (b := 7) (by decide) (by omega) (by decide), _, _, rfl, rfl, ?_⟩
    refine nm_of ?_
    dsimp only
    refine seq_cut (fun σ' H' => H' = H ∧ ∃ c : Int, 0 ≤ c ∧ σ' = [some (.ref a), some (.int k), some (.int c)]) (fun N hN => ?_) ?_
    · refine ⟨_, rfl, _, rfl, a, _, rfl, .inl hS, _, _, rfl, rfl, _, rfl, iteB (fun e => ?_) (fun e => ?_)⟩
      · have hkl : k < ns.length := by
          have := of_decide_eq_true e
          rw [List.length_map] at this
          omega
        refine ⟨_, rfl, _, rfl, a, _, _, _, rfl, rfl, hS, at_map hkl, _, rfl, hN _ _ ⟨rfl, _, ?_, rfl⟩⟩
        split <;> omega
      · exact hN _ _ ⟨rfl, _, by omega, rfl⟩
    rintro σ H' ⟨rfl, c, hc, rfl⟩
    refine ⟨_, rfl, _, _, rfl, rfl, ⟨by decide, by decide, by decide⟩, _, _, rfl, rfl, _, _, rfl, ?_⟩
    refine ⟨_, rfl, .inl ⟨_, rfl, _, _, rfl, rfl, (show (0 : Int) < 2147483549 by decide), _, _, rfl, rfl, mulx_ok (a := 32) (b := 6) (by omega) (by decide) (by decide), _, rfl, _, _, rfl, rfl, mulx_ok (a := 10) (b := 7) (by decide) (by omega) (by decide), _, _, rfl, rfl, _, _, rfl, rfl, ?_⟩⟩
    refine ⟨(by show 2 ≤ sizeLine; decide), fun p hp => q _ p (same_upd hp) hp ⟨_, _, upd_same, ?_, by omega, by omega⟩⟩
    split <;> omega
/-! ### _law_take -/
def spTake : Sp := fun vs H Q _ => ∃ (p : Addr) (m : Int), vs = [.ref p, .int m] ∧ PotAt H p ∧ 0 < m ∧ m < 1000000 ∧ ∀ H' d, But p H H' → PotAt H' p → 0 ≤ d → d < m → Q (.int d) H'
theorem ok_l_take (T : Tx K mg CD CJ) (F : FD K "_law_take" "_law_take" s_l_take [] f fd) : FnG P w K mg base CX0 1 f fd ["_law_pot_here", "_law_many"] spTake := by
  refine ok0 F sc_l_take (fun vs H Q E h => ?_) (fun cdv A outer s H vs Q E hr h => ?_)
  · obtain ⟨p, m, rfl, _⟩ := h
    rfl
  · obtain ⟨p, m, rfl, ⟨x, y, hp, hx, hy, hy2⟩, m0, m1, q⟩ := h
    refine ⟨_, (pss_cons (ps_if (pt_cmpR op_gt (pe_ix ix_list (pv 0) pe_int (fun _ _ => rfl)) pe_int (nomark _)) (pss_cons (ps_asg (pe_callB call_divmodW (by rfl) T.n_divmod (by decide +kernel) (pa_cons (pe_ix ix_list (pv 0) pe_int (fun _ _ => rfl)) (pa_cons (pv 1) pa_nil))) (pg_tup rfl (pgs_cons (pg_sub (pv 0) pe_int set_list) (pgs_cons (pg_name (i := 2) sc_l_take.nd rfl (by first | exact Or.inl rfl | exact Or.inr rfl)) pgs_nil))))
      (pss_one (ps_ret (pv 2)))) pss_nil)
      (pss_cons (ps_asg (pe_op op_mod (pe_callTy call_int1 (by rfl) T.n_int (by decide +kernel) (pa_cons (pe_op op_add (pe_op op_mulX (pe_ix ix_list (pv 0) pe_int (fun _ _ => rfl)) pe_int) pe_int) pa_nil)) pe_int) (pg_sub (pv 0) pe_int set_list))
      (pss_one (ps_ret (pe_op op_mod (pe_callTy call_int1 (by rfl) T.n_int (by decide +kernel) (pa_cons (pe_op op_fdivZ (pe_op op_mod (pe_callTy call_int1 (by rfl) T.n_int (by decide +kernel) (pa_cons (pe_op op_mulX (pe_ix ix_list (pv 0) pe_int (fun _ _ => rfl)) (pe_ix ix_list (pv 0) pe_int (fun _ _ => rfl))) pa_nil)) pe_int) pe_int) pa_nil)) (pv 1)))))), ?_⟩
    refine ⟨_, rfl, p, _, _, _, rfl, rfl, SqL.of hp, atI_nat (j := 0) rfl, _, _, rfl, rfl, _, rfl, iteB (fun e => ?_) (fun e => ?_)⟩
    · have x0 : 0 < x := of_decide_eq_true e
      refine ⟨_, rfl, p, _, _, _, rfl, rfl, SqL.of hp, atI_nat (j := 0) rfl, _, rfl, _, _, rfl, ⟨m0, PyProof.noPylong_small (by omega)⟩, fun t ht => ?_⟩
      have npt : p ≠ t := ne_of_none hp ht
      refine ⟨t, _, rfl, SqT.of upd_same, rfl, _, _, rfl, _, rfl, p, _, _, 0, rfl, rfl, (by rw [upd_ne npt]; exact hp), rfl, ?_⟩
      refine ⟨_, _, rfl, rfl, _, rfl, ?_⟩
      refine q _ _ (fun b o e n => ?_) ⟨_, _, upd_same, Int.ediv_nonneg hx (by omega), hy, hy2⟩ (Int.emod_nonneg _ (by omega)) (Int.emod_lt_of_pos _ m0)
      rw [upd_ne n, upd_ne (ne_of_none e ht)]
      exact e
    · have z0 : 0 ≤ (y * 48271 + 11027) % 2147483629 := Int.emod_nonneg _ (by decide)
      have z1 : (y * 48271 + 11027) % 2147483629 < 2147483629 := Int.emod_lt_of_pos _ (by decide)
      refine ⟨_, rfl, p, _, _, _, rfl, rfl, SqL.of hp, atI_nat (j := 1) rfl, _, _, rfl, rfl, mulx_ok (a := 40) (b := 16) (by omega) (by decide) (by decide), _, _, rfl, rfl, .inl ⟨_, rfl, _, _, rfl, rfl, (show (0 : Int) < 2147483629 by decide), ?_⟩⟩
      refine ⟨_, rfl, p, _, _, 1, rfl, rfl, hp, rfl, ?_⟩
      refine ⟨_, rfl, p, _, _, _, rfl, rfl, SqL.of upd_same, atI_nat (j := 1) rfl, _, rfl, p, _, _, _, rfl, rfl, SqL.of upd_same, atI_nat (j := 1) rfl, _, _, rfl, rfl, mulx_ok (a := 32) (b := 32) (by omega) (by omega) (by decide), .inl ⟨_, rfl, _, _, rfl, rfl, (show (0 : Int) < 2147483563 by decide), _, _, rfl, rfl, ⟨by decide, by decide⟩, .inl ⟨_, rfl, _, rfl, _, _, rfl, rfl, m0, ?_⟩⟩⟩
      exact q _ _ but_upd ⟨_, _, upd_same, hx, z0, by omega⟩ (Int.emod_nonneg _ (by omega)) (Int.emod_lt_of_pos _ m0)
/-! ### _law_pick -/
def spPick : Sp := fun vs H Q _ => ∃ (p : Addr) (x : V), vs = [.ref p, x] ∧ PotAt H p ∧ ((∃ l xs, x = .ref l ∧ H l = some (.lst xs) ∧ xs ≠ [] ∧ xs.length ≤ 1000 ∧ l ≠ p ∧ ∀ H' v, But p H H' → PotAt H' p → v ∈ xs → Q v H') ∨
  ∃ z : Str, x = .str z ∧ 0 < z.length ∧ z.length ≤ 1000 ∧ ∀ H' c, But p H H' → PotAt H' p → c ∈ z.cps.toList → Q (.str ⟨#[c]⟩) H')
theorem ok_l_pick (T : Tx K mg CD CJ) (G_l_take : Fnc P w K mg base CX0 1 "_law_take" [] spTake) (F : FD K "_law_pick" "_law_pick" s_l_pick [] f fd) : FnG P w K mg base CX0 2 f fd ["_law_pot_here", "_law_some"] spPick := by
  refine ok0 F sc_l_pick (fun vs H Q E h => ?_) (fun cdv A outer s H vs Q E hr h => ?_)
  · obtain ⟨p, x, rfl, _⟩ := h
    rfl
  · obtain ⟨p, x, rfl, hp, h⟩ := h
    refine ⟨_, (pss_one (ps_ret (pe_ix ix_seq (pv 1) (pe_fn G_l_take (hr.mono (by decide)) pass0 (pa_cons (pv 0) (pa_cons (pe_callB call_len (by rfl) T.n_len (by decide +kernel) (pa_cons (pv 1) pa_nil)) pa_nil))) (fun _ _ => rfl)))), ?_⟩
    rcases h with ⟨l, xs, rfl, hl, hn, hz, hlp, q⟩ | ⟨z, rfl, h0, hz, q⟩
    · have h0 : 0 < xs.length := List.length_pos_iff.mpr hn
      refine ⟨_, rfl, _, rfl, _, rfl, _, xs.length, rfl, .inl ⟨xs, SqL.of hl, rfl⟩, p, xs.length, rfl, hp, by omega, by omega, fun H' d b hp' d0 d1 => ?_⟩
      obtain ⟨n, rfl⟩ := Int.eq_ofNat_of_zero_le d0
      have hn' : n < xs.length := by omega
      exact .inl ⟨l, xs, _, xs[n], rfl, rfl, SqL.of (b l _ hl hlp), atI_nat (List.getElem?_eq_getElem hn'), q H' _ b hp' (List.getElem_mem hn')⟩
    · refine ⟨_, rfl, _, rfl, _, rfl, _, z.length, rfl, ⟨small (by omega), rfl⟩, p, z.length, rfl, hp, by omega, by omega, fun H' d b hp' d0 d1 => ?_⟩
      obtain ⟨n, rfl⟩ := Int.eq_ofNat_of_zero_le d0
      have hn' : n < z.cps.toList.length := by
        have : z.cps.toList.length = z.length := rfl
        omega
      exact .inr (.inr ⟨z, _, z.cps.toList[n], rfl, rfl, small (by omega), atI_nat (List.getElem?_eq_getElem hn'), q H' _ b hp' (List.getElem_mem hn')⟩)

/-! ### _law_check, _law_row -/
theorem ok_l_check (T : Tx K mg CD CJ) (F : FD K "_law_check" "_law_check" s_l_check [] f fd) : FnG P w K mg base CX0 1 f fd ["_law_record_here"] spCk := by
  refine ok0 F sc_l_check (fun vs H Q E h => ?_) (fun cdv A outer s H vs Q E hr h => ?_)
  · obtain ⟨z, rfl, _⟩ := h
    rfl
  · obtain ⟨z, rfl, q⟩ := h
    refine ⟨_, (pss_cons (ps_set (i := 1) sc_l_check.nd rfl (by first | exact Or.inl rfl | exact Or.inr rfl) pe_int)
      (pss_cons (ps_for PassesOwn.never rfl (pi_str (pv 0)) (pg_name (i := 2) sc_l_check.nd rfl (by first | exact Or.inl rfl | exact Or.inr rfl)) (pss_one (ps_set (i := 1) sc_l_check.nd rfl (by first | exact Or.inl rfl | exact Or.inr rfl) (pe_op op_mod (pe_callTy call_int1 (by rfl) T.n_int (by decide +kernel) (pa_cons (pe_op op_add (pe_op op_mulX pe_int (pv 1)) (pe_callB call_ord (by rfl) T.n_ord (by decide +kernel) (pa_cons (pv 2) pa_nil))) pa_nil)) pe_int))))
      (pss_one (ps_ret (pv 1))))), ?_⟩
    refine ⟨_, rfl, z, rfl, ?_⟩
    refine for_it (walk_str (z := z)) (fun i σ H' => H' = H ∧ ∃ v, σ = [some (.str z), some (.int (chkF 7 ((tl z).take i) : Nat)), v]) ⟨rfl, none, rfl⟩ (fun _ _ _ _ _ => trivial) ?_ ?_
    · rintro i x σ H' H2 hi ⟨rfl, v, rfl⟩ ⟨rfl, c, hc, rfl⟩
      have hl := chkF_lt (c := 7) (by decide) ((tl z).take i)
      have hc' : (tl z)[i]? = some c := by rw [← Array.getElem?_toList] at hc; exact hc
      refine ⟨_, rfl, _, _, rfl, rfl, mulx_ok (a := 5) (b := 20) (by decide) (by omega) (by decide), _, rfl, _, rfl, rfl, _, _, rfl, rfl, .inl ⟨_, rfl, _, _, rfl, rfl, (show (0 : Int) < 1000003 by decide), ?_⟩⟩
      refine ⟨rfl, some (.str ⟨#[c]⟩), ?_⟩
      rw [List.take_add_one, hc', Option.toList_some, chk_snoc]
      rfl
    · rintro σ H' ⟨rfl, v, rfl⟩
      have e : (tl z).take z.cps.size = tl z := List.take_of_length_le (by show (z.cps.toList).length ≤ _; simp)
      rw [e]
      exact ⟨_, rfl, q⟩
def spRow : Sp := fun vs H Q _ => ∃ z : Str, vs = [.str z] ∧ z.length ≤ 50000 ∧ Q (.str (S (row (tl z)))) H
theorem ok_l_row (T : Tx K mg CD CJ) (G_l_check : Fnc P w K mg base CX0 1 "_law_check" [] spCk) (F : FD K "_law_row" "_law_row" s_l_row [] f fd) : FnG P w K mg base CX0 2 f fd ["_law_record_here"] spRow := by
  refine ok0 F sc_l_row (fun vs H Q E h => ?_) (fun cdv A outer s H vs Q E hr h => ?_)
  · obtain ⟨z, rfl, _⟩ := h
    rfl
  · obtain ⟨z, rfl, lz, q⟩ := h
    refine ⟨_, (pss_one (ps_ret (pe_op op_add_str (pe_op op_add_str (pe_op op_add_str (pe_op op_add_str (pe_op op_add_str (pe_callTy call_str_int (by rfl) T.n_str (by decide +kernel) (pa_cons (pe_callB call_len_str (by rfl) T.n_len (by decide +kernel) (pa_cons (pv 0) pa_nil)) pa_nil)) pe_str) (pe_callTy call_str_int (by rfl) T.n_str (by decide +kernel) (pa_cons (pe_fn G_l_check (hr.mono (by decide)) pass0 (pa_cons (pv 0) pa_nil)) pa_nil))) pe_str) (pv 0)) pe_str))), ?_⟩
    have h1 := chk_lt (tl z)
    have n1 : (Str.ofString (toString ((z.length : Nat) : Int))).length ≤ 9 := num_lenS (by omega)
    have n2 : (Str.ofString (toString ((chk (tl z) : Nat) : Int))).length ≤ 9 := num_lenS (by omega)
    have b1 : ((" " : Str)).length = 1 := rfl
    have b2 : (("\n" : Str)).length = 1 := rfl
    rw [← row_str] at q
    refine ⟨_, rfl, _, rfl, small (by omega), _, rfl, log_nat (by omega), _, _, rfl, rfl, small (by omega), _, rfl, z, rfl, _, rfl, log_nat (by omega), _, _, rfl, rfl, ?_, _, _, rfl, rfl, ?_, _, rfl, _, _, rfl, rfl, ?_, _, _, rfl, rfl, ?_, q⟩
    · rw [strLen_append]
      exact small (by omega)
    · rw [strLen_append, strLen_append]
      exact small (by omega)
    · rw [strLen_append, strLen_append, strLen_append]
      exact small (by omega)
    · rw [strLen_append, strLen_append, strLen_append, strLen_append]
      exact small (by omega)
/-! ### _law_record -/
theorem ok_l_record (T : Tx K mg CD CJ) (F : FD K "_law_record" "_law_record" s_l_record [] f fd) : FnG P w K mg base CX0 1 f fd ["_law_entry"] spErec := by
  refine ok0 F sc_l_record (fun vs H Q E h => ?_) (fun cdv A outer s H vs Q E hr h => ?_)
  · obtain ⟨v, l, e, n, rfl, _⟩ := h
    rfl
  · obtain ⟨v, l, e, n, rfl, he, ok, n8, q⟩ := h
    refine ⟨_, (pss_cons (ps_asg (pv 0) (pg_tup rfl (pgs_cons (pg_name (i := 1) sc_l_record.nd rfl (by first | exact Or.inl rfl | exact Or.inr rfl)) (pgs_cons (pg_name (i := 2) sc_l_record.nd rfl (by first | exact Or.inl rfl | exact Or.inr rfl)) (pgs_cons (pg_name (i := 3) sc_l_record.nd rfl (by first | exact Or.inl rfl | exact Or.inr rfl)) (pgs_cons (pg_name (i := 4) sc_l_record.nd rfl (by first | exact Or.inl rfl | exact Or.inr rfl)) pgs_nil))))))
      (pss_cons (ps_setLc (i := 5) (g := (gTup K 2 (gCons (gName 6) (gCons (gName 7) gNil)))) (own := [("_law_other", 6), ("_law_spot", 7)]) rfl sc_l_record.nd rfl rfl (sw_true rfl rfl rfl (by decide +kernel)) (pi_tup (pv 3)) (blkOk_by (own := [("_law_other", 6), ("_law_spot", 7)]) (N := n_l_record) (sc := defScope s_l_record) (by decide +kernel)) (fun _ _ _ _ _ => (pg_tup rfl (pgs_cons (pg_name (i := 6) sc_l_record.nd rfl (by first | exact Or.inl rfl | exact Or.inr rfl)) (pgs_cons (pg_name (i := 7) sc_l_record.nd rfl (by first | exact Or.inl rfl | exact Or.inr rfl)) pgs_nil)))) (fun _ _ _ _ _ => pts_nil) (fun _ _ _ _ _ => (pe_op op_add_str (pe_op op_add_str (pe_callTy call_str_int (by rfl) T.n_str (by decide +kernel) (pa_cons (pv 6) pa_nil)) pe_str) (pe_callTy call_str_int (by rfl) T.n_str (by decide +kernel) (pa_cons (pv 7) pa_nil)))))
      (pss_one (ps_ret (pe_op op_add_str (pe_op op_add_str (pe_op op_add_str (pe_op op_add_str (pe_callTy call_str_int (by rfl) T.n_str (by decide +kernel) (pa_cons (pv 2) pa_nil)) pe_str) (pe_ifExp (pt_cmpR (op_neD hr.r.units) (pv 5) (pe_lst pa_nil) (nomark _)) (pe_join pe_str (pv 5)) pe_str)) pe_str) (pv 4)))))), ?_⟩
    obtain ⟨t, qa, us, rfl, ht, hq, pr⟩ := he.ex
    refine ⟨_, rfl, t, _, rfl, SqT.of ht, rfl, _, _, rfl, _, _, rfl, _, _, rfl, _, _, rfl, rfl, ?_⟩
    refine ⟨_, rfl, qa, rfl, ⟨us, SqT.of hq⟩, fun D nD => ?_⟩
    have lu : us.length = e.prs.length := pr.len'
    refine lc_acc (walk_tup (K := K) (a := qa) (xs := us)) nD (fun j => ((e.prs.take j).map word).map V.str) rfl (fun j hj => ?_) (fun H' s' => SqT.of (s' _ _ hq)) ?_ ?_
    · have := ok.few
      rw [List.length_map, List.length_map, List.length_take]
      omega
    · rintro j x G G' hj s2 ⟨rfl, hx⟩ N S hN hS
      have hj' : j < e.prs.length := by omega
      obtain ⟨t2, rfl, ht2⟩ := pr.get hx (List.getElem?_eq_getElem hj')
      obtain ⟨a1, a2, a3⟩ := ok.ln e.prs[j] (List.getElem_mem hj')
      have wl := word_len (p := e.prs[j]) (by omega) a3
      refine ⟨t2, _, rfl, SqT.of (s2 _ _ ht2), rfl, _, _, rfl, _, _, rfl, rfl, rfl, ?_⟩
      have n1 : (num e.prs[j].1).length ≤ 1 := num_len (by decide) (by omega)
      have n2 : (num e.prs[j].2).length ≤ 2 := num_len (by decide) (by omega)
      refine ⟨_, rfl, _, rfl, log_small' (by omega), _, _, rfl, rfl, small (by show (num e.prs[j].1).length + 1 ≤ _; omega), _, rfl, _, rfl, log_small' (by omega), _, _, rfl, rfl, small (by rw [strLen_append]; show (num e.prs[j].1).length + 1 + (num e.prs[j].2).length ≤ _; omega), hN _ _ Same.rfl' ?_⟩
      rw [take_snoc (List.getElem?_eq_getElem hj'), List.map_append, List.map_append]
      rfl
    · intro G s2 h2
      rw [lu, List.take_length] at h2
      have l1 : (num e.pl).length ≤ 2 := num_len (by decide) (by have := ok.pl; omega)
      have l2 : (names e.prs).length ≤ 40 := by rw [TL.len_tl]; exact names_len n8 ok
      have l3 := ok.len
      have b1 : ((⟨#[32]⟩ : Str)).length = 1 := rfl
      refine ⟨_, rfl, _, rfl, log_small' (by have := ok.pl; omega), _, _, rfl, rfl, small (by show (num e.pl).length + 1 ≤ _; omega), ?_⟩
      have pn0 : Pn 1 (.list []) := fun d hd => by cases hd
      have pnw : Pn 1 (.list ((e.prs.map word).map PyData.str)) := fun d hd => by
        obtain ⟨x, hx, rfl⟩ := List.mem_map.mp hd
        obtain ⟨p, _, rfl⟩ := List.mem_map.mp hx
        exact word_ok p
      have dpw : Dp K G (.ref D) (.list ((e.prs.map word).map PyData.str)) := .lst (SqL.of h2) (dpa_map fun x _ => .str x)
      refine ⟨_, rfl, small (by show 0 ≤ 100000; decide), fun E nE => ne_pd (LL.Dp.same (same_upd nE) dpw) (.lst (SqL.of upd_same) .nil) pnw pn0 fun b hb => ?_⟩
      have s3 := same_upd (o := .lst []) nE
      have qq := q _ (s2.trans s3)
      have h3 := s3 _ _ h2
      unfold recd at qq
      by_cases h0 : e.prs = []
      · have en : names e.prs = ⟨#[45]⟩ := if_pos h0
        rw [en] at qq l2
        have b2 : ((⟨#[45]⟩ : Str)).length = 1 := rfl
        refine ⟨_, rfl, iteN (by rw [hb.mpr (by rw [h0]; rfl)]; rfl) ⟨_, _, rfl, rfl, small (by rw [strLen_append]; show (num e.pl).length + 1 + 1 ≤ _; omega), _, _, rfl, rfl, small (by rw [strLen_append, strLen_append]; show (num e.pl).length + 1 + 1 + 1 ≤ _; omega), _, rfl, _, _, rfl, rfl, small (by rw [strLen_append, strLen_append, strLen_append]; show (num e.pl).length + 1 + 1 + 1 + _ ≤ _; omega), qq⟩⟩
      · have en : names e.prs = Txt.join ⟨#[44]⟩ (e.prs.map word) := if_neg h0
        rw [en] at qq l2
        have sm := sum_len (f := fun x : Str => x.length) (m := 4) (l := e.prs.map word) fun x hx => by
          obtain ⟨p, hp, rfl⟩ := List.mem_map.mp hx
          obtain ⟨a1, a2, a3⟩ := ok.ln p hp
          rw [TL.len_tl]
          exact word_len (by omega) a3
        have fw := ok.few
        have l2' : (Txt.join (Str.ofString ",") (e.prs.map word)).length ≤ 40 := l2
        rw [List.length_map] at sm
        have hb0 : b = false := by
          cases b with
          | false => rfl
          | true =>
            have := PyData.list.inj (hb.mp rfl)
            rw [List.map_eq_nil_iff, List.map_eq_nil_iff] at this
            exact absurd this h0
        refine ⟨_, rfl, iteY (by rw [hb0]; rfl) ⟨⟨_, rfl⟩, _, rfl, _, D, _, rfl, rfl, .inl (SqL.of h3), ?_, ?_⟩⟩
        · rw [List.length_map]
          show _ + _ * 1 ≤ _
          omega
        · exact ⟨_, _, rfl, rfl, small (by rw [strLen_append]; show (num e.pl).length + 1 + _ ≤ _; omega), _, _, rfl, rfl, small (by rw [strLen_append, strLen_append]; show (num e.pl).length + 1 + _ + 1 ≤ _; omega), _, rfl, _, _, rfl, rfl, small (by rw [strLen_append, strLen_append, strLen_append]; show (num e.pl).length + 1 + _ + 1 + _ ≤ _; omega), qq⟩
end
end K77

set_option Elab.async false
set_option linter.all false
set_option maxRecDepth 100000
set_option maxHeartbeats 4000000
/-! L77b: the law's world. -/
namespace K77
open PySem PySem.Spec PyProof.Rows L2 LL K75 JN
abbrev s_l_world : Stmt := top 55
abbrev n_l_world : List Str := ["_law_lanes", "_law_cut", "_law_sure", "_law_rows", "_law_lane"]
theorem sc_l_world : FnScope n_l_world ["_law_lanes"] (defScope s_l_world) := ⟨rfl, rfl, rfl, by decide +kernel, rfl, by decide +kernel, by decide +kernel⟩
abbrev s_l_ends : Stmt := top 56
abbrev n_l_ends : List Str := ["_law_world_here", "_law_cut", "_law_rows"]
theorem sc_l_ends : FnScope n_l_ends ["_law_world_here"] (defScope s_l_ends) := ⟨rfl, rfl, rfl, by decide +kernel, rfl, by decide +kernel, by decide +kernel⟩
abbrev s_l_spots : Stmt := top 57
abbrev n_l_spots : List Str := ["_law_world_here", "_law_lane", "_law_found", "_law_other", "_law_end", "_law_spot"]
theorem sc_l_spots : FnScope n_l_spots ["_law_world_here", "_law_lane"] (defScope s_l_spots) := ⟨rfl, rfl, rfl, by decide +kernel, rfl, by decide +kernel, by decide +kernel⟩
abbrev s_l_kept_rows : Stmt := top 58
abbrev n_l_kept_rows : List Str := ["_law_rows", "_law_length", "_law_found", "_law_reached", "_law_entry"]
theorem sc_l_kept_rows : FnScope n_l_kept_rows ["_law_rows", "_law_length"] (defScope s_l_kept_rows) := ⟨rfl, rfl, rfl, by decide +kernel, rfl, by decide +kernel, by decide +kernel⟩
abbrev s_l_stopped : Stmt := top 59
abbrev n_l_stopped : List Str := ["_law_world_here", "_law_lengths_here", "_law_rows", "_law_some", "_law_length", "_law_texts", "_law_text"]
theorem sc_l_stopped : FnScope n_l_stopped ["_law_world_here", "_law_lengths_here"] (defScope s_l_stopped) := ⟨rfl, rfl, rfl, by decide +kernel, rfl, by decide +kernel, by decide +kernel⟩
/-- where the law's lists stand -/
structure Wa where
  c : Addr
  r : Addr
  t : Addr
  s : Addr
  rl : List Addr
def wkv (A : Wa) : List (Key × V) := [(Sum.inr "cut", .ref A.c), (Sum.inr "rows", .ref A.r), (Sum.inr "texts", .ref A.t), (Sum.inr "sure", .ref A.s)]
abbrev tL (J : Jr) : List V := (List.range J.n).map fun l => V.str (S (J.txt l))
def Wa.all (A : Wa) : List Addr := A.c :: A.r :: A.t :: A.s :: A.rl
/-- the law's world at W -/
structure WAt (H : Hp) (W : Addr) (A : Wa) (J : Jr) : Prop where
  d : H W = some (.dK (wkv A))
  c : H A.c = some (.lst (nL J.cut J.n))
  r : H A.r = some (.lst (A.rl.map V.ref))
  t : H A.t = some (.lst (tL J))
  s : H A.s = some (.lst (nL J.sure J.n))
  len : A.rl.length = J.n
  es : ∀ (l : Nat) q, A.rl[l]? = some q → EsAt H q l (J.es l)
  nd : A.all.Nodup
section
variable {P : Program} {w : World} {K : PySem.W.Frag} {mg : Str → Option Value} {base : Heap} {CD CJ : Addr} {f : Addr} {fd : FuncData}
theorem WAt.same {H H' : Hp} {W : Addr} {A : Wa} {J : Jr} (h : WAt H W A J) (s : Same H H') : WAt H' W A J := ⟨s _ _ h.d, s _ _ h.c, s _ _ h.r, s _ _ h.t, s _ _ h.s, h.len, fun l q e => (h.es l q e).same s, h.nd⟩
theorem vneg {k j : Key} {v : V} {r : List (Key × V)} (h : ¬ j = k) : valV ((j, v) :: r) k = valV r k := by
  unfold valV
  rw [List.find?_cons_of_neg (by simpa using h)]
theorem vpos {k : Key} {v : V} {r : List (Key × V)} : valV ((k, v) :: r) k = some v := by
  unfold valV
  rw [List.find?_cons_of_pos (by simp)]
  rfl
theorem wd_c {A : Wa} : valV (wkv A) (Sum.inr "cut") = some (.ref A.c) := vpos
theorem wd_r {A : Wa} : valV (wkv A) (Sum.inr "rows") = some (.ref A.r) := by unfold wkv; rw [vneg (by decide +kernel), vpos]
theorem wd_t {A : Wa} : valV (wkv A) (Sum.inr "texts") = some (.ref A.t) := by unfold wkv; rw [vneg (by decide +kernel), vneg (by decide +kernel), vpos]
theorem wd_s {A : Wa} : valV (wkv A) (Sum.inr "sure") = some (.ref A.s) := by unfold wkv; rw [vneg (by decide +kernel), vneg (by decide +kernel), vneg (by decide +kernel), vpos]
theorem WAt.gc {H : Hp} {W : Addr} {A : Wa} {J : Jr} (h : WAt H W A J) : DGet H W (.str "cut") (some (.ref A.c)) := by
  have := DGet.k (k := Sum.inr "cut") h.d
  rw [wd_c] at this
  exact this
theorem WAt.gr {H : Hp} {W : Addr} {A : Wa} {J : Jr} (h : WAt H W A J) : DGet H W (.str "rows") (some (.ref A.r)) := by
  have := DGet.k (k := Sum.inr "rows") h.d
  rw [wd_r] at this
  exact this
theorem WAt.gt {H : Hp} {W : Addr} {A : Wa} {J : Jr} (h : WAt H W A J) : DGet H W (.str "texts") (some (.ref A.t)) := by
  have := DGet.k (k := Sum.inr "texts") h.d
  rw [wd_t] at this
  exact this
theorem WAt.gs {H : Hp} {W : Addr} {A : Wa} {J : Jr} (h : WAt H W A J) : DGet H W (.str "sure") (some (.ref A.s)) := by
  have := DGet.k (k := Sum.inr "sure") h.d
  rw [wd_s] at this
  exact this
theorem valV_none {k : Key} {kvs : List (Key × V)} (h : k ∉ kvs.map (·.1)) : valV kvs k = none := by
  unfold valV
  rw [List.find?_eq_none.mpr fun x hx => by
    simp only [decide_eq_true_eq]
    exact fun e => h (List.mem_map.mpr ⟨x, hx, e⟩)]
  rfl
theorem merge_nd : ∀ (more kvs : List (Key × V)), (kvs.map (·.1) ++ more.map (·.1)).Nodup → mergeK kvs more = kvs ++ more
  | [], kvs, _ => (List.append_nil _).symm
  | p :: r, kvs, h => by
    have hp : p.1 ∉ kvs.map (·.1) := fun z => (List.nodup_append.mp h).2.2 _ z _ (List.mem_map.mpr ⟨p, List.mem_cons_self .., rfl⟩) rfl
    show mergeK (putK kvs p.1 p.2) r = _
    rw [putK_new _ (valV_none hp), merge_nd r (kvs ++ [p]) (by rw [List.map_append, List.append_assoc]; exact h), List.append_assoc]
    rfl
theorem mergeW (A : Wa) : mergeK [] (wkv A) = wkv A := by
  rw [merge_nd]
  · rfl
  · show ([Sum.inr "cut", Sum.inr "rows", Sum.inr "texts", Sum.inr "sure"] : List Key).Nodup
    decide +kernel
/-! ### _law_kept_rows -/
def spKept : Sp := fun vs H Q _ => ∃ (a : Addr) (l : Nat) (es : List En) (n k : Nat), vs = [.ref a, .int k] ∧ EsAt H a l es ∧ (∀ e ∈ es, OkE n l e) ∧ n ≤ 8 ∧ es.length ≤ 64 ∧ ∀ H' b us, Same H H' → newH H H' b = some (.lst us) → EsV H' us l (kept es k) → Q (.ref b) H'
theorem ok_l_kept_rows (T : Tx K mg CD CJ) (G_l_row : Fnc P w K mg base CX0 2 "_law_row" [] spRow) (G_l_record : Fnc P w K mg base CX0 1 "_law_record" [] spErec) (F : FD K "_law_kept_rows" "_law_kept_rows" s_l_kept_rows [] f fd) : FnG P w K mg base CX0 3 f fd ["_law_rows", "_law_length"] spKept := by
  refine ok0 F sc_l_kept_rows (fun vs H Q E h => ?_) (fun cdv A outer s H vs Q E hr h => ?_)
  · obtain ⟨a, l, es, n, k, rfl, _⟩ := h
    rfl
  · obtain ⟨a, l, es, n, k, rfl, ⟨vs, ha, ev⟩, ok, n8, le, q⟩ := h
    refine ⟨_, (pss_cons (ps_par (i := 2) (j := 3) rfl sc_l_kept_rows.nd rfl rfl (by decide) rfl rfl (pa_cons (pe_lst pa_nil) (pa_cons pe_int pa_nil)) (by rfl))
      (pss_cons (ps_for PassesOwn.never rfl (pi_list (pv 0)) (pg_name (i := 4) sc_l_kept_rows.nd rfl (by first | exact Or.inl rfl | exact Or.inr rfl)) (pss_cons (ps_set (i := 3) sc_l_kept_rows.nd rfl (by first | exact Or.inl rfl | exact Or.inr rfl) (pe_op op_add (pv 3) (pe_callB call_len_str (by rfl) T.n_len (by decide +kernel) (pa_cons (pe_fn G_l_row (hr.mono (by decide)) pass0 (pa_cons (pe_fn G_l_record (hr.mono (by decide)) pass0 (pa_cons (pv 4) pa_nil)) pa_nil)) pa_nil))))
      (pss_one (ps_if (pt_cmpR op_le (pv 3) (pv 1) (nomark _)) (pss_one (ps_expr (pe_bm PySem.F.plainAttrs_list PySem.F.slot_list_append PySem.F.type_list_append mt_append (pv 2) (pa_cons (pv 4) pa_nil)))) pss_nil))))
      (pss_one (ps_ret (pv 2))))), ?_⟩
    refine ⟨small (by show 0 ≤ 100000; decide), fun D nD => ⟨_, _, rfl, ?_⟩⟩
    have s1 := same_upd (o := .lst []) nD
    refine ⟨_, rfl, a, rfl, ⟨_, SqL.of (s1 _ _ ha)⟩, ?_⟩
    have h10 : upd H D (.lst []) D = some (.lst []) := upd_same
    refine for_it (walk_list (K := K) (a := a) (xs := vs)) (fun i σ G => Same H G ∧ (∃ us, G D = some (.lst us) ∧ EsV H us l (kept (es.take i) k)) ∧ ∃ v, σ = [some (.ref a), some (.int k), some (.ref D), some (.int ((rowsL (es.take i)).length : Nat)), v]) ⟨s1, ⟨[], h10, EsV.nil⟩, none, rfl⟩ (fun i σ G _ z => SqL.of (z.1 _ _ ha)) ?_ ?_
    · rintro i x σ G G' hi ⟨s2, ⟨us, hD, eu⟩, v, rfl⟩ ⟨rfl, hx⟩
      have lv := ev.len
      have hi' : i < es.length := by omega
      have he := List.getElem?_eq_getElem hi'
      have en := ev.at_ i x _ hx he
      have oe := ok _ (List.getElem_mem hi')
      generalize es[i] = e at *
      have rl : (S (row (tl (recd e)))).length = (rowL e).length := TL.len_tl _
      have rl2 := row_len n8 oe
      have rc := recd_len n8 oe
      refine ⟨_, rfl, _, rfl, x, l, e, n, rfl, en.same s2, oe, n8, fun G2 s3 => ⟨_, rfl, (by rw [TL.len_tl]; exact Nat.le_trans rc (by decide)), _, rfl, small (by omega), _, _, rfl, rfl, ?_⟩⟩
      have s23 := s2.trans s3
      have hD3 := s3 _ _ hD
      have lu : us.length ≤ 64 := by
        have h1 := kept_len (es.take i) k
        have := eu.len
        rw [List.length_take] at h1
        omega
      have es1 : (((rowsL (es.take i)).length : Nat) : Int) + (((S (row (tl (recd e)))).length : Nat) : Int) = (((rowsL (es.take (i + 1))).length : Nat) : Int) := by
        rw [take_snoc he, rows_snoc, List.length_append, rl]
        omega
      dsimp only
      rw [es1]
      have ek := kept_snoc e (es.take i) k
      rw [← take_snoc he] at ek
      have el : (rowsL (es.take i)).length + (rowL e).length = (rowsL (es.take (i + 1))).length := by rw [take_snoc he, rows_snoc, List.length_append]
      rw [el] at ek
      refine ⟨_, rfl, _, rfl, _, _, rfl, rfl, _, rfl, iteB (fun c => ?_) (fun c => ?_)⟩
      · have c' := of_decide_eq_true c
        refine ⟨_, rfl, .inl ⟨rfl, _, SqL.of hD3⟩, _, rfl, D, us, _, rfl, rfl, hD3, Nat.lt_of_lt_of_le (show us.length < 100 by omega) (small (by decide)), own_same s23 nD, ⟨_, upd_same, ?_⟩, _, rfl⟩
        rw [ek, if_pos (by omega)]
        exact eu.snoc en
      · have c' := of_decide_eq_false c
        refine ⟨s23, ⟨us, hD3, ?_⟩, _, rfl⟩
        rw [ek, if_neg (by omega), List.append_nil]
        exact eu
    · rintro σ G ⟨s2, ⟨us, hD, eu⟩, v, rfl⟩
      rw [ev.len, List.take_length] at eu
      exact ⟨_, rfl, q _ D us s2 (by rw [newH_at nD]; exact hD) (eu.same s2)⟩
def spEnds : Sp := fun vs H Q _ => ∃ (W : Addr) (A : Wa) (J : Jr), vs = [.ref W] ∧ WAt H W A J ∧ OkJ J ∧ ∀ H' b, Same H H' → newH H H' b = some (.lst (nL J.ends J.n)) → Q (.ref b) H'
theorem ok_l_ends (T : Tx K mg CD CJ) (F : FD K "_law_ends" "_law_ends" s_l_ends [] f fd) : FnG P w K mg base CX0 1 f fd ["_law_world_here"] spEnds := by
  refine ok0 F sc_l_ends (fun vs H Q E h => ?_) (fun cdv A outer s H vs Q E hr h => ?_)
  · obtain ⟨W, A, J, rfl, _⟩ := h
    rfl
  · obtain ⟨W, A, J, rfl, wa, O, q⟩ := h
    refine ⟨_, (pss_one (ps_ret (pe_lc (g := (gTup K 2 (gCons (gName 1) (gCons (gName 2) gNil)))) (own := [("_law_cut", 1), ("_law_rows", 2)]) rfl sc_l_ends.nd (pi_zip (by rfl) T.n_zip (pa_cons (pe_dget (un1 hr.r.units) (pv 0) pe_str (fun _ _ => rfl)) (pa_cons (pe_dget (un1 hr.r.units) (pv 0) pe_str (fun _ _ => rfl)) pa_nil))) (blkOk_by (own := [("_law_cut", 1), ("_law_rows", 2)]) (N := n_l_ends) (sc := defScope s_l_ends) (by decide +kernel)) (fun _ _ _ _ _ => (pg_tup rfl (pgs_cons (pg_name (i := 1) sc_l_ends.nd rfl (by first | exact Or.inl rfl | exact Or.inr rfl)) (pgs_cons (pg_name (i := 2) sc_l_ends.nd rfl (by first | exact Or.inl rfl | exact Or.inr rfl)) pgs_nil)))) (fun _ _ _ _ _ => pts_nil) (fun _ _ _ _ _ => (pe_op op_add (pv 1) (pe_callB (call_len_seqK (K := K) (by rfl)) (by rfl) T.n_len (by decide +kernel) (pa_cons (pv 2) pa_nil))))))), ?_⟩
    have o8 := O.n8
    have lr := wa.len
    refine ⟨_, rfl, W, _, rfl, wa.gc, _, rfl, W, _, rfl, wa.gr, A.c, A.r, _, _, rfl, SqL.of wa.c, SqL.of wa.r, fun D nD => ?_⟩
    refine lc_acc (walk_zip (K := K) (a := A.c) (b := A.r) (xs := nL J.cut J.n) (ys := A.rl.map V.ref) (n := J.n) (by rw [nL_len, List.length_map, lr, Nat.min_self])) nD (fun j => (nL J.ends J.n).take j) rfl (fun j hj => ?_) (fun G s' => ⟨SqL.of (s' _ _ wa.c), SqL.of (s' _ _ wa.r)⟩) ?_ ?_
    · rw [List.length_take, nL_len]
      omega
    · rintro i x G2 G3 hi s5 ⟨t, y, zz, rfl, nt, rfl, hy, hz⟩ N S' hN hS
      have hy' : V.int (J.cut i) = y := Option.some.inj ((nL_get hi).symm.trans hy)
      subst hy'
      obtain ⟨qi, hqi, rfl⟩ := ref_get hz
      obtain ⟨vi, hvi, evi⟩ := wa.es i qi hqi
      obtain ⟨G4, e4, s6, ht6⟩ := mkO nt (.tup [.int (J.cut i), .ref qi])
      rw [e4]
      refine ⟨t, _, rfl, SqT.of ht6, rfl, _, _, rfl, _, _, rfl, rfl, rfl, ?_⟩
      refine ⟨_, rfl, _, rfl, qi, vi, rfl, .inl (SqL.of ((s5.trans s6) _ _ hvi)), _, _, rfl, rfl, hN _ _ s6 ?_⟩
      rw [take_snoc (nL_get hi), evi.len]
      rfl
    · intro H5 s5 h5
      rw [List.take_of_length_le (by rw [nL_len]; exact Nat.le_refl _)] at h5
      exact q _ D s5 (by rw [newH_at nD]; exact h5)
def spSpots : Sp := fun vs H Q _ => ∃ (W : Addr) (A : Wa) (J : Jr) (l : Nat), vs = [.ref W, .int l] ∧ WAt H W A J ∧ OkJ J ∧ ∀ H' b us ps, Same H H' → newH H H' b = some (.lst us) → PrN (newH H H') us ps → ps.length ≤ 600 → (∀ x ∈ ps, x.1 < J.n ∧ x.1 ≠ l ∧ x.2 < J.ends x.1) → Q (.ref b) H'
theorem ok_l_spots (T : Tx K mg CD CJ) (G_l_ends : Fnc P w K mg base CX0 1 "_law_ends" [] spEnds) (F : FD K "_law_spots" "_law_spots" s_l_spots [] f fd) : FnG P w K mg base CX0 2 f fd ["_law_world_here", "_law_lane"] spSpots := by
  refine ok0 F sc_l_spots (fun vs H Q E h => ?_) (fun cdv A outer s H vs Q E hr h => ?_)
  · obtain ⟨W, A, J, l, rfl, _⟩ := h
    rfl
  · obtain ⟨W, A, J, l, rfl, wa, O, q⟩ := h
    refine ⟨_, (pss_cons (ps_set (i := 2) sc_l_spots.nd rfl (by first | exact Or.inl rfl | exact Or.inr rfl) (pe_lst pa_nil))
      (pss_cons (ps_for PassesOwn.never rfl (pi_enumA (by rfl) T.n_enumerate (pa_cons (pe_fn G_l_ends (hr.mono (by decide)) pass0 (pa_cons (pv 0) pa_nil)) pa_nil)) (pg_tup rfl (pgs_cons (pg_name (i := 3) sc_l_spots.nd rfl (by first | exact Or.inl rfl | exact Or.inr rfl)) (pgs_cons (pg_name (i := 4) sc_l_spots.nd rfl (by first | exact Or.inl rfl | exact Or.inr rfl)) pgs_nil))) (pss_one (ps_if (pt_cmpR op_ne (pv 3) (pv 1) (nomark _)) (pss_one (ps_expr (pe_bm PySem.F.plainAttrs_list PySem.F.slot_list_extend PySem.F.type_list_extend mt_extend (pv 2) (pa_cons (pe_lc (own := [("_law_spot", 5)]) rfl sc_l_spots.nd (pi_range1 (by rfl) T.n_range (pa_cons (pv 4) pa_nil)) (blkOk_by (own := [("_law_spot", 5)]) (N := n_l_spots) (sc := defScope s_l_spots) (by decide +kernel)) (fun _ _ _ _ _ => (pg_name (i := 5) sc_l_spots.nd rfl (by first | exact Or.inl rfl | exact Or.inr rfl))) (fun _ _ _ _ _ => pts_nil) (fun _ _ _ _ _ => (pe_tup (pa_cons (pv 3) (pa_cons (pv 5) pa_nil))))) pa_nil)))) pss_nil)))
      (pss_one (ps_ret (pv 2))))), ?_⟩
    refine ⟨small (by show 0 ≤ 100000; decide), fun D nD => ?_⟩
    have s1 := same_upd (o := .lst []) nD
    refine ⟨_, rfl, W, A, J, rfl, wa.same s1, O, fun H2 b s2 hb => ?_⟩
    obtain ⟨nb, hb2⟩ := newH_some hb
    have nbD : b ≠ D := fun c => by rw [c, upd_same] at nb; cases nb
    rw [upd_ne nbD] at nb
    have hD2 := s2 _ _ (upd_same (H := H) (a := D) (o := .lst []))
    have s02 := s1.trans s2
    have o8 := O.n8
    refine ⟨true, b, _, rfl, SqL.of hb2, ?_⟩
    refine for_it (walk_enumK (K := K) (k := true) (a := b) (xs := nL J.ends J.n)) (fun i σ G => Same H G ∧ G b = some (.lst (nL J.ends J.n)) ∧ (∃ us ps, G D = some (.lst us) ∧ PrN (fillH H D G) us ps ∧ ps.length ≤ 64 * i ∧ ∀ x ∈ ps, x.1 < J.n ∧ x.1 ≠ l ∧ x.2 < J.ends x.1) ∧ ∃ u v x, σ = [some (.ref W), some (.int l), some (.ref D), u, v, x]) ⟨s02, hb2, ⟨[], [], hD2, PrN.nil, Nat.zero_le _, fun x hx => by cases hx⟩, none, none, none, rfl⟩ (fun i σ G _ z => SqL.of z.2.1) ?_ ?_
    · rintro i x σ G2 G3 hi ⟨s3, hb3, ⟨us, ps, hD3, pr, lp, okp⟩, u, v, x5, rfl⟩ ⟨t, y, zz, rfl, nt, rfl, hy, hz⟩
      rw [nL_len] at hi
      cases hy
      have hz' : V.int (J.ends i) = zz := Option.some.inj ((nL_get hi).symm.trans hz)
      subst hz'
      obtain ⟨G4, e4, s4, ht4⟩ := mkO nt (.tup [.int (i : Nat), .int (J.ends i)])
      rw [e4]
      have s34 := s3.trans s4
      have hD4 := s4 _ _ hD3
      have ei := O.ends i hi
      have lu : us.length = ps.length := pr.len'
      refine ⟨t, _, rfl, SqT.of ht4, rfl, _, _, rfl, _, _, rfl, rfl, ?_⟩
      refine ⟨_, rfl, _, rfl, rfl, _, rfl, iteB (fun c => ?_) (fun c => ?_)⟩
      · have hil : i ≠ l := fun e => by rw [e] at c; simp at c
        refine ⟨_, rfl, .inl ⟨rfl, us, SqL.of hD4⟩, _, rfl, J.ends i, rfl, by omega, by omega, fun D2 nD2 => ?_⟩
        refine lc_inv (walk_range (lo := 0) (n := J.ends i)) (fun j acc G => Same G4 G ∧ PrN (fillH G4 D2 G) acc ((List.range j).map fun s => (i, s))) (fun j acc G xs z => by rw [fill_upd]; exact ⟨own_same z.1 nD2, z.2⟩) ⟨Same.rfl', PrN.nil⟩ (fun j acc G hj z => ?_) (fun _ _ _ _ _ => trivial) ?_ ?_
        · have := z.2.len'
          rw [List.length_map, List.length_range] at this
          exact Nat.lt_of_lt_of_le (show acc.length < 100 by omega) (small (by decide))
        · rintro j x acc G5 G6 hj ⟨s5, pr5⟩ hD5 ⟨rfl, hx⟩ N S hN hS
          cases hx
          refine ⟨rfl, _, rfl, _, rfl, small (by show 2 ≤ 100000; decide), fun T1 nT => hN _ _ (same_upd nT _ _ hD5) ⟨s5.trans (same_upd nT), ?_⟩⟩
          have e2 : (List.range (j + 1)).map (fun s => (i, s)) = (List.range j).map (fun s => (i, s)) ++ [(i, j)] := by rw [List.range_succ, List.map_append]; rfl
          rw [e2]
          have nTD : T1 ≠ D2 := fun c => by rw [c, hD5] at nT; cases nT
          refine PrN.snoc (pr5.same (fill_same (same_upd nT))) ?_
          rw [fill_at nTD (s5.free nT), upd_same]
          show some (HO.tup [V.int (i : Nat), V.int (0 + (j : Nat))]) = _
          rw [Int.zero_add]
        · rintro acc G5 hD5 ⟨s5, pr5⟩
          have s05 := s34.trans s5
          have hD6 := s5 _ _ hD4
          have la : acc.length = J.ends i := by rw [pr5.len', List.length_map, List.length_range]
          refine ⟨D, D2, us, acc, rfl, rfl, hD6, hD5, small (by omega), own_same s05 nD, ?_, ⟨_, ps ++ (List.range (J.ends i)).map fun s => (i, s), upd_same, ?_, ?_, fun y hy => ?_⟩, _, _, _, rfl⟩
          · rw [upd_ne nbD]
            exact s5 _ _ (s4 _ _ hb3)
          · rw [fill_upd]
            exact PrN.app (pr.same (fill_same (s4.trans s5))) ((pr5.same (fill_new nD2)).same (fill_of s34 hD4))
          · rw [List.length_append, List.length_map, List.length_range]
            omega
          · rcases List.mem_append.mp hy with hy | hy
            · exact okp y hy
            · obtain ⟨s, hs, rfl⟩ := List.mem_map.mp hy
              exact ⟨hi, hil, List.mem_range.mp hs⟩
      · exact ⟨s34, s4 _ _ hb3, ⟨us, ps, hD4, pr.same (fill_same s4), by omega, okp⟩, _, _, _, rfl⟩
    · rintro σ G ⟨s3, _, ⟨us, ps, hD3, pr, lp, okp⟩, u, v, x5, rfl⟩
      rw [nL_len] at lp
      exact ⟨_, rfl, q _ D us ps s3 (by rw [newH_at nD]; exact hD3) (pr.same (fill_new nD)) (by omega) okp⟩
def spWorld : Sp := fun vs H Q _ => ∃ n : Nat, vs = [.int n] ∧ 1 ≤ n ∧ n ≤ 8 ∧ ∀ H' W A, Same H H' → WAt (newH H H') W A (newJ n) → Q (.ref W) H'
theorem ok_l_world (T : Tx K mg CD CJ) (F : FD K "_law_world" "_law_world" s_l_world [] f fd) : FnG P w K mg base CX0 1 f fd ["_law_lanes"] spWorld := by
  refine ok0 F sc_l_world (fun vs H Q E h => ?_) (fun cdv A outer s H vs Q E hr h => ?_)
  · obtain ⟨n, rfl, _⟩ := h
    rfl
  · obtain ⟨n, rfl, n1, n8, q⟩ := h
    refine ⟨_, (pss_cons (ps_par3 (i := 1) (j := 2) (l := 3) rfl sc_l_world.nd rfl rfl rfl (by decide) (by decide) (by decide) rfl rfl rfl (pa_cons (pe_op op_rep (pe_lst (pa_cons pe_int pa_nil)) (pv 0)) (pa_cons (pe_op op_rep (pe_lst (pa_cons pe_int pa_nil)) (pv 0)) (pa_cons (pe_lc (own := [("_law_lane", 4)]) rfl sc_l_world.nd (pi_range1 (by rfl) T.n_range (pa_cons (pv 0) pa_nil)) (blkOk_by (own := [("_law_lane", 4)]) (N := n_l_world) (sc := defScope s_l_world) (by decide +kernel)) (fun _ _ _ _ _ => (pg_name (i := 4) sc_l_world.nd rfl (by first | exact Or.inl rfl | exact Or.inr rfl))) (fun _ _ _ _ _ => pts_nil) (fun _ _ _ _ _ => (pe_lst pa_nil))) pa_nil))) (by rfl))
      (pss_one (ps_ret (pe_disp (pps_cons pe_str (pv 1) (pps_cons pe_str (pv 3) (pps_cons pe_str (pe_op op_rep (pe_lst (pa_cons pe_str pa_nil)) (pv 0)) (pps_cons pe_str (pv 2) pps_nil)))) rfl rfl (fun z => by cases z) (by decide))))), ?_⟩
    have e0 : (List.replicate (n : Int).toNat [V.int 0]).flatten = nL (fun _ => 0) n := rep_nL n 0
    refine ⟨small (by show 1 ≤ 100000; decide), fun a0 n0 => ?_⟩
    obtain ⟨G1, e1, s1, h1⟩ := mkO n0 (.lst [.int 0])
    rw [e1]
    refine ⟨_, rfl, a0, n, [.int 0], rfl, rfl, h1, by omega, by omega, small (by show 1 * n ≤ _; omega), fun c nc => ?_⟩
    rw [e0]
    obtain ⟨G2, e2, s2, h2⟩ := mkO nc (.lst (nL (fun _ => 0) n))
    rw [e2]
    refine ⟨small (by show 1 ≤ 100000; decide), fun a1 n1' => ?_⟩
    obtain ⟨G3, e3, s3, h3⟩ := mkO n1' (.lst [.int 0])
    rw [e3]
    refine ⟨_, rfl, a1, n, [.int 0], rfl, rfl, h3, by omega, by omega, small (by show 1 * n ≤ _; omega), fun s0 ns => ?_⟩
    rw [e0]
    obtain ⟨G4, e4, s4, h4⟩ := mkO ns (.lst (nL (fun _ => 0) n))
    rw [e4]
    refine ⟨_, rfl, n, rfl, by omega, by omega, fun R nR => ?_⟩
    refine lc_inv (walk_range (lo := 0) (n := n)) (fun j acc G => Same G4 G ∧ ∃ rl : List Addr, acc = rl.map V.ref ∧ rl.length = j ∧ rl.Nodup ∧ ∀ q ∈ rl, fillH G4 R G q = some (.lst [])) (fun j acc G xs z => by rw [fill_upd]; exact ⟨own_same z.1 nR, z.2⟩) ⟨Same.rfl', [], rfl, rfl, List.nodup_nil, fun q hq => by cases hq⟩ (fun j acc G hj z => ?_) (fun _ _ _ _ _ => trivial) ?_ ?_
    · obtain ⟨_, rl, rfl, lr, _⟩ := z
      rw [List.length_map, lr]
      exact Nat.lt_of_lt_of_le (show j < 100 by omega) (small (by decide))
    · rintro j x acc G5 G6 hj ⟨s5, rl, rfl, lr, nd, hr⟩ hD5 ⟨rfl, hx⟩ N S hN hS
      refine ⟨rfl, small (by show 0 ≤ 100000; decide), fun q1 nq => hN _ _ (same_upd nq _ _ hD5) ⟨s5.trans (same_upd nq), rl ++ [q1], by rw [List.map_append]; rfl, by rw [List.length_append, lr]; rfl, ?_, fun q2 hq => ?_⟩⟩
      · rw [List.nodup_append]
        refine ⟨nd, by simp, fun a ha b hb => ?_⟩
        cases List.mem_singleton.mp hb
        rintro rfl
        rw [newH_le _ _ (hr a ha)] at nq
        cases nq
      · rcases List.mem_append.mp hq with hq | hq
        · exact fill_same (same_upd nq) _ _ (hr q2 hq)
        · cases List.mem_singleton.mp hq
          rw [fill_at (fun c => by rw [c, hD5] at nq; cases nq) (s5.free nq), upd_same]
    · rintro acc G5 hR ⟨s5, rl, rfl, lr, nd, hr⟩
      refine ⟨_, _, _, rfl, fun p np => ?_⟩
      obtain ⟨G6, e6, s6, h6⟩ := mkO np (.dK [])
      rw [e6]
      refine ⟨_, rfl, _, rfl, small (by show 1 ≤ 100000; decide), fun a2 n2 => ?_⟩
      obtain ⟨G7, e7, s7, h7⟩ := mkO n2 (.lst [.str ""])
      rw [e7]
      refine ⟨_, rfl, a2, n, [.str ""], rfl, rfl, h7, by omega, by omega, small (by show 1 * n ≤ _; omega), fun t nt => ?_⟩
      have et : (List.replicate (n : Int).toNat [V.str ""]).flatten = tL (newJ n) := by
        rw [List.flatten_replicate_singleton]
        refine List.ext_getElem? fun i => ?_
        by_cases h : i < n
        · rw [map_get (show i < (newJ n).n from h), List.getElem?_replicate_of_lt (by omega)]
          rfl
        · rw [List.getElem?_eq_none (by rw [List.length_replicate]; omega), List.getElem?_eq_none (by rw [List.length_map, List.length_range]; show n ≤ i; omega)]
      rw [et]
      obtain ⟨G8, e8, s8, h8⟩ := mkO nt (.lst (tL (newJ n)))
      rw [e8]
      have s78 := s7.trans s8
      refine ⟨_, rfl, s78 _ _ h6, wkv ⟨c, R, t, s0, rl⟩, rfl, by show 4 ≤ 15; decide, ?_⟩
      rw [mergeW]
      have s05 := (((s1.trans s2).trans s3).trans s4).trans s5
      have s68 := s6.trans s78
      have s08 := s05.trans s68
      have np0 := s05.free np
      have nt0 := ((s05.trans s6).trans s7).free nt
      have nR0 := (((s1.trans s2).trans s3).trans s4).free nR
      have nc0 := s1.free nc
      have ns0 := ((s1.trans s2).trans s3).free ns
      have hc5 := s5 _ _ (s4 _ _ (s3 _ _ h2))
      have hs5 := s5 _ _ h4
      have hr5 : ∀ q ∈ rl, G5 q = some (.lst []) ∧ G4 q = none ∧ q ≠ R := fun q hq => by
        obtain ⟨x1, x2⟩ := newH_some (hr q hq)
        have ne : q ≠ R := fun c => by rw [c, upd_same] at x1; cases x1
        rw [upd_ne ne] at x1
        exact ⟨x2, x1, ne⟩
      have pne : ∀ {b : Addr} {o : HO}, G5 b = some o → b ≠ p := fun e c => by rw [c, np] at e; cases e
      have keep : ∀ {b : Addr} {o : HO}, G5 b = some o → upd G8 p (.dK (wkv ⟨c, R, t, s0, rl⟩)) b = some o := fun e => by
        rw [upd_ne (pne e)]
        exact s68 _ _ e
      have tne : t ≠ p := fun c => by rw [c, s7 _ _ h6] at nt; cases nt
      have t5 : G5 t = none := (s6.trans s7).free nt
      refine q _ p ⟨c, R, t, s0, rl⟩ (fun b o e => keep (s05 _ _ e)) ⟨by rw [newH_at np0, upd_same], by rw [newH_at nc0]; exact keep hc5, by rw [newH_at nR0]; exact keep hR, by rw [newH_at nt0, upd_ne tne]; exact h8, by rw [newH_at ns0]; exact keep hs5, lr, fun l q1 e => ⟨[], ?_, EsV.nil⟩, ?_⟩
      · obtain ⟨x1, x2, _⟩ := hr5 q1 (List.mem_of_getElem? e)
        rw [newH_at ((((s1.trans s2).trans s3).trans s4).free x2)]
        exact keep x1
      · have cR : c ≠ R := fun e => by rw [← e, s4 _ _ (s3 _ _ h2)] at nR; cases nR
        have ct : c ≠ t := fun e => by rw [← e, hc5] at t5; cases t5
        have cs : c ≠ s0 := fun e => by rw [← e, s3 _ _ h2] at ns; cases ns
        have Rt : R ≠ t := fun e => by rw [← e, hR] at t5; cases t5
        have Rs : R ≠ s0 := fun e => by rw [e, h4] at nR; cases nR
        have ts : t ≠ s0 := fun e => by rw [e, hs5] at t5; cases t5
        have m : ∀ {x : Addr} {o : HO}, G4 x = some o → x ∉ rl := fun e h => by rw [(hr5 _ h).2.1] at e; cases e
        show (c :: R :: t :: s0 :: rl).Nodup
        simp only [List.nodup_cons, List.mem_cons, not_or]
        exact ⟨⟨cR, ct, cs, m (s4 _ _ (s3 _ _ h2))⟩, ⟨Rt, Rs, fun h => (hr5 _ h).2.2 rfl⟩, ⟨ts, fun h => by rw [(hr5 _ h).1] at t5; cases t5⟩, m h4, nd⟩
def spStW : Sp := fun vs H Q _ => ∃ (W a : Addr) (A : Wa) (J : Jr) (f : Nat → Nat), vs = [.ref W, .ref a] ∧ WAt H W A J ∧ OkJ J ∧ H a = some (.lst (nL f J.n)) ∧ (∀ l, l < J.n → f l ≤ (J.txt l).length) ∧ ∀ H' W' A', Same H H' → H W' = none → (∀ x ∈ A'.all, H x = none) → WAt H' W' A' (stopJ J f) → Q (.ref W') H'
theorem ok_l_stopped (T : Tx K mg CD CJ) (G_l_kept_rows : Fnc P w K mg base CX0 3 "_law_kept_rows" [] spKept) (F : FD K "_law_stopped" "_law_stopped" s_l_stopped [] f fd) : FnG P w K mg base CX0 4 f fd ["_law_world_here", "_law_lengths_here"] spStW := by
  refine ok0 F sc_l_stopped (fun vs H Q E h => ?_) (fun cdv A outer s H vs Q E hr h => ?_)
  · obtain ⟨W, a, A, J, f, rfl, _⟩ := h
    rfl
  · obtain ⟨W, a, A, J, f, rfl, wa, O, ha, hf, q⟩ := h
    refine ⟨_, (pss_cons (ps_setLc (i := 2) (g := (gTup K 2 (gCons (gName 3) (gCons (gName 4) gNil)))) (own := [("_law_some", 3), ("_law_length", 4)]) rfl sc_l_stopped.nd rfl rfl (sw_true rfl rfl rfl (by decide +kernel)) (pi_zip (by rfl) T.n_zip (pa_cons (pe_dget (un1 hr.r.units) (pv 0) pe_str (fun _ _ => rfl)) (pa_cons (pv 1) pa_nil))) (blkOk_by (own := [("_law_some", 3), ("_law_length", 4)]) (N := n_l_stopped) (sc := defScope s_l_stopped) (by decide +kernel)) (fun _ _ _ _ _ => (pg_tup rfl (pgs_cons (pg_name (i := 3) sc_l_stopped.nd rfl (by first | exact Or.inl rfl | exact Or.inr rfl)) (pgs_cons (pg_name (i := 4) sc_l_stopped.nd rfl (by first | exact Or.inl rfl | exact Or.inr rfl)) pgs_nil)))) (fun _ _ _ _ _ => pts_nil) (fun _ _ _ _ _ => (pe_fn G_l_kept_rows (hr.mono (by decide)) pass0 (pa_cons (pv 3) (pa_cons (pv 4) pa_nil)))))
      (pss_cons (ps_setLc (i := 5) (g := (gTup K 2 (gCons (gName 6) (gCons (gName 4) gNil)))) (own := [("_law_text", 6), ("_law_length", 4)]) rfl sc_l_stopped.nd rfl rfl (sw_true rfl rfl rfl (by decide +kernel)) (pi_zip (by rfl) T.n_zip (pa_cons (pe_dget (un1 hr.r.units) (pv 0) pe_str (fun _ _ => rfl)) (pa_cons (pv 1) pa_nil))) (blkOk_by (own := [("_law_text", 6), ("_law_length", 4)]) (N := n_l_stopped) (sc := defScope s_l_stopped) (by decide +kernel)) (fun _ _ _ _ _ => (pg_tup rfl (pgs_cons (pg_name (i := 6) sc_l_stopped.nd rfl (by first | exact Or.inl rfl | exact Or.inr rfl)) (pgs_cons (pg_name (i := 4) sc_l_stopped.nd rfl (by first | exact Or.inl rfl | exact Or.inr rfl)) pgs_nil)))) (fun _ _ _ _ _ => pts_nil) (fun _ _ _ _ _ => (pe_slice sl_str (pv 6) po_none (po_some (pv 4)))))
      (pss_one (ps_ret (pe_disp (pps_cons pe_str (pe_callTy call_list_of (by rfl) T.n_list (by decide +kernel) (pa_cons (pe_dget (un1 hr.r.units) (pv 0) pe_str (fun _ _ => rfl)) pa_nil)) (pps_cons pe_str (pv 2) (pps_cons pe_str (pv 5) (pps_cons pe_str (pe_callTy call_list_of (by rfl) T.n_list (by decide +kernel) (pa_cons (pv 1) pa_nil)) pps_nil)))) rfl rfl (fun z => by cases z) (by decide)))))), ?_⟩
    have o8 := O.n8
    have lr := wa.len
    refine ⟨_, rfl, W, _, rfl, wa.gr, _, rfl, A.r, a, _, _, rfl, SqL.of wa.r, SqL.of ha, fun R nR => ?_⟩
    refine lc_inv (walk_zip (K := K) (a := A.r) (b := a) (xs := A.rl.map V.ref) (ys := nL f J.n) (n := J.n) (by rw [List.length_map, nL_len, lr, Nat.min_self])) (fun j acc G => Same H G ∧ (∀ ys, G R ≠ some (.tup ys)) ∧ ∃ rl : List Addr, acc = rl.map V.ref ∧ rl.length = j ∧ rl.Nodup ∧ ∀ (l : Nat) q, rl[l]? = some q → ∃ us, fillH H R G q = some (.lst us) ∧ EsV G us l (kept (J.es l) (f l))) (fun j acc G xs z => ⟨own_same z.1 nR, (fun ys e => by rw [upd_same] at e; cases e), ?_⟩) ⟨Same.rfl', (fun ys e => by rw [nR] at e; cases e), [], rfl, rfl, List.nodup_nil, (fun l q e => by cases e)⟩ (fun j acc G hj z => ?_) (fun j acc G hj z => ⟨SqL.of (z.1 _ _ wa.r), SqL.of (z.1 _ _ ha)⟩) ?_ ?_
    · obtain ⟨_, nt, rl, e1, e2, e3, e4⟩ := z
      refine ⟨rl, e1, e2, e3, fun l q e => ?_⟩
      obtain ⟨us, x, y⟩ := e4 l q e
      exact ⟨us, by rw [fill_upd]; exact x, y.kt (KT.upd nt)⟩
    · obtain ⟨_, _, rl, rfl, lrl, _⟩ := z
      rw [List.length_map, lrl]
      exact Nat.lt_of_lt_of_le (show j < 100 by omega) (small (by decide))
    · rintro i x acc G2 G3 hi ⟨s2, nt2, rl, rfl, lrl, nd, er⟩ hR ⟨t, y, zz, rfl, nt, rfl, hy, hz⟩ N S' hN hS
      obtain ⟨qi, hqi, rfl⟩ := ref_get hy
      have hz' : V.int (f i) = zz := Option.some.inj ((nL_get hi).symm.trans hz)
      subst hz'
      obtain ⟨G4, e4, s4, ht4⟩ := mkO nt (.tup [.ref qi, .int (f i)])
      rw [e4]
      have s24 := s2.trans s4
      have hR4 := s4 _ _ hR
      have le : (J.es i).length ≤ 64 := by have := O.ends i hi; unfold Jr.ends at this; omega
      refine ⟨t, _, rfl, SqT.of ht4, rfl, _, _, rfl, _, _, rfl, rfl, rfl, ?_⟩
      refine ⟨_, rfl, _, rfl, qi, i, J.es i, J.n, f i, rfl, (wa.es i qi hqi).same s24, O.ok i hi, o8, le, fun G5 b us s5 hb eu => hN _ _ (s5 _ _ hR4) ⟨s24.trans s5, (fun ys e => by rw [s5 _ _ hR4] at e; cases e), rl ++ [b], by rw [List.map_append]; rfl, by rw [List.length_append, lrl]; rfl, ?_, fun l q e => ?_⟩⟩
      · rw [List.nodup_append]
        refine ⟨nd, by simp, fun a1 ha1 b1 hb1 => ?_⟩
        cases List.mem_singleton.mp hb1
        rintro rfl
        obtain ⟨l, hl⟩ := List.getElem?_of_mem ha1
        obtain ⟨us1, x1, _⟩ := er l a1 hl
        obtain ⟨n1, _⟩ := newH_some hb
        rw [s4 _ _ (newH_le _ _ x1)] at n1
        cases n1
      · rcases snoc_get e with e | ⟨rfl, rfl⟩
        · obtain ⟨us1, x1, y1⟩ := er l q e
          exact ⟨us1, fill_same (s4.trans s5) _ _ x1, y1.same (s4.trans s5)⟩
        · rw [lrl]
          exact ⟨us, fill_of s24 hR4 _ _ hb, eu⟩
    · rintro acc G2 hR ⟨s2, nt2, rl, rfl, lrl, nd, er⟩
      refine ⟨_, rfl, W, _, rfl, (wa.same s2).gt, _, rfl, A.t, a, _, _, rfl, SqL.of (s2 _ _ wa.t), SqL.of (s2 _ _ ha), fun t nt => ?_⟩
      refine lc_acc (walk_zip (K := K) (a := A.t) (b := a) (xs := tL J) (ys := nL f J.n) (n := J.n) (by rw [List.length_map, List.length_range, nL_len, Nat.min_self])) nt (fun j => (tL (stopJ J f)).take j) rfl (fun j hj => ?_) (fun G s' => ⟨SqL.of (s' _ _ (s2 _ _ wa.t)), SqL.of (s' _ _ (s2 _ _ ha))⟩) ?_ ?_
      · rw [List.length_take, List.length_map, List.length_range]
        show min j J.n ≤ _
        omega
      · rintro i x G3 G4 hi s3 ⟨t1, y, zz, rfl, nt1, rfl, hy, hz⟩ N S' hN hS
        have hz' : V.int (f i) = zz := Option.some.inj ((nL_get hi).symm.trans hz)
        subst hz'
        have hy' : V.str (S (J.txt i)) = y := Option.some.inj ((map_get (f := fun l => V.str (S (J.txt l))) hi).symm.trans hy)
        subst hy'
        obtain ⟨G5, e5, s5, ht5⟩ := mkO nt1 (.tup [.str (S (J.txt i)), .int (f i)])
        rw [e5]
        have tlen := O.txt_len hi
        refine ⟨t1, _, rfl, SqT.of ht5, rfl, _, _, rfl, _, _, rfl, rfl, rfl, ?_⟩
        refine ⟨_, rfl, _, rfl, f i, rfl, S (J.txt i), rfl, small (by rw [TL.len_tl]; show (J.txt i).length ≤ _; omega), hN _ _ s5 ?_⟩
        rw [take_snoc (map_get (f := fun l => V.str (S ((stopJ J f).txt l))) (show i < (stopJ J f).n from hi)), cut_to, (stopJ_txt O f hi).1]
        rfl
      · intro G3 s3 h3
        have h3' : G3 t = some (.lst (tL (stopJ J f))) := by rw [h3, List.take_of_length_le (by rw [List.length_map, List.length_range]; exact Nat.le_refl J.n)]
        have s23 := s2.trans s3
        intro p np
        obtain ⟨G4, e4, s4, h4⟩ := mkO np (.dK [])
        rw [e4]
        have s24 := s23.trans s4
        refine ⟨_, rfl, W, _, rfl, (wa.same s24).gc, A.c, _, rfl, .inl (SqL.of (s24 _ _ wa.c)), fun c nc => ?_⟩
        obtain ⟨G5, e5, s5, h5⟩ := mkO nc (.lst (nL J.cut J.n))
        rw [e5]
        have s25 := s24.trans s5
        refine ⟨_, rfl, _, rfl, _, rfl, a, _, rfl, .inl (SqL.of (s25 _ _ ha)), fun s0 ns => ?_⟩
        obtain ⟨G6, e6, s6, h6⟩ := mkO ns (.lst (nL f J.n))
        rw [e6]
        have s46 := s5.trans s6
        have s36 := s4.trans s46
        refine ⟨s46 _ _ h4, wkv ⟨c, R, t, s0, rl⟩, rfl, by show 4 ≤ 15; decide, ?_⟩
        rw [mergeW]
        have keep : ∀ {b : Addr} {o : HO}, G3 b = some o → upd G6 p (.dK (wkv ⟨c, R, t, s0, rl⟩)) b = some o := fun e => by
          rw [upd_ne (fun z => by rw [z, np] at e; cases e)]
          exact s36 _ _ e
        have hR3 := s3 _ _ hR
        have cp : c ≠ p := fun z => by rw [z, h4] at nc; cases nc
        have sp : s0 ≠ p := fun z => by rw [z, s5 _ _ h4] at ns; cases ns
        have sc : s0 ≠ c := fun z => by rw [z, h5] at ns; cases ns
        have nc3 : G3 c = none := s4.free nc
        have ns3 : G3 s0 = none := (s4.trans s5).free ns
        have nt0 : H t = none := s2.free nt
        have tR : t ≠ R := fun z => by rw [z, hR] at nt; cases nt
        have fr : ∀ q ∈ rl, ∃ us, G2 q = some (.lst us) ∧ H q = none ∧ q ≠ R := fun q hq => by
          obtain ⟨l, hl⟩ := List.getElem?_of_mem hq
          obtain ⟨us, x, _⟩ := er l q hl
          obtain ⟨x1, x2⟩ := newH_some x
          have ne : q ≠ R := fun z => by rw [z, upd_same] at x1; cases x1
          rw [upd_ne ne] at x1
          exact ⟨us, x2, x1, ne⟩
        refine q _ p ⟨c, R, t, s0, rl⟩ (fun b o e => keep (s23 _ _ e)) (s23.free np) (fun x hx => ?_) ⟨upd_same, by rw [upd_ne cp]; exact s6 _ _ h5, keep hR3, keep h3', by rw [upd_ne sp]; exact h6, lrl, fun l q1 e => ?_, ?_⟩
        · simp only [Wa.all, List.mem_cons] at hx
          rcases hx with rfl | rfl | rfl | rfl | hx
          · exact s23.free nc3
          · exact nR
          · exact nt0
          · exact s23.free ns3
          · exact (fr x hx).choose_spec.2.1
        · obtain ⟨us, x, y⟩ := er l q1 e
          obtain ⟨_, x2⟩ := newH_some x
          exact ⟨us, keep (s3 _ _ x2), y.kt fun c ys z => keep (s3 _ _ z)⟩
        · have cR : c ≠ R := fun z => by rw [z, hR3] at nc3; cases nc3
          have ct : c ≠ t := fun z => by rw [z, h3'] at nc3; cases nc3
          have Rs : R ≠ s0 := fun z => by rw [← z, hR3] at ns3; cases ns3
          have ts : t ≠ s0 := fun z => by rw [← z, h3'] at ns3; cases ns3
          have m3 : ∀ {x : Addr}, G3 x = none → x ∉ rl := fun e h => by
            obtain ⟨us, x1, _⟩ := fr _ h
            rw [s3 _ _ x1] at e
            cases e
          show (c :: R :: t :: s0 :: rl).Nodup
          simp only [List.nodup_cons, List.mem_cons, not_or]
          exact ⟨⟨cR, ct, sc.symm, m3 nc3⟩, ⟨tR.symm, Rs, fun h => (fr _ h).choose_spec.2.2 rfl⟩, ⟨ts, fun h => by rw [(fr _ h).choose_spec.1] at nt; cases nt⟩, m3 ns3, nd⟩
end
end K77

set_option Elab.async false
set_option linter.all false
set_option maxRecDepth 100000
set_option maxHeartbeats 4000000
/-! L77c: the law's order. -/
namespace K77
open PySem PySem.Spec PyProof.Rows L2 LL K75 JN
abbrev s_l_can_stand : Stmt := top 60
abbrev n_l_can_stand : List Str := ["_law_world_here", "_law_counts", "_law_lane", "_law_at", "_law_other", "_law_spot"]
theorem sc_l_can_stand : FnScope n_l_can_stand ["_law_world_here", "_law_counts", "_law_lane"] (defScope s_l_can_stand) := ⟨rfl, rfl, rfl, by decide +kernel, rfl, by decide +kernel, by decide +kernel⟩
abbrev s_l_counted : Stmt := top 61
abbrev n_l_counted : List Str := ["_law_world_here", "_law_counts", "_law_order", "_law_some", "_law_lane"]
theorem sc_l_counted : FnScope n_l_counted ["_law_world_here"] (defScope s_l_counted) := ⟨rfl, rfl, rfl, by decide +kernel, rfl, by decide +kernel, by decide +kernel⟩
section
variable {P : Program} {w : World} {K : PySem.W.Frag} {mg : Str → Option Value} {base : Heap} {CD CJ : Addr} {f : Addr} {fd : FuncData}
def spCan : Sp := fun vs H Q _ => ∃ (W c : Addr) (A : Wa) (J : Jr) (cs : Nat → Nat) (l : Nat), vs = [.ref W, .ref c, .int l] ∧ WAt H W A J ∧ OkJ J ∧ H c = some (.lst (nL cs J.n)) ∧ l < J.n ∧ J.cut l ≤ cs l ∧ ∀ H', Same H H' → Q (.bl (can J cs l)) H'
theorem ok_l_can_stand (T : Tx K mg CD CJ) (F : FD K "_law_can_stand" "_law_can_stand" s_l_can_stand [] f fd) : FnG P w K mg base CX0 1 f fd ["_law_world_here", "_law_counts", "_law_lane"] spCan := by
  refine ok0 F sc_l_can_stand (fun vs H Q E h => ?_) (fun cdv A outer s H vs Q E hr h => ?_)
  · obtain ⟨W, c, A, J, cs, l, rfl, _⟩ := h
    rfl
  · obtain ⟨W, c, A, J, cs, l, rfl, wa, O, hc, hl, lo, q⟩ := h
    refine ⟨_, (pss_cons (ps_set (i := 3) sc_l_can_stand.nd rfl (by first | exact Or.inl rfl | exact Or.inr rfl) (pe_op op_sub (pe_ix ix_list (pv 1) (pv 2) (fun _ _ => rfl)) (pe_ix ix_list (pe_dget (un1 hr.r.units) (pv 0) pe_str (fun _ _ => rfl)) (pv 2) (fun _ _ => rfl))))
      (pss_cons (ps_if (pt_cmpR op_ge (pv 3) (pe_callB call_len_seq (by rfl) T.n_len (by decide +kernel) (pa_cons (pe_ix ix_list (pe_dget (un1 hr.r.units) (pv 0) pe_str (fun _ _ => rfl)) (pv 2) (fun _ _ => rfl)) pa_nil)) (nomark _)) (pss_one (ps_ret pe_bl)) pss_nil)
      (pss_cons (ps_for PassesOwn.never rfl (pi_tup (pe_ix ix_tup (pe_ix ix_list (pe_ix ix_list (pe_dget (un1 hr.r.units) (pv 0) pe_str (fun _ _ => rfl)) (pv 2) (fun _ _ => rfl)) (pv 3) (fun _ _ => rfl)) pe_int (fun _ _ => rfl))) (pg_tup rfl (pgs_cons (pg_name (i := 4) sc_l_can_stand.nd rfl (by first | exact Or.inl rfl | exact Or.inr rfl)) (pgs_cons (pg_name (i := 5) sc_l_can_stand.nd rfl (by first | exact Or.inl rfl | exact Or.inr rfl)) pgs_nil))) (pss_one (ps_if (PW.pt (pw_or (pt_cmpR op_ge (pv 4) (pe_callB call_len_seq (by rfl) T.n_len (by decide +kernel) (pa_cons (pv 1) pa_nil)) (nomark _)) (pw_or1 (pt_cmpR op_ge (pv 5) (pe_ix ix_list (pv 1) (pv 4) (fun _ _ => rfl)) (nomark _))))) (pss_one (ps_ret pe_bl)) pss_nil)))
      (pss_one (ps_ret pe_bl))))), ?_⟩
    have hlr : l < A.rl.length := by rw [wa.len]; exact hl
    obtain ⟨vs, hvs, ev⟩ := wa.es l _ (List.getElem?_eq_getElem hlr)
    have o8 := O.n8
    have har : atI (A.rl.map V.ref) (l : Int) = some (.ref A.rl[l]) := atI_nat (ref_at hlr)
    refine ⟨_, rfl, _, rfl, c, _, _, _, rfl, rfl, SqL.of hc, nL_at hl, _, rfl, W, _, rfl, wa.gc, _, rfl, A.c, _, _, _, rfl, rfl, SqL.of wa.c, nL_at hl, _, _, rfl, rfl, ?_⟩
    have ep : (cs l : Int) - (J.cut l : Int) = ((cs l - J.cut l : Nat) : Int) := by omega
    dsimp only
    rw [ep]
    have lv := ev.len
    refine ⟨_, rfl, _, rfl, W, _, rfl, wa.gr, _, rfl, A.r, _, _, _, rfl, rfl, SqL.of wa.r, har, A.rl[l], vs, rfl, .inl (SqL.of hvs), _, _, rfl, rfl, _, rfl, iteB (fun e => ?_) (fun e => ?_)⟩
    · have hp := of_decide_eq_true e
      have : can J cs l = false := by
        unfold can
        rw [List.getElem?_eq_none (by omega)]
      rw [this] at q
      exact q _ Same.rfl'
    · have hp : cs l - J.cut l < (J.es l).length := by have := of_decide_eq_false e; omega
      have hp' : cs l - J.cut l < vs.length := by omega
      have ee := ev.at_ _ _ _ (List.getElem?_eq_getElem hp') (List.getElem?_eq_getElem hp)
      have oe := O.ok l hl _ (List.getElem_mem hp)
      generalize hve : vs[cs l - J.cut l] = ve at ee
      have hav : atI vs ((cs l - J.cut l : Nat) : Int) = some ve := by rw [← hve]; exact atI_nat (List.getElem?_eq_getElem hp')
      have hcan : can J cs l = ((J.es l)[cs l - J.cut l]).prs.all fun p => decide (p.1 < J.n) && decide (p.2 < cs p.1) := by
        unfold can
        rw [List.getElem?_eq_getElem hp]
      generalize (J.es l)[cs l - J.cut l] = en at *
      obtain ⟨te, qe, us, rfl, hte, hqe, pr⟩ := ee.ex
      have lu : us.length = en.prs.length := pr.len'
      have lc : (nL cs J.n).length = J.n := nL_len _ _
      refine ⟨_, rfl, W, _, rfl, wa.gr, _, rfl, A.r, _, _, _, rfl, rfl, SqL.of wa.r, har, _, rfl, A.rl[l], vs, _, _, rfl, rfl, SqL.of hvs, hav, te, _, 2, _, rfl, rfl, SqT.of hte, rfl, qe, rfl, ⟨us, SqT.of hqe⟩, ?_⟩
      refine for_it (walk_tup (K := K) (a := qe) (xs := us)) (fun i σ G => G = H ∧ ((en.prs.take i).all fun p => decide (p.1 < J.n) && decide (p.2 < cs p.1)) = true ∧ ∃ u v, σ = [some (.ref W), some (.ref c), some (.int l), some (.int ((cs l - J.cut l : Nat) : Int)), u, v]) ⟨rfl, rfl, none, none, rfl⟩ (fun i σ G _ z => by rw [z.1]; exact SqT.of hqe) ?_ ?_
      · rintro i x σ G G' hi ⟨rfl, al, u, v, rfl⟩ ⟨rfl, hx⟩
        have hi' : i < en.prs.length := by omega
        have hpi := List.getElem?_eq_getElem hi'
        obtain ⟨tp, rfl, htp⟩ := pr.get hx hpi
        have mem := List.getElem_mem hi'
        generalize en.prs[i] = p at *
        have bad : (decide (p.1 < J.n) && decide (p.2 < cs p.1)) = false → can J cs l = false := fun h => by
          rw [hcan]
          exact List.all_eq_false.mpr ⟨p, mem, by rw [h]; exact Bool.false_ne_true⟩
        have good : (decide (p.1 < J.n) && decide (p.2 < cs p.1)) = true → ((en.prs.take (i + 1)).all fun p => decide (p.1 < J.n) && decide (p.2 < cs p.1)) = true := fun h => by
          rw [take_snoc hpi, List.all_append, al, Bool.true_and]
          simp [h] at *
        refine ⟨tp, _, rfl, SqT.of htp, rfl, _, _, rfl, _, _, rfl, rfl, ?_⟩
        refine ⟨_, rfl, _, rfl, c, _, rfl, .inl (SqL.of hc), _, _, rfl, rfl, _, rfl, iteB (fun e => ?_) (fun e => ?_)⟩
        · have h1 : ¬ p.1 < J.n := by have := of_decide_eq_true e; rw [lc] at this; omega
          rw [bad (by rw [decide_eq_false h1]; rfl)] at q
          exact q _ Same.rfl'
        · have h1 : p.1 < J.n := by have := of_decide_eq_false e; rw [lc] at this; omega
          refine ⟨_, rfl, _, rfl, _, rfl, c, _, _, _, rfl, rfl, SqL.of hc, nL_at h1, _, _, rfl, rfl, _, rfl, iteB (fun e2 => ?_) (fun e2 => ?_)⟩
          · have h2 : ¬ p.2 < cs p.1 := by have := of_decide_eq_true e2; omega
            rw [bad (by rw [decide_eq_false h2, Bool.and_false])] at q
            exact q _ Same.rfl'
          · have h2 : p.2 < cs p.1 := by have := of_decide_eq_false e2; omega
            exact ⟨rfl, good (by rw [decide_eq_true h1, decide_eq_true h2]; rfl), _, _, rfl⟩
      · rintro σ G ⟨rfl, al, u, v, rfl⟩
        rw [lu, List.take_length, ← hcan] at al
        rw [al] at q
        exact q _ Same.rfl'
def spCtd : Sp := fun vs H Q _ => ∃ (W : Addr) (A : Wa) (J : Jr), vs = [.ref W] ∧ WAt H W A J ∧ OkJ J ∧ ∀ (H' : Hp) (t o c : Addr) (us : List V), Same H H' → newH H H' t = some (.tup [.ref o, .ref c]) → newH H H' o = some (.lst us) → PrN (newH H H') us (fin J).o → newH H H' c = some (.lst (nL (fin J).c J.n)) → Q (.ref t) H'
theorem ok_l_counted (T : Tx K mg CD CJ) (G_l_can_stand : Fnc P w K mg base CX0 1 "_law_can_stand" [] spCan) (F : FD K "_law_counted" "_law_counted" s_l_counted [] f fd) : FnG P w K mg base CX0 2 f fd ["_law_world_here"] spCtd := by
  refine ok0 F sc_l_counted (fun vs H Q E h => ?_) (fun cdv A outer s H vs Q E hr h => ?_)
  · obtain ⟨W, A, J, rfl, _⟩ := h
    rfl
  · obtain ⟨W, A, J, rfl, wa, O, q⟩ := h
    refine ⟨_, (pss_cons (ps_asg (pe_tup (pa_cons (pe_callTy call_list_of (by rfl) T.n_list (by decide +kernel) (pa_cons (pe_dget (un1 hr.r.units) (pv 0) pe_str (fun _ _ => rfl)) pa_nil)) (pa_cons (pe_lst pa_nil) pa_nil))) (pg_tup rfl (pgs_cons (pg_name (i := 1) sc_l_counted.nd rfl (by first | exact Or.inl rfl | exact Or.inr rfl)) (pgs_cons (pg_name (i := 2) sc_l_counted.nd rfl (by first | exact Or.inl rfl | exact Or.inr rfl)) pgs_nil))))
      (pss_one (ps_while PassesOwn.never (pt_val pe_bl) (pss_cons (ps_setLc (i := 3) (own := [("_law_lane", 4)]) rfl sc_l_counted.nd rfl rfl (sw_true rfl rfl rfl (by decide +kernel)) (pi_range1 (by rfl) T.n_range (pa_cons (pe_callB call_len_seq (by rfl) T.n_len (by decide +kernel) (pa_cons (pv 1) pa_nil)) pa_nil)) (blkOk_by (own := [("_law_lane", 4)]) (N := n_l_counted) (sc := defScope s_l_counted) (by decide +kernel)) (fun _ _ _ _ _ => (pg_name (i := 4) sc_l_counted.nd rfl (by first | exact Or.inl rfl | exact Or.inr rfl))) (fun _ _ _ _ _ => (pts_one (pt_val (pe_fn G_l_can_stand (hr.mono (by decide)) pass0 (pa_cons (pv 0) (pa_cons (pv 1) (pa_cons (pv 4) pa_nil))))))) (fun _ _ _ _ _ => (pv 4)))
      (pss_cons (ps_if (pt_cmpR (op_eqD hr.r.units) (pv 3) (pe_lst pa_nil) (nomark _)) (pss_one (ps_ret (pe_tup (pa_cons (pv 2) (pa_cons (pv 1) pa_nil))))) pss_nil)
      (pss_cons (ps_expr (pe_bm PySem.F.plainAttrs_list PySem.F.slot_list_append PySem.F.type_list_append mt_append (pv 2) (pa_cons (pe_tup (pa_cons (pe_ix ix_list (pv 3) pe_int (fun _ _ => rfl)) (pa_cons (pe_ix ix_list (pv 1) (pe_ix ix_list (pv 3) pe_int (fun _ _ => rfl)) (fun _ _ => rfl)) pa_nil))) pa_nil)))
      (pss_one (ps_asg (pe_op op_add (pe_ix ix_list (pv 1) (pe_ix ix_list (pv 3) pe_int (fun _ _ => rfl)) (fun _ _ => rfl)) pe_int) (pg_sub (pv 1) (pe_ix ix_list (pv 3) pe_int (fun _ _ => rfl)) set_list))))))))), ?_⟩
    refine ⟨_, rfl, W, _, rfl, wa.gc, A.c, _, rfl, .inl (SqL.of wa.c), fun C nC => ?_⟩
    obtain ⟨G1, e1, s1, h1⟩ := mkO nC (.lst (nL J.cut J.n))
    rw [e1]
    refine ⟨small (by show 0 ≤ 100000; decide), fun D nD => ?_⟩
    obtain ⟨G2, e2, s2, h2⟩ := mkO nD (.lst [])
    rw [e2]
    refine ⟨small (by show 2 ≤ 100000; decide), fun t0 nt0 => ?_⟩
    obtain ⟨B, e3, s3, h3⟩ := mkO nt0 (.tup [.ref C, .ref D])
    rw [e3]
    refine ⟨t0, _, rfl, SqT.of h3, rfl, _, _, rfl, _, _, rfl, rfl, ?_⟩
    have s03 := (s1.trans s2).trans s3
    have hBC := s3 _ _ (s2 _ _ h1)
    have hBD := s3 _ _ h2
    have nD0 := s1.free nD
    have neCD : C ≠ D := fun e => by rw [e, nD] at h1; cases h1
    have o8 := O.n8
    refine ⟨fun m σ G => ∃ i, m + i = 63 ∧ Same H G ∧ G t0 = some (.tup [.ref C, .ref D]) ∧ G C = some (.lst (nL (it J i).c J.n)) ∧ (∃ us, G D = some (.lst us) ∧ PrN (newH B G) us (it J i).o) ∧ (∀ j, j < i → nxt J (it J j).c ≠ none) ∧ ∃ u v, σ = [some (.ref W), some (.ref C), some (.ref D), u, v],
      ⟨63, 0, rfl, s03, h3, hBC, ⟨[], hBD, PrN.nil⟩, fun j hj => absurd hj (Nat.not_lt_zero j), none, none, rfl⟩, ?_⟩
    rintro m σ G ⟨i, hm, s4, ht0, hC, ⟨us, hD, pr⟩, no, u, v, rfl⟩
    have sp := sp_it J i
    have lus : us.length ≤ 63 := by rw [pr.len']; exact sp.few O
    refine ⟨true, rfl, iteT ⟨fun σ' G' => ∃ i', (m - 1) + i' = 63 ∧ 0 < m ∧ Same H G' ∧ G' t0 = some (.tup [.ref C, .ref D]) ∧ G' C = some (.lst (nL (it J i').c J.n)) ∧ (∃ us, G' D = some (.lst us) ∧ PrN (newH B G') us (it J i').o) ∧ (∀ j, j < i' → nxt J (it J j).c ≠ none) ∧ ∃ u v, σ' = [some (.ref W), some (.ref C), some (.ref D), u, v], fun σ' G' ⟨i', z1, z0, z⟩ => ⟨m - 1, by omega, i', z1, z⟩, ?_⟩⟩
    generalize hst : it J i = st at *
    refine ⟨_, rfl, C, _, rfl, .inl (SqL.of hC), (nL st.c J.n).length, rfl, by omega, by rw [nL_len]; omega, fun R nR => ?_⟩
    rw [nL_len]
    refine lc_acc (walk_range (lo := 0) (n := J.n)) nR (fun j => ((List.range j).filter (can J st.c)).map fun l => V.int (l : Nat)) rfl (fun j hj => ?_) (fun _ _ => trivial) ?_ ?_
    · have := List.length_filter_le (can J st.c) (List.range j)
      rw [List.length_map]
      rw [List.length_range] at this
      omega
    · rintro j x G5 G6 hj s5 ⟨rfl, hx⟩ N S' hN hS
      cases hx
      refine ⟨rfl, _, rfl, _, rfl, _, rfl, W, C, A, J, st.c, j, ?_, wa.same (s4.trans s5), O, s5 _ _ hC, hj, sp.lo j hj, fun G7 s7 => ⟨_, rfl, iteB (fun e => ⟨_, rfl, hN _ _ s7 ?_⟩) (fun e => hS _ s7 ?_)⟩⟩
      · show V.ref W :: V.ref C :: ([V.int (0 + (j : Nat))] ++ []) = _
        rw [Int.zero_add]
        rfl
      · rw [List.range_succ, List.filter_append, List.map_append]
        simp only [List.filter_cons, e, if_pos, List.filter_nil, List.map_cons, List.map_nil]
        show _ = _ ++ [V.int (0 + (j : Nat))]
        rw [Int.zero_add]
      · rw [List.range_succ, List.filter_append]
        simp [List.filter_cons, e]
    · intro G5 s5 h5
      have hn : nxt J st.c = ((List.range J.n).filter (can J st.c)).head? := (List.head?_filter ..).symm
      generalize (List.range J.n).filter (can J st.c) = fl at *
      have s45 := s4.trans s5
      have hC5 := s5 _ _ hC
      have hD5 := s5 _ _ hD
      refine ⟨_, rfl, small (by show 0 ≤ 100000; decide), fun E nE => ?_⟩
      obtain ⟨G6, e6, s6, h6⟩ := mkO nE (.lst [])
      rw [e6]
      have h5' : G6 R = some (.lst ((fl.map fun l => ((l : Nat) : Int)).map V.int)) := by rw [s6 _ _ h5, List.map_map]; rfl
      refine eq_pd (dp_ints h5') (.lst (SqL.of h6) .nil) (pn_ints _) (pn_ints []) fun b hb => ⟨_, rfl, iteB (fun c => ?_) (fun c => ?_)⟩
      · have hf := hb.mp c
        have hfl : fl = [] := by
          have := PyData.list.inj hf
          rw [List.map_eq_nil_iff, List.map_eq_nil_iff] at this
          exact this
        rw [hfl] at hn
        have ef : it J i = fin J := it_fin O (by rw [hst]; exact hn) no
        rw [hst] at ef
        rw [ef] at pr hC hC5
        have s46 := s45.trans s6
        refine ⟨_, rfl, _, rfl, small (by show 2 ≤ 100000; decide), fun T1 nT => ?_⟩
        obtain ⟨G7, e7, s7, h7⟩ := mkO nT (.tup [.ref D, .ref C])
        rw [e7]
        have s567 := (s5.trans s6).trans s7
        refine q _ T1 D C us (s46.trans s7) ?_ ?_ ?_ ?_
        · rw [newH_at (s46.free nT)]
          exact h7
        · rw [newH_at nD0]
          exact s567 _ _ hD
        · exact (pr.same (newH_same s567)).same (newH_mono s03)
        · rw [newH_at nC]
          exact s567 _ _ hC
      · cases fl with
        | nil => rw [hb.mpr rfl] at c; cases c
        | cons k rest =>
        have hk : nxt J (it J i).c = some k := by rw [hst]; exact hn
        have hi := it_few O (i := i) (by rw [hk]; exact fun z => by cases z)
        have kn := (nxt_some hk).1
        have s46 := s45.trans s6
        have hC6 := s6 _ _ hC5
        have hD6 := s6 _ _ hD5
        have hR6 := s6 _ _ h5
        have at0 : atI ((k :: rest).map fun l => V.int (l : Nat)) (0 : Int) = some (.int (k : Nat)) := atI_nat (j := 0) rfl
        refine ⟨_, rfl, .inl ⟨rfl, _, SqL.of hD6⟩, _, rfl, R, _, 0, _, rfl, rfl, SqL.of hR6, at0, _, rfl, _, rfl, R, _, 0, _, rfl, rfl, SqL.of hR6, at0, C, _, _, _, rfl, rfl, SqL.of hC6, nL_at kn, small (by show 2 ≤ 100000; decide), fun T1 nT => ?_⟩
        obtain ⟨G7, e7, s7, h7⟩ := mkO nT (.tup [.int (k : Nat), .int (st.c k)])
        rw [e7]
        have hD7 := s7 _ _ hD6
        have hC7 := s7 _ _ hC6
        have hR7 := s7 _ _ hR6
        have s567 := (s5.trans s6).trans s7
        have s47 := s46.trans s7
        have nR0 := s4.free nR
        have RD : R ≠ D := fun z => by rw [z, hD] at nR; cases nR
        have RC : R ≠ C := fun z => by rw [z, hC] at nR; cases nR
        refine ⟨D, us, _, rfl, rfl, hD7, Nat.lt_of_lt_of_le (show us.length < 100 by omega) (small (by decide)), ?_⟩
        have hR8 : upd G7 D (.lst (us ++ [.ref T1])) R = some (.lst ((k :: rest).map fun l => V.int (l : Nat))) := by rw [upd_ne RD]; exact hR7
        have hC8 : upd G7 D (.lst (us ++ [.ref T1])) C = some (.lst (nL st.c J.n)) := by rw [upd_ne neCD]; exact hC7
        refine ⟨_, rfl, _, rfl, R, _, 0, _, rfl, rfl, SqL.of hR8, at0, C, _, _, _, rfl, rfl, SqL.of hC8, nL_at kn, _, _, rfl, rfl, _, rfl, _, rfl, R, _, 0, _, rfl, rfl, SqL.of hR8, at0, C, _, _, k, rfl, rfl, hC8, by rw [nL_len]; exact ixN_nat kn, ?_⟩
        have eset : (nL st.c J.n).set k (V.int (st.c k + 1 : Int)) = nL (bmp st.c k) J.n := by
          have := nL_set (f := st.c) (v := st.c k + 1) kn
          rw [show (st.c k + 1 : Int) = ((st.c k + 1 : Nat) : Int) from rfl, this]
          refine nL_congr fun l _ => ?_
          unfold bmp
          by_cases e : l = k
          · rw [if_pos e, if_pos e, e]
          · rw [if_neg e, if_neg e]
        have enx : (it J (i + 1)).c = bmp st.c k := by rw [it_next hk, hst]
        have eno : (it J (i + 1)).o = st.o ++ [(k, st.c k)] := by rw [it_next hk, hst]
        dsimp only
        rw [eset]
        have tC : t0 ≠ C := fun z => by rw [z, hC] at ht0; cases ht0
        have tD : t0 ≠ D := fun z => by rw [z, hD] at ht0; cases ht0
        refine ⟨i + 1, by omega, by omega, fun b o e => ?_, by rw [upd_ne tC, upd_ne tD]; exact s567 _ _ ht0, by rw [enx, upd_same], ⟨us ++ [.ref T1], by rw [upd_ne (fun z => neCD z.symm), upd_same], ?_⟩, fun j hj => ?_, _, _, rfl⟩
        · rw [upd_ne (ne_of_none e nC), upd_ne (ne_of_none e nD0)]
          exact s47 _ _ e
        · rw [eno, newH_upd hBC, newH_upd hBD]
          refine PrN.snoc (pr.same (newH_same s567)) ?_
          have nT4 : G T1 = none := (s5.trans s6).free nT
          have nTB : B T1 = none := by
            have a1 : T1 ≠ C := fun z => by rw [z, hC] at nT4; cases nT4
            have a2 : T1 ≠ D := fun z => by rw [z, hD] at nT4; cases nT4
            have a3 : H T1 = none := s4.free nT4
            have a4 : T1 ≠ t0 := fun z => by rw [z, ht0] at nT4; cases nT4
            rw [← e3, upd_ne a4, ← e2, upd_ne a2, ← e1, upd_ne a1]
            exact a3
          rw [newH_at nTB]
          exact h7
        · by_cases c : j = i
          · rw [c, hk]
            exact fun z => by cases z
          · exact no j (by omega)
end
end K77

set_option Elab.async false
set_option linter.all false
set_option maxRecDepth 100000
set_option maxHeartbeats 2000000
/-! M77c: what is shown of a journal, as data. -/
namespace JN
open PySem PySem.Spec PyProof.Rows L2 LL K75
def iD (f : Nat → Nat) (n : Nat) : PyData := .list ((List.range n).map fun l => .int (f l))
def oD (o : List (Nat × Nat)) : PyData := .list (o.map fun p => ipD (ip p))
def enD (l : Nat) (e : En) : PyData := .tuple [.int l, .int e.pl, .tuple (e.prs.map fun p => ipD (ip p)), .str e.pay]
def esD (l : Nat) (es : List En) : PyData := .list (es.map (enD l))
def rD (J : Jr) : PyData := .list ((List.range J.n).map fun l => esD l (J.es l))
def tD (J : Jr) : PyData := .list ((List.range J.n).map fun l => .str (S (J.txt l)))
def shD (J : Jr) : PyData := .list [oD (fin J).o, iD (fin J).c J.n, iD (fin (stopJ J J.sure)).c J.n, iD J.cut J.n, rD J, tD J, iD J.sure J.n]
theorem costAll_app : ∀ a b : List PyData, costAll (a ++ b) = costAll a + costAll b
  | [], b => by simp [costAll]
  | x :: a, b => by
    rw [List.cons_append]
    simp only [costAll]
    rw [costAll_app a b]
    omega
theorem costAll_le {α : Type} {f : α → PyData} {m : Nat} : ∀ {l : List α}, (∀ x ∈ l, cost (f x) ≤ m) → costAll (l.map f) ≤ l.length * (m + 2)
  | [], _ => by simp [costAll]
  | x :: l, h => by
    have a := h x (List.mem_cons_self ..)
    have b := costAll_le (f := f) (m := m) (l := l) fun y hy => h y (List.mem_cons_of_mem _ hy)
    simp only [List.map_cons, costAll]
    rw [List.length_cons, Nat.succ_mul]
    omega
theorem costAll_sum {g : Nat → PyData} {h : Nat → Nat} {c m : Nat} : ∀ {n : Nat}, (∀ l, l < n → cost (g l) ≤ c + h l * m) → costAll ((List.range n).map g) ≤ n * (c + 2) + sumTo h n * m
  | 0, _ => by simp [costAll]
  | n + 1, k => by
    have a := costAll_sum (g := g) (h := h) (c := c) (m := m) (n := n) fun l hl => k l (by omega)
    have b := k n (by omega)
    rw [List.range_succ, List.map_append, costAll_app]
    simp only [List.map_cons, List.map_nil, costAll, sumTo]
    rw [Nat.succ_mul, Nat.add_mul]
    omega
theorem shwAll_map {α : Type} {f : α → PyData} : ∀ {l : List α}, (∀ x ∈ l, Shw (f x)) → ShwAll (l.map f)
  | [], _ => by simp only [List.map_nil, ShwAll]
  | x :: l, h => by
    simp only [List.map_cons, ShwAll]
    exact ⟨h x (List.mem_cons_self ..), shwAll_map fun y hy => h y (List.mem_cons_of_mem _ hy)⟩
theorem log_ok {n : Nat} (h : n < 100000) : (n : Int).natAbs.log2 < 1920 := log_small (Nat.lt_of_lt_of_le (show (n : Int).natAbs < 100000 by omega) (by decide))
theorem shw_int {n : Nat} (h : n < 100000) : Shw (.int (n : Nat)) := by
  simp only [Shw]
  exact log_ok h
theorem shw_ip {p : Nat × Nat} (h1 : p.1 < 100000) (h2 : p.2 < 100000) : Shw (ipD (ip p)) := by
  unfold ipD ip
  simp only [Shw, ShwAll]
  exact ⟨log_ok h1, log_ok h2, trivial⟩
theorem asc_lt {x : Str} (h : ∀ c ∈ tl x, c < 1000) : Asc x := fun c hc => Nat.lt_trans (h c hc) (by decide)
theorem cost_ip (p : Nat × Nat) : cost (ipD (ip p)) = 3866 := by
  unfold ipD
  simp only [cost, costAll]
theorem shw_i {f : Nat → Nat} {n : Nat} (h : ∀ l, l < n → f l < 100000) : Shw (iD f n) := by
  unfold iD
  simp only [Shw]
  exact shwAll_map fun l hl => shw_int (h l (List.mem_range.mp hl))
theorem cost_i (f : Nat → Nat) (n : Nat) : cost (iD f n) ≤ n * 1932 + 2 := by
  unfold iD
  have := costAll_le (f := fun l => PyData.int ((f l : Nat) : Int)) (m := 1930) (l := List.range n) fun x _ => by simp only [cost]; exact Nat.le_refl _
  rw [List.length_range] at this
  simp only [cost]
  omega
theorem shw_en {n l : Nat} {e : En} (hl : l < 8) (hn : n ≤ 8) (h : OkE n l e) : Shw (enD l e) := by
  unfold enD
  have := h.pl
  simp only [Shw, ShwAll]
  refine ⟨log_ok (by omega), log_ok (by omega), shwAll_map fun p hp => ?_, asc_lt h.asc, trivial⟩
  obtain ⟨a, _, b⟩ := h.ln p hp
  exact shw_ip (by omega) (by omega)
theorem cost_en {n l : Nat} {e : En} (h : OkE n l e) : cost (enD l e) ≤ 36000 := by
  unfold enD
  have a := costAll_le (f := fun p => ipD (ip p)) (m := 3866) (l := e.prs) fun x _ => Nat.le_of_eq (cost_ip x)
  have b := h.few
  have c := h.len
  simp only [cost, costAll]
  omega
theorem shw_sh {J : Jr} (O : OkJ J) : Shw (shD J) := by
  have o8 := O.n8
  have sp := fin_sp J
  have sp2 := fin_sp (stopJ J J.sure)
  have O2 := stopJ_ok O O.sure
  have e1 : ∀ l, l < J.n → (fin J).c l < 100000 := fun l hl => by have := sp.hi l hl; have := O.ends l hl; omega
  have e2 : ∀ l, l < J.n → (fin (stopJ J J.sure)).c l < 100000 := fun l hl => by have := sp2.hi l hl; have := O2.ends l hl; omega
  have e3 : ∀ l, l < J.n → J.cut l < 100000 := fun l hl => by have := O.ends l hl; unfold Jr.ends at this; omega
  have e4 : ∀ l, l < J.n → J.sure l < 100000 := fun l hl => by have := O.sure l hl; have := O.txt_len hl; omega
  have a1 := shw_i e1
  have a2 := shw_i e2
  have a3 := shw_i e3
  have a4 := shw_i e4
  unfold shD
  simp only [Shw, ShwAll]
  refine ⟨?_, a1, a2, a3, ?_, ?_, a4, trivial⟩
  · unfold oD
    simp only [Shw]
    refine shwAll_map fun p hp => ?_
    obtain ⟨x, _, z⟩ := sp.mem p hp
    have := O.ends p.1 x
    exact shw_ip (by omega) (by omega)
  · unfold rD
    simp only [Shw]
    refine shwAll_map fun l hl => ?_
    have hl' := List.mem_range.mp hl
    unfold esD
    simp only [Shw]
    exact shwAll_map fun e he => shw_en (by omega) o8 (O.ok l hl' e he)
  · unfold tD
    simp only [Shw]
    refine shwAll_map fun l hl => ?_
    simp only [Shw]
    exact asc_lt fun c hc => O.txt_lt (List.mem_range.mp hl) hc
theorem cost_r {J : Jr} (O : OkJ J) : cost (rD J) ≤ 2500000 := by
  have o8 := O.n8
  have := costAll_sum (g := fun l => esD l (J.es l)) (h := fun l => (J.es l).length) (c := 2) (m := 36002) (n := J.n) fun l hl => by
    have a := costAll_le (f := enD l) (m := 36000) (l := J.es l) fun e he => cost_en (O.ok l hl e he)
    show cost (esD l (J.es l)) ≤ _
    unfold esD
    simp only [cost]
    omega
  have t := O.tot
  unfold rD
  simp only [cost]
  omega
theorem cost_t {J : Jr} (O : OkJ J) : cost (tD J) ≤ 900000 := by
  have o8 := O.n8
  have := costAll_le (f := fun l => PyData.str (S (J.txt l))) (m := 102402) (l := List.range J.n) fun l hl => by
    have a := O.txt_len (List.mem_range.mp hl)
    have b : (S (J.txt l)).length = (J.txt l).length := TL.len_tl _
    simp only [cost]
    omega
  rw [List.length_range] at this
  unfold tD
  simp only [cost]
  omega
theorem cost_sh {J : Jr} (O : OkJ J) : cost (shD J) ≤ 5000000 := by
  have o8 := O.n8
  have a1 := cost_i (fin J).c J.n
  have a2 := cost_i (fin (stopJ J J.sure)).c J.n
  have a3 := cost_i J.cut J.n
  have a4 := cost_i J.sure J.n
  have a5 := cost_r O
  have a6 := cost_t O
  have a7 : cost (oD (fin J).o) ≤ 63 * 3868 + 2 := by
    have f := (fin_sp J).few O
    have := costAll_le (f := fun p => ipD (ip p)) (m := 3866) (l := (fin J).o) fun x _ => Nat.le_of_eq (cost_ip x)
    unfold oD
    simp only [cost]
    omega
  unfold shD
  simp only [cost, costAll]
  omega
theorem dep_i (f : Nat → Nat) (n : Nat) : (iD f n).depth ≤ 1 := by
  unfold iD
  simp only [PyData.depth]
  exact Nat.succ_le_succ (depth_all fun d hd => by
    obtain ⟨x, _, rfl⟩ := List.mem_map.mp hd
    simp only [PyData.depth]
    exact Nat.le_refl 0)
theorem dep_sh (J : Jr) : (shD J).depth ≤ 40 := by
  have d1 : ∀ p : Nat × Nat, (ipD (ip p)).depth ≤ 1 := fun p => (pn_ip (ip p)).lay.2
  have d2 : ∀ l e, (enD l e).depth ≤ 3 := fun l e => by
    unfold enD
    simp only [PyData.depth]
    refine Nat.succ_le_succ (depth_all fun d hd => ?_)
    simp only [List.mem_cons, List.mem_nil_iff, or_false] at hd
    rcases hd with rfl | rfl | rfl | rfl
    · simp only [PyData.depth]; exact Nat.zero_le _
    · simp only [PyData.depth]; exact Nat.zero_le _
    · simp only [PyData.depth]
      exact Nat.succ_le_succ (depth_all fun d hd => by
        obtain ⟨x, _, rfl⟩ := List.mem_map.mp hd
        exact d1 x)
    · simp only [PyData.depth]; exact Nat.zero_le _
  unfold shD
  simp only [PyData.depth]
  refine Nat.succ_le_succ (depth_all fun d hd => ?_)
  simp only [List.mem_cons, List.mem_nil_iff, or_false] at hd
  rcases hd with rfl | rfl | rfl | rfl | rfl | rfl | rfl
  · unfold oD
    simp only [PyData.depth]
    exact Nat.succ_le_succ (depth_all fun d hd => by
      obtain ⟨x, _, rfl⟩ := List.mem_map.mp hd
      exact Nat.le_trans (d1 x) (by decide))
  · exact Nat.le_trans (dep_i _ _) (by decide)
  · exact Nat.le_trans (dep_i _ _) (by decide)
  · exact Nat.le_trans (dep_i _ _) (by decide)
  · unfold rD
    simp only [PyData.depth]
    refine Nat.succ_le_succ (depth_all fun d hd => ?_)
    obtain ⟨x, _, rfl⟩ := List.mem_map.mp hd
    unfold esD
    simp only [PyData.depth]
    exact Nat.succ_le_succ (depth_all fun d hd => by
      obtain ⟨y, _, rfl⟩ := List.mem_map.mp hd
      exact Nat.le_trans (d2 _ y) (by decide))
  · unfold tD
    simp only [PyData.depth]
    exact Nat.succ_le_succ (depth_all fun d hd => by
      obtain ⟨x, _, rfl⟩ := List.mem_map.mp hd
      simp only [PyData.depth]
      exact Nat.zero_le _)
  · exact Nat.le_trans (dep_i _ _) (by decide)
/-! ### .. in the heap -/
section
variable {K : PySem.W.Frag} {H : Hp}
theorem dp_i {a : Addr} {f : Nat → Nat} {n : Nat} (h : H a = some (.lst (nL f n))) : Dp K H (.ref a) (iD f n) := .lst (SqL.of h) (dpa_map fun l _ => .int _)
theorem dp_o {a : Addr} {us : List V} {o : List (Nat × Nat)} (h : H a = some (.lst us)) (pr : PrN H us o) : Dp K H (.ref a) (oD o) := by
  refine .lst (SqL.of h) ?_
  have := dp_ips (K := K) pr
  rw [List.map_map] at this
  exact this
theorem dp_en {v : V} {l : Nat} {e : En} (h : EnV H v l e) : Dp K H v (enD l e) := by
  obtain ⟨t, q, us, rfl, a, b, pr⟩ := h.ex
  have := dp_ips (K := K) pr
  rw [List.map_map] at this
  exact .tup (SqT.of a) (.cons (.int _) (.cons (.int _) (.cons (.tup (SqT.of b) this) (.cons (.str _) .nil))))
theorem dp_es {a : Addr} {l : Nat} {es : List En} (h : EsAt H a l es) : Dp K H (.ref a) (esD l es) := by
  obtain ⟨vs, x, y⟩ := h
  refine .lst (SqL.of x) (dpa_at (by rw [List.length_map]; exact y.len) fun i v d e1 e2 => ?_)
  rw [List.getElem?_map] at e2
  obtain ⟨e, he, rfl⟩ := Option.map_eq_some_iff.mp e2
  exact dp_en (y.at_ i v e e1 he)
theorem dp_r {a : Addr} {la : List Addr} {J : Jr} (h : H a = some (.lst (la.map V.ref))) (hl : la.length = J.n) (k : ∀ (l : Nat) q, la[l]? = some q → EsAt H q l (J.es l)) : Dp K H (.ref a) (rD J) := by
  refine .lst (SqL.of h) (dpa_at (by rw [List.length_map, List.length_map, List.length_range]; exact hl) fun i v d e1 e2 => ?_)
  obtain ⟨q, hq, rfl⟩ := ref_get e1
  have hi := (List.getElem?_eq_some_iff.mp hq).1
  rw [map_get (by omega)] at e2
  cases Option.some.inj e2
  exact dp_es (k i q hq)
theorem dp_t {a : Addr} {J : Jr} (h : H a = some (.lst ((List.range J.n).map fun l => V.str (S (J.txt l))))) : Dp K H (.ref a) (tD J) := .lst (SqL.of h) (dpa_map fun l _ => .str _)
end
end JN

set_option Elab.async false
set_option linter.all false
set_option maxRecDepth 100000
set_option maxHeartbeats 4000000
/-! L77d: what is shown. -/
namespace K77
open PySem PySem.Spec PyProof.Rows L2 LL K75 JN
abbrev s_l_is_shown : Stmt := top 62
abbrev n_l_is_shown : List Str := ["_law_journal", "_law_world_here", "_law_order", "_law_counts", "_law_durable", "_law_due", "_law_disks", "_law_lane", "_law_told", "_law_disk"]
theorem sc_l_is_shown : FnScope n_l_is_shown ["_law_journal", "_law_world_here"] (defScope s_l_is_shown) := ⟨rfl, rfl, rfl, by decide +kernel, rfl, by decide +kernel, by decide +kernel⟩
section
variable {P : Program} {w : World} {K : PySem.W.Frag} {mg : Str → Option Value} {base : Heap} {CD CJ : Addr} {f : Addr} {fd : FuncData}
def spShow (CD CJ : Addr) : Sp := fun vs H Q _ => ∃ (p W : Addr) (ds : List Addr) (A : Wa) (J : Jr), vs = [.ref p, .ref W] ∧ JAt CD CJ H p ds J ∧ WAt H W A J ∧ OkJ J ∧ ∀ H', Same H H' → Q (.bl true) H'
theorem ok_l_is_shown (T : Tx K mg CD CJ) (G_l_counted : Fnc P w K mg base CX0 2 "_law_counted" [] spCtd) (G_l_stopped : Fnc P w K mg base CX0 4 "_law_stopped" [] spStW) (M_J_disk : Mth P w K mg base CX0 6 CJ "disk" [] (spDisk CD CJ)) (M_J_order : Mth P w K mg base CX0 7 CJ "order" [] (spOrd CD CJ)) (M_J_counting : Mth P w K mg base CX0 8 CJ "counting" [] (spCtg CD CJ)) (M_J_durable : Mth P w K mg base CX0 9 CJ "durable" [] (spDur CD CJ))
    (M_J_cut : Mth P w K mg base CX0 1 CJ "cut" [] (spCut CD CJ)) (M_J_entries : Mth P w K mg base CX0 5 CJ "entries" [] (spEnt CD CJ)) (P_D_content : Prp P w K mg base CX0 1 CD "content" (spGetT CD)) (P_D_sure : Prp P w K mg base CX0 1 CD "sure" (spGetS CD)) (F : FD K "_law_is_shown" "_law_is_shown" s_l_is_shown [] f fd) : FnG P w K mg base CX0 10 f fd ["_law_journal", "_law_world_here"] (spShow CD CJ) := by
  refine ok0 F sc_l_is_shown (fun vs H Q E h => ?_) (fun cdv A outer s H vs Q E hr h => ?_)
  · obtain ⟨p, W, ds, A, J, rfl, _⟩ := h
    rfl
  · obtain ⟨p, W, ds, A, J, rfl, ja, wa, O, q⟩ := h
    refine ⟨_, (pss_cons (ps_asg (pe_fn G_l_counted (hr.mono (by decide)) pass0 (pa_cons (pv 1) pa_nil)) (pg_tup rfl (pgs_cons (pg_name (i := 2) sc_l_is_shown.nd rfl (by first | exact Or.inl rfl | exact Or.inr rfl)) (pgs_cons (pg_name (i := 3) sc_l_is_shown.nd rfl (by first | exact Or.inl rfl | exact Or.inr rfl)) pgs_nil))))
      (pss_cons (ps_set (i := 4) sc_l_is_shown.nd rfl (by first | exact Or.inl rfl | exact Or.inr rfl) (pe_ix ix_tup (pe_fn G_l_counted (hr.mono (by decide)) pass0 (pa_cons (pe_fn G_l_stopped (hr.mono (by decide)) pass0 (pa_cons (pv 1) (pa_cons (pe_dget (un1 hr.r.units) (pv 1) pe_str (fun _ _ => rfl)) pa_nil))) pa_nil)) pe_int (fun _ _ => rfl)))
      (pss_cons (ps_set (i := 5) sc_l_is_shown.nd rfl (by first | exact Or.inl rfl | exact Or.inr rfl) (pe_lst (pa_cons (pv 2) (pa_cons (pv 3) (pa_cons (pv 4) (pa_cons (pe_dget (un1 hr.r.units) (pv 1) pe_str (fun _ _ => rfl)) (pa_cons (pe_dget (un1 hr.r.units) (pv 1) pe_str (fun _ _ => rfl)) (pa_cons (pe_dget (un1 hr.r.units) (pv 1) pe_str (fun _ _ => rfl)) (pa_cons (pe_dget (un1 hr.r.units) (pv 1) pe_str (fun _ _ => rfl)) pa_nil)))))))))
      (pss_cons (ps_setLc (i := 6) (own := [("_law_lane", 7)]) rfl sc_l_is_shown.nd rfl rfl (sw_true rfl rfl rfl (by decide +kernel)) (pi_range1 (by rfl) T.n_range (pa_cons (pe_callB call_len_seq (by rfl) T.n_len (by decide +kernel) (pa_cons (pv 3) pa_nil)) pa_nil)) (blkOk_by (own := [("_law_lane", 7)]) (N := n_l_is_shown) (sc := defScope s_l_is_shown) (by decide +kernel)) (fun _ _ _ _ _ => (pg_name (i := 7) sc_l_is_shown.nd rfl (by first | exact Or.inl rfl | exact Or.inr rfl))) (fun _ _ _ _ _ => pts_nil) (fun _ _ _ _ _ => (pe_mt M_J_disk (hr.mono (by decide)) pass0 (pv 0) (pa_cons (pv 7) pa_nil))))
      (pss_cons (ps_set (i := 8) sc_l_is_shown.nd rfl (by first | exact Or.inl rfl | exact Or.inr rfl) (pe_lst (pa_cons (pe_mt0 M_J_order (hr.mono (by decide)) pass0 (pv 0)) (pa_cons (pe_mt0 M_J_counting (hr.mono (by decide)) pass0 (pv 0)) (pa_cons (pe_mt0 M_J_durable (hr.mono (by decide)) pass0 (pv 0)) (pa_cons (pe_mt0 M_J_cut (hr.mono (by decide)) pass0 (pv 0)) pa_nil))))))
      (pss_cons (ps_expr (pe_bm PySem.F.plainAttrs_list PySem.F.slot_list_append PySem.F.type_list_append mt_append (pv 8) (pa_cons (pe_lc (own := [("_law_lane", 7)]) rfl sc_l_is_shown.nd (pi_range1 (by rfl) T.n_range (pa_cons (pe_callB call_len_seq (by rfl) T.n_len (by decide +kernel) (pa_cons (pv 3) pa_nil)) pa_nil)) (blkOk_by (own := [("_law_lane", 7)]) (N := n_l_is_shown) (sc := defScope s_l_is_shown) (by decide +kernel)) (fun _ _ _ _ _ => (pg_name (i := 7) sc_l_is_shown.nd rfl (by first | exact Or.inl rfl | exact Or.inr rfl))) (fun _ _ _ _ _ => pts_nil) (fun _ _ _ _ _ => (pe_mt M_J_entries (hr.mono (by decide)) pass0 (pv 0) (pa_cons (pv 7) pa_nil)))) pa_nil)))
      (pss_cons (ps_set (i := 8) sc_l_is_shown.nd rfl (by first | exact Or.inl rfl | exact Or.inr rfl) (pe_op op_cat (pv 8) (pe_lst (pa_cons (pe_lc (own := [("_law_disk", 9)]) rfl sc_l_is_shown.nd (pi_list (pv 6)) (blkOk_by (own := [("_law_disk", 9)]) (N := n_l_is_shown) (sc := defScope s_l_is_shown) (by decide +kernel)) (fun _ _ _ _ _ => (pg_name (i := 9) sc_l_is_shown.nd rfl (by first | exact Or.inl rfl | exact Or.inr rfl))) (fun _ _ _ _ _ => pts_nil) (fun _ _ _ _ _ => (pe_pr P_D_content (hr.mono (by decide)) pass0 (pv 9)))) (pa_cons (pe_lc (own := [("_law_disk", 9)]) rfl sc_l_is_shown.nd (pi_list (pv 6)) (blkOk_by (own := [("_law_disk", 9)]) (N := n_l_is_shown) (sc := defScope s_l_is_shown) (by decide +kernel)) (fun _ _ _ _ _ => (pg_name (i := 9) sc_l_is_shown.nd rfl (by first | exact Or.inl rfl | exact Or.inr rfl))) (fun _ _ _ _ _ => pts_nil) (fun _ _ _ _ _ => (pe_pr P_D_sure (hr.mono (by decide)) pass0 (pv 9)))) pa_nil)))))
      (pss_one (ps_ret (pe_cmpR op_eq (pe_callB (call_reprS hr) (by rfl) T.n_repr (by decide +kernel) (pa_cons (pv 8) pa_nil)) (pe_callB (call_reprS hr) (by rfl) T.n_repr (by decide +kernel) (pa_cons (pv 5) pa_nil)) (nomark _))))))))))), ?_⟩
    have O2 := stopJ_ok O O.sure
    refine ⟨_, rfl, W, A, J, rfl, wa, O, fun H1 t1 o1 c1 us1 s1 ht1 ho1 pr1 hc1 => ?_⟩
    have ht1' := newH_le _ _ ht1
    have ho1' := newH_le _ _ ho1
    have hc1' := newH_le _ _ hc1
    have pr1' : PrN H1 us1 (fin J).o := pr1.same newH_le
    refine ⟨t1, _, rfl, SqT.of ht1', rfl, _, _, rfl, _, _, rfl, rfl, ?_⟩
    refine ⟨_, rfl, _, rfl, W, _, rfl, (wa.same s1).gs, W, A.s, A, J, J.sure, rfl, wa.same s1, O, s1 _ _ wa.s, O.sure, fun H2 W2 A2 s2 nW2 nA2 wa2 => ?_⟩
    have s02 := s1.trans s2
    refine ⟨W2, A2, stopJ J J.sure, rfl, wa2, O2, fun H3 t3 o3 c3 us3 s3 ht3 ho3 pr3 hc3 => ?_⟩
    have s03 := s02.trans s3
    have ht3' := newH_le _ _ ht3
    have hc3' := newH_le _ _ hc3
    refine ⟨t3, _, 1, _, rfl, rfl, SqT.of ht3', rfl, ?_⟩
    have o8 := O.n8
    have wa3 := wa.same s03
    refine ⟨_, rfl, _, rfl, _, rfl, _, rfl, W, _, rfl, wa3.gc, _, rfl, W, _, rfl, wa3.gr, _, rfl, W, _, rfl, wa3.gt, _, rfl, W, _, rfl, wa3.gs, small (by show 7 ≤ 100000; decide), fun DU nDU => ?_⟩
    obtain ⟨H4, e4, s4, h4⟩ := mkO nDU (.lst [.ref o1, .ref c1, .ref c3, .ref A.c, .ref A.r, .ref A.t, .ref A.s])
    rw [e4]
    have s04 := s03.trans s4
    have s14 := (s2.trans s3).trans s4
    have hc4 := s14 _ _ hc1'
    obtain ⟨dx, pd, pc, hp, hd, hcut⟩ := ja.ex
    refine ⟨_, rfl, c1, _, rfl, .inl (SqL.of hc4), (nL (fin J).c J.n).length, rfl, by omega, by rw [nL_len]; omega, fun DK nDK => ?_⟩
    rw [nL_len]
    refine lc_inv (walk_range (lo := 0) (n := J.n)) (fun j acc G => Same H4 G ∧ DsF CD (fillH H4 DK G) acc j (fun l => S (J.txt l)) J.sure) (fun j acc G xs z => by rw [fill_upd]; exact ⟨own_same z.1 nDK, z.2⟩) ⟨Same.rfl', DsF.nil⟩ (fun j acc G hj z => ?_) (fun _ _ _ _ _ => trivial) ?_ ?_
    · obtain ⟨_, es, rfl, le, _⟩ := z
      rw [List.length_map]
      exact Nat.lt_of_lt_of_le (show es.length < 100 by omega) (small (by decide))
    · rintro i x acc G2 G3 hi ⟨s5, df⟩ hD ⟨rfl, hx⟩ N S' hN hS
      cases hx
      have s05 := s04.trans s5
      refine ⟨rfl, _, rfl, p, dx, _, rfl, s05 _ _ hp, look_jno _ _ (by decide +kernel) (by decide +kernel), _, rfl, p, ds, J, i, ?_, ja.same s05, O, hi, fun G4 r s6 nr dr => hN _ _ (s6 _ _ hD) ⟨s5.trans s6, df.snoc (r := r) ?_ (fill_same s6) ?_⟩⟩
      · show V.ref p :: ([V.int (0 + (i : Nat))] ++ []) = _
        rw [Int.zero_add]
        rfl
      · cases c : fillH H4 DK G3 r with
        | none => rfl
        | some o => rw [newH_le _ _ c] at nr; cases nr
      · obtain ⟨dz, e2⟩ := dr
        exact ⟨dz, by rw [fill_at (fun c => by rw [c, hD] at nr; cases nr) (s5.free nr)]; exact e2⟩
    rintro acc H5 hDK ⟨s5, es, rfl, les, nd, da⟩
    have da5 : ∀ (l : Nat) d, es[l]? = some d → DAt CD H5 d (S (J.txt l)) (J.sure l) := fun l d e => (da l d e).same newH_le
    have s05 := s04.trans s5
    refine ⟨_, rfl, p, dx, _, rfl, s05 _ _ hp, look_jno _ _ (by decide +kernel) (by decide +kernel), p, ds, J, rfl, ja.same s05, O, fun H6 o6 us6 s6 h6 pr6 => ?_⟩
    have s06 := s05.trans s6
    refine ⟨_, rfl, p, dx, _, rfl, s06 _ _ hp, look_jno _ _ (by decide +kernel) (by decide +kernel), p, ds, J, rfl, ja.same s06, O, fun H7 c7 s7 h7 => ?_⟩
    have s07 := s06.trans s7
    refine ⟨_, rfl, p, dx, _, rfl, s07 _ _ hp, look_jno _ _ (by decide +kernel) (by decide +kernel), p, ds, J, rfl, ja.same s07, O, fun H8 d8 s8 h8 => ?_⟩
    have s08 := s07.trans s8
    refine ⟨_, rfl, p, dx, _, rfl, s08 _ _ hp, look_jno _ _ (by decide +kernel) (by decide +kernel), p, ds, J, rfl, ja.same s08, fun H9 e9 s9 h9 => ?_⟩
    have s09 := s08.trans s9
    refine ⟨small (by show 4 ≤ 100000; decide), fun TO nTO => ?_⟩
    obtain ⟨Ha, ea, sa, ha⟩ := mkO nTO (.lst [.ref o6, .ref c7, .ref d8, .ref e9])
    rw [ea]
    have s0a := s09.trans sa
    have s5a := (((s6.trans s7).trans s8).trans s9).trans sa
    have s4a := s5.trans s5a
    refine ⟨_, rfl, .inl ⟨rfl, _, SqL.of ha⟩, _, rfl, c1, _, rfl, .inl (SqL.of (s4a _ _ hc4)), (nL (fin J).c J.n).length, rfl, by omega, by rw [nL_len]; omega, fun EN nEN => ?_⟩
    rw [nL_len]
    refine lc_inv (walk_range (lo := 0) (n := J.n)) (fun j acc G => Same Ha G ∧ ∃ la : List Addr, acc = la.map V.ref ∧ la.length = j ∧ ∀ (l : Nat) q, la[l]? = some q → EsAt (fillH Ha EN G) q l (J.es l)) (fun j acc G xs z => by rw [fill_upd]; exact ⟨own_same z.1 nEN, z.2⟩) ⟨Same.rfl', [], rfl, rfl, fun l q e => by cases e⟩ (fun j acc G hj z => ?_) (fun _ _ _ _ _ => trivial) ?_ ?_
    · obtain ⟨_, la, rfl, la2, _⟩ := z
      rw [List.length_map, la2]
      exact Nat.lt_of_lt_of_le (show j < 100 by omega) (small (by decide))
    · rintro j x acc G G' hj ⟨sb, la, rfl, lla, eal⟩ hD ⟨rfl, hx⟩ N S' hN hS
      cases hx
      have s0b := s0a.trans sb
      refine ⟨rfl, _, rfl, p, dx, _, rfl, s0b _ _ hp, look_jno _ _ (by decide +kernel) (by decide +kernel), _, rfl, p, ds, J, j, ?_, ja.same s0b, O, hj, fun G2 a sc hac => hN _ _ (sc _ _ hD) ⟨sb.trans sc, la ++ [a], by rw [List.map_append]; rfl, by rw [List.length_append, lla]; rfl, fun l q e => ?_⟩⟩
      · show V.ref p :: ([V.int (0 + (j : Nat))] ++ []) = _
        rw [Int.zero_add]
        rfl
      · rcases snoc_get e with e | ⟨rfl, rfl⟩
        · exact (eal l q e).same (fill_same sc)
        · rw [lla]
          exact hac.same (fill_of sb hD)
    rintro acc Hb hEN ⟨sb, la, rfl, lla, eal⟩
    have hTOb := sb _ _ ha
    refine ⟨TO, _, _, rfl, rfl, hTOb, Nat.lt_of_lt_of_le (show 4 < 100 by decide) (small (by decide)), ?_⟩
    have nTO0 : H TO = none := s09.free nTO
    have nTO5 : H5 TO = none := (((s6.trans s7).trans s8).trans s9).free nTO
    have TOEN : TO ≠ EN := fun z => by rw [← z, ha] at nEN; cases nEN
    generalize hHc : upd Hb TO (.lst ([.ref o6, .ref c7, .ref d8, .ref e9] ++ [.ref EN])) = Hc
    have hTOc : Hc TO = some (.lst [.ref o6, .ref c7, .ref d8, .ref e9, .ref EN]) := by rw [← hHc, upd_same]; rfl
    have k9 : ∀ {b : Addr} {o : HO}, H9 b = some o → Hc b = some o := fun e => by
      rw [← hHc, upd_ne (fun z => by rw [z, nTO] at e; cases e)]
      exact sb _ _ (sa _ _ e)
    have k5 : Same H5 Hc := fun b o e => k9 ((((s6.trans s7).trans s8).trans s9) _ _ e)
    have kN : Same (fillH Ha EN Hb) Hc := fun b o e => by
      obtain ⟨x1, x2⟩ := newH_some e
      have ne : b ≠ TO := fun z => by
        rw [z, upd_ne TOEN, ha] at x1
        cases x1
      rw [← hHc, upd_ne ne]
      exact x2
    have hENc : Hc EN = some (.lst (la.map V.ref)) := by rw [← hHc, upd_ne TOEN.symm]; exact hEN
    have hDKc := k5 _ _ hDK
    refine ⟨_, rfl, _, rfl, DK, rfl, ⟨_, SqL.of hDKc⟩, fun X1 nX1 => ?_⟩
    refine lc_acc (walk_list (K := K) (a := DK) (xs := es.map V.ref)) nX1 (fun j => (tL J).take j) rfl (fun j hj => ?_) (fun G s' => SqL.of (s' _ _ hDKc)) ?_ ?_
    · rw [List.length_take, List.length_map, List.length_range]
      omega
    · rintro i x G G' hi sc ⟨rfl, hx⟩ N S' hN hS
      rw [List.length_map] at hi
      obtain ⟨d, hd2, rfl⟩ := ref_get hx
      obtain ⟨dy, e⟩ := da5 i d hd2
      have e' := sc _ _ (k5 _ _ e)
      exact ⟨rfl, _, rfl, d, dy, _, rfl, e', d, _, _, rfl, ⟨dy, e'⟩, hN _ _ Same.rfl' (take_snoc (map_get (f := fun l => V.str (S (J.txt l))) (by omega)))⟩
    intro Hd sc hX1
    have hX1' : Hd X1 = some (.lst (tL J)) := by rw [hX1, List.take_of_length_le (by rw [List.length_map, List.length_range, List.length_map]; omega)]
    have k5d := k5.trans sc
    have hDKd := sc _ _ hDKc
    refine ⟨_, rfl, DK, rfl, ⟨_, SqL.of hDKd⟩, fun X2 nX2 => ?_⟩
    refine lc_acc (walk_list (K := K) (a := DK) (xs := es.map V.ref)) nX2 (fun j => (nL J.sure J.n).take j) rfl (fun j hj => ?_) (fun G s' => SqL.of (s' _ _ hDKd)) ?_ ?_
    · rw [List.length_take, nL_len]
      omega
    · rintro i x G G' hi se ⟨rfl, hx⟩ N S' hN hS
      rw [List.length_map] at hi
      obtain ⟨d, hd2, rfl⟩ := ref_get hx
      obtain ⟨dy, e⟩ := da5 i d hd2
      have e' := se _ _ (k5d _ _ e)
      exact ⟨rfl, _, rfl, d, dy, _, rfl, e', d, _, _, rfl, ⟨dy, e'⟩, hN _ _ Same.rfl' (take_snoc (nL_get (by omega)))⟩
    intro He se hX2
    have hX2' : He X2 = some (.lst (nL J.sure J.n)) := by rw [hX2, List.take_of_length_le (by rw [nL_len, List.length_map]; omega)]
    have sce := sc.trans se
    refine ⟨small (by show 2 ≤ 100000; decide), fun PL nPL => ?_⟩
    obtain ⟨Hf, ef, sf, hf⟩ := mkO nPL (.lst [.ref X1, .ref X2])
    rw [ef]
    have scf := sce.trans sf
    refine ⟨TO, PL, _, _, rfl, rfl, scf _ _ hTOc, hf, small (by show 7 ≤ 100000; decide), fun TL2 nTL => ?_⟩
    obtain ⟨Hg, eg, sg, hg⟩ := mkO nTL (.lst ([.ref o6, .ref c7, .ref d8, .ref e9, .ref EN] ++ [.ref X1, .ref X2]))
    rw [eg]
    have scg := scf.trans sg
    have k9g : Same H9 Hg := fun b o e => scg _ _ (k9 e)
    have k4g : Same H4 Hg := fun b o e => k9g _ _ ((((s5.trans s6).trans s7).trans s8).trans s9 _ _ e)
    have k0g : Same H Hg := s04.trans k4g
    have k14 : Same H1 Hg := s14.trans k4g
    have k3 : Same H3 Hg := s4.trans k4g
    have k8 : Same H8 Hg := s9.trans k9g
    have k7 : Same H7 Hg := s8.trans k8
    have k6 : Same H6 Hg := s7.trans k7
    have wag := wa.same k0g
    have told : Dp K Hg (.ref TL2) (shD J) := .lst (SqL.of hg) (.cons (dp_o (k6 _ _ (newH_le _ _ h6)) ((pr6.same newH_le).same k6)) (.cons (dp_i (k7 _ _ (newH_le _ _ h7))) (.cons (dp_i (k8 _ _ (newH_le _ _ h8))) (.cons (dp_i (k9g _ _ (newH_le _ _ h9)))
      (.cons (dp_r (scg _ _ hENc) lla fun l q e => (eal l q e).same (kN.trans scg)) (.cons (dp_t ((se.trans (sf.trans sg)) _ _ hX1')) (.cons (dp_i ((sf.trans sg) _ _ hX2')) .nil)))))))
    have due : Dp K Hg (.ref DU) (shD J) := .lst (SqL.of (k4g _ _ h4)) (.cons (dp_o (k14 _ _ ho1') (pr1'.same k14)) (.cons (dp_i (k14 _ _ hc1')) (.cons (dp_i (k3 _ _ hc3')) (.cons (dp_i wag.c) (.cons (dp_r wag.r wag.len wag.es) (.cons (dp_t wag.t) (.cons (dp_i wag.s) .nil)))))))
    have cs : cost (shD J) ≤ sizeLine := Nat.le_trans (cost_sh O) (by rw [sizeLine_eq]; decide)
    refine ⟨_, rfl, TL2, shD J, rfl, told, shw_sh O, dep_sh J, cs, _, rfl, DU, shD J, rfl, due, shw_sh O, dep_sh J, cs, rfl, ?_⟩
    rw [decide_eq_true rfl]
    exact q _ k0g
end
end K77

set_option Elab.async false
set_option linter.all false
set_option maxRecDepth 100000
set_option maxHeartbeats 4000000
/-! L77e: drawn lengths. -/
namespace K77
open PySem PySem.Spec PyProof.Rows L2 LL K75 JN
abbrev s_l_lengths : Stmt := top 66
abbrev n_l_lengths : List Str := ["_law_pot_here", "_law_world_here", "_law_found", "_law_text", "_law_sure"]
theorem sc_l_lengths : FnScope n_l_lengths ["_law_pot_here", "_law_world_here"] (defScope s_l_lengths) := ⟨rfl, rfl, rfl, by decide +kernel, rfl, by decide +kernel, by decide +kernel⟩
section
variable {P : Program} {w : World} {K : PySem.W.Frag} {mg : Str → Option Value} {base : Heap} {CD CJ : Addr} {f : Addr} {fd : FuncData}
theorem WAt.but {H H' : Hp} {W p : Addr} {A : Wa} {J : Jr} (h : WAt H W A J) (b : But p H H') (hp : PotAt H p) (n : p ∉ A.all) : WAt H' W A J := by
  obtain ⟨x, y, e, _⟩ := hp
  have m : ∀ {a : Addr}, a ∈ A.all → a ≠ p := fun h e => n (by rw [← e]; exact h)
  have kt : KT H H' := fun c ys z => b _ _ z fun q => by rw [q, e] at z; cases z
  refine ⟨b _ _ h.d fun z => ?_, b _ _ h.c (m (by simp [Wa.all])), b _ _ h.r (m (by simp [Wa.all])), b _ _ h.t (m (by simp [Wa.all])), b _ _ h.s (m (by simp [Wa.all])), h.len, fun l q z => ?_, h.nd⟩
  · have := h.d
    rw [z, e] at this
    cases this
  · obtain ⟨vs, u, v⟩ := h.es l q z
    exact ⟨vs, b _ _ u (m (by simp only [Wa.all, List.mem_cons]; exact .inr (.inr (.inr (.inr (List.mem_of_getElem? z)))))), v.kt kt⟩
def spLen : Sp := fun vs H Q _ => ∃ (p W : Addr) (A : Wa) (J : Jr), vs = [.ref p, .ref W] ∧ PotAt H p ∧ p ∉ A.all ∧ WAt H W A J ∧ OkJ J ∧ ∀ H' a f, But p H H' → PotAt H' p → H a = none → H' a = some (.lst (nL f J.n)) → (∀ l, l < J.n → J.sure l ≤ f l ∧ f l ≤ (J.txt l).length) → Q (.ref a) H'
theorem ok_l_lengths (T : Tx K mg CD CJ) (G_l_take : Fnc P w K mg base CX0 1 "_law_take" [] spTake) (F : FD K "_law_lengths" "_law_lengths" s_l_lengths [] f fd) : FnG P w K mg base CX0 2 f fd ["_law_pot_here", "_law_world_here"] spLen := by
  refine ok0 F sc_l_lengths (fun vs H Q E h => ?_) (fun cdv A outer s H vs Q E hr h => ?_)
  · obtain ⟨p, W, A, J, rfl, _⟩ := h
    rfl
  · obtain ⟨p, W, A, J, rfl, hpt, np, wa, O, q⟩ := h
    refine ⟨_, (pss_cons (ps_set (i := 2) sc_l_lengths.nd rfl (by first | exact Or.inl rfl | exact Or.inr rfl) (pe_lst pa_nil))
      (pss_cons (ps_for PassesOwn.never rfl (pi_zip (by rfl) T.n_zip (pa_cons (pe_dget (un1 hr.r.units) (pv 1) pe_str (fun _ _ => rfl)) (pa_cons (pe_dget (un1 hr.r.units) (pv 1) pe_str (fun _ _ => rfl)) pa_nil))) (pg_tup rfl (pgs_cons (pg_name (i := 3) sc_l_lengths.nd rfl (by first | exact Or.inl rfl | exact Or.inr rfl)) (pgs_cons (pg_name (i := 4) sc_l_lengths.nd rfl (by first | exact Or.inl rfl | exact Or.inr rfl)) pgs_nil))) (pss_one (ps_expr (pe_bm PySem.F.plainAttrs_list PySem.F.slot_list_append PySem.F.type_list_append mt_append (pv 2) (pa_cons (pe_ix ix_list (pe_lst (pa_cons (pv 4) (pa_cons (pe_callB call_len_str (by rfl) T.n_len (by decide +kernel) (pa_cons (pv 3) pa_nil)) (pa_cons (pe_op op_add (pv 4) (pe_fn G_l_take (hr.mono (by decide)) pass0 (pa_cons (pv 0) (pa_cons (pe_op op_add (pe_op op_sub (pe_callB call_len_str (by rfl) T.n_len (by decide +kernel) (pa_cons (pv 3) pa_nil)) (pv 4)) pe_int) pa_nil)))) pa_nil)))) (pe_fn G_l_take (hr.mono (by decide)) pass0 (pa_cons (pv 0) (pa_cons pe_int pa_nil))) (fun _ _ => rfl)) pa_nil)))))
      (pss_one (ps_ret (pv 2))))), ?_⟩
    refine ⟨small (by show 0 ≤ 100000; decide), fun D nD => ?_⟩
    have pD : D ≠ p := hpt.ne nD
    obtain ⟨G1, e1, s1, h1⟩ := mkO nD (.lst [])
    rw [e1]
    have wa1 := wa.same s1
    refine ⟨_, rfl, W, _, rfl, wa1.gt, _, rfl, W, _, rfl, wa1.gs, A.t, A.s, _, _, rfl, SqL.of wa1.t, SqL.of wa1.s, ?_⟩
    refine for_it (walk_zip (K := K) (a := A.t) (b := A.s) (xs := tL J) (ys := nL J.sure J.n) (n := J.n) (by rw [List.length_map, List.length_range, nL_len, Nat.min_self])) (fun i σ G => But p H G ∧ PotAt G p ∧ (∃ g : Nat → Nat, G D = some (.lst (nL g i)) ∧ ∀ l, l < i → J.sure l ≤ g l ∧ g l ≤ (J.txt l).length) ∧ ∃ u v, σ = [some (.ref p), some (.ref W), some (.ref D), u, v])
      ⟨.of s1, hpt.same s1, ⟨fun _ => 0, h1, fun l hl => absurd hl (Nat.not_lt_zero l)⟩, none, none, rfl⟩ (fun i σ G _ z => ⟨SqL.of (wa.but z.1 hpt np).t, SqL.of (wa.but z.1 hpt np).s⟩) ?_ ?_
    · rintro i x σ G G' hi ⟨b2, hp2, ⟨g, hD, hg⟩, u, v, rfl⟩ ⟨t, y, zz, rfl, nt, rfl, hy, hz⟩
      have hz' : V.int (J.sure i) = zz := Option.some.inj ((nL_get hi).symm.trans hz)
      subst hz'
      have hy' : V.str (S (J.txt i)) = y := Option.some.inj ((map_get (f := fun l => V.str (S (J.txt l))) hi).symm.trans hy)
      subst hy'
      obtain ⟨G4, e4, s4, ht4⟩ := mkO nt (.tup [.str (S (J.txt i)), .int (J.sure i)])
      rw [e4]
      have sl : (S (J.txt i)).length = (J.txt i).length := TL.len_tl _
      have tlen := O.txt_len hi
      have su := O.sure i hi
      have hp4 := hp2.same s4
      have b4 := b2.trans (But.of s4)
      have hD4 := s4 _ _ hD
      refine ⟨t, _, rfl, SqT.of ht4, rfl, _, _, rfl, _, _, rfl, rfl, ?_⟩
      refine ⟨_, rfl, .inl ⟨rfl, _, SqL.of hD4⟩, ?_⟩
      refine ⟨_, rfl, _, rfl, _, rfl, small (by omega), _, rfl, _, rfl, _, rfl, _, rfl, small (by omega), _, rfl, _, _, rfl, rfl, _, _, rfl, rfl, p, _, rfl, hp4, by omega, by omega, fun G5 d b5 hp5 d0 d1 => ?_⟩
      refine ⟨_, _, rfl, rfl, small (by show 3 ≤ 100000; decide), fun L nL1 => ?_⟩
      obtain ⟨G6, e6, s6, h6⟩ := mkO nL1 (.lst [.int (J.sure i), .int ((S (J.txt i)).length : Nat), .int (((J.sure i : Nat) : Int) + d)])
      rw [e6]
      have hp6 := hp5.same s6
      refine ⟨_, rfl, p, 3, rfl, hp6, by decide, by decide, fun G7 k b7 hp7 k0 k1 => ?_⟩
      have pL : L ≠ p := hp5.ne nL1
      have h7 := b7 _ _ h6 pL
      obtain ⟨m, hm, m1, m2⟩ : ∃ m : Nat, atI [V.int (J.sure i), V.int ((S (J.txt i)).length : Nat), V.int (((J.sure i : Nat) : Int) + d)] k = some (.int m) ∧ J.sure i ≤ m ∧ m ≤ (J.txt i).length := by
        obtain ⟨d', rfl⟩ := Int.eq_ofNat_of_zero_le d0
        rw [sl] at d1
        rcases (show k = 0 ∨ k = 1 ∨ k = 2 by omega) with rfl | rfl | rfl
        · exact ⟨J.sure i, rfl, Nat.le_refl _, su⟩
        · exact ⟨(J.txt i).length, by rw [sl]; rfl, su, Nat.le_refl _⟩
        · exact ⟨J.sure i + d', rfl, by omega, by omega⟩
      have hD7 := b7 _ _ (s6 _ _ (b5 _ _ hD4 pD)) pD
      refine ⟨L, _, _, _, rfl, rfl, SqL.of h7, hm, D, _, _, rfl, rfl, hD7, Nat.lt_of_lt_of_le (show (nL g i).length < 100 by rw [nL_len]; have := O.n8; omega) (small (by decide)), ?_⟩
      have bb := ((b4.trans b5).trans (But.of s6)).trans b7
      refine ⟨fun b o e n => ?_, hp7.but but_upd pD.symm, ⟨fun l => if l = i then m else g l, ?_, fun l hl => ?_⟩, _, _, rfl⟩
      · rw [upd_ne (ne_of_none e nD)]
        exact bb b o e n
      · rw [upd_same]
        have : nL (fun l => if l = i then m else g l) (i + 1) = nL g i ++ [.int (m : Nat)] := by
          unfold nL
          rw [List.range_succ, List.map_append]
          congr 1
          · refine List.map_congr_left fun l hl => ?_
            have := List.mem_range.mp hl
            dsimp only
            rw [if_neg (by omega)]
          · show [V.int (((if i = i then m else g i) : Nat) : Int)] = _
            rw [if_pos rfl]
        rw [this]
      · dsimp only
        by_cases c : l = i
        · rw [if_pos c, c]
          exact ⟨m1, m2⟩
        · rw [if_neg c]
          exact hg l (by omega)
    · rintro σ G ⟨b2, hp2, ⟨g, hD, hg⟩, u, v, rfl⟩
      exact ⟨_, rfl, q _ D g b2 hp2 nD hD hg⟩
end
end K77

set_option Elab.async false
set_option linter.all false
set_option maxRecDepth 100000
set_option maxHeartbeats 4000000
/-! L77f: a sync. -/
namespace K77
open PySem PySem.Spec PyProof.Rows L2 LL K75 JN
abbrev s_l_synced : Stmt := top 65
abbrev n_l_synced : List Str := ["_law_pot_here", "_law_journal", "_law_world_here", "_law_lanes", "_law_one", "_law_other", "_law_way", "_law_sure", "_law_lane"]
theorem sc_l_synced : FnScope n_l_synced ["_law_pot_here", "_law_journal", "_law_world_here"] (defScope s_l_synced) := ⟨rfl, rfl, rfl, by decide +kernel, rfl, by decide +kernel, by decide +kernel⟩
section
variable {P : Program} {w : World} {K : PySem.W.Frag} {mg : Str → Option Value} {base : Heap} {CD CJ : Addr} {f : Addr} {fd : FuncData}
/-- the journal's own two lists are none of these -/
def JSep (CJ : Addr) (H : Hp) (j : Addr) (L : List Addr) : Prop := ∀ dx pd pc, H j = some (.ins CJ dx (jfl pd pc)) → pd ∉ L ∧ pc ∉ L
theorem JSep.of {H H' : Hp} {j : Addr} {L : List Addr} (h : JSep CJ H j L) (e : H' j = H j) : JSep CJ H' j L := fun dx pd pc k => h dx pd pc (by rw [← e]; exact k)
theorem JSep.sub {H : Hp} {j : Addr} {L M : List Addr} (h : JSep CJ H j L) (s : ∀ a ∈ M, a ∈ L) : JSep CJ H j M := fun dx pd pc k => ⟨fun z => (h dx pd pc k).1 (s _ z), fun z => (h dx pd pc k).2 (s _ z)⟩
/-- a journal stays where lists that are not its own change -/
theorem JAt.lists {H H' : Hp} {j : Addr} {ds L : List Addr} {J : Jr} (h : JAt CD CJ H j ds J) (hs : JSep CJ H j L) (hl : ∀ a ∈ L, ∃ xs, H a = some (.lst xs)) (c : Chg L H H') : JAt CD CJ H' j ds J ∧ H' j = H j := by
  obtain ⟨dx, pd, pc, a, b, e⟩ := h.ex
  obtain ⟨n1, n2⟩ := hs dx pd pc a
  have ni : ∀ {x C dy : Addr} {fs : List (Str × V)}, H x = some (.ins C dy fs) → x ∉ L := fun k z => by
    obtain ⟨xs, q⟩ := hl _ z
    rw [k] at q
    cases q
  have hj := c _ _ a (ni a)
  refine ⟨⟨⟨dx, pd, pc, hj, c _ _ b n1, c _ _ e n2⟩, h.len, h.nd, fun l d k => ?_⟩, by rw [hj, a]⟩
  obtain ⟨dy, q⟩ := h.at_ l d k
  exact ⟨dy, c _ _ q (ni q)⟩
/-- .. beside a draw -/
theorem JAt.draw {H H' : Hp} {j p : Addr} {ds L : List Addr} {J : Jr} (h : JAt CD CJ H j ds J) (hs : JSep CJ H j L) (hp : p ∈ L) (pt : PotAt H p) (b : But p H H') : JAt CD CJ H' j ds J ∧ H' j = H j :=
  h.lists (L := [p]) (hs.sub fun a ha => by rw [List.mem_singleton.mp ha]; exact hp) (fun a ha => by
    obtain ⟨x, y, e, _⟩ := pt
    rw [List.mem_singleton.mp ha]
    exact ⟨_, e⟩) (Chg.but (List.mem_singleton.mpr rfl) b)
/-- the world stays where disks change -/
theorem WAt.disks {H H' : Hp} {W : Addr} {A : Wa} {J : Jr} {ds : List Addr} (h : WAt H W A J) (hd : ∀ d ∈ ds, ∃ z n, DAt CD H d z n) (c : Chg ds H H') : WAt H' W A J := by
  have ni : ∀ {x : Addr} {o : HO}, H x = some o → (∀ C dy fs, o ≠ .ins C dy fs) → x ∉ ds := fun k n z => by
    obtain ⟨_, _, dy, q⟩ := hd _ z
    rw [k] at q
    exact n _ _ _ (Option.some.inj q)
  have nl : ∀ {x : Addr} {xs : List V}, H x = some (.lst xs) → H' x = some (.lst xs) := fun k => c _ _ k (ni k fun _ _ _ z => by cases z)
  have kt : KT H H' := fun x ys k => c _ _ k (ni k fun _ _ _ z => by cases z)
  exact ⟨c _ _ h.d (ni h.d fun _ _ _ z => by cases z), nl h.c, nl h.r, nl h.t, nl h.s, h.len, fun l q e => by
    obtain ⟨vs, u, v⟩ := h.es l q e
    exact ⟨vs, nl u, v.kt kt⟩, h.nd⟩
theorem PotAt.disks {H H' : Hp} {p : Addr} {ds : List Addr} (h : PotAt H p) (hd : ∀ d ∈ ds, ∃ z n, DAt CD H d z n) (c : Chg ds H H') : PotAt H' p := by
  obtain ⟨x, y, e, z⟩ := h
  refine ⟨x, y, c _ _ e fun k => ?_, z⟩
  obtain ⟨_, _, dy, q⟩ := hd _ k
  rw [e] at q
  cases q
theorem JAt.dd {H : Hp} {j : Addr} {ds : List Addr} {J : Jr} (h : JAt CD CJ H j ds J) : ∀ d ∈ ds, ∃ z n, DAt CD H d z n := fun d hd => by
  obtain ⟨l, e⟩ := List.getElem?_of_mem hd
  exact ⟨_, _, h.at_ l d e⟩
theorem WAt.ne {H : Hp} {W : Addr} {A : Wa} {J : Jr} (h : WAt H W A J) {a : Addr} {xs : List V} (e : H a = some (.lst xs)) : W ≠ a := fun z => by
  have := h.d
  rw [z, e] at this
  cases this
theorem WAt.sureC {H H' : Hp} {W : Addr} {A : Wa} {J : Jr} {g : Nat → Bool} (h : WAt H W A J) (b : But A.s H H') (hs : H' A.s = some (.lst (nL (syncJ J g).sure J.n))) : WAt H' W A (syncJ J g) := by
  have nd := h.nd
  have kt : KT H H' := fun c ys z => b _ _ z fun q => by rw [q, h.s] at z; cases z
  simp only [Wa.all, List.nodup_cons, List.mem_cons, not_or] at nd
  obtain ⟨⟨_, _, cs, _⟩, ⟨_, rs, _⟩, ⟨ts, _⟩, sr, _⟩ := nd
  refine ⟨b _ _ h.d (h.ne h.s), b _ _ h.c cs, b _ _ h.r rs, b _ _ h.t ts, hs, h.len, fun l q e => ?_, h.nd⟩
  obtain ⟨vs, u, v⟩ := h.es l q e
  exact ⟨vs, b _ _ u (fun z => sr (by rw [← z]; exact List.mem_of_getElem? e)), v.kt kt⟩
def spSynd (CD CJ : Addr) : Sp := fun vs H Q _ => ∃ (p j W : Addr) (ds : List Addr) (A : Wa) (J : Jr), vs = [.ref p, .ref j, .ref W] ∧ PotAt H p ∧ p ∉ A.all ∧ JAt CD CJ H j ds J ∧ JSep CJ H j (p :: A.all) ∧ WAt H W A J ∧ OkJ J ∧ ∀ H' g, Chg (p :: A.s :: ds) H H' → PotAt H' p → JAt CD CJ H' j ds (syncJ J g) → WAt H' W A (syncJ J g) → Q .non H'
theorem ok_l_synced (T : Tx K mg CD CJ) (G_l_take : Fnc P w K mg base CX0 1 "_law_take" [] spTake) (M_J_sync : Mts P w K mg base CX0 3 CJ "sync" (spStar 1 (spSyn CD CJ))) (F : FD K "_law_synced" "_law_synced" s_l_synced [] f fd) : FnG P w K mg base CX0 4 f fd ["_law_pot_here", "_law_journal", "_law_world_here"] (spSynd CD CJ) := by
  refine ok0 F sc_l_synced (fun vs H Q E h => ?_) (fun cdv A outer s H vs Q E hr h => ?_)
  · obtain ⟨p, j, W, ds, A, J, rfl, _⟩ := h
    rfl
  · obtain ⟨p, j, W, ds, A, J, rfl, hpt, np, ja, js, wa, O, q⟩ := h
    refine ⟨_, (pss_cons (ps_set (i := 3) sc_l_synced.nd rfl (by first | exact Or.inl rfl | exact Or.inr rfl) (pe_callB call_len_seq (by rfl) T.n_len (by decide +kernel) (pa_cons (pe_dget (un1 hr.r.units) (pv 2) pe_str (fun _ _ => rfl)) pa_nil)))
      (pss_cons (ps_par3 (i := 4) (j := 5) (l := 6) rfl sc_l_synced.nd rfl rfl rfl (by decide) (by decide) (by decide) rfl rfl rfl (pa_cons (pe_fn G_l_take (hr.mono (by decide)) pass0 (pa_cons (pv 0) (pa_cons (pv 3) pa_nil))) (pa_cons (pe_fn G_l_take (hr.mono (by decide)) pass0 (pa_cons (pv 0) (pa_cons (pv 3) pa_nil))) (pa_cons (pe_fn G_l_take (hr.mono (by decide)) pass0 (pa_cons (pv 0) (pa_cons pe_int pa_nil))) pa_nil))) (by rfl))
      (pss_cons (ps_if (pt_cmpR op_eq (pv 6) pe_int (nomark _)) (pss_one (ps_expr (pe_ms0 M_J_sync (hr.mono (by decide)) pass0 (pv 1)))) (pss_one (ps_if (pt_cmpR op_eq (pv 6) pe_int (nomark _)) (pss_one (ps_expr (pe_ms M_J_sync (hr.mono (by decide)) pass0 (pv 1) (pa_cons (pv 4) (pa_cons (pv 5) pa_nil))))) (pss_one (ps_expr (pe_ms M_J_sync (hr.mono (by decide)) pass0 (pv 1) (pa_cons (pv 4) pa_nil)))))))
      (pss_cons (ps_set (i := 7) sc_l_synced.nd rfl (by first | exact Or.inl rfl | exact Or.inr rfl) (pe_dget (un1 hr.r.units) (pv 2) pe_str (fun _ _ => rfl)))
      (pss_one (ps_for PassesOwn.never rfl (pi_list (pe_ix ix_list (pe_lst (pa_cons (pe_listRg rfl (by rfl) T.n_list (prg_1 (by rfl) T.n_range (pv 3))) (pa_cons (pe_lst (pa_cons (pv 4) (pa_cons (pv 5) pa_nil))) (pa_cons (pe_lst (pa_cons (pv 4) pa_nil)) (pa_cons (pe_lst (pa_cons (pv 4) pa_nil)) pa_nil))))) (pv 6) (fun _ _ => rfl))) (pg_name (i := 8) sc_l_synced.nd rfl (by first | exact Or.inl rfl | exact Or.inr rfl)) (pss_one (ps_asg (pe_callB call_len_str (by rfl) T.n_len (by decide +kernel) (pa_cons (pe_ix ix_list (pe_dget (un1 hr.r.units) (pv 2) pe_str (fun _ _ => rfl)) (pv 8) (fun _ _ => rfl)) pa_nil)) (pg_sub (pv 7) (pv 8) set_list))))))))), ?_⟩
    have o8 := O.n8
    have o1 := O.pos
    have mp : p ∈ p :: A.all := List.mem_cons_self ..
    refine ⟨_, rfl, W, _, rfl, wa.gc, A.c, _, rfl, .inl (SqL.of wa.c), ?_⟩
    rw [nL_len]
    refine ⟨_, rfl, _, rfl, p, J.n, rfl, hpt, by omega, by omega, fun H1 d1 b1 hp1 x0 x1 => ⟨_, rfl, _, rfl, p, J.n, rfl, hp1, by omega, by omega, fun H2 d2 b2 hp2 y0 y1 => ⟨_, rfl, p, 4, rfl, hp2, by decide, by decide, fun H3 d3 b3 hp3 z0 z1 => ⟨_, _, _, rfl, ?_⟩⟩⟩⟩
    obtain ⟨a, rfl⟩ := Int.eq_ofNat_of_zero_le x0
    obtain ⟨b, rfl⟩ := Int.eq_ofNat_of_zero_le y0
    obtain ⟨k, rfl⟩ := Int.eq_ofNat_of_zero_le z0
    have b03 := (b1.trans b2).trans b3
    obtain ⟨ja3, jj3⟩ := ja.draw js mp hpt b03
    have wa3 := wa.but b03 hpt np
    obtain ⟨dx, pd, pc, hj3, _, _⟩ := ja3.ex
    refine nm_of ?_
    dsimp only
    refine seq_cut (fun σ' H' => Chg ds H3 H' ∧ (∃ ls : List Nat, JAt CD CJ H' j ds (syncJ J fun l => decide (ls = []) || decide (l ∈ ls)) ∧ (∀ l ∈ ls, l < J.n) ∧ ls = (if k = 0 then [] else if k = 1 then [a, b] else [a])) ∧ σ' = [some (.ref p), some (.ref j), some (.ref W), some (.int (J.n : Nat)), some (.int (a : Nat)), some (.int (b : Nat)), some (.int (k : Nat)), none, none]) (fun N hN => ?_) ?_
    · have go : ∀ (ls : List Nat) (R : VK), (∀ l ∈ ls, l < J.n) → ls.length ≤ 8 → (∀ H', Chg ds H3 H' → JAt CD CJ H' j ds (syncJ J fun l => decide (ls = []) || decide (l ∈ ls)) → R .non H') → spStar 1 (spSyn CD CJ) (.ref j :: (ls.map fun l => V.int (l : Nat))) H3 R E0 := fun ls R h1 h2 h3 => by
        refine ⟨[.ref j], _, rfl, rfl, small (by rw [List.length_map]; omega), fun t nt => ⟨j, t, ds, J, ls, rfl, ja3.same (same_upd nt), O, upd_same, h1, h2, fun H' c ja' => h3 H' (fun x o e n => c x o (same_upd nt _ _ e) n) ja'⟩⟩
      refine ⟨_, rfl, rfl, _, rfl, iteB (fun c => ?_) (fun c => ?_)⟩
      · have k0 : k = 0 := by have := V.int.inj (of_decide_eq_true c); omega
        exact ⟨_, rfl, j, dx, _, rfl, hj3, look_jno _ _ (by decide +kernel) (by decide +kernel), go [] _ (fun l hl => by cases hl) (by decide) fun H' ch ja' => hN _ _ ⟨ch, ⟨[], ja', (fun l hl => by cases hl), by rw [if_pos k0]⟩, rfl⟩⟩
      · have k0 : k ≠ 0 := fun e => of_decide_eq_false c (by rw [e]; rfl)
        refine ⟨_, rfl, rfl, _, rfl, iteB (fun c2 => ?_) (fun c2 => ?_)⟩
        · have k1 : k = 1 := by have := V.int.inj (of_decide_eq_true c2); omega
          exact ⟨_, rfl, j, dx, _, rfl, hj3, look_jno _ _ (by decide +kernel) (by decide +kernel), _, rfl, _, rfl, go [a, b] _ (fun l hl => by simp only [List.mem_cons, List.mem_nil_iff, or_false] at hl; omega) (by show 2 ≤ 8; decide) fun H' ch ja' => hN _ _ ⟨ch, ⟨[a, b], ja', (fun l hl => by simp only [List.mem_cons, List.mem_nil_iff, or_false] at hl; omega), by rw [if_neg k0, if_pos k1]⟩, rfl⟩⟩
        · have k1 : k ≠ 1 := fun e => of_decide_eq_false c2 (by rw [e]; rfl)
          exact ⟨_, rfl, j, dx, _, rfl, hj3, look_jno _ _ (by decide +kernel) (by decide +kernel), _, rfl, go [a] _ (fun l hl => by simp only [List.mem_cons, List.mem_nil_iff, or_false] at hl; omega) (by show 1 ≤ 8; decide) fun H' ch ja' => hN _ _ ⟨ch, ⟨[a], ja', (fun l hl => by simp only [List.mem_cons, List.mem_nil_iff, or_false] at hl; omega), by rw [if_neg k0, if_neg k1]⟩, rfl⟩⟩
    rintro σ' H4 ⟨ch, ⟨ls, ja4, hls, els⟩, rfl⟩
    have wa4 := wa3.disks ja3.dd ch
    have hp4 := hp3.disks ja3.dd ch
    refine ⟨_, rfl, W, _, rfl, wa4.gs, ?_⟩
    refine ⟨_, rfl, J.n, rfl, RgOk.of_le (by decide) (by omega) (by decide) (by omega), fun q1 nq1 => ?_⟩
    have erg : rgV 0 ((J.n : Nat) : Int) = (List.range J.n).map fun l => V.int (l : Nat) := by
      unfold rgV
      rw [show (((J.n : Nat) : Int) - 0).toNat = J.n by omega]
      refine List.map_congr_left fun i _ => ?_
      rw [Int.zero_add]
    rw [erg]
    obtain ⟨G1, e1, s1, h1⟩ := mkO nq1 (.lst ((List.range J.n).map fun l => V.int (l : Nat)))
    rw [e1]
    refine ⟨_, rfl, _, rfl, small (by show 2 ≤ 100000; decide), fun q2 nq2 => ?_⟩
    obtain ⟨G2, e2, s2, h2⟩ := mkO nq2 (.lst [.int (a : Nat), .int (b : Nat)])
    rw [e2]
    refine ⟨_, rfl, small (by show 1 ≤ 100000; decide), fun q3 nq3 => ?_⟩
    obtain ⟨G3, e3, s3, h3⟩ := mkO nq3 (.lst [.int (a : Nat)])
    rw [e3]
    refine ⟨_, rfl, small (by show 1 ≤ 100000; decide), fun q4 nq4 => ?_⟩
    obtain ⟨G4, e4, s4, h4⟩ := mkO nq4 (.lst [.int (a : Nat)])
    rw [e4]
    refine ⟨small (by show 4 ≤ 100000; decide), fun L nL1 => ?_⟩
    obtain ⟨G5, e5, s5, h5⟩ := mkO nL1 (.lst [.ref q1, .ref q2, .ref q3, .ref q4])
    rw [e5]
    have s45 : Same H4 G5 := (((s1.trans s2).trans s3).trans s4).trans s5
    obtain ⟨qk, LS, hat, hqk, hfr, hLS, ek⟩ : ∃ (qk : Addr) (LS : List Nat), atI [V.ref q1, .ref q2, .ref q3, .ref q4] ((k : Nat) : Int) = some (.ref qk) ∧ G5 qk = some (.lst (LS.map fun l => V.int (l : Nat))) ∧ H4 qk = none ∧ (∀ l ∈ LS, l < J.n) ∧ ∀ l, l < J.n → (l ∈ LS ↔ (ls = [] ∨ l ∈ ls)) := by
      rcases (show k = 0 ∨ k = 1 ∨ k = 2 ∨ k = 3 by omega) with rfl | rfl | rfl | rfl
      · refine ⟨q1, List.range J.n, rfl, (((s2.trans s3).trans s4).trans s5) _ _ h1, nq1, fun l hl => List.mem_range.mp hl, fun l hl => ?_⟩
        rw [els]
        simp [hl]
      · refine ⟨q2, [a, b], rfl, ((s3.trans s4).trans s5) _ _ h2, s1.free nq2, fun l hl => by simp only [List.mem_cons, List.mem_nil_iff, or_false] at hl; omega, fun l hl => ?_⟩
        rw [els]
        simp
      · refine ⟨q3, [a], rfl, (s4.trans s5) _ _ h3, (s1.trans s2).free nq3, fun l hl => by simp only [List.mem_cons, List.mem_nil_iff, or_false] at hl; omega, fun l hl => ?_⟩
        rw [els]
        simp
      · refine ⟨q4, [a], rfl, s5 _ _ h4, ((s1.trans s2).trans s3).free nq4, fun l hl => by simp only [List.mem_cons, List.mem_nil_iff, or_false] at hl; omega, fun l hl => ?_⟩
        rw [els]
        simp
    have wa5 := wa4.same s45
    have hks : qk ≠ A.s := fun e => by rw [e, wa4.s] at hfr; cases hfr
    refine ⟨_, rfl, L, _, _, _, rfl, rfl, SqL.of h5, hat, qk, rfl, ⟨_, SqL.of hqk⟩, ?_⟩
    refine for_it (walk_list (K := K) (a := qk) (xs := LS.map fun l => V.int (l : Nat))) (fun i σ G => But A.s G5 G ∧ G A.s = some (.lst (nL (fun l => if l ∈ LS.take i then (J.txt l).length else J.sure l) J.n)) ∧ ∃ v, σ = [some (.ref p), some (.ref j), some (.ref W), some (.int (J.n : Nat)), some (.int (a : Nat)), some (.int (b : Nat)), some (.int (k : Nat)), some (.ref A.s), v])
      ⟨But.refl, by rw [wa5.s]; rfl, none, rfl⟩ (fun i σ G _ z => SqL.of (z.1 _ _ hqk hks)) ?_ ?_
    · rintro i x σ G G' hi ⟨b2, hs, v, rfl⟩ ⟨rfl, hx⟩
      rw [List.getElem?_map] at hx
      obtain ⟨l, hl, rfl⟩ := Option.map_eq_some_iff.mp hx
      have hln := hLS l (List.mem_of_getElem? hl)
      have hW := b2 _ _ wa5.d (wa5.ne wa5.s)
      have gt : DGet G' W (.str "texts") (some (.ref A.t)) := by
        have := DGet.k (k := Sum.inr "texts") hW
        rw [wd_t] at this
        exact this
      have nd := wa.nd
      simp only [Wa.all, List.nodup_cons, List.mem_cons, not_or] at nd
      have ht := b2 _ _ wa5.t nd.2.2.1.1
      have tlen := O.txt_len hln
      have sl : (S (J.txt l)).length = (J.txt l).length := TL.len_tl _
      refine ⟨_, rfl, W, _, rfl, gt, _, rfl, A.t, _, _, _, rfl, rfl, SqL.of ht, atI_nat (map_get (f := fun l => V.str (S (J.txt l))) hln), _, rfl, small (by omega), _, rfl, _, rfl, A.s, _, _, l, rfl, rfl, hs, by rw [nL_len]; exact ixN_nat hln, fun b' o e n => by rw [upd_ne n]; exact b2 _ _ e n, ?_, _, rfl⟩
      rw [upd_same, nL_set hln]
      congr 2
      refine nL_congr fun m _ => ?_
      by_cases c : m = l
      · rw [if_pos c, c, if_pos (by rw [take_snoc hl]; simp), sl]
      · rw [if_neg c, take_snoc hl]
        simp [c]
    · rintro σ G ⟨b2, hs, v, rfl⟩
      rw [List.length_map, List.take_length] at hs
      have es : nL (fun l => if l ∈ LS then (J.txt l).length else J.sure l) J.n = nL (syncJ J fun l => decide (ls = []) || decide (l ∈ ls)).sure J.n := nL_congr fun l hl => by
        show (if l ∈ LS then (J.txt l).length else J.sure l) = (if (decide (ls = []) || decide (l ∈ ls)) = true then (J.txt l).length else J.sure l)
        have := ek l hl
        by_cases c : l ∈ LS
        · rw [if_pos c, if_pos (by simpa using this.mp c)]
        · rw [if_neg c, if_neg (by simpa using fun z => c (this.mpr z))]
      rw [es] at hs
      have hj4 : H4 j = some (.ins CJ dx (jfl pd pc)) := ch _ _ hj3 fun z => by
        obtain ⟨_, _, dy, q1⟩ := ja3.dd _ z
        rw [hj3] at q1
        exact dfl_jfl (HO.ins.inj (Option.some.inj q1)).2.2.symm
      have js5 : JSep CJ G5 j (p :: A.all) := (js.of jj3).of (by rw [s45 _ _ hj4, hj3])
      have cs : Chg [A.s] G5 G := Chg.but (List.mem_singleton.mpr rfl) b2
      obtain ⟨ja6, _⟩ := (ja4.same s45).lists (L := [A.s]) (js5.sub fun x hx => by rw [List.mem_singleton.mp hx]; simp [Wa.all]) (fun x hx => by rw [List.mem_singleton.mp hx]; exact ⟨_, wa5.s⟩) cs
      have pS : p ≠ A.s := fun e => np (by rw [e]; simp [Wa.all])
      refine q G _ ?_ ((hp4.same s45).but b2 pS) ja6 (wa5.sureC b2 hs)
      refine Chg.trans (Chg.trans (Chg.trans (Chg.but (List.mem_cons_self ..) b03) (ch.mono fun x hx => List.mem_cons_of_mem _ (List.mem_cons_of_mem _ hx))) (Chg.of s45)) (Chg.but (List.mem_cons_of_mem _ (List.mem_cons_self ..)) b2)
end
end K77

set_option Elab.async false
set_option linter.all false
set_option maxRecDepth 100000
set_option maxHeartbeats 4000000
/-! L77g: an entry. -/
namespace K77
open PySem PySem.Spec PyProof.Rows L2 LL K75 JN
abbrev s_l_written : Stmt := top 64
abbrev n_l_written : List Str := ["_law_pot_here", "_law_journal", "_law_world_here", "_law_lane", "_law_spots_here", "_law_pairs", "_law_k", "_law_payload", "_law_entry", "_law_told", "_law_rows", "_law_texts"]
theorem sc_l_written : FnScope n_l_written ["_law_pot_here", "_law_journal", "_law_world_here", "_law_lane"] (defScope s_l_written) := ⟨rfl, rfl, rfl, by decide +kernel, rfl, by decide +kernel, by decide +kernel⟩
abbrev s_l_entered : Stmt := top 63
abbrev n_l_entered : List Str := ["_law_pot_here", "_law_journal", "_law_world_here"]
theorem sc_l_entered : FnScope n_l_entered ["_law_pot_here", "_law_journal", "_law_world_here"] (defScope s_l_entered) := ⟨rfl, rfl, rfl, by decide +kernel, rfl, by decide +kernel, by decide +kernel⟩
section
variable {P : Program} {w : World} {K : PySem.W.Frag} {mg : Str → Option Value} {base : Heap} {CD CJ : Addr} {f : Addr} {fd : FuncData}
theorem cut5 {us : List V} (h : us ≠ []) : cutV us (some (-5)) none ≠ [] ∧ ∀ v ∈ cutV us (some (-5)) none, v ∈ us := by
  have e : HT.sIx us.length 0 (some (-5)) = us.length - 5 := by
    show (if (-5 : Int) < 0 then ((-5 : Int) + (us.length : Int)).toNat else min (-5 : Int).toNat us.length) = _
    rw [if_pos (by decide)]
    omega
  have l := List.length_pos_iff.mpr h
  unfold cutV
  rw [HT.sIx_none, e]
  refine ⟨fun z => ?_, fun v hv => List.mem_of_mem_drop (List.mem_of_mem_take hv)⟩
  have := congrArg List.length z
  rw [List.length_take, List.length_drop, List.length_nil] at this
  omega
def OkPay (z : Str) : Prop := 10 ∉ tl z ∧ z.length ≤ 100 ∧ ∀ c ∈ tl z, c < 1000
instance (z : Str) : Decidable (OkPay z) := inferInstanceAs (Decidable (_ ∧ _))
/-- an entry more may be written -/
def May (J : Jr) : Prop := (∀ l, l < J.n → J.tail l = []) ∧ sumTo (fun l => (J.es l).length) J.n + 1 ≤ 63 ∧ ∀ l, l < J.n → J.ends l + 1 < 64
def spWrit (CD CJ : Addr) : Sp := fun vs H Q _ => ∃ (p j W : Addr) (ds : List Addr) (A : Wa) (J : Jr) (l : Nat), vs = [.ref p, .ref j, .ref W, .int l] ∧ l < J.n ∧ PotAt H p ∧ p ∉ A.all ∧ JAt CD CJ H j ds J ∧ JSep CJ H j (p :: A.all) ∧ WAt H W A J ∧ OkJ J ∧ May J ∧ ∀ H' e, Chg (p :: (A.all ++ ds)) H H' → PotAt H' p → JAt CD CJ H' j ds (addJ J l e) → WAt H' W A (addJ J l e) → OkJ (addJ J l e) → Q (.bl true) H'
theorem ok_l_written (T : Tx K mg CD CJ) (G_l_take : Fnc P w K mg base CX0 1 "_law_take" [] spTake) (G_l_pick : Fnc P w K mg base CX0 2 "_law_pick" [] spPick) (G_l_spots : Fnc P w K mg base CX0 2 "_law_spots" [] spSpots) (G_l_ends : Fnc P w K mg base CX0 1 "_law_ends" [] spEnds) (M_J_enter : Mth P w K mg base CX0 7 CJ "enter" [] (spEnter CD CJ)) (G_l_row : Fnc P w K mg base CX0 2 "_law_row" [] spRow) (G_l_record : Fnc P w K mg base CX0 1 "_law_record" [] spErec)
    (F : FD K "_law_written" "_law_written" s_l_written [] f fd) : FnG P w K mg base CX0 8 f fd ["_law_pot_here", "_law_journal", "_law_world_here", "_law_lane"] (spWrit CD CJ) := by
  refine ok0 F sc_l_written (fun vs H Q E h => ?_) (fun cdv A outer s H vs Q E hr h => ?_)
  · obtain ⟨p, j, W, ds, A, J, l, rfl, _⟩ := h
    rfl
  · obtain ⟨p, j, W, ds, A, J, l, rfl, hl, hpt, np, ja, js, wa, O, my, q⟩ := h
    refine ⟨_, (pss_cons (ps_set (i := 4) sc_l_written.nd rfl (by first | exact Or.inl rfl | exact Or.inr rfl) (pe_fn G_l_spots (hr.mono (by decide)) pass0 (pa_cons (pv 2) (pa_cons (pv 3) pa_nil))))
      (pss_cons (ps_set (i := 5) sc_l_written.nd rfl (by first | exact Or.inl rfl | exact Or.inr rfl) (pe_lst pa_nil))
      (pss_cons (ps_if (pt_cmpR (op_neD hr.r.units) (pv 4) (pe_lst pa_nil) (nomark _)) (pss_one (ps_setLc (i := 5) (own := [("_law_k", 6)]) rfl sc_l_written.nd rfl rfl (sw_true rfl rfl rfl (by decide +kernel)) (pi_range1 (by rfl) T.n_range (pa_cons (pe_fn G_l_take (hr.mono (by decide)) pass0 (pa_cons (pv 0) (pa_cons pe_int pa_nil))) pa_nil)) (blkOk_by (own := [("_law_k", 6)]) (N := n_l_written) (sc := defScope s_l_written) (by decide +kernel)) (fun _ _ _ _ _ => (pg_name (i := 6) sc_l_written.nd rfl (by first | exact Or.inl rfl | exact Or.inr rfl))) (fun _ _ _ _ _ => pts_nil) (fun _ _ _ _ _ => (pe_fn G_l_pick (hr.mono (by decide)) pass0 (pa_cons (pv 0) (pa_cons (pe_slice (sl_listK (K := K) (by rfl)) (pv 4) (po_some (pe_un un_neg pe_int)) po_none) pa_nil)))))) pss_nil)
      (pss_cons (ps_set (i := 7) sc_l_written.nd rfl (by first | exact Or.inl rfl | exact Or.inr rfl) (pe_fn G_l_pick (hr.mono (by decide)) pass0 (pa_cons (pv 0) (pa_cons (pe_lst (pa_cons pe_str (pa_cons pe_str (pa_cons pe_str (pa_cons pe_str (pa_cons pe_str (pa_cons pe_str (pa_cons pe_str pa_nil)))))))) pa_nil))))
      (pss_cons (ps_set (i := 8) sc_l_written.nd rfl (by first | exact Or.inl rfl | exact Or.inr rfl) (pe_tup (pa_cons (pv 3) (pa_cons (pe_ix ix_list (pe_fn G_l_ends (hr.mono (by decide)) pass0 (pa_cons (pv 2) pa_nil)) (pv 3) (fun _ _ => rfl)) (pa_cons (pe_callTy call_tuple_of (by rfl) T.n_tuple (by decide +kernel) (pa_cons (pe_callB (cr_sortedT rfl) (by rfl) T.n_sorted (by decide +kernel) (pa_cons (pe_callTy (cr_setQ rfl (un64 hr)) (by rfl) T.n_set (by decide +kernel) (pa_cons (pv 5) pa_nil)) pa_nil)) pa_nil)) (pa_cons (pv 7) pa_nil))))))
      (pss_cons (ps_set (i := 9) sc_l_written.nd rfl (by first | exact Or.inl rfl | exact Or.inr rfl) (pe_mt M_J_enter (hr.mono (by decide)) pass0 (pv 1) (pa_cons (pv 3) (pa_cons (pe_ix ix_list (pe_lst (pa_cons (pv 5) (pa_cons (pe_callTy call_tuple_of (by rfl) T.n_tuple (by decide +kernel) (pa_cons (pv 5) pa_nil)) pa_nil))) (pe_fn G_l_take (hr.mono (by decide)) pass0 (pa_cons (pv 0) (pa_cons pe_int pa_nil))) (fun _ _ => rfl)) (pa_cons (pv 7) pa_nil)))))
      (pss_cons (ps_par (i := 10) (j := 11) rfl sc_l_written.nd rfl rfl (by decide) rfl rfl (pa_cons (pe_ix ix_list (pe_dget (un1 hr.r.units) (pv 2) pe_str (fun _ _ => rfl)) (pv 3) (fun _ _ => rfl)) (pa_cons (pe_dget (un1 hr.r.units) (pv 2) pe_str (fun _ _ => rfl)) pa_nil)) (by rfl))
      (pss_cons (ps_expr (pe_bm PySem.F.plainAttrs_list PySem.F.slot_list_append PySem.F.type_list_append mt_append (pv 10) (pa_cons (pv 8) pa_nil)))
      (pss_cons (ps_asg (pe_op op_add_str (pe_ix ix_list (pv 11) (pv 3) (fun _ _ => rfl)) (pe_fn G_l_row (hr.mono (by decide)) pass0 (pa_cons (pe_fn G_l_record (hr.mono (by decide)) pass0 (pa_cons (pv 8) pa_nil)) pa_nil))) (pg_sub (pv 11) (pv 3) set_list))
      (pss_one (ps_ret (pe_cmpR op_eq (pe_callB call_reprF (by rfl) T.n_repr (by decide +kernel) (pa_cons (pv 9) pa_nil)) (pe_callB call_reprF (by rfl) T.n_repr (by decide +kernel) (pa_cons (pe_ix ix_tup (pv 8) pe_int (fun _ _ => rfl)) pa_nil)) (nomark _))))))))))))), ?_⟩
    refine ⟨_, rfl, _, rfl, W, A, J, l, rfl, wa, O, fun H1 sa us ps s1 hsa prs lps okp => ?_⟩
    have nsa := newH_some hsa
    refine ⟨small (by show 0 ≤ 100000; decide), fun P0 nP0 => ?_⟩
    obtain ⟨H2, e2, s2, h2⟩ := mkO nP0 (.lst [])
    rw [e2]
    have s02 := s1.trans s2
    have hp2 := hpt.same s02
    have pr2 : PrN H2 us ps := (prs.same newH_le).same s2
    have hsa2 := s2 _ _ nsa.2
    have sap : sa ≠ p := hpt.ne nsa.1
    refine nm_of ?_
    dsimp only
    refine seq_cut (fun σ' G => But p H2 G ∧ PotAt G p ∧ (∃ (qp : Addr) (vs : List V) (rs : List (Nat × Nat)), G qp = some (.lst vs) ∧ H1 qp = none ∧ PrN G vs rs ∧ rs.length ≤ 3 ∧ (∀ x ∈ rs, x ∈ ps) ∧ σ' = [some (.ref p), some (.ref j), some (.ref W), some (.int (l : Nat)), some (.ref sa), some (.ref qp), none, none, none, none, none, none])) (fun N hN => ?_) ?_
    · have pn0 : Pn 1 (.list []) := fun d hd => by cases hd
      refine ⟨_, rfl, small (by show 0 ≤ 100000; decide), fun E nE => ?_⟩
      obtain ⟨H3, e3, s3, h3⟩ := mkO nE (.lst [])
      rw [e3]
      have hp3 := hp2.same s3
      have hsa3 := s3 _ _ hsa2
      have pr3 : PrN H3 us ps := pr2.same s3
      refine ne_pd (.lst (SqL.of hsa3) (dp_ips pr3)) (.lst (SqL.of h3) .nil) (pn_ips _) pn0 fun b hb => ⟨_, rfl, iteB (fun c => ?_) (fun c => ?_)⟩
      · have hne : ps ≠ [] := fun e => by rw [hb.mpr (by rw [e]; rfl)] at c; cases c
        have hus : us ≠ [] := fun e => by
          have := pr3.len'
          rw [e] at this
          exact hne (List.length_eq_zero_iff.mp this.symm)
        refine ⟨_, rfl, p, 4, rfl, hp3, by decide, by decide, fun G1 d b1 hp1 d0 d1 => ⟨d, rfl, by omega, by omega, fun D nD => ?_⟩⟩
        obtain ⟨dn, rfl⟩ := Int.eq_ofNat_of_zero_le d0
        have hsa4 := b1 _ _ hsa3 sap
        have kt1 : KT H3 G1 := fun x ys z => b1 _ _ z fun e => by
          obtain ⟨_, _, k, _⟩ := hp3
          rw [e, k] at z
          cases z
        have pr4 : PrN G1 us ps := pr3.kt kt1
        refine lc_inv (walk_range (lo := 0) (n := dn)) (fun j acc G => But p G1 G ∧ PotAt G p ∧ (∀ ys, G D ≠ some (.tup ys)) ∧ ∃ rs, PrN G acc rs ∧ rs.length = j ∧ ∀ x ∈ rs, x ∈ ps) (fun j acc G xs z => ?_) ⟨But.refl, hp1, (fun ys e => by rw [nD] at e; cases e), [], PrN.nil, rfl, fun x hx => by cases hx⟩ (fun j acc G hj z => ?_) (fun _ _ _ _ _ => trivial) ?_ ?_
        · obtain ⟨x1, x2, x3, rs, x4, x5, x6⟩ := z
          exact ⟨fun b o e n => by rw [upd_ne (ne_of_none e nD)]; exact x1 b o e n, x2.but but_upd (hp1.ne nD).symm, (fun ys e => by rw [upd_same] at e; cases e), rs, x4.kt (KT.upd x3), x5, x6⟩
        · obtain ⟨_, _, _, rs, x4, x5, _⟩ := z
          have := PrN.len' x4
          exact Nat.lt_of_lt_of_le (show acc.length < 100 by omega) (small (by decide))
        · rintro i x acc G2 G3 hi ⟨b2, hpa, nt2, rs, pra, lra, mra⟩ hD ⟨rfl, hx⟩ N2 S2 hN2 hS2
          have hsa5 := b2 _ _ hsa4 sap
          refine ⟨rfl, _, rfl, _, rfl, 5, rfl, -5, rfl, sa, us, rfl, SqL.of hsa5, fun X nX => ?_⟩
          obtain ⟨G4, e4, s4, h4⟩ := mkO nX (.lst (cutV us (some (-5)) none))
          rw [e4]
          have lus : us.length = ps.length := pr4.len'
          obtain ⟨c1, c2⟩ := cut5 hus
          refine ⟨p, _, rfl, hpa.same s4, .inl ⟨X, _, rfl, h4, c1, Nat.le_trans (cutV_length _ _ _) (by omega), hpa.ne nX, fun G5 v b5 hp5 hv => ?_⟩⟩
          obtain ⟨k, hk⟩ := List.getElem?_of_mem (c2 v hv)
          have hkl := (List.getElem?_eq_some_iff.mp hk).1
          have hpk := List.getElem?_eq_getElem (show k < ps.length by omega)
          obtain ⟨tk, rfl, htk⟩ := pr4.get hk hpk
          have npt : ∀ {G : Hp} {x : Addr} {ys : List V}, PotAt G p → G x = some (.tup ys) → x ≠ p := fun h z e => by
            obtain ⟨_, _, w, _⟩ := h
            rw [e, w] at z
            cases z
          have b15 := (b2.trans (But.of s4)).trans b5
          have htk5 := b15 _ _ htk (npt hp1 htk)
          have Dp0 : D ≠ p := hp1.ne nD
          have hD5 := b5 _ _ (s4 _ _ hD) Dp0
          have kt5 : KT G3 G5 := fun y ys z => b5 _ _ (s4 _ _ z) (npt (hpa) z)
          refine hN2 _ _ hD5 ⟨b15, hp5, (fun ys e => by rw [hD5] at e; cases e), rs ++ [ps[k]], PrN.snoc (PrN.kt pra kt5) htk5, by rw [List.length_append, lra]; rfl, fun y hy => ?_⟩
          rcases List.mem_append.mp hy with hy | hy
          · exact mra y hy
          · rw [List.mem_singleton.mp hy]
            exact List.getElem_mem _
        · rintro acc G2 hD ⟨b2, hpa, _, rs, pra, lra, mra⟩
          have nD1 : H1 D = none := by
            cases e : H1 D with
            | none => rfl
            | some o => rw [b1 _ _ (s3 _ _ (s2 _ _ e)) (hp1.ne nD)] at nD; cases nD
          exact hN _ _ ⟨((But.of s3).trans b1).trans b2, hpa, D, acc, rs, hD, nD1, pra, by omega, mra, rfl⟩
      · exact hN _ _ ⟨But.of s3, hp3, P0, [], [], s3 _ _ h2, nP0, PrN.nil, Nat.zero_le _, (fun x hx => by cases hx), rfl⟩
    rintro σ' G0 ⟨b0, hp0, qp, vs, rs, hqp, nqp, pr0, lrs, mrs, rfl⟩
    have wa0 := (wa.same s02).but b0 hp2 np
    have qpp : qp ≠ p := hpt.ne (s1.free nqp)
    refine ⟨_, rfl, small (by show 7 ≤ 100000; decide), fun X nX => ?_⟩
    obtain ⟨G1, e1, s3, h3⟩ := mkO nX (.lst [.str "run a", .str "", .str " x  y ", .str "0 - z", .str "module m|n", .str "1.0,2.1", .str "9 run"])
    rw [e1]
    refine ⟨p, _, rfl, hp0.same s3, .inl ⟨X, _, rfl, h3, by simp, by show 7 ≤ 1000; decide, hp0.ne nX, fun G2 v b2 hp2' hv => ?_⟩⟩
    obtain ⟨pay, rfl, op⟩ : ∃ z, v = .str z ∧ OkPay z := by
      simp only [List.mem_cons, List.mem_nil_iff, or_false] at hv
      rcases hv with rfl | rfl | rfl | rfl | rfl | rfl | rfl <;> exact ⟨_, rfl, by decide +kernel⟩
    have b02 := (But.of s3).trans b2
    have wa2 := wa0.but b02 hp0 np
    have hqp2 := b02 _ _ hqp qpp
    have kt2 : KT G0 G2 := fun x ys z => b02 _ _ z fun e => by
      obtain ⟨_, _, k, _⟩ := hp0
      rw [e, k] at z
      cases z
    have pr2' : PrN G2 vs rs := PrN.kt pr0 kt2
    refine ⟨_, rfl, _, rfl, W, A, J, rfl, wa2, O, fun G3 ea s4 hea => ?_⟩
    have hea3 := newH_le _ _ hea
    refine ⟨_, rfl, ea, _, _, _, rfl, rfl, SqL.of hea3, nL_at hl, _, rfl, ?_⟩
    dsimp only [tNil]
    have ob : ∀ x ∈ rs, x.1 < J.n ∧ x.1 ≠ l ∧ x.2 < J.ends x.1 := fun x hx => okp x (mrs x hx)
    refine set_sort (.inl (s4 _ _ hqp2)) (pr2'.same s4) (by omega) (fun x hx => by obtain ⟨a, _, c⟩ := ob x hx; have := O.ends _ a; have := O.n8; omega) fun G4 r us4 s5 nr hr4 pr4 => ?_
    refine ⟨r, us4, rfl, .inl ⟨SqL.of hr4, fun T1 nT => ⟨_, rfl, small (by show 4 ≤ 100000; decide), fun u nu => ?_⟩⟩⟩
    have s7 := (same_upd (o := .tup us4) nT).trans (same_upd (o := .tup [.int l, .int (J.ends l), .ref T1, .str pay]) nu)
    generalize hG6 : upd (upd G4 T1 (.tup us4)) u (.tup [.int l, .int (J.ends l), .ref T1, .str pay]) = G6 at *
    have hu6 : G6 u = some (.tup [.int l, .int (J.ends l), .ref T1, .str pay]) := by rw [← hG6, upd_same]
    have en : EnV G6 (.ref u) l ⟨J.ends l, nrm rs, pay⟩ := ⟨u, T1, us4, rfl, hu6, by
      rw [← hG6, upd_ne (fun c => by rw [← c, upd_same] at nu; cases nu), upd_same], pr4.same s7⟩
    have oe : OkE J.n l ⟨J.ends l, nrm rs, pay⟩ := ⟨O.ends l hl, fun x hx => by
      obtain ⟨a, b, c⟩ := ob x (mem_nrm.mp hx)
      exact ⟨a, b, Nat.lt_trans c (O.ends _ a)⟩, nrm_up rs, (by have := nrm_len rs; show (nrm rs).length ≤ 8; omega), op.1, op.2.1, op.2.2⟩
    have s26 : Same G2 G6 := (s4.trans s5).trans s7
    have bH6 : But p H G6 := (((But.of s02).trans b0).trans b02).trans (But.of s26)
    have hp6 := hp2'.same s26
    have hqp6 := s26 _ _ hqp2
    obtain ⟨ja6, jj6⟩ := ja.draw js (List.mem_cons_self ..) hpt bH6
    obtain ⟨dx, pd, pc, hj6, _, _⟩ := ja6.ex
    refine ⟨_, rfl, j, dx, _, rfl, hj6, look_jno _ _ (by decide +kernel) (by decide +kernel), _, rfl, _, rfl, _, rfl, qp, vs, rfl, .inl ⟨SqL.of hqp6, fun T2 nT2 => ?_⟩⟩
    obtain ⟨G7, e7, s67, h7⟩ := mkO nT2 (.tup vs)
    rw [e7]
    refine ⟨small (by show 2 ≤ 100000; decide), fun L nL1 => ?_⟩
    obtain ⟨G8, e8, s8, h8⟩ := mkO nL1 (.lst [.ref qp, .ref T2])
    rw [e8]
    have s68 := s67.trans s8
    have hp8 := hp6.same s68
    refine ⟨_, rfl, p, 2, rfl, hp8, by decide, by decide, fun G9 k b9 hp9 k0 k1 => ?_⟩
    have pL : L ≠ p := hp6.same s67 |>.ne nL1
    have pT : T2 ≠ p := hp6.ne nT2
    have npt : ∀ {x : Addr} {ys : List V}, G8 x = some (.tup ys) → x ≠ p := fun z e => by
      obtain ⟨_, _, w, _⟩ := hp8
      rw [e, w] at z
      cases z
    obtain ⟨qa, hat, hqa⟩ : ∃ qa, atI [V.ref qp, .ref T2] k = some (.ref qa) ∧ Lt G9 qa vs := by
      rcases (show k = 0 ∨ k = 1 by omega) with rfl | rfl
      · exact ⟨qp, rfl, .inl (b9 _ _ (s68 _ _ hqp6) qpp)⟩
      · exact ⟨T2, rfl, .inr (b9 _ _ (s8 _ _ h7) pT)⟩
    have bH9 : But p H G9 := (bH6.trans (But.of s68)).trans b9
    obtain ⟨ja9, jj9⟩ := ja.draw js (List.mem_cons_self ..) hpt bH9
    have kt69 : KT G6 G9 := fun x ys z => b9 _ _ (s68 _ _ z) (npt (s68 _ _ z))
    have pr9 : PrN G9 vs rs := PrN.kt (PrN.kt pr2' (KT.of s26)) kt69
    have en9 := en.kt kt69
    have wa9 := wa.but bH9 hpt np
    refine ⟨L, _, _, _, rfl, rfl, SqL.of (b9 _ _ h8 pL), hat, _, rfl, j, qa, ds, J, l, vs, rs, pay, rfl, ja9, O, hl, my.1 l hl, hqa, pr9, by omega, (by have := nrm_len rs; omega), ob, op.1, op.2.1, op.2.2, fun Ga ch ja' => ?_⟩
    have waA := wa9.disks ja9.dd ch
    have hpA := hp9.disks ja9.dd ch
    have hlr : l < A.rl.length := by rw [wa.len]; exact hl
    have hql := List.getElem?_eq_getElem hlr
    generalize hq0 : A.rl[l] = ql at *
    obtain ⟨vsl, hvs, evl⟩ := waA.es l ql hql
    have nd := wa.nd
    have nd2 := wa.nd
    simp only [Wa.all, List.nodup_cons, List.mem_cons, not_or] at nd2
    obtain ⟨⟨cR, ct, csn, crl⟩, ⟨rt, rs', rrl⟩, ⟨ts, trl⟩, srl, rlnd⟩ := nd2
    have mq : ql ∈ A.rl := List.mem_of_getElem? hql
    have tq : A.t ≠ ql := fun z => trl (by rw [z]; exact mq)
    have ktA : KT G9 Ga := fun x ys z => ch _ _ z fun d => by
      obtain ⟨_, _, dy, w⟩ := ja9.dd _ d
      rw [z] at w
      cases w
    have enA := en9.kt ktA
    have les : vsl.length ≤ 64 := by have := O.ends l hl; unfold Jr.ends at this; rw [evl.len]; omega
    have harl : atI (A.rl.map V.ref) (l : Int) = some (.ref ql) := by rw [← hq0]; exact atI_nat (ref_at hlr)
    refine ⟨_, rfl, W, _, rfl, waA.gr, _, rfl, A.r, _, _, _, rfl, rfl, SqL.of waA.r, harl, _, rfl, W, _, rfl, waA.gt, _, _, rfl, ?_⟩
    refine ⟨_, rfl, .inl ⟨rfl, _, SqL.of hvs⟩, _, rfl, ql, vsl, _, rfl, rfl, hvs, Nat.lt_of_lt_of_le (show vsl.length < 100 by omega) (small (by decide)), ?_⟩
    have ktB : KT Ga (L2.upd Ga ql (.lst (vsl ++ [.ref u]))) := KT.upd fun ys z => by rw [hvs] at z; cases z
    have enB := enA.kt ktB
    have htB : L2.upd Ga ql (.lst (vsl ++ [.ref u])) A.t = some (.lst (tL J)) := by rw [upd_ne tq]; exact waA.t
    generalize hGb : L2.upd Ga ql (.lst (vsl ++ [.ref u])) = Gb at *
    have tlen := O.txt_len hl
    have slen : (S (J.txt l)).length = (J.txt l).length := TL.len_tl _
    have rl := row_len O.n8 oe
    have rc := recd_len O.n8 oe
    have slr : (S (row (tl (recd ⟨J.ends l, nrm rs, pay⟩)))).length = (rowL ⟨J.ends l, nrm rs, pay⟩).length := TL.len_tl _
    refine ⟨_, rfl, _, rfl, A.t, _, _, _, rfl, rfl, SqL.of htB, atI_nat (map_get (f := fun l => V.str (S (J.txt l))) hl), _, rfl, _, l, _, J.n, rfl, enB, oe, O.n8, fun Gc sc => ?_⟩
    refine ⟨_, rfl, (by rw [TL.len_tl]; exact Nat.le_trans rc (by decide)), _, _, rfl, rfl, small (by rw [slen, slr]; omega), _, rfl, _, rfl, A.t, _, _, l, rfl, rfl, sc _ _ htB, (by rw [List.length_map, List.length_range]; exact ixN_nat hl), ?_⟩
    have et : (tL J).set l (V.str (S (J.txt l) ++ S (row (tl (recd ⟨J.ends l, nrm rs, pay⟩))))) = tL (addJ J l ⟨J.ends l, nrm rs, pay⟩) := by
      rw [tL, map_set hl]
      refine List.map_congr_left fun m _ => ?_
      rw [addJ_txt (my.1 l hl)]
      by_cases c : m = l
      · rw [if_pos c, if_pos c, S_app, c]
        rfl
      · rw [if_neg c, if_neg c]
    dsimp only
    rw [et]
    have keep : ∀ {x : Addr} {o : HO}, Ga x = some o → x ≠ ql → x ≠ A.t → L2.upd Gc A.t (.lst (tL (addJ J l ⟨J.ends l, nrm rs, pay⟩))) x = some o := fun z n1 n2 => by
      rw [upd_ne n2]
      exact sc _ _ (by rw [← hGb, upd_ne n1]; exact z)
    have ktC : KT Ga (L2.upd Gc A.t (.lst (tL (addJ J l ⟨J.ends l, nrm rs, pay⟩)))) := fun x ys z => keep z (fun d => by rw [d, hvs] at z; cases z) (fun d => by rw [d, waA.t] at z; cases z)
    have hqd : L2.upd Gc A.t (.lst (tL (addJ J l ⟨J.ends l, nrm rs, pay⟩))) ql = some (.lst (vsl ++ [.ref u])) := by
      rw [upd_ne tq.symm]
      exact sc _ _ (by rw [← hGb, upd_same])
    have hud := ktC _ _ (ktA _ _ (kt69 _ _ hu6))
    have el : J.ends l < 64 := O.ends l hl
    refine ⟨_, rfl, .inl ⟨_, rfl, log_small' (by omega), _, rfl, u, _, 1, _, rfl, rfl, SqT.of hud, rfl, .inl ⟨_, rfl, log_small' (by omega), rfl, ?_⟩⟩⟩
    rw [decide_eq_true rfl]
    have pq : p ≠ ql := fun z => np (by rw [z]; simp [Wa.all, mq])
    have pt : p ≠ A.t := fun z => np (by rw [z]; simp [Wa.all])
    have cAB : Chg [ql, A.t] Ga (L2.upd Gc A.t (.lst (tL (addJ J l ⟨J.ends l, nrm rs, pay⟩)))) := fun x o z n => by
      simp only [List.mem_cons, List.mem_nil_iff, or_false, not_or] at n
      exact keep z n.1 n.2
    refine q _ ⟨J.ends l, nrm rs, pay⟩ ?_ ?_ ?_ ?_ ?_
    · refine Chg.trans (Chg.but (List.mem_cons_self ..) bH9) (Chg.trans (ch.mono fun x hx => List.mem_cons_of_mem _ (List.mem_append_right _ hx)) (cAB.mono fun x hx => ?_))
      simp only [List.mem_cons, List.mem_nil_iff, or_false] at hx
      refine List.mem_cons_of_mem _ (List.mem_append_left _ ?_)
      rcases hx with rfl | rfl
      · simp [Wa.all, mq]
      · simp [Wa.all]
    · obtain ⟨x, y, z1, z2⟩ := hpA
      exact ⟨x, y, keep z1 pq pt, z2⟩
    · obtain ⟨dy, qd, qc, hj9, _, _⟩ := ja9.ex
      have hjA : Ga j = some (.ins CJ dy (jfl qd qc)) := ch _ _ hj9 fun z => by
        obtain ⟨_, _, dz, w⟩ := ja9.dd _ z
        rw [hj9] at w
        exact dfl_jfl (HO.ins.inj (Option.some.inj w)).2.2.symm
      refine (ja'.lists (L := [ql, A.t]) ((js.of (by rw [hjA, ← jj9, hj9])).sub fun x hx => ?_) (fun x hx => ?_) cAB).1
      · simp only [List.mem_cons, List.mem_nil_iff, or_false] at hx
        rcases hx with rfl | rfl
        · simp [Wa.all, mq]
        · simp [Wa.all]
      · simp only [List.mem_cons, List.mem_nil_iff, or_false] at hx
        rcases hx with rfl | rfl
        · exact ⟨_, hvs⟩
        · exact ⟨_, waA.t⟩
    · refine ⟨keep waA.d (waA.ne hvs) (waA.ne waA.t), keep waA.c (fun z => crl (by rw [z]; exact mq)) ct, keep waA.r (fun z => rrl (by rw [z]; exact mq)) rt, upd_same, keep waA.s (fun z => srl (by rw [z]; exact mq)) (fun z => ts z.symm), wa.len, fun m q1 e1 => ?_, nd⟩
      show EsAt _ q1 m (if m = l then J.es m ++ [_] else J.es m)
      by_cases c : m = l
      · subst c
        rw [hql] at e1
        cases e1
        rw [if_pos rfl]
        exact ⟨_, hqd, (evl.kt ktC).snoc (enA.kt ktC)⟩
      · rw [if_neg c]
        obtain ⟨vm, x1, x2⟩ := waA.es m q1 e1
        have nq : q1 ≠ ql := fun z => c (by
          have i1 := List.getElem?_eq_some_iff.mp e1
          have i2 := List.getElem?_eq_some_iff.mp hql
          exact (List.getElem_inj rlnd).mp (i1.2.trans (z.trans i2.2.symm)))
        exact ⟨vm, keep x1 nq (fun z => trl (by rw [← z]; exact List.mem_of_getElem? e1)), x2.kt ktC⟩
    · exact addJ_ok O hl oe rfl (my.1 l hl) (my.2.2 l hl) my.2.1
def spEntd (CD CJ : Addr) : Sp := fun vs H Q _ => ∃ (p j W : Addr) (ds : List Addr) (A : Wa) (J : Jr), vs = [.ref p, .ref j, .ref W] ∧ PotAt H p ∧ p ∉ A.all ∧ JAt CD CJ H j ds J ∧ JSep CJ H j (p :: A.all) ∧ WAt H W A J ∧ OkJ J ∧ May J ∧ ∀ H' l e, l < J.n → Chg (p :: (A.all ++ ds)) H H' → PotAt H' p → JAt CD CJ H' j ds (addJ J l e) → WAt H' W A (addJ J l e) → OkJ (addJ J l e) → Q (.bl true) H'
theorem ok_l_entered (T : Tx K mg CD CJ) (G_l_take : Fnc P w K mg base CX0 1 "_law_take" [] spTake) (G_l_written : Fnc P w K mg base CX0 8 "_law_written" [] (spWrit CD CJ)) (F : FD K "_law_entered" "_law_entered" s_l_entered [] f fd) : FnG P w K mg base CX0 9 f fd ["_law_pot_here", "_law_journal", "_law_world_here"] (spEntd CD CJ) := by
  refine ok0 F sc_l_entered (fun vs H Q E h => ?_) (fun cdv A outer s H vs Q E hr h => ?_)
  · obtain ⟨p, j, W, ds, A, J, rfl, _⟩ := h
    rfl
  · obtain ⟨p, j, W, ds, A, J, rfl, hpt, np, ja, js, wa, O, my, q⟩ := h
    refine ⟨_, (pss_one (ps_ret (pe_fn G_l_written (hr.mono (by decide)) pass0 (pa_cons (pv 0) (pa_cons (pv 1) (pa_cons (pv 2) (pa_cons (pe_fn G_l_take (hr.mono (by decide)) pass0 (pa_cons (pv 0) (pa_cons (pe_callB call_len_seq (by rfl) T.n_len (by decide +kernel) (pa_cons (pe_dget (un1 hr.r.units) (pv 2) pe_str (fun _ _ => rfl)) pa_nil)) pa_nil))) pa_nil))))))), ?_⟩
    have o8 := O.n8
    have o1 := O.pos
    refine ⟨_, rfl, _, rfl, _, rfl, _, rfl, _, rfl, W, _, rfl, wa.gc, A.c, _, rfl, .inl (SqL.of wa.c), p, _, rfl, hpt, (by rw [nL_len]; omega), (by rw [nL_len]; omega), fun H1 d b1 hp1 x0 x1 => ?_⟩
    rw [nL_len] at x1
    obtain ⟨l, rfl⟩ := Int.eq_ofNat_of_zero_le x0
    obtain ⟨ja1, jj1⟩ := ja.draw js (List.mem_cons_self ..) hpt b1
    exact ⟨p, j, W, ds, A, J, l, rfl, by omega, hp1, np, ja1, js.of jj1, wa.but b1 hpt np, O, my, fun H' e c h1 h2 h3 h4 => q H' l e (by omega) (Chg.trans (Chg.but (List.mem_cons_self ..) b1) c) h1 h2 h3 h4⟩
end
end K77

set_option Elab.async false
set_option linter.all false
set_option maxRecDepth 100000
set_option maxHeartbeats 2000000
/-! LLRep: repr of lists with empty dicts in them. -/
namespace LL
open PySem PySem.Spec PyProof.Rows L2
mutual
/-- data that reads so, empty dicts among it -/
inductive Rz (h : Heap) : Value → PyData → Prop
  | dat {v : Value} {d : PyData} {as : List Addr} : Reads h v d as → d.hasDict = false → Rz h v d
  | emp {a : Addr} {as : List Addr} : Reads h (.ref a) (.dict []) as → sysModules ∉ as → Rz h (.ref a) (.dict [])
  | lst {a : Addr} {o : Obj} {vs : Array Value} {n : Nat} {ds : List PyData} : h.get? a = some o → o.cls = .type "list" → o.data = .seq vs n → RzAll h vs.toList ds → Rz h (.ref a) (.list ds)
inductive RzAll (h : Heap) : List Value → List PyData → Prop
  | nil : RzAll h [] []
  | cons {v : Value} {vs : List Value} {d : PyData} {ds : List PyData} : Rz h v d → RzAll h vs ds → RzAll h (v :: vs) (d :: ds)
end
mutual
theorem Rz.reads {h : Heap} : ∀ {v : Value} {d : PyData}, Rz h v d → ∃ as, Reads h v d as
  | _, _, .dat r _ => ⟨_, r⟩
  | _, _, .emp r _ => ⟨_, r⟩
  | _, _, .lst h1 h2 h3 h4 => let ⟨_, r⟩ := RzAll.reads h4; ⟨_, .list h1 h2 h3 r⟩
theorem RzAll.reads {h : Heap} : ∀ {vs : List Value} {ds : List PyData}, RzAll h vs ds → ∃ as, ReadsAll h vs ds as
  | _, _, .nil => ⟨_, .nil⟩
  | _, _, .cons a b => let ⟨_, r⟩ := Rz.reads a; let ⟨_, q⟩ := RzAll.reads b; ⟨_, .cons r q⟩
end
section
variable {prog : Program} {w : World} {h₀ : Heap}
mutual
theorem Rz.reprK : ∀ {v : Value} {d : PyData}, Rz h₀ v d → d.showable = true → d.shown.length ≤ sizeLine → ∃ bs, ReadAtMost h₀ d.depth bs ∧ ReprK prog w bs h₀ d.depth v d.shown
  | _, _, .dat r hd, hs, hz => ReprK.of_reads r hs (fun z => by rw [hd] at z; cases z) hz
  | _, _, .emp r ns, hs, hz => ReprK.of_reads r hs (fun _ => ns) hz
  | _, _, .lst (a := a) (vs := vs) (ds := ds) h1 h2 h3 h4, hs, hz => by
    have hz' : (listText (PyData.shownAll ds)).length ≤ sizeLine := by simpa only [PyData.shown] using hz
    obtain ⟨bs, hb, hk⟩ := RzAll.reprK h4 (by simpa [PyData.showable] using hs) (fun t ht => Nat.le_trans (listText_mem_le ht) hz')
    obtain ⟨as, h5⟩ := h4.reads
    have r : Reads h₀ (.ref a) (.list ds) _ := .list h1 h2 h3 h5
    have hna : a ∉ bs := not_mem_of_deeper r (by simp only [PyData.depth]; omega) hb
    refine ⟨a :: bs, ReadAtMost.cons r (by simp only [PyData.depth]; omega) hb, ?_⟩
    simp only [PyData.depth, PyData.shown]
    obtain ⟨l⟩ := vs
    cases l with
    | nil =>
      have h4' : RzAll h₀ [] ds := h4
      cases h4'
      simp only [PyData.shownAll, listText_nil]
      exact ReprK.listEmpty h1 h2 h3
    | cons x l => exact ReprK.list h1 h2 h3 hna (by simpa using hk.length_eq) (fun i y e => hk.item i y (by simpa using e))
theorem RzAll.reprK : ∀ {vs : List Value} {ds : List PyData}, RzAll h₀ vs ds → PyData.showableAll ds = true → (∀ t ∈ PyData.shownAll ds, t.length ≤ sizeLine) → ∃ bs, ReadAtMost h₀ (PyData.depthAll ds) bs ∧ ReprAllK prog w bs h₀ (PyData.depthAll ds) vs (PyData.shownAll ds)
  | _, _, .nil, _, _ => ⟨[], (fun _ h => nomatch h), by simp only [PyData.shownAll]; exact .nil⟩
  | _, _, .cons (d := d) (ds := ds) r rs, hs, hz => by
    have hs' : d.showable = true ∧ PyData.showableAll ds = true := by simpa [PyData.showableAll] using hs
    obtain ⟨b1, hb1, k1⟩ := Rz.reprK r hs'.1 (hz _ (by simp only [PyData.shownAll]; exact List.mem_cons_self ..))
    obtain ⟨b2, hb2, k2⟩ := RzAll.reprK rs hs'.2 (fun t ht => hz t (by simp only [PyData.shownAll]; exact List.mem_cons_of_mem _ ht))
    refine ⟨b1 ++ b2, ?_, ?_⟩
    · intro b hm
      simp only [PyData.depthAll]
      rcases List.mem_append.mp hm with hm | hm
      · obtain ⟨d', as', r', hd'⟩ := hb1 b hm
        exact ⟨d', as', r', Nat.le_trans hd' (Nat.le_max_left _ _)⟩
      · obtain ⟨d', as', r', hd'⟩ := hb2 b hm
        exact ⟨d', as', r', Nat.le_trans hd' (Nat.le_max_right _ _)⟩
    · simp only [PyData.depthAll, PyData.shownAll]
      exact .cons ((k1.more fun b hb => List.mem_append_left _ hb).level_le (Nat.le_max_left _ _)) (k2.more_le (fun b hb => List.mem_append_right _ hb) (Nat.le_max_right _ _))
end
theorem shows_list {a : Addr} {o : Obj} {vs : Array Value} {n : Nat} {ds : List PyData} (h1 : h₀.get? a = some o) (h2 : o.cls = .type "list") (h3 : o.data = .seq vs n) (h4 : RzAll h₀ vs.toList ds) (hs : PyData.showableAll ds = true) (hsz : (PyData.list ds).shown.length ≤ sizeLine) :
    ∃ T idr, ShowsBy prog w h₀ a (.list ds) T idr := by
  have hz' : (listText (PyData.shownAll ds)).length ≤ sizeLine := by simpa only [PyData.shown] using hsz
  obtain ⟨bs, hb, hk⟩ := RzAll.reprK (prog := prog) (w := w) h4 hs (fun t ht => Nat.le_trans (listText_mem_le ht) hz')
  obtain ⟨as, h5⟩ := h4.reads
  have hna : a ∉ bs := not_mem_of_deeper (.list h1 h2 h3 h5) (by simp only [PyData.depth]; omega) hb
  refine ⟨"list", "list.__repr__", PySem.F.slot_list_repr.toG, PySem.F.slot_list_str, PySem.F.slot_list_format, fun s hk0 => ⟨o, hk0 _ _ h1, h2⟩, fun A E s Q hg hu hk0 hQ => ?_⟩
  simp only [PyData.depth] at hu
  simp only [PyData.shown] at hQ
  obtain ⟨l⟩ := vs
  cases l with
  | nil =>
    have h4' : RzAll h₀ [] ds := h4
    cases h4'
    simp only [PyData.shownAll, listText_nil] at hQ
    exact call_list_repr_empty ⟨o, hk0 _ _ h1, h2⟩ (hk0 _ _ h1) h3 (hQ s.heap _ _ fun _ _ e => e)
  | cons x l =>
    exact call_list_reprK h1 h2 h3 hna (by simpa using hk.length_eq) (fun i y e => hk.item i y (by simpa using e)) hg (fun b _ => Clear.nil b) hu hk0 hQ hz'
end
/-- data, empty dicts among it -/
inductive De (K : PySem.W.Frag) (H : Hp) : V → PyData → Prop
  | dp {v : V} {d : PyData} : Dp K H v d → Shw d → De K H v d
  | emp {a : Addr} : H a = some (.dK []) → De K H (.ref a) (.dict [])
  | lst {a : Addr} {vs : List V} {ds : List PyData} : SqL K H a vs → vs.length = ds.length → (∀ (i : Nat) v d, vs[i]? = some v → ds[i]? = some d → De K H v d) → De K H (.ref a) (.list ds)
section
variable {X : Cx} {pins : List (Addr × Obj)} {σ : L2.St} {H : Hp} {s : Shared}
theorem rz_all {h : Heap} : ∀ {us : List Value} {ds : List PyData}, us.length = ds.length → (∀ (i : Nat) u d, us[i]? = some u → ds[i]? = some d → Rz h u d) → RzAll h us ds
  | [], [], _, _ => .nil
  | u :: us, d :: ds, hl, k => .cons (k 0 u d rfl rfl) (rz_all (by simpa using hl) fun i u d h1 h2 => k (i + 1) u d h1 h2)
  | [], _ :: _, hl, _ => by cases hl
  | _ :: _, [], hl, _ => by cases hl
theorem De.rz (I : Inv X pins σ H s) {v : V} {d : PyData} (h : De X.K H v d) : ∀ u, RelV v u → Rz s.heap u d := by
  induction h with
  | dp h hs =>
    intro u r
    obtain ⟨as, rd⟩ := Dp.reads I _ _ _ h r
    exact .dat rd (Shw.all _ hs).2.2
  | emp e =>
    intro u r
    cases (show u = Value.ref _ from r)
    obtain ⟨rd, ns⟩ := empty_reads I e
    exact .emp rd fun z => ns (List.mem_singleton.mp z).symm
  | @lst a vs ds hs hl k ih =>
    intro u r
    cases (show u = Value.ref _ from r)
    obtain ⟨its, rv, ⟨o, n, ho, hc, _, hd⟩, _⟩ := I.list hs
    refine .lst ho hc hd (rz_all (by rw [List.toList_toArray, ← rv.length, hl]) fun i u d h1 h2 => ?_)
    rw [List.toList_toArray] at h1
    have hi := (List.getElem?_eq_some_iff.mp h1).1
    obtain ⟨v, hv⟩ : ∃ v, vs[i]? = some v := ⟨_, List.getElem?_eq_getElem (by rw [rv.length]; exact hi)⟩
    obtain ⟨u', e', r'⟩ := rv.get hv
    rw [h1] at e'
    cases e'
    exact ih i v d hv h2 u r'
/-- repr of such a list -/
def rRepE (K : PySem.W.Frag) : List V → Hp → VK → Prop := fun xs H Q => ∃ (a : Addr) (vs : List V) (ds : List PyData), xs = [.ref a] ∧ SqL K H a vs ∧ vs.length = ds.length ∧ (∀ (i : Nat) v d, vs[i]? = some v → ds[i]? = some d → De K H v d) ∧ PyData.showableAll ds = true ∧ (PyData.list ds).depth ≤ 40 ∧ (PyData.list ds).shown.length ≤ sizeLine ∧ Q (.str (PyData.list ds).shown) H
theorem call_reprE {K : PySem.W.Frag} (hk : X.K = K) (g : X.A.guards = some []) (hu : X.A.units + 64 < cLine) : CallR X (.builtin "repr") (rRepE K) := by
  subst hk
  intro pins s σ H xs us Q I r h
  obtain ⟨a, vs, ds, rfl, hs, hl, k, hsh, hdp, hz, q⟩ := h
  obtain ⟨u, rfl, ru⟩ := r.one
  cases (show u = Value.ref a from ru)
  have rz : Rz s.heap (.ref a) (.list ds) := De.rz I (.lst hs hl k) _ rfl
  cases rz with
  | dat rd hd =>
    refine repr_of_reads' rd (by simpa [PyData.showable] using hsh) (fun z => by rw [hd] at z; cases z) g (by omega) (fun _ _ e => e) (fun h' t tk hk => ⟨.str _, H, I.kept hk, ⟨_, rfl⟩, q⟩) hz
  | lst h1 h2 h3 h4 =>
    obtain ⟨T, idr, S⟩ := shows_list (prog := X.prog) (w := X.w) h1 h2 h3 h4 hsh hz
    exact call_repr_slot (by omega) (S.typeIs s fun _ _ e => e) S.slotRepr (S.call X.A.in1 _ s _ g (by show X.A.units + 1 + (PyData.list ds).depth < cLine; omega) (fun _ _ e => e) fun h' u tk hk => ⟨_, _, rfl, ⟨.str _, H, I.kept hk, ⟨_, rfl⟩, q⟩⟩)
end
end LL

set_option Elab.async false
set_option linter.all false
set_option maxRecDepth 100000
set_option maxHeartbeats 2000000
/-! LLRepD: repr of a dict whose values are data without dicts. -/
namespace LL
open PySem PySem.Spec PyProof.Rows L2
def keyD : Key → PyData
  | .inl i => .int i
  | .inr x => .str x
def kvD : List (Key × V) → List PyData → List (PyData × PyData)
  | (k, _) :: r, d :: ds => (keyD k, d) :: kvD r ds
  | _, _ => []
theorem kvD_fst : ∀ {kvs : List (Key × V)} {ds : List PyData}, kvs.length = ds.length → (kvD kvs ds).map (·.1) = kvs.map fun p => keyD p.1
  | [], [], _ => rfl
  | (k, v) :: r, d :: ds, h => by
    simp only [kvD, List.map_cons]
    rw [kvD_fst (kvs := r) (ds := ds) (by simpa using h)]
  | [], _ :: _, h => by cases h
  | _ :: _, [], h => by cases h
theorem kvD_snd : ∀ {kvs : List (Key × V)} {ds : List PyData}, kvs.length = ds.length → (kvD kvs ds).map (·.2) = ds
  | [], [], _ => rfl
  | (k, v) :: r, d :: ds, h => by
    simp only [kvD, List.map_cons]
    rw [kvD_snd (kvs := r) (ds := ds) (by simpa using h)]
  | [], _ :: _, h => by cases h
  | _ :: _, [], h => by cases h
theorem DpAll.len {K : PySem.W.Frag} {H : Hp} : ∀ {vs : List V} {ds : List PyData}, DpAll K H vs ds → vs.length = ds.length
  | _, _, .nil => rfl
  | _, _, .cons _ r => by simpa using DpAll.len r
section
variable {X : Cx} {pins : List (Addr × Obj)} {σ : L2.St} {H : Hp} {s : Shared}
theorem keys_read {P : Program} {w : World} {h : Heap} : ∀ {es : List DictEntry} {kvs : List (Key × V)} {vs : List (Key × Value)}, KV kvs vs → Pairs (mixKind P w) es vs → ReadsAll h (es.map (·.key)) (kvs.map fun p => keyD p.1) []
  | _, _, _, .nil, .nil => .nil
  | e :: es, (k, v) :: kvs, _, .cons q r, .cons hk hv p => by
    have := keys_read (h := h) r p
    have q1 := q.1
    have hd : Reads h e.key (keyD k) [] := by
      rcases keyIs_shape hk with ⟨i, t, e1, e2⟩ | ⟨x, t, e1, e2⟩
      · rw [e2, show k = _ from q1, e1]
        exact .int i t
      · rw [e2, show k = _ from q1, e1]
        exact .str x t
    exact .cons (as := []) (bs := []) hd this
theorem vals_read (I : Inv X pins σ H s) {P : Program} {w : World} : ∀ {es : List DictEntry} {kvs : List (Key × V)} {vs : List (Key × Value)} {ds : List PyData}, KV kvs vs → Pairs (mixKind P w) es vs → DpAll X.K H (kvs.map (·.2)) ds → ∃ bs, ReadsAll s.heap (es.map (·.val)) ds bs
  | _, _, _, _, .nil, .nil, .nil => ⟨_, .nil⟩
  | e :: es, (k, v) :: kvs, _, d :: ds, .cons q r, .cons hk hv p, .cons h t => by
    obtain ⟨bs, hb⟩ := vals_read I r p t
    obtain ⟨as, ha⟩ := Dp.reads I d v e.val h (by rw [hv]; exact q.2)
    exact ⟨_, .cons ha hb⟩
/-- repr of such a dict -/
def rRepDk (K : PySem.W.Frag) : List V → Hp → VK → Prop := fun xs H Q => ∃ (a : Addr) (kvs : List (Key × V)) (ds : List PyData), xs = [.ref a] ∧ H a = some (.dK kvs) ∧ DpAll K H (kvs.map (·.2)) ds ∧ PyData.showableKv (kvD kvs ds) = true ∧ PyData.hasDictAll ds = false ∧ (PyData.dict (kvD kvs ds)).depth ≤ 40 ∧ (PyData.dict (kvD kvs ds)).shown.length ≤ sizeLine ∧ Q (.str (PyData.dict (kvD kvs ds)).shown) H
theorem noDict_keys : ∀ kvs : List (Key × V), PyData.hasDictAll (kvs.map fun p => keyD p.1) = false
  | [] => by simp only [List.map_nil, PyData.hasDictAll]
  | (k, v) :: r => by
    have e : (keyD k).hasDict = false := by cases k <;> simp only [keyD, PyData.hasDict]
    rw [List.map_cons]
    simp only [PyData.hasDictAll, e, noDict_keys r, Bool.or_self]
theorem call_reprDk {K : PySem.W.Frag} (hk : X.K = K) (g : X.A.guards = some []) (hu : X.A.units + 64 < cLine) : CallR X (.builtin "repr") (rRepDk K) := by
  subst hk
  intro pins s σ H xs us Q I r h
  obtain ⟨a, kvs, ds, rfl, e, hd, hs, hn, hp, hz, q⟩ := h
  obtain ⟨u, rfl, ru⟩ := r.one
  cases (show u = Value.ref a from ru)
  obtain ⟨_, hsys, vs, kv, o, es, ep, h1, h2, h3, _, h5, _⟩ := (show ObjOk X.prog X.w H s.heap a (.dK kvs) from I.hok a _ e)
  have hl : kvs.length = ds.length := by rw [← DpAll.len hd, List.length_map]
  obtain ⟨bs, rv⟩ := vals_read I kv h5 hd
  have rk := keys_read (h := s.heap) kv h5
  rw [← kvD_fst hl] at rk
  have rv' : ReadsAll s.heap (es.toList.map (·.val)) ((kvD kvs ds).map (·.2)) bs := by rw [kvD_snd hl]; exact rv
  have hz' : (dictText (PyData.shownKv (kvD kvs ds))).length ≤ sizeLine := by simpa only [PyData.shown] using hz
  obtain ⟨hs1, hs2⟩ := PyData.showableKv_split (kvD kvs ds) hs
  obtain ⟨b1, hb1, k1⟩ := ReprAllK.of_readsAll (prog := X.prog) (w := X.w) rk hs1 (fun z _ => by rw [kvD_fst hl, noDict_keys] at z; cases z) (fun t ht => let ⟨p, hp, hl⟩ := PyData.shownKv_key_le _ t ht; Nat.le_trans hl (Nat.le_trans (dictText_mem_le hp) hz'))
  obtain ⟨b2, hb2, k2⟩ := ReprAllK.of_readsAll (prog := X.prog) (w := X.w) rv' hs2 (fun z _ => by rw [kvD_snd hl, hn] at z; cases z) (fun t ht => let ⟨p, hp, hl⟩ := PyData.shownKv_val_le _ t ht; Nat.le_trans hl (Nat.le_trans (dictText_mem_le hp) hz'))
  have hb : ReadAtMost s.heap (PyData.depthKv (kvD kvs ds)) (b1 ++ b2) := (hb1.mono (PyData.depthAll_keys_le _)).append (hb2.mono (PyData.depthAll_vals_le _))
  have hna : a ∉ b1 ++ b2 := not_mem_of_deeper (.dict h1 h2.1 h3 rk rv') (by simp only [PyData.depth]; omega) hb
  simp only [PyData.depth] at hp
  simp only [PyData.shown, PyData.shownKv_eq] at q
  refine call_repr_slot (by omega) ⟨o, h1, h2.1⟩ PySem.F.slot_dict_repr (call_dict_reprK h1 h2.1 h3 hsys hna (ReprEntriesK.of_two es.toList _ _
      (k1.more_le (fun b hb => List.mem_append_left _ hb) (PyData.depthAll_keys_le _)) (k2.more_le (fun b hb => List.mem_append_right _ hb) (PyData.depthAll_vals_le _))) g (fun b _ => Clear.nil b) (by show X.A.units + 1 + (PyData.depthKv (kvD kvs ds) + 1) < cLine; omega) (fun _ _ z => z) (fun h' u tk hk => ⟨_, _, rfl, .str _, H, I.kept hk, ⟨_, rfl⟩, q⟩) (by rw [← PyData.shownKv_eq]; exact hz'))
end
end LL

set_option Elab.async false
set_option linter.all false
set_option maxRecDepth 100000
set_option maxHeartbeats 2000000
/-! M77d: the world as a dict; when two of these look alike. -/
namespace JN
open PySem PySem.Spec PyProof.Rows L2 LL K75
/-! ### how long a text is when it is shown -/
def qt (l : List Nat) : Nat := if l.contains 39 && !l.contains 34 then 34 else 39
def rq (q : Nat) : List Nat → Nat
  | [] => 0
  | c :: r => (Builtin.Str.reprChar q c).length + rq q r
theorem rq_fold (q : Nat) : ∀ (l : List Nat) (acc : Array Nat), (l.foldl (fun out c => out ++ (Builtin.Str.reprChar q c).toArray) acc).size = acc.size + rq q l
  | [], acc => rfl
  | c :: r, acc => by
    simp only [List.foldl_cons]
    rw [rq_fold q r]
    simp only [Array.size_append, List.size_toArray, rq]
    omega
theorem repr_len (l : List Nat) : (reprText (S l)).length = 2 + rq (qt l) l := by
  have e : reprQuote (S l) = qt l := by
    unfold reprQuote qt
    show (if (l.toArray).contains 39 && !(l.toArray).contains 34 then 34 else 39) = _
    simp
  unfold reprText
  rw [e]
  show ((Array.foldl (fun out c => out ++ (Builtin.Str.reprChar (qt l) c).toArray) #[qt l] l.toArray).push (qt l)).size = _
  rw [Array.size_push, List.foldl_toArray, rq_fold]
  show 1 + _ + 1 = _
  omega
theorem rq_app (q : Nat) : ∀ a b : List Nat, rq q (a ++ b) = rq q a + rq q b
  | [], b => by simp [rq]
  | c :: a, b => by
    rw [List.cons_append]
    simp only [rq]
    rw [rq_app q a b]
    omega
theorem rc_pos (q c : Nat) : 1 ≤ (Builtin.Str.reprChar q c).length := by
  unfold Builtin.Str.reprChar
  dsimp only
  repeat' split
  all_goals simp only [List.length_append, List.length_cons, List.length_nil] <;> omega
theorem rq_pos (q : Nat) : ∀ l : List Nat, l.length ≤ rq q l
  | [] => Nat.le_refl _
  | c :: r => by
    have := rc_pos q c
    have := rq_pos q r
    simp only [rq, List.length_cons]
    omega
theorem rc_le {q p c : Nat} (hp : p = 34 ∨ p = 39) (h : c ≠ q) : (Builtin.Str.reprChar q c).length ≤ (Builtin.Str.reprChar p c).length := by
  by_cases e : c = p
  · have e1 : (Builtin.Str.reprChar p c).length = 2 := by
      unfold Builtin.Str.reprChar
      rw [if_pos (by simp [e])]
      rfl
    have e2 : (Builtin.Str.reprChar q c).length ≤ 2 := by
      unfold Builtin.Str.reprChar
      have h1 : (c == q || c == 92) = false := by
        rcases hp with rfl | rfl <;> simp [e] <;> (subst e; exact h)
      have hc : c = 34 ∨ c = 39 := by omega
      rw [h1]
      rcases hc with rfl | rfl
      · rw [if_neg (by decide), if_neg (by decide), if_neg (by decide), if_neg (by decide)]
        rw [if_pos (by decide +kernel)]
        decide
      · rw [if_neg (by decide), if_neg (by decide), if_neg (by decide), if_neg (by decide)]
        rw [if_pos (by decide +kernel)]
        decide
    omega
  · have : Builtin.Str.reprChar q c = Builtin.Str.reprChar p c := by
      unfold Builtin.Str.reprChar
      have h1 : (c == q) = false := by simpa using h
      have h2 : (c == p) = false := by simpa using e
      rw [h1, h2]
    rw [this]
    exact Nat.le_refl _
theorem rq_le {q p : Nat} (hp : p = 34 ∨ p = 39) : ∀ {l : List Nat}, q ∉ l → rq q l ≤ rq p l
  | [], _ => Nat.le_refl _
  | c :: r, h => by
    have h1 := rc_le (q := q) (p := p) (c := c) hp fun e => h (by rw [e]; exact List.mem_cons_self ..)
    have h2 := rq_le (q := q) hp (l := r) fun z => h (List.mem_cons_of_mem _ z)
    simp only [rq]
    omega
theorem qt_two (l : List Nat) : qt l = 34 ∨ qt l = 39 := by
  unfold qt
  split
  · exact .inl rfl
  · exact .inr rfl
theorem rq_pre (a b : List Nat) : rq (qt a) a ≤ rq (qt (a ++ b)) a := by
  by_cases h : qt a ∈ a
  · have e : qt (a ++ b) = qt a := by
      unfold qt at h ⊢
      by_cases h39 : 39 ∈ a
      · by_cases h34 : 34 ∈ a
        · simp [h39, h34]
        · rw [if_pos (by simp [h39, h34])] at h
          exact absurd h h34
      · rw [if_neg (by simp [h39])] at h
        exact absurd h h39
    rw [e]
    exact Nat.le_refl _
  · exact rq_le (qt_two _) h
theorem repr_take (l : List Nat) (k : Nat) : (reprText (S (l.take k))).length ≤ (reprText (S l)).length ∧ ((reprText (S (l.take k))).length = (reprText (S l)).length → l.take k = l) := by
  rw [repr_len, repr_len]
  have e := List.take_append_drop k l
  have h1 := rq_pre (l.take k) (l.drop k)
  rw [e] at h1
  have h2 := rq_app (qt l) (l.take k) (l.drop k)
  rw [e] at h2
  have h3 := rq_pos (qt l) (l.drop k)
  refine ⟨by omega, fun q => ?_⟩
  have h4 : l.drop k = [] := List.length_eq_zero_iff.mp (by omega)
  rw [h4, List.append_nil] at e
  exact e
/-! ### how long a list is when it is shown -/
theorem textFrom_lenK : ∀ (ts : List Str) (k : Nat) (acc : Str), 0 < k → (textFrom k acc ts).length = acc.length + piled ts
  | [], _, acc, _ => rfl
  | t :: r, k, acc, h => by
    have ih := textFrom_lenK r (k + 1) (acc ++ (if k > 0 then ", " else "" : String) ++ t) (by omega)
    show (textFrom (k + 1) (acc ++ (if k > 0 then ", " else "" : String) ++ t) r).length = _
    rw [ih, strLen_append, strLen_append, if_pos h, piled_cons]
    have : (((", " : String) : Str)).length = 2 := rfl
    omega
theorem listText_len (ts : List Str) : (listText ts).length = 2 + (piled ts - 2) := by
  unfold listText
  rw [strLen_append]
  have e2 : ((("]" : String) : Str)).length = 1 := rfl
  cases ts with
  | nil => rfl
  | cons t r =>
    have := textFrom_lenK r 1 (("[" : Str) ++ (if 0 > 0 then ", " else "" : String) ++ t) (by decide)
    rw [show textFrom 0 "[" (t :: r) = textFrom 1 (("[" : Str) ++ (if 0 > 0 then ", " else "" : String) ++ t) r from rfl, this, strLen_append, strLen_append, piled_cons, if_neg (by decide)]
    have e1 : ((("[" : String) : Str)).length = 1 := rfl
    have e3 : ((("" : String) : Str)).length = 0 := rfl
    omega
theorem shownAll_map {α : Type} (f : α → PyData) : ∀ l : List α, PyData.shownAll (l.map f) = l.map fun x => (f x).shown
  | [] => by simp only [List.map_nil, PyData.shownAll]
  | x :: l => by simp only [List.map_cons, PyData.shownAll, shownAll_map f l]
theorem piled_take (k : Nat) (ts : List Str) : piled (ts.take k) ≤ piled ts := by
  have := piled_append (ts.take k) (ts.drop k)
  rw [List.take_append_drop] at this
  omega
theorem list_take_le {α : Type} (f : α → PyData) (l : List α) (k : Nat) : (PyData.list ((l.take k).map f)).shown.length ≤ (PyData.list (l.map f)).shown.length := by
  simp only [PyData.shown]
  rw [listText_len, listText_len, shownAll_map, shownAll_map, List.map_take]
  have := piled_take k (l.map fun x => (f x).shown)
  omega
theorem piled_le {f g : Nat → Str} : ∀ {n : Nat}, (∀ l, l < n → (f l).length ≤ (g l).length) → piled ((List.range n).map f) ≤ piled ((List.range n).map g) ∧ (piled ((List.range n).map f) = piled ((List.range n).map g) → ∀ l, l < n → (f l).length = (g l).length)
  | 0, _ => ⟨Nat.le_refl _, fun _ l h => by omega⟩
  | n + 1, h => by
    obtain ⟨a, b⟩ := piled_le (f := f) (g := g) (n := n) fun l hl => h l (by omega)
    have c := h n (by omega)
    rw [List.range_succ, List.map_append, List.map_append, piled_append, piled_append]
    simp only [List.map_cons, List.map_nil, piled_cons, piled_nil]
    refine ⟨by omega, fun q l hl => ?_⟩
    by_cases e : l = n
    · subst e
      omega
    · exact b (by omega) l (by omega)
theorem range_le {f g : Nat → PyData} {n : Nat} (h : ∀ l, l < n → (f l).shown.length ≤ (g l).shown.length) : (PyData.list ((List.range n).map f)).shown.length ≤ (PyData.list ((List.range n).map g)).shown.length ∧ ((PyData.list ((List.range n).map f)).shown.length = (PyData.list ((List.range n).map g)).shown.length → ∀ l, l < n → (f l).shown.length = (g l).shown.length) := by
  simp only [PyData.shown]
  rw [listText_len, listText_len, shownAll_map, shownAll_map]
  obtain ⟨a, b⟩ := piled_le (f := fun l => (f l).shown) (g := fun l => (g l).shown) h
  refine ⟨by omega, fun q l hl => b ?_ l hl⟩
  have two : ∀ k : Nat → Str, 0 < n → 2 ≤ piled ((List.range n).map k) := fun k hn => by
    obtain ⟨m, rfl⟩ : ∃ m, n = m + 1 := ⟨n - 1, by omega⟩
    rw [List.range_succ, List.map_append, piled_append]
    simp only [List.map_cons, List.map_nil, piled_cons, piled_nil]
    omega
  have t1 := two (fun l => (f l).shown) (by omega)
  have t2 := two (fun l => (g l).shown) (by omega)
  omega
/-! ### the last list -/
theorem last_cut {c : Nat} : ∀ {a1 a2 b1 b2 : List Nat}, a1 ++ c :: b1 = a2 ++ c :: b2 → c ∉ b1 → c ∉ b2 → a1 = a2 ∧ b1 = b2
  | [], [], _, _, h, _, _ => ⟨rfl, (List.cons.inj h).2⟩
  | [], x :: a2, b1, b2, h, n1, _ => by
    obtain ⟨_, h2⟩ := List.cons.inj h
    exact absurd (by rw [h2]; simp) n1
  | x :: a1, [], b1, b2, h, _, n2 => by
    obtain ⟨_, h2⟩ := List.cons.inj h
    exact absurd (by rw [← h2]; simp) n2
  | x :: a1, y :: a2, b1, b2, h, n1, n2 => by
    obtain ⟨e, h2⟩ := List.cons.inj h
    obtain ⟨i, j⟩ := last_cut h2 n1 n2
    exact ⟨by rw [e, i], j⟩
theorem first_cut {c : Nat} : ∀ {a1 a2 b1 b2 : List Nat}, a1 ++ c :: b1 = a2 ++ c :: b2 → c ∉ a1 → c ∉ a2 → a1 = a2 ∧ b1 = b2
  | [], [], _, _, h, _, _ => ⟨rfl, (List.cons.inj h).2⟩
  | [], x :: a2, b1, b2, h, _, n2 => by
    obtain ⟨e, _⟩ := List.cons.inj h
    exact absurd (by rw [e]; exact List.mem_cons_self ..) n2
  | x :: a1, [], b1, b2, h, n1, _ => by
    obtain ⟨e, _⟩ := List.cons.inj h
    exact absurd (by rw [← e]; exact List.mem_cons_self ..) n1
  | x :: a1, y :: a2, b1, b2, h, n1, n2 => by
    obtain ⟨e, h2⟩ := List.cons.inj h
    obtain ⟨i, j⟩ := first_cut h2 (fun z => n1 (List.mem_cons_of_mem _ z)) fun z => n2 (List.mem_cons_of_mem _ z)
    exact ⟨by rw [e, i], j⟩
/-- numbers in a list, as they are shown; k of these are behind -/
def body (k : Nat) : List Nat → List Nat
  | [] => [93]
  | n :: r => (if 0 < k then [44, 32] else []) ++ (dg n ++ body (k + 1) r)
theorem textFrom_nums : ∀ (ns : List Nat) (k : Nat) (acc : Str), tl (textFrom k acc (ns.map num) ++ ("]" : Str)) = tl acc ++ body k ns
  | [], _, acc => by
    show tl (acc ++ _) = _
    rw [tl_app]
    rfl
  | n :: r, k, acc => by
    have ih := textFrom_nums r (k + 1) (acc ++ (if k > 0 then ", " else "" : String) ++ num n)
    show tl (textFrom (k + 1) (acc ++ (if k > 0 then ", " else "" : String) ++ num n) (r.map num) ++ ("]" : Str)) = _
    rw [ih, tl_app, tl_app, tl_num, body]
    have : tl ((if k > 0 then ", " else "" : String) : Str) = if 0 < k then [44, 32] else [] := by
      by_cases h : 0 < k
      · rw [if_pos h, if_pos h]
        decide +kernel
      · rw [if_neg h, if_neg h]
        decide +kernel
    rw [this]
    simp only [List.append_assoc]
theorem body_free : ∀ (ns : List Nat) (k : Nat), 91 ∉ body k ns
  | [], _ => by show 91 ∉ [93]; decide
  | n :: r, k => by
    have h1 := body_free r (k + 1)
    have h2 : 91 ∉ dg n := TL.numL_free (by omega)
    unfold body
    split <;> simp [h1, h2]
theorem body_head : ∀ (ns : List Nat) (k : Nat), ∃ c t, body (k + 1) ns = c :: t ∧ (c = 44 ∨ c = 93) ∧ (ns = [] ↔ c = 93)
  | [], _ => ⟨93, [], rfl, .inr rfl, by simp⟩
  | n :: r, k => ⟨44, 32 :: (dg n ++ body (k + 2) r), by rw [body, if_pos (by omega)]; rfl, .inl rfl, by simp⟩
theorem dg_cut {m n : Nat} {t1 t2 : List Nat} {c1 c2 : Nat} (h : dg m ++ c1 :: t1 = dg n ++ c2 :: t2) (h1 : c1 = 44 ∨ c1 = 93) (h2 : c2 = 44 ∨ c2 = 93) : m = n ∧ c1 :: t1 = c2 :: t2 := by
  have key : ∀ {a b : List Nat}, (∀ x ∈ a, 48 ≤ x ∧ x ≤ 57) → (∀ x ∈ b, 48 ≤ x ∧ x ≤ 57) → a ++ c1 :: t1 = b ++ c2 :: t2 → a = b ∧ c1 :: t1 = c2 :: t2 := by
    intro a
    induction a with
    | nil =>
      intro b ha hb h
      cases b with
      | nil => exact ⟨rfl, h⟩
      | cons y b =>
        obtain ⟨e, _⟩ := List.cons.inj h
        have := hb y (List.mem_cons_self ..)
        omega
    | cons x a ih =>
      intro b ha hb h
      cases b with
      | nil =>
        obtain ⟨e, _⟩ := List.cons.inj h
        have := ha x (List.mem_cons_self ..)
        omega
      | cons y b =>
        obtain ⟨e, h'⟩ := List.cons.inj h
        obtain ⟨i, j⟩ := ih (fun z hz => ha z (List.mem_cons_of_mem _ hz)) (fun z hz => hb z (List.mem_cons_of_mem _ hz)) h'
        exact ⟨by rw [e, i], j⟩
  obtain ⟨i, j⟩ := key (fun x hx => TL.numL_digits m x hx) (fun x hx => TL.numL_digits n x hx) h
  exact ⟨TL.numL_inj i, j⟩
theorem body_inj : ∀ {ms ns : List Nat} {k : Nat}, body k ms = body k ns → ms = ns
  | [], [], _, _ => rfl
  | [], n :: ns, k, h => by
    exfalso
    unfold body at h
    split at h
    · simp at h
    · obtain ⟨c, r, e, h1, h2, _⟩ := dg_head n
      rw [e] at h
      simp at h
      omega
  | m :: ms, [], k, h => by
    exfalso
    unfold body at h
    split at h
    · simp at h
    · obtain ⟨c, r, e, h1, h2, _⟩ := dg_head m
      rw [e] at h
      simp at h
      omega
  | m :: ms, n :: ns, k, h => by
    unfold body at h
    have h' := List.append_cancel_left h
    obtain ⟨c1, t1, e1, x1, _⟩ := body_head ms k
    obtain ⟨c2, t2, e2, x2, _⟩ := body_head ns k
    rw [e1, e2] at h'
    obtain ⟨i, j⟩ := dg_cut h' x1 x2
    rw [← e1, ← e2] at j
    rw [i, body_inj j]
theorem shown_int (n : Nat) : (PyData.int ((n : Nat) : Int)).shown = num n := by
  simp only [PyData.shown]
  rfl
theorem shown_i (f : Nat → Nat) (n : Nat) : tl (iD f n).shown = 91 :: body 0 ((List.range n).map f) := by
  unfold iD
  simp only [PyData.shown]
  rw [shownAll_map]
  have e : ((List.range n).map fun x => (PyData.int ((f x : Nat) : Int)).shown) = ((List.range n).map f).map num := by
    rw [List.map_map]
    exact List.map_congr_left fun x _ => shown_int (f x)
  rw [e]
  unfold listText
  rw [textFrom_nums]
  rfl
/-! ### the world as a dict -/
def wKey : List PyData := [.str "cut", .str "rows", .str "texts", .str "sure"]
def wVal (J : Jr) : List PyData := [iD J.cut J.n, rD J, tD J, iD J.sure J.n]
def wD (J : Jr) : PyData := .dict [(.str "cut", iD J.cut J.n), (.str "rows", rD J), (.str "texts", tD J), (.str "sure", iD J.sure J.n)]
def wHead (J : Jr) : Str := ("{" : Str) ++ ((PyData.str "cut").shown ++ ": " ++ (iD J.cut J.n).shown ++ ", " ++ ((PyData.str "rows").shown ++ ": " ++ (rD J).shown ++ ", " ++ ((PyData.str "texts").shown ++ ": " ++ (tD J).shown ++ ", " ++ ((PyData.str "sure").shown ++ ": "))))
theorem join4 (s a b c d : Str) : tl (Str.join s [a, b, c, d]) = tl a ++ tl s ++ (tl b ++ tl s ++ (tl c ++ tl s ++ tl d)) := by
  show tl (a ++ s ++ (b ++ s ++ (c ++ s ++ d))) = _
  simp only [tl_app]
theorem wD_shown (J : Jr) : tl (wD J).shown = tl (wHead J) ++ (91 :: body 0 ((List.range J.n).map J.sure)) ++ [125] := by
  unfold wD
  simp only [PyData.shown, PyData.shownKv]
  unfold dictText
  rw [tl_app, tl_app, join4]
  unfold wHead
  simp only [tl_app, PyData.shown]
  have e := shown_i J.sure J.n
  rw [e, show tl ("}" : Str) = [125] from by decide +kernel]
  simp only [List.append_assoc]
theorem body_free2 (ns : List Nat) : 91 ∉ body 0 ns ++ [125] := fun z => by
  rcases List.mem_append.mp z with z | z
  · exact body_free _ _ z
  · cases List.mem_singleton.mp z
theorem wD_inj {I J : Jr} (hn : I.n = J.n) (hc : ∀ l, l < J.n → I.cut l = J.cut l) (hr : ∀ l, l < J.n → ∃ k, I.es l = (J.es l).take k) (ht : ∀ l, l < J.n → ∃ k, I.txt l = (J.txt l).take k) (h : (wD I).shown = (wD J).shown) :
    ∀ l, l < J.n → I.txt l = J.txt l ∧ I.sure l = J.sure l := by
  have q := congrArg tl h
  rw [wD_shown, wD_shown, List.append_assoc, List.append_assoc, List.cons_append, List.cons_append] at q
  obtain ⟨q1, q2⟩ := last_cut q (body_free2 _) (body_free2 _)
  have q3 := body_inj (List.append_cancel_right q2)
  have es : ∀ l, l < J.n → I.sure l = J.sure l := fun l hl => by
    have := congrArg (fun z : List Nat => z[l]?) q3
    rw [List.getElem?_map, List.getElem?_map, hn, List.getElem?_range hl] at this
    exact Option.some.inj this
  have ec : iD I.cut I.n = iD J.cut J.n := by
    unfold iD
    rw [hn, List.map_congr_left fun l hl => by rw [hc l (List.mem_range.mp hl)]]
  have ln := congrArg List.length q1
  rw [show (tl (wHead I)).length = (wHead I).length from (TL.len_tl _).symm, show (tl (wHead J)).length = (wHead J).length from (TL.len_tl _).symm] at ln
  unfold wHead at ln
  simp only [strLen_append] at ln
  rw [ec] at ln
  have lr : (rD I).shown.length ≤ (rD J).shown.length := by
    unfold rD
    rw [hn]
    refine (range_le fun l hl => ?_).1
    obtain ⟨k, e⟩ := hr l hl
    rw [e]
    unfold esD
    exact list_take_le _ _ _
  obtain ⟨lt, lt2⟩ := range_le (f := fun l => PyData.str (S (I.txt l))) (g := fun l => PyData.str (S (J.txt l))) (n := J.n) fun l hl => by
    obtain ⟨k, e⟩ := ht l hl
    rw [e]
    simp only [PyData.shown]
    exact (repr_take _ _).1
  have et : (tD I).shown.length = (PyData.list ((List.range J.n).map fun l => PyData.str (S (I.txt l)))).shown.length := by
    unfold tD
    rw [hn]
  have et2 : (tD J).shown.length = (PyData.list ((List.range J.n).map fun l => PyData.str (S (J.txt l)))).shown.length := rfl
  have all := lt2 (by omega)
  refine fun l hl => ⟨?_, es l hl⟩
  have := all l hl
  obtain ⟨k, e⟩ := ht l hl
  rw [e] at this ⊢
  simp only [PyData.shown] at this
  exact (repr_take _ _).2 this
/-- a stop's world looks like the journal's just if they are equal -/
theorem stop_looks {J : Jr} (O : OkJ J) {f : Nat → Nat} (hf : ∀ l, l < J.n → f l ≤ (J.txt l).length) : (wD (stopJ J f)).shown = (wD J).shown ↔ ∀ l, l < J.n → (stopJ J f).txt l = J.txt l ∧ f l = J.sure l := by
  constructor
  · intro h
    exact wD_inj (I := stopJ J f) rfl (fun _ _ => rfl) (fun l _ => by
      obtain ⟨k, _, e⟩ := kept_pre (J.es l) (f l)
      exact ⟨k, e⟩) (fun l hl => ⟨f l, (stopJ_txt O f hl).1⟩) h
  · intro h
    have e1 : ∀ l, l < J.n → (stopJ J f).es l = J.es l := fun l hl => by
      have a := (stopJ_txt O f hl).1
      rw [(h l hl).1] at a
      have b := congrArg List.length a
      rw [List.length_take] at b
      refine kept_all _ ?_
      have : (J.txt l).length = (rowsL (J.es l)).length + (J.tail l).length := List.length_append
      omega
    congr 1
    unfold wD rD tD iD
    have z1 : ((List.range (stopJ J f).n).map fun l => esD l ((stopJ J f).es l)) = (List.range J.n).map fun l => esD l (J.es l) := List.map_congr_left fun l hl => by rw [e1 l (List.mem_range.mp hl)]
    have z2 : ((List.range (stopJ J f).n).map fun l => PyData.str (S ((stopJ J f).txt l))) = (List.range J.n).map fun l => PyData.str (S (J.txt l)) := List.map_congr_left fun l hl => by rw [(h l (List.mem_range.mp hl)).1]
    have z3 : ((List.range (stopJ J f).n).map fun l => PyData.int (((stopJ J f).sure l : Nat) : Int)) = (List.range J.n).map fun l => PyData.int ((J.sure l : Nat) : Int) := List.map_congr_left fun l hl => by rw [show (stopJ J f).sure l = J.sure l from (h l (List.mem_range.mp hl)).2]
    rw [z1, z2, z3]
    rfl
/-! ### .. can be shown -/
theorem w_shw {J : Jr} (O : OkJ J) : Shw (iD J.cut J.n) ∧ Shw (rD J) ∧ Shw (tD J) ∧ Shw (iD J.sure J.n) := by
  have h := shw_sh O
  unfold shD at h
  simp only [Shw, ShwAll] at h
  exact ⟨h.2.2.2.1, h.2.2.2.2.1, h.2.2.2.2.2.1, h.2.2.2.2.2.2.1⟩
theorem w_ok {J : Jr} (O : OkJ J) : PyData.showableKv [(.str "cut", iD J.cut J.n), (.str "rows", rD J), (.str "texts", tD J), (.str "sure", iD J.sure J.n)] = true ∧ PyData.hasDictAll (wVal J) = false ∧ (wD J).shown.length ≤ sizeLine := by
  obtain ⟨a, b, c, d⟩ := w_shw O
  obtain ⟨a1, a2, a3⟩ := Shw.all _ a
  obtain ⟨b1, b2, b3⟩ := Shw.all _ b
  obtain ⟨c1, c2, c3⟩ := Shw.all _ c
  obtain ⟨d1, d2, d3⟩ := Shw.all _ d
  refine ⟨?_, ?_, ?_⟩
  · simp only [PyData.showableKv, PyData.showable.eq_4, a2, b2, c2, d2, Bool.and_self, Bool.and_true]
    rfl
  · unfold wVal
    simp only [PyData.hasDictAll, a3, b3, c3, d3, Bool.or_self]
  · have e : (wD J).shown.length = (tl (wD J).shown).length := TL.len_tl _
    have n8 := O.n8
    have ci := cost_i J.cut J.n
    have cs := cost_i J.sure J.n
    have cr := cost_r O
    have ct := cost_t O
    have es : (iD J.sure J.n).shown.length = (91 :: body 0 ((List.range J.n).map J.sure)).length := by rw [← shown_i]; exact TL.len_tl _
    rw [e, wD_shown, List.length_append, List.length_append, ← es, show (tl (wHead J)).length = (wHead J).length from (TL.len_tl _).symm]
    unfold wHead
    simp only [strLen_append]
    have k1 : (PyData.str "cut").shown.length ≤ 10 := by simp only [PyData.shown]; decide +kernel
    have k2 : (PyData.str "rows").shown.length ≤ 10 := by simp only [PyData.shown]; decide +kernel
    have k3 : (PyData.str "texts").shown.length ≤ 10 := by simp only [PyData.shown]; decide +kernel
    have k4 : (PyData.str "sure").shown.length ≤ 10 := by simp only [PyData.shown]; decide +kernel
    have p1 : (("{" : Str)).length = 1 := rfl
    have p2 : ((": " : Str)).length = 2 := rfl
    have p3 : ((", " : Str)).length = 2 := rfl
    rw [sizeLine_eq]
    simp only [List.length_singleton]
    omega
theorem w_dep (J : Jr) : (wD J).depth ≤ 40 := by
  have h := dep_sh J
  unfold shD at h
  unfold wD
  simp only [PyData.depth, PyData.depthAll, PyData.depthKv] at h ⊢
  omega
end JN

set_option Elab.async false
set_option linter.all false
set_option maxRecDepth 100000
set_option maxHeartbeats 4000000
/-! L77h: what is found after a stop. -/
namespace K77
open PySem PySem.Spec PyProof.Rows L2 LL K75 JN
abbrev s_l_found_right : Stmt := top 67
abbrev n_l_found_right : List Str := ["_law_pot_here", "_law_journal", "_law_world_here", "_law_lengths_here", "_law_found", "_law_model", "_law_entries", "_law_cut", "_law_disk"]
theorem sc_l_found_right : FnScope n_l_found_right ["_law_pot_here", "_law_journal", "_law_world_here"] (defScope s_l_found_right) := ⟨rfl, rfl, rfl, by decide +kernel, rfl, by decide +kernel, by decide +kernel⟩
section
variable {P : Program} {w : World} {K : PySem.W.Frag} {mg : Str → Option Value} {base : Heap} {CD CJ : Addr} {f : Addr} {fd : FuncData}
theorem JAt.congr {H : Hp} {p : Addr} {ds : List Addr} {I J : Jr} (h : JAt CD CJ H p ds I) (hn : I.n = J.n) (k : ∀ l, l < J.n → I.cut l = J.cut l ∧ I.txt l = J.txt l ∧ I.sure l = J.sure l) : JAt CD CJ H p ds J := by
  obtain ⟨dx, pd, pc, a, b, c⟩ := h.ex
  refine ⟨⟨dx, pd, pc, a, b, ?_⟩, by rw [h.len, hn], h.nd, fun l d e => ?_⟩
  · rw [c, hn, nL_congr fun l hl => (k l hl).1]
  · have hl : l < J.n := by rw [← hn, ← h.len]; exact (List.getElem?_eq_some_iff.mp e).1
    obtain ⟨_, x, y⟩ := k l hl
    rw [← x, ← y]
    exact h.at_ l d e
theorem wd_all {H : Hp} {W : Addr} {A : Wa} {J : Jr} (h : WAt H W A J) : DpAll K H ((wkv A).map (·.2)) (wVal J) := .cons (dp_i h.c) (.cons (dp_r h.r h.len h.es) (.cons (dp_t h.t) (.cons (dp_i h.s) .nil)))
def spFnd (CD CJ : Addr) : Sp := fun vs H Q _ => ∃ (p j W : Addr) (ds : List Addr) (A : Wa) (J : Jr), vs = [.ref p, .ref j, .ref W] ∧ PotAt H p ∧ p ∉ A.all ∧ JAt CD CJ H j ds J ∧ JSep CJ H j (p :: A.all) ∧ WAt H W A J ∧ OkJ J ∧ ∀ H', But p H H' → PotAt H' p → Q (.bl true) H'
theorem ok_l_found_right (T : Tx K mg CD CJ) (G_l_lengths : Fnc P w K mg base CX0 2 "_law_lengths" [] spLen) (M_J_stopped : Mth P w K mg base CX0 7 CJ "stopped" [] (spStp CD CJ)) (G_l_stopped : Fnc P w K mg base CX0 4 "_law_stopped" [] spStW) (G_l_is_shown : Fnc P w K mg base CX0 10 "_law_is_shown" [] (spShow CD CJ)) (S_jeq : SpF P w K mg base CX0 3 CJ "__eq__" (spJeq K CD CJ)) (M_J_entries : Mth P w K mg base CX0 5 CJ "entries" [] (spEnt CD CJ)) (M_J_cut : Mth P w K mg base CX0 1 CJ "cut" [] (spCut CD CJ)) (M_J_disk : Mth P w K mg base CX0 6 CJ "disk" [] (spDisk CD CJ)) (M_D_append : Mth P w K mg base CX0 2 CD "append" [] (spApp CD)) (M_J_order : Mth P w K mg base CX0 7 CJ "order" [] (spOrd CD CJ)) (M_J_counting : Mth P w K mg base CX0 8 CJ "counting" [] (spCtg CD CJ)) (M_J_sync : Mts P w K mg base CX0 3 CJ "sync" (spStar 1 (spSyn CD CJ)))
    (F : FD K "_law_found_right" "_law_found_right" s_l_found_right [] f fd) : FnG P w K mg base CX0 11 f fd ["_law_pot_here", "_law_journal", "_law_world_here"] (spFnd CD CJ) := by
  refine ok0 F sc_l_found_right (fun vs H Q E h => ?_) (fun cdv A outer s H vs Q E hr h => ?_)
  · obtain ⟨p, j, W, ds, A, J, rfl, _⟩ := h
    rfl
  · obtain ⟨p, j, W, ds, A, J, rfl, hpt, np, ja, js, wa, O, q⟩ := h
    refine ⟨_, (pss_cons (ps_set (i := 3) sc_l_found_right.nd rfl (by first | exact Or.inl rfl | exact Or.inr rfl) (pe_fn G_l_lengths (hr.mono (by decide)) pass0 (pa_cons (pv 0) (pa_cons (pv 2) pa_nil))))
      (pss_cons (ps_par (i := 4) (j := 5) rfl sc_l_found_right.nd rfl rfl (by decide) rfl rfl (pa_cons (pe_mt M_J_stopped (hr.mono (by decide)) pass0 (pv 1) (pa_cons (pv 3) pa_nil)) (pa_cons (pe_fn G_l_stopped (hr.mono (by decide)) pass0 (pa_cons (pv 2) (pa_cons (pv 3) pa_nil))) pa_nil)) (by rfl))
      (pss_cons (ps_if (PW.pt (pw_or (pt_not (pt_val (pe_fn G_l_is_shown (hr.mono (by decide)) pass0 (pa_cons (pv 4) (pa_cons (pv 5) pa_nil))))) (pw_or1 (pt_cmpR op_ne (pe_cmpR (op_eqF S_jeq (hr.mono (by decide)) pass0) (pv 4) (pv 1) (nomark _)) (pe_cmpR op_eq (pe_callB (call_reprDk rfl hr.g (un64 hr)) (by rfl) T.n_repr (by decide +kernel) (pa_cons (pv 5) pa_nil)) (pe_callB (call_reprDk rfl hr.g (un64 hr)) (by rfl) T.n_repr (by decide +kernel) (pa_cons (pv 2) pa_nil)) (nomark _)) (nomark _))))) (pss_one (ps_ret pe_bl)) pss_nil)
      (pss_cons (ps_par3 (i := 6) (j := 7) (l := 8) rfl sc_l_found_right.nd rfl rfl rfl (by decide) (by decide) (by decide) rfl rfl rfl (pa_cons (pe_mt M_J_entries (hr.mono (by decide)) pass0 (pv 4) (pa_cons pe_int pa_nil)) (pa_cons (pe_mt0 M_J_cut (hr.mono (by decide)) pass0 (pv 4)) (pa_cons (pe_mt M_J_disk (hr.mono (by decide)) pass0 (pv 4) (pa_cons pe_int pa_nil)) pa_nil))) (by rfl))
      (pss_cons (ps_expr (pe_bm PySem.F.plainAttrs_list PySem.F.slot_list_append PySem.F.type_list_append mt_append (pv 6) (pa_cons pe_non pa_nil)))
      (pss_cons (ps_expr (pe_bm PySem.F.plainAttrs_list PySem.F.slot_list_append PySem.F.type_list_append mt_append (pv 7) (pa_cons pe_int pa_nil)))
      (pss_cons (ps_expr (pe_mt M_D_append (hr.mono (by decide)) pass0 (pv 8) (pa_cons pe_str pa_nil)))
      (pss_cons (ps_expr (pe_bm0 PySem.F.plainAttrs_list PySem.F.slot_list_clear PySem.F.type_list_clear mt_clear (pe_mt0 M_J_order (hr.mono (by decide)) pass0 (pv 4))))
      (pss_cons (ps_expr (pe_bm0 PySem.F.plainAttrs_list PySem.F.slot_list_clear PySem.F.type_list_clear mt_clear (pe_mt0 M_J_counting (hr.mono (by decide)) pass0 (pv 4))))
      (pss_cons (ps_expr (pe_ms0 M_J_sync (hr.mono (by decide)) pass0 (pv 4)))
      (pss_one (ps_ret (pe_and (pe_fn G_l_is_shown (hr.mono (by decide)) pass0 (pa_cons (pv 4) (pa_cons (pv 5) pa_nil))) (pe_one (pe_fn G_l_is_shown (hr.mono (by decide)) pass0 (pa_cons (pv 1) (pa_cons (pv 2) pa_nil))))))))))))))))), ?_⟩
    have mp : p ∈ p :: A.all := List.mem_cons_self ..
    refine ⟨_, rfl, _, rfl, p, W, A, J, rfl, hpt, np, wa, O, fun H1 a f b1 hp1 na ha hf => ?_⟩
    obtain ⟨ja1, jj1⟩ := ja.draw js mp hpt b1
    have wa1 := wa.but b1 hpt np
    obtain ⟨dx, pd, pc, hj1, _, _⟩ := ja1.ex
    have hf2 : ∀ l, l < J.n → f l ≤ (J.txt l).length := fun l hl => (hf l hl).2
    have O2 := stopJ_ok O hf2
    refine ⟨_, rfl, j, dx, _, rfl, hj1, look_jno _ _ (by decide +kernel) (by decide +kernel), _, rfl, j, a, ds, J, f, rfl, ja1, O, ha, hf, fun H2 r es s2 jn2 => ?_⟩
    have jr2 := jn2.same newH_le
    refine ⟨_, rfl, _, rfl, W, a, A, J, f, rfl, wa1.same s2, O, s2 _ _ ha, hf2, fun H3 W2 A2 s3 nW2 nA2 wa3 => ?_⟩
    have s13 := s2.trans s3
    refine ⟨_, _, rfl, ?_⟩
    refine ⟨_, rfl, _, rfl, r, W2, es, A2, stopJ J f, rfl, jr2.same s3, wa3, O2, fun H4 s4 => ?_⟩
    have s14 := s13.trans s4
    have jr4 := jr2.same (s3.trans s4)
    have ja4 := ja1.same s14
    have wa4 := wa1.same s14
    have wb4 := wa3.same s4
    obtain ⟨dr, rd, rc, hr4, _, _⟩ := jr4.ex
    refine ⟨true, rfl, iteF ?_⟩
    refine ⟨_, rfl, _, rfl, r, dr, _, .ref CJ, rfl, hr4, .base (.ins (ja4.ex.choose_spec.choose_spec.choose_spec.1) T.cJ T.caJ T.cn T.ct T.cmJ), T.fJ, r, es, stopJ J f, _, rfl, jr4, .inr ⟨j, ds, J, rfl, ja4, fun H5 b s5 hb => ?_⟩⟩
    obtain ⟨w1, w2, w3⟩ := w_ok O2
    obtain ⟨v1, v2, v3⟩ := w_ok O
    refine ⟨_, rfl, W2, wkv A2, wVal (stopJ J f), rfl, (wb4.same s5).d, wd_all (wb4.same s5), w1, w2, w_dep _, w3, ?_⟩
    refine ⟨_, rfl, W, wkv A, wVal J, rfl, (wa4.same s5).d, wd_all (wa4.same s5), v1, v2, w_dep _, v3, rfl, rfl, ?_⟩
    have eb : b = decide (V.str (PyData.dict (kvD (wkv A2) (wVal (stopJ J f)))).shown = V.str (PyData.dict (kvD (wkv A) (wVal J))).shown) := by
      rw [Bool.eq_iff_iff, hb, decide_eq_true_eq]
      have sl := stop_looks O hf2
      constructor
      · rintro ⟨_, k⟩
        exact congrArg V.str (sl.mpr fun l hl => ⟨(k l hl).2.1, (k l hl).2.2⟩)
      · intro k
        have k2 := sl.mp (V.str.inj k)
        exact ⟨rfl, fun l hl => ⟨rfl, (k2 l hl).1, (k2 l hl).2⟩⟩
    rw [← eb, decide_eq_true rfl]
    refine ⟨false, rfl, iteF ?_⟩
    have jr5 := jr4.same s5
    have wb5 := wb4.same s5
    have s15 := s14.trans s5
    have hr5 := s5 _ _ hr4
    refine nx_of ?_
    dsimp only
    refine ⟨_, rfl, r, dr, _, rfl, hr5, look_jno _ _ (by decide +kernel) (by decide +kernel), r, es, stopJ J f, 0, rfl, jr5, O2, O.pos, fun H6 a0 s6 ⟨vs0, ha0, ev⟩ => ?_⟩
    obtain ⟨na0, ha6⟩ := newH_some ha0
    refine ⟨_, rfl, r, dr, _, rfl, s6 _ _ hr5, look_jno _ _ (by decide +kernel) (by decide +kernel), r, es, stopJ J f, rfl, jr5.same s6, fun H7 c0 s7 hc0 => ?_⟩
    obtain ⟨nc0, hc7⟩ := newH_some hc0
    have s57 := s6.trans s7
    refine ⟨_, rfl, r, dr, _, rfl, s57 _ _ hr5, look_jno _ _ (by decide +kernel) (by decide +kernel), r, es, stopJ J f, 0, rfl, jr5.same s57, O2, O.pos, fun H8 d0 s8 nd0 hd8 => ?_⟩
    have s58 := s57.trans s8
    refine ⟨_, _, _, rfl, ?_⟩
    have l64 : ∀ xs : List V, xs.length < 100 → xs.length < sizeLine := fun xs h => Nat.lt_of_lt_of_le h (small (by decide))
    have le0 : ((stopJ J f).es 0).length ≤ 64 := by have := O2.ends 0 O.pos; unfold Jr.ends at this; omega
    refine ⟨_, rfl, .inl ⟨rfl, _, SqL.of (s8 _ _ (s7 _ _ ha6))⟩, a0, vs0, _, rfl, rfl, s8 _ _ (s7 _ _ ha6), l64 _ (by rw [ev.len]; omega), ?_⟩
    have nc5 : H5 c0 = none := s6.free nc0
    have nd5 : H5 d0 = none := s57.free nd0
    have s5a : Same H5 (upd H8 a0 (.lst (vs0 ++ [.non]))) := own_same s58 na0
    have ca : c0 ≠ a0 := fun z => by rw [z, ha6] at nc0; cases nc0
    have da : d0 ≠ a0 := fun z => by rw [z, s7 _ _ ha6] at nd0; cases nd0
    have dc : d0 ≠ c0 := fun z => by rw [z, hc7] at nd0; cases nd0
    generalize hGa : upd H8 a0 (.lst (vs0 ++ [.non])) = Ga at *
    have hca : Ga c0 = some (.lst (nL (stopJ J f).cut (stopJ J f).n)) := by rw [← hGa, upd_ne ca]; exact s8 _ _ hc7
    have hda : DAt CD Ga d0 (S ((stopJ J f).txt 0)) ((stopJ J f).sure 0) := by
      obtain ⟨dy, e⟩ := hd8
      exact ⟨dy, by rw [← hGa, upd_ne da]; exact e⟩
    have n8 := O.n8
    refine ⟨_, rfl, .inl ⟨rfl, _, SqL.of hca⟩, c0, _, _, rfl, rfl, hca, l64 _ (by rw [nL_len]; show J.n < 100; omega), ?_⟩
    have s5b : Same H5 (upd Ga c0 (.lst (nL (stopJ J f).cut (stopJ J f).n ++ [.int 7]))) := own_same s5a nc5
    generalize hGb : upd Ga c0 (.lst (nL (stopJ J f).cut (stopJ J f).n ++ [.int 7])) = Gb at *
    have hdb : DAt CD Gb d0 (S ((stopJ J f).txt 0)) ((stopJ J f).sure 0) := by
      obtain ⟨dy, e⟩ := hda
      exact ⟨dy, by rw [← hGb, upd_ne dc]; exact e⟩
    obtain ⟨dy, hdb'⟩ := id hdb
    have tl0 := O2.txt_len O.pos
    have sl0 : (S ((stopJ J f).txt 0)).length = ((stopJ J f).txt 0).length := TL.len_tl _
    refine ⟨_, rfl, d0, dy, _, rfl, hdb', look_no _ _ (by decide +kernel) (by decide +kernel), d0, _, _, _, rfl, hdb, (by rw [sl0, show (("x" : Str)).length = 1 from rfl]; omega), fun Gc bc _ => ?_⟩
    have s5c : Same H5 Gc := Chg.same (A := [d0]) s5b (Chg.but (List.mem_singleton.mpr rfl) bc) fun x hx => by rw [List.mem_singleton.mp hx]; exact nd5
    have jrc := jr5.same s5c
    have hrc := s5c _ _ hr5
    refine ⟨_, rfl, r, dr, _, rfl, hrc, look_jno _ _ (by decide +kernel) (by decide +kernel), r, es, stopJ J f, rfl, jrc, O2, fun Hd o0 us sd ho _ => ?_⟩
    obtain ⟨no0, ho0⟩ := newH_some ho
    have s5d : Same H5 (upd Hd o0 (.lst [])) := own_same (s5c.trans sd) (s5c.free no0)
    refine ⟨.inl ⟨rfl, _, SqL.of ho0⟩, o0, _, rfl, rfl, ho0, ?_⟩
    generalize upd Hd o0 (.lst []) = He at *
    refine ⟨_, rfl, r, dr, _, rfl, s5d _ _ hr5, look_jno _ _ (by decide +kernel) (by decide +kernel), r, es, stopJ J f, rfl, jr5.same s5d, O2, fun Hf k0 sf hk => ?_⟩
    obtain ⟨nk0, hk0⟩ := newH_some hk
    have s5f : Same H5 (upd Hf k0 (.lst [])) := own_same (s5d.trans sf) (s5d.free nk0)
    refine ⟨.inl ⟨rfl, _, SqL.of hk0⟩, k0, _, rfl, rfl, hk0, ?_⟩
    generalize upd Hf k0 (.lst []) = Hg at *
    have jrg := jr5.same s5f
    refine ⟨_, rfl, r, dr, _, rfl, s5f _ _ hr5, look_jno _ _ (by decide +kernel) (by decide +kernel), [.ref r], [], rfl, rfl, small (by show 0 ≤ 100000; decide), fun t nt => ?_⟩
    refine ⟨r, t, es, stopJ J f, [], rfl, jrg.same (same_upd nt), O2, upd_same, (fun l hl => by cases hl), (by show 0 ≤ 8; decide), fun Hh ch jrh => ?_⟩
    have jrh' : JAt CD CJ Hh r es (stopJ J f) := jrh.congr rfl fun l hl => ⟨rfl, rfl, by
      show (if (decide (([] : List Nat) = []) || decide (l ∈ ([] : List Nat))) = true then ((stopJ J f).txt l).length else (stopJ J f).sure l) = _
      rw [if_pos (by simp), (stopJ_txt O f hl).1, List.length_take]
      have := hf2 l hl
      show _ = f l
      omega⟩
    have wbg := (wb5.same s5f).same (same_upd (o := .tup []) nt)
    have wbh := wbg.disks (jrg.same (same_upd (o := .tup []) nt)).dd ch
    have nes : ∀ x ∈ es, H1 x = none := fun x hx => by
      obtain ⟨_, _, dz, e⟩ := jn2.dd x hx
      exact (newH_some e).1
    have s1h : Same H1 Hh := Chg.same (A := es) ((s15.trans s5f).trans (same_upd nt)) ch nes
    refine ⟨_, rfl, _, rfl, r, W2, es, A2, stopJ J f, rfl, jrh', wbh, O2, fun Hi si => ⟨true, rfl, iteT ?_⟩⟩
    have s1i := s1h.trans si
    refine ⟨_, rfl, _, rfl, j, W, ds, A, J, rfl, ja1.same s1i, wa1.same s1i, O, fun Hj sj => ?_⟩
    have s1j := s1i.trans sj
    exact q Hj (b1.trans (But.of s1j)) (hp1.same s1j)
end
end K77

set_option Elab.async false
set_option linter.all false
set_option maxRecDepth 100000
set_option maxHeartbeats 4000000
/-! L77i: a twin. -/
namespace K77
open PySem PySem.Spec PyProof.Rows L2 LL K75 JN
abbrev s_l_twin_right : Stmt := top 68
abbrev n_l_twin_right : List Str := ["_law_pot_here", "_law_journal", "_law_world_here", "_law_other", "_law_model", "_law_text"]
theorem sc_l_twin_right : FnScope n_l_twin_right ["_law_pot_here", "_law_journal", "_law_world_here"] (defScope s_l_twin_right) := ⟨rfl, rfl, rfl, by decide +kernel, rfl, by decide +kernel, by decide +kernel⟩
section
variable {P : Program} {w : World} {K : PySem.W.Frag} {mg : Str → Option Value} {base : Heap} {CD CJ : Addr} {f : Addr} {fd : FuncData}
theorem WAt.congr {H : Hp} {W : Addr} {A : Wa} {I J : Jr} (h : WAt H W A I) (hn : I.n = J.n) (k : ∀ l, l < J.n → I.cut l = J.cut l ∧ I.es l = J.es l ∧ I.txt l = J.txt l ∧ I.sure l = J.sure l) : WAt H W A J := by
  refine ⟨h.d, ?_, h.r, ?_, ?_, by rw [h.len, hn], fun l q e => ?_, h.nd⟩
  · rw [h.c, hn, nL_congr fun l hl => (k l hl).1]
  · have e := h.t
    rw [e, tL, tL, hn]
    congr 2
    exact List.map_congr_left fun l hl => by rw [(k l (List.mem_range.mp hl)).2.2.1]
  · rw [h.s, hn, nL_congr fun l hl => (k l hl).2.2.2]
  · have hl : l < J.n := by rw [← hn, ← h.len]; exact (List.getElem?_eq_some_iff.mp e).1
    rw [← (k l hl).2.1]
    exact h.es l q e
theorem putW (A : Wa) (b : Addr) : putK (wkv A) (Sum.inr "sure" : Key) (.ref b) = wkv ⟨A.c, A.r, A.t, b, A.rl⟩ := by
  have n1 : ¬ ((Sum.inr "cut" : Key) = (Sum.inr "sure" : Key)) := by decide +kernel
  have n2 : ¬ ((Sum.inr "rows" : Key) = (Sum.inr "sure" : Key)) := by decide +kernel
  have n3 : ¬ ((Sum.inr "texts" : Key) = (Sum.inr "sure" : Key)) := by decide +kernel
  unfold putK wkv
  rw [if_pos (by simp only [List.any_cons, decide_true, Bool.or_true, Bool.true_or])]
  simp only [List.map_cons, List.map_nil]
  rw [if_neg n1, if_neg n2, if_neg n3, if_pos trivial]
theorem jfl_inj {a b c d : Addr} (h : jfl a b = jfl c d) : a = c ∧ b = d := by
  unfold jfl at h
  simp only [List.cons.injEq, Prod.mk.injEq, V.ref.injEq, true_and, and_true] at h
  exact h
theorem row_ne (e : En) : rowL e ≠ [] := fun z => by
  unfold rowL at z
  rw [row_end] at z
  have := congrArg List.length z
  simp at this
def spTwin (CD CJ : Addr) : Sp := fun vs H Q _ => ∃ (p j W : Addr) (ds : List Addr) (A : Wa) (J : Jr), vs = [.ref p, .ref j, .ref W] ∧ PotAt H p ∧ p ∉ A.all ∧ JAt CD CJ H j ds J ∧ JSep CJ H j (p :: A.all) ∧ WAt H W A J ∧ OkJ J ∧ May J ∧ ∀ H', But p H H' → PotAt H' p → Q (.bl true) H'
theorem ok_l_twin_right (T : Tx K mg CD CJ) (M_J_clone : Mth P w K mg base CX0 7 CJ "clone" [] (spJcl CD CJ)) (G_l_stopped : Fnc P w K mg base CX0 4 "_law_stopped" [] spStW) (G_l_entered : Fnc P w K mg base CX0 9 "_law_entered" [] (spEntd CD CJ)) (G_l_is_shown : Fnc P w K mg base CX0 10 "_law_is_shown" [] (spShow CD CJ)) (S_jeq : SpF P w K mg base CX0 3 CJ "__eq__" (spJeq K CD CJ))
    (F : FD K "_law_twin_right" "_law_twin_right" s_l_twin_right [] f fd) : FnG P w K mg base CX0 11 f fd ["_law_pot_here", "_law_journal", "_law_world_here"] (spTwin CD CJ) := by
  refine ok0 F sc_l_twin_right (fun vs H Q E h => ?_) (fun cdv A outer s H vs Q E hr h => ?_)
  · obtain ⟨p, j, W, ds, A, J, rfl, _⟩ := h
    rfl
  · obtain ⟨p, j, W, ds, A, J, rfl, hpt, np, ja, js, wa, O, my, q⟩ := h
    refine ⟨_, (pss_cons (ps_par (i := 3) (j := 4) rfl sc_l_twin_right.nd rfl rfl (by decide) rfl rfl (pa_cons (pe_mt0 M_J_clone (hr.mono (by decide)) pass0 (pv 1)) (pa_cons (pe_fn G_l_stopped (hr.mono (by decide)) pass0 (pa_cons (pv 2) (pa_cons (pe_lc (own := [("_law_text", 5)]) rfl sc_l_twin_right.nd (pi_list (pe_dget (un1 hr.r.units) (pv 2) pe_str (fun _ _ => rfl))) (blkOk_by (own := [("_law_text", 5)]) (N := n_l_twin_right) (sc := defScope s_l_twin_right) (by decide +kernel)) (fun _ _ _ _ _ => (pg_name (i := 5) sc_l_twin_right.nd rfl (by first | exact Or.inl rfl | exact Or.inr rfl))) (fun _ _ _ _ _ => pts_nil) (fun _ _ _ _ _ => (pe_callB call_len_str (by rfl) T.n_len (by decide +kernel) (pa_cons (pv 5) pa_nil)))) pa_nil))) pa_nil)) (by rfl))
      (pss_cons (ps_dput (un1 hr.r.units) (pv 4) pe_str (pe_callTy call_list_of (by rfl) T.n_list (by decide +kernel) (pa_cons (pe_dget (un1 hr.r.units) (pv 2) pe_str (fun _ _ => rfl)) pa_nil)) rfl)
      (pss_cons (ps_if (PW.pt (pw_or (pt_cmpR (op_neF S_jeq T.neJ T.cmJ (hr.mono (by decide)) pass0) (pv 3) (pv 1) (nomark _)) (pw_or1 (pt_not (pt_val (pe_fn G_l_entered (hr.mono (by decide)) pass0 (pa_cons (pv 0) (pa_cons (pv 3) (pa_cons (pv 4) pa_nil))))))))) (pss_one (ps_ret pe_bl)) pss_nil)
      (pss_one (ps_ret (pe_and (pe_cmpR (op_neF S_jeq T.neJ T.cmJ (hr.mono (by decide)) pass0) (pv 3) (pv 1) (nomark _)) (pe_and (pe_fn G_l_is_shown (hr.mono (by decide)) pass0 (pa_cons (pv 3) (pa_cons (pv 4) pa_nil))) (pe_one (pe_fn G_l_is_shown (hr.mono (by decide)) pass0 (pa_cons (pv 1) (pa_cons (pv 2) pa_nil))))))))))), ?_⟩
    have mp : p ∈ p :: A.all := List.mem_cons_self ..
    have o8 := O.n8
    obtain ⟨dx, pd, pc, hj, _, _⟩ := ja.ex
    refine ⟨_, rfl, j, dx, _, rfl, hj, look_jno _ _ (by decide +kernel) (by decide +kernel), j, ds, J, rfl, ja, O, fun H1 r es s1 jn1 => ?_⟩
    have jr1 := jn1.same newH_le
    have wa1 := wa.same s1
    refine ⟨_, rfl, _, rfl, W, _, rfl, wa1.gt, ?_⟩
    refine ⟨A.t, rfl, ⟨_, SqL.of wa1.t⟩, fun D nD => ?_⟩
    refine lc_acc (walk_list (K := K) (a := A.t) (xs := tL J)) nD (fun j => (nL (fun l => (J.txt l).length) J.n).take j) rfl (fun j hj => ?_) (fun G s' => SqL.of (s' _ _ wa1.t)) ?_ ?_
    · rw [List.length_take, nL_len]
      rw [List.length_map, List.length_range] at hj
      omega
    · rintro i x G G' hi s2 ⟨rfl, hx⟩ N S' hN hS
      rw [List.length_map, List.length_range] at hi
      have hx' : V.str (S (J.txt i)) = x := Option.some.inj ((map_get (f := fun l => V.str (S (J.txt l))) hi).symm.trans hx)
      subst hx'
      have tlen := O.txt_len hi
      have sl : (S (J.txt i)).length = (J.txt i).length := TL.len_tl _
      refine ⟨rfl, _, rfl, _, rfl, small (by omega), ?_⟩
      rw [sl]
      exact hN _ _ Same.rfl' (take_snoc (nL_get hi))
    intro H2 s2 hD
    have hD' : H2 D = some (.lst (nL (fun l => (J.txt l).length) J.n)) := by rw [hD, List.take_of_length_le (by rw [nL_len, show (tL J).length = J.n from by rw [List.length_map, List.length_range]]; exact Nat.le_refl _)]
    have s12 := s1.trans s2
    refine ⟨W, D, A, J, _, rfl, wa.same s12, O, hD', fun l _ => Nat.le_refl _, fun H3 W2 A2 s3 nW2 nA2 wa3 => ?_⟩
    refine ⟨_, _, rfl, ?_⟩
    have s13 := s12.trans s3
    refine ⟨_, rfl, W, _, rfl, (wa.same s13).gs, A.s, _, rfl, .inl (SqL.of (wa.same s13).s), fun b nb => ?_⟩
    obtain ⟨G1, e1, t1, hb1⟩ := mkO nb (.lst (nL J.sure J.n))
    rw [e1]
    refine ⟨_, rfl, _, _, rfl, .k (k := Sum.inr "sure") (kvs := wkv A2) (t1 _ _ wa3.d) (by show 4 < _; rw [sizeLine_eq]; decide), ?_⟩
    rw [putW]
    have rows_le : ∀ l, l < J.n → (stopJ J fun l => (J.txt l).length).es l = J.es l ∧ (stopJ J fun l => (J.txt l).length).txt l = J.txt l := fun l hl => by
      refine ⟨kept_all _ ?_, ?_⟩
      · have : (J.txt l).length = (rowsL (J.es l)).length + (J.tail l).length := List.length_append
        show _ ≤ (J.txt l).length
        omega
      · rw [(stopJ_txt O _ hl).1, List.take_of_length_le (Nat.le_refl _)]
    have keep : ∀ {x : Addr} {o : HO}, H3 x = some o → x ≠ W2 → L2.upd G1 W2 (.dK (wkv ⟨A2.c, A2.r, A2.t, b, A2.rl⟩)) x = some o := fun e n => by
      rw [upd_ne n]
      exact t1 _ _ e
    have W2b : b ≠ W2 := fun z => by rw [z, wa3.d] at nb; cases nb
    have s2x : Same H2 (L2.upd G1 W2 (.dK (wkv ⟨A2.c, A2.r, A2.t, b, A2.rl⟩))) := own_same (s3.trans t1) nW2
    have hbx : L2.upd G1 W2 (.dK (wkv ⟨A2.c, A2.r, A2.t, b, A2.rl⟩)) b = some (.lst (nL J.sure J.n)) := by rw [upd_ne W2b]; exact hb1
    have wm : WAt (L2.upd G1 W2 (.dK (wkv ⟨A2.c, A2.r, A2.t, b, A2.rl⟩))) W2 ⟨A2.c, A2.r, A2.t, b, A2.rl⟩ ⟨J.n, J.cut, (stopJ J fun l => (J.txt l).length).es, (stopJ J fun l => (J.txt l).length).tail, J.sure⟩ := by
      have nd := wa3.nd
      simp only [Wa.all, List.nodup_cons, List.mem_cons, not_or] at nd
      obtain ⟨⟨cR, ct, _, crl⟩, ⟨rt, _, rrl⟩, ⟨_, trl⟩, _, rlnd⟩ := nd
      have nq : ∀ {x : Addr} {o : HO}, H3 x = some o → x ≠ b := fun e z => by rw [z, nb] at e; cases e
      refine ⟨upd_same, keep wa3.c (wa3.ne wa3.c).symm, keep wa3.r (wa3.ne wa3.r).symm, keep wa3.t (wa3.ne wa3.t).symm, hbx, wa3.len, fun l q e => ?_, ?_⟩
      · obtain ⟨us, x, y⟩ := wa3.es l q e
        exact ⟨us, keep x (wa3.ne x).symm, y.kt fun c ys z => keep z fun k => by rw [k, wa3.d] at z; cases z⟩
      · show (A2.c :: A2.r :: A2.t :: b :: A2.rl).Nodup
        simp only [List.nodup_cons, List.mem_cons, not_or]
        refine ⟨⟨cR, ct, nq wa3.c, crl⟩, ⟨rt, nq wa3.r, rrl⟩, ⟨nq wa3.t, trl⟩, fun z => ?_, rlnd⟩
        obtain ⟨l, hl⟩ := List.getElem?_of_mem z
        obtain ⟨us, x, _⟩ := wa3.es l b hl
        exact nq x rfl
    have wm' := wm.congr (J := J) rfl fun l hl => ⟨rfl, (rows_le l hl).1, (rows_le l hl).2, rfl⟩
    generalize hGx : L2.upd G1 W2 (.dK (wkv ⟨A2.c, A2.r, A2.t, b, A2.rl⟩)) = Gx at *
    have s1x : Same H1 Gx := s2.trans s2x
    have s0x : Same H Gx := s1.trans s1x
    have jrx := jr1.same s1x
    have jax := ja.same s0x
    obtain ⟨dr, rd, rc, hr1, hrd, hrc⟩ := jn1.ex
    have hrx := s1x _ _ (newH_le _ _ hr1)
    have ty : ∀ {G : Hp} {x dy : Addr} {fs : List (Str × V)}, G x = some (.ins CJ dy fs) → TyX K G (.ref x) (.ref CJ) := fun e => .base (.ins e T.cJ T.caJ T.cn T.ct T.cmJ)
    refine ⟨_, rfl, _, rfl, r, dr, _, .ref CJ, rfl, hrx, ty (s0x _ _ hj), T.fJ, r, es, J, _, rfl, jrx, .inr ⟨j, ds, J, rfl, jax, fun H4 b4 s4 hb4 => ?_⟩⟩
    have b4t : b4 = true := hb4.mpr ⟨rfl, fun l _ => ⟨rfl, rfl, rfl⟩⟩
    subst b4t
    have hp4 := hpt.same (s0x.trans s4)
    have npA : p ∉ (⟨A2.c, A2.r, A2.t, b, A2.rl⟩ : Wa).all := fun z => by
      simp only [Wa.all, List.mem_cons] at z
      have nf : ∀ {x : Addr}, H2 x = none → p ≠ x := fun e k => (hpt.same s12).ne e k.symm
      rcases z with z | z | z | z | z
      · exact nf (nA2 _ (by simp [Wa.all])) z
      · exact nf (nA2 _ (by simp [Wa.all])) z
      · exact nf (nA2 _ (by simp [Wa.all])) z
      · exact nf (s3.free nb) z
      · exact nf (nA2 _ (by simp [Wa.all, z])) rfl
    have ne_p : ∀ {x : Addr} {o : HO}, newH H H1 x = some o → x ≠ p := fun e k => hpt.ne (newH_some e).1 k
    have ne_A : ∀ {x : Addr} {o : HO}, newH H H1 x = some o → x ∉ (⟨A2.c, A2.r, A2.t, b, A2.rl⟩ : Wa).all := fun {x o} e z => by
      have e2 := s2 _ _ (newH_le _ _ e)
      simp only [Wa.all, List.mem_cons] at z
      have nf : H2 x ≠ none := fun k => by rw [k] at e2; cases e2
      rcases z with rfl | rfl | rfl | rfl | z
      · exact nf (nA2 _ (by simp [Wa.all]))
      · exact nf (nA2 _ (by simp [Wa.all]))
      · exact nf (nA2 _ (by simp [Wa.all]))
      · exact nf (s3.free nb)
      · exact nf (nA2 _ (by simp [Wa.all, z]))
    have jsr : JSep CJ H4 r (p :: (⟨A2.c, A2.r, A2.t, b, A2.rl⟩ : Wa).all) := fun dy qd qc e => by
      rw [s4 _ _ hrx] at e
      obtain ⟨_, e2⟩ := HO.ins.inj (Option.some.inj e) |>.2
      obtain ⟨e3, e4⟩ := jfl_inj e2
      subst e3 e4
      exact ⟨fun z => (List.mem_cons.mp z).elim (ne_p hrd) (ne_A hrd), fun z => (List.mem_cons.mp z).elim (ne_p hrc) (ne_A hrc)⟩
    refine ⟨_, rfl, _, rfl, iteF ?_⟩
    refine ⟨_, rfl, _, rfl, _, rfl, p, r, W2, es, ⟨A2.c, A2.r, A2.t, b, A2.rl⟩, J, rfl, hp4, npA, jrx.same s4, jsr, wm'.same s4, O, my, fun H5 l e hl ch hp5 jr5 wm5 O5 => ?_⟩
    refine ⟨_, rfl, iteF ?_⟩
    refine nx_of ?_
    dsimp only
    have bp5 : But p H H5 := fun x o e n => ch _ _ (s4 _ _ (s0x _ _ e)) fun z => by
      have h1 := s1 _ _ e
      have h2 := s2 _ _ h1
      rcases List.mem_cons.mp z with z | z
      · exact n z
      rcases List.mem_append.mp z with z | z
      · have nf : H2 x ≠ none := fun k => by rw [k] at h2; cases h2
        simp only [Wa.all, List.mem_cons] at z
        rcases z with rfl | rfl | rfl | rfl | z
        · exact nf (nA2 _ (by simp [Wa.all]))
        · exact nf (nA2 _ (by simp [Wa.all]))
        · exact nf (nA2 _ (by simp [Wa.all]))
        · exact nf (s3.free nb)
        · exact nf (nA2 _ (by simp [Wa.all, z]))
      · obtain ⟨_, _, dz, k⟩ := jn1.dd x z
        rw [(newH_some k).1] at e
        cases e
    obtain ⟨ja5, jj5⟩ := ja.draw js mp hpt bp5
    have wa5 := wa.but bp5 hpt np
    obtain ⟨dr5, _, _, hr5, _, _⟩ := jr5.ex
    refine ⟨_, rfl, _, rfl, r, dr5, _, .ref CJ, rfl, hr5, ty (by rw [jj5]; exact hj), T.fJ, r, es, _, _, rfl, jr5, .inr ⟨j, ds, J, rfl, ja5, fun H6 b6 s6 hb6 => ?_⟩⟩
    have b6f : b6 = false := by
      cases b6 with
      | false => rfl
      | true =>
        obtain ⟨_, k⟩ := hb6.mp rfl
        have := (k l hl).2.1
        rw [addJ_txt (my.1 l hl), if_pos rfl] at this
        have h2 := congrArg List.length this
        rw [List.length_append] at h2
        have h3 := List.length_pos_iff.mpr (row_ne e)
        omega
    subst b6f
    refine ⟨_, rfl, _, rfl, iteT ?_⟩
    refine ⟨_, rfl, _, rfl, r, W2, es, _, _, rfl, jr5.same s6, wm5.same s6, O5, fun H7 s7 => ⟨_, rfl, iteT ?_⟩⟩
    have s67 := s6.trans s7
    exact ⟨_, rfl, _, rfl, j, W, ds, A, J, rfl, ja5.same s67, wa5.same s67, O, fun H8 s8 => q H8 (bp5.trans (But.of (s67.trans s8))) ((hp5.same s67).same s8)⟩
end
end K77

set_option Elab.async false
set_option linter.all false
set_option maxRecDepth 100000
set_option maxHeartbeats 4000000
/-! L77j: one pot; the law. -/
namespace K77
open PySem PySem.Spec PyProof.Rows L2 LL K75 JN
abbrev s_l_right : Stmt := top 69
abbrev n_l_right : List Str := ["_law_pot_here", "_law_lanes", "_law_journal", "_law_world_here", "_law_turn"]
theorem sc_l_right : FnScope n_l_right ["_law_pot_here"] (defScope s_l_right) := ⟨rfl, rfl, rfl, by decide +kernel, rfl, by decide +kernel, by decide +kernel⟩
abbrev s_law : Stmt := top 70
abbrev n_law : List Str := ["_law_script", "_law_k"]
theorem sc_law : FnScope n_law ["_law_script"] (defScope s_law) := ⟨rfl, rfl, rfl, by decide +kernel, rfl, by decide +kernel, by decide +kernel⟩
section
variable {P : Program} {w : World} {K : PySem.W.Frag} {mg : Str → Option Value} {base : Heap} {CD CJ : Addr} {f : Addr} {fd : FuncData}
/-- no more than k entries, nothing torn -/
structure Cnt (J : Jr) (k : Nat) : Prop where
  tail : ∀ l, l < J.n → J.tail l = []
  tot : sumTo (fun l => (J.es l).length) J.n ≤ k
  ends : ∀ l, l < J.n → J.ends l ≤ k
theorem Cnt.may {J : Jr} {k : Nat} (c : Cnt J k) (h : k ≤ 60) : May J := ⟨c.tail, by have := c.tot; omega, fun l hl => by have := c.ends l hl; omega⟩
theorem Cnt.mono {J : Jr} {k m : Nat} (c : Cnt J k) (h : k ≤ m) : Cnt J m := ⟨c.tail, Nat.le_trans c.tot h, fun l hl => Nat.le_trans (c.ends l hl) h⟩
theorem Cnt.new {n : Nat} : Cnt (newJ n) 0 := ⟨fun _ _ => rfl, by show sumTo (fun _ => 0) n ≤ 0; rw [sumTo_zero]; exact Nat.le_refl _, fun _ _ => Nat.le_refl _⟩
theorem Cnt.add {J : Jr} {k l : Nat} {e : En} (c : Cnt J k) (hl : l < J.n) : Cnt (addJ J l e) (k + 1) := by
  refine ⟨c.tail, ?_, fun m hm => ?_⟩
  · have := c.tot
    rw [show (addJ J l e).n = J.n from rfl, sumTo_at (f := fun l => (J.es l).length) (k := l) hl (fun m _ ne => by dsimp only [addJ]; rw [if_neg ne]) (by dsimp only [addJ]; rw [if_pos rfl, List.length_append]; rfl)]
    omega
  · have := c.ends m hm
    unfold Jr.ends at *
    show J.cut m + (if m = l then J.es m ++ [e] else J.es m).length ≤ _
    split
    · rw [List.length_append, List.length_singleton]
      omega
    · omega
theorem Cnt.sync {J : Jr} {k : Nat} {g : Nat → Bool} (c : Cnt J k) : Cnt (syncJ J g) k := ⟨c.tail, c.tot, c.ends⟩
/-- the journal and the world beside it, in the heap -/
structure Pl (CD CJ : Addr) (H : Hp) (p j W : Addr) (ds : List Addr) (A : Wa) (J : Jr) : Prop where
  pt : PotAt H p
  np : p ∉ A.all
  ja : JAt CD CJ H j ds J
  js : JSep CJ H j (p :: A.all)
  wa : WAt H W A J
  ok : OkJ J
theorem JSep.keep {H H' : Hp} {p j W : Addr} {ds : List Addr} {A : Wa} {J : Jr} (h : Pl CD CJ H p j W ds A J) (c : Chg (p :: (A.all ++ ds)) H H') : JSep CJ H' j (p :: A.all) := by
  obtain ⟨dx, pd, pc, hj, _, _⟩ := h.ja.ex
  have nj : j ∉ p :: (A.all ++ ds) := fun z => by
    rcases List.mem_cons.mp z with rfl | z
    · obtain ⟨_, _, e, _⟩ := h.pt
      rw [hj] at e
      cases e
    · rcases List.mem_append.mp z with z | z
      · have nl : ∀ {xs : List V}, H j ≠ some (.lst xs) := fun e => by rw [hj] at e; cases e
        simp only [Wa.all, List.mem_cons] at z
        rcases z with rfl | rfl | rfl | rfl | z
        · exact nl h.wa.c
        · exact nl h.wa.r
        · exact nl h.wa.t
        · exact nl h.wa.s
        · obtain ⟨l, hl⟩ := List.getElem?_of_mem z
          obtain ⟨us, x, _⟩ := h.wa.es l j hl
          exact nl x
      · obtain ⟨_, _, dy, e⟩ := h.ja.dd _ z
        rw [hj] at e
        exact dfl_jfl (HO.ins.inj (Option.some.inj e)).2.2.symm
  exact h.js.of (by rw [hj, c _ _ hj nj])
theorem Pl.same {H H' : Hp} {p j W : Addr} {ds : List Addr} {A : Wa} {J : Jr} (h : Pl CD CJ H p j W ds A J) (s : Same H H') : Pl CD CJ H' p j W ds A J := ⟨h.pt.same s, h.np, h.ja.same s, JSep.keep h (Chg.of s), h.wa.same s, h.ok⟩
theorem Pl.draw {H H' : Hp} {p j W : Addr} {ds : List Addr} {A : Wa} {J : Jr} (h : Pl CD CJ H p j W ds A J) (b : But p H H') (hp : PotAt H' p) : Pl CD CJ H' p j W ds A J :=
  ⟨hp, h.np, (h.ja.draw h.js (List.mem_cons_self ..) h.pt b).1, JSep.keep h (Chg.but (List.mem_cons_self ..) b), h.wa.but b h.pt h.np, h.ok⟩
theorem but_step {p : Addr} {L : List Addr} {H G G' : Hp} (b : But p H G) (n : ∀ x ∈ L, H x = none) (c : Chg (p :: L) G G') : But p H G' := fun x o e ne => c _ _ (b x o e ne) fun z => by
  rcases List.mem_cons.mp z with z | z
  · exact ne z
  · rw [n x z] at e
    cases e
def spRt : Sp := fun vs H Q _ => ∃ p : Addr, vs = [.ref p] ∧ PotAt H p ∧ ∀ H', But p H H' → Q (.bl true) H'
theorem ok_l_right (T : Tx K mg CD CJ) (G_l_take : Fnc P w K mg base CX0 1 "_law_take" [] spTake) (K_Journal1 : Mkf P w K mg base CX0 4 "Journal" (spMkJ CD CJ)) (G_l_world : Fnc P w K mg base CX0 1 "_law_world" [] spWorld) (G_l_written : Fnc P w K mg base CX0 8 "_law_written" [] (spWrit CD CJ)) (G_l_synced : Fnc P w K mg base CX0 4 "_law_synced" [] (spSynd CD CJ)) (G_l_entered : Fnc P w K mg base CX0 9 "_law_entered" [] (spEntd CD CJ)) (G_l_is_shown : Fnc P w K mg base CX0 10 "_law_is_shown" [] (spShow CD CJ)) (G_l_found_right : Fnc P w K mg base CX0 11 "_law_found_right" [] (spFnd CD CJ)) (G_l_twin_right : Fnc P w K mg base CX0 11 "_law_twin_right" [] (spTwin CD CJ)) (S_jeq : SpF P w K mg base CX0 3 CJ "__eq__" (spJeq K CD CJ))
    (F : FD K "_law_right" "_law_right" s_l_right [] f fd) : FnG P w K mg base CX0 12 f fd ["_law_pot_here"] spRt := by
  refine ok0 F sc_l_right (fun vs H Q E h => ?_) (fun cdv A outer s H vs Q E hr h => ?_)
  · obtain ⟨p, rfl, _⟩ := h
    rfl
  · obtain ⟨p, rfl, hpt, q⟩ := h
    refine ⟨_, (pss_cons (ps_set (i := 1) sc_l_right.nd rfl (by first | exact Or.inl rfl | exact Or.inr rfl) (pe_op op_add pe_int (pe_fn G_l_take (hr.mono (by decide)) pass0 (pa_cons (pv 0) (pa_cons pe_int pa_nil)))))
      (pss_cons (ps_par (i := 2) (j := 3) rfl sc_l_right.nd rfl rfl (by decide) rfl rfl (pa_cons (pe_mf K_Journal1 (hr.mono (by decide)) pass0 (pa_cons (pv 1) pa_nil)) (pa_cons (pe_fn G_l_world (hr.mono (by decide)) pass0 (pa_cons (pv 1) pa_nil)) pa_nil)) (by rfl))
      (pss_cons (ps_for PassesOwn.never rfl (pi_range1 (by rfl) T.n_range (pa_cons (pe_op op_mulX pe_int (pe_callTy call_int1 (by rfl) T.n_int (by decide +kernel) (pa_cons (pe_cmpR op_eq (pe_fn G_l_take (hr.mono (by decide)) pass0 (pa_cons (pv 0) (pa_cons pe_int pa_nil))) pe_int (nomark _)) pa_nil))) pa_nil)) (pg_name (i := 4) sc_l_right.nd rfl (by first | exact Or.inl rfl | exact Or.inr rfl)) (pss_one (ps_if (pt_not (pt_val (pe_fn G_l_written (hr.mono (by decide)) pass0 (pa_cons (pv 0) (pa_cons (pv 2) (pa_cons (pv 3) (pa_cons pe_int pa_nil))))))) (pss_one (ps_ret pe_bl)) pss_nil)))
      (pss_cons (ps_for PassesOwn.never rfl (pi_range1 (by rfl) T.n_range (pa_cons (pe_op op_add pe_int (pe_fn G_l_take (hr.mono (by decide)) pass0 (pa_cons (pv 0) (pa_cons pe_int pa_nil)))) pa_nil)) (pg_name (i := 4) sc_l_right.nd rfl (by first | exact Or.inl rfl | exact Or.inr rfl)) (pss_cons (ps_if (pt_cmpR op_eq (pe_fn G_l_take (hr.mono (by decide)) pass0 (pa_cons (pv 0) (pa_cons pe_int pa_nil))) pe_int (nomark _)) (pss_one (ps_expr (pe_fn G_l_synced (hr.mono (by decide)) pass0 (pa_cons (pv 0) (pa_cons (pv 2) (pa_cons (pv 3) pa_nil)))))) (pss_one (ps_if (pt_not (pt_val (pe_fn G_l_entered (hr.mono (by decide)) pass0 (pa_cons (pv 0) (pa_cons (pv 2) (pa_cons (pv 3) pa_nil)))))) (pss_one (ps_ret pe_bl)) pss_nil)))
      (pss_one (ps_if (PW.pt (pw_or (pt_not (pt_val (pe_fn G_l_is_shown (hr.mono (by decide)) pass0 (pa_cons (pv 2) (pa_cons (pv 3) pa_nil))))) (pw_or1 (pt_not (pt_val (pe_fn G_l_found_right (hr.mono (by decide)) pass0 (pa_cons (pv 0) (pa_cons (pv 2) (pa_cons (pv 3) pa_nil))))))))) (pss_one (ps_ret pe_bl)) pss_nil))))
      (pss_one (ps_ret (pe_and (pe_fn G_l_twin_right (hr.mono (by decide)) pass0 (pa_cons (pv 0) (pa_cons (pv 2) (pa_cons (pv 3) pa_nil)))) (pe_one (pe_cmpR (op_neF S_jeq T.neJ T.cmJ (hr.mono (by decide)) pass0) (pv 2) (pv 3) (nomark _)))))))))), ?_⟩
    refine ⟨_, rfl, p, 5, rfl, hpt, by decide, by decide, fun H1 d b1 hp1 d0 d1 => ?_⟩
    obtain ⟨m, rfl⟩ := Int.eq_ofNat_of_zero_le d0
    refine ⟨_, _, rfl, rfl, ?_⟩
    refine nm_of ?_
    dsimp only
    refine ⟨_, rfl, m + 1, congrArg (fun z => [V.int z]) (show (1 : Int) + ((m : Nat) : Int) = ((m + 1 : Nat) : Int) by omega), by omega, by omega, fun H2 j pd pc ds dx s2 hj hd hc ld nd hds => ?_⟩
    refine ⟨_, rfl, m + 1, congrArg (fun z => [V.int z]) (show (1 : Int) + ((m : Nat) : Int) = ((m + 1 : Nat) : Int) by omega), by omega, by omega, fun H3 W A s3 wa3 => ?_⟩
    refine ⟨_, _, rfl, ?_⟩
    have e1 : ∀ {x : Addr} {o : HO}, newH H1 H2 x = some o → H3 x = some o := fun e => s3 _ _ (newH_le _ _ e)
    have s13 := s2.trans s3
    have wan : ∀ x ∈ A.all, H2 x = none := fun x hx => by
      have g : ∀ {o : HO}, newH H2 H3 x = some o → H2 x = none := fun e => (newH_some e).1
      simp only [Wa.all, List.mem_cons] at hx
      rcases hx with rfl | rfl | rfl | rfl | hx
      · exact g wa3.c
      · exact g wa3.r
      · exact g wa3.t
      · exact g wa3.s
      · obtain ⟨l, hl⟩ := List.getElem?_of_mem hx
        obtain ⟨us, y, _⟩ := wa3.es l x hl
        exact g y
    have fr1 : ∀ x ∈ A.all ++ ds, H1 x = none := fun x hx => by
      rcases List.mem_append.mp hx with hx | hx
      · exact s2.free (wan x hx)
      · obtain ⟨dy, e⟩ := hds x hx
        exact (newH_some e).1
    have fr : ∀ x ∈ A.all ++ ds, H x = none := fun x hx => by
      cases e : H x with
      | none => rfl
      | some o =>
        have := b1 _ _ e fun z => by
          obtain ⟨_, _, k, _⟩ := hp1
          rw [← z, fr1 x hx] at k
          cases k
        rw [fr1 x hx] at this
        cases this
    have n2 : ∀ {x : Addr} {o : HO}, newH H1 H2 x = some o → x ∉ p :: A.all := fun {x o} e z => by
      rcases List.mem_cons.mp z with rfl | z
      · obtain ⟨_, _, k, _⟩ := hp1
        rw [(newH_some e).1] at k
        cases k
      · have := newH_le _ _ e
        rw [wan x z] at this
        cases this
    have pl3 : Pl CD CJ H3 p j W ds A (newJ (m + 1)) := by
      refine ⟨hp1.same s13, fun z => ?_, ⟨⟨dx, pd, pc, e1 hj, e1 hd, e1 hc⟩, ld, nd, fun l d e => ?_⟩, fun dy qd qc e => ?_, wa3.same newH_le, newJ_ok (by omega) (by omega)⟩
      · obtain ⟨_, _, k, _⟩ := hp1
        rw [s2.free (wan p z)] at k
        cases k
      · obtain ⟨dy, k⟩ := hds d (List.mem_of_getElem? e)
        exact ⟨dy, e1 k⟩
      · rw [e1 hj] at e
        obtain ⟨_, k⟩ := (HO.ins.inj (Option.some.inj e)).2
        obtain ⟨k1, k2⟩ := jfl_inj k
        subst k1 k2
        exact ⟨n2 hd, n2 hc⟩
    have b3 : But p H H3 := b1.trans (But.of s13)
    refine ⟨_, rfl, p, 4, rfl, pl3.pt, by decide, by decide, fun H4 d4 b4 hp4 x0 x1 => ?_⟩
    generalize hc4 : decide (V.int d4 = V.int 0) = c4
    obtain ⟨t, et, lt⟩ : ∃ t : Nat, (9 : Int) * (if c4 = true then 1 else 0) = (t : Nat) ∧ t ≤ 9 := by
      cases c4
      · exact ⟨0, rfl, by decide⟩
      · exact ⟨9, rfl, by decide⟩
    refine ⟨rfl, .inr ⟨c4, by rw [hc4], _, _, rfl, rfl, by unfold CMulX; cases c4 <;> decide +kernel, (t : Nat), congrArg (fun z => [V.int z]) et, by omega, by omega, ?_⟩⟩
    rw [show (((t : Nat) : Int)).toNat = t by omega]
    have pl4 := pl3.draw b4 hp4
    have bb4 := b3.trans b4
    refine for_it (walk_range (lo := 0) (n := t)) (fun i σ' G => But p H G ∧ (∃ J, Pl CD CJ G p j W ds A J ∧ Cnt J i) ∧ ∃ u, σ' = [some (.ref p), some (.int (1 + (m : Nat))), some (.ref j), some (.ref W), u]) ⟨bb4, ⟨_, pl4, Cnt.new⟩, none, rfl⟩ (fun _ _ _ _ _ => trivial) ?_ ?_
    · rintro i x σ G G' hi ⟨bG, ⟨J, pl, cn⟩, u, rfl⟩ ⟨rfl, rfl⟩
      refine nm_of ?_
      dsimp only
      refine ⟨_, rfl, _, rfl, _, rfl, p, j, W, ds, A, J, 0, rfl, pl.ok.pos, pl.pt, pl.np, pl.ja, pl.js, pl.wa, pl.ok, cn.may (by omega), fun G1 e ch hp ja wa ok => ⟨_, rfl, iteF ?_⟩⟩
      exact ⟨but_step bG fr ch, ⟨_, ⟨hp, pl.np, ja, JSep.keep pl ch, wa, ok⟩, cn.add pl.ok.pos⟩, _, rfl⟩
    · rintro σ G ⟨bG, ⟨J0, pl0, cn0⟩, u, rfl⟩
      have cn9 := cn0.mono lt
      refine ⟨_, rfl, p, 18, rfl, pl0.pt, by decide, by decide, fun G1 d5 b5 hp5 y0 y1 => ⟨_, _, rfl, rfl, _, rfl, by omega, by omega, ?_⟩⟩
      obtain ⟨k, rfl⟩ := Int.eq_ofNat_of_zero_le y0
      rw [show (1 + ((k : Nat) : Int)).toNat = k + 1 by omega]
      refine for_it (walk_range (lo := 0) (n := k + 1)) (fun i σ' G => But p H G ∧ (∃ J, Pl CD CJ G p j W ds A J ∧ Cnt J (9 + i)) ∧ ∃ u, σ' = [some (.ref p), some (.int (1 + (m : Nat))), some (.ref j), some (.ref W), u]) ⟨bG.trans b5, ⟨_, pl0.draw b5 hp5, cn9⟩, u, rfl⟩ (fun _ _ _ _ _ => trivial) ?_ ?_
      · rintro i x σ G2 G2' hi ⟨bG2, ⟨J, pl, cn⟩, u, rfl⟩ ⟨rfl, rfl⟩
        refine nm_of ?_
        dsimp only
        refine seq_cut (fun σ' G => But p H G ∧ (∃ J, Pl CD CJ G p j W ds A J ∧ Cnt J (9 + (i + 1))) ∧ ∃ u, σ' = [some (.ref p), some (.int (1 + (m : Nat))), some (.ref j), some (.ref W), u]) (fun N hN => ?_) ?_
        · refine ⟨_, rfl, p, 4, rfl, pl.pt, by decide, by decide, fun G3 d6 b6 hp6 z0 z1 => ?_⟩
          have pl6 := pl.draw b6 hp6
          refine ⟨rfl, _, rfl, iteB (fun c => ?_) (fun c => ?_)⟩
          · refine ⟨_, rfl, _, rfl, _, rfl, p, j, W, ds, A, J, rfl, pl6.pt, pl6.np, pl6.ja, pl6.js, pl6.wa, pl6.ok, fun G4 g ch hp ja wa => ?_⟩
            have ch' : Chg (p :: (A.all ++ ds)) G3 G4 := ch.mono fun x hx => by
              rcases List.mem_cons.mp hx with rfl | hx
              · exact List.mem_cons_self ..
              · rcases List.mem_cons.mp hx with rfl | hx
                · simp [Wa.all]
                · simp [hx]
            exact hN _ _ ⟨but_step (bG2.trans b6) fr ch', ⟨_, ⟨hp, pl.np, ja, JSep.keep pl6 ch', wa, syncJ_ok pl6.ok g⟩, cn.sync.mono (by omega)⟩, _, rfl⟩
          · refine ⟨_, rfl, _, rfl, _, rfl, p, j, W, ds, A, J, rfl, pl6.pt, pl6.np, pl6.ja, pl6.js, pl6.wa, pl6.ok, cn.may (by omega), fun G4 l e hl ch hp ja wa ok => ⟨_, rfl, iteF ?_⟩⟩
            exact hN _ _ ⟨but_step (bG2.trans b6) fr ch, ⟨_, ⟨hp, pl.np, ja, JSep.keep pl6 ch, wa, ok⟩, cn.add hl⟩, _, rfl⟩
        · rintro σ' G5 ⟨b5, ⟨J5, pl5, cn5⟩, u5, rfl⟩
          refine ⟨_, rfl, _, rfl, j, W, ds, A, J5, rfl, pl5.ja, pl5.wa, pl5.ok, fun G6 s6 => ⟨_, rfl, iteF ?_⟩⟩
          have pl6 := pl5.same s6
          refine ⟨_, rfl, _, rfl, _, rfl, p, j, W, ds, A, J5, rfl, pl6.pt, pl6.np, pl6.ja, pl6.js, pl6.wa, pl6.ok, fun G7 b7 hp7 => ⟨_, rfl, iteF ?_⟩⟩
          exact ⟨(b5.trans (But.of s6)).trans b7, ⟨_, pl6.draw b7 hp7, cn5⟩, _, rfl⟩
      · rintro σ G8 ⟨b8, ⟨J8, pl8, cn8⟩, u8, rfl⟩
        refine ⟨_, rfl, _, rfl, _, rfl, p, j, W, ds, A, J8, rfl, pl8.pt, pl8.np, pl8.ja, pl8.js, pl8.wa, pl8.ok, cn8.may (by omega), fun G9 b9 hp9 => ⟨_, rfl, iteT ?_⟩⟩
        have pl9 := pl8.draw b9 hp9
        obtain ⟨dy, _, _, hj9, _, _⟩ := pl9.ja.ex
        exact ⟨_, rfl, _, rfl, j, dy, _, .type "dict", rfl, hj9, .base (.dK pl9.wa.d), T.fJd, j, ds, J8, _, rfl, pl9.ja, .inl ⟨.type "dict", .base (.dK pl9.wa.d), T.kJd, false, rfl, q _ (b8.trans b9)⟩⟩
def spLaw (K : PySem.W.Frag) : Sp := fun vs H Q _ => ∃ (a : Addr) (ns : List Int), vs = [.ref a] ∧ SqL K H a (ns.map V.int) ∧ ns.length ≤ 63 ∧ ∀ H', Q (.bl true) H'
theorem ok_law (T : Tx K mg CD CJ) (G_l_pot : Fnc P w K mg base CX0 1 "_law_pot" [] (spPot K)) (G_l_right : Fnc P w K mg base CX0 12 "_law_right" [] spRt)
    (F : FD K "law" "law" s_law [] f fd) : FnG P w K mg base CX0 13 f fd ["_law_script"] (spLaw K) := by
  refine ok0 F sc_law (fun vs H Q E h => ?_) (fun cdv A outer s H vs Q E hr h => ?_)
  · obtain ⟨a, ns, rfl, _⟩ := h
    rfl
  · obtain ⟨a, ns, rfl, hS, hl, q⟩ := h
    refine ⟨_, (pss_one (ps_ret (pe_callB (cr_all rfl) (by rfl) T.n_all (by decide +kernel) (pa_cons (pe_lc (own := [("_law_k", 1)]) rfl sc_law.nd (pi_range1 (by rfl) T.n_range (pa_cons (pe_callB (call_max2 rfl) (by rfl) T.n_max (by decide +kernel) (pa_cons pe_int (pa_cons (pe_callB (call_min2 rfl) (by rfl) T.n_min (by decide +kernel) (pa_cons (pe_callB call_len_seq (by rfl) T.n_len (by decide +kernel) (pa_cons (pv 0) pa_nil)) (pa_cons pe_int pa_nil))) pa_nil))) pa_nil)) (blkOk_by (own := [("_law_k", 1)]) (N := n_law) (sc := defScope s_law) (by decide +kernel)) (fun _ _ _ _ _ => (pg_name (i := 1) sc_law.nd rfl (by first | exact Or.inl rfl | exact Or.inr rfl))) (fun _ _ _ _ _ => pts_nil) (fun _ _ _ _ _ => (pe_fn G_l_right (hr.mono (by decide)) pass0 (pa_cons (pe_fn G_l_pot (hr.mono (by decide)) pass0 (pa_cons (pv 0) (pa_cons (pv 1) pa_nil))) pa_nil)))) pa_nil)))), ?_⟩
    refine ⟨_, rfl, a, _, rfl, .inl hS, _, _, rfl, _, _, rfl, ?_⟩
    obtain ⟨m, em, lm⟩ : ∃ m : Nat, (if (if (4 : Int) < (((ns.map V.int).length : Nat) : Int) then (4 : Int) else (((ns.map V.int).length : Nat) : Int)) > 1 then (if (4 : Int) < (((ns.map V.int).length : Nat) : Int) then (4 : Int) else (((ns.map V.int).length : Nat) : Int)) else 1) = (m : Nat) ∧ m ≤ 4 := by
      by_cases c : (4 : Int) < (((ns.map V.int).length : Nat) : Int)
      · rw [if_pos c]
        exact ⟨4, by decide, by decide⟩
      · rw [if_neg c]
        by_cases c1 : (((ns.map V.int).length : Nat) : Int) > 1
        · exact ⟨(ns.map V.int).length, by rw [if_pos c1], by omega⟩
        · exact ⟨1, by rw [if_neg c1]; rfl, by decide⟩
    refine ⟨((m : Nat) : Int), congrArg (fun z => [V.int z]) em, by omega, by omega, fun D nD => ?_⟩
    rw [Int.toNat_natCast]
    refine lc_inv (walk_range (lo := 0) (n := m)) (fun j acc H' => Same H H' ∧ acc = List.replicate j (V.bl true)) (fun j acc H' xs z => ⟨own_same z.1 nD, z.2⟩) ⟨Same.rfl', rfl⟩ ?_ (fun _ _ _ _ _ => trivial) ?_ ?_
    · rintro j acc H' hj ⟨_, rfl⟩
      rw [List.length_replicate]
      exact Nat.lt_of_lt_of_le (show _ < 100000 by omega) (small (Nat.le_refl _))
    · rintro j x acc H1 H1' hj ⟨s1, rfl⟩ hD1 ⟨rfl, rfl⟩ N S hN hSk
      dsimp only
      rw [Int.zero_add]
      refine ⟨rfl, _, rfl, _, rfl, a, ns, j, rfl, sqL_same hS s1, hl, by omega, fun H2 p s2 np hp2 => ?_⟩
      have np0 : H p = none := s1.free np
      refine ⟨p, rfl, hp2, fun H3 b3 => hN _ _ (b3 _ _ (s2 _ _ hD1) (ne_of_none hD1 np)) ⟨(But.trans (But.of (s1.trans s2)) b3).same np0, ?_⟩⟩
      exact (List.replicate_succ' ..).symm
    · rintro acc H1 hD ⟨s1, rfl⟩
      refine ⟨D, List.replicate m true, rfl, SqL.of (by rw [List.map_replicate]; exact hD), ?_⟩
      have : (List.replicate m true).all id = true := List.all_eq_true.mpr fun b hb => List.eq_of_mem_replicate hb
      rw [this]
      exact q _
end
end K77

set_option Elab.async false
set_option linter.all false
set_option maxRecDepth 100000
set_option maxHeartbeats 2000000
/-! L77k: Journal(..). -/
namespace K77
open PySem PySem.Spec PyProof.Rows L2 LL K75 JN
section
variable {P : Program} {w : World} {K : PySem.W.Frag} {mg : Str → Option Value} {base : Heap} {CD CJ : Addr}
theorem mkfJ (G : Mkr P w K mg base CX0 4 "Journal" CJ [] (spJI CD CJ)) : Mkf P w K mg base CX0 4 "Journal" (spMkJ CD CJ) := by
  refine ⟨CJ, [], _, G, fun vs H Q E h a dx ha hd ne => ?_⟩
  obtain ⟨n, rfl, n1, n8, q⟩ := h
  have s0 : Same H (upd (upd H dx (.own a)) a (.ins CJ dx [])) := fun c o e => by
    rw [upd_ne (ne_of_none e ha), upd_ne (ne_of_none e hd)]
    exact e
  refine ⟨a, dx, n, rfl, upd_same, n1, n8, fun H' pd pc ds b hj hpd hpc ld nd hds => ⟨rfl, q H' a pd pc ds dx (same_new ha hd b) (by rw [newH_at ha]; exact hj) (newH_mono s0 _ _ hpd) (newH_mono s0 _ _ hpc) ld nd fun d hd => ?_⟩⟩
  obtain ⟨dy, e⟩ := hds d hd
  exact ⟨dy, newH_mono s0 _ _ e⟩
end
end K77

set_option Elab.async false
set_option linter.all false
set_option maxRecDepth 100000
set_option maxHeartbeats 2000000
/-! LLBfs: the Hook over what the module's names reach, gathered level by level, the seen addresses as the bits of one number. -/
namespace LL
open PySem PySem.Spec PyProof.Rows L2
def addU {α : Type} : List Addr → Nat → List Addr → (Nat → List Addr → α) → α
  | [], m, nx, k => k m nx
  | a :: r, m, nx, k => match Nat.testBit m a with
    | true => addU r m nx k
    | false => HandSHeadRun.frNat (m ||| (1 <<< a)) fun m => addU r m (a :: nx) k
def rowU {α : Type} (g : Addr → Option Obj) : List Addr → Nat → List Addr → (Nat → List Addr → α) → α
  | [], m, nx, k => k m nx
  | a :: r, m, nx, k => match g a with
    | some o => addU (He.refsD o) m nx fun m nx => rowU g r m nx k
    | none => rowU g r m nx k
def asU (g : Addr → Option Obj) : Nat → List Addr → Nat → List Addr
  | 0, fr, _ => fr
  | n + 1, fr, m => fr ++ rowU g fr m [] fun m nx => asU g n nx m
/-- what the module's names reach in n steps, and the statics -/
def frU (n : Nat) (g : Addr → Option Obj) : PySem.W.Frag := He.frT g (addU [mainGlobals, PySem.cStatics] 0 [] fun m l => asU g n l m)
def obsUG (n : Nat) (ft : List Ft) (fn : List DefX) (tf : List (PySem.W.Frag → Addr)) (g : Addr → Option Obj) : AlT := (obsY ft fn (frU n g), tabY g tf (frU n g))
theorem saysU_of {n : Nat} {ft : List Ft} {fn : List DefX} {tf : List (PySem.W.Frag → Addr)} {h : Heap} (e : obsUG n ft fn tf h.get? = (valY fn, true)) : SaysT ft fn tf h (frU n h.get?) := by
  have e1 : obsY ft fn (frU n h.get?) = valY fn := congrArg Prod.fst e
  have e2 : tabY h.get? tf (frU n h.get?) = true := congrArg Prod.snd e
  have key : ∀ a ∈ tf, PySem.W.codeHdIn (frU n h.get?) (cOf (frU n h.get?) (a (frU n h.get?))) (tOf (frU n h.get?) (a (frU n h.get?))) = true ∧ ∃ o, h.get? (tOf (frU n h.get?) (a (frU n h.get?))) = some o ∧ He.emptyTab o = true := fun a ha => by
    obtain ⟨h1, h2⟩ := He.ba (List.all_eq_true.mp e2 a ha)
    cases q : h.get? (tOf (frU n h.get?) (a (frU n h.get?))) with
    | none =>
      rw [q] at h2
      cases h2
    | some o =>
      rw [q] at h2
      exact ⟨h1, o, rfl, h2⟩
  refine ⟨e1, fun a ha => (key a ha).1, fun a ha => ?_, fun a ha => ?_⟩
  · obtain ⟨_, o, q, z⟩ := key a ha
    exact He.frT_none q z
  · obtain ⟨_, o, q, z⟩ := key a ha
    rw [q, He.emptyTab_eq z]
def hookU (n : Nat) (ft : List Ft) (fn : List DefX) (tf : List (PySem.W.Frag → Addr)) : PySem.W.Hook where
  α := AlT
  obs := fun s => obsUG n ft fn tf s.heap.get?
  val := fun _ => (valY fn, true)
  says := fun _ h => ∃ K : PySem.W.Frag, K.In h ∧ SaysT ft fn tf h K
  of := fun _ _ e => ⟨_, He.frT_in, saysU_of e⟩
  keeps := fun _ _ _ ⟨K, hK, c⟩ k => ⟨K, PySem.W.Frag.In.keeps hK k, ⟨c.y, c.hd, c.out, fun a ha => k _ _ (c.emp a ha)⟩⟩
theorem obsUG_eq {n : Nat} {ft : List Ft} {fn : List DefX} {tf : List (PySem.W.Frag → Addr)} {g : Addr → Option Obj} {s : Shared} (h : ∀ a, g a = s.heap.get? a) : obsUG n ft fn tf g = (hookU n ft fn tf).obs s := by
  cases (funext h : g = s.heap.get?)
  rfl
end LL

set_option Elab.async false
set_option linter.all false
set_option maxRecDepth 100000
set_option maxHeartbeats 0
/-! the head, the end. -/
namespace K77
open PySem PySem.Spec PyProof.Rows L2 LL
def d_check_text : DefX := dX (gA "check_text") "check_text" "check_text" s_check_text
def d_is_number : DefX := dX (gA "is_number") "is_number" "is_number" s_is_number
def d_check_lanes : DefX := dX (gA "check_lanes") "check_lanes" "check_lanes" s_check_lanes
def d_check_lane : DefX := dX (gA "check_lane") "check_lane" "check_lane" s_check_lane
def d_is_record : DefX := dX (gA "is_record") "is_record" "is_record" s_is_record
def d_check_of : DefX := dX (gA "check_of") "check_of" "check_of" s_check_of
def d_sealed : DefX := dX (gA "sealed") "sealed" "sealed" s_sealed
def d_record_in : DefX := dX (gA "record_in") "record_in" "record_in" s_record_in
def d_whole_records : DefX := dX (gA "whole_records") "whole_records" "whole_records" s_whole_records
def d_is_list : DefX := dX (gA "is_list") "is_list" "is_list" s_is_list
def d_number_in : DefX := dX (gA "number_in") "number_in" "number_in" s_number_in
def d_spot_in : DefX := dX (gA "spot_in") "spot_in" "spot_in" s_spot_in
def d_pairs_in : DefX := dX (gA "pairs_in") "pairs_in" "pairs_in" s_pairs_in
def d_entry_record : DefX := dX (gA "entry_record") "entry_record" "entry_record" s_entry_record
def d_entry_in : DefX := dX (gA "entry_in") "entry_in" "entry_in" s_entry_in
def d_rows_of : DefX := dX (gA "rows_of") "rows_of" "rows_of" s_rows_of
def d_is_spot : DefX := dX (gA "is_spot") "is_spot" "is_spot" s_is_spot
def d_next_spot : DefX := dX (gA "next_spot") "next_spot" "next_spot" s_next_spot
def d_is_counted : DefX := dX (gA "is_counted") "is_counted" "is_counted" s_is_counted
def d_l_pot : DefX := dX (gA "_law_pot") "_law_pot" "_law_pot" s_l_pot
def d_l_take : DefX := dX (gA "_law_take") "_law_take" "_law_take" s_l_take
def d_l_pick : DefX := dX (gA "_law_pick") "_law_pick" "_law_pick" s_l_pick
def d_l_check : DefX := dX (gA "_law_check") "_law_check" "_law_check" s_l_check
def d_l_row : DefX := dX (gA "_law_row") "_law_row" "_law_row" s_l_row
def d_l_record : DefX := dX (gA "_law_record") "_law_record" "_law_record" s_l_record
def d_l_world : DefX := dX (gA "_law_world") "_law_world" "_law_world" s_l_world
def d_l_ends : DefX := dX (gA "_law_ends") "_law_ends" "_law_ends" s_l_ends
def d_l_spots : DefX := dX (gA "_law_spots") "_law_spots" "_law_spots" s_l_spots
def d_l_kept_rows : DefX := dX (gA "_law_kept_rows") "_law_kept_rows" "_law_kept_rows" s_l_kept_rows
def d_l_stopped : DefX := dX (gA "_law_stopped") "_law_stopped" "_law_stopped" s_l_stopped
def d_l_can_stand : DefX := dX (gA "_law_can_stand") "_law_can_stand" "_law_can_stand" s_l_can_stand
def d_l_counted : DefX := dX (gA "_law_counted") "_law_counted" "_law_counted" s_l_counted
def d_l_is_shown : DefX := dX (gA "_law_is_shown") "_law_is_shown" "_law_is_shown" s_l_is_shown
def d_l_entered : DefX := dX (gA "_law_entered") "_law_entered" "_law_entered" s_l_entered
def d_l_written : DefX := dX (gA "_law_written") "_law_written" "_law_written" s_l_written
def d_l_synced : DefX := dX (gA "_law_synced") "_law_synced" "_law_synced" s_l_synced
def d_l_lengths : DefX := dX (gA "_law_lengths") "_law_lengths" "_law_lengths" s_l_lengths
def d_l_found_right : DefX := dX (gA "_law_found_right") "_law_found_right" "_law_found_right" s_l_found_right
def d_l_twin_right : DefX := dX (gA "_law_twin_right") "_law_twin_right" "_law_twin_right" s_l_twin_right
def d_l_right : DefX := dX (gA "_law_right") "_law_right" "_law_right" s_l_right
def d_law : DefX := dX (gA "law") "law" "law" s_law
def d_Diskinit : DefX := dX (mA "Disk" "__init__") "__init__" "Disk.__init__" s_Diskinit [.str ""]
def d_Journalinit : DefX := dX (mA "Journal" "__init__") "__init__" "Journal.__init__" s_Journalinit
def d_Disk_append : DefX := dX (mA "Disk" "append") "append" "Disk.append" s_Disk_append
def d_Disk_sync : DefX := dX (mA "Disk" "sync") "sync" "Disk.sync" s_Disk_sync
def d_Disk_stopped : DefX := dX (mA "Disk" "stopped") "stopped" "Disk.stopped" s_Disk_stopped
def d_Disk_without : DefX := dX (mA "Disk" "without") "without" "Disk.without" s_Disk_without
def d_Disk_clone : DefX := dX (mA "Disk" "clone") "clone" "Disk.clone" s_Disk_clone
def d_Journal_with_disks : DefX := dX (mA "Journal" "with_disks") "with_disks" "Journal.with_disks" s_Journal_with_disks
def d_Journal_entries : DefX := dX (mA "Journal" "entries") "entries" "Journal.entries" s_Journal_entries
def d_Journal_all_entries : DefX := dX (mA "Journal" "all_entries") "all_entries" "Journal.all_entries" s_Journal_all_entries
def d_Journal_disk : DefX := dX (mA "Journal" "disk") "disk" "Journal.disk" s_Journal_disk
def d_Journal_cut : DefX := dX (mA "Journal" "cut") "cut" "Journal.cut" s_Journal_cut
def d_Journal_order : DefX := dX (mA "Journal" "order") "order" "Journal.order" s_Journal_order
def d_Journal_counting : DefX := dX (mA "Journal" "counting") "counting" "Journal.counting" s_Journal_counting
def d_Journal_stopped : DefX := dX (mA "Journal" "stopped") "stopped" "Journal.stopped" s_Journal_stopped
def d_Journal_durable : DefX := dX (mA "Journal" "durable") "durable" "Journal.durable" s_Journal_durable
def d_Journal_clone : DefX := dX (mA "Journal" "clone") "clone" "Journal.clone" s_Journal_clone
def d_Journal_enter : DefX := dX (mA "Journal" "enter") "enter" "Journal.enter" s_Journal_enter
def d_Journal_sync : DefX := dX (mA "Journal" "sync") "sync" "Journal.sync" s_Journal_sync
def d_Diskeq : DefX := dX (mA "Disk" "__eq__") "__eq__" "Disk.__eq__" s_Diskeq
def d_Journaleq : DefX := dX (mA "Journal" "__eq__") "__eq__" "Journal.__eq__" s_Journaleq
def d_Disk_content : DefX := dX (pA "Disk" "content") "content" "Disk.content" s_Disk_content
def d_Disk_sure : DefX := dX (pA "Disk" "sure") "sure" "Disk.sure" s_Disk_sure
def fn : List DefX := [d_check_text, d_is_number, d_check_lanes, d_check_lane, d_is_record, d_check_of, d_sealed, d_record_in, d_whole_records, d_is_list, d_number_in, d_spot_in, d_pairs_in, d_entry_record, d_entry_in, d_rows_of, d_is_spot, d_next_spot, d_is_counted, d_l_pot, d_l_take, d_l_pick, d_l_check, d_l_row, d_l_record, d_l_world, d_l_ends, d_l_spots, d_l_kept_rows, d_l_stopped, d_l_can_stand, d_l_counted, d_l_is_shown, d_l_entered, d_l_written, d_l_synced, d_l_lengths, d_l_found_right, d_l_twin_right, d_l_right, d_law, d_Diskinit, d_Journalinit, d_Disk_append, d_Disk_sync, d_Disk_stopped, d_Disk_without, d_Disk_clone, d_Journal_with_disks, d_Journal_entries, d_Journal_all_entries, d_Journal_disk, d_Journal_cut, d_Journal_order, d_Journal_counting, d_Journal_stopped, d_Journal_durable, d_Journal_clone, d_Journal_enter, d_Journal_sync, d_Diskeq, d_Journaleq, d_Disk_content, d_Disk_sure]
def t0 : Ft := fGlo "check_text"
def t1 : Ft := fGlo "is_number"
def t2 : Ft := fGlo "check_lanes"
def t3 : Ft := fGlo "check_lane"
def t4 : Ft := fGlo "is_record"
def t5 : Ft := fGlo "check_of"
def t6 : Ft := fGlo "sealed"
def t7 : Ft := fGlo "record_in"
def t8 : Ft := fGlo "whole_records"
def t9 : Ft := fGlo "is_list"
def t10 : Ft := fGlo "number_in"
def t11 : Ft := fGlo "spot_in"
def t12 : Ft := fGlo "pairs_in"
def t13 : Ft := fGlo "entry_record"
def t14 : Ft := fGlo "entry_in"
def t15 : Ft := fGlo "rows_of"
def t16 : Ft := fGlo "is_spot"
def t17 : Ft := fGlo "next_spot"
def t18 : Ft := fGlo "is_counted"
def t19 : Ft := fGlo "_law_pot"
def t20 : Ft := fGlo "_law_take"
def t21 : Ft := fGlo "_law_pick"
def t22 : Ft := fGlo "_law_check"
def t23 : Ft := fGlo "_law_row"
def t24 : Ft := fGlo "_law_record"
def t25 : Ft := fGlo "_law_world"
def t26 : Ft := fGlo "_law_ends"
def t27 : Ft := fGlo "_law_spots"
def t28 : Ft := fGlo "_law_kept_rows"
def t29 : Ft := fGlo "_law_stopped"
def t30 : Ft := fGlo "_law_can_stand"
def t31 : Ft := fGlo "_law_counted"
def t32 : Ft := fGlo "_law_is_shown"
def t33 : Ft := fGlo "_law_entered"
def t34 : Ft := fGlo "_law_written"
def t35 : Ft := fGlo "_law_synced"
def t36 : Ft := fGlo "_law_lengths"
def t37 : Ft := fGlo "_law_found_right"
def t38 : Ft := fGlo "_law_twin_right"
def t39 : Ft := fGlo "_law_right"
def t40 : Ft := fGlo "law"
def t41 : Ft := fMeth "Disk" "append"
def t42 : Ft := fMeth "Disk" "sync"
def t43 : Ft := fMeth "Disk" "stopped"
def t44 : Ft := fMeth "Disk" "without"
def t45 : Ft := fMeth "Disk" "clone"
def t46 : Ft := fMeth "Journal" "with_disks"
def t47 : Ft := fMeth "Journal" "entries"
def t48 : Ft := fMeth "Journal" "all_entries"
def t49 : Ft := fMeth "Journal" "disk"
def t50 : Ft := fMeth "Journal" "cut"
def t51 : Ft := fMeth "Journal" "order"
def t52 : Ft := fMeth "Journal" "counting"
def t53 : Ft := fMeth "Journal" "stopped"
def t54 : Ft := fMeth "Journal" "durable"
def t55 : Ft := fMeth "Journal" "clone"
def t56 : Ft := fMeth "Journal" "enter"
def t57 : Ft := fMeth "Journal" "sync"
def t58 : Ft := fSpec "Disk" "__eq__"
def t59 : Ft := fMkr "Disk"
def t60 : Ft := fCls "Disk"
def t61 : Ft := fGlo "Disk"
def t62 : Ft := fSpec "Journal" "__eq__"
def t63 : Ft := fMkr "Journal"
def t64 : Ft := fCls "Journal"
def t65 : Ft := fGlo "Journal"
def t66 : Ft := fProp "Disk" "content"
def t67 : Ft := fProp "Disk" "sure"
def t68 : Ft := fNo "Disk" "own_text"
def t69 : Ft := fNo "Disk" "own_sure"
def t70 : Ft := fNo "Journal" "own_disks"
def t71 : Ft := fNo "Journal" "own_cut"
def t72 : Ft := fStr "FEED" ⟨#[10]⟩
def t73 : Ft := fStr "SPACE_seals" ⟨#[32]⟩
def t74 : Ft := fStr "SPACE_journals" ⟨#[32]⟩
def t75 : Ft := fStr "NO_PAIRS" ⟨#[45]⟩
def t76 : Ft := fStr "POINT" ⟨#[46]⟩
def t77 : Ft := fStr "COMMA" ⟨#[44]⟩
def t78 : Ft := fStr "DIGITS" "0123456789"
def t79 : Ft := fInt "FIRST_CHECK" 7
def t80 : Ft := fInt "FACTOR" 31
def t81 : Ft := fInt "MODULUS" 1000003
def t82 : Ft := fInt "MOST_DIGITS" 9
def t83 : Ft := fInt "MOST_LANES" 8
def t84 : Ft := fSame (fun K => PySem.W.findIn K (.ref (He.ga K "Disk")) "__class__") (fun _ => some (some (.builtin "object.__class__")))
def t85 : Ft := fSame (fun K => PySem.W.findIn K (.ref (He.ga K "Journal")) "__class__") (fun _ => some (some (.builtin "object.__class__")))
def t86 : Ft := fSame (fun K => PySem.W.specialIn K (.builtin "object.__class__") "__get__") (fun _ => some (some (.builtin "getset_descriptor.__get__")))
def t87 : Ft := fBool (fun K => PySem.W.takesIn K (.builtin "object.__class__")) true
def t88 : Ft := fBool (fun K => PySem.W.mroIn K (He.ga K "Disk") (.type "object")) true
def t89 : Ft := fBool (fun K => PySem.W.mroIn K (He.ga K "Journal") (.type "object")) true
def t90 : Ft := fSame (fun K => PySem.W.findIn K (.ref (He.ga K "Journal")) "__ne__") (fun _ => some (some (.builtin "object.__ne__")))
def t91 : Ft := fBool (fun K => PySem.W.kitOne K (.ref (He.ga K "Disk")) (.ref (He.ga K "Disk"))) true
def t92 : Ft := fBool (fun K => PySem.W.kitOne K (.ref (He.ga K "Journal")) (.ref (He.ga K "Journal"))) true
def t93 : Ft := fBool (fun K => PySem.W.kitOne K (.type "dict") (.ref (He.ga K "Journal"))) false
def t94 : Ft := (fun K => PySem.W.notFirst K (He.ga K "Disk") (.ref (He.ga K "Disk")))
def t95 : Ft := (fun K => PySem.W.notFirst K (He.ga K "Journal") (.ref (He.ga K "Journal")))
def t96 : Ft := (fun K => PySem.W.notFirst K (He.ga K "Journal") (.type "dict"))
def t97 : Ft := fFree "isinstance"
def t98 : Ft := fFree "int"
def t99 : Ft := fFree "bool"
def t100 : Ft := fFree "abs"
def t101 : Ft := fFree "str"
def t102 : Ft := fFree "repr"
def t103 : Ft := fFree "range"
def t104 : Ft := fFree "len"
def t105 : Ft := fFree "max"
def t106 : Ft := fFree "min"
def t107 : Ft := fFree "divmod"
def t108 : Ft := fFree "all"
def t109 : Ft := fFree "list"
def t110 : Ft := fFree "tuple"
def t111 : Ft := fFree "set"
def t112 : Ft := fFree "sorted"
def t113 : Ft := fFree "zip"
def t114 : Ft := fFree "enumerate"
def t115 : Ft := fFree "ord"
def ft0 : List Ft := [t0, t1, t2, t3, t4, t5, t6, t7, t8, t9, t10, t11, t12, t13, t14, t15, t16, t17, t18, t19, t20, t21, t22, t23, t24, t25, t26, t27, t28, t29]
def ft1 : List Ft := [t30, t31, t32, t33, t34, t35, t36, t37, t38, t39, t40, t41, t42, t43, t44, t45, t46, t47, t48, t49, t50, t51, t52, t53, t54, t55, t56, t57, t58, t59]
def ft2 : List Ft := [t60, t61, t62, t63, t64, t65, t66, t67, t68, t69, t70, t71, t72, t73, t74, t75, t76, t77, t78, t79, t80, t81, t82, t83, t84, t85, t86, t87, t88, t89]
def ft3 : List Ft := [t90, t91, t92, t93, t94, t95, t96, t97, t98, t99, t100, t101, t102, t103, t104, t105, t106, t107, t108, t109, t110, t111, t112, t113, t114, t115]
def ft : List Ft := ft0 ++ ft1 ++ ft2 ++ ft3
def tf : List (PySem.W.Frag → Addr) := []
def loose0 : List PySem.Str := ["_wall", "LeastlogError", "InvalidCount", "InvalidRecord", "InvalidLength", "check_text", "Disk", "UnknownLane", "UnknownEntry", "NotRecovered", "MOST_LANES", "is_number", "check_lanes", "check_lane", "FEED", "SPACE_seals", "FIRST_CHECK", "FACTOR", "MODULUS", "is_record", "check_of", "sealed", "record_in", "whole_records", "SPACE_journals", "NO_PAIRS", "POINT", "COMMA", "DIGITS", "MOST_DIGITS"]
def loose1 : List PySem.Str := ["is_list", "number_in", "spot_in", "pairs_in", "entry_record", "entry_in", "Journal", "rows_of", "is_spot", "next_spot", "is_counted", "_law_pot", "_law_take", "_law_pick", "_law_check", "_law_row", "_law_record", "_law_world", "_law_ends", "_law_spots", "_law_kept_rows", "_law_stopped", "_law_can_stand", "_law_counted", "_law_is_shown", "_law_entered", "_law_written", "_law_synced", "_law_lengths", "_law_found_right"]
def loose2 : List PySem.Str := ["_law_twin_right", "_law_right"]
def loose : List PySem.Str := loose0 ++ loose1 ++ loose2
abbrev R : PySem.W.OpenRow := PySem.W.OpenLaw.row PySem.Challenge.rw_leastlog_k77_whole_journals_found
abbrev hk : PySem.W.Hook := hookU 7 ft fn tf
def ob (s : PySem.W.SharedT) : LL.AlT := LL.obsUG 7 ft fn tf (HandSHeadRun.getT s)
theorem ob_eq (s : PySem.W.SharedT) : ob s = hk.obs s.abs := LL.obsUG_eq (HandSHeadRun.getT_eq s)
theorem run (w : World) : HandSHeadRun.RunEq R (PySem.W.view R.prog [70]) hk ob 8000 loose w := by
  intro os
  kernel_rfl
def csOf (K : PySem.W.Frag) : List (Addr × Addr) := tf.map fun a => (cOf K (a K), tOf K (a K))
section
variable {P : Program} {w : World} {K : PySem.W.Frag} {h : Heap} {mg : Str → Option Value} {fa : Addr}
theorem facts (X : K.In h) (G : h.Ns mainGlobals mg) (hfa : mg ("law" : Str) = some (.ref fa)) (c : SaysY ft fn K) :
    ∃ fd : FuncData, (∀ (s : Shared) (v : Value), BindsTo s fd ⟨[v], []⟩ [("_law_script", v)]) ∧ ∀ base : Heap, K.In base → base.Ns mainGlobals mg → (∀ p ∈ csOf K, LamX.TabB base mg p.1 p.2) → FnG P w K mg base CX0 13 fa fd ["_law_script"] (spLaw K) := by
  obtain ⟨fd_check_text, F_check_text⟩ := c.fn_ 0
  obtain ⟨fd_is_number, F_is_number⟩ := c.fn_ 1
  obtain ⟨fd_check_lanes, F_check_lanes⟩ := c.fn_ 2
  obtain ⟨fd_check_lane, F_check_lane⟩ := c.fn_ 3
  obtain ⟨fd_is_record, F_is_record⟩ := c.fn_ 4
  obtain ⟨fd_check_of, F_check_of⟩ := c.fn_ 5
  obtain ⟨fd_sealed, F_sealed⟩ := c.fn_ 6
  obtain ⟨fd_record_in, F_record_in⟩ := c.fn_ 7
  obtain ⟨fd_whole_records, F_whole_records⟩ := c.fn_ 8
  obtain ⟨fd_is_list, F_is_list⟩ := c.fn_ 9
  obtain ⟨fd_number_in, F_number_in⟩ := c.fn_ 10
  obtain ⟨fd_spot_in, F_spot_in⟩ := c.fn_ 11
  obtain ⟨fd_pairs_in, F_pairs_in⟩ := c.fn_ 12
  obtain ⟨fd_entry_record, F_entry_record⟩ := c.fn_ 13
  obtain ⟨fd_entry_in, F_entry_in⟩ := c.fn_ 14
  obtain ⟨fd_rows_of, F_rows_of⟩ := c.fn_ 15
  obtain ⟨fd_is_spot, F_is_spot⟩ := c.fn_ 16
  obtain ⟨fd_next_spot, F_next_spot⟩ := c.fn_ 17
  obtain ⟨fd_is_counted, F_is_counted⟩ := c.fn_ 18
  obtain ⟨fd_l_pot, F_l_pot⟩ := c.fn_ 19
  obtain ⟨fd_l_take, F_l_take⟩ := c.fn_ 20
  obtain ⟨fd_l_pick, F_l_pick⟩ := c.fn_ 21
  obtain ⟨fd_l_check, F_l_check⟩ := c.fn_ 22
  obtain ⟨fd_l_row, F_l_row⟩ := c.fn_ 23
  obtain ⟨fd_l_record, F_l_record⟩ := c.fn_ 24
  obtain ⟨fd_l_world, F_l_world⟩ := c.fn_ 25
  obtain ⟨fd_l_ends, F_l_ends⟩ := c.fn_ 26
  obtain ⟨fd_l_spots, F_l_spots⟩ := c.fn_ 27
  obtain ⟨fd_l_kept_rows, F_l_kept_rows⟩ := c.fn_ 28
  obtain ⟨fd_l_stopped, F_l_stopped⟩ := c.fn_ 29
  obtain ⟨fd_l_can_stand, F_l_can_stand⟩ := c.fn_ 30
  obtain ⟨fd_l_counted, F_l_counted⟩ := c.fn_ 31
  obtain ⟨fd_l_is_shown, F_l_is_shown⟩ := c.fn_ 32
  obtain ⟨fd_l_entered, F_l_entered⟩ := c.fn_ 33
  obtain ⟨fd_l_written, F_l_written⟩ := c.fn_ 34
  obtain ⟨fd_l_synced, F_l_synced⟩ := c.fn_ 35
  obtain ⟨fd_l_lengths, F_l_lengths⟩ := c.fn_ 36
  obtain ⟨fd_l_found_right, F_l_found_right⟩ := c.fn_ 37
  obtain ⟨fd_l_twin_right, F_l_twin_right⟩ := c.fn_ 38
  obtain ⟨fd_l_right, F_l_right⟩ := c.fn_ 39
  obtain ⟨fd_law, F_law⟩ := c.fn_ 40
  obtain ⟨fd_Diskinit, F_Diskinit⟩ := c.fn_ 41
  obtain ⟨fd_Journalinit, F_Journalinit⟩ := c.fn_ 42
  obtain ⟨fd_Disk_append, F_Disk_append⟩ := c.fn_ 43
  obtain ⟨fd_Disk_sync, F_Disk_sync⟩ := c.fn_ 44
  obtain ⟨fd_Disk_stopped, F_Disk_stopped⟩ := c.fn_ 45
  obtain ⟨fd_Disk_without, F_Disk_without⟩ := c.fn_ 46
  obtain ⟨fd_Disk_clone, F_Disk_clone⟩ := c.fn_ 47
  obtain ⟨fd_Journal_with_disks, F_Journal_with_disks⟩ := c.fn_ 48
  obtain ⟨fd_Journal_entries, F_Journal_entries⟩ := c.fn_ 49
  obtain ⟨fd_Journal_all_entries, F_Journal_all_entries⟩ := c.fn_ 50
  obtain ⟨fd_Journal_disk, F_Journal_disk⟩ := c.fn_ 51
  obtain ⟨fd_Journal_cut, F_Journal_cut⟩ := c.fn_ 52
  obtain ⟨fd_Journal_order, F_Journal_order⟩ := c.fn_ 53
  obtain ⟨fd_Journal_counting, F_Journal_counting⟩ := c.fn_ 54
  obtain ⟨fd_Journal_stopped, F_Journal_stopped⟩ := c.fn_ 55
  obtain ⟨fd_Journal_durable, F_Journal_durable⟩ := c.fn_ 56
  obtain ⟨fd_Journal_clone, F_Journal_clone⟩ := c.fn_ 57
  obtain ⟨fd_Journal_enter, F_Journal_enter⟩ := c.fn_ 58
  obtain ⟨fd_Journal_sync, F_Journal_sync⟩ := c.fn_ 59
  obtain ⟨fd_Diskeq, F_Diskeq⟩ := c.fn_ 60
  obtain ⟨fd_Journaleq, F_Journaleq⟩ := c.fn_ 61
  obtain ⟨fd_Disk_content, F_Disk_content⟩ := c.fn_ 62
  obtain ⟨fd_Disk_sure, F_Disk_sure⟩ := c.fn_ 63
  have T : Tx K mg (He.ga K "Disk") (He.ga K "Journal") := {
    cD := He.cls_ok (c.fact 60)
    cJ := He.cls_ok (c.fact 64)
    nT := He.noat_ok (c.fact 68)
    nS := He.noat_ok (c.fact 69)
    nD := He.noat_ok (c.fact 70)
    nC := He.noat_ok (c.fact 71)
    g_Disk := He.glo_ok X G (c.fact 61)
    g_Journal := He.glo_ok X G (c.fact 65)
    g_FEED := He.str_ok X G (c.fact 72)
    g_SPACE_seals := He.str_ok X G (c.fact 73)
    g_SPACE_journals := He.str_ok X G (c.fact 74)
    g_NO_PAIRS := He.str_ok X G (c.fact 75)
    g_POINT := He.str_ok X G (c.fact 76)
    g_COMMA := He.str_ok X G (c.fact 77)
    g_DIGITS := He.str_ok X G (c.fact 78)
    g_FIRST_CHECK := He.int_ok X G (c.fact 79)
    g_FACTOR := He.int_ok X G (c.fact 80)
    g_MODULUS := He.int_ok X G (c.fact 81)
    g_MOST_DIGITS := He.int_ok X G (c.fact 82)
    g_MOST_LANES := He.int_ok X G (c.fact 83)
    caD := He.eqO_ok (c.fact 84)
    caJ := He.eqO_ok (c.fact 85)
    cn := He.eqO_ok (c.fact 86)
    neJ := He.eqO_ok (c.fact 90)
    ct := of_decide_eq_true (c.fact 87)
    cmD := of_decide_eq_true (c.fact 88)
    cmJ := of_decide_eq_true (c.fact 89)
    kD := of_decide_eq_true (c.fact 91)
    kJ := of_decide_eq_true (c.fact 92)
    kJd := of_decide_eq_true (c.fact 93)
    fD := (c.fact 94)
    fJ := (c.fact 95)
    fJd := (c.fact 96)
    n_isinstance := He.free_ok X G (c.fact 97)
    n_int := He.free_ok X G (c.fact 98)
    n_bool := He.free_ok X G (c.fact 99)
    n_abs := He.free_ok X G (c.fact 100)
    n_str := He.free_ok X G (c.fact 101)
    n_repr := He.free_ok X G (c.fact 102)
    n_range := He.free_ok X G (c.fact 103)
    n_len := He.free_ok X G (c.fact 104)
    n_max := He.free_ok X G (c.fact 105)
    n_min := He.free_ok X G (c.fact 106)
    n_divmod := He.free_ok X G (c.fact 107)
    n_all := He.free_ok X G (c.fact 108)
    n_list := He.free_ok X G (c.fact 109)
    n_tuple := He.free_ok X G (c.fact 110)
    n_set := He.free_ok X G (c.fact 111)
    n_sorted := He.free_ok X G (c.fact 112)
    n_zip := He.free_ok X G (c.fact 113)
    n_enumerate := He.free_ok X G (c.fact 114)
    n_ord := He.free_ok X G (c.fact 115)
  }
  have B_check_text : Binds K fd_check_text ["text"] [] := F_check_text.bindsN fun _ _ _ _ _ _ us hl => match us, hl with | [_], _ => rfl
  have B_is_number : Binds K fd_is_number ["value"] [] := F_is_number.bindsN fun _ _ _ _ _ _ us hl => match us, hl with | [_], _ => rfl
  have B_check_lanes : Binds K fd_check_lanes ["lanes"] [] := F_check_lanes.bindsN fun _ _ _ _ _ _ us hl => match us, hl with | [_], _ => rfl
  have B_check_lane : Binds K fd_check_lane ["lane", "lanes"] [] := F_check_lane.bindsN fun _ _ _ _ _ _ us hl => match us, hl with | [_, _], _ => rfl
  have B_is_record : Binds K fd_is_record ["value"] [] := F_is_record.bindsN fun _ _ _ _ _ _ us hl => match us, hl with | [_], _ => rfl
  have B_check_of : Binds K fd_check_of ["record"] [] := F_check_of.bindsN fun _ _ _ _ _ _ us hl => match us, hl with | [_], _ => rfl
  have B_sealed : Binds K fd_sealed ["record"] [] := F_sealed.bindsN fun _ _ _ _ _ _ us hl => match us, hl with | [_], _ => rfl
  have B_record_in : Binds K fd_record_in ["line"] [] := F_record_in.bindsN fun _ _ _ _ _ _ us hl => match us, hl with | [_], _ => rfl
  have B_whole_records : Binds K fd_whole_records ["text"] [] := F_whole_records.bindsN fun _ _ _ _ _ _ us hl => match us, hl with | [_], _ => rfl
  have B_is_list : Binds K fd_is_list ["value"] [] := F_is_list.bindsN fun _ _ _ _ _ _ us hl => match us, hl with | [_], _ => rfl
  have B_number_in : Binds K fd_number_in ["word"] [] := F_number_in.bindsN fun _ _ _ _ _ _ us hl => match us, hl with | [_], _ => rfl
  have B_spot_in : Binds K fd_spot_in ["word"] [] := F_spot_in.bindsN fun _ _ _ _ _ _ us hl => match us, hl with | [_], _ => rfl
  have B_pairs_in : Binds K fd_pairs_in ["word", "lane"] [] := F_pairs_in.bindsN fun _ _ _ _ _ _ us hl => match us, hl with | [_, _], _ => rfl
  have B_entry_record : Binds K fd_entry_record ["entry"] [] := F_entry_record.bindsN fun _ _ _ _ _ _ us hl => match us, hl with | [_], _ => rfl
  have B_entry_in : Binds K fd_entry_in ["lane", "record"] [] := F_entry_in.bindsN fun _ _ _ _ _ _ us hl => match us, hl with | [_, _], _ => rfl
  have B_rows_of : Binds K fd_rows_of ["entries"] [] := F_rows_of.bindsN fun _ _ _ _ _ _ us hl => match us, hl with | [_], _ => rfl
  have B_is_spot : Binds K fd_is_spot ["value", "lane", "ends"] [] := F_is_spot.bindsN fun _ _ _ _ _ _ us hl => match us, hl with | [_, _, _], _ => rfl
  have B_next_spot : Binds K fd_next_spot ["lanes", "cut", "counts"] [] := F_next_spot.bindsN fun _ _ _ _ _ _ us hl => match us, hl with | [_, _, _], _ => rfl
  have B_is_counted : Binds K fd_is_counted ["pair", "counts"] [] := F_is_counted.bindsN fun _ _ _ _ _ _ us hl => match us, hl with | [_, _], _ => rfl
  have B_l_pot : Binds K fd_l_pot ["_law_script", "_law_k"] [] := F_l_pot.bindsN fun _ _ _ _ _ _ us hl => match us, hl with | [_, _], _ => rfl
  have B_l_take : Binds K fd_l_take ["_law_pot_here", "_law_many"] [] := F_l_take.bindsN fun _ _ _ _ _ _ us hl => match us, hl with | [_, _], _ => rfl
  have B_l_pick : Binds K fd_l_pick ["_law_pot_here", "_law_some"] [] := F_l_pick.bindsN fun _ _ _ _ _ _ us hl => match us, hl with | [_, _], _ => rfl
  have B_l_check : Binds K fd_l_check ["_law_record_here"] [] := F_l_check.bindsN fun _ _ _ _ _ _ us hl => match us, hl with | [_], _ => rfl
  have B_l_row : Binds K fd_l_row ["_law_record_here"] [] := F_l_row.bindsN fun _ _ _ _ _ _ us hl => match us, hl with | [_], _ => rfl
  have B_l_record : Binds K fd_l_record ["_law_entry"] [] := F_l_record.bindsN fun _ _ _ _ _ _ us hl => match us, hl with | [_], _ => rfl
  have B_l_world : Binds K fd_l_world ["_law_lanes"] [] := F_l_world.bindsN fun _ _ _ _ _ _ us hl => match us, hl with | [_], _ => rfl
  have B_l_ends : Binds K fd_l_ends ["_law_world_here"] [] := F_l_ends.bindsN fun _ _ _ _ _ _ us hl => match us, hl with | [_], _ => rfl
  have B_l_spots : Binds K fd_l_spots ["_law_world_here", "_law_lane"] [] := F_l_spots.bindsN fun _ _ _ _ _ _ us hl => match us, hl with | [_, _], _ => rfl
  have B_l_kept_rows : Binds K fd_l_kept_rows ["_law_rows", "_law_length"] [] := F_l_kept_rows.bindsN fun _ _ _ _ _ _ us hl => match us, hl with | [_, _], _ => rfl
  have B_l_stopped : Binds K fd_l_stopped ["_law_world_here", "_law_lengths_here"] [] := F_l_stopped.bindsN fun _ _ _ _ _ _ us hl => match us, hl with | [_, _], _ => rfl
  have B_l_can_stand : Binds K fd_l_can_stand ["_law_world_here", "_law_counts", "_law_lane"] [] := F_l_can_stand.bindsN fun _ _ _ _ _ _ us hl => match us, hl with | [_, _, _], _ => rfl
  have B_l_counted : Binds K fd_l_counted ["_law_world_here"] [] := F_l_counted.bindsN fun _ _ _ _ _ _ us hl => match us, hl with | [_], _ => rfl
  have B_l_is_shown : Binds K fd_l_is_shown ["_law_journal", "_law_world_here"] [] := F_l_is_shown.bindsN fun _ _ _ _ _ _ us hl => match us, hl with | [_, _], _ => rfl
  have B_l_entered : Binds K fd_l_entered ["_law_pot_here", "_law_journal", "_law_world_here"] [] := F_l_entered.bindsN fun _ _ _ _ _ _ us hl => match us, hl with | [_, _, _], _ => rfl
  have B_l_written : Binds K fd_l_written ["_law_pot_here", "_law_journal", "_law_world_here", "_law_lane"] [] := F_l_written.bindsN fun _ _ _ _ _ _ us hl => match us, hl with | [_, _, _, _], _ => rfl
  have B_l_synced : Binds K fd_l_synced ["_law_pot_here", "_law_journal", "_law_world_here"] [] := F_l_synced.bindsN fun _ _ _ _ _ _ us hl => match us, hl with | [_, _, _], _ => rfl
  have B_l_lengths : Binds K fd_l_lengths ["_law_pot_here", "_law_world_here"] [] := F_l_lengths.bindsN fun _ _ _ _ _ _ us hl => match us, hl with | [_, _], _ => rfl
  have B_l_found_right : Binds K fd_l_found_right ["_law_pot_here", "_law_journal", "_law_world_here"] [] := F_l_found_right.bindsN fun _ _ _ _ _ _ us hl => match us, hl with | [_, _, _], _ => rfl
  have B_l_twin_right : Binds K fd_l_twin_right ["_law_pot_here", "_law_journal", "_law_world_here"] [] := F_l_twin_right.bindsN fun _ _ _ _ _ _ us hl => match us, hl with | [_, _, _], _ => rfl
  have B_l_right : Binds K fd_l_right ["_law_pot_here"] [] := F_l_right.bindsN fun _ _ _ _ _ _ us hl => match us, hl with | [_], _ => rfl
  have B_law : Binds K fd_law ["_law_script"] [] := F_law.bindsN fun _ _ _ _ _ _ us hl => match us, hl with | [_], _ => rfl
  have B_Journalinit : Binds K fd_Journalinit ["self", "lanes"] [] := F_Journalinit.bindsN fun _ _ _ _ _ _ us hl => match us, hl with | [_, _], _ => rfl
  have B_Disk_append : Binds K fd_Disk_append ["self", "text"] [] := F_Disk_append.bindsN fun _ _ _ _ _ _ us hl => match us, hl with | [_, _], _ => rfl
  have B_Disk_sync : Binds K fd_Disk_sync ["self"] [] := F_Disk_sync.bindsN fun _ _ _ _ _ _ us hl => match us, hl with | [_], _ => rfl
  have B_Disk_stopped : Binds K fd_Disk_stopped ["self", "length"] [] := F_Disk_stopped.bindsN fun _ _ _ _ _ _ us hl => match us, hl with | [_, _], _ => rfl
  have B_Disk_without : Binds K fd_Disk_without ["self", "length"] [] := F_Disk_without.bindsN fun _ _ _ _ _ _ us hl => match us, hl with | [_, _], _ => rfl
  have B_Disk_clone : Binds K fd_Disk_clone ["self"] [] := F_Disk_clone.bindsN fun _ _ _ _ _ _ us hl => match us, hl with | [_], _ => rfl
  have B_Journal_with_disks : Binds K fd_Journal_with_disks ["self", "disks", "cut"] [] := F_Journal_with_disks.bindsN fun _ _ _ _ _ _ us hl => match us, hl with | [_, _, _], _ => rfl
  have B_Journal_entries : Binds K fd_Journal_entries ["self", "lane"] [] := F_Journal_entries.bindsN fun _ _ _ _ _ _ us hl => match us, hl with | [_, _], _ => rfl
  have B_Journal_all_entries : Binds K fd_Journal_all_entries ["self"] [] := F_Journal_all_entries.bindsN fun _ _ _ _ _ _ us hl => match us, hl with | [_], _ => rfl
  have B_Journal_disk : Binds K fd_Journal_disk ["self", "lane"] [] := F_Journal_disk.bindsN fun _ _ _ _ _ _ us hl => match us, hl with | [_, _], _ => rfl
  have B_Journal_cut : Binds K fd_Journal_cut ["self"] [] := F_Journal_cut.bindsN fun _ _ _ _ _ _ us hl => match us, hl with | [_], _ => rfl
  have B_Journal_order : Binds K fd_Journal_order ["self"] [] := F_Journal_order.bindsN fun _ _ _ _ _ _ us hl => match us, hl with | [_], _ => rfl
  have B_Journal_counting : Binds K fd_Journal_counting ["self"] [] := F_Journal_counting.bindsN fun _ _ _ _ _ _ us hl => match us, hl with | [_], _ => rfl
  have B_Journal_stopped : Binds K fd_Journal_stopped ["self", "lengths"] [] := F_Journal_stopped.bindsN fun _ _ _ _ _ _ us hl => match us, hl with | [_, _], _ => rfl
  have B_Journal_durable : Binds K fd_Journal_durable ["self"] [] := F_Journal_durable.bindsN fun _ _ _ _ _ _ us hl => match us, hl with | [_], _ => rfl
  have B_Journal_clone : Binds K fd_Journal_clone ["self"] [] := F_Journal_clone.bindsN fun _ _ _ _ _ _ us hl => match us, hl with | [_], _ => rfl
  have B_Journal_enter : Binds K fd_Journal_enter ["self", "lane", "pairs", "payload"] [] := F_Journal_enter.bindsN fun _ _ _ _ _ _ us hl => match us, hl with | [_, _, _, _], _ => rfl
  have B_Diskeq : Binds K fd_Diskeq ["self", "other"] [] := F_Diskeq.bindsN fun _ _ _ _ _ _ us hl => match us, hl with | [_, _], _ => rfl
  have B_Journaleq : Binds K fd_Journaleq ["self", "other"] [] := F_Journaleq.bindsN fun _ _ _ _ _ _ us hl => match us, hl with | [_, _], _ => rfl
  have B_Disk_content : Binds K fd_Disk_content ["self"] [] := F_Disk_content.bindsN fun _ _ _ _ _ _ us hl => match us, hl with | [_], _ => rfl
  have B_Disk_sure : Binds K fd_Disk_sure ["self"] [] := F_Disk_sure.bindsN fun _ _ _ _ _ _ us hl => match us, hl with | [_], _ => rfl
  obtain ⟨ds0, v0, B0⟩ := FunD.binds1 (ps := ["self", "text"]) F_Diskinit 1 0 (List.cons_ne_nil _ _) rfl fun _ _ _ _ _ _ _ us its hl hi => match us, its, hl, hi with | [_], [_], _, _ => ⟨_, rfl, rfl⟩
  obtain ⟨ds1, v1, B1⟩ := FunD.binds1 (ps := ["self", "text"]) F_Diskinit 2 1 (List.cons_ne_nil _ _) rfl fun _ _ _ _ _ _ _ us its hl hi => match us, its, hl, hi with | [_, _], [_], _, _ => ⟨_, rfl, rfl⟩
  have e := hfa.symm.trans (He.glo_ok X G (c.fact 40))
  cases e
  have b := FunD.bindsA (ps := ["_law_script"]) F_law fun _ _ _ _ _ _ us hl => match us, hl with | [_], _ => rfl
  refine ⟨fd_law, fun s v => b s [v] rfl, fun base kb nb tbs => ?_⟩
  have G_check_text : Fnc P w K mg base CX0 1 "check_text" [] spChk := ⟨_, _, _, [], He.glo_ok X G (c.fact 0), F_check_text.kp, B_check_text, .nil, ok_check_text T F_check_text⟩
  have G_is_number : Fnc P w K mg base CX0 1 "is_number" [] spNum := ⟨_, _, _, [], He.glo_ok X G (c.fact 1), F_is_number.kp, B_is_number, .nil, ok_is_number T F_is_number⟩
  have G_check_lanes : Fnc P w K mg base CX0 2 "check_lanes" [] spLanes := ⟨_, _, _, [], He.glo_ok X G (c.fact 2), F_check_lanes.kp, B_check_lanes, .nil, ok_check_lanes T G_is_number F_check_lanes⟩
  have G_check_lane : Fnc P w K mg base CX0 2 "check_lane" [] spLane := ⟨_, _, _, [], He.glo_ok X G (c.fact 3), F_check_lane.kp, B_check_lane, .nil, ok_check_lane T G_is_number F_check_lane⟩
  have dinit := ok_dinit (P := P) (w := w) (base := base) T G_check_text F_Diskinit
  have K0 : Mkr P w K mg base CX0 2 "Disk" (He.ga K "Disk") [.str ""] (spDI (He.ga K "Disk")) := ⟨_, _, _, _, He.mkr_ok (c.fact 59), T.g_Disk, B0, v0, dinit⟩
  have K1 : Mkr P w K mg base CX0 2 "Disk" (He.ga K "Disk") [] (spDI (He.ga K "Disk")) := ⟨_, _, _, _, He.mkr_ok (c.fact 59), T.g_Disk, B1, v1, dinit⟩
  have K_Disk0 := mkf0 K0
  have K_Disk1 := mkf1 K1
  have P_D_content : Prp P w K mg base CX0 1 (He.ga K "Disk") "content" (spGetT (He.ga K "Disk")) := ⟨T.cD, _, _, _, _, fProp_ok (c.fact 66), B_Disk_content, ok_content T F_Disk_content⟩
  have P_D_sure : Prp P w K mg base CX0 1 (He.ga K "Disk") "sure" (spGetS (He.ga K "Disk")) := ⟨T.cD, _, _, _, _, fProp_ok (c.fact 67), B_Disk_sure, ok_sure T F_Disk_sure⟩
  have M_D_append : Mth P w K mg base CX0 2 (He.ga K "Disk") "append" [] (spApp (He.ga K "Disk")) := ⟨T.cD, _, _, _, [], He.meth_ok (c.fact 41), B_Disk_append, .nil, ok_append T G_check_text F_Disk_append⟩
  have M_D_sync : Mth P w K mg base CX0 1 (He.ga K "Disk") "sync" [] (spSync (He.ga K "Disk")) := ⟨T.cD, _, _, _, [], He.meth_ok (c.fact 42), B_Disk_sync, .nil, ok_sync T F_Disk_sync⟩
  have M_D_stopped : Mth P w K mg base CX0 4 (He.ga K "Disk") "stopped" [] (spStop (He.ga K "Disk")) := ⟨T.cD, _, _, _, [], He.meth_ok (c.fact 43), B_Disk_stopped, .nil, ok_stopped T K_Disk1 F_Disk_stopped⟩
  have M_D_without : Mth P w K mg base CX0 4 (He.ga K "Disk") "without" [] (spWo (He.ga K "Disk")) := ⟨T.cD, _, _, _, [], He.meth_ok (c.fact 44), B_Disk_without, .nil, ok_without T K_Disk1 F_Disk_without⟩
  have M_D_clone : Mth P w K mg base CX0 5 (He.ga K "Disk") "clone" [] (spClone (He.ga K "Disk")) := ⟨T.cD, _, _, _, [], He.meth_ok (c.fact 45), B_Disk_clone, .nil, ok_clone T M_D_without F_Disk_clone⟩
  have S_deq : SpF P w K mg base CX0 1 (He.ga K "Disk") "__eq__" (spEq (He.ga K "Disk")) := ⟨_, _, _, (fSpec_ok (c.fact 58)).1, (fSpec_ok (c.fact 58)).2, B_Diskeq, ok_deq T F_Diskeq⟩
  have G_is_record : Fnc P w K mg base CX0 1 "is_record" [] spIs := ⟨_, _, _, [], He.glo_ok X G (c.fact 4), F_is_record.kp, B_is_record, .nil, ok_is_record T F_is_record⟩
  have G_check_of : Fnc P w K mg base CX0 1 "check_of" [] spCk := ⟨_, _, _, [], He.glo_ok X G (c.fact 5), F_check_of.kp, B_check_of, .nil, ok_check_of T F_check_of⟩
  have G_sealed : Fnc P w K mg base CX0 2 "sealed" [] spSealed := ⟨_, _, _, [], He.glo_ok X G (c.fact 6), F_sealed.kp, B_sealed, .nil, ok_sealed T G_is_record G_check_of F_sealed⟩
  have G_record_in : Fnc P w K mg base CX0 3 "record_in" [] spRin := ⟨_, _, _, [], He.glo_ok X G (c.fact 7), F_record_in.kp, B_record_in, .nil, ok_record_in T G_sealed F_record_in⟩
  have G_whole_records : Fnc P w K mg base CX0 4 "whole_records" [] spWhole := ⟨_, _, _, [], He.glo_ok X G (c.fact 8), F_whole_records.kp, B_whole_records, .nil, ok_whole T G_record_in F_whole_records⟩
  have G_number_in : Fnc P w K mg base CX0 1 "number_in" [] spNin := ⟨_, _, _, [], He.glo_ok X G (c.fact 10), F_number_in.kp, B_number_in, .nil, ok_number_in T F_number_in⟩
  have G_spot_in : Fnc P w K mg base CX0 2 "spot_in" [] spSin := ⟨_, _, _, [], He.glo_ok X G (c.fact 11), F_spot_in.kp, B_spot_in, .nil, ok_spot_in T G_number_in F_spot_in⟩
  have G_pairs_in : Fnc P w K mg base CX0 3 "pairs_in" [] spPin := ⟨_, _, _, [], He.glo_ok X G (c.fact 12), F_pairs_in.kp, B_pairs_in, .nil, ok_pairs_in T G_spot_in F_pairs_in⟩
  have G_entry_record : Fnc P w K mg base CX0 1 "entry_record" [] spErec := ⟨_, _, _, [], He.glo_ok X G (c.fact 13), F_entry_record.kp, B_entry_record, .nil, ok_entry_record T F_entry_record⟩
  have G_entry_in : Fnc P w K mg base CX0 4 "entry_in" [] spEin := ⟨_, _, _, [], He.glo_ok X G (c.fact 14), F_entry_in.kp, B_entry_in, .nil, ok_entry_in T G_number_in G_pairs_in F_entry_in⟩
  have G_rows_of : Fnc P w K mg base CX0 3 "rows_of" [] spRows := ⟨_, _, _, [], He.glo_ok X G (c.fact 15), F_rows_of.kp, B_rows_of, .nil, ok_rows_of T G_entry_record G_sealed F_rows_of⟩
  have G_is_list : Fnc P w K mg base CX0 1 "is_list" [] spIsl := ⟨_, _, _, [], He.glo_ok X G (c.fact 9), F_is_list.kp, B_is_list, .nil, ok_is_list T F_is_list⟩
  have G_is_spot : Fnc P w K mg base CX0 2 "is_spot" [] spIsp := ⟨_, _, _, [], He.glo_ok X G (c.fact 16), F_is_spot.kp, B_is_spot, .nil, ok_is_spot T G_is_number F_is_spot⟩
  have G_is_counted : Fnc P w K mg base CX0 1 "is_counted" [] spCnt := ⟨_, _, _, [], He.glo_ok X G (c.fact 18), F_is_counted.kp, B_is_counted, .nil, ok_is_counted T F_is_counted⟩
  have G_next_spot : Fnc P w K mg base CX0 2 "next_spot" [] spNxt := ⟨_, _, _, [], He.glo_ok X G (c.fact 17), F_next_spot.kp, B_next_spot, .nil, ok_next_spot T G_is_counted F_next_spot⟩
  have jinit := ok_jinit (P := P) (w := w) (base := base) T G_check_lanes K_Disk0 F_Journalinit
  have KJ : Mkr P w K mg base CX0 4 "Journal" (He.ga K "Journal") [] (spJI (He.ga K "Disk") (He.ga K "Journal")) := ⟨_, _, _, _, He.mkr_ok (c.fact 63), T.g_Journal, B_Journalinit, .nil, jinit⟩
  have K_Journal1 := mkfJ KJ
  have M_J_with_disks : Mth P w K mg base CX0 6 (He.ga K "Journal") "with_disks" [] (spWd (He.ga K "Disk") (He.ga K "Journal")) := ⟨T.cJ, _, _, _, [], He.meth_ok (c.fact 46), B_Journal_with_disks, .nil, ok_with_disks T K_Journal1 F_Journal_with_disks⟩
  have M_J_entries : Mth P w K mg base CX0 5 (He.ga K "Journal") "entries" [] (spEnt (He.ga K "Disk") (He.ga K "Journal")) := ⟨T.cJ, _, _, _, [], He.meth_ok (c.fact 47), B_Journal_entries, .nil, ok_entries T G_check_lane G_whole_records G_entry_in P_D_content F_Journal_entries⟩
  have M_J_all_entries : Mth P w K mg base CX0 6 (He.ga K "Journal") "all_entries" [] (spAll (He.ga K "Disk") (He.ga K "Journal")) := ⟨T.cJ, _, _, _, [], He.meth_ok (c.fact 48), B_Journal_all_entries, .nil, ok_all_entries T M_J_entries F_Journal_all_entries⟩
  have M_J_disk : Mth P w K mg base CX0 6 (He.ga K "Journal") "disk" [] (spDisk (He.ga K "Disk") (He.ga K "Journal")) := ⟨T.cJ, _, _, _, [], He.meth_ok (c.fact 49), B_Journal_disk, .nil, ok_disk T G_check_lane M_D_clone F_Journal_disk⟩
  have M_J_cut : Mth P w K mg base CX0 1 (He.ga K "Journal") "cut" [] (spCut (He.ga K "Disk") (He.ga K "Journal")) := ⟨T.cJ, _, _, _, [], He.meth_ok (c.fact 50), B_Journal_cut, .nil, ok_cut T F_Journal_cut⟩
  have M_J_order : Mth P w K mg base CX0 7 (He.ga K "Journal") "order" [] (spOrd (He.ga K "Disk") (He.ga K "Journal")) := ⟨T.cJ, _, _, _, [], He.meth_ok (c.fact 51), B_Journal_order, .nil, ok_order T M_J_all_entries G_next_spot F_Journal_order⟩
  have M_J_counting : Mth P w K mg base CX0 8 (He.ga K "Journal") "counting" [] (spCtg (He.ga K "Disk") (He.ga K "Journal")) := ⟨T.cJ, _, _, _, [], He.meth_ok (c.fact 52), B_Journal_counting, .nil, ok_counting T M_J_order F_Journal_counting⟩
  have M_J_stopped : Mth P w K mg base CX0 7 (He.ga K "Journal") "stopped" [] (spStp (He.ga K "Disk") (He.ga K "Journal")) := ⟨T.cJ, _, _, _, [], He.meth_ok (c.fact 53), B_Journal_stopped, .nil, ok_jstopped T G_is_list M_D_stopped M_J_with_disks F_Journal_stopped⟩
  have M_J_durable : Mth P w K mg base CX0 9 (He.ga K "Journal") "durable" [] (spDur (He.ga K "Disk") (He.ga K "Journal")) := ⟨T.cJ, _, _, _, [], He.meth_ok (c.fact 54), B_Journal_durable, .nil, ok_durable T P_D_sure M_J_stopped M_J_counting F_Journal_durable⟩
  have M_J_clone : Mth P w K mg base CX0 7 (He.ga K "Journal") "clone" [] (spJcl (He.ga K "Disk") (He.ga K "Journal")) := ⟨T.cJ, _, _, _, [], He.meth_ok (c.fact 55), B_Journal_clone, .nil, ok_jclone T M_D_clone M_J_with_disks F_Journal_clone⟩
  have S_jeq : SpF P w K mg base CX0 3 (He.ga K "Journal") "__eq__" (spJeq K (He.ga K "Disk") (He.ga K "Journal")) := ⟨_, _, _, (fSpec_ok (c.fact 62)).1, (fSpec_ok (c.fact 62)).2, B_Journaleq, ok_jeq T S_deq F_Journaleq⟩
  have M_J_enter : Mth P w K mg base CX0 7 (He.ga K "Journal") "enter" [] (spEnter (He.ga K "Disk") (He.ga K "Journal")) := ⟨T.cJ, _, _, _, [], He.meth_ok (c.fact 56), B_Journal_enter, .nil, ok_enter T M_J_entries M_J_all_entries G_rows_of P_D_content G_is_list G_is_spot G_is_record G_sealed G_entry_record M_D_append F_Journal_enter⟩
  have M_J_sync : Mts P w K mg base CX0 3 (He.ga K "Journal") "sync" (spStar 1 (spSyn (He.ga K "Disk") (He.ga K "Journal"))) := ⟨T.cJ, _, He.meth_ok (c.fact 57), ok_jsync T G_check_lane M_D_sync F_Journal_sync⟩
  have G_l_pot : Fnc P w K mg base CX0 1 "_law_pot" [] (spPot K) := ⟨_, _, _, [], He.glo_ok X G (c.fact 19), F_l_pot.kp, B_l_pot, .nil, ok_l_pot T F_l_pot⟩
  have G_l_take : Fnc P w K mg base CX0 1 "_law_take" [] spTake := ⟨_, _, _, [], He.glo_ok X G (c.fact 20), F_l_take.kp, B_l_take, .nil, ok_l_take T F_l_take⟩
  have G_l_pick : Fnc P w K mg base CX0 2 "_law_pick" [] spPick := ⟨_, _, _, [], He.glo_ok X G (c.fact 21), F_l_pick.kp, B_l_pick, .nil, ok_l_pick T G_l_take F_l_pick⟩
  have G_l_check : Fnc P w K mg base CX0 1 "_law_check" [] spCk := ⟨_, _, _, [], He.glo_ok X G (c.fact 22), F_l_check.kp, B_l_check, .nil, ok_l_check T F_l_check⟩
  have G_l_row : Fnc P w K mg base CX0 2 "_law_row" [] spRow := ⟨_, _, _, [], He.glo_ok X G (c.fact 23), F_l_row.kp, B_l_row, .nil, ok_l_row T G_l_check F_l_row⟩
  have G_l_record : Fnc P w K mg base CX0 1 "_law_record" [] spErec := ⟨_, _, _, [], He.glo_ok X G (c.fact 24), F_l_record.kp, B_l_record, .nil, ok_l_record T F_l_record⟩
  have G_l_kept_rows : Fnc P w K mg base CX0 3 "_law_kept_rows" [] spKept := ⟨_, _, _, [], He.glo_ok X G (c.fact 28), F_l_kept_rows.kp, B_l_kept_rows, .nil, ok_l_kept_rows T G_l_row G_l_record F_l_kept_rows⟩
  have G_l_ends : Fnc P w K mg base CX0 1 "_law_ends" [] spEnds := ⟨_, _, _, [], He.glo_ok X G (c.fact 26), F_l_ends.kp, B_l_ends, .nil, ok_l_ends T F_l_ends⟩
  have G_l_spots : Fnc P w K mg base CX0 2 "_law_spots" [] spSpots := ⟨_, _, _, [], He.glo_ok X G (c.fact 27), F_l_spots.kp, B_l_spots, .nil, ok_l_spots T G_l_ends F_l_spots⟩
  have G_l_world : Fnc P w K mg base CX0 1 "_law_world" [] spWorld := ⟨_, _, _, [], He.glo_ok X G (c.fact 25), F_l_world.kp, B_l_world, .nil, ok_l_world T F_l_world⟩
  have G_l_stopped : Fnc P w K mg base CX0 4 "_law_stopped" [] spStW := ⟨_, _, _, [], He.glo_ok X G (c.fact 29), F_l_stopped.kp, B_l_stopped, .nil, ok_l_stopped T G_l_kept_rows F_l_stopped⟩
  have G_l_can_stand : Fnc P w K mg base CX0 1 "_law_can_stand" [] spCan := ⟨_, _, _, [], He.glo_ok X G (c.fact 30), F_l_can_stand.kp, B_l_can_stand, .nil, ok_l_can_stand T F_l_can_stand⟩
  have G_l_counted : Fnc P w K mg base CX0 2 "_law_counted" [] spCtd := ⟨_, _, _, [], He.glo_ok X G (c.fact 31), F_l_counted.kp, B_l_counted, .nil, ok_l_counted T G_l_can_stand F_l_counted⟩
  have G_l_is_shown : Fnc P w K mg base CX0 10 "_law_is_shown" [] (spShow (He.ga K "Disk") (He.ga K "Journal")) := ⟨_, _, _, [], He.glo_ok X G (c.fact 32), F_l_is_shown.kp, B_l_is_shown, .nil, ok_l_is_shown T G_l_counted G_l_stopped M_J_disk M_J_order M_J_counting M_J_durable M_J_cut M_J_entries P_D_content P_D_sure F_l_is_shown⟩
  have G_l_lengths : Fnc P w K mg base CX0 2 "_law_lengths" [] spLen := ⟨_, _, _, [], He.glo_ok X G (c.fact 36), F_l_lengths.kp, B_l_lengths, .nil, ok_l_lengths T G_l_take F_l_lengths⟩
  have G_l_synced : Fnc P w K mg base CX0 4 "_law_synced" [] (spSynd (He.ga K "Disk") (He.ga K "Journal")) := ⟨_, _, _, [], He.glo_ok X G (c.fact 35), F_l_synced.kp, B_l_synced, .nil, ok_l_synced T G_l_take M_J_sync F_l_synced⟩
  have G_l_written : Fnc P w K mg base CX0 8 "_law_written" [] (spWrit (He.ga K "Disk") (He.ga K "Journal")) := ⟨_, _, _, [], He.glo_ok X G (c.fact 34), F_l_written.kp, B_l_written, .nil, ok_l_written T G_l_take G_l_pick G_l_spots G_l_ends M_J_enter G_l_row G_l_record F_l_written⟩
  have G_l_entered : Fnc P w K mg base CX0 9 "_law_entered" [] (spEntd (He.ga K "Disk") (He.ga K "Journal")) := ⟨_, _, _, [], He.glo_ok X G (c.fact 33), F_l_entered.kp, B_l_entered, .nil, ok_l_entered T G_l_take G_l_written F_l_entered⟩
  have G_l_found_right : Fnc P w K mg base CX0 11 "_law_found_right" [] (spFnd (He.ga K "Disk") (He.ga K "Journal")) := ⟨_, _, _, [], He.glo_ok X G (c.fact 37), F_l_found_right.kp, B_l_found_right, .nil, ok_l_found_right T G_l_lengths M_J_stopped G_l_stopped G_l_is_shown S_jeq M_J_entries M_J_cut M_J_disk M_D_append M_J_order M_J_counting M_J_sync F_l_found_right⟩
  have G_l_twin_right : Fnc P w K mg base CX0 11 "_law_twin_right" [] (spTwin (He.ga K "Disk") (He.ga K "Journal")) := ⟨_, _, _, [], He.glo_ok X G (c.fact 38), F_l_twin_right.kp, B_l_twin_right, .nil, ok_l_twin_right T M_J_clone G_l_stopped G_l_entered G_l_is_shown S_jeq F_l_twin_right⟩
  have G_l_right : Fnc P w K mg base CX0 12 "_law_right" [] spRt := ⟨_, _, _, [], He.glo_ok X G (c.fact 39), F_l_right.kp, B_l_right, .nil, ok_l_right T G_l_take K_Journal1 G_l_world G_l_written G_l_synced G_l_entered G_l_is_shown G_l_found_right G_l_twin_right S_jeq F_l_right⟩
  exact ok_law T G_l_pot G_l_right F_law
end
end K77
open PySem PySem.W PySem.Calls PyProof.Rows
theorem PySem.Challenge.cw_leastlog_k77_whole_journals_found_holds : PySem.Challenge.rw_leastlog_k77_whole_journals_found.Holds := by
  w_on; o_law
  refine HandSHeadRun.head_any (r := OpenLaw.row PySem.Challenge.rw_leastlog_k77_whole_journals_found) (q := view (OpenLaw.row PySem.Challenge.rw_leastlog_k77_whole_journals_found).prog [70]) (H := K77.hk) (ob := K77.ob) (M := 8000) (loose := K77.loose) (d := HandSHeadRun.topDef (OpenLaw.row PySem.Challenge.rw_leastlog_k77_whole_journals_found).prog 70) (kwd := []) K77.ob_eq
    (by kernel_rfl) (fun s => by kernel_rfl) K77.run (by kernel_rfl) (by kernel_rfl) (by kernel_rfl) (by rfl) (by first | assumption | decide +kernel) (by decide +kernel) ⟨rfl, rfl, rfl, rfl, rfl, by decide +kernel⟩ ?hw ?hc
  case hw => w_witness2
  case hc =>
    refine LL.walkT (l := PySem.Challenge.rw_leastlog_k77_whole_journals_found) (n := 63) (k := 13) (x := "_law_script") (CX := L2.CX0) rfl (by decide) (by kernel_rfl) ⟨⟨rfl, by decide, by decide⟩, rfl⟩ ?F (fun _ _ _ _ z => z)
    intro w mg fa h Y G hmg0
    obtain ⟨K, KX, c⟩ := Y
    have hmg : mg ("law" : PySem.Str) = some (.ref fa) := by
      have e : (HandSHeadRun.topDef (OpenLaw.row PySem.Challenge.rw_leastlog_k77_whole_journals_found).prog 70).name = ("law" : PySem.Str) := by kernel_rfl
      rw [← e]
      exact hmg0
    obtain ⟨fd, hb, hF⟩ := K77.facts (P := (PySem.Challenge.rw_leastlog_k77_whole_journals_found).prog) (w := w) KX G hmg c.y
    have mem : ∀ p ∈ K77.csOf K, ∃ a ∈ K77.tf, p = (LL.cOf K (a K), LL.tOf K (a K)) := fun p hp => by
      obtain ⟨a, ha, e⟩ := List.mem_map.mp hp
      exact ⟨a, ha, e.symm⟩
    refine ⟨K, fd, K77.spLaw K, K77.csOf K, KX, fun p hp => ?_, fun p hp => ?_, fun p hp => ?_, hb, fun H a ns hl _ hT hS => ⟨a, ns, rfl, hS, hl, fun _ => rfl⟩, hF⟩
    · obtain ⟨a, ha, rfl⟩ := mem p hp
      exact c.emp a ha
    · obtain ⟨a, ha, rfl⟩ := mem p hp
      exact c.out a ha
    · obtain ⟨a, ha, rfl⟩ := mem p hp
      exact c.hd a ha
