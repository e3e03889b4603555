import PyProof.Rows.All
import Wide.All
import OpenK.AllK
import Wide.FinOn
import HandS.ForMost
import HandS.ForExc
import HandS.WideBits
import HandS.StrMore
import HandS.Flow
import HandS.IsInst
import HandS.Defaults
import HandS.TupAny
import HandS.Walk
import HandS.More
import HandS.SortInts
import HandS.ListItems
import HandS.ExcValue
import KE.KUnpackStar
import KE.GoesMore
import KE.GoesEnum
import HandS.ExcInit
import HandS.ExcOwn
import HandS.ExcIs
import HandS.ExcField
import HandS.TryOnly
import HandS.DeepEq
import PyProof.StrOps2
import PyProof.ExcBaseAll.ValueError
import HandS.HotCalls
import PyProof.AssignAttr
import HandS.Lambda
import HandS.EndTab
import HandS.Small
import HandS.TupLe
import PySem.Challenge.RW_cleanedlog_k26_sizes
set_option Elab.async false
set_option linter.all false
set_option maxRecDepth 100000
set_option maxHeartbeats 1000000
/-! ### ClG: defs that know that nothing is being shown (repr wants it): promises, calls, methods, makings, the law's own call -/
namespace Cl
open PySem PySem.Spec PyProof.Rows L2

/-- room for k calls, and no repr is running -/
structure Rm (k : Nat) (A : Around) : Prop where
  room : Room k A
  gd : A.guards = some []
theorem Rm.mono {j k : Nat} {A : Around} (r : Rm k A) (h : j ≤ k) : Rm j A := ⟨r.room.mono h, r.gd⟩
theorem Rm.deeper {k : Nat} {A : Around} (r : Rm (k + 1) A) (env : Env) : Rm k (A.deeper env) := ⟨r.room.deeper env, r.gd⟩
theorem Rm.make {k : Nat} {A : Around} (r : Rm (k + 1) A) (C : Addr) (us : List Value) (kw : List (Str × Value)) : Rm k (A.under (.builtin "type.__call__" ⟨.ref C :: us, kw⟩)) := by
  refine ⟨r.room.make C us kw, ?_⟩
  show pushGuards (Code.builtin "type.__call__" ⟨.ref C :: us, kw⟩).guards A.guards = some []
  rw [show (Code.builtin "type.__call__" ⟨.ref C :: us, kw⟩).guards = [] by simp [Code.guards, Code.isGuard, guardIds]]
  exact r.gd
theorem Rm.hu {A : Around} {k : Nat} (hr : Rm k A) : A.units + 1 < cLine := hu_of hr.room
theorem Rm.units {A : Around} {k : Nat} (hr : Rm k A) : A.units + 64 < cLine := hr.room.units

/-- a def that keeps its promise wherever there is such room -/
structure GnOk (P : Program) (w : World) (K : PySem.W.Frag) (mg : Str → Option Value) (base : Heap) (CX : CXT) (k : Nat) (f : Addr) (fd : FuncData) (ps : List Str) (sp : Sp) : Prop where
  len : ∀ vs H Q E, sp vs H Q E → vs.length = ps.length
  run : ∀ (A : Around) (out : List Env) (s : Shared) (H : Hp) (ar : Args) (us : List Value) (vs : List V) (Q : VK) (E : XK), Rm k A → Env0 P w K mg base A out s H →
    BindsTo s fd ar (ps.zip us) → Vals vs us → sp vs H Q E → codeAny (model P w) A (.call (.ref f) ar) (CR CX out P w H s Q E) s

section
variable {P : Program} {w : World} {K : PySem.W.Frag} {mg : Str → Option Value} {base : Heap}
theorem GnOk.mono {CX : CXT} {j k : Nat} {f : Addr} {fd : FuncData} {ps : List Str} {sp : Sp} (F : GnOk P w K mg base CX j f fd ps sp) (h : j ≤ k) : GnOk P w K mg base CX k f fd ps sp :=
  ⟨F.len, fun A out s H ar us vs Q E hr => F.run A out s H ar us vs Q E (hr.mono h)⟩
theorem GnOk.imp {CX : CXT} {k : Nat} {f : Addr} {fd : FuncData} {ps : List Str} {sp sp' : Sp} (F : GnOk P w K mg base CX k f fd ps sp) (h : ∀ vs H Q E, sp' vs H Q E → sp vs H Q E) : GnOk P w K mg base CX k f fd ps sp' :=
  ⟨fun vs H Q E q => F.len vs H Q E (h _ _ _ _ q), fun A out s H ar us vs Q E hr he hb hv hs => F.run A out s H ar us vs Q E hr he hb hv (h _ _ _ _ hs)⟩
/-- the end of a body is the end of the call -/
theorem body_end {CX : CXT} {N : List Str} {qual : Str} {sc : Scope} {f : Addr} {cd : Value} {A : Around} {out : List Env} {s : Shared} {H : Hp} {E : XK} {Q : VK} :
    ∀ {fl : Flow} {s' : Shared}, SP (cxOf CX P w K mg base N qual sc f cd A out s H E) [] { nx := fun _ H' => Q .non H', rt := Q } fl s' → CE out P w H s Q (match (generalizing := false) fl with | .ret v => v | _ => .none) s'
  | .ret _, _, ⟨v, _, H1, J, rv, q⟩ => ⟨v, H1, J.os, J.bare, J.base, J.hok, rv, q⟩
  | .next, _, ⟨_, H1, J, q⟩ => ⟨.non, H1, J.os, J.bare, J.base, J.hok, rfl, q⟩
  | .brk, _, ⟨_, _, _, q⟩ => q.elim
  | .cont, _, ⟨_, _, _, q⟩ => q.elim
theorem gn_of {CX : CXT} {k : Nat} {f : Addr} {nm qual : Str} {pars : Arguments} {body : List Stmt} {sc : Scope} {dV kV doc pm cdv ct oc : Value} {an od : Option Addr} {osl : Array (Option Value)} {N ps : List Str} {sp : Sp}
    (lk : K.lookup f = some ⟨oc, od, .func (PySem.W.fnOf nm qual pars body sc dV kV doc pm an cdv ct), osl⟩) (hc : PySem.W.codeIn K cdv qual = true) (S : FnScope N ps sc) (len : ∀ vs H Q E, sp vs H Q E → vs.length = ps.length)
    (hb : ∀ (A : Around) (out : List Env) (s : Shared) (H : Hp) (vs : List V) (Q : VK) (E : XK), Rm k (A.deeper (envOfC qual sc s.heap.objs.size f cdv)) → sp vs H Q E →
      ∃ t, PSs (cxOf CX P w K mg base N qual sc f cdv A out s H E) body t ∧ t { nx := fun _ H' => Q .non H', rt := Q } (start N vs) H) :
    GnOk P w K mg base CX (k + 1) f (PySem.W.fnOf nm qual pars body sc dV kV doc pm an cdv ct) ps sp := by
  constructor
  · exact len
  intro A out s H ar us vs Q E hr e0 hbd rv hs
  have lenv := len _ _ _ _ hs
  have inK : K.In s.heap := e0.mod.kin.keeps fun b o e => (e0.bs b o e).1
  have nolim : s.heap.NoLimit := e0.mod.nolimit.keeps fun b o e => (e0.bs b o e).1
  have kinds : ∀ y ∈ ps.zip us, sc.names.lookup y.1 = some .local ∨ (sc.names.lookup y.1 = some .cell ∧ ((cellsFrom (s.heap.objs.size + 1) sc.names []).lookup y.1).isSome = true) := by
    rintro ⟨n, v⟩ hy
    have hp := S.par n (List.of_mem_zip hy).1
    exact hp.imp id fun q => ⟨q, PySem.W.cellsFrom_some _ _ _ (.inl q)⟩
  refine codeAny_call_function hr.room.depth (inK _ _ lk) rfl S.co S.gen rfl (PySem.W.codeRec_of inK hc) (hbd _ _ _ _ (wpAny_newFunctionEnv_cells S.kind kinds ?_))
  rintro env rfl s1 x
  refine ⟨nolim.keeps x.toInCall.keep, codeAny_func ?_⟩
  obtain ⟨t, ht, hq⟩ := hb A out s H vs Q E (hr.deeper _) hs
  refine wpAny_mono (ht.run [] s1 (start N vs) H _ (inv_start S hr.room.hd e0 lenv rv x) hq) (fun fl s' z => ?_) fun e s' z => z
  have z' := body_end z
  cases fl <;> exact z'
/-- THE RULE for a def out of which nothing is raised -/
theorem gn_fun {x qual : Str} {st : Stmt} {f : Addr} {fd : FuncData} {N ps : List Str} {k : Nat} {sp : Sp} (F : Fun K x qual st f fd) (S : FnScope N ps (defScope st)) (len : ∀ vs H Q E, sp vs H Q E → vs.length = ps.length)
    (hb : ∀ (cdv : Value) (A : Around) (out : List Env) (s : Shared) (H : Hp) (vs : List V) (Q : VK) (E : XK), Rm k (A.deeper (envOfC qual (defScope st) s.heap.objs.size f cdv)) → sp vs H Q E →
      ∃ t, PSs (cxOf CX0 P w K mg base N qual (defScope st) f cdv A out s H E).nox (defBody st) t ∧ t { nx := fun _ H' => Q .non H', rt := Q } (start N vs) H) : GnOk P w K mg base CX0 (k + 1) f fd ps sp := by
  obtain ⟨oc, od, kV, doc, pm, an, cdv, ct, osl, rfl, lk, hc⟩ := F.ex
  refine gn_of lk hc S len fun A out s H vs Q E hr hs => ?_
  obtain ⟨t, h1, h2⟩ := hb cdv A out s H vs Q E hr hs
  exact ⟨t, h1.nox, h2⟩
/-- THE RULE for a def that may raise -/
theorem gn_funX {x qual : Str} {st : Stmt} {f : Addr} {fd : FuncData} {N ps : List Str} {k : Nat} {sp : Sp} (F : Fun K x qual st f fd) (S : FnScope N ps (defScope st)) (len : ∀ vs H Q E, sp vs H Q E → vs.length = ps.length)
    (hb : ∀ (cdv : Value) (A : Around) (out : List Env) (s : Shared) (H : Hp) (vs : List V) (Q : VK) (E : XK), Rm k (A.deeper (envOfC qual (defScope st) s.heap.objs.size f cdv)) → sp vs H Q E →
      ∃ t, PSs (cxOf (L2.CX P w) P w K mg base N qual (defScope st) f cdv A out s H E) (defBody st) t ∧ t { nx := fun _ H' => Q .non H', rt := Q } (start N vs) H) : GnOk P w K mg base (L2.CX P w) (k + 1) f fd ps sp := by
  obtain ⟨oc, od, kV, doc, pm, an, cdv, ct, osl, rfl, lk, hc⟩ := F.ex
  exact gn_of lk hc S len fun A out s H vs Q E hr hs => hb cdv A out s H vs Q E hr hs
end

/-! ### calls -/
section
variable {X : Cx} {CX : CXT} {k : Nat} {f C : Addr} {fd : FuncData} {ps : List Str} {sp : Sp} {E : XK} {pins : List (Addr × Obj)} {σ : L2.St} {H : Hp} {s : Shared} {Q : VK}
/-- the callee runs, its parameters bound to all -/
theorem gn_call {us : List Value} {kw : List (Str × Value)} {allU : List Value} {allV : List V} (F : GnOk X.prog X.w X.K X.mg X.base CX k f fd ps sp) (hr : Rm k X.A) (hb : BindsTo s fd ⟨us, kw⟩ (ps.zip allU)) (hx : Passes CX X E)
    (I : Inv X pins σ H s) (r : Vals allV allU) (h : sp allV H Q E) : wpAny (model X.prog X.w) X.A (call (.ref f) us kw) (EP X pins σ Q) X.xe s := by
  refine wpAny_call (codeAny_mono (F.run X.A X.stack s H ⟨us, kw⟩ allU allV Q E hr I.env0 hb r h) ?_)
  rintro (e | fl) s' hq
  · exact hx pins σ H s e s' I hq
  · cases fl with
    | ret u => exact I.after hq
    | next | brk | cont => exact hq.elim
/-- C(..): the instance and its dict are made, __init__ runs -/
theorem gn_make {us : List Value} {kw : List (Str × Value)} {allU : Addr → List Value} {allV : Addr → List V} (M : Mk X.K C f) (F : GnOk X.prog X.w X.K X.mg X.base CX k f fd ps sp) (hr : Rm (k + 1) X.A)
    (hb : ∀ (s' : Shared) (x : Addr), X.K.In s'.heap → BindsTo s' fd ⟨.ref x :: us, kw⟩ (ps.zip (allU x))) (hx : Passes CX X E)
    (I : Inv X pins σ H s) (r : ∀ x, Vals (allV x) (allU x)) (h : ∀ x dx, H x = none → H dx = none → dx ≠ x → sp (allV x) (upd (upd H dx (.own x)) x (.ins C dx [])) (fun v H2 => v = .non ∧ Q (.ref x) H2) E) :
    wpAny (model X.prog X.w) X.A (call (.ref C) us kw) (EP X pins σ Q) X.xe s := by
  have J := Inv.made (C := C) I
  have now := h (s.heap.objs.size + 1) s.heap.objs.size (I.hok.fresh (Nat.le_succ _)) (I.hok.fresh (Nat.le_refl _)) (Nat.ne_of_lt (Nat.lt_succ_self _))
  refine wpAny_call (make_map (f := f) I.kIn M.makes M.init (beq_iff_eq.mp M.fn) (codeAny_mono (F.run _ X.stack _ _ _ (allU (s.heap.objs.size + 1)) _ _ E (hr.make C us kw) (J.env0.make C us kw) (hb _ _ J.kIn) (r _) now) ?_))
  rintro (e | fl) s' hq
  · exact hx pins σ _ _ e s' J hq
  · cases fl with
    | ret u =>
      obtain ⟨v, H1, J1, rv, ev, q1⟩ := J.after hq
      subst ev
      exact ⟨rv, .ref (s.heap.objs.size + 1), H1, J1, rfl, q1⟩
    | next | brk | cont => exact hq.elim
end

/-! ### bundles: a def by its name; how it is bound -/
/-- n positional values and the keywords ks; gV puts the values in the parameters' order (defaults among them) -/
structure Cal (P : Program) (w : World) (K : PySem.W.Frag) (mg : Str → Option Value) (base : Heap) (CX : CXT) (x : Str) (k : Nat) (ps : List Str) (sp : Sp) : Prop where
  ex : ∃ (f : Addr) (fd : FuncData), GnOk P w K mg base CX k f fd ps sp ∧ mg x = some (.ref f) ∧ PySem.W.keepIn K (.ref f) = true ∧ Binds K fd ps []
structure CalK (P : Program) (w : World) (K : PySem.W.Frag) (mg : Str → Option Value) (base : Heap) (CX : CXT) (x : Str) (k : Nat) (ps : List Str) (n : Nat) (ks : List Str) (gV : List V → List V → List V) (sp : Sp) : Prop where
  ex : ∃ (f : Addr) (fd : FuncData) (g : List Value → List Value → List Value), GnOk P w K mg base CX k f fd ps sp ∧ mg x = some (.ref f) ∧ PySem.W.keepIn K (.ref f) = true ∧ KBn K fd ps n ks g gV
section
variable {X : Cx} {CX : CXT} {k n : Nat} {ps ks : List Str} {sp : Sp} {E : XK} {x : Str} {p pos : Pos} {e : Expr} {es : List Expr} {kws : List Keyword} {t tk : TA} {gV : List V → List V → List V}
theorem pe_cal (C : Cal X.prog X.w X.K X.mg X.base CX x k ps sp) (hr : Rm k X.A) (hg : Gl X x) (hx : Passes CX X E) (ha : PA X (e :: es) t) (hdb : (x == ("__debug__" : Str)) = false := by decide)
    (he : starEach (e :: es) X.env = (false, eval e X.env) :: starEach es X.env := by rfl) (hpl : (backTo pos (starEach es X.env)).any (·.1) = false := by rfl) :
    PE X (.Call (.Name x p) (e :: es) [] pos) (tCall sp [] E t) := by
  obtain ⟨f, fd, F, hm, hk, hb⟩ := C.ex
  constructor
  intro pins s σ H Q I h
  refine wpAny_Call_Name_kw (ld_glob I hg hm (PySem.W.callWith_K (h₀ := X.base) I.ok.mod.kin hk (thn (ha.run pos pins s σ H _ I h) ?_) he hpl) hdb)
  rintro us s1 ⟨vs, H1, I1, r, q⟩
  rw [List.append_nil] at q
  have hl := F.len _ _ _ _ q
  refine ⟨I1.kIn, gn_call F hr (?_ : BindsTo s1 fd ⟨us, []⟩ (ps.zip us)) hx I1 r q⟩
  have hb' := hb s1 us I1.kIn (by rw [List.append_nil, ← r.length]; exact hl)
  rwa [List.append_nil] at hb'
theorem pe_cal0 (C : Cal X.prog X.w X.K X.mg X.base CX x k ps sp) (hr : Rm k X.A) (hg : Gl X x) (hx : Passes CX X E) (hdb : (x == ("__debug__" : Str)) = false := by decide) :
    PE X (.Call (.Name x p) [] [] pos) (tCall sp [] E tNil) := by
  obtain ⟨f, fd, F, hm, hk, hb⟩ := C.ex
  constructor
  intro pins s σ H Q I h
  have hl := F.len _ _ _ _ (show sp ([] ++ []) H Q E from h)
  refine wpAny_Call_Name_kw (ld_glob I hg hm (PySem.W.callWith_K0 I.kIn hk (gn_call (us := []) (allU := []) F hr (hb s [] I.kIn hl) hx I .nil h)) hdb)
theorem pe_calk (C : CalK X.prog X.w X.K X.mg X.base CX x k ps n ks gV sp) (hr : Rm k X.A) (hg : Gl X x) (hx : Passes CX X E) (ha : PA X (e :: es) t) (hkw : PK X kws tk)
    (hall : (backToKw pos (keywordEach kws X.env)).all (·.1.isSome) = true := by rfl) (hks : (backToKw pos (keywordEach kws X.env)).filterMap (·.1) = ks := by rfl)
    (hdb : (x == ("__debug__" : Str)) = false := by decide) (he : starEach (e :: es) X.env = (false, eval e X.env) :: starEach es X.env := by rfl)
    (hpl : ((backTo pos (starEach (e :: es) X.env)).any (·.1) || (backToKw pos (keywordEach kws X.env)).any (·.1.isNone)) = false := by rfl) :
    PE X (.Call (.Name x p) (e :: es) kws pos) (tCallN n ks.length sp gV E t tk) := by
  obtain ⟨f, fd, g, F, hm, hk, hb⟩ := C.ex
  constructor
  intro pins s σ H Q I h
  refine wpAny_Call_Name_kw (ld_glob I hg hm (PySem.W.callWith_KW (h₀ := X.base) I.ok.mod.kin hk hall (thn (ha.run pos pins s σ H _ I h) ?_) hpl he) hdb)
  rintro us s1 ⟨vs, H1, I1, r, q⟩
  refine thn (hkw.run pos pins s1 σ H1 _ I1 q) ?_
  rintro ws s2 ⟨zs, H2, I2, rz, l1, l2, q2⟩
  rw [hks]
  exact ⟨I2.kIn, gn_call F hr (hb.to s2 us ws I2.kIn (r.length.symm.trans l1) (rz.length.symm.trans l2)) hx I2 (hb.rel r rz) q2⟩
theorem pe_calk0 (C : CalK X.prog X.w X.K X.mg X.base CX x k ps n ks gV sp) (hr : Rm k X.A) (hg : Gl X x) (hx : Passes CX X E) (hkw : PK X kws tk)
    (hall : (backToKw pos (keywordEach kws X.env)).all (·.1.isSome) = true := by rfl) (hks : (backToKw pos (keywordEach kws X.env)).filterMap (·.1) = ks := by rfl)
    (hdb : (x == ("__debug__" : Str)) = false := by decide)
    (hpl : ((backTo pos (starEach [] X.env)).any (·.1) || (backToKw pos (keywordEach kws X.env)).any (·.1.isNone)) = false := by rfl) :
    PE X (.Call (.Name x p) [] kws pos) (tCallN n ks.length sp gV E tNil tk) := by
  obtain ⟨f, fd, g, F, hm, hk, hb⟩ := C.ex
  constructor
  intro pins s σ H Q I h
  refine wpAny_Call_Name_kw (ld_glob I hg hm (PySem.W.callWith_KW0 (h₀ := X.base) I.ok.mod.kin hk hall (thn (hkw.run pos pins s σ H _ I h) ?_) hpl) hdb)
  rintro ws s2 ⟨zs, H2, I2, rz, l1, l2, q2⟩
  rw [hks]
  exact ⟨I2.kIn, gn_call (us := []) F hr (hb.to s2 [] ws I2.kIn l1 (rz.length.symm.trans l2)) hx I2 (hb.rel .nil rz) q2⟩
end
section
variable {P : Program} {w : World} {K : PySem.W.Frag} {mg : Str → Option Value} {base h : Heap} {CX : CXT} {x qual : Str} {k n : Nat} {ps ks : List Str} {sp : Sp} {st : Stmt} {f : Addr} {oc : Value} {od an : Option Addr} {osl : Array (Option Value)} {kV doc pm cdv ct : Value}
theorem cal_mk (KX : K.In h) (G : h.Ns mainGlobals mg) (a : PySem.W.nsIn K mainGlobals x = some (some (.ref f)))
    (l : K.lookup f = some ⟨oc, od, .func (PySem.W.fnOf x qual (defArgs st) (defBody st) (defScope st) .none kV doc pm an cdv ct), osl⟩) (c : PySem.W.codeIn K cdv qual = true) (kp : PySem.W.keepIn K (.ref f) = true)
    (hb : ∀ (kV doc pm : Value) (an : Option Addr) (cdv ct : Value) (us : List Value), us.length = ps.length → bindArgs (PySem.W.fnOf x qual (defArgs st) (defBody st) (defScope st) .none kV doc pm an cdv ct) ⟨us, []⟩ = pure (ps.zip us))
    (ok : ∀ {f : Addr} {fd : FuncData}, Fun K x qual st f fd → GnOk P w K mg base CX k f fd ps sp) : Cal P w K mg base CX x k ps sp :=
  have F := fun_mk (st := st) l c kp
  ⟨f, _, ok F, PySem.W.mg_of KX G a, kp, F.binds hb⟩
theorem calk_mk {g : List Value → List Value → List Value} {gV : List V → List V → List V} (KX : K.In h) (G : h.Ns mainGlobals mg) (a : PySem.W.nsIn K mainGlobals x = some (some (.ref f)))
    (l : K.lookup f = some ⟨oc, od, .func (PySem.W.fnOf x qual (defArgs st) (defBody st) (defScope st) .none kV doc pm an cdv ct), osl⟩) (c : PySem.W.codeIn K cdv qual = true) (kp : PySem.W.keepIn K (.ref f) = true)
    (hb : ∀ (kV doc pm : Value) (an : Option Addr) (cdv ct : Value) (us ws : List Value), us.length = n → ws.length = ks.length → bindArgs (PySem.W.fnOf x qual (defArgs st) (defBody st) (defScope st) .none kV doc pm an cdv ct) ⟨us, ks.zip ws⟩ = pure (ps.zip (g us ws)))
    (hrel : ∀ {vs : List V} {us : List Value} {zs : List V} {ws : List Value}, Vals vs us → Vals zs ws → Vals (gV vs zs) (g us ws))
    (ok : ∀ {f : Addr} {fd : FuncData}, Fun K x qual st f fd → GnOk P w K mg base CX k f fd ps sp) : CalK P w K mg base CX x k ps n ks gV sp :=
  have F := fun_mk (st := st) l c kp
  ⟨f, _, g, ok F, PySem.W.mg_of KX G a, kp, ⟨fun s us ws _ l1 l2 => BindsTo.of_eq (hb _ _ _ _ _ _ us ws l1 l2), hrel⟩⟩
end

/-! ### methods and makings by bundles -/
/-- a method of the class at C: n values behind the instance, the keywords ks -/
structure Mth (P : Program) (w : World) (K : PySem.W.Frag) (mg : Str → Option Value) (base : Heap) (CX : CXT) (C : Addr) (m : Str) (k : Nat) (ps : List Str) (sp : Sp) : Prop where
  ex : ∃ (f : Addr) (fd : FuncData), GnOk P w K mg base CX k f fd ps sp ∧ Meth K C m f ∧ Binds K fd ps []
structure MthK (P : Program) (w : World) (K : PySem.W.Frag) (mg : Str → Option Value) (base : Heap) (CX : CXT) (C : Addr) (m : Str) (k : Nat) (ps : List Str) (n : Nat) (ks : List Str) (gV : List V → List V → List V) (sp : Sp) : Prop where
  ex : ∃ (f : Addr) (fd : FuncData) (g : List Value → List Value → List Value), GnOk P w K mg base CX k f fd ps sp ∧ Meth K C m f ∧ KBn K fd ps (n + 1) ks g gV
/-- the class's __init__ -/
structure Mkr (P : Program) (w : World) (K : PySem.W.Frag) (mg : Str → Option Value) (base : Heap) (CX : CXT) (C : Addr) (k : Nat) (ps : List Str) (sp : Sp) : Prop where
  ex : ∃ (f : Addr) (fd : FuncData), GnOk P w K mg base CX k f fd ps sp ∧ Mk K C f ∧ Binds K fd ps []
structure MkrK (P : Program) (w : World) (K : PySem.W.Frag) (mg : Str → Option Value) (base : Heap) (CX : CXT) (C : Addr) (k : Nat) (ps : List Str) (n : Nat) (ks : List Str) (gV : List V → List V → List V) (sp : Sp) : Prop where
  ex : ∃ (f : Addr) (fd : FuncData) (g : List Value → List Value → List Value), GnOk P w K mg base CX k f fd ps sp ∧ Mk K C f ∧ KBn K fd ps (n + 1) ks g gV
/-- o.m(.., k = v, ..) -/
def tMthN (C : Addr) (m : Str) (n j : Nat) (sp : Sp) (gV : List V → List V → List V) (E : XK) (ta : TE) (t tk : TA) : TE := fun σ H Q => ta σ H fun x H1 => ∃ a dx fs, x = .ref a ∧ H1 a = some (.ins C dx fs) ∧ fs.lookup m = none ∧
  t σ H1 fun vs H2 => tk σ H2 fun zs H3 => vs.length = n ∧ zs.length = j ∧ sp (gV (x :: vs) zs) H3 Q E
/-- C(.., k = v, ..) -/
def tMkN (C : Addr) (n j : Nat) (sp : Sp) (gV : List V → List V → List V) (E : XK) (t tk : TA) : TE := fun σ H Q => t σ H fun vs H1 => tk σ H1 fun zs H2 => vs.length = n ∧ zs.length = j ∧ ∀ x dx, H2 x = none → H2 dx = none → dx ≠ x →
  sp (gV (.ref x :: vs) zs) (upd (upd H2 dx (.own x)) x (.ins C dx [])) (fun v H3 => v = .non ∧ Q (.ref x) H3) E
section
variable {X : Cx} {CX : CXT} {k n : Nat} {C : Addr} {m x : Str} {ps ks : List Str} {sp : Sp} {E : XK} {p pos apos : Pos} {o e : Expr} {es : List Expr} {kws : List Keyword} {ta : TE} {t tk : TA} {gV : List V → List V → List V} {pl : Sem Bool}
theorem pe_mth (M : Mth X.prog X.w X.K X.mg X.base CX C m k ps sp) (c : Cls X.K C) (hr : Rm k X.A) (hx : Passes CX X E) (ho : PE X o ta) (ha : PA X (e :: es) t)
    (hst : starEach (e :: es) X.env = (false, eval e X.env) :: starEach es X.env := by rfl) (hpl : (backTo pos (starEach es X.env)).any (·.1) = false := by rfl)
    (he : eval (.Call (.Attribute o m apos) (e :: es) [] pos) X.env = (do let ov ← eval o X.env; standAt apos.atName; let (f, first) ← holding [ov] (getMethod ov m pl); callWith pos f first (backTo pos (starEach (e :: es) X.env)) (backToKw pos (keywordEach [] X.env))) := by rfl) :
    PE X (.Call (.Attribute o m apos) (e :: es) [] pos) (tMeth C m sp [] E ta t) := by
  obtain ⟨f, fd, F, hm, hb⟩ := M.ex
  constructor
  intro pins s σ H Q I h
  refine PySem.W.methodCall_KW (pl := pl) (thn (ho.run pins s σ H _ I h) ?_) he
  rintro u s1 ⟨y, H1, I1, ry, a, dx, fs, rfl, ea, lk, q⟩
  obtain rfl : u = Value.ref a := ry
  refine getmeth_ok I1 ea c hm lk (PySem.W.callWith_K (first := [.ref a]) (h₀ := X.base) I.ok.mod.kin hm.kp (thn (ha.run pos pins s1 σ H1 _ I1 q) ?_) hst hpl)
  rintro us s2 ⟨vs, H2, I2, r, q2⟩
  rw [List.append_nil] at q2
  have r2 : Vals (V.ref a :: vs) (Value.ref a :: us) := .cons (show L2.RelV (V.ref a) (Value.ref a) from rfl) r
  have hl := F.len _ _ _ _ q2
  have hb' := hb s2 (Value.ref a :: us) I2.kIn (by rw [List.append_nil, ← r2.length]; exact hl)
  rw [List.append_nil] at hb'
  exact ⟨I2.kIn, gn_call F hr hb' hx I2 r2 q2⟩
theorem pe_mth0 (M : Mth X.prog X.w X.K X.mg X.base CX C m k ps sp) (c : Cls X.K C) (hr : Rm k X.A) (hx : Passes CX X E) (ho : PE X o ta)
    (he : eval (.Call (.Attribute o m apos) [] [] pos) X.env = (do let ov ← eval o X.env; standAt apos.atName; let (f, first) ← holding [ov] (getMethod ov m pl); callWith pos f first (backTo pos (starEach [] X.env)) (backToKw pos (keywordEach [] X.env))) := by rfl) :
    PE X (.Call (.Attribute o m apos) [] [] pos) (tMeth C m sp [] E ta tNil) := by
  obtain ⟨f, fd, F, hm, hb⟩ := M.ex
  constructor
  intro pins s σ H Q I h
  refine PySem.W.methodCall_KW (pl := pl) (thn (ho.run pins s σ H _ I h) ?_) he
  rintro u s1 ⟨y, H1, I1, ry, a, dx, fs, rfl, ea, lk, q⟩
  obtain rfl : u = Value.ref a := ry
  refine getmeth_ok I1 ea c hm lk ?_
  have q2 : sp [V.ref a] H1 Q E := q
  have r2 : Vals [V.ref a] [Value.ref a] := .cons (show L2.RelV (V.ref a) (Value.ref a) from rfl) .nil
  have hl := F.len _ _ _ _ q2
  have hb' := hb s1 [Value.ref a] I1.kIn (by rw [List.append_nil]; exact hl)
  rw [List.append_nil] at hb'
  exact PySem.W.callWith_K0 (first := [.ref a]) I1.kIn hm.kp (gn_call (us := [.ref a]) F hr hb' hx I1 r2 q2)
theorem pe_mthk (M : MthK X.prog X.w X.K X.mg X.base CX C m k ps n ks gV sp) (c : Cls X.K C) (hr : Rm k X.A) (hx : Passes CX X E) (ho : PE X o ta) (ha : PA X (e :: es) t) (hkw : PK X kws tk)
    (hall : (backToKw pos (keywordEach kws X.env)).all (·.1.isSome) = true := by rfl) (hks : (backToKw pos (keywordEach kws X.env)).filterMap (·.1) = ks := by rfl)
    (hst : starEach (e :: es) X.env = (false, eval e X.env) :: starEach es X.env := by rfl) (hpl : ((backTo pos (starEach (e :: es) X.env)).any (·.1) || (backToKw pos (keywordEach kws X.env)).any (·.1.isNone)) = false := by rfl)
    (he : eval (.Call (.Attribute o m apos) (e :: es) kws pos) X.env = (do let ov ← eval o X.env; standAt apos.atName; let (f, first) ← holding [ov] (getMethod ov m pl); callWith pos f first (backTo pos (starEach (e :: es) X.env)) (backToKw pos (keywordEach kws X.env))) := by rfl) :
    PE X (.Call (.Attribute o m apos) (e :: es) kws pos) (tMthN C m n ks.length sp gV E ta t tk) := by
  obtain ⟨f, fd, g, F, hm, hb⟩ := M.ex
  constructor
  intro pins s σ H Q I h
  refine PySem.W.methodCall_KW (pl := pl) (thn (ho.run pins s σ H _ I h) ?_) he
  rintro u s1 ⟨y, H1, I1, ry, a, dx, fs, rfl, ea, lk, q⟩
  obtain rfl : u = Value.ref a := ry
  refine getmeth_ok I1 ea c hm lk (PySem.W.callWith_KW (first := [.ref a]) (h₀ := X.base) I.ok.mod.kin hm.kp hall (thn (ha.run pos pins s1 σ H1 _ I1 q) ?_) hpl hst)
  rintro us s2 ⟨vs, H2, I2, r, q2⟩
  refine thn (hkw.run pos pins s2 σ H2 _ I2 q2) ?_
  rintro ws s3 ⟨zs, H3, I3, rz, l1, l2, q3⟩
  rw [hks]
  have r2 : Vals (V.ref a :: vs) (Value.ref a :: us) := .cons (show L2.RelV (V.ref a) (Value.ref a) from rfl) r
  exact ⟨I3.kIn, gn_call F hr (hb.to s3 (Value.ref a :: us) ws I3.kIn (by rw [← r2.length, List.length_cons, l1]) (rz.length.symm.trans l2)) hx I3 (hb.rel r2 rz) q3⟩
theorem pe_mthk0 (M : MthK X.prog X.w X.K X.mg X.base CX C m k ps n ks gV sp) (c : Cls X.K C) (hr : Rm k X.A) (hx : Passes CX X E) (ho : PE X o ta) (hkw : PK X kws tk)
    (hall : (backToKw pos (keywordEach kws X.env)).all (·.1.isSome) = true := by rfl) (hks : (backToKw pos (keywordEach kws X.env)).filterMap (·.1) = ks := by rfl)
    (hpl : ((backTo pos (starEach [] X.env)).any (·.1) || (backToKw pos (keywordEach kws X.env)).any (·.1.isNone)) = false := by rfl)
    (he : eval (.Call (.Attribute o m apos) [] kws pos) X.env = (do let ov ← eval o X.env; standAt apos.atName; let (f, first) ← holding [ov] (getMethod ov m pl); callWith pos f first (backTo pos (starEach [] X.env)) (backToKw pos (keywordEach kws X.env))) := by rfl) :
    PE X (.Call (.Attribute o m apos) [] kws pos) (tMthN C m n ks.length sp gV E ta tNil tk) := by
  obtain ⟨f, fd, g, F, hm, hb⟩ := M.ex
  constructor
  intro pins s σ H Q I h
  refine PySem.W.methodCall_KW (pl := pl) (thn (ho.run pins s σ H _ I h) ?_) he
  rintro u s1 ⟨y, H1, I1, ry, a, dx, fs, rfl, ea, lk, q⟩
  obtain rfl : u = Value.ref a := ry
  refine getmeth_ok I1 ea c hm lk (PySem.W.callWith_KW0 (first := [.ref a]) (h₀ := X.base) I.ok.mod.kin hm.kp hall (thn (hkw.run pos pins s1 σ H1 _ I1 q) ?_) hpl)
  rintro ws s3 ⟨zs, H3, I3, rz, l1, l2, q3⟩
  rw [hks]
  have r2 : Vals [V.ref a] [Value.ref a] := .cons (show L2.RelV (V.ref a) (Value.ref a) from rfl) .nil
  exact ⟨I3.kIn, gn_call (us := [.ref a]) F hr (hb.to s3 [Value.ref a] ws I3.kIn (by show 0 + 1 = n + 1; rw [← l1]; rfl) (rz.length.symm.trans l2)) hx I3 (hb.rel r2 rz) q3⟩
theorem pe_mk (M : Mkr X.prog X.w X.K X.mg X.base CX C k ps sp) (hr : Rm (k + 1) X.A) (hg : Gl X x) (hm : X.mg x = some (.ref C)) (hx : Passes CX X E) (ha : PA X (e :: es) t) (hdb : (x == ("__debug__" : Str)) = false := by decide)
    (he : starEach (e :: es) X.env = (false, eval e X.env) :: starEach es X.env := by rfl) (hpl : (backTo pos (starEach es X.env)).any (·.1) = false := by rfl) : PE X (.Call (.Name x p) (e :: es) [] pos) (tMake C sp [] E t) := by
  obtain ⟨f, fd, F, M, hb⟩ := M.ex
  constructor
  intro pins s σ H Q I h
  refine wpAny_Call_Name_kw (ld_glob I hg hm (PySem.W.callWith_K (h₀ := X.base) I.ok.mod.kin M.kp (thn (ha.run pos pins s σ H _ I h) ?_) he hpl) hdb)
  rintro us s1 ⟨vs, H1, I1, r, q⟩
  rw [List.append_nil] at q
  have hl := F.len _ _ _ _ (q (s1.heap.objs.size + 1) s1.heap.objs.size (I1.hok.fresh (Nat.le_succ _)) (I1.hok.fresh (Nat.le_refl _)) (Nat.ne_of_lt (Nat.lt_succ_self _)))
  refine ⟨I1.kIn, gn_make (allU := fun y => .ref y :: us) (allV := fun y => .ref y :: vs) M F hr (fun s' y hK => ?_) hx I1 (fun y => .cons (show L2.RelV (V.ref y) (Value.ref y) from rfl) r) q⟩
  have hb' := hb s' (Value.ref y :: us) hK (by rw [List.append_nil, List.length_cons, ← r.length]; exact hl)
  rwa [List.append_nil] at hb'
theorem pe_mkk (M : MkrK X.prog X.w X.K X.mg X.base CX C k ps n ks gV sp) (hr : Rm (k + 1) X.A) (hg : Gl X x) (hm : X.mg x = some (.ref C)) (hx : Passes CX X E) (ha : PA X (e :: es) t) (hkw : PK X kws tk)
    (hall : (backToKw pos (keywordEach kws X.env)).all (·.1.isSome) = true := by rfl) (hks : (backToKw pos (keywordEach kws X.env)).filterMap (·.1) = ks := by rfl)
    (hdb : (x == ("__debug__" : Str)) = false := by decide) (he : starEach (e :: es) X.env = (false, eval e X.env) :: starEach es X.env := by rfl)
    (hpl : ((backTo pos (starEach (e :: es) X.env)).any (·.1) || (backToKw pos (keywordEach kws X.env)).any (·.1.isNone)) = false := by rfl) :
    PE X (.Call (.Name x p) (e :: es) kws pos) (tMkN C n ks.length sp gV E t tk) := by
  obtain ⟨f, fd, g, F, M, hb⟩ := M.ex
  constructor
  intro pins s σ H Q I h
  refine wpAny_Call_Name_kw (ld_glob I hg hm (PySem.W.callWith_KW (h₀ := X.base) I.ok.mod.kin M.kp hall (thn (ha.run pos pins s σ H _ I h) ?_) hpl he) hdb)
  rintro us s1 ⟨vs, H1, I1, r, q⟩
  refine thn (hkw.run pos pins s1 σ H1 _ I1 q) ?_
  rintro ws s2 ⟨zs, H2, I2, rz, l1, l2, q2⟩
  rw [hks]
  have r2 : ∀ y, Vals (V.ref y :: vs) (Value.ref y :: us) := fun y => .cons (show L2.RelV (V.ref y) (Value.ref y) from rfl) r
  exact ⟨I2.kIn, gn_make (allU := fun y => g (.ref y :: us) ws) (allV := fun y => gV (.ref y :: vs) zs) M F hr (fun s' y hK => hb.to s' (.ref y :: us) ws hK (by rw [← (r2 y).length, List.length_cons, l1]) (rz.length.symm.trans l2)) hx I2 (fun y => hb.rel (r2 y) rz) q2⟩
theorem pe_mkk0 (M : MkrK X.prog X.w X.K X.mg X.base CX C k ps n ks gV sp) (hr : Rm (k + 1) X.A) (hg : Gl X x) (hm : X.mg x = some (.ref C)) (hx : Passes CX X E) (hkw : PK X kws tk)
    (hall : (backToKw pos (keywordEach kws X.env)).all (·.1.isSome) = true := by rfl) (hks : (backToKw pos (keywordEach kws X.env)).filterMap (·.1) = ks := by rfl) (hdb : (x == ("__debug__" : Str)) = false := by decide)
    (hpl : ((backTo pos (starEach [] X.env)).any (·.1) || (backToKw pos (keywordEach kws X.env)).any (·.1.isNone)) = false := by rfl) :
    PE X (.Call (.Name x p) [] kws pos) (tMkN C n ks.length sp gV E tNil tk) := by
  obtain ⟨f, fd, g, F, M, hb⟩ := M.ex
  constructor
  intro pins s σ H Q I h
  refine wpAny_Call_Name_kw (ld_glob I hg hm (PySem.W.callWith_KW0 (h₀ := X.base) I.ok.mod.kin M.kp hall (thn (hkw.run pos pins s σ H _ I h) ?_) hpl) hdb)
  rintro ws s2 ⟨zs, H2, I2, rz, l1, l2, q2⟩
  rw [hks]
  have r2 : ∀ y, Vals [V.ref y] [Value.ref y] := fun y => .cons (show L2.RelV (V.ref y) (Value.ref y) from rfl) .nil
  exact ⟨I2.kIn, gn_make (us := []) (allU := fun y => g [.ref y] ws) (allV := fun y => gV [.ref y] zs) M F hr (fun s' y hK => hb.to s' [.ref y] ws hK (by show 0 + 1 = n + 1; rw [← l1]; rfl) (rz.length.symm.trans l2)) hx I2 (fun y => hb.rel (r2 y) rz) q2⟩
theorem pe_mk0 (M : Mkr X.prog X.w X.K X.mg X.base CX C k ps sp) (hr : Rm (k + 1) X.A) (hg : Gl X x) (hm : X.mg x = some (.ref C)) (hx : Passes CX X E) (hdb : (x == ("__debug__" : Str)) = false := by decide) : PE X (.Call (.Name x p) [] [] pos) (tMake C sp [] E tNil) := by
  obtain ⟨f, fd, F, M, hb⟩ := M.ex
  constructor
  intro pins s σ H Q I h
  have hl := F.len _ _ _ _ (h (s.heap.objs.size + 1) s.heap.objs.size (I.hok.fresh (Nat.le_succ _)) (I.hok.fresh (Nat.le_refl _)) (Nat.ne_of_lt (Nat.lt_succ_self _)))
  refine wpAny_Call_Name_kw (ld_glob I hg hm (PySem.W.callWith_K0 I.kIn M.kp (gn_make (us := []) (allU := fun y => [.ref y]) (allV := fun y => [.ref y]) M F hr (fun s' y hK => ?_) hx I (fun y => .cons (show L2.RelV (V.ref y) (Value.ref y) from rfl) .nil) h)) hdb)
  have hb' := hb s' [Value.ref y] hK hl
  rwa [List.append_nil] at hb'
end

/-! ### the law's own call -/
theorem gn_law {P : Program} {w : World} {K : PySem.W.Frag} {mg mb : Str → Option Value} {CX : CXT} {k : Nat} {fa a : Addr} {fd : FuncData} {x : Str} {sp : Sp} {t : Shared} {vs : List Value} {ns : List Int}
    (inK : K.In t.heap) (gl : t.heap.Ns mainGlobals mg) (bl : t.heap.Ns builtinsNs mb) (bb : ∀ y : Str, y ≠ "__name__" → mb y = bootBuiltins y) (nolim : t.heap.NoLimit) (gens : t.gens = #[])
    (ha : t.heap.get? a = some { cls := .type "list", data := .seq vs.toArray }) (hin : IntsAre vs ns) (small : ns.length ≤ sizeLine) (hr : Room k callerA)
    (F : ∀ base : Heap, K.In base → base.Ns mainGlobals mg → GnOk P w K mg base CX k fa fd [x] sp) (bd : ∀ (s : Shared) (u : Value), BindsTo s fd ⟨[u], []⟩ [(x, u)])
    (hsp : ∀ H : Hp, SqL K H a (ns.map V.int) → sp [.ref a] H (fun v _ => v = .bl true) fun _ _ _ => False) (hx : ∀ H e s', CX [] H t (fun _ _ _ => False) e s' → False) :
    codeAny (model P w) callerA (.call (.ref fa) ⟨[.ref a], []⟩) (fun r s' => r = .ok (.ret (.bool true)) ∧ OldK t.heap s'.heap ∧ s'.os = t.os ∧ AllBare s'.gens) t := by
  have rel := vals_ints hin
  have same := hin.length
  -- the abstract heap: the script alone, where the top doesn't know it
  obtain ⟨H, hS, ok, only, apart⟩ : ∃ H : Hp, SqL K H a (ns.map V.int) ∧ HOk P w H t.heap ∧ (∀ b u, H b = some u → b = a ∧ ∃ o, u = .frz o (.lst (ns.map V.int))) ∧ (∀ u, H a = some u → K.lookup a = none) := by
    cases q : K.lookup a with
    | some o =>
      have e := inK a o q
      rw [ha] at e
      cases e
      exact ⟨fun _ => none, .inr ⟨_, vs.toArray, _, q, rfl, rfl, rfl, by rw [List.size_toArray, same]; exact small, by simpa using rel⟩, (fun b u z => by cases (show (none : Option HO) = some u from z)), (fun b u z => by cases (show (none : Option HO) = some u from z)), fun u z => by cases (show (none : Option HO) = some u from z)⟩
    | none =>
      refine ⟨upd (fun _ => none) a (.frz { cls := .type "list", data := .seq vs.toArray } (.lst (ns.map V.int))), .inl (.inr ⟨_, upd_same⟩), fun b u z => ?_, fun b u z => ?_, fun _ _ => rfl⟩
      · by_cases hb : b = a
        · subst hb
          rw [upd_same] at z
          cases z
          exact ⟨ha, by rw [List.length_map]; exact small, vs, _, rel, ha⟩
        · rw [upd_ne hb] at z
          cases z
      · by_cases hb : b = a
        · subst hb
          rw [upd_same] at z
          cases z
          exact ⟨rfl, _, rfl⟩
        · rw [upd_ne hb] at z
          cases z
  have dictNo : ∀ {b : Addr} {o : Obj} {es : Array DictEntry} {ep : Nat}, t.heap.get? b = some o → o.data = .dict es ep → H b = none := by
    intro b o es ep e d
    cases z : H b with
    | none => rfl
    | some u =>
      obtain ⟨rfl, _⟩ := only b u z
      rw [ha] at e
      cases e
      exact nomatch (show Data.seq vs.toArray _ = Data.dict es ep from d)
  have nsH : ∀ {b : Addr} {m : Str → Option Value}, t.heap.Ns b m → (hidT t.heap H).Ns b m := by
    rintro b m ⟨o, es, ep, e, d, r⟩
    exact ⟨o, es, ep, hidT_get e (dictNo e d), d, r⟩
  have inH : K.In (hidT t.heap H) := by
    intro b o e
    refine hidT_get (inK b o e) ?_
    cases z : H b with
    | none => rfl
    | some u =>
      obtain ⟨rfl, _⟩ := only b u z
      rw [apart u z] at e
      cases e
  obtain ⟨mc, c1, c2⟩ := nolim
  have md : Mod K mg (hidT t.heap H) := ⟨inH, nsH gl, ⟨mb, nsH bl, bb⟩, ⟨mc, nsH c1, c2⟩⟩
  have e0 : Env0 P w K mg (hidT t.heap H) callerA [] t H := ⟨rfl, md, fun b o e => of_hidT e, Nat.le_of_eq (hidT_size _ _), trivial, fun b hb => (List.not_mem_nil (show b ∈ ([] : List Addr) from hb)).elim, ok, .of_eq gens⟩
  refine codeAny_mono ((F _ inH (nsH gl)).run callerA [] t H ⟨[.ref a], []⟩ [.ref a] [.ref a] _ _ ⟨hr, rfl⟩ e0 (bd t (.ref a)) (.cons rfl .nil) (hsp H hS)) ?_
  rintro (e | fl) s' h
  · exact (hx H e s' h).elim
  · cases fl with
    | next | brk | cont => exact h.elim
    | ret u =>
      obtain ⟨v, H1, os, bare, un, ok1, r1, q⟩ := h
      obtain rfl : v = .bl true := q
      obtain rfl : u = Value.bool true := r1
      refine ⟨rfl, OldK.of_keep fun b o e => ?_, os, bare⟩
      cases z : H b with
      | none => exact un.keep b o e z (List.not_mem_nil (a := b)) (List.not_mem_nil (a := b))
      | some u =>
        obtain ⟨rfl, ob, rfl⟩ := only b u z
        have e1 := (ok b _ z).1
        have e2 := (ok1 b _ (un.frzs b ob _ z)).1
        rw [e] at e1
        cases e1
        exact e2
theorem gn_walk {l : PySem.W.OpenLaw} {n k : Nat} {q : Program} {loose : List Str} {XP : (Str → Option Value) → Heap → Prop} {YP : World → Heap → Prop} {d : DefRec} {K : Params → PySem.W.Frag} {CX : World → CXT} {sp : PySem.W.Frag → Sp} {x : Str}
    (hn : l.most = some n) (hn2 : n ≤ sizeLine) (hdf : d.params.defaults = []) (hr : Room k callerA) (hY : ∀ (w : World) (h : Heap), YP w h → (K w.params).In h)
    (F : ∀ (w : World) (mg : Str → Option Value) (fa : Addr) (h : Heap), (K w.params).In h → h.Ns mainGlobals mg → mg d.name = some (.ref fa) →
      ∃ fd : FuncData, (∀ (s : Shared) (u : Value), BindsTo s fd ⟨[u], []⟩ [(x, u)]) ∧ ∀ base : Heap, (K w.params).In base → base.Ns mainGlobals mg → GnOk l.prog w (K w.params) mg base (CX w) k fa fd [x] (sp (K w.params)))
    (hsp : ∀ (w : World) (H : Hp) (a : Addr) (ns : List Int), ns.length ≤ n → SqL (K w.params) H a (ns.map V.int) → sp (K w.params) [.ref a] H (fun v _ => v = .bl true) fun _ _ _ => False)
    (hx : ∀ (w : World) (H : Hp) (s : Shared) (e : Value) (s' : Shared), CX w [] H s (fun _ _ _ => False) e s' → False) : PySem.W.WalkO q loose XP YP l.row.toRowW d [] (fun f vs => PySem.call f vs) := by
  refine Att.attach_call hn hdf ?_
  intro w s₀ t mg mb fa o pm cd doc a vs ns G Y _ _ _ hmg hobj hints hlen hg
  obtain ⟨fd, hb, hF⟩ := F w mg fa _ (hY w _ Y) G.T.g hmg
  exact gn_law (hY w _ Y) G.T.g G.T.b G.T.builtins G.T.nolimit hg hobj hints (Nat.le_trans hlen hn2) hr hF hb (fun H hS => hsp w H a ns hlen hS) fun H e s' => hx w H t e s'
end Cl

/-! ### Cl0: words used by all laws: built-ins, calls of own defs by one bundle, heaps that grow, drawing from a pot -/
namespace Cl
open PySem L2

/-- the built-ins that the top leaves as they are -/
structure Bt (mg : Str → Option Value) : Prop where
  len : mg "len" = none
  max : mg "max" = none
  min : mg "min" = none
  abs : mg "abs" = none
  divmod : mg "divmod" = none
  range : mg "range" = none
  ord : mg "ord" = none
  isinstance : mg "isinstance" = none
  int : mg "int" = none
  str : mg "str" = none
  bool : mg "bool" = none
  list : mg "list" = none
  tuple : mg "tuple" = none
  dict : mg "dict" = none
  set : mg "set" = none
  all : mg "all" = none
  any : mg "any" = none
  sorted : mg "sorted" = none
  enumerate : mg "enumerate" = none
  zip : mg "zip" = none
  repr : mg "repr" = none
  sum : mg "sum" = none

theorem vget {xs : List V} {us : List Value} (h : Vals xs us) (i : Nat) : RelV (xs.getD i V.non) (us.getD i Value.none) := by
  rw [List.getD_eq_getElem?_getD, List.getD_eq_getElem?_getD]
  cases e : xs[i]? with
  | some x =>
    obtain ⟨u, h1, h2⟩ := h.get e
    rw [h1]
    exact h2
  | none =>
    rw [h.none_of e]
    exact (rfl : Value.none = Value.none)
/-! ### the attributes of an instance, written out -/
theorem lk0 {f : Str} {v : V} {r : List (Str × V)} : ((f, v) :: r).lookup f = some v := by
  rw [List.lookup_cons, beq_self_eq_true]
theorem lkS {f g : Str} {u : V} {r : List (Str × V)} {o : Option V} (h : decide (g = f) = false) (k : r.lookup g = o) : ((f, u) :: r).lookup g = o := by
  rw [List.lookup_cons, show (g == f) = false from h]
  exact k
theorem lk_no {m : Str} : ∀ {r : List (Str × V)}, (r.map (·.1)).all (fun f => !decide (m = f)) = true → r.lookup m = none
  | [], _ => rfl
  | (f, v) :: r, h => by
    rw [List.map_cons, List.all_cons, Bool.and_eq_true, Bool.not_eq_true'] at h
    exact lkS h.1 (lk_no h.2)
theorem put0 {f : Str} {u v : V} {r : List (Str × V)} : putF f v ((f, u) :: r) = (f, v) :: r := by
  show (if f = f then _ else _) = _
  rw [if_pos rfl]
theorem putS {f g : Str} {u v : V} {r q : List (Str × V)} (h : decide (f = g) = false) (k : putF g v r = q) : putF g v ((f, u) :: r) = (f, u) :: q := by
  show (if f = g then _ else _) = _
  rw [if_neg (of_decide_eq_false h), k]
theorem fewS {f : Str} {v : V} {n : Nat} : ∀ {r : List (Str × V)}, r.length < n → (putF f v r).length < n + 1
  | [], h => Nat.succ_lt_succ h
  | (g, u) :: r, h => by
    show (if g = f then (g, v) :: r else (g, u) :: putF f v r).length < n + 1
    split
    · exact Nat.lt_succ_of_lt h
    · rw [List.length_cons] at h ⊢
      exact Nat.succ_lt_succ (by
        cases n with
        | zero => cases h
        | succ n => exact fewS (Nat.lt_of_succ_lt_succ h))
/-- an own class as the top has made it -/
structure CF (K : PySem.W.Frag) (mg : Str → Option Value) (x : Str) (C : Addr) (fs : List Str) : Prop where
  cl : Cls K C
  mgC : mg x = some (.ref C)
  no : ∀ f ∈ fs, NoAttr K C f
  ic : PySem.W.findIn K (.ref C) "__class__" = some (some (.builtin "object.__class__"))
  ig : PySem.W.specialIn K (.builtin "object.__class__") "__get__" = some (some (.builtin "getset_descriptor.__get__"))
  it : PySem.W.takesIn K (.builtin "object.__class__") = some true
  im : PySem.W.mroIn K C (.type "object") = some true
theorem CF.ty {K : PySem.W.Frag} {mg : Str → Option Value} {x : Str} {C a dx : Addr} {fs : List Str} {gs : List (Str × V)} {H : Hp} (T : CF K mg x C fs) (h : H a = some (.ins C dx gs)) : TyX K H (.ref a) (.ref C) := .base (.ins h T.cl T.ic T.ig T.it T.im)
theorem kit_self {K : PySem.W.Frag} (C : Addr) : PySem.W.kitOne K (.ref C) (.ref C) = some true := by
  unfold PySem.W.kitOne
  rw [if_pos (by simp)]
theorem all_cons {α : Type} {P : α → Prop} {a : α} {l : List α} (h : P a) (r : ∀ x ∈ l, P x) : ∀ x ∈ a :: l, P x := fun x hx => by
  rcases List.mem_cons.mp hx with rfl | hx
  · exact h
  · exact r x hx

/-- all but the object at p stays -/
def SameBut (p : Addr) (H H' : Hp) : Prop := ∀ b o, H b = some o → b ≠ p → H' b = some o
theorem SameBut.of {p : Addr} {H H' : Hp} (h : Same H H') : SameBut p H H' := fun b o e _ => h b o e
theorem Same.new {H : Hp} {p : Addr} {o : HO} (h : H p = none) : Same H (upd H p o) := fun b u e => by
  rw [upd_ne (ne_of_none e h)]; exact e
theorem SameBut.upd {p : Addr} {H H' : Hp} {o : HO} (h : SameBut p H H') : SameBut p H (L2.upd H' p o) := fun b u e n => by
  rw [upd_ne n]; exact h b u e n
theorem SameBut.refl (p : Addr) (H : Hp) : SameBut p H H := fun _ _ e _ => e
theorem SameBut.trans {p : Addr} {H H1 H2 : Hp} (a : SameBut p H H1) (b : SameBut p H1 H2) : SameBut p H H2 := fun c o e n => b c o (a c o e n) n
theorem SameBut.same {p : Addr} {H H1 H2 : Hp} (a : SameBut p H H1) (b : Same H1 H2) : SameBut p H H2 := fun c o e n => b c o (a c o e n)
theorem SameBut.at {p : Addr} {H H' : Hp} (a : SameBut p H H') {b : Addr} {o : HO} (e : H b = some o) (n : b ≠ p) : H' b = some o := a b o e n
theorem SameBut.free {p : Addr} {H H' : Hp} (a : SameBut p H H') {q : Addr} (h : H' q = none) (n : q ≠ p) : H q = none := by
  cases e : H q with
  | none => rfl
  | some o => rw [a q o e n] at h; cases h
/-- q is new behind H: what then changes it, changes nothing of H -/
theorem SameBut.newer {p q : Addr} {H H1 : Hp} {o : HO} (a : SameBut p H H1) (h : H q = none) : SameBut p H (L2.upd H1 q o) := fun c u e n => by
  rw [upd_ne (ne_of_none e h)]; exact a c u e n
theorem Same.newer {q : Addr} {H H1 : Hp} {o : HO} (a : Same H H1) (h : H q = none) : Same H (L2.upd H1 q o) := fun c u e => by
  rw [upd_ne (ne_of_none e h)]; exact a c u e

/-! ### a list, a tuple, read -/
theorem SameBut.seq {K : PySem.W.Frag} {p : Addr} {H H' : Hp} {a : Addr} {xs : List V} (e : SameBut p H H') (h : SqL K H a xs) (n : a ≠ p) : SqL K H' a xs := by
  rcases h with (h | ⟨o, h⟩) | h
  · exact .inl (.inl (e _ _ h n))
  · exact .inl (.inr ⟨o, e _ _ h n⟩)
  · exact .inr h
/-- p is newer than H -/
theorem Same.but {p : Addr} {H H1 H2 : Hp} (s : Same H H1) (b : SameBut p H1 H2) (n : H p = none) : Same H H2 := fun c o e => b c o (s c o e) (ne_of_none e n)

theorem iteF' {b : Bool} {A B : Prop} (e : b = false) (h : B) : if b = true then A else B := by
  rw [e]
  exact iteF h
theorem iteT' {b : Bool} {A B : Prop} (e : b = true) (h : A) : if b = true then A else B := by
  rw [e]
  exact iteT h
/-! ### rules over a written part that is named -/
section
variable {X : Cx}
theorem ix_listK (K : PySem.W.Frag)  (hK : X.K = K := by rfl) : IxR X (rIxL K) := by subst hK; exact ix_list
theorem ix_tupK (K : PySem.W.Frag)  (hK : X.K = K := by rfl) : IxR X (rIxT K) := by subst hK; exact ix_tup
theorem ix_seqK (K : PySem.W.Frag)  (hK : X.K = K := by rfl) : IxR X (rIx K) := by subst hK; exact ix_seq
theorem ix_kdictK (K : PySem.W.Frag) (w : World) (hw : X.w = w := by rfl) (hK : X.K = K := by rfl) : IxR X (rIxD K w) := by subst hK; subst hw; exact ix_kdict
theorem sl_listK (K : PySem.W.Frag)  (hK : X.K = K := by rfl) : SlR X (rSlL K) := by subst hK; exact sl_list
theorem sl_tupAK (K : PySem.W.Frag)  (hK : X.K = K := by rfl) : SlR X (rSlA K) := by subst hK; exact sl_tupA
theorem op_in_seqK (K : PySem.W.Frag)  (hK : X.K = K := by rfl) : OpR X (compareOp .In) (rIn K false) := by subst hK; exact op_in_seq
theorem op_notIn_seqK (K : PySem.W.Frag)  (hK : X.K = K := by rfl) : OpR X (compareOp .NotIn) (rIn K true) := by subst hK; exact op_notIn_seq
theorem op_eqDK (K : PySem.W.Frag) (hu : X.A.units + 64 < cLine) (hK : X.K = K := by rfl) : OpR X (compareOp .Eq) (rEqD K) := by subst hK; exact op_eqD hu
theorem op_neDK (K : PySem.W.Frag) (hu : X.A.units + 64 < cLine) (hK : X.K = K := by rfl) : OpR X (compareOp .NotEq) (rNeD K) := by subst hK; exact op_neD hu
theorem op_catTK (K : PySem.W.Frag)  (hK : X.K = K := by rfl) : OpR X (binaryOp .Add) (rCatT K) := by subst hK; exact op_catT
def rLen (K : PySem.W.Frag) : List V → Hp → VK → Prop := fun xs H Q => ∃ x n, xs = [x] ∧ LenV K x H n ∧ Q (.int n) H
theorem call_lenK (K : PySem.W.Frag)  (hK : X.K = K := by rfl) : CallR X (.builtin "len") (rLen K) := by subst hK; exact call_len
theorem call_isiK (K : PySem.W.Frag)  (hK : X.K = K := by rfl) : CallR X (.builtin "isinstance") (rIsi K) := by subst hK; exact call_isi
theorem call_isiTK (K : PySem.W.Frag)  (hK : X.K = K := by rfl) : CallR X (.builtin "isinstance") (rIsiT K) := by subst hK; exact call_isiT
def rListOf (K : PySem.W.Frag) : List V → Hp → VK → Prop := fun xs H Q => ∃ p ys, xs = [.ref p] ∧ (SqL K H p ys ∨ SqT K H p ys) ∧ ∀ l, H l = none → Q (.ref l) (upd H l (.lst ys))
theorem call_list_ofK (K : PySem.W.Frag)  (hK : X.K = K := by rfl) : CallR X (.type "list") (rListOf K) := by subst hK; exact call_list_of
def rTupleOf (K : PySem.W.Frag) : List V → Hp → VK → Prop := fun xs H Q => ∃ p ys, xs = [.ref p] ∧ ((SqL K H p ys ∧ ∀ l, H l = none → Q (.ref l) (upd H l (.tup ys))) ∨ (SqT K H p ys ∧ Q (.ref p) H))
theorem call_tuple_ofK (K : PySem.W.Frag)  (hK : X.K = K := by rfl) : CallR X (.type "tuple") (rTupleOf K) := by subst hK; exact call_tuple_of
theorem cr_allK (K : PySem.W.Frag) (hc : X.calm = true) (hK : X.K = K := by rfl) : CallR X (.builtin "all") (rAll K) := by subst hK; exact cr_all hc
theorem cr_anyK (K : PySem.W.Frag) (hc : X.calm = true) (hK : X.K = K := by rfl) : CallR X (.builtin "any") (rAny K) := by subst hK; exact cr_any hc
theorem cr_sumK (K : PySem.W.Frag) (hc : X.calm = true) (hK : X.K = K := by rfl) : CallR X (.builtin "sum") (rSum K) := by subst hK; exact cr_sum hc
theorem cr_maxK (K : PySem.W.Frag) (hc : X.calm = true) (hK : X.K = K := by rfl) : CallR X (.builtin "max") (rMax K) := by subst hK; exact cr_max hc
theorem cr_minK (K : PySem.W.Frag) (hc : X.calm = true) (hK : X.K = K := by rfl) : CallR X (.builtin "min") (rMin K) := by subst hK; exact cr_min hc
theorem cr_sortedSK (K : PySem.W.Frag)  (hK : X.K = K := by rfl) : CallR X (.builtin "sorted") (rSortedS K) := by subst hK; exact cr_sortedS
theorem cr_sortedIK (K : PySem.W.Frag)  (hK : X.K = K := by rfl) : CallR X (.builtin "sorted") (rSortedI K) := by subst hK; exact cr_sortedI
theorem mt_indexK (K : PySem.W.Frag)  (hK : X.K = K := by rfl) : MtR X "list.index" (rIndex K) := by subst hK; exact mt_index
theorem pi_listK (K : PySem.W.Frag) {tg l : Expr} {tl : TE} (hl : PE X l tl) (hK : X.K = K := by rfl) : PI X tg l (iList K tl) := by subst hK; exact pi_list hl
theorem pi_tupK (K : PySem.W.Frag) {tg l : Expr} {tl : TE} (hl : PE X l tl) (hK : X.K = K := by rfl) : PI X tg l (iTup K tl) := by subst hK; exact pi_tup hl
variable {o e : Expr} {es : List Expr} {to : TE} {t : TA} {name : Str} {apos cpos : Pos} {T id : String} {r : V → List V → Hp → VK → Prop}
theorem pe_bmK (K : PySem.W.Frag) (pa : PlainAttrs T) (slot : Slot T name id) (hty : typeOf (.builtin id) = pure (.type "method_descriptor")) (hm : MtR X id r) (ho : PE X o to) (ha : PA X (e :: es) t)
    (hbase : attributeBase o name X.env (eval o X.env) = eval o X.env := by rfl)
    (hfew : ((backTo cpos (starEach (e :: es) X.env)).all (fun x => !x.1) && (backToKw cpos (keywordEach [] X.env)).all (fun x => x.1.isSome)
      && decide ((e :: es).length + ([] : List Keyword).length + (if ([] : List Keyword).isEmpty then 0 else 1) < 30)) = true := by rfl)
    (hline : (apos.endLine == cpos.line) = true := by rfl) (hs : starEach (e :: es) X.env = (false, eval e X.env) :: starEach es X.env := by rfl) (hplain : (backTo cpos (starEach es X.env)).any (·.1) = false := by rfl) (hK : X.K = K := by rfl) :
    PE X (.Call (.Attribute o name apos) (e :: es) [] cpos) (tBM K T r to t) := by subst hK; exact pe_bm pa slot hty hm ho ha hbase hfew hline hs hplain
theorem pe_bm0K (K : PySem.W.Frag) (pa : PlainAttrs T) (slot : Slot T name id) (hty : typeOf (.builtin id) = pure (.type "method_descriptor")) (hm : MtR X id r) (ho : PE X o to)
    (hbase : attributeBase o name X.env (eval o X.env) = eval o X.env := by rfl) (hline : (apos.endLine == cpos.line) = true := by rfl) (hK : X.K = K := by rfl) :
    PE X (.Call (.Attribute o name apos) [] [] cpos) (tBM0 K T r to) := by subst hK; exact pe_bm0 pa slot hty hm ho hbase hline
end
theorem rel_s (x : Str) (t : Tok) : RelV (.str x) (.str x t) := ⟨t, rfl⟩
theorem rel_i (x : Int) (t : Tok) : RelV (.int x) (.int x t) := ⟨t, rfl⟩
theorem rel_r (a : Addr) : RelV (.ref a) (.ref a) := rfl

/-! ### isinstance -/
theorem kSS {K : PySem.W.Frag} : PySem.W.kitOne K (.type "str") (.type "str") = some true := kit_ty (by decide +kernel)
/-! ### loops -/
theorem for_str {z : Str} {g : TG} {tb : TS} {D : Ends} {σ : St} {H : Hp} (Pv : Nat → St → Hp → Prop) (h0 : Pv 0 σ H)
    (hs : ∀ i c σ H, z.cps.toList[i]? = some c → Pv i σ H → g (.str ⟨#[c]⟩) σ H fun σ2 H2 => tb { D with nx := Pv (i + 1), ct := Pv (i + 1), bk := D.nx } σ2 H2) (hd : ∀ σ H, Pv z.cps.size σ H → D.nx σ H) :
    ∃ W : Nat → Nat → St → Hp → Prop, (∃ m, W 0 m σ H) ∧ ∀ i m σ H, W i m σ H →
      ((Its z).stop i H ∧ D.nx σ H) ∨ ((Its z).go i H ∧ ∃ N : St → Hp → Prop, (∀ σ' H', N σ' H' → ∃ m', m' < m ∧ W (i + 1) m' σ' H') ∧ ∀ x H', (Its z).yld i H x H' → g x σ H' fun σ2 H2 => tb { D with nx := N, ct := N, bk := D.nx } σ2 H2) := by
  refine ⟨fun i m σ H => m = z.cps.size - i ∧ i ≤ z.cps.size ∧ Pv i σ H, ⟨z.cps.size, by simp, Nat.zero_le _, h0⟩, ?_⟩
  rintro i m σ H ⟨rfl, hi, p⟩
  by_cases hlt : i < z.cps.size
  · refine .inr ⟨hlt, Pv (i + 1), fun σ' H' p' => ⟨z.cps.size - (i + 1), by omega, rfl, hlt, p'⟩, fun x H' y => ?_⟩
    obtain ⟨rfl, c, hc, rfl⟩ := y
    exact hs i c σ H' (by rw [Array.getElem?_toList]; exact hc) p
  · have : i = z.cps.size := by omega
    subst this
    exact .inl ⟨Nat.le_refl _, hd σ H p⟩

/-! ### drawing -/
def potA (c : Int) : Int := if c - 10 ^ 18 > 0 then c - 10 ^ 18 else 0
def potB (c : Int) : Int := ((if c < 0 then -c else c) % 2147483563 + 1) ^ 2 % 2147483549 + 17
def tkD (a b m : Int) : Int := if 0 < a then a % m else ((b * 48271 + 12347) % 2147483647) * ((b * 48271 + 12347) % 2147483647) % 2147483579 / 13 % m
def tkA (a b m : Int) : Int := if 0 < a then a / m else a
def tkB (a b m : Int) : Int := if 0 < a then b else (b * 48271 + 12347) % 2147483647
theorem tkD_nn {a b m : Int} (h : 0 < m) : 0 ≤ tkD a b m := by
  unfold tkD
  split <;> exact Int.emod_nonneg _ (by omega)
theorem tkD_lt {a b m : Int} (h : 0 < m) : tkD a b m < m := by
  unfold tkD
  split <;> exact Int.emod_lt_of_pos _ h
def PotOk (b : Int) : Prop := 0 ≤ b ∧ b < 4294967296
theorem tkB_ok {a b m : Int} (h : PotOk b) : PotOk (tkB a b m) := by
  unfold tkB PotOk at *
  split <;> omega
theorem potB_ok (c : Int) : PotOk (potB c) := by
  unfold potB PotOk
  omega
/-- a pot stands at p -/
def Pot (H : Hp) (p : Addr) (a b : Int) : Prop := H p = some (.lst [.int a, .int b]) ∧ PotOk b
def sp_l_pot : Sp := fun vs H Q _ => ∃ c : Int, vs = [.int c] ∧ ∀ p H', Same H H' → H p = none → Pot H' p (potA c) (potB c) → Q (.ref p) H'
def sp_l_take : Sp := fun vs H Q _ => ∃ (p : Addr) (a b m : Int), vs = [.ref p, .int m] ∧ Pot H p a b ∧ 0 < m ∧ m.natAbs.log2 < 9000 ∧
  ∀ H', SameBut p H H' → Pot H' p (tkA a b m) (tkB a b m) → Q (.int (tkD a b m)) H'
theorem atI_mem {α : Type} {xs : List α} {i : Int} (h0 : 0 ≤ i) (h1 : i < (xs.length : Int)) : ∃ v, atI xs i = some v ∧ v ∈ xs := by
  obtain ⟨j, rfl⟩ : ∃ j : Nat, i = (j : Int) := ⟨i.toNat, by omega⟩
  have hj : j < xs.length := by omega
  exact ⟨xs[j], atI_nat (by simp [hj]), List.getElem_mem hj⟩
theorem sz_of {n : Nat} (h : n ≤ 100000) : n ≤ sizeLine := Nat.le_trans h (by decide)
theorem sz_lt {n : Nat} (h : n < 100000) : n < sizeLine := Nat.lt_of_lt_of_le h (by decide)
theorem sum_ones {ys : List Str} (h : ∀ y ∈ ys, y.length = 1) : (ys.map (·.length)).sum = ys.length := by
  induction ys with
  | nil => rfl
  | cons y r ih =>
    rw [List.map_cons, List.sum_cons, ih fun z hz => h z (List.mem_cons_of_mem _ hz), h y List.mem_cons_self, List.length_cons]
    omega
theorem len_append (a b : Str) : (a ++ b).length = a.length + b.length := by
  show (a.cps ++ b.cps).size = _
  rw [Array.size_append]
  rfl
theorem len_toList (a : Str) : a.cps.toList.length = a.length := by
  rw [Array.length_toList]
  rfl
theorem Pot.ne {H : Hp} {p q : Addr} {a b : Int} (h : Pot H p a b) (n : H q = none) : q ≠ p := fun e => by
  subst e
  rw [h.1] at n
  cases n
theorem Pot.new {H : Hp} {p q : Addr} {a b : Int} {o : HO} (h : Pot H p a b) (n : H q = none) : Pot (L2.upd H q o) p a b := ⟨by rw [upd_ne (Ne.symm (h.ne n))]; exact h.1, h.2⟩
theorem Pot.other {H : Hp} {p q : Addr} {a b : Int} {o : HO} (h : Pot H p a b) (n : q ≠ p) : Pot (L2.upd H q o) p a b := ⟨by rw [upd_ne (Ne.symm n)]; exact h.1, h.2⟩
theorem SameBut.new {p q : Addr} {H H' : Hp} {o : HO} (h : SameBut p H H') (n : H' q = none) : SameBut p H (L2.upd H' q o) := h.same (Same.new n)
/-- a draw below m, small -/
theorem draw3 {m : Int} (h0 : 0 < m) (h : m < 2 ^ 60) : 0 < m ∧ m.natAbs.log2 < 9000 := ⟨h0, Nat.lt_of_lt_of_le (PySem.Flt.log2_lt_of (k := 60) (by decide) (by omega)) (by decide)⟩
/-- a cell of the script, or 0: some int -/
def sp_l_at (K : PySem.W.Frag) : Sp := fun vs H Q _ => ∃ (a : Addr) (ns : List Int) (i : Nat), vs = [.ref a, .int i] ∧ SqL K H a (ns.map V.int) ∧ ∀ c : Int, Q (.int c) H
/-- the law's own promise -/
def sp_law (K : PySem.W.Frag) : Sp := fun vs H Q _ => ∃ (a : Addr) (ns : List Int), vs = [.ref a] ∧ SqL K H a (ns.map V.int) ∧ ns.length ≤ 63 ∧ ∀ H', Q (.bl true) H'
/-- a draw, whatever comes -/
def sp_l_tk : Sp := fun vs H Q _ => ∃ (p : Addr) (a b m : Int), vs = [.ref p, .int m] ∧ Pot H p a b ∧ 0 < m ∧ m.natAbs.log2 < 9000 ∧
  ∀ (d a' b' : Int) (H' : Hp), SameBut p H H' → Pot H' p a' b' → 0 ≤ d → d < m → Q (.int d) H'
theorem take_any : ∀ vs H Q E, sp_l_tk vs H Q E → sp_l_take vs H Q E := by
  rintro vs H Q E ⟨p, a, b, m, rfl, hp, h0, h1, k⟩
  exact ⟨p, a, b, m, rfl, hp, h0, h1, fun H' s' p' => k _ _ _ H' s' p' (tkD_nn h0) (tkD_lt h0)⟩
theorem log2_small {m : Int} (h0 : 0 < m) (h : m < 2 ^ 60) : m.natAbs.log2 < 9000 :=
  Nat.lt_of_lt_of_le (PySem.Flt.log2_lt_of (k := 60) (by decide) (by omega)) (by decide)
end Cl

/-! ### ClHex: numbers in base sixteen, sums of texts -/
namespace Cl
open PySem L2
def hd (k : Nat) : Nat := if k < 10 then 48 + k else 87 + k
def hxR : Nat → Nat → List Nat → List Nat
  | 0, _, f => f
  | k + 1, r, f => if r = 0 then f else hxR k (r / 16) (hd (r % 16) :: f)
def hexL (n : Nat) : List Nat := hxR n (n / 16) [hd (n % 16)]
def sOf (l : List Nat) : Str := ⟨l.toArray⟩
def hexS (n : Nat) : Str := sOf (hexL n)
theorem hxR_fuel : ∀ (k r : Nat) (f : List Nat), r ≤ k → ∀ j, r ≤ j → hxR k r f = hxR j r f
  | 0, r, f, h, j, hj => by
    have : r = 0 := by omega
    subst this
    cases j with
    | zero => rfl
    | succ j => rfl
  | k + 1, r, f, h, j, hj => by
    cases j with
    | zero =>
      have : r = 0 := by omega
      subst this
      rfl
    | succ j =>
      show (if r = 0 then f else hxR k (r / 16) (hd (r % 16) :: f)) = if r = 0 then f else hxR j (r / 16) (hd (r % 16) :: f)
      split
      · rfl
      · exact hxR_fuel k (r / 16) _ (by omega) j (by omega)
theorem hxR_step {k r : Nat} (f : List Nat) (h : r ≤ k) (h0 : r ≠ 0) : hxR k r f = hxR k (r / 16) (hd (r % 16) :: f) := by
  cases k with
  | zero => omega
  | succ k =>
    show (if r = 0 then f else hxR k (r / 16) (hd (r % 16) :: f)) = _
    rw [if_neg h0]
    exact hxR_fuel _ _ _ (by omega) _ (by omega)
theorem hxR_zero (k : Nat) (f : List Nat) : hxR k 0 f = f := by
  cases k <;> rfl
def figs : Str := "0123456789abcdef"
theorem figs_at {k : Nat} (h : k < 16) : atI figs.cps.toList ((k : Nat) : Int) = some (hd k) := by
  have : ∀ k : Fin 16, atI figs.cps.toList ((k.val : Nat) : Int) = some (hd k.val) := by decide +kernel
  exact this ⟨k, h⟩
theorem figs_len : figs.length ≤ sizeLine := by decide +kernel
theorem sOf_app (a b : List Nat) : sOf a ++ sOf b = sOf (a ++ b) := by
  show (⟨a.toArray ++ b.toArray⟩ : Str) = ⟨(a ++ b).toArray⟩
  rw [List.append_toArray]
theorem sOf_len (l : List Nat) : (sOf l).length = l.length := by
  show l.toArray.size = _
  simp
theorem emod_nat (m k : Nat) : ((m : Int) % (k : Int)) = ((m % k : Nat) : Int) := by omega
theorem ediv_nat (m k : Nat) : ((m : Int) / (k : Int)) = ((m / k : Nat) : Int) := by omega
def sp_hex : Sp := fun vs H Q _ => ∃ n : Nat, vs = [.int n] ∧ n < 2 ^ 60 ∧ Q (.str (hexS n)) H
theorem hex_lt {i n j : Nat} (h : n < 2 ^ 60) (hj : j = n / 16 ^ i) (h0 : 0 < j) : i < 15 := by
  refine Nat.lt_of_not_le fun q => ?_
  have h1 : (16:Nat) ^ 15 ≤ 16 ^ i := Nat.pow_le_pow_right (by decide) q
  have h2 : (16:Nat) ^ 15 = 2 ^ 60 := by decide
  have h3 : n / 16 ^ i = 0 := Nat.div_eq_of_lt (by omega)
  omega
theorem hex_le {i n j : Nat} (hj : j = n / 16 ^ i) : j ≤ n := by
  rw [hj]
  exact Nat.div_le_self _ _
theorem str17 {l : List Nat} (h : l.length ≤ 100) : (sOf l).length ≤ sizeLine := by
  rw [sOf_len]
  exact Nat.le_trans h (by decide)

/-- the two numbers of a text's sum -/
def smA : List Nat → Nat → Nat
  | [], a => a
  | c :: r, a => smA r ((a + c) % 251)
def smB : List Nat → Nat → Nat → Nat
  | [], _, b => b
  | c :: r, a, b => smB r ((a + c) % 251) ((b + (a + c) % 251) % 241)
def smA' (l : List Nat) (n : Nat) : Nat := smA (l.take n) 0
def smB' (l : List Nat) (n : Nat) : Nat := smB (l.take n) 0 0
theorem smA_snoc : ∀ (l : List Nat) (c a : Nat), smA (l ++ [c]) a = (smA l a + c) % 251
  | [], _, _ => rfl
  | _ :: r, c, a => smA_snoc r c _
theorem smB_snoc : ∀ (l : List Nat) (c a b : Nat), smB (l ++ [c]) a b = (smB l a b + (smA l a + c) % 251) % 241
  | [], _, _, _ => rfl
  | _ :: r, c, a, b => smB_snoc r c _ _
theorem take_snoc {α : Type} {l : List α} {i : Nat} {c : α} (h : l[i]? = some c) : l.take (i + 1) = l.take i ++ [c] := by
  rw [List.take_add_one, h]
  rfl
theorem smA_lt : ∀ (l : List Nat) (a : Nat), a < 251 → smA l a < 251
  | [], _, h => h
  | _ :: r, _, _ => smA_lt r _ (Nat.mod_lt _ (by decide))
theorem smB_lt : ∀ (l : List Nat) (a b : Nat), b < 241 → smB l a b < 241
  | [], _, _, h => h
  | _ :: r, _, _, _ => smB_lt r _ _ (Nat.mod_lt _ (by decide))
def two (n : Nat) : Str := sOf [hd (n / 16), hd (n % 16)]
theorem two_zfill {n : Nat} (h : n < 256) : Txt.zfill (hexS n) 2 = two n := by
  have : ∀ n : Fin 256, Txt.zfill (hexS n.val) 2 = two n.val := by decide +kernel
  exact this ⟨n, h⟩
theorem two_cut {n : Nat} (h : n < 256) : cutS (hexS (256 + n)) (some 1) none = two n := by
  have : ∀ n : Fin 256, cutS (hexS (256 + n.val)) (some 1) none = two n.val := by decide +kernel
  exact this ⟨n, h⟩
theorem hex3 {n : Nat} (h : n < 256) : (hexS (256 + n)).length ≤ sizeLine := by
  have : ∀ n : Fin 256, (hexS (256 + n.val)).length = 3 := by decide +kernel
  exact Nat.le_trans (Nat.le_of_eq (this ⟨n, h⟩)) (by decide)
def sumS (z : Str) : Str := two (smA z.cps.toList 0) ++ two (smB z.cps.toList 0 0)
def sp_sum : Sp := fun vs H Q _ => ∃ z : Str, vs = [.str z] ∧ Q (.str (sumS z)) H
end Cl

/-! ### ClD: data made of tuples: how they stand, stay, are cut, compared and shown -/
namespace Cl
open PySem L2

/-- tuples, and what is read only, stay -/
structure TS (H H' : Hp) : Prop where
  tup : ∀ a xs, H a = some (.tup xs) → H' a = some (.tup xs)
  frz : ∀ a o u, H a = some (.frz o u) → H' a = some (.frz o u)
theorem TS.refl (H : Hp) : TS H H := ⟨fun _ _ h => h, fun _ _ _ h => h⟩
theorem TS.trans {H H1 H2 : Hp} (a : TS H H1) (b : TS H1 H2) : TS H H2 := ⟨fun x y h => b.tup x y (a.tup x y h), fun x y z h => b.frz x y z (a.frz x y z h)⟩
theorem TS.of {H H' : Hp} (s : Same H H') : TS H H' := ⟨fun a _ h => s a _ h, fun a _ _ h => s a _ h⟩
theorem TS.new {H : Hp} {p : Addr} {o : HO} (h : H p = none) : TS H (upd H p o) := TS.of (Same.new h)
theorem TS.lst {H : Hp} {p : Addr} {xs : List V} {o : HO} (h : H p = some (.lst xs)) : TS H (upd H p o) := by
  refine ⟨fun a ys e => ?_, fun a u v e => ?_⟩
  all_goals
    have n : a ≠ p := fun q => by
      subst q
      rw [h] at e
      cases e
    rw [upd_ne n]
    exact e
theorem TS.but {p : Addr} {H H' : Hp} {xs : List V} (s : SameBut p H H') (h : H p = some (.lst xs)) : TS H H' := by
  refine ⟨fun a ys e => ?_, fun a u v e => ?_⟩
  all_goals
    refine s a _ e fun q => ?_
    subst q
    rw [h] at e
    cases e
theorem TS.butI {p C dx : Addr} {H H' : Hp} {fs : List (Str × V)} (s : SameBut p H H') (h : H p = some (.ins C dx fs)) : TS H H' := by
  refine ⟨fun a ys e => ?_, fun a u v e => ?_⟩
  all_goals
    refine s a _ e fun q => ?_
    subst q
    rw [h] at e
    cases e
theorem SameBut.seqI {K : PySem.W.Frag} {p C dx a : Addr} {H H' : Hp} {fs : List (Str × V)} {xs : List V} (s : SameBut p H H') (h : H p = some (.ins C dx fs)) (q : SqL K H a xs) : SqL K H' a xs := by
  rcases q with (q | ⟨o, q⟩) | q
  · refine .inl (.inl (s _ _ q fun e => ?_))
    subst e
    rw [h] at q
    cases q
  · refine .inl (.inr ⟨o, s _ _ q fun e => ?_⟩)
    subst e
    rw [h] at q
    cases q
  · exact .inr q
theorem TS.dK {p : Addr} {H : Hp} {kvs : List (Key × V)} {o : HO} (h : H p = some (.dK kvs)) : TS H (upd H p o) := by
  refine ⟨fun a ys e => ?_, fun a u v e => ?_⟩
  all_goals
    have n : a ≠ p := fun q => by
      subst q
      rw [h] at e
      cases e
    rw [upd_ne n]
    exact e
theorem TS.pot {p : Addr} {H H' : Hp} {a b : Int} (s : SameBut p H H') (h : Pot H p a b) : TS H H' := TS.but s h.1
theorem TS.seq {K : PySem.W.Frag} {H H' : Hp} {a : Addr} {xs : List V} (e : TS H H') (h : SqT K H a xs) : SqT K H' a xs := by
  rcases h with (h | ⟨o, h⟩) | h
  · exact .inl (.inl (e.tup _ _ h))
  · exact .inl (.inr ⟨o, e.frz _ _ _ h⟩)
  · exact .inr h

mutual
/-- v stands for d in H; d has tuples alone within -/
inductive Dt (K : PySem.W.Frag) (H : Hp) : V → PyData → Prop
  | non : Dt K H .non .none
  | bl (b : Bool) : Dt K H (.bl b) (.bool b)
  | int (i : Int) : Dt K H (.int i) (.int i)
  | str (x : Str) : Dt K H (.str x) (.str x)
  | tup {a : Addr} {xs : List V} {ds : List PyData} : SqT K H a xs → DtAll K H xs ds → Dt K H (.ref a) (.tuple ds)
inductive DtAll (K : PySem.W.Frag) (H : Hp) : List V → List PyData → Prop
  | nil : DtAll K H [] []
  | cons {v : V} {vs : List V} {d : PyData} {ds : List PyData} : Dt K H v d → DtAll K H vs ds → DtAll K H (v :: vs) (d :: ds)
end
section
variable {K : PySem.W.Frag} {H H' : Hp}
mutual
theorem Dt.mono (e : TS H H') : ∀ (d : PyData) {v : V}, Dt K H v d → Dt K H' v d
  | .none, _, h => by cases h; exact .non
  | .bool b, _, h => by cases h; exact .bl b
  | .int i, _, h => by cases h; exact .int i
  | .str x, _, h => by cases h; exact .str x
  | .tuple ds, _, h => by
    cases h with
    | tup hs ha => exact .tup (e.seq hs) (DtAll.mono e ds ha)
  | .list _, _, h => by cases h
  | .dict _, _, h => by cases h
theorem DtAll.mono (e : TS H H') : ∀ (ds : List PyData) {vs : List V}, DtAll K H vs ds → DtAll K H' vs ds
  | [], _, h => by cases h; exact .nil
  | d :: ds, _, h => by
    cases h with
    | cons h1 h2 => exact .cons (Dt.mono e d h1) (DtAll.mono e ds h2)
end
mutual
theorem Dt.dp : ∀ (d : PyData) {v : V}, Dt K H v d → Dp K H v d
  | .none, _, h => by cases h; exact .non
  | .bool b, _, h => by cases h; exact .bl b
  | .int i, _, h => by cases h; exact .int i
  | .str x, _, h => by cases h; exact .str x
  | .tuple ds, _, h => by
    cases h with
    | tup hs ha => exact .tup hs (DtAll.dp ds ha)
  | .list _, _, h => by cases h
  | .dict _, _, h => by cases h
theorem DtAll.dp : ∀ (ds : List PyData) {vs : List V}, DtAll K H vs ds → DpAll K H vs ds
  | [], _, h => by cases h; exact .nil
  | d :: ds, _, h => by
    cases h with
    | cons h1 h2 => exact .cons (Dt.dp d h1) (DtAll.dp ds h2)
end
theorem Dt.m (e : TS H H') {d : PyData} {v : V} (h : Dt K H v d) : Dt K H' v d := Dt.mono e d h
theorem DtAll.m (e : TS H H') {ds : List PyData} {vs : List V} (h : DtAll K H vs ds) : DtAll K H' vs ds := DtAll.mono e ds h
theorem DtAll.length : ∀ {ds : List PyData} {vs : List V}, DtAll K H vs ds → vs.length = ds.length
  | [], _, h => by cases h; rfl
  | _ :: _, _, h => by
    cases h with
    | cons h1 h2 => rw [List.length_cons, List.length_cons, DtAll.length h2]
theorem DtAll.get : ∀ {ds : List PyData} {vs : List V} {i : Nat} {d : PyData}, DtAll K H vs ds → ds[i]? = some d → ∃ v, vs[i]? = some v ∧ Dt K H v d
  | [], _, _, _, _, e => by simp at e
  | _ :: _, _, 0, _, h, e => by
    cases h with
    | cons h1 h2 =>
      rw [List.getElem?_cons_zero] at e
      cases e
      exact ⟨_, rfl, h1⟩
  | _ :: _, _, i + 1, _, h, e => by
    cases h with
    | cons h1 h2 =>
      rw [List.getElem?_cons_succ] at e
      obtain ⟨v, q1, q2⟩ := DtAll.get h2 e
      exact ⟨v, by rw [List.getElem?_cons_succ]; exact q1, q2⟩
theorem DtAll.getV : ∀ {ds : List PyData} {vs : List V} {i : Nat} {v : V}, DtAll K H vs ds → vs[i]? = some v → ∃ d, ds[i]? = some d ∧ Dt K H v d
  | [], _, _, _, h, e => by cases h; simp at e
  | _ :: _, _, 0, _, h, e => by
    cases h with
    | cons h1 h2 =>
      rw [List.getElem?_cons_zero] at e
      cases e
      exact ⟨_, rfl, h1⟩
  | _ :: _, _, i + 1, _, h, e => by
    cases h with
    | cons h1 h2 =>
      rw [List.getElem?_cons_succ] at e
      obtain ⟨d, q1, q2⟩ := DtAll.getV h2 e
      exact ⟨d, by rw [List.getElem?_cons_succ]; exact q1, q2⟩
theorem DtAll.app : ∀ {ds es : List PyData} {vs us : List V}, DtAll K H vs ds → DtAll K H us es → DtAll K H (vs ++ us) (ds ++ es)
  | [], _, _, _, h, k => by cases h; exact k
  | _ :: _, _, _, _, h, k => by
    cases h with
    | cons h1 h2 => exact .cons h1 (DtAll.app h2 k)
theorem DtAll.take : ∀ {ds : List PyData} {vs : List V} (n : Nat), DtAll K H vs ds → DtAll K H (vs.take n) (ds.take n)
  | _, _, 0, _ => .nil
  | [], _, _ + 1, h => by cases h; exact .nil
  | _ :: _, _, n + 1, h => by
    cases h with
    | cons h1 h2 => exact .cons h1 (DtAll.take n h2)
theorem DtAll.drop : ∀ {ds : List PyData} {vs : List V} (n : Nat), DtAll K H vs ds → DtAll K H (vs.drop n) (ds.drop n)
  | _, _, 0, h => h
  | [], _, _ + 1, h => by cases h; exact .nil
  | _ :: _, _, n + 1, h => by
    cases h with
    | cons h1 h2 => exact DtAll.drop n h2
theorem DtAll.of : ∀ {ds : List PyData} {vs : List V}, vs.length = ds.length → (∀ (i : Nat) v d, vs[i]? = some v → ds[i]? = some d → Dt K H v d) → DtAll K H vs ds
  | [], [], _, _ => .nil
  | [], _ :: _, e, _ => by cases e
  | _ :: _, [], e, _ => by cases e
  | d :: ds, v :: vs, e, h => .cons (h 0 v d rfl rfl) (DtAll.of (by simpa using e) fun i w c h1 h2 => h (i + 1) w c (by simpa using h1) (by simpa using h2))
theorem DtAll.strs (ys : List Str) : DtAll K H (ys.map V.str) (ys.map PyData.str) := by
  induction ys with
  | nil => exact .nil
  | cons y r ih => exact .cons (.str y) ih
theorem DtAll.ints (ys : List Int) : DtAll K H (ys.map V.int) (ys.map PyData.int) := by
  induction ys with
  | nil => exact .nil
  | cons y r ih => exact .cons (.int y) ih
/-- a new tuple of such -/
theorem Dt.new {p : Addr} {xs : List V} {ds : List PyData} (h : DtAll K H xs ds) (hp : H p = none) : Dt K (upd H p (.tup xs)) (.ref p) (.tuple ds) := .tup (SqT.of upd_same) (h.m (TS.new hp))
theorem Dt.inv {v : V} {ds : List PyData} (h : Dt K H v (.tuple ds)) : ∃ a xs, v = .ref a ∧ SqT K H a xs ∧ DtAll K H xs ds := by
  cases h with
  | tup hs ha => exact ⟨_, _, rfl, hs, ha⟩
theorem Dt.two {v : V} {d1 d2 : PyData} (h : Dt K H v (.tuple [d1, d2])) : ∃ a v1 v2, v = .ref a ∧ SqT K H a [v1, v2] ∧ Dt K H v1 d1 ∧ Dt K H v2 d2 := by
  obtain ⟨a, xs, rfl, hs, ha⟩ := h.inv
  cases ha with
  | cons h1 ha => cases ha with
    | cons h2 ha => cases ha with
      | nil => exact ⟨_, _, _, rfl, hs, h1, h2⟩
theorem Dt.three {v : V} {d1 d2 d3 : PyData} (h : Dt K H v (.tuple [d1, d2, d3])) : ∃ a v1 v2 v3, v = .ref a ∧ SqT K H a [v1, v2, v3] ∧ Dt K H v1 d1 ∧ Dt K H v2 d2 ∧ Dt K H v3 d3 := by
  obtain ⟨a, xs, rfl, hs, ha⟩ := h.inv
  cases ha with
  | cons h1 ha => cases ha with
    | cons h2 ha => cases ha with
      | cons h3 ha => cases ha with
        | nil => exact ⟨_, _, _, _, rfl, hs, h1, h2, h3⟩
theorem Dt.strI {v : V} {x : Str} (h : Dt K H v (.str x)) : v = .str x := by cases h; rfl
theorem Dt.intI {v : V} {i : Int} (h : Dt K H v (.int i)) : v = .int i := by cases h; rfl
theorem Dt.nonI {v : V} (h : Dt K H v .none) : v = .non := by cases h; rfl

/-! ### slices -/
def cutG {α : Type} (xs : List α) (lo hi : Option Int) : List α := (xs.drop (HT.sIx xs.length 0 lo)).take (HT.sIx xs.length xs.length hi - HT.sIx xs.length 0 lo)
theorem cutG_V (xs : List V) (lo hi : Option Int) : cutG xs lo hi = cutV xs lo hi := rfl
theorem DtAll.cut {ds : List PyData} {vs : List V} (h : DtAll K H vs ds) (lo hi : Option Int) : DtAll K H (cutV vs lo hi) (cutG ds lo hi) := by
  unfold cutV cutG
  rw [h.length]
  exact (h.drop _).take _
theorem sl_dt {v : V} {ds : List PyData} {lo hi : Option Int} {Q : VK} (h : Dt K H v (.tuple ds)) (k : ∀ v' H', Same H H' → Dt K H' v' (.tuple (cutG ds lo hi)) → Q v' H') : rSlA K v lo hi H Q := by
  obtain ⟨a, xs, rfl, hs, ha⟩ := h.inv
  refine ⟨a, xs, rfl, hs, fun e => k _ H (Same.refl H) ?_, fun _ p hp => k _ _ (Same.new hp) (Dt.new (ha.cut lo hi) hp)⟩
  have : cutG ds lo hi = ds := by
    unfold cutG
    rw [← ha.length, e.1, e.2, ha.length]
    simp
  rw [this]
  exact h
theorem sIx_le {n k : Nat} (d : Nat) (h : k ≤ n) : HT.sIx n d (some (k : Int)) = k := by
  rw [HT.sIx_nat]
  omega
theorem sIx_big {n k : Nat} (d : Nat) (h : n ≤ k) : HT.sIx n d (some (k : Int)) = n := by
  rw [HT.sIx_nat]
  omega
theorem cutG_nat {α : Type} (xs : List α) (i j : Nat) : cutG xs (some (i : Int)) (some (j : Int)) = (xs.drop i).take (j - i) := by
  unfold cutG
  by_cases h1 : i ≤ xs.length
  · rw [sIx_le _ h1]
    by_cases h2 : j ≤ xs.length
    · rw [sIx_le _ h2]
    · rw [sIx_big _ (by omega), List.take_of_length_le (by simp), List.take_of_length_le (by simp; omega)]
  · rw [sIx_big _ (by omega : xs.length ≤ i), List.drop_of_length_le (by omega), List.drop_of_length_le (by omega)]
    simp
end

/-! ### ranges by fours, by sixes -/
theorem rgc4 {n : Nat} (hn : n < 1000000) : RgC 0 (n : Int) 4 ((n + 3) / 4) := by
  have e : Builtin.Range.rangeSize 0 (n : Int) 4 = (((n + 3) / 4 : Nat) : Int) := by
    unfold Builtin.Range.rangeSize
    rw [if_pos (by decide)]
    split <;> omega
  refine ⟨by decide, by decide, ?_, e⟩
  have fits : ∀ z : Int, -(2 ^ 62) ≤ z → z < 2 ^ 62 → Builtin.Range.rangeFitsLong z = true := fun z h1 h2 => by
    unfold Builtin.Range.rangeFitsLong
    rw [decide_eq_true (show -(2 ^ 63) ≤ z by omega), decide_eq_true (show z < 2 ^ 63 by omega)]
    rfl
  unfold Builtin.Range.small
  rw [e]
  repeat rw [fits _ (by omega) (by omega)]
  simp
theorem rgc6 {n : Nat} (hn : n < 1000000) : RgC 0 (n : Int) 6 ((n + 5) / 6) := by
  have e : Builtin.Range.rangeSize 0 (n : Int) 6 = (((n + 5) / 6 : Nat) : Int) := by
    unfold Builtin.Range.rangeSize
    rw [if_pos (by decide)]
    split <;> omega
  refine ⟨by decide, by decide, ?_, e⟩
  have fits : ∀ z : Int, -(2 ^ 62) ≤ z → z < 2 ^ 62 → Builtin.Range.rangeFitsLong z = true := fun z h1 h2 => by
    unfold Builtin.Range.rangeFitsLong
    rw [decide_eq_true (show -(2 ^ 63) ≤ z by omega), decide_eq_true (show z < 2 ^ 63 by omega)]
    rfl
  unfold Builtin.Range.small
  rw [e]
  repeat rw [fits _ (by omega) (by omega)]
  simp
/-! ### texts of signs -/
def chS (c : Nat) : Str := ⟨#[c]⟩
theorem join_ones0 : ∀ cs : List Nat, Str.join (Str.ofString "") (cs.map chS) = ⟨cs.toArray⟩
  | [] => by decide +kernel
  | [c] => rfl
  | c :: d :: r => by
    have ih := join_ones0 (d :: r)
    show chS c ++ Str.ofString "" ++ Str.join (Str.ofString "") (chS d :: r.map chS) = _
    rw [show Str.join (Str.ofString "") (chS d :: r.map chS) = ⟨(d :: r).toArray⟩ from ih]
    show (⟨(#[c] ++ (Str.ofString "").cps) ++ (d :: r).toArray⟩ : Str) = ⟨(c :: d :: r).toArray⟩
    rw [show (Str.ofString "").cps = #[] by decide +kernel]
    simp
theorem join_ones (cs : List Nat) : Txt.join (Str.ofString "") (cs.map chS) = ⟨cs.toArray⟩ := by
  rw [TL.join_eq]
  exact join_ones0 cs
/-! ### data compared -/
/-- what can be compared: depth at most k -/
structure Shp (k : Nat) (d : PyData) : Prop where
  lay : d.canLay0 = true
  dep : d.depth ≤ k
theorem Shp.mono {k k' : Nat} {d : PyData} (h : Shp k d) (hk : k ≤ k') : Shp k' d := ⟨h.lay, Nat.le_trans h.dep hk⟩
theorem Shp.none {k : Nat} : Shp k .none := ⟨by simp [PyData.canLay0], by simp [PyData.depth]⟩
theorem Shp.bool {k : Nat} (b : Bool) : Shp k (.bool b) := ⟨by simp [PyData.canLay0], by simp [PyData.depth]⟩
theorem Shp.int {k : Nat} (i : Int) : Shp k (.int i) := ⟨by simp [PyData.canLay0], by simp [PyData.depth]⟩
theorem Shp.str {k : Nat} {x : Str} (h : ∀ c ∈ x.cps.toList, c < 1114112) : Shp k (.str x) := by
  refine ⟨?_, by simp [PyData.depth]⟩
  simp only [PyData.canLay0]
  unfold PyData.strOk
  rw [Array.all_eq_true]
  intro i hi
  exact decide_eq_true (h _ (by simp))
theorem shpAll {k : Nat} : ∀ {ds : List PyData}, (∀ d ∈ ds, Shp k d) → PyData.canLayAll0 ds = true ∧ PyData.depthAll ds ≤ k
  | [], _ => ⟨by simp [PyData.canLayAll0], by simp [PyData.depthAll]⟩
  | d :: ds, h => by
    obtain ⟨a, b⟩ := shpAll (ds := ds) fun x hx => h x (List.mem_cons_of_mem _ hx)
    have hd := h d List.mem_cons_self
    exact ⟨by simp only [PyData.canLayAll0, hd.lay, a, Bool.and_self], by simp only [PyData.depthAll]; exact Nat.max_le.mpr ⟨hd.dep, b⟩⟩
theorem Shp.list {k : Nat} {ds : List PyData} (h : ∀ d ∈ ds, Shp k d) : Shp (k + 1) (.list ds) := by
  obtain ⟨a, b⟩ := shpAll h
  exact ⟨by simp only [PyData.canLay0]; exact a, by simp only [PyData.depth]; omega⟩
theorem Shp.tuple {k : Nat} {ds : List PyData} (h : ∀ d ∈ ds, Shp k d) : Shp (k + 1) (.tuple ds) := by
  obtain ⟨a, b⟩ := shpAll h
  exact ⟨by simp only [PyData.canLay0]; exact a, by simp only [PyData.depth]; omega⟩
theorem Shp.shaped {k : Nat} {d : PyData} (h : Shp k d) (hk : k ≤ 64) : SeqAt.shaped d = true := by
  unfold SeqAt.shaped
  rw [h.lay, decide_eq_true (Nat.le_trans h.dep hk)]
  rfl
theorem eq_same {K : PySem.W.Frag} {H : Hp} {x y : V} {d : PyData} {k : Nat} {Q : VK} (hx : Dp K H x d) (hy : Dp K H y d) (h : Shp k d) (q : Q (.bl true) H) (hk : k ≤ 64 := by decide) : rEqD K x y H Q := by
  refine ⟨d, d, hx, hy, h.shaped hk, h.shaped hk, ?_⟩
  rw [SeqAt.eqv_refl d h.lay]
  exact q
theorem ne_same {K : PySem.W.Frag} {H : Hp} {x y : V} {d : PyData} {k : Nat} {Q : VK} (hx : Dp K H x d) (hy : Dp K H y d) (h : Shp k d) (q : Q (.bl false) H) (hk : k ≤ 64 := by decide) : rNeD K x y H Q := by
  refine ⟨d, d, hx, hy, h.shaped hk, h.shaped hk, ?_⟩
  rw [SeqAt.eqv_refl d h.lay]
  exact q
theorem Dp.ofL {K : PySem.W.Frag} {H : Hp} {l : Addr} {xs : List V} {ds : List PyData} (h : H l = some (.lst xs)) (ha : DtAll K H xs ds) : Dp K H (.ref l) (.list ds) := .lst (SqL.of h) ha.dp
theorem Dp.ofLints {K : PySem.W.Frag} {H : Hp} {l : Addr} {ns : List Int} (h : H l = some (.lst (ns.map V.int))) : Dp K H (.ref l) (.list (ns.map PyData.int)) := Dp.ofL h (DtAll.ints ns)
theorem Shp.ints {k : Nat} (ns : List Int) : Shp (k + 1) (.list (ns.map PyData.int)) := Shp.list fun d hd => by
  obtain ⟨i, _, rfl⟩ := List.mem_map.mp hd
  exact Shp.int i
/-! ### repr -/
/-- what can be shown: depth at most k, at most n signs -/
structure Sz (k n : Nat) (d : PyData) : Prop where
  sh : d.showable = true
  dep : d.depth ≤ k
  len : d.shown.length ≤ n
theorem Sz.mono {k n k' n' : Nat} {d : PyData} (h : Sz k n d) (hk : k ≤ k') (hn : n ≤ n') : Sz k' n' d := ⟨h.sh, Nat.le_trans h.dep hk, Nat.le_trans h.len hn⟩
theorem Sz.none {k : Nat} : Sz k 4 .none := ⟨by simp [PyData.showable], by simp [PyData.depth], by decide +kernel⟩
theorem Sz.bool {k : Nat} (b : Bool) : Sz k 5 (.bool b) := ⟨by simp [PyData.showable], by simp [PyData.depth], by cases b <;> decide +kernel⟩
theorem ofString_len (s : String) : (Str.ofString s).length = s.length := by
  rw [Str.ofString_eq_toList]
  show (s.toList.map Char.toNat).toArray.size = _
  rw [List.size_toArray, List.length_map, String.length_toList]
theorem Sz.int {k m : Nat} {i : Int} (h0 : 0 < m) (h : i.natAbs < 2 ^ m) (hm : m < 1920) : Sz k (m + 1) (.int i) := by
  have hl := PySem.Flt.log2_lt_of h0 h
  refine ⟨by simp only [PyData.showable]; exact decide_eq_true (Nat.lt_trans hl hm), by simp [PyData.depth], ?_⟩
  simp only [PyData.shown]
  rw [ofString_len]
  exact PySem.int_text_length_le h0 hl
theorem Sz.str {k : Nat} {x : Str} (h : ∀ c ∈ x.cps.toList, c < 16 ^ 8) : Sz k (10 * x.length + 2) (.str x) :=
  ⟨by simp [PyData.showable], by simp [PyData.depth], by simp only [PyData.shown]; exact PySem.StrLaws.reprText_len x h⟩
theorem szAll {k n : Nat} : ∀ {ds : List PyData}, (∀ d ∈ ds, Sz k n d) → PyData.showableAll ds = true ∧ PyData.depthAll ds ≤ k ∧ PySem.piled (PyData.shownAll ds) ≤ (n + 2) * ds.length ∧ (PyData.shownAll ds).length = ds.length
  | [], _ => ⟨by simp [PyData.showableAll], by simp [PyData.depthAll], by simp [PyData.shownAll, PySem.piled], by simp [PyData.shownAll]⟩
  | d :: ds, h => by
    obtain ⟨a, b, c, e⟩ := szAll (ds := ds) fun x hx => h x (List.mem_cons_of_mem _ hx)
    have hd := h d List.mem_cons_self
    refine ⟨by simp only [PyData.showableAll, hd.sh, a, Bool.and_self], by simp only [PyData.depthAll]; exact Nat.max_le.mpr ⟨hd.dep, b⟩, ?_, by simp only [PyData.shownAll, List.length_cons, e]⟩
    simp only [PyData.shownAll]
    rw [PySem.piled_cons, List.length_cons, Nat.mul_succ]
    have := hd.len
    omega
theorem textFrom_le : ∀ (ts : List Str) (k : Nat) (acc : Str), (PySem.textFrom k acc ts).length ≤ acc.length + PySem.piled ts
  | [], _, acc => by
    show acc.length ≤ acc.length + _
    omega
  | t :: r, k, acc => by
    have h := textFrom_le r (k + 1) (acc ++ (if k > 0 then ", " else "" : String) ++ t)
    have e : (acc ++ (if k > 0 then ", " else "" : String) ++ t).length ≤ acc.length + 2 + t.length := by
      rw [len_append, len_append]
      have : ((if k > 0 then ", " else "" : String) : Str).length ≤ 2 := by split <;> decide +kernel
      omega
    show (PySem.textFrom (k + 1) _ r).length ≤ _
    rw [PySem.piled_cons]
    omega
theorem Sz.list {k n : Nat} {ds : List PyData} (h : ∀ d ∈ ds, Sz k n d) : Sz (k + 1) ((n + 2) * ds.length + 2) (.list ds) := by
  obtain ⟨a, b, c, e⟩ := szAll h
  refine ⟨by simp only [PyData.showable]; exact a, by simp only [PyData.depth]; omega, ?_⟩
  simp only [PyData.shown]
  unfold PySem.listText
  rw [len_append]
  have h1 := textFrom_le (PyData.shownAll ds) 0 "["
  have e1 : (("[" : String) : Str).length = 1 := by decide +kernel
  have e2 : (("]" : String) : Str).length = 1 := by decide +kernel
  omega
theorem Sz.tuple {k n : Nat} {ds : List PyData} (h : ∀ d ∈ ds, Sz k n d) : Sz (k + 1) ((n + 2) * ds.length + 3) (.tuple ds) := by
  obtain ⟨a, b, c, e⟩ := szAll h
  refine ⟨by simp only [PyData.showable]; exact a, by simp only [PyData.depth]; omega, ?_⟩
  simp only [PyData.shown]
  unfold PySem.tupleText
  rw [len_append, len_append]
  have e1 : (("(" : String) : Str).length = 1 := by decide +kernel
  have e2 : ((if (PyData.shownAll ds).length == 1 then ",)" else ")" : String) : Str).length ≤ 2 := by split <;> decide +kernel
  have h1 : (Str.join ", " (PyData.shownAll ds)).length ≤ PySem.piled (PyData.shownAll ds) := by
    cases hq : PyData.shownAll ds with
    | nil =>
      show 0 ≤ _
      omega
    | cons x r =>
      have := PySem.join_length_add (x :: r) (by simp)
      omega
  omega
section
variable {X : Cx}
def rRepr (K : PySem.W.Frag) : List V → Hp → VK → Prop := fun xs H Q => ∃ (a : Addr) (d : PyData), xs = [.ref a] ∧ Dp K H (.ref a) d ∧ Sz 60 sizeLine d ∧ Q (.str d.shown) H
theorem dp_noDict {K : PySem.W.Frag} {H : Hp} : ∀ (d : PyData) {v : V}, Dp K H v d → d.hasDict = false
  | .none, _, _ => by simp [PyData.hasDict]
  | .bool _, _, _ => by simp [PyData.hasDict]
  | .int _, _, _ => by simp [PyData.hasDict]
  | .str _, _, _ => by simp [PyData.hasDict]
  | .list ds, _, h => by
    cases h with
    | lst _ ha =>
      simp only [PyData.hasDict]
      exact go ds ha
  | .tuple ds, _, h => by
    cases h with
    | tup _ ha =>
      simp only [PyData.hasDict]
      exact go ds ha
  | .dict _, _, h => by cases h
where go : ∀ (ds : List PyData) {vs : List V}, DpAll K H vs ds → PyData.hasDictAll ds = false
  | [], _, _ => by simp [PyData.hasDictAll]
  | d :: ds, _, h => by
    cases h with
    | cons h1 h2 =>
      simp only [PyData.hasDictAll, dp_noDict d h1, go ds h2, Bool.or_self]
theorem call_repr {k : Nat} (hr : Rm k X.A) : CallR X (.builtin "repr") (rRepr X.K) := by
  intro pins s σ H xs us Q I r h
  obtain ⟨a, d, rfl, hd, sz, q⟩ := h
  obtain ⟨u, rfl, hu⟩ := vals1 r
  obtain ⟨as, hr1⟩ := Dp.reads I d _ u hd hu
  cases hu
  have hz := sz.dep
  have hun := hr.units
  exact PySem.repr_of_reads' (h₀ := s.heap) hr1 sz.sh (PyData.noDict_hsm (dp_noDict d hd)) hr.gd (by omega) (fun _ _ e => e)
    (fun h' u tk hk => ⟨.str d.shown, H, I.kept hk, ⟨_, rfl⟩, q⟩) sz.len
theorem call_reprK (K : PySem.W.Frag) {k : Nat} (hr : Rm k X.A) (hK : X.K = K := by rfl) : CallR X (.builtin "repr") (rRepr K) := by subst hK; exact call_repr hr
end
end Cl

/-! ### ClTab: tables of a disk, as an object -/
namespace Cl
open PySem L2
/-- v is an address: a tuple of two numbers -/
def AddrV (K : PySem.W.Frag) (H : Hp) (v : V) : Prop := ∃ i j : Int, Dt K H v (.tuple [.int i, .int j]) ∧ 0 ≤ i ∧ i < 10 ^ 12 ∧ 0 ≤ j ∧ j < 10 ^ 12
theorem AddrV.m {K : PySem.W.Frag} {H H' : Hp} {v : V} (t : TS H H') (h : AddrV K H v) : AddrV K H' v := by
  obtain ⟨i, j, h, r⟩ := h
  exact ⟨i, j, h.m t, r⟩
/-- a dict from numbers to addresses -/
structure Pl (K : PySem.W.Frag) (H : Hp) (kvs : List (Key × V)) : Prop where
  ks : ∃ ns : List Int, kvs.map (·.1) = ns.map Sum.inl ∧ ∀ n ∈ ns, 0 ≤ n ∧ n < 10 ^ 12
  nd : (kvs.map (·.1)).Nodup
  l0 : 0 < kvs.length
  l1 : kvs.length ≤ 24
  vs : ∀ p ∈ kvs, AddrV K H p.2
theorem Pl.m {K : PySem.W.Frag} {H H' : Hp} {kvs : List (Key × V)} (t : TS H H') (h : Pl K H kvs) : Pl K H' kvs := ⟨h.ks, h.nd, h.l0, h.l1, fun p hp => (h.vs p hp).m t⟩
def Ad (K : PySem.W.Frag) (H : Hp) (ws : List V) : Prop := ws.length ≤ 10 ∧ ∀ v ∈ ws, AddrV K H v
theorem Ad.m {K : PySem.W.Frag} {H H' : Hp} {ws : List V} (t : TS H H') (h : Ad K H ws) : Ad K H' ws := ⟨h.1, fun p hp => (h.2 p hp).m t⟩
/-- a list of addresses is data -/
theorem addr_data {K : PySem.W.Frag} {H : Hp} : ∀ {ws : List V}, (∀ v ∈ ws, AddrV K H v) → ∃ ds, DtAll K H ws ds ∧ (∀ d ∈ ds, Shp 1 d) ∧ (∀ d ∈ ds, Sz 1 89 d)
  | [], _ => ⟨[], .nil, (fun _ h => nomatch h), fun _ h => nomatch h⟩
  | v :: r, h => by
    obtain ⟨ds, a, b, c⟩ := addr_data (ws := r) fun x hx => h x (List.mem_cons_of_mem _ hx)
    obtain ⟨i, j, hd, i0, i1, j0, j1⟩ := h v List.mem_cons_self
    refine ⟨.tuple [.int i, .int j] :: ds, .cons hd a, fun d hd => ?_, fun d hd => ?_⟩
    · rcases List.mem_cons.mp hd with rfl | hd
      · refine Shp.tuple (k := 0) fun d hd => ?_
        rcases List.mem_cons.mp hd with rfl | hd
        · exact Shp.int _
        · rw [List.mem_singleton.mp hd]
          exact Shp.int _
      · exact b d hd
    · rcases List.mem_cons.mp hd with rfl | hd
      · refine (Sz.tuple (k := 0) (n := 41) (ds := [.int i, .int j]) fun d hd => ?_).mono (by decide) (by simp)
        rcases List.mem_cons.mp hd with rfl | hd
        · exact Sz.int (m := 40) (by decide) (by omega) (by decide)
        · rw [List.mem_singleton.mp hd]
          exact Sz.int (m := 40) (by decide) (by omega) (by decide)
      · exact c d hd
theorem valV_mem {kvs : List (Key × V)} {k : Key} {v : V} (h : valV kvs k = some v) : (k, v) ∈ kvs := by
  unfold valV at h
  cases e : kvs.find? (fun kv => decide (kv.1 = k)) with
  | none => rw [e] at h; cases h
  | some p =>
    rw [e] at h
    cases h
    have h1 : p.1 = k := of_decide_eq_true (List.find?_some (p := fun kv : Key × V => decide (kv.1 = k)) e)
    have h2 := List.mem_of_find?_eq_some e
    rw [← h1]
    exact h2
theorem valV_of_key {kvs : List (Key × V)} {k : Key} (h : k ∈ kvs.map (·.1)) : ∃ v, valV kvs k = some v := by
  obtain ⟨p, hp, rfl⟩ := List.mem_map.mp h
  have : (valV kvs p.1).isSome = true := by
    rw [← valV_any]
    exact List.any_eq_true.mpr ⟨p, hp, decide_eq_true rfl⟩
  exact Option.isSome_iff_exists.mp this
def tabF (d l : Addr) (nb dd lg : Int) : List (Str × V) := [("spots_by_number", V.ref d), ("number_behind", V.int nb), ("deeds_done", V.int dd), ("last_group", V.int lg), ("checkpoint_spots", V.ref l)]
theorem tab_1 (d l : Addr) (nb dd lg : Int) : (tabF d l nb dd lg).lookup ("spots_by_number" : Str) = some (.ref d) := lk0
theorem tab_2 (d l : Addr) (nb dd lg : Int) : (tabF d l nb dd lg).lookup ("number_behind" : Str) = some (.int nb) := lkS (by decide +kernel) lk0
theorem tab_3 (d l : Addr) (nb dd lg : Int) : (tabF d l nb dd lg).lookup ("deeds_done" : Str) = some (.int dd) := lkS (by decide +kernel) (lkS (by decide +kernel) lk0)
theorem tab_4 (d l : Addr) (nb dd lg : Int) : (tabF d l nb dd lg).lookup ("last_group" : Str) = some (.int lg) := lkS (by decide +kernel) (lkS (by decide +kernel) (lkS (by decide +kernel) lk0))
theorem tab_5 (d l : Addr) (nb dd lg : Int) : (tabF d l nb dd lg).lookup ("checkpoint_spots" : Str) = some (.ref l) := lkS (by decide +kernel) (lkS (by decide +kernel) (lkS (by decide +kernel) (lkS (by decide +kernel) lk0)))
theorem tab_no (d l : Addr) (nb dd lg : Int) {m : Str} (h : ([("spots_by_number" : Str), "number_behind", "deeds_done", "last_group", "checkpoint_spots"] : List Str).all (fun f => !decide (m = f)) = true) : (tabF d l nb dd lg).lookup m = none := lk_no h
/-- tables stand at x -/
structure Tab (C : Addr) (H : Hp) (x d l : Addr) (kvs : List (Key × V)) (nb dd lg : Int) (ws : List V) : Prop where
  ob : ∃ dx, H x = some (.ins C dx (tabF d l nb dd lg))
  dc : H d = some (.dK kvs)
  ls : H l = some (.lst ws)
theorem Tab.m {C : Addr} {H H' : Hp} {x d l : Addr} {kvs : List (Key × V)} {nb dd lg : Int} {ws : List V} (t : Same H H') (h : Tab C H x d l kvs nb dd lg ws) : Tab C H' x d l kvs nb dd lg ws := by
  obtain ⟨⟨dx, e⟩, h1, h2⟩ := h
  exact ⟨⟨dx, t _ _ e⟩, t _ _ h1, t _ _ h2⟩
end Cl

/-! ### ClStar: targets with a star -/
namespace Cl
open PySem PySem.Spec PySem.Calls PySem.W PyProof.Rows L2
section
variable {prog : Program} {w : World} {A : Around} {E : Value → Shared → Prop} {s : Shared}
/-- what a target with a star takes of a list -/
theorem star_list {l : Addr} {items : Array Value} {n i : Nat} {Q : List Value → Shared → Prop} (hl : s.heap.IsList l items) (hh : A.handled = none) (hi : i < n) (hn : n ≤ items.size + 1) (hz : items.size ≤ 16384)
    (h : ∀ (h' : Heap) (tk : Nat), (∀ b o, s.heap.get? b = some o → h'.get? b = some o) → Q (items.toList.take i ++ [.ref h'.objs.size] ++ (items.toList.drop i).drop (items.size + 1 - n))
      { s with heap := h'.push { cls := .type "list", data := .seq ((items.toList.drop i).take (items.size + 1 - n)).toArray }, toks := tk }) : wpAny (model prog w) A (unpackItems (.ref l) n (some i)) Q E s := by
  have hlt : l ≠ s.heap.objs.size := by obtain ⟨o, ho, _⟩ := hl; exact Nat.ne_of_lt (Heap.lt_size ho)
  have hll : l < s.heap.objs.size := by obtain ⟨o, ho, _⟩ := hl; exact Heap.lt_size ho
  unfold unpackItems
  refine wpAny_bind ?_
  unfold notIterableAtAll
  refine wpAny_bind (wpAny_specialOf hl.typeIs slot_list_iter.lookup ?_)
  refine wpAny_pure ?_
  simp only [Bool.false_eq_true, if_false]
  refine wpAny_bind (wpAny_holding (wpAny_pyIter_list hl ?_))
  refine wpAny_bind (wpAny_holding (kun_draw hlt i 0 _ _ ⟨_, Heap.get?_push_size _ rfl, rfl, rfl⟩ (hl.push _) (by omega) fun h₁ hit₁ hs₁ => ?_))
  have hl₁ : h₁.IsList l items := (hl.push _).extBut hs₁.extBut hlt
  rw [Nat.zero_add] at hit₁
  have hit₁' := hit₁
  obtain ⟨oi, hoi, _⟩ := hit₁'
  have hl₁' := hl₁
  obtain ⟨ol, hol, _⟩ := hl₁'
  rw [List.drop_zero]
  have hfl : (items.toList.take i).length = i := by rw [List.length_take, Array.length_toList]; omega
  rw [if_neg (show ¬ ((items.toList.take i).length < i) by rw [hfl]; omega)]
  refine wpAny_bind (wpAny_holding (kun_collect (s := { s with heap := h₁ }) (T := "list_iterator") (.inr (.inr (.inl rfl))) (Walks.list (A := A.in1) hh s.heap.objs.size l hlt items) (fun j u st => st.1.typeIs) (k := i) (by omega) ⟨hit₁, hl₁⟩ (Heap.lt_size hoi) (Heap.lt_size hol) (fun h₂ tk hk => ?_) (by rw [sizeLine_eq]; omega)))
  have hrl : (items.toList.drop i).length = items.size - i := by rw [List.length_drop, Array.length_toList]
  have hmid : (items.toList.drop i).length - (n - 1 - i) = items.size + 1 - n := by rw [hrl]; omega
  show wpAny _ _ (if (items.toList.drop i).length < n - 1 - i then _ else _) _ _ _
  rw [if_neg (by rw [hrl]; omega)]
  show wpAny _ _ (newList ((items.toList.drop i).take ((items.toList.drop i).length - (n - 1 - i))) >>= fun d => pure (items.toList.take i ++ [d] ++ (items.toList.drop i).drop ((items.toList.drop i).length - (n - 1 - i)))) _ _ _
  rw [hmid]
  have he : ∀ b o, s.heap.get? b = some o → h₂.get? b = some o := fun b o e => hk b o (Nat.ne_of_lt (Heap.lt_size e)) (hs₁.extBut b o (Nat.ne_of_lt (Heap.lt_size e)) (Heap.get?_push_of_some _ e))
  exact wpAny_bind (wpAny_newList (s := { s with heap := h₂, toks := tk }) (wpAny_pure (h h₂ tk he)) (by rw [List.length_take, hrl, sizeLine_eq]; omega))
theorem star_tuple {l : Addr} {items : Array Value} {n i : Nat} {Q : List Value → Shared → Prop} (hl : IsTup s.heap l items) (hh : A.handled = none) (hi : i < n) (hn : n ≤ items.size + 1) (hz : items.size ≤ 16384)
    (h : ∀ (h' : Heap) (tk : Nat), (∀ b o, s.heap.get? b = some o → h'.get? b = some o) → Q (items.toList.take i ++ [.ref h'.objs.size] ++ (items.toList.drop i).drop (items.size + 1 - n))
      { s with heap := h'.push { cls := .type "list", data := .seq ((items.toList.drop i).take (items.size + 1 - n)).toArray }, toks := tk }) : wpAny (model prog w) A (unpackItems (.ref l) n (some i)) Q E s := by
  have hlt : l ≠ s.heap.objs.size := by obtain ⟨o, ho, _⟩ := hl; exact Nat.ne_of_lt (Heap.lt_size ho)
  have hll : l < s.heap.objs.size := by obtain ⟨o, ho, _⟩ := hl; exact Heap.lt_size ho
  unfold unpackItems
  refine wpAny_bind ?_
  unfold notIterableAtAll
  refine wpAny_bind (wpAny_specialOf hl.typeIs slot_tuple_iter.lookup ?_)
  refine wpAny_pure ?_
  simp only [Bool.false_eq_true, if_false]
  refine wpAny_bind (wpAny_holding (iter_tuple hl ?_))
  refine wpAny_bind (wpAny_holding (draw_tuple hlt i 0 _ _ ⟨_, Heap.get?_push_size _ rfl, rfl, rfl⟩ (hl.push _) (by omega) fun h₁ hit₁ hs₁ => ?_))
  have hl₁ : IsTup h₁ l items := (hl.push _).extBut hs₁.extBut hlt
  rw [Nat.zero_add] at hit₁
  have hit₁' := hit₁
  obtain ⟨oi, hoi, _⟩ := hit₁'
  have hl₁' := hl₁
  obtain ⟨ol, hol, _⟩ := hl₁'
  rw [List.drop_zero]
  have hfl : (items.toList.take i).length = i := by rw [List.length_take, Array.length_toList]; omega
  rw [if_neg (show ¬ ((items.toList.take i).length < i) by rw [hfl]; omega)]
  refine wpAny_bind (wpAny_holding (kun_collect (s := { s with heap := h₁ }) (T := "tuple_iterator") (.inr (.inr (.inr rfl))) (Walks.tuple (A := A.in1) hh s.heap.objs.size l hlt items) (fun j u st => st.1.typeIs) (k := i) (by omega) ⟨hit₁, hl₁⟩ (Heap.lt_size hoi) (Heap.lt_size hol) (fun h₂ tk hk => ?_) (by rw [sizeLine_eq]; omega)))
  have hrl : (items.toList.drop i).length = items.size - i := by rw [List.length_drop, Array.length_toList]
  have hmid : (items.toList.drop i).length - (n - 1 - i) = items.size + 1 - n := by rw [hrl]; omega
  show wpAny _ _ (if (items.toList.drop i).length < n - 1 - i then _ else _) _ _ _
  rw [if_neg (by rw [hrl]; omega)]
  show wpAny _ _ (newList ((items.toList.drop i).take ((items.toList.drop i).length - (n - 1 - i))) >>= fun d => pure (items.toList.take i ++ [d] ++ (items.toList.drop i).drop ((items.toList.drop i).length - (n - 1 - i)))) _ _ _
  rw [hmid]
  have he : ∀ b o, s.heap.get? b = some o → h₂.get? b = some o := fun b o e => hk b o (Nat.ne_of_lt (Heap.lt_size e)) (hs₁.extBut b o (Nat.ne_of_lt (Heap.lt_size e)) (Heap.get?_push_of_some _ e))
  exact wpAny_bind (wpAny_newList (s := { s with heap := h₂, toks := tk }) (wpAny_pure (h h₂ tk he)) (by rw [List.length_take, hrl, sizeLine_eq]; omega))
end
section
variable {X : Cx} {pos : Pos}
theorem objOk_get {P : Program} {w : World} {H : Hp} {h : Heap} {a : Addr} {o : HO} (x : ObjOk P w H h a o) : ∃ u, h.get? a = some u := by
  cases o with
  | lst xs => obtain ⟨_, _, _, _, e⟩ := x; exact ⟨_, e⟩
  | tup xs => obtain ⟨_, _, _, _, e, _⟩ := x; exact ⟨_, e⟩
  | dK kvs => obtain ⟨_, _, _, _, o, _, _, e, _⟩ := x; exact ⟨_, e⟩
  | dT kvs => obtain ⟨_, _, _, _, o, _, _, e, _⟩ := x; exact ⟨_, e⟩
  | set S n => obtain ⟨o, _, _, _, e, _⟩ := x; exact ⟨_, e⟩
  | ins C dx fs => obtain ⟨_, _, _, e, _⟩ := x; exact ⟨_, e⟩
  | own y => exact x
  | xd fs => obtain ⟨_, ⟨_, _, _, e, _⟩, _⟩ := x; exact ⟨_, e⟩
  | rng lo hi => obtain ⟨_, _, _, e⟩ := x; exact ⟨_, e⟩
  | frz ob u => exact ⟨_, x.1⟩
  | tbl ps => exact ⟨_, x⟩
  | met f x' => exact ⟨_, x⟩
  | ext φ => exact x.2.1
/-- a target among others that has a star -/
theorem pgs_star {e : Expr} {es : List Expr} {t : TG} {u : TGs} {p : Pos} (h1 : PG X e t) (h2 : PGs X es u)
    (hs : (assignEach (.Starred e p :: es) X.env).map (·.2) = assign e X.env :: (assignEach es X.env).map (·.2) := by rfl) : PGs X (.Starred e p :: es) (gCons t u) := by
  refine ⟨fun pins s σ H vs us Q I r h => ?_⟩
  obtain ⟨v, vr, e1, h⟩ := h
  subst e1
  cases r with
  | cons r rr =>
    rw [hs]
    refine assignInOrder_cons (thn (h1.run pins s σ H _ _ _ I r h) fun _ s1 ⟨σ1, H1, I1, q1⟩ => ?_)
    exact h2.run pins s1 σ1 H1 _ _ Q I1 rr q1
/-- the things of a list or a tuple to n targets, of which the i-th has a star -/
def gStar (K : PySem.W.Frag) (n i : Nat) (t : TGs) : TG := fun v σ H Q => ∃ a xs, v = .ref a ∧ (SqL K H a xs ∨ SqT K H a xs) ∧ n ≤ xs.length + 1 ∧ xs.length ≤ 16384 ∧
  ∀ D, H D = none → t (xs.take i ++ [.ref D] ++ (xs.drop i).drop (xs.length + 1 - n)) σ (upd H D (.lst ((xs.drop i).take (xs.length + 1 - n)))) Q
theorem pg_tupStar {es : List Expr} {k : Nat} {t : TGs} {n i : Nat} (hc : X.calm = true) (h : PGs X es t)
    (hn : (assignEach es X.env).length = n := by rfl) (hst : (assignEach es X.env).findIdx? (·.1) = some i := by rfl) (hi : i < n := by decide) : PG X (.Tuple es k pos) (gStar X.K n i t) := by
  refine ⟨fun pins s σ H v u Q I r hw => ?_⟩
  obtain ⟨a, xs, e1, hq, hl, hz, hw⟩ := hw
  subst e1
  cases r
  have fin : ∀ (its : List Value), Vals xs its → ∀ (h' : Heap) (tk : Nat), (∀ b o, s.heap.get? b = some o → h'.get? b = some o) →
      wpAny (model X.prog X.w) X.A (assignInOrder ((assignEach es X.env).map (·.2)) (its.toArray.toList.take i ++ [.ref h'.objs.size] ++ (its.toArray.toList.drop i).drop (its.toArray.size + 1 - n))) (fun _ s' => ∃ σ' H', Inv X pins σ' H' s' ∧ Q σ' H') X.xe
        { s with heap := h'.push { cls := .type "list", data := .seq ((its.toArray.toList.drop i).take (its.toArray.size + 1 - n)).toArray }, toks := tk } := by
    intro its rv h' tk hk
    have hlen := rv.length
    rw [show its.toArray.size = xs.length from by rw [List.size_toArray, ← hlen]]
    have hg : s.heap.get? h'.objs.size = none := by
      cases q : s.heap.get? h'.objs.size with
      | none => rfl
      | some o => exact absurd (Heap.lt_size (hk _ o q)) (Nat.lt_irrefl _)
    have hf : H h'.objs.size = none := by
      cases q : H h'.objs.size with
      | none => rfl
      | some u =>
        obtain ⟨o, e⟩ := objOk_get (I.hok _ u q)
        rw [hg] at e
        cases e
    refine h.run pins _ σ _ _ _ Q (I.laidN (t' := tk) (fun b u e => Heap.get?_push_of_some _ (hk b u e)) hg hf ?_) ?_ (hw _ hf)
    · exact ⟨by rw [sizeLine_eq, List.length_take, List.length_drop]; omega, _, 0, (rv.drop i).take _, Heap.get?_push_size _ rfl⟩
    · exact Vals.append (Vals.append (rv.take i) (.cons rfl .nil)) ((rv.drop i).drop _)
  rcases hq with hq | hq
  · obtain ⟨its, rv, ht, _⟩ := I.list hq
    rw [assign_Tuple]
    refine wpAny_bind (wpAny_standAt ?_)
    unfold unpack
    rw [hn, hst]
    exact wpAny_bind (wpAny_holding (star_list ht.isList (I.ok.hd hc) hi (by simpa [← rv.length] using hl) (by simpa [← rv.length] using hz) (fin its rv)))
  · obtain ⟨its, rv, ht, _⟩ := I.tuple hq
    rw [assign_Tuple]
    refine wpAny_bind (wpAny_standAt ?_)
    unfold unpack
    rw [hn, hst]
    exact wpAny_bind (wpAny_holding (star_tuple ht (I.ok.hd hc) hi (by simpa [← rv.length] using hl) (by simpa [← rv.length] using hz) (fin its rv)))
end
end Cl

/-! ### ClEnum: enumerate(tuple) -/
namespace Cl
open PySem PySem.Spec PySem.Calls PySem.W PyProof.Rows L2
theorem meets_enumerate_new1 {v : Value} {o : Obj} {H : Heap → Prop} (B : Begins v o H) :
    Meets (Builtin.«enumerate.__new__» ⟨[.type "enumerate", v], []⟩) (fun _ R s => H s.heap ∧
      R (.ok (.ret (.ref (s.heap.push o).objs.size)))
        { s with heap := (s.heap.push o).push { cls := .type "enumerate", data := .fields #[.none, .bool false, .ref s.heap.objs.size, rawInt 0, .none, .none] } }) :=
  .of_wp fun prog w A R s h => by
    obtain ⟨hp, g, d, tk, os⟩ := s; obtain ⟨h1, h⟩ := h
    have hsub := sub_enumerate
    have q1 : ∀ {A' : Around} {E : Value → Shared → Prop} {Q : Value → Shared → Prop}, Q (.ref hp.objs.size) ⟨hp.push o, g, d, tk, os⟩ → wpAny (model prog w) A' (pyIter v) Q E ⟨hp, g, d, tk, os⟩ :=
      fun q => B.iter prog w _ _ ⟨hp, g, d, tk, os⟩ _ h1 q
    wp_walk using q1
    refine wpAny_stack_any fun st => wpAny_pure ?_
    split
    · rename_i c _ _ _ _ _
      cases (c == Value.type "enumerate")
      · wp_walk using q1
        exact ⟨_, rfl, h⟩
      · wp_walk using q1
        exact ⟨_, rfl, h⟩
    · wp_walk using q1
      exact ⟨_, rfl, h⟩
section
variable {prog : Program} {w : World} {A : Around} {E : Value → Shared → Prop} {s : Shared}
theorem enum_begins1 {v : Value} {o : Obj} {H : Heap → Prop} {Q : Value → Shared → Prop} (B : Begins v o H) (h1 : H s.heap)
    (h : ∀ h', IsEnum h' (s.heap.objs.size + 1) s.heap.objs.size 0 .none → h'.get? s.heap.objs.size = some o → h'.objs.size = s.heap.objs.size + 2 →
      (∀ b o, s.heap.get? b = some o → h'.get? b = some o) → Q (.ref (s.heap.objs.size + 1)) { s with heap := h' }) :
    wpAny (model prog w) A (call (.type "enumerate") [v]) Q E s := by
  refine callType_new F.called_enumerate (by decide) (F.typeCall_enumerate_1 _) (F.newCall_enumerate_1 _) (fun obj => F.args_object_init_2 obj _) F.entry_enumerate_new
    (meets_enumerate_new1 B) ⟨h1, ?_⟩
  have hz : (s.heap.push o).objs.size = s.heap.objs.size + 1 := Heap.size_push ..
  show _ ∧ _
  rw [hz]
  have he : IsEnum ((s.heap.push o).push { cls := .type "enumerate", data := .fields #[.none, .bool false, .ref s.heap.objs.size, rawInt 0, .none, .none] }) (s.heap.objs.size + 1) s.heap.objs.size 0 .none := by
    have := Heap.get?_push_size (s.heap.push o) (o := { cls := .type "enumerate", data := .fields #[.none, .bool false, .ref s.heap.objs.size, rawInt 0, .none, .none] }) rfl
    rw [hz] at this; exact this
  refine ⟨⟨_, he, rfl⟩, h _ he (Heap.get?_push_of_some _ (Heap.get?_push_size _ B.free)) (by rw [Heap.size_push, hz]) fun b o x => Heap.get?_push_of_some _ (Heap.get?_push_of_some _ x)⟩
end
section
variable {prog : Program} {w : World} {A : Around} {E : Value → Shared → Prop} {s : Shared}
theorem enumT_end {e it l : Addr} {i : Nat} {items : Array Value} {old : Value} {Q : Option Value → Shared → Prop} (hh : A.handled = none)
    (he : IsEnum s.heap e it i old) (hit : s.heap.IsTupleIter it l i) (hl : s.heap.IsTuple l items) (hx : items[i]? = none)
    (hQ : ∀ h', Heap.ExtBut it s.heap h' → Q none { s with heap := h' }) : wpAny (model prog w) A (pyNext (.ref e)) Q E s := by
  have hT : s.TypeIs (.ref e) "enumerate" := ⟨_, he, rfl⟩
  unfold pyNext
  refine wpAny_bind (wpAny_attempt (wpAny_callSpecial?_slot (name := Str.ofString "__next__") hT F.slot_enumerate_next
    (wpAny_call_entry F.slot_enumerate_next hT F.entry_enumerate_next ?_ (F.args_enumerate_next_1 _))))
  show wpAny _ _ (field (.ref e) 2 >>= _) _ _ _
  refine wpAny_bind (wpAny_field he rfl (x := .ref it) rfl ?_)
  refine wpAny_bind (wpAny_nextOf_tuple_end hh hit hl hx fun h' x he' hx' => ?_)
  obtain ⟨o, ho, hc⟩ := hx'
  refine wpAny_bind (wpAny_isInstance (T := "StopIteration") (b := true) ⟨o, ho, hc⟩ isSubtype_stop ?_)
  exact wpAny_pure (hQ _ he')
end
/-- the tuple at a, each item in a new pair -/
def IteT (K : PySem.W.Frag) (a : Addr) : It :=
  ⟨fun i H => ∃ (xs : List V) (x : V), SqT K H a xs ∧ xs[i]? = some x, fun i H v H' => ∃ T x, v = .ref T ∧ H T = none ∧ H' = upd H T (.tup [.int (i : Nat), x]) ∧ ∀ xs, SqT K H a xs → xs[i]? = some x, fun i H => ∃ xs : List V, SqT K H a xs ∧ xs.length ≤ i⟩
theorem turn_enumT {P : Program} {w : World} {K : PySem.W.Frag} {elts : List Expr} {kk : Nat} {tpos : Pos} (a e it : Addr) (hai : a ≠ it) :
    Turn P w K (.Tuple elts kk tpos) (IteT K a) [e, it] e (fun i h => (∃ old, IsEnum h e it ((i : Nat) : Int) old) ∧ h.IsTupleIter it a i ∧ e ≠ it ∧ e ≠ a) where
  mem := by simp
  obj := fun i h st b hb => by
    obtain ⟨⟨old, he⟩, ⟨o, ho, hc, hd⟩, _⟩ := st
    have e' : b = e ∨ b = it := by simpa using hb
    rcases e' with z | z
    · rw [z]; exact ⟨_, he, fun v q => nomatch q⟩
    · rw [z]; exact ⟨o, ho, fun v q => by rw [hd] at q; cases q⟩
  keep := fun i h h' st k => let ⟨⟨old, he⟩, hi, hne⟩ := st; ⟨⟨old, k e (by simp) _ he⟩, hi.at fun o q => k it (by simp) o q, hne⟩
  item := by
    intro X hP hw hK hc i pins s σ H E I hf st hg
    subst hP hw hK
    obtain ⟨⟨old, he⟩, hit, hne, hea⟩ := st
    obtain ⟨xs, x, hq, hx⟩ := hg
    obtain ⟨its, rv, p, hz⟩ := I.tuple hq
    obtain ⟨u, hu, ru⟩ := rv.get hx
    have hel : e < s.heap.objs.size := Heap.lt_size he
    have hil : it < s.heap.objs.size := by obtain ⟨_, q, _⟩ := hit; exact Heap.lt_size q
    have hlt : i < its.toArray.size := by
      rw [List.size_toArray, ← rv.length]
      exact (List.getElem?_eq_some_iff.mp hx).1
    refine wpAny_pyNext_enum_itemD (Draws.tuple (A := X.A.in1) (I.ok.hd hc) it a hai its.toArray) he ⟨hit, p⟩ hlt hne (by simp [hne, hea]) fun u' h' tk hu' ho hst' hT hsz hk => ?_
    obtain ⟨hit', _⟩ := hst'
    obtain rfl : u' = u := by
      have : its[i]? = some u' := by simpa using hu'
      exact Option.some.inj (this.symm.trans hu)
    refine ⟨_, rfl, wpAny_letOwnedTupleGo_enum (s := { s with heap := h', toks := tk + 1 }) ho fun h'' he' sb => ?_⟩
    have hT2 : h''.get? s.heap.objs.size = some { cls := .type "tuple", data := .seq #[.int i tk, u'] } := (sb.2 _ (Nat.ne_of_gt hel)).trans hT
    have new : ObjOk X.prog X.w (upd H s.heap.objs.size (.tup [.int (i : Nat), x])) h'' s.heap.objs.size (.tup [.int (i : Nat), x]) :=
      ⟨by show 2 ≤ sizeLine; decide, [.int i tk, u'], .cons ⟨_, rfl⟩ (.cons ru .nil), ⟨_, hT2, rfl, _, rfl⟩⟩
    have I1 : L2.Inv X pins σ (upd H s.heap.objs.size (.tup [.int (i : Nat), x])) { s with heap := h'', toks := tk + 1 } :=
      I.turnedNew (ch := [e, it]) (fun b ob hb q => (sb.2 b (fun z => hb (by simp [z]))).trans (hk b ob (fun z => hb (by simp [z])) (fun z => hb (by simp [z])) q)) hf (Nat.le_refl _) new
    refine ⟨.ref s.heap.objs.size, _, I1, rfl, ⟨_, x, rfl, I.hok.fresh (Nat.le_refl _), rfl, fun ys hy => by rw [I.tuple_inj hy hq]; exact hx⟩, ⟨⟨u', ?_⟩, hit'.at fun o q => (sb.2 it (Ne.symm hne)).trans q, hne, hea⟩, fun b hb => ?_⟩
    · have e1 : ((i + 1 : Nat) : Int) = (i : Int) + 1 := by omega
      rw [e1]; exact he'
    · have hb' : b < s.heap.objs.size := by
        have e' : b = e ∨ b = it := by simpa using hb
        rcases e' with z | z
        · rw [z]; exact hel
        · rw [z]; exact hil
      rw [upd_ne (Nat.ne_of_lt hb')]
      exact (hf b hb).1
  done := by
    intro X hP hw hK hc i pins s σ H E I hf st hg
    subst hP hw hK
    obtain ⟨⟨old, he⟩, hit, hne, hea⟩ := st
    obtain ⟨xs, hq, hx⟩ := hg
    obtain ⟨its, rv, p, hz⟩ := I.tuple hq
    obtain ⟨f0, f1, f2, f3, f4, f5⟩ := hf it (by simp)
    have hl := rv.length
    exact enumT_end (I.ok.hd hc) he hit p (by simp; omega) fun h' eb => ⟨rfl, I.turned (t' := s.toks) (fun b o hb q => eb b o hb q) f0 f1 f3 f4 f5⟩
  self := fun A i s Q E st h => let ⟨⟨_, he⟩, _⟩ := st; wpAny_pyIter_enum he h
def iEnumT (K : PySem.W.Frag) (ta : TA) : TI := fun σ H R => ta σ H fun vs H1 => ∃ a xs, vs = [.ref a] ∧ SqT K H1 a xs ∧ R (IteT K a) H1
theorem pi_enumT {X : Cx} {e : Expr} {ta : TA} {p pos tpos : Pos} {elts : List Expr} {kk : Nat} (K : PySem.W.Frag) (hg : Gl X "enumerate") (hm : X.mg "enumerate" = none) (ha : PA X [e] ta) (hs : starEach [e] X.env = [(false, eval e X.env)] := by rfl) (hK : X.K = K := by rfl) :
    PI X (.Tuple elts kk tpos) (.Call (.Name "enumerate" p) [e] [] pos) (iEnumT K ta) := by
  subst hK
  refine ⟨fun pins s σ H R I h => ?_⟩
  refine Call_ (ld_blt I hg hm boot_enumerate (PyProof.Rows.callWith_type1 (thn (ha.run pos pins s σ H _ I h) fun us s1 ⟨vs, H1, I1, r1, q1⟩ => ?_) hs rfl))
  obtain ⟨a, xs, ex, hq, q⟩ := q1
  subst ex
  cases r1 with
  | cons r rr =>
    cases rr
    cases r
    obtain ⟨its, rv, p', hz⟩ := I1.tuple hq
    have hal : a < s1.heap.objs.size := p'.lt
    refine enum_begins1 (begins_tuple a its.toArray) p' fun h' he hit hsz hk => wpAny_pyIter_enum he ?_
    have I2 : L2.Inv X pins σ H1 { s1 with heap := h' } := I1.kept (t' := s1.toks) hk
    refine ⟨s1.heap.objs.size + 1, [s1.heap.objs.size + 1, s1.heap.objs.size], _, _, H1, rfl, I2, turn_enumT a (s1.heap.objs.size + 1) s1.heap.objs.size (Nat.ne_of_lt hal), ⟨⟨.none, he⟩, ⟨_, hit, rfl, rfl⟩, Nat.succ_ne_self _, Nat.ne_of_gt (Nat.lt_succ_of_lt hal)⟩, fun b hb => ?_, q⟩
    have e' : b = s1.heap.objs.size + 1 ∨ b = s1.heap.objs.size := by simpa using hb
    have hle : s1.heap.objs.size ≤ b := by
      rcases e' with z | z
      · rw [z]; exact Nat.le_add_right _ _
      · rw [z]; exact Nat.le_refl _
    exact I1.fpOk hle (I1.hok.fresh hle)
theorem walk_enumT {K : PySem.W.Frag} {a : Addr} {xs : List V} : Walk (IteT K a) xs.length (fun H => SqT K H a xs) (YPair (fun i => some (.int (i : Nat))) (fun i => xs[i]?)) := by
  refine ⟨fun i _ hi q => ⟨xs, xs[i], q, by simp [hi]⟩, fun _ q => ⟨xs, q, Nat.le_refl _⟩, fun i H v H' _ q y => ?_⟩
  obtain ⟨T, x, h1, h2, h3, h4⟩ := y
  exact ⟨T, .int (i : Nat), x, h1, h2, h3, rfl, h4 xs q⟩
end Cl

/-! ### ClFn: defs held in names and dicts; statements that are not reached; kinds of data -/
namespace Cl
open PySem PySem.Spec PyProof.Rows L2
/-- a def at an address that keeps a promise -/
structure CalF (P : Program) (w : World) (K : PySem.W.Frag) (mg : Str → Option Value) (base : Heap) (CX : CXT) (f : Addr) (k : Nat) (ps : List Str) (sp : Sp) : Prop where
  ex : ∃ fd : FuncData, GnOk P w K mg base CX k f fd ps sp ∧ PySem.W.keepIn K (.ref f) = true ∧ Binds K fd ps []
theorem CalF.mono {P : Program} {w : World} {K : PySem.W.Frag} {mg : Str → Option Value} {base : Heap} {CX : CXT} {f : Addr} {j k : Nat} {ps : List Str} {sp : Sp} (C : CalF P w K mg base CX f j ps sp) (h : j ≤ k) : CalF P w K mg base CX f k ps sp := by
  obtain ⟨fd, a, b⟩ := C.ex
  exact ⟨fd, a.mono h, b⟩
theorem calf_mk {P : Program} {w : World} {K : PySem.W.Frag} {mg : Str → Option Value} {base : Heap} {CX : CXT} {x qual : Str} {st : Stmt} {f : Addr} {oc : Value} {od an : Option Addr} {osl : Array (Option Value)} {kV doc pm cdv ct : Value} {ps : List Str} {k : Nat} {sp : Sp}
    (l : K.lookup f = some ⟨oc, od, .func (PySem.W.fnOf x qual (defArgs st) (defBody st) (defScope st) .none kV doc pm an cdv ct), osl⟩) (c : PySem.W.codeIn K cdv qual = true) (kp : PySem.W.keepIn K (.ref f) = true)
    (hb : ∀ (kV doc pm : Value) (an : Option Addr) (cdv ct : Value) (us : List Value), us.length = ps.length → bindArgs (PySem.W.fnOf x qual (defArgs st) (defBody st) (defScope st) .none kV doc pm an cdv ct) ⟨us, []⟩ = pure (ps.zip us))
    (ok : ∀ {f : Addr} {fd : FuncData}, Fun K x qual st f fd → GnOk P w K mg base CX k f fd ps sp) : CalF P w K mg base CX f k ps sp :=
  have F := fun_mk (st := st) l c kp
  ⟨_, ok F, kp, F.binds hb⟩
/-- x(e, ..), x a local name that holds a def -/
def tCallF (P : Program) (w : World) (K : PySem.W.Frag) (mg : Str → Option Value) (base : Heap) (CX : CXT) (k i : Nat) (E : XK) (t : TA) : TE := fun σ H Q => ∃ (f : Addr) (ps : List Str) (sp : Sp), σ[i]? = some (some (.ref f)) ∧ CalF P w K mg base CX f k ps sp ∧ t σ H fun vs H1 => sp vs H1 Q E
section
variable {X : Cx} {CX : CXT} {k i : Nat} {E : XK} {x : Str} {p pos : Pos} {e : Expr} {es : List Expr} {t : TA}
theorem pe_calF (P : Program) (w : World) (K : PySem.W.Frag) (mg : Str → Option Value) (base : Heap) (hr : Rm k X.A) (hx : Passes CX X E) (hN : X.N[i]? = some x) (hv : Vis X.env.scope x) (ha : PA X (e :: es) t)
    (hd : (x == ("__debug__" : Str)) = false := by decide) (hcd : (x == ("__classdict__" : Str)) = false := by decide)
    (he : starEach (e :: es) X.env = (false, eval e X.env) :: starEach es X.env := by rfl) (hpl : (backTo pos (starEach es X.env)).any (·.1) = false := by rfl)
    (hP : X.prog = P := by rfl) (hw : X.w = w := by rfl) (hK : X.K = K := by rfl) (hm : X.mg = mg := by rfl) (hb : X.base = base := by rfl) :
    PE X (.Call (.Name x p) (e :: es) [] pos) (tCallF P w K mg base CX k i E t) := by
  subst hP hw hK hm hb
  refine ⟨fun pins s σ H Q I h => ?_⟩
  obtain ⟨f, ps, sp, hs, C, h⟩ := h
  obtain ⟨fd, F, hk, hbd⟩ := C.ex
  refine wpAny_Call_Name_kw (thn ((pe_var (pos := p) (i := i) hN hv hd hcd).run pins s σ H (fun v H1 => v = .ref f ∧ H1 = H) I ⟨.ref f, hs, rfl, rfl⟩) fun u s1 ⟨v, H1, I1, r1, ev, eH⟩ => ?_)
  subst ev
  rw [eH] at I1
  cases r1
  refine PySem.W.callWith_K (h₀ := X.base) I.ok.mod.kin hk (thn (ha.run pos pins s1 σ H _ I1 h) ?_) he hpl
  rintro us s2 ⟨vs, H2, I2, r, q⟩
  have hl := F.len _ _ _ _ q
  refine ⟨I2.kIn, gn_call F hr (?_ : BindsTo s2 fd ⟨us, []⟩ (ps.zip us)) hx I2 r q⟩
  have hb' := hbd s2 us I2.kIn (by rw [List.append_nil, ← r.length]; exact hl)
  rwa [List.append_nil] at hb'
/-- a statement that is not reached -/
theorem ps_never {st : Stmt} : PS X st (fun _ _ _ => False) := ⟨fun _ _ _ _ _ _ h => h.elim⟩
/-- a key that stands in a dict of the module -/
def rInKD (K : PySem.W.Frag) (w : World) (neg : Bool) : R2 := fun x y H Q => ∃ p z v, x = .str z ∧ y = .ref p ∧ (p == sysModules) = false ∧ KDct K w p z v ∧ Q (.bl (!neg)) H
theorem op_in_kdK (K : PySem.W.Frag) (w : World) (hw : X.w = w := by rfl) (hK : X.K = K := by rfl) : OpR X (compareOp .In) (rInKD K w false) := by
  subst hw hK
  intro pins s σ H x y v u Q I rx ry h
  obtain ⟨p, z, v0, ex, ey, hs, ⟨es, n, u0, hl, hk, e, _⟩, q⟩ := h
  exact op_in_kd (d := p) ⟨hl, hk, hs⟩ pins s σ H x y v u Q I rx ry ⟨z, _, ex, ey, e, q⟩
theorem op_notIn_kdK (K : PySem.W.Frag) (w : World) (hw : X.w = w := by rfl) (hK : X.K = K := by rfl) : OpR X (compareOp .NotIn) (rInKD K w true) := by
  subst hw hK
  intro pins s σ H x y v u Q I rx ry h
  obtain ⟨p, z, v0, ex, ey, hs, ⟨es, n, u0, hl, hk, e, _⟩, q⟩ := h
  exact op_notIn_kd (d := p) ⟨hl, hk, hs⟩ pins s σ H x y v u Q I rx ry ⟨z, _, ex, ey, e, q⟩
end
theorem pg_tupK {X : Cx} {pos : Pos} {es : List Expr} {k : Nat} {t : TGs} (K : PySem.W.Frag) (n : Nat) (hc : X.calm = true) (h : PGs X es t)
    (hn : (assignEach es X.env).length = n := by rfl) (hst : (assignEach es X.env).findIdx? (·.1) = none := by rfl) (hK : X.K = K := by rfl) : PG X (.Tuple es k pos) (gTup K n t) := by
  subst hK
  exact pg_tup hc h hn hst
/-! two fors in a comprehension -/
section
variable {J J1 : It} {n n1 : Nat} {G G1 : Hp → Prop} {Y Y1 : Nat → Hp → V → Hp → Prop}
/-- the inner for -/
theorem in_it (w : Walk J1 n1 G1 Y1) {g1 : TG} {tt1 : TT} {te : TE} {vs1 : List Nat} {σ2 : L2.St} {H4 : Hp} {D : Addr} {Nx : Hp → Prop} (Pv : Nat → Hp → Prop) (h0 : Pv 0 H4) (hG : ∀ i H, i ≤ n1 → Pv i H → G1 H)
    (hs : ∀ i x H H', i < n1 → Pv i H → Y1 i H x H' → g1 x (wipe σ2 vs1) H' fun σ3 H5 => wipe σ3 vs1 = wipe σ2 vs1 ∧ tt1 σ3 H5 fun b H6 =>
      if b = true then te σ3 H6 fun y H7 => ∃ acc, H7 D = some (.lst acc) ∧ acc.length < sizeLine ∧ Pv (i + 1) (upd H7 D (.lst (acc ++ [y]))) else Pv (i + 1) H6) (hd : ∀ H, Pv n1 H → Nx H) :
    ∃ W1 : Nat → Nat → Hp → Prop, (∃ m, W1 0 m H4) ∧ ∀ j k H, W1 j k H →
      (J1.stop j H ∧ Nx H) ∨ (J1.go j H ∧ ∃ Nx1 : Hp → Prop, (∀ H', Nx1 H' → ∃ k', k' < k ∧ W1 (j + 1) k' H') ∧ ∀ x H', J1.yld j H x H' → g1 x (wipe σ2 vs1) H' fun σ3 H5 => wipe σ3 vs1 = wipe σ2 vs1 ∧ tt1 σ3 H5 fun b H6 =>
        if b = true then te σ3 H6 fun y H7 => ∃ acc, H7 D = some (.lst acc) ∧ acc.length < sizeLine ∧ Nx1 (upd H7 D (.lst (acc ++ [y]))) else Nx1 H6) := by
  refine ⟨fun i m H => m = n1 - i ∧ i ≤ n1 ∧ Pv i H, ⟨n1, by simp, Nat.zero_le _, h0⟩, ?_⟩
  rintro i m H ⟨rfl, hi, p⟩
  have q := hG i H hi p
  by_cases hlt : i < n1
  · exact .inr ⟨w.goes i H hlt q, Pv (i + 1), fun H' p' => ⟨n1 - (i + 1), by omega, rfl, hlt, p'⟩, fun x H' y => hs i x H H' hlt p (w.yields i H x H' hlt q y)⟩
  · have e : i = n1 := by omega
    subst e
    exact .inl ⟨w.stops H q, hd H p⟩
/-- the outer for -/
theorem out_it (w : Walk J n G Y) {g : TG} {tt : TT} {wi1 : TI} {g1 : TG} {tt1 : TT} {te : TE} {vs vs1 : List Nat} {σ : L2.St} {H1 : Hp} {D : Addr} {Qd : Hp → Prop} (Pv : Nat → Hp → Prop) (h0 : Pv 0 (upd H1 D (.lst []))) (hG : ∀ i H, i ≤ n → Pv i H → G H)
    (hs : ∀ i x H H', i < n → Pv i H → Y i H x H' → g x (wipe σ vs) H' fun σ2 H2 => wipe σ2 vs = wipe σ vs ∧ tt σ2 H2 fun b H3 =>
      if b = true then wi1 σ2 H3 fun J1 H4 => ∃ W1 : Nat → Nat → Hp → Prop, (∃ m, W1 0 m H4) ∧ ∀ j k H, W1 j k H →
        (J1.stop j H ∧ Pv (i + 1) H) ∨ (J1.go j H ∧ ∃ Nx1 : Hp → Prop, (∀ H', Nx1 H' → ∃ k', k' < k ∧ W1 (j + 1) k' H') ∧ ∀ x H', J1.yld j H x H' → g1 x (wipe σ2 vs1) H' fun σ3 H5 => wipe σ3 vs1 = wipe σ2 vs1 ∧ tt1 σ3 H5 fun b H6 =>
          if b = true then te σ3 H6 fun y H7 => ∃ acc, H7 D = some (.lst acc) ∧ acc.length < sizeLine ∧ Nx1 (upd H7 D (.lst (acc ++ [y]))) else Nx1 H6)
      else Pv (i + 1) H3) (hd : ∀ H, Pv n H → Qd H) :
    ∃ W : Nat → Nat → Hp → Prop, (∃ m, W 0 m (upd H1 D (.lst []))) ∧ ∀ i m H, W i m H →
      (J.stop i H ∧ Qd H) ∨ (J.go i H ∧ ∃ Nx : Hp → Prop, (∀ H', Nx H' → ∃ m', m' < m ∧ W (i + 1) m' H') ∧ ∀ x H', J.yld i H x H' → g x (wipe σ vs) H' fun σ2 H2 => wipe σ2 vs = wipe σ vs ∧ tt σ2 H2 fun b H3 =>
        if b = true then wi1 σ2 H3 fun J1 H4 => ∃ W1 : Nat → Nat → Hp → Prop, (∃ m, W1 0 m H4) ∧ ∀ j k H, W1 j k H →
          (J1.stop j H ∧ Nx H) ∨ (J1.go j H ∧ ∃ Nx1 : Hp → Prop, (∀ H', Nx1 H' → ∃ k', k' < k ∧ W1 (j + 1) k' H') ∧ ∀ x H', J1.yld j H x H' → g1 x (wipe σ2 vs1) H' fun σ3 H5 => wipe σ3 vs1 = wipe σ2 vs1 ∧ tt1 σ3 H5 fun b H6 =>
            if b = true then te σ3 H6 fun y H7 => ∃ acc, H7 D = some (.lst acc) ∧ acc.length < sizeLine ∧ Nx1 (upd H7 D (.lst (acc ++ [y]))) else Nx1 H6)
        else Nx H3) := by
  refine ⟨fun i m H => m = n - i ∧ i ≤ n ∧ Pv i H, ⟨n, by simp, Nat.zero_le _, h0⟩, ?_⟩
  rintro i m H ⟨rfl, hi, p⟩
  have q := hG i H hi p
  by_cases hlt : i < n
  · exact .inr ⟨w.goes i H hlt q, Pv (i + 1), fun H' p' => ⟨n - (i + 1), by omega, rfl, hlt, p'⟩, fun x H' y => hs i x H H' hlt p (w.yields i H x H' hlt q y)⟩
  · have e : i = n := by omega
    subst e
    exact .inl ⟨w.stops H q, hd H p⟩
end
/-! two rules, one or the other -/
def rOr (r r' : R2) : R2 := fun x y H Q => r x y H Q ∨ r' x y H Q
theorem ix_or {X : Cx} {r r' : R2} (h : IxR X r) (h' : IxR X r') : IxR X (rOr r r') := fun value slice pins s σ H x y v u Q I rx ry q hs =>
  q.elim (fun q => h value slice pins s σ H x y v u Q I rx ry q hs) fun q => h' value slice pins s σ H x y v u Q I rx ry q hs
theorem op_or {X : Cx} {f : Value → Value → Sem Value} {r r' : R2} (h : OpR X f r) (h' : OpR X f r') : OpR X f (rOr r r') := fun pins s σ H x y v u Q I rx ry q =>
  q.elim (fun q => h pins s σ H x y v u Q I rx ry q) fun q => h' pins s σ H x y v u Q I rx ry q
/-! what a thing is -/
def isIntD : PyData → Bool
  | .int _ => true
  | .bool _ => true
  | _ => false
def isBoolD : PyData → Bool
  | .bool _ => true
  | _ => false
def isStrD : PyData → Bool
  | .str _ => true
  | _ => false
def isTupD : PyData → Bool
  | .tuple _ => true
  | _ => false
section
variable {K : PySem.W.Frag} {H : Hp} {v : V} {d : PyData} {Q : VK}
theorem tup_ty {a : Addr} {xs : List V} (h : SqT K H a xs) : TyX K H (.ref a) (.type "tuple") := by
  rcases h with (h | ⟨o, h⟩) | ⟨o, its, n, h, c, _⟩
  · exact .base (.tup h)
  · exact .fTuple h
  · exact .kTuple h c
/-- a thing's type, and what isinstance says of it -/
theorem ty_of (h : Dt K H v d) : ∃ t : Value, TyX K H v t ∧ PySem.W.kitOne K t (.type "int") = some (isIntD d) ∧ PySem.W.kitOne K t (.type "bool") = some (isBoolD d) ∧ PySem.W.kitOne K t (.type "str") = some (isStrD d) ∧ PySem.W.kitOne K t (.type "tuple") = some (isTupD d) := by
  cases h with
  | non => exact ⟨_, .base .non, kit_ty (r := false) (by decide +kernel), kit_ty (r := false) (by decide +kernel), kit_ty (r := false) (by decide +kernel), kit_ty (r := false) (by decide +kernel)⟩
  | bl b => exact ⟨_, .base (.bl b), kit_ty (r := true) (by decide +kernel), kit_ty (r := true) (by decide +kernel), kit_ty (r := false) (by decide +kernel), kit_ty (r := false) (by decide +kernel)⟩
  | int b => exact ⟨_, .base (.int b), kit_ty (r := true) (by decide +kernel), kit_ty (r := false) (by decide +kernel), kit_ty (r := false) (by decide +kernel), kit_ty (r := false) (by decide +kernel)⟩
  | str b => exact ⟨_, .base (.str b), kit_ty (r := false) (by decide +kernel), kit_ty (r := false) (by decide +kernel), kit_ty (r := true) (by decide +kernel), kit_ty (r := false) (by decide +kernel)⟩
  | tup hs _ => exact ⟨_, tup_ty hs, kit_ty (r := false) (by decide +kernel), kit_ty (r := false) (by decide +kernel), kit_ty (r := false) (by decide +kernel), kit_ty (r := true) (by decide +kernel)⟩
end
end Cl

/-! ### ClRec: what is a record, and its text, over data -/
namespace Cl
open PySem L2
section
variable {K : PySem.W.Frag} {H : Hp}
theorem DtAll.two {xs : List V} {d1 d2 : PyData} (h : DtAll K H xs [d1, d2]) : ∃ v1 v2, xs = [v1, v2] ∧ Dt K H v1 d1 ∧ Dt K H v2 d2 := by
  cases h with
  | cons h1 h => cases h with
    | cons h2 h => cases h with
      | nil => exact ⟨_, _, rfl, h1, h2⟩
theorem DtAll.three {xs : List V} {d1 d2 d3 : PyData} (h : DtAll K H xs [d1, d2, d3]) : ∃ v1 v2 v3, xs = [v1, v2, v3] ∧ Dt K H v1 d1 ∧ Dt K H v2 d2 ∧ Dt K H v3 d3 := by
  cases h with
  | cons h1 h =>
    obtain ⟨v2, v3, rfl, h2, h3⟩ := h.two
    exact ⟨_, _, _, rfl, h1, h2, h3⟩
theorem DtAll.four {xs : List V} {d1 d2 d3 d4 : PyData} (h : DtAll K H xs [d1, d2, d3, d4]) : ∃ v1 v2 v3 v4, xs = [v1, v2, v3, v4] ∧ Dt K H v1 d1 ∧ Dt K H v2 d2 ∧ Dt K H v3 d3 ∧ Dt K H v4 d4 := by
  cases h with
  | cons h1 h =>
    obtain ⟨v2, v3, v4, rfl, h2⟩ := h.three
    exact ⟨_, _, _, _, rfl, h1, h2⟩
theorem DtAll.six {xs : List V} {d1 d2 d3 d4 d5 d6 : PyData} (h : DtAll K H xs [d1, d2, d3, d4, d5, d6]) : ∃ v1 v2 v3 v4 v5 v6, xs = [v1, v2, v3, v4, v5, v6] ∧ Dt K H v1 d1 ∧ Dt K H v2 d2 ∧ Dt K H v3 d3 ∧ Dt K H v4 d4 ∧ Dt K H v5 d5 ∧ Dt K H v6 d6 := by
  cases h with
  | cons h1 h => cases h with
    | cons h2 h =>
      obtain ⟨v3, v4, v5, v6, rfl, h3⟩ := h.four
      exact ⟨_, _, _, _, _, _, rfl, h1, h2, h3⟩
end
mutual
/-- no text and no tuple is long -/
def smallD : PyData → Bool
  | .str x => decide (x.length ≤ 5000)
  | .tuple ds => decide (ds.length ≤ 5000) && smallAll ds
  | _ => true
def smallAll : List PyData → Bool
  | [] => true
  | d :: ds => smallD d && smallAll ds
end
theorem smallAll_mem : ∀ {ds : List PyData}, smallAll ds = true → ∀ d ∈ ds, smallD d = true
  | [], _, _, h => nomatch h
  | e :: ds, h, d, hd => by
    unfold smallAll at h
    obtain ⟨h1, h2⟩ := Bool.and_eq_true_iff.mp h
    rcases List.mem_cons.mp hd with rfl | hd
    · exact h1
    · exact smallAll_mem h2 d hd
theorem small_tup {ds : List PyData} (h : smallD (.tuple ds) = true) : ds.length ≤ 5000 ∧ ∀ d ∈ ds, smallD d = true := by
  unfold smallD at h
  obtain ⟨h1, h2⟩ := Bool.and_eq_true_iff.mp h
  exact ⟨of_decide_eq_true h1, smallAll_mem h2⟩
theorem small_str {x : Str} (h : smallD (.str x) = true) : x.length ≤ 5000 := by
  unfold smallD at h
  exact of_decide_eq_true h
/-- each of a tuple's things -/
def allD (f : PyData → Bool) : PyData → Bool
  | .tuple ds => ds.all f
  | _ => false
def isNum : PyData → Bool
  | .int n => decide (0 ≤ n) && decide (n ≤ 999999999999)
  | _ => false
def isOf (signs : Str) : PyData → Bool
  | .str x => decide (1 ≤ x.length) && decide (x.length ≤ 8) && x.cps.toList.all fun c => decide (c ∈ signs.cps.toList)
  | _ => false
def lettersS : Str := "abcdefghijklmnopqrstuvwxyz"
def wordsS : Str := "abcdefghijklmnopqrstuvwxyz0123456789"
def isTupL (lo hi : Nat) : PyData → Bool
  | .tuple ds => decide (lo ≤ ds.length) && decide (ds.length ≤ hi)
  | _ => false
def isAddr : PyData → Bool
  | .tuple [a, b] => isNum a && isNum b
  | _ => false
def isKindOf (ks : List Str) : PyData → Bool
  | .str x => ks.any fun k => decide (x = k)
  | _ => false
def isZ : PyData → Bool
  | .int n => decide (n = 0)
  | _ => false
def isEntry : PyData → Bool
  | .tuple [k, n, a] => isKindOf ["words", "names", "more", "node", "piece", "seal", "root"] k && isNum n && isNum a &&
      (isKindOf ["words", "names", "more", "node"] k || isZ n) && (isKindOf ["words", "names", "piece"] k || isZ a)
  | _ => false
def ltD : PyData → PyData → Bool
  | .int i, .int j => decide (i < j)
  | .str i, .str j => decide (i.cps.toList < j.cps.toList)
  | _, _ => false
def rising (ds : List PyData) : Bool := (List.range (ds.length - 1)).all fun k => ltD (ds.getD k .none) (ds.getD (k + 1) .none)
def isRow : PyData → Bool
  | .tuple [a, b] => isOf lettersS a && isNum b
  | _ => false
def isStanding : PyData → Bool
  | .tuple [a, b] => isNum a && isAddr b
  | _ => false
def isNoneD : PyData → Bool
  | .none => true
  | _ => false
/-- the firsts of a tuple of tuples -/
def firstD : PyData → PyData
  | .tuple (a :: _) => a
  | _ => .none
def firsts : PyData → List PyData
  | .tuple ds => ds.map firstD
  | _ => []
def itemsD : PyData → List PyData
  | .tuple ds => ds
  | _ => []
def isHead (ds : List PyData) : Bool := decide (ds.length = 1) && ds.all isNum
def isPart : List PyData → Bool
  | [a, b, c] => isNum a && isNum b && (isTupL 1 20 c && allD isEntry c)
  | _ => false
def isWords : List PyData → Bool
  | [a, b, c] => isNum a && isNum b && (isTupL 1 4 c && allD (isOf wordsS) c)
  | _ => false
def isNames : List PyData → Bool
  | [a, b, c] => isNum a && isNum b && isTupL 1 4 c && (allD isRow c && rising (firsts c))
  | _ => false
def isMore : List PyData → Bool
  | [a, b] => isNum a && (isTupL 1 12 b && allD isAddr b)
  | _ => false
def isNode : List PyData → Bool
  | [a, b, c, d, e, f] => isNum a && isKindOf ["file", "dir"] b && (isNum c && isNum d) && (isTupL 0 3 e && allD isAddr e) && (isNoneD f || isAddr f)
  | _ => false
def isPiece : List PyData → Bool
  | [a, b] => isNum a && isTupL 1 6 b && (allD isStanding b && rising (firsts b))
  | _ => false
def isSeal : List PyData → Bool
  | [a, b, c, d] => isNum a && isNum b && isNum c && isTupL 0 30 d && (allD isNum d && rising (itemsD d))
  | _ => false
def isRoot : List PyData → Bool
  | [a, b, c, d] => isNum a && isNum b && isNum c && (isTupL 1 10 d && allD isAddr d)
  | _ => false
/-- what is a record -/
def isRec : PyData → Bool
  | .tuple (.str k :: ds) =>
    if k = "head" then isHead ds else if k = "part" then isPart ds else if k = "words" then isWords ds else if k = "names" then isNames ds else if k = "more" then isMore ds
    else if k = "node" then isNode ds else if k = "piece" then isPiece ds else if k = "seal" then isSeal ds else if k = "root" then isRoot ds else false
  | _ => false
mutual
/-- a thing within a record as texts -/
def flatL : PyData → List Str
  | .none => ["-"]
  | .str x => [x]
  | .int n => [hexS n.toNat]
  | .tuple ds => flatAll ds
  | _ => []
def flatAll : List PyData → List Str
  | [] => []
  | d :: ds => flatL d ++ flatAll ds
end
/-- None, texts, whole numbers from nought on, tuples of such, at most so deep -/
def okF : Nat → PyData → Bool
  | _, .none => true
  | _, .str _ => true
  | _, .int n => decide (0 ≤ n) && decide (n < 2 ^ 60)
  | k + 1, .tuple ds => ds.all (okF k)
  | _, _ => false
theorem flatAll_take : ∀ {ds : List PyData} {i : Nat} {d : PyData}, ds[i]? = some d → flatAll (ds.take (i + 1)) = flatAll (ds.take i) ++ flatL d
  | [], _, _, h => by simp at h
  | e :: ds, 0, d, h => by
    have h' : e = d := by simpa using h
    subst h'
    show flatL e ++ flatAll [] = [] ++ flatL e
    simp [flatAll]
  | e :: ds, i + 1, d, h => by
    have h' : ds[i]? = some d := by simpa using h
    show flatL e ++ flatAll (ds.take (i + 1)) = (flatL e ++ flatAll (ds.take i)) ++ flatL d
    rw [flatAll_take h', List.append_assoc]
theorem flatAll_len : ∀ (ds : List PyData) (i : Nat), (flatAll (ds.take i)).length ≤ (flatAll ds).length
  | [], i => by simp
  | d :: ds, 0 => Nat.zero_le _
  | d :: ds, i + 1 => by
    show (flatL d ++ flatAll (ds.take i)).length ≤ (flatL d ++ flatAll ds).length
    rw [List.length_append, List.length_append]
    have := flatAll_len ds i
    omega
end Cl

/-! ### ClExc: exceptions of own classes: their making by a base's __init__, isinstance of a caught one, calls within a try -/
namespace PySem.W
open PySem PyProof.Rows
section
variable {prog : Program} {w : World} {K : Frag} {D x : Addr} {ox : Obj} {od : Option Obj}
/-- what the class D must say, so that isinstance asks its instances rightly -/
structure ExcK (K : Frag) (D : Addr) : Prop where
  ga : findIn K (.ref D) "__getattribute__" = some (some (.builtin "BaseException.__getattribute__"))
  gg : findIn K (.ref D) "__getattr__" = some none
  be : subIn K (.ref D) (.type "BaseException") = some true
  hd : hasDictIn K D = true
  ca : findIn K (.ref D) "__class__" = some (some (.builtin "object.__class__"))
  gs : specialIn K (.builtin "object.__class__") "__get__" = some (some (.builtin "getset_descriptor.__get__"))
  tk : takesIn K (.builtin "object.__class__") = some true
  mo : mroIn K D (.type "object") = some true
theorem find_clsX (C : ExcK K D) (od : Option Obj) : findObj K D od "__class__" = some (.bind (.builtin "getset_descriptor.__get__") (.builtin "object.__class__")) := by
  obtain ⟨cd, hc, _⟩ := any_some C.hd
  unfold findObj
  rw [hc, Option.bind_some, C.ca, Option.bind_some]
  simp [C.gs, C.tk]
theorem cls_ofX {A : Around} {E : Value → Shared → Prop} {s : Shared} {Q : Option Value → Shared → Prop} (C : ExcK K D) (X : K.In s.heap) (I : InstAt s.heap x ox D od) (h : Q (some (.ref D)) { s with toks := s.toks + 1 }) : wpAny (model prog w) A (getAttr? (.ref x) "__class__") Q E s := by
  obtain ⟨hp, g, d, t, os⟩ := s
  have l0 := I.type (M := model prog w)
  have l1 := looks_findIn (M := model prog w) X C.ga
  have l2 := looks_findIn (M := model prog w) X C.gg
  have l3 := looks_find (M := model prog w) X I (find_clsX C od)
  have sub : Looks (model prog w) hp (isInstance (.ref x) (.type "BaseException")) true := l0.andThen (looks_subIn X C.be)
  have q0 : (false && onTheHeap (Value.builtin "BaseException.__getattribute__")) = false := rfl
  have q2 : (Value.builtin "BaseException.__getattribute__" == Value.builtin "object.__getattribute__") = false := by decide +kernel
  have q1 : (onTheHeap (Value.ref D) && Value.builtin "BaseException.__getattribute__" == Value.builtin "object.__getattribute__") = false := by rw [q2]; rfl
  unfold getAttr? getAttrBy? getAttrBy
  refine wpAny_bind (wpAny_mkText (wpAny_bind (wpAny_attempt (wpAny_holding (wpAny_bind (l0.at (wpAny_bind (l1.at ?_))))))))
  show wpAny _ _ (if (onTheHeap (Value.ref D) && Value.builtin "BaseException.__getattribute__" == Value.builtin "object.__getattribute__") = true then _ else _) _ _ _
  rw [q1, if_neg Bool.false_ne_true]
  unfold getAttrByItsOwn hookBefore
  refine wpAny_bind ?_
  rw [if_pos (show onTheHeap (Value.ref D) = true from rfl)]
  refine l2.at (wpAny_bind (wpAny_attempt (wpAny_holding ?_)))
  unfold callGetattribute
  rw [q0, if_neg Bool.false_ne_true]
  unfold boundAndCalled
  rw [PySem.F.excAttr_ValueError.ga.bind (.ref x)]
  refine wpAny_bind (wpAny_pure ?_)
  show wpAny _ _ (call (.builtin "BaseException.__getattribute__") [.ref x, .str "__class__" t]) _ _ _
  refine wpAny_call (codeAny_call_builtin PySem.F.excAttr_ValueError.ga.plain PySem.F.entry_bexc_ga ?_)
  refine @check_slot (model prog w) _ _ ⟨hp, g, d, t + 1, os⟩ "BaseException.__getattribute__" "BaseException" "__getattribute__" (.ref x) [.str "__class__" t] [] _ (by decide +kernel) (by decide +kernel) sub (PySem.F.args_bexc_ga (.ref x) (.str "__class__" t)) ?_
  unfold Builtin.«object.__getattribute__»
  refine wpAny_bind (wpAny_of_eq (a := ((Value.ref x : Value), [Value.str "__class__" t])) (by first | rfl | (simp only [slotArgs]; rfl)) ?_)
  refine wpAny_bind (wpAny_pure (wpAny_bind (l0.at (wpAny_bind (l3.at ?_)))))
  show wpAny _ _ (holding [Value.builtin "object.__class__"] (call (.builtin "getset_descriptor.__get__") [.builtin "object.__class__", .ref x, .ref D]) >>= ret) _ _ _
  refine wpAny_bind (wpAny_holding (wpAny_call (class_get (s := ⟨hp, g, d, t + 1, os⟩) (ox := ox) (od := od) X I C.mo ?_)))
  refine wpAny_pure ?_
  show wpAny _ _ (handedOut (.ref D)) _ _ _
  rw [handedOut_of (v := .ref D) rfl]
  first
    | exact wpAny_pure (wpAny_pure h)
    | exact wpAny_pure h
    | exact wpAny_pure (wpAny_bind (wpAny_pure (wpAny_pure h)))
theorem kit_exc (C : ExcK K D) : KitX K (.ref x) (.ref D) (fun h => ∃ ox od, InstAt h x ox D od) where
  ty := fun _ _ _ ⟨_, _, I⟩ => I.type
  it := fun _ _ X _ => by
    obtain ⟨cd, hc, _⟩ := any_some C.hd
    unfold clsIn at hc
    split at hc
    · rename_i c' d' cd' sl' ho
      intro A' Q' E' s' k q
      unfold isType loadHead
      exact wpAny_bind (wpAny_loadPart (k _ _ (X _ _ ho)) (wpAny_pure q))
    · cases hc
  ne := fun h tp dd its n sl X htp => by
    obtain ⟨cd, hc, _⟩ := any_some C.hd
    refine Bool.eq_false_iff.mpr fun q => ?_
    have e : D = tp := Value.ref.inj (beq_iff_eq.mp q)
    subst e
    unfold clsIn at hc
    split at hc
    · rename_i c' d' cd' sl' ho
      have z := (X _ _ ho).symm.trans htp
      cases z
    · cases hc
  ca := fun X I k => by
    obtain ⟨_, _, I⟩ := I
    exact cls_ofX C X I k
end
end PySem.W
namespace Cl
open PySem PySem.Spec PyProof.Rows L2
/-- the caught exception's dict, as it stands -/
def DctOk (d : Option Addr) (H : Hp) : Prop := d = none ∨ ∃ dd fs, d = some dd ∧ H dd = some (.xd fs)
section
variable {X : Cx} {a : Addr} {oe : Obj} {cls : Value} {d : Option Addr} {pn : List (Addr × Obj)}
theorem inst_caught {pins : List (Addr × Obj)} {σ : L2.St} {H : Hp} {s : Shared} {D : Addr} (I : Inv (X.suite a ((a, oe) :: pn)) pins σ H s) (hz : Zc (.ref D) d oe) (hf : ∃ vs, oe.data = .fields vs) (hd : DctOk d H) : ∃ ox od, PySem.W.InstAt s.heap a ox D od := by
  obtain ⟨hget, _⟩ := I.pin (a, oe) (List.mem_append.mpr (.inl List.mem_cons_self))
  obtain ⟨vs, hv⟩ := hf
  rcases hd with rfl | ⟨dd, fs, rfl, hx⟩
  · refine ⟨oe, none, hget, hz.1, ?_, ?_⟩
    · unfold PySem.W.notCls
      rw [hv]
    · rw [hz.2]
      trivial
  · have ob : ObjOk X.prog X.w H s.heap dd (.xd fs) := I.hok dd _ hx
    obtain ⟨mA, hns, _⟩ := ob
    obtain ⟨od, ho, _⟩ := lookIn_ns hns
    refine ⟨oe, some od, hget, hz.1, ?_, ?_⟩
    · unfold PySem.W.notCls
      rw [hv]
    · rw [hz.2]
      exact ho
/-- isinstance(e, c), e the exception that the suite holds -/
def rIsX (K : PySem.W.Frag) (a : Addr) (cls : Value) (d : Option Addr) : List V → Hp → VK → Prop := fun xs H Q => ∃ (c : V) (cv : Value) (D : Addr) (b : Bool), xs = [.ref a, c] ∧ cls = .ref D ∧ PySem.W.ExcK K D ∧ DctOk d H ∧ ClsV c cv ∧ PySem.W.kitOne K (.ref D) cv = some b ∧ Q (.bl b) H
def rIsXT (K : PySem.W.Frag) (a : Addr) (cls : Value) (d : Option Addr) : List V → Hp → VK → Prop := fun xs H Q => ∃ (tp : Addr) (cs : List V) (us : List Value) (D : Addr) (b : Bool), xs = [.ref a, .ref tp] ∧ cls = .ref D ∧ PySem.W.ExcK K D ∧ DctOk d H ∧ H tp = some (.tup cs) ∧ Paired ClsV cs us ∧ PySem.W.kitAny K (.ref D) us = some b ∧ Q (.bl b) H
theorem call_isX (hz : Zc cls d oe) (hf : ∃ vs, oe.data = .fields vs) (K : PySem.W.Frag) (hK : X.K = K := by rfl) : CallR (X.suite a ((a, oe) :: pn)) (.builtin "isinstance") (rIsX K a cls d) := by
  subst hK
  intro pins s σ H xs us Q I r h
  obtain ⟨c, cv, D, b, rfl, rfl, C, hd, k, e, q⟩ := h
  obtain ⟨u1, u2, rfl, r1, r2⟩ := vals2 r
  have e2 := k.eq r2
  subst e2
  cases (show u1 = Value.ref a from r1)
  exact PySem.W.kia_one (PySem.W.kit_exc C) I.kIn (inst_caught I hz hf hd) e (fun z => nomatch z) fun tk => ⟨.bl b, H, I.tok tk, rfl, q⟩
theorem call_isXT (hz : Zc cls d oe) (hf : ∃ vs, oe.data = .fields vs) (K : PySem.W.Frag) (hK : X.K = K := by rfl) : CallR (X.suite a ((a, oe) :: pn)) (.builtin "isinstance") (rIsXT K a cls d) := by
  subst hK
  intro pins s σ H xs us Q I r h
  obtain ⟨tp, cs, ws, D, b, rfl, rfl, C, hd, hT, k, e, q⟩ := h
  obtain ⟨u1, u2, rfl, r1, r2⟩ := vals2 r
  cases (show u1 = Value.ref a from r1)
  cases (show u2 = Value.ref tp from r2)
  obtain ⟨_, its, rv, o, h1, h2, n, h3⟩ := (show ObjOk X.prog X.w H s.heap tp (.tup cs) from I.hok tp _ hT)
  have e3 := ClsV.all k rv
  subst e3
  obtain ⟨oc, od, dt, sl⟩ := o
  simp only at h2 h3
  subst h2 h3
  exact PySem.W.kia_tup (PySem.W.kit_exc C) I.kIn (inst_caught I hz hf hd) h1 e (fun z => nomatch z) fun tk => ⟨.bl b, H, I.tok tk, rfl, q⟩
end
/-! calls of defs that may raise, in a try -/
section
variable {X : Cx} {k n : Nat} {ps ks : List Str} {sp : Sp} {E : L2.St → XK} {x : Str} {p pos : Pos} {e : Expr} {es : List Expr} {t tk : TA} {f : Addr} {fd : FuncData}
theorem gn_callS {CX : CXT} {pins : List (Addr × Obj)} {σ : L2.St} {H : Hp} {s : Shared} {Q : VK} {E : XK} {us : List Value} {kw : List (Str × Value)} {allU : List Value} {allV : List V} (F : GnOk X.prog X.w X.K X.mg X.base CX k f fd ps sp) (hr : Rm k X.A) (hb : BindsTo s fd ⟨us, kw⟩ (ps.zip allU)) (hx : PassesAt CX X σ E)
    (I : Inv X pins σ H s) (r : Vals allV allU) (h : sp allV H Q E) : wpAny (model X.prog X.w) X.A (call (.ref f) us kw) (EP X pins σ Q) X.xe s := by
  refine wpAny_call (codeAny_mono (F.run X.A X.stack s H ⟨us, kw⟩ allU allV Q E hr I.env0 hb r h) ?_)
  rintro (e | fl) s' hq
  · exact hx pins H s e s' I hq
  · cases fl with
    | ret u => exact I.after hq
    | next | brk | cont => exact hq.elim
theorem pe_calS {CX : CXT} (C : Cal X.prog X.w X.K X.mg X.base CX x k ps sp) (hr : Rm k X.A) (hg : Gl X x) (hx : ∀ σ, PassesAt CX X σ (E σ)) (ha : PA X (e :: es) t) (hdb : (x == ("__debug__" : Str)) = false := by decide)
    (he : starEach (e :: es) X.env = (false, eval e X.env) :: starEach es X.env := by rfl) (hpl : (backTo pos (starEach es X.env)).any (·.1) = false := by rfl) :
    PE X (.Call (.Name x p) (e :: es) [] pos) (tCallS sp E t) := by
  obtain ⟨f, fd, F, hm, hk, hb⟩ := C.ex
  constructor
  intro pins s σ H Q I h
  refine wpAny_Call_Name_kw (ld_glob I hg hm (PySem.W.callWith_K (h₀ := X.base) I.ok.mod.kin hk (thn (ha.run pos pins s σ H _ I h) ?_) he hpl) hdb)
  rintro us s1 ⟨vs, H1, I1, r, q⟩
  have hl := F.len _ _ _ _ q
  refine ⟨I1.kIn, gn_callS F hr (?_ : BindsTo s1 fd ⟨us, []⟩ (ps.zip us)) (hx σ) I1 r q⟩
  have hb' := hb s1 us I1.kIn (by rw [List.append_nil, ← r.length]; exact hl)
  rwa [List.append_nil] at hb'
/-! Base.__init__(self, ..) -/
structure OBase (K : PySem.W.Frag) (mg : Str → Option Value) (x : Str) (C : Addr) : Prop where
  mgC : mg x = some (.ref C)
  sp : PySem.W.specialIn K (.ref C) "__getattribute__" = some (some (.builtin "type.__getattribute__"))
  rd : PySem.W.readsIn K C (.type "type") = true
  fi : PySem.W.findCls K (.ref C) (.type "type") "__init__" = some (.val (.builtin "ValueError.__init__"))
theorem pe_oinit {C : Addr} {p1 p2 : Pos} {pl : Sem Bool} (hg : Gl X x) (T : OBase X.K X.mg x C) (ha : PA X (e :: es) t) (hdb : (x == ("__debug__" : Str)) = false := by decide)
    (hc : eval (.Call (.Attribute (.Name x p1) "__init__" p2) (e :: es) [] pos) X.env = (do
      let ov ← eval (.Name x p1) X.env
      standAt p2.atName
      let (f, first) ← holding [ov] (getMethod ov "__init__" pl)
      callWith pos f first (backTo pos (starEach (e :: es) X.env)) (backToKw pos (keywordEach [] X.env))) := by rfl)
    (he : starEach (e :: es) X.env = (false, eval e X.env) :: starEach es X.env := by rfl) (hpl : (backTo pos (starEach es X.env)).any (·.1) = false := by rfl) :
    PE X (.Call (.Attribute (.Name x p1) "__init__" p2) (e :: es) [] pos) (tVeI X.K t) := by
  refine ⟨fun pins s σ H Q I h => ?_⟩
  refine PySem.W.methodCall_KW (ld_glob I hg T.mgC ?_ hdb) hc
  refine PySem.W.method_cls I.kIn T.sp (PySem.W.cls_value I.kIn T.rd T.fi (by decide +kernel) ?_)
  show wpAny _ _ (callWith pos (Value.builtin "ValueError.__init__") [] (backTo pos (starEach (e :: es) X.env)) []) _ _ _
  refine PyProof.Rows.callWith_method1 (thn (ha.run pos pins _ σ H _ (I.tok _) h) fun us s1 ⟨vs, H1, I1, r1, a, C, ws, ev, hl, T, ea, q⟩ => ?_) he hpl
  subst ev
  cases r1 with
  | @cons _ u0 _ ur ra rw' =>
    obtain rfl : u0 = Value.ref a := ra
    have hlen : ur.length ≤ sizeLine := by
      rw [← Paired.length rw', sizeLine_eq]
      omega
    exact oinit_ok T I1 ea hlen fun s' J => ⟨.non, H1, J, rfl, q⟩
end
/-! an own exception with one field -/
def sp_exc1 (f : Str) (C : Addr) : Sp := fun vs H Q _ => ∃ (x : Addr) (v : V), vs = [.ref x, v] ∧ H x = some (exo x C none) ∧ ∀ dx, H dx = none → dx ≠ x → Q .non (upd (upd H dx (exd dx [(f, v)])) x (exo x C (some dx)))
/-- the class at C, whose __init__ keeps sp -/
structure ExI (P : Program) (w : World) (K : PySem.W.Frag) (mg : Str → Option Value) (base : Heap) (x : Str) (C : Addr) (ps : List Str) (sp : Sp) : Prop where
  mgC : mg x = some (.ref C)
  ox : OexC K C
  ex : ∃ (fI : Addr) (fd : FuncData), PySem.W.findIn K (.ref C) "__init__" = some (some (.ref fI)) ∧ PySem.W.typeIn K (.ref fI) = some (.type "function") ∧ FnOk P w K mg base CX0 1 fI fd ps sp ∧ Binds K fd ps []
/-- the reading of its making, from the field's value on -/
theorem exc1_way {C : Addr} {f : Str} {vs : List V} {H1 : Hp} {Q : XK} (h : ∃ v, vs = [v] ∧ ∀ (d : Addr) (H2 : Hp), Same H1 H2 → H1 d = none → H2 d = some (.xd [(f, v)]) → Q (.ref C) (some d) H2) :
    vs.length ≤ 1000 ∧ ∀ a, H1 a = none → sp_exc1 f C (.ref a :: (vs ++ [])) (upd H1 a (exo a C none))
      (fun v H2 => v = .non ∧ ∃ (d : Addr) (fs : List (Str × V)), H2 a = some (exo a C (some d)) ∧ H2 d = some (exd d fs) ∧ H1 d = none ∧ Q (.ref C) (some d) (upd (del H2 a) d (.xd fs))) (fun _ _ _ => False) := by
  obtain ⟨v, rfl, q⟩ := h
  refine ⟨by simp, fun a ha => ⟨a, v, rfl, upd_same, fun dx hdx nda => ?_⟩⟩
  have hdx' : H1 dx = none := by rw [upd_ne nda] at hdx; exact hdx
  refine ⟨rfl, dx, [(f, v)], upd_same, by rw [upd_ne nda]; exact upd_same, hdx', q dx _ (fun b o hb => ?_) hdx' upd_same⟩
  have nb1 : b ≠ a := ne_of_none hb ha
  have nb2 : b ≠ dx := ne_of_none hb hdx'
  rw [upd_ne nb2, del_ne nb1, upd_ne nb1, upd_ne nb2, upd_ne nb1]
  exact hb
section
variable {X : Cx} {C : Addr} {x f : Str} {p pos : Pos} {e : Expr} {t : TA} {k : Nat}
theorem pmk_ex1 (T : ExI X.prog X.w X.K X.mg X.base x C ["self", f] (sp_exc1 f C)) (hr : Rm (k + 2) X.A) (hg : Gl X x) (ha : PA X [e] t) (hdb : (x == ("__debug__" : Str)) = false := by decide)
    (he : starEach [e] X.env = (false, eval e X.env) :: starEach [] X.env := by rfl) (hpl : (backTo pos (starEach [] X.env)).any (·.1) = false := by rfl) : PMk X (.Call (.Name x p) [e] [] pos) (tMkO C (sp_exc1 f C) [] t) := by
  obtain ⟨fI, fd, hi, ht, F, hb⟩ := T.ex
  exact pmk_oex T.ox hi ht F (hr.room.mono (by omega)) hb .nil pass0 hg T.mgC ha hdb he hpl
end
/-! a def that may raise, seen as one in this layer -/
theorem passE {X : Cx} {W : WX} {E : XK} (tk : Takes X W) (hW : ∀ cls d σ H, E cls d H → W cls d σ H) : Passes (L2.CX X.prog X.w) X E := passes_call tk hW
end Cl

/-! ### ClPath: classes of exceptions by their bundle; paths -/
namespace Cl
open PySem PySem.Spec PyProof.Rows L2
/-- an own class of exceptions -/
structure XCls (K : PySem.W.Frag) (mg : Str → Option Value) (x : Str) (C : Addr) : Prop where
  mgC : mg x = some (.ref C)
  ox : OexC K C
  ek : PySem.W.ExcK K C
theorem _root_.PySem.W.ExcK.xf {K : PySem.W.Frag} {C : Addr} (h : PySem.W.ExcK K C) : XfC K C := ⟨h.ga, h.gg, h.be, h.hd⟩
theorem kitAny_f {K : PySem.W.Frag} {t c : Value} {r : List Value} {b : Option Bool} (h : PySem.W.kitOne K t c = some false) (k : PySem.W.kitAny K t r = b) : PySem.W.kitAny K t (c :: r) = b := by
  unfold PySem.W.kitAny
  rw [h]
  exact k
theorem kitAny_t {K : PySem.W.Frag} {t c : Value} {r : List Value} (h : PySem.W.kitOne K t c = some true) : PySem.W.kitAny K t (c :: r) = some true := by
  unfold PySem.W.kitAny
  rw [h]
/-- equal lists, dicts: by their things, or as they are one -/
theorem op_eqVK {X : Cx} (K : PySem.W.Frag) (hu : X.A.units + 64 < cLine) (hK : X.K = K := by rfl) : OpR X (compareOp .Eq) (rEqV K) := by subst hK; exact op_eqV hu
/-! ### a text cut at each stroke -/
theorem spl_facts (S : List Nat) : ∀ (l : List Nat) (k : Nat) (acc : List Nat), TL.spl S k acc l ≠ [] ∧ (TL.spl S k acc l).length ≤ l.length + 1 ∧ (∀ t ∈ TL.spl S k acc l, t.length ≤ acc.length + l.length) ∧ ∃ t r, TL.spl S k acc l = t :: r ∧ acc.length ≤ t.length
  | [], k, acc => by
    rw [TL.spl_nil]
    exact ⟨by simp, by simp, fun t ht => by rw [List.mem_singleton.mp ht]; omega, acc, [], rfl, Nat.le_refl _⟩
  | c :: r, 0, acc => by
    cases hp : TL.pre S (c :: r) with
    | true =>
      rw [TL.spl_hit hp]
      obtain ⟨h1, h2, h3, _⟩ := spl_facts S r (S.length - 1) []
      refine ⟨by simp, ?_, fun t ht => ?_, _, _, rfl, Nat.le_refl _⟩
      · rw [List.length_cons, List.length_cons]
        omega
      · rcases List.mem_cons.mp ht with rfl | ht
        · omega
        · have := h3 t ht
          rw [List.length_nil] at this
          rw [List.length_cons]
          omega
    | false =>
      rw [TL.spl_miss hp]
      obtain ⟨h1, h2, h3, t, q, e, h4⟩ := spl_facts S r 0 (acc ++ [c])
      refine ⟨h1, ?_, fun t ht => ?_, t, q, e, ?_⟩
      · rw [List.length_cons]
        omega
      · have := h3 t ht
        rw [List.length_append, List.length_singleton] at this
        rw [List.length_cons]
        omega
      · rw [List.length_append, List.length_singleton] at h4
        omega
  | c :: r, k + 1, acc => by
    obtain ⟨h1, h2, h3, t, q, e, h4⟩ := spl_facts S r k acc
    refine ⟨h1, ?_, fun t ht => ?_, t, q, e, h4⟩
    · rw [List.length_cons]
      exact Nat.le_succ_of_le h2
    · have := h3 t ht
      rw [List.length_cons]
      omega
theorem split_st (z : Str) : (Txt.split z "/").map TL.tl = TL.spl [47] 0 [] (TL.tl z) := TL.split_spl z "/" (by decide +kernel) (TL.kind_ok (by decide +kernel))
theorem split_len (z : Str) : (Txt.split z "/").length ≤ z.length + 1 ∧ ∀ t ∈ Txt.split z "/", t.length ≤ z.length := by
  obtain ⟨_, h2, h3, _⟩ := spl_facts [47] (TL.tl z) 0 []
  rw [← split_st, List.length_map, ← TL.len_tl] at h2
  refine ⟨h2, fun t ht => ?_⟩
  have := h3 (TL.tl t) (by rw [← split_st]; exact List.mem_map.mpr ⟨t, ht, rfl⟩)
  rw [← TL.len_tl, ← TL.len_tl, List.length_nil] at this
  omega
theorem split_ne (z : Str) : ∃ f r, Txt.split z "/" = f :: r := by
  obtain ⟨h1, _⟩ := spl_facts [47] (TL.tl z) 0 []
  rw [← split_st] at h1
  cases e : Txt.split z "/" with
  | nil => rw [e] at h1; exact absurd rfl h1
  | cons f r => exact ⟨f, r, rfl⟩
/-- a stroke ahead -/
theorem split_stroke {z y : Str} (h : TL.tl z = 47 :: TL.tl y) : Txt.split z "/" = Str.empty :: Txt.split y "/" := by
  refine TL.map_tl_inj ?_
  rw [split_st, h, TL.spl_hit (by show (List.take 1 (47 :: TL.tl y) == [47]) = true; simp), List.map_cons, split_st]
  rfl
/-- no stroke ahead: the first part is no empty one, or there is just it -/
theorem split_other {z : Str} (h : ∀ r, TL.tl z ≠ 47 :: r) : (∃ f r, Txt.split z "/" = f :: r ∧ 1 ≤ f.length) ∨ Txt.split z "/" = [Str.empty] := by
  cases e : TL.tl z with
  | nil =>
    right
    refine TL.map_tl_inj ?_
    rw [split_st, e]
    rfl
  | cons c r =>
    left
    have hc : c ≠ 47 := fun q => h r (by rw [e, q])
    obtain ⟨_, _, _, t, q, e2, h4⟩ := spl_facts [47] r 0 ([] ++ [c])
    have e3 : (Txt.split z "/").map TL.tl = t :: q := by rw [split_st, e, TL.spl_miss (TL.pre_of_head [] r hc), e2]
    cases e4 : Txt.split z "/" with
    | nil => rw [e4] at e3; cases e3
    | cons f s =>
      rw [e4] at e3
      refine ⟨f, s, rfl, ?_⟩
      rw [TL.len_tl, (List.cons.inj e3).1]
      exact h4
theorem ne_none2 {H : Hp} {p q : Addr} {o : HO} (h : upd H p o q = none) : H q = none := by
  by_cases e : q = p
  · rw [e, upd_same] at h; cases h
  · rwa [upd_ne e] at h
theorem same_none {H H' : Hp} {q : Addr} (s : Same H H') (h : H' q = none) : H q = none := by
  cases e : H q with
  | none => rfl
  | some o => rw [s q o e] at h; cases h
theorem joinL_len (S : List Nat) : ∀ ps : List (List Nat), (TL.joinL S ps).length ≤ (ps.map (·.length)).sum + ps.length * S.length
  | [] => by simp [TL.joinL]
  | [p] => by simp [TL.joinL]
  | p :: q :: r => by
    have ih := joinL_len S (q :: r)
    show (p ++ (S ++ TL.joinL S (q :: r))).length ≤ _
    rw [List.length_append, List.length_append, List.map_cons, List.sum_cons, List.length_cons, Nat.add_mul]
    omega
theorem join_len (y : Str) (ps : List Str) : (Txt.join y ps).length ≤ (ps.map (·.length)).sum + ps.length * y.length := by
  have h := joinL_len (TL.tl y) (ps.map TL.tl)
  rw [TL.len_tl, TL.join_eq, TL.tl_join]
  rw [List.map_map, List.length_map] at h
  have e : (List.map ((fun x => x.length) ∘ TL.tl) ps) = ps.map (·.length) := List.map_congr_left fun t _ => (TL.len_tl t).symm
  rw [e, ← TL.len_tl] at h
  exact h
theorem sum_le {l : List Str} {b : Nat} (h : ∀ t ∈ l, t.length ≤ b) : (l.map (·.length)).sum ≤ b * l.length := by
  induction l with
  | nil => simp
  | cons t r ih =>
    have h1 := h t List.mem_cons_self
    have h2 := ih fun x hx => h x (List.mem_cons_of_mem _ hx)
    rw [List.map_cons, List.sum_cons, List.length_cons, Nat.mul_add]
    omega
/-! ### a text, so many times -/
def repS (x : Str) (n : Nat) : Str := ⟨(List.replicate n x.cps).foldl (· ++ ·) #[]⟩
theorem repS_0 (x : Str) : repS x 0 = Str.empty := rfl
theorem repS_1 (x : Str) : repS x 1 = x := by
  unfold repS
  show (⟨#[] ++ x.cps⟩ : Str) = x
  rw [Array.empty_append]
theorem repS_tl (x : Str) : ∀ (n : Nat) (a : Array Nat), ((List.replicate n x.cps).foldl (· ++ ·) a).size = a.size + n * x.length
  | 0, a => by simp
  | n + 1, a => by
    rw [List.replicate_succ, List.foldl_cons, repS_tl x n, Array.size_append, Nat.add_mul, Nat.one_mul]
    show a.size + x.cps.size + n * x.cps.size = a.size + (n * x.cps.size + x.cps.size)
    omega
theorem repS_len (x : Str) (n : Nat) : (repS x n).length = n * x.length := by
  show ((List.replicate n x.cps).foldl (· ++ ·) #[]).size = _
  rw [repS_tl]
  simp
def rMulS : R2 := fun x y H Q => ∃ z n, x = .str z ∧ y = .int n ∧ -1000000 ≤ n ∧ n ≤ 1000000 ∧ z.length * n.toNat ≤ 1000000 ∧ Q (.str (repS z n.toNat)) H
theorem op_mul_s {X : Cx} : OpR X (binaryOp .Mult) rMulS := by
  intro pins s σ H x y v u Q I rx ry h
  obtain ⟨z, n, rfl, rfl, h0, h1, h2, q⟩ := h
  obtain ⟨t, rfl⟩ := rx
  obtain ⟨t', rfl⟩ := ry
  refine PySem.P.mul_str ?_ (fun a b => ?_) (fun a b => ?_) ?_
  · rw [decide_eq_false (by omega), decide_eq_false (by omega)]
    rfl
  · have hn : ((n.toNat : Nat) : Int) = n := Int.toNat_of_nonneg (by omega)
    have e : (z.length : Int) * n ≤ 1000000 := by
      rw [← hn, ← Int.natCast_mul]
      exact Int.ofNat_le.mpr h2
    have e2 : (z.length : Int) ≤ (2 ^ 63 - 1) / n := Int.le_ediv_of_mul_le (by omega) (by omega)
    omega
  · show decide (z.length * n.toNat > sizeLine) = false
    exact decide_eq_false (by rw [sizeLine_eq]; omega)
  · by_cases c : n < 1
    · rw [if_pos c]
      have e : n.toNat = 0 := by omega
      rw [e] at q
      exact ⟨by decide, ⟨.str Str.empty, H, I.tok _, ⟨_, rfl⟩, q⟩⟩
    · rw [if_neg c]
      by_cases d : (n == 1 || z.length == 0) = true
      · rw [if_pos d]
        have e : repS z n.toNat = z := by
          rcases Bool.or_eq_true_iff.mp d with d | d
          · have : n = 1 := eq_of_beq d
            subst this
            exact repS_1 z
          · have h0 : z.length = 0 := eq_of_beq d
            have z1 : (repS z n.toNat).length = 0 := by rw [repS_len, h0, Nat.mul_zero]
            refine TL.ext_tl ?_
            have e1 : TL.tl (repS z n.toNat) = [] := List.length_eq_zero_iff.mp (by rw [← TL.len_tl]; exact z1)
            have e2 : TL.tl z = [] := List.length_eq_zero_iff.mp (by rw [← TL.len_tl]; exact h0)
            rw [e1, e2]
        rw [e] at q
        exact ⟨.str z, H, I, ⟨_, rfl⟩, q⟩
      · rw [if_neg d]
        have l := repS_len z n.toNat
        refine ⟨?_, ⟨.str (repS z n.toNat), H, I.tok _, ⟨_, rfl⟩, q⟩⟩
        show (repS z n.toNat).length ≤ sizeLine
        rw [l, sizeLine_eq, Nat.mul_comm]
        omega
theorem callS1 {sp : Sp} {E : L2.St → XK} {σ : L2.St} {H : Hp} {Q : VK} {i : Nat} {v : V} (hi : σ[i]? = some (some v)) (h : sp [v] H Q (E σ)) : tCallS sp E (tCons (tVar i) tNil) σ H Q := ⟨v, hi, h⟩
theorem drop1 {te : TE} {D : Ends} {σ : L2.St} {H : Hp} (h : te σ H fun _ H1 => D.nx σ H1) : tDrop te D σ H := h
/-- a def that may raise, called where it doesn't -/
theorem passN {X : Cx} : Passes (L2.CX X.prog X.w) X (fun _ _ _ => False) := fun _ _ _ _ _ _ _ h => by
  obtain ⟨_, _, _, _, _, _, _, _, _, _, _, _, h⟩ := h
  exact h.elim
theorem cut_last (xs : List V) : cutV xs none (some (-1)) = xs.dropLast := by
  unfold cutV
  rw [List.dropLast_eq_take]
  show (List.take (HT.sIx xs.length xs.length (some (-1)) - 0) (List.drop 0 xs)) = _
  rw [List.drop_zero, Nat.sub_zero]
  have e3 : HT.sIx xs.length xs.length (some (-1)) = (-1 + (xs.length : Int)).toNat := by
    show (if (-1 : Int) < 0 then (-1 + (xs.length : Int)).toNat else min (-1 : Int).toNat xs.length) = _
    exact if_pos (by decide)
  rw [e3]
  refine congrFun (congrArg List.take ?_) _
  omega
/-- both ways go on alike -/
theorem two_ways {α : Type} (R : α → Hp → Prop) {G : Prop} {F : α → Hp → Prop} (h : (∀ x H, R x H → F x H) → G) (hF : ∀ x H, R x H → F x H) : G := h hF
theorem kit_own {K : PySem.W.Frag} {D C : Addr} {b : Bool} (hd : PySem.W.hasDictIn K C = true) (ht : PySem.W.typeIn K (.ref C) = some (.type "type")) (h : PySem.W.subIn K (.ref D) (.ref C) = some b) (hs : PySem.W.subIn K (.ref D) (.ref D) = some true) : PySem.W.kitOne K (.ref D) (.ref C) = some b := by
  unfold PySem.W.kitOne
  by_cases e : D = C
  · subst e
    rw [if_pos (by simp)]
    exact hs.symm.trans h
  · rw [if_neg (by simpa using e)]
    obtain ⟨cd, hc, _⟩ := PySem.W.any_some hd
    have e2 : ((PySem.W.clsIn K C).isSome && PySem.W.typeIn K (.ref C) == some (.type "type")) = true := by rw [hc, ht] <;> rfl
    show (if ((PySem.W.clsIn K C).isSome && PySem.W.typeIn K (.ref C) == some (.type "type")) = true then PySem.W.subIn K (.ref D) (.ref C) else none) = some b
    rw [if_pos e2]
    exact h
theorem kit_bi {K : PySem.W.Frag} {D : Addr} {b : Bool} (h : PySem.W.subIn K (.ref D) (.type "ValueError") = some b) : PySem.W.kitOne K (.ref D) (.type "ValueError") = some b := by
  unfold PySem.W.kitOne
  rw [if_neg (by simp)]
  show (if PySem.W.kitMeta "ValueError" = true then PySem.W.subIn K (.ref D) (.type "ValueError") else none) = some b
  rw [if_pos (by decide +kernel)]
  exact h
/-- an own exception without an own __init__ is made -/
theorem pmk_xo {X : Cx} {C : Addr} {x m : Str} {j : Nat} {p p2 pos : Pos} (T : XCls X.K X.mg x C) (q : PySem.W.excIn X.K C [.type "ValueError", .type "Exception", .type "BaseException", .type "object"] "ValueError.__new__" = true) (hg : Gl X x)
    (hdb : (x == ("__debug__" : Str)) = false := by decide) : PMk X (.Call (.Name x p) [.Constant (.str m) j p2] [] pos) (fun _ H Q => Q (.ref C) none H) :=
  pmk_own PySem.F.excBase_ValueError q T.mgC T.ox.kC (raises_own T.ox.exC T.ox.tyC) hg hdb
end Cl

/-! ### ClTry: a def that gets the exception which an except suite holds -/
namespace Cl
open PySem PySem.Spec PyProof.Rows L2
section
variable {X : Cx} {p : Addr × Obj} {cls : Value} {d : Option Addr}
theorem inst_pn {pins : List (Addr × Obj)} {σ : L2.St} {H : Hp} {s : Shared} {D : Addr} (hp : p ∈ X.pn) (I : Inv X pins σ H s) (hz : Zc (.ref D) d p.2) (hf : ∃ vs, p.2.data = .fields vs) (hd : DctOk d H) : ∃ ox od, PySem.W.InstAt s.heap p.1 ox D od := by
  obtain ⟨hget, _⟩ := I.pin p (List.mem_append_left _ hp)
  obtain ⟨vs, hv⟩ := hf
  rcases hd with rfl | ⟨dd, fs, rfl, hx⟩
  · refine ⟨p.2, none, hget, hz.1, ?_, ?_⟩
    · unfold PySem.W.notCls
      rw [hv]
    · rw [hz.2]
      trivial
  · have ob : ObjOk X.prog X.w H s.heap dd (.xd fs) := I.hok dd _ hx
    obtain ⟨mA, hns, _⟩ := ob
    obtain ⟨od, ho, _⟩ := lookIn_ns hns
    refine ⟨p.2, some od, hget, hz.1, ?_, ?_⟩
    · unfold PySem.W.notCls
      rw [hv]
    · rw [hz.2]
      exact ho
theorem call_isP (hp : p ∈ X.pn) (hz : Zc cls d p.2) (hf : ∃ vs, p.2.data = .fields vs) (K : PySem.W.Frag) (hK : X.K = K := by rfl) : CallR X (.builtin "isinstance") (rIsX K p.1 cls d) := by
  subst hK
  intro pins s σ H xs us Q I r h
  obtain ⟨c, cv, D, b, rfl, rfl, C, hd, k, e, q⟩ := h
  obtain ⟨u1, u2, rfl, r1, r2⟩ := vals2 r
  have e2 := k.eq r2
  subst e2
  cases (show u1 = Value.ref p.1 from r1)
  exact PySem.W.kia_one (PySem.W.kit_exc C) I.kIn (inst_pn hp I hz hf hd) e (fun z => nomatch z) fun tk => ⟨.bl b, H, I.tok tk, rfl, q⟩
theorem call_isPT (hp : p ∈ X.pn) (hz : Zc cls d p.2) (hf : ∃ vs, p.2.data = .fields vs) (K : PySem.W.Frag) (hK : X.K = K := by rfl) : CallR X (.builtin "isinstance") (rIsXT K p.1 cls d) := by
  subst hK
  intro pins s σ H xs us Q I r h
  obtain ⟨tp, cs, ws, D, b, rfl, rfl, C, hd, hT, k, e, q⟩ := h
  obtain ⟨u1, u2, rfl, r1, r2⟩ := vals2 r
  cases (show u1 = Value.ref p.1 from r1)
  cases (show u2 = Value.ref tp from r2)
  obtain ⟨_, its, rv, o, h1, h2, n, h3⟩ := (show ObjOk X.prog X.w H s.heap tp (.tup cs) from I.hok tp _ hT)
  have e3 := ClsV.all k rv
  subst e3
  obtain ⟨oc, od, dt, sl⟩ := o
  simp only at h2 h3
  subst h2 h3
  exact PySem.W.kia_tup (PySem.W.kit_exc C) I.kIn (inst_pn hp I hz hf hd) h1 e (fun z => nomatch z) fun tk => ⟨.bl b, H, I.tok tk, rfl, q⟩
end
/-- such a def: p is the exception, of the class cls, its dict at d -/
structure FnE (P : Program) (w : World) (K : PySem.W.Frag) (mg : Str → Option Value) (base : Heap) (CX : CXT) (k : Nat) (f : Addr) (fd : FuncData) (ps : List Str) (cls : Value) (d : Option Addr) (sp : Addr → Sp) : Prop where
  len : ∀ a vs H Q E, sp a vs H Q E → vs.length = ps.length
  run : ∀ (A : Around) (outer : List Env) (s : Shared) (H : Hp) (args : Args) (us : List Value) (vs : List V) (Q : VK) (E : XK) (p : Addr × Obj), L2H.RoomH k A → Zc cls d p.2 → (∃ vs, p.2.data = .fields vs) → DctOk d H → L2H.PinOk outer H s p → Env0 P w K mg base A outer s H → BindsTo s fd args (ps.zip us) → Vals vs us → sp p.1 vs H Q E →
    codeAny (model P w) A (.call (.ref f) args) (CR CX outer P w H s Q E) s
theorem fn_ofE {CX : CXT} {P : Program} {w : World} {K : PySem.W.Frag} {mg : Str → Option Value} {base : Heap} {k : Nat} {f : Addr} {name qual : Str} {params : Arguments} {body : List Stmt} {scope : Scope} {dV kV doc pm cdv ct oc : Value} {an od : Option Addr}
    {osl : Array (Option Value)} {N ps : List Str} {sp : Addr → Sp} {cls : Value} {d : Option Addr} (lk : K.lookup f = some ⟨oc, od, .func (PySem.W.fnOf name qual params body scope dV kV doc pm an cdv ct), osl⟩) (hcd : PySem.W.codeIn K cdv qual = true) (S : FnScope N ps scope)
    (len : ∀ a vs H Q E, sp a vs H Q E → vs.length = ps.length)
    (hbody : ∀ (A : Around) (outer : List Env) (s : Shared) (H : Hp) (vs : List V) (Q : VK) (E : XK) (p : Addr × Obj), Zc cls d p.2 → (∃ vs, p.2.data = .fields vs) → DctOk d H → L2H.RoomH k (A.deeper (PyProof.Rows.envOfC qual scope s.heap.objs.size f cdv)) → sp p.1 vs H Q E →
      ∃ t, PSs (L2H.cxH CX P w K mg base N qual scope f cdv A outer s H E p) body t ∧ t { nx := fun _ H' => Q .non H', rt := Q } (L2.start N vs) H) :
    FnE P w K mg base CX (k + 1) f (PySem.W.fnOf name qual params body scope dV kV doc pm an cdv ct) ps cls d sp := by
  refine ⟨len, fun A outer s H args us vs Q E p hr hz hf hd hpin e0 hb r hsp => ?_⟩
  have hl := len _ _ _ _ _ hsp
  have KX : K.In s.heap := e0.mod.kin.keeps fun b o e => (e0.bs b o e).1
  have lim : s.heap.NoLimit := e0.mod.nolimit.keeps fun b o e => (e0.bs b o e).1
  have hkind : ∀ y ∈ ps.zip us, scope.names.lookup y.1 = some .local ∨ (scope.names.lookup y.1 = some .cell ∧ ((cellsFrom (s.heap.objs.size + 1) scope.names []).lookup y.1).isSome = true) := fun ⟨n, v⟩ hy => by
    rcases S.par n (List.of_mem_zip hy).1 with q | q
    · exact .inl q
    · exact .inr ⟨q, PySem.W.cellsFrom_some _ _ _ (.inl q)⟩
  refine codeAny_call_function hr.depth (KX _ _ lk) rfl S.co S.gen rfl (PySem.W.codeRec_of KX hcd) (hb _ _ _ _ ?_)
  refine wpAny_newFunctionEnv_cells S.kind hkind fun env he s1 x => ?_
  subst he
  refine ⟨lim.keeps x.toInCall.keep, codeAny_func ?_⟩
  obtain ⟨t, ht, hq⟩ := hbody A outer s H vs Q E p hz hf hd (hr.deeper _) hsp
  have I : Inv (L2H.cxH CX P w K mg base N qual scope f cdv A outer s H E p) [] (L2.start N vs) H s1 := L2H.inv_startH S hpin e0 hl r x
  refine wpAny_mono (ht.run [] s1 (L2.start N vs) H _ I hq) (fun fl s' hs => ?_) fun e s' hs => hs
  have fin : ∀ {σ' : L2.St} {H' : Hp} {v : V} {u : Value}, Inv (L2H.cxH CX P w K mg base N qual scope f cdv A outer s H E p) [] σ' H' s' → RelV v u → Q v H' → CE outer P w H s Q u s' :=
    fun {σ' H' v u} J rv q => ⟨v, H', J.os, J.bare, J.base, J.hok, rv, q⟩
  cases fl with
  | ret u =>
    obtain ⟨v, σ', H', J, rv, q⟩ := hs
    exact fin J rv q
  | next =>
    obtain ⟨σ', H', J, q⟩ := hs
    exact fin (v := V.non) (u := Value.none) J rfl q
  | brk =>
    obtain ⟨_, _, _, q⟩ := hs
    exact False.elim q
  | cont =>
    obtain ⟨_, _, _, q⟩ := hs
    exact False.elim q
section
variable {X : Cx} {k : Nat} {f : Addr} {fd : FuncData} {ps : List Str} {sp : Addr → Sp} {x : Str} {q pos : Pos} {e : Expr} {es : List Expr} {t : TA} {p : Addr × Obj} {cls : Value} {d : Option Addr}
theorem run_fnE {pins : List (Addr × Obj)} {σ : L2.St} {H : Hp} {s : Shared} {Q : VK} {us : List Value} {vs : List V} (F : FnE X.prog X.w X.K X.mg X.base CX0 k f fd ps cls d sp) (hr : L2H.RoomH k X.A) (hp : p ∈ X.pn) (hz : Zc cls d p.2) (hf : ∃ vs, p.2.data = .fields vs) (hb : Binds X.K fd ps [])
    (I : Inv X pins σ H s) (r : Vals vs us) (hd : DctOk d H) (h : sp p.1 vs H Q E0) : wpAny (model X.prog X.w) X.A (call (.ref f) us) (EP X pins σ Q) X.xe s := by
  have hl : us.length = ps.length := by rw [← r.length]; exact F.len _ _ _ _ _ h
  have b := hb s us I.kIn (by rw [List.append_nil]; exact hl)
  rw [List.append_nil] at b
  have P1 := I.pin p (List.mem_append_left _ hp)
  have hpin : L2H.PinOk X.stack H s p := ⟨P1.1, P1.2.1, fun hm => (List.mem_cons.mp (I.stkSub p.1 hm)).elim P1.2.2.1 P1.2.2.2.1, P1.2.2.2.2⟩
  refine wpAny_call (codeAny_mono (F.run X.A X.stack s H ⟨us, []⟩ us vs Q E0 p hr hz hf hd hpin I.env0 b r h) fun r s' hq => ?_)
  cases r with
  | error e => exact (show False from hq).elim
  | ok fl =>
    cases fl with
    | ret u => exact I.after hq
    | next => exact False.elim hq
    | brk => exact False.elim hq
    | cont => exact False.elim hq
/-- its call: the dict of the exception stands still, if there is one -/
def tCallE (d : Option Addr) (sp : Sp) (t : TA) : TE := fun σ H Q => t σ H fun vs H1 => DctOk d H1 ∧ sp vs H1 Q E0
theorem pe_callE (F : FnE X.prog X.w X.K X.mg X.base CX0 k f fd ps cls d sp) (hr : L2H.RoomH k X.A) (hp : p ∈ X.pn) (hz : Zc cls d p.2) (hf : ∃ vs, p.2.data = .fields vs) (hg : Gl X x) (hm : X.mg x = some (.ref f)) (hk : PySem.W.keepIn X.K (.ref f) = true) (hb : Binds X.K fd ps [])
    (ha : PA X (e :: es) t) (hdb : (x == ("__debug__" : Str)) = false := by decide) (he : starEach (e :: es) X.env = (false, eval e X.env) :: starEach es X.env := by rfl) (hpl : (backTo pos (starEach es X.env)).any (·.1) = false := by rfl) :
    PE X (.Call (.Name x q) (e :: es) [] pos) (tCallE d (sp p.1) t) := by
  refine ⟨fun pins s σ H Q I h => ?_⟩
  refine wpAny_Call_Name_kw (ld_glob I hg hm ?_ hdb)
  refine PySem.W.callWith_K (h₀ := X.base) I.ok.mod.kin hk (thn (ha.run pos pins s σ H _ I h) fun us s1 ⟨vs, H1, I1, r, hd, q⟩ => ⟨I1.kIn, ?_⟩) he hpl
  exact run_fnE F hr hp hz hf hb I1 r hd q
end
/-- xs[i] += e: the reading of xs[i] -/
theorem get_listK {X : Cx} (K : PySem.W.Frag) (hK : X.K = K := by rfl) : PGet X (rIxL K) := by
  subst hK
  intro pins s σ H x y v u Q I rx ry h
  obtain ⟨p, xs, i, z, rfl, rfl, hq, he, q⟩ := h
  cases rx
  obtain ⟨t, rfl⟩ := ry
  obtain ⟨its, r, pl, hz⟩ := I.list hq
  obtain ⟨j, h1, h2, h3, h4, h5⟩ := atI_get he
  obtain ⟨w, ew, rw'⟩ := r.get h2
  have hl := r.length
  have hn := line63
  have fin : EP X pins σ Q w s := ⟨z, H, I, rw', q⟩
  by_cases h0 : 0 ≤ i
  · have hj : i.toNat = j := by
      rw [seqIndex_of h0 h5] at h1
      exact Option.some.inj h1
    exact wpAny_getItem_list pl.isList h0 (by omega) (by rw [hj]; simpa using ew) fin
  · have hj : (i + (its.toArray.size : Int)).toNat = j := by
      rw [seqIndex_neg (by omega) h4] at h1
      rw [List.size_toArray, ← hl]
      exact Option.some.inj h1
    exact wpAny_getItem_list_neg pl.isList (by omega) (by rw [List.size_toArray] <;> omega) (by omega) (by rw [hj]; simpa using ew) fin
/-- o.f among targets -/
def gAttr (K : PySem.W.Frag) (f : Str) (to : TE) : TG := fun v σ H Q => to σ H fun x H1 => ∃ a C dx fs, x = .ref a ∧ H1 a = some (.ins C dx fs) ∧ Cls K C ∧ NoAttr K C f ∧ fs.length < 1000 ∧ Q σ (upd H1 a (.ins C dx (putF f v fs)))
theorem pg_attr {X : Cx} {o : Expr} {to : TE} {f : Str} {pos : Pos} (ho : PE X o to) : PG X (.Attribute o f pos) (gAttr X.K f to) := by
  refine ⟨fun pins s σ H v u Q I r h => ?_⟩
  rw [assign_Attribute]
  refine wpAny_bind (wpAny_holding (thn (ho.run pins s σ H _ I h) fun ov s1 ⟨x, H1, I1, rx, a, C, dx, fs, ex, ea, c, n, l, q⟩ => ?_))
  subst ex
  obtain rfl : ov = Value.ref a := rx
  refine wpAny_bind (wpAny_standAt (wpAny_bind (wpAny_holding (setattr_ok I1 ea c n l r fun s3 I3 => ?_))))
  exact wpAny_release ⟨σ, _, I3, q⟩
theorem pg_attrK {X : Cx} (K : PySem.W.Frag) {o : Expr} {to : TE} {f : Str} {pos : Pos} (ho : PE X o to) (hK : X.K = K := by rfl) : PG X (.Attribute o f pos) (gAttr K f to) := by subst hK; exact pg_attr ho
end Cl

/-! ### ClDisk: things of any kind; a disk, as an object -/
namespace Cl
open PySem PySem.Spec PyProof.Rows L2
/-- a thing of any kind: what isinstance tells of it -/
structure Th (K : PySem.W.Frag) (H : Hp) (v : V) : Prop where
  th : ∃ (t : Value) (b1 b2 b3 : Bool), TyX K H v t ∧ PySem.W.kitOne K t (.type "int") = some b1 ∧ PySem.W.kitOne K t (.type "bool") = some b2 ∧ PySem.W.kitOne K t (.type "str") = some b3 ∧
    ((∃ n, v = .int n ∧ b1 = true ∧ b2 = false) ∨ ((∀ n, v ≠ .int n) ∧ (b1 = false ∨ b2 = true))) ∧ ((∃ z, v = .str z ∧ b3 = true) ∨ ((∀ z, v ≠ .str z) ∧ b3 = false))
section
variable {K : PySem.W.Frag} {H : Hp}
theorem Th.int (n : Int) : Th K H (.int n) := ⟨_, true, false, false, .base (.int n), kit_ty (by decide +kernel), kit_ty (by decide +kernel), kit_ty (by decide +kernel), .inl ⟨n, rfl, rfl, rfl⟩, .inr ⟨fun _ h => (by cases h), rfl⟩⟩
theorem Th.bl (b : Bool) : Th K H (.bl b) := ⟨_, true, true, false, .base (.bl b), kit_ty (by decide +kernel), kit_ty (by decide +kernel), kit_ty (by decide +kernel), .inr ⟨fun _ h => (by cases h), .inr rfl⟩, .inr ⟨fun _ h => (by cases h), rfl⟩⟩
theorem Th.non : Th K H .non := ⟨_, false, false, false, .base .non, kit_ty (by decide +kernel), kit_ty (by decide +kernel), kit_ty (by decide +kernel), .inr ⟨fun _ h => (by cases h), .inl rfl⟩, .inr ⟨fun _ h => (by cases h), rfl⟩⟩
theorem Th.str (z : Str) : Th K H (.str z) := ⟨_, false, false, true, .base (.str z), kit_ty (by decide +kernel), kit_ty (by decide +kernel), kit_ty (by decide +kernel), .inr ⟨fun _ h => (by cases h), .inl rfl⟩, .inl ⟨z, rfl, rfl⟩⟩
theorem Th.lst {a : Addr} {xs : List V} (e : H a = some (.lst xs)) : Th K H (.ref a) := ⟨_, false, false, false, .base (.lst e), kit_ty (by decide +kernel), kit_ty (by decide +kernel), kit_ty (by decide +kernel), .inr ⟨fun _ h => (by cases h), .inl rfl⟩, .inr ⟨fun _ h => (by cases h), rfl⟩⟩
theorem Th.tup {a : Addr} {xs : List V} (e : H a = some (.tup xs)) : Th K H (.ref a) := ⟨_, false, false, false, .base (.tup e), kit_ty (by decide +kernel), kit_ty (by decide +kernel), kit_ty (by decide +kernel), .inr ⟨fun _ h => (by cases h), .inl rfl⟩, .inr ⟨fun _ h => (by cases h), rfl⟩⟩
theorem Th.dct {a : Addr} {kvs : List (Key × V)} (e : H a = some (.dK kvs)) : Th K H (.ref a) := ⟨_, false, false, false, .base (.dK e), kit_ty (by decide +kernel), kit_ty (by decide +kernel), kit_ty (by decide +kernel), .inr ⟨fun _ h => (by cases h), .inl rfl⟩, .inr ⟨fun _ h => (by cases h), rfl⟩⟩
end
/-- a whole number within bounds -/
def withinV (v : V) (lo hi : Int) : Bool := match v with
  | .int n => decide (lo ≤ n) && decide (n ≤ hi)
  | _ => false
theorem withinV_no {v : V} {lo hi : Int} (h : ∀ n, v ≠ .int n) : withinV v lo hi = false := by
  cases v with
  | int n => exact absurd rfl (h n)
  | _ => rfl
/-! ### a disk -/
structure DS where
  texts : List (List Str)
  wear : List Int
  pl : Int
  wr : Int
  lf : Option Int
  kp : Int
  ov : Bool
def lfV : Option Int → V
  | none => .non
  | some n => .int n
def dkF (rl wl : Addr) (pl wr : Int) (lf : Option Int) (kp : Int) (ov : Bool) : List (Str × V) :=
  [("written_rows", .ref rl), ("erasings", .ref wl), ("many_places", .int pl), ("count_of_writes", .int wr), ("writes_left", lfV lf), ("signs_kept", .int kp), ("is_over", .bl ov)]
section
variable (rl wl : Addr) (pl wr : Int) (lf : Option Int) (kp : Int) (ov : Bool)
theorem dk_1 : (dkF rl wl pl wr lf kp ov).lookup ("written_rows" : Str) = some (.ref rl) := lk0
theorem dk_2 : (dkF rl wl pl wr lf kp ov).lookup ("erasings" : Str) = some (.ref wl) := lkS (by decide +kernel) lk0
theorem dk_3 : (dkF rl wl pl wr lf kp ov).lookup ("many_places" : Str) = some (.int pl) := lkS (by decide +kernel) (lkS (by decide +kernel) lk0)
theorem dk_4 : (dkF rl wl pl wr lf kp ov).lookup ("count_of_writes" : Str) = some (.int wr) := lkS (by decide +kernel) (lkS (by decide +kernel) (lkS (by decide +kernel) lk0))
theorem dk_5 : (dkF rl wl pl wr lf kp ov).lookup ("writes_left" : Str) = some (lfV lf) := lkS (by decide +kernel) (lkS (by decide +kernel) (lkS (by decide +kernel) (lkS (by decide +kernel) lk0)))
theorem dk_6 : (dkF rl wl pl wr lf kp ov).lookup ("signs_kept" : Str) = some (.int kp) := lkS (by decide +kernel) (lkS (by decide +kernel) (lkS (by decide +kernel) (lkS (by decide +kernel) (lkS (by decide +kernel) lk0))))
theorem dk_7 : (dkF rl wl pl wr lf kp ov).lookup ("is_over" : Str) = some (.bl ov) := lkS (by decide +kernel) (lkS (by decide +kernel) (lkS (by decide +kernel) (lkS (by decide +kernel) (lkS (by decide +kernel) (lkS (by decide +kernel) lk0)))))
theorem dk_no {m : Str} (h : ([("written_rows" : Str), "erasings", "many_places", "count_of_writes", "writes_left", "signs_kept", "is_over"] : List Str).all (fun f => !decide (m = f)) = true) : (dkF rl wl pl wr lf kp ov).lookup m = none := lk_no h
end
section
variable {rl wl : Addr} {pl wr : Int} {lf : Option Int} {kp : Int} {ov : Bool}
theorem put_4 {z : Int} : putF "count_of_writes" (V.int z) (dkF rl wl pl wr lf kp ov) = dkF rl wl pl z lf kp ov := putS (by decide +kernel) (putS (by decide +kernel) (putS (by decide +kernel) put0))
theorem put_5 {z : Option Int} : putF "writes_left" (lfV z) (dkF rl wl pl wr lf kp ov) = dkF rl wl pl wr z kp ov := putS (by decide +kernel) (putS (by decide +kernel) (putS (by decide +kernel) (putS (by decide +kernel) put0)))
theorem put_6 {z : Int} : putF "signs_kept" (V.int z) (dkF rl wl pl wr lf kp ov) = dkF rl wl pl wr lf z ov := putS (by decide +kernel) (putS (by decide +kernel) (putS (by decide +kernel) (putS (by decide +kernel) (putS (by decide +kernel) put0))))
theorem put_7 {z : Bool} : putF "is_over" (V.bl z) (dkF rl wl pl wr lf kp ov) = dkF rl wl pl wr lf kp z := putS (by decide +kernel) (putS (by decide +kernel) (putS (by decide +kernel) (putS (by decide +kernel) (putS (by decide +kernel) (putS (by decide +kernel) put0)))))
end
/-- a disk stands at x: its rows' list at rl, its erasings at wl, the rows at ras -/
structure Dk (C : Addr) (H : Hp) (x rl wl : Addr) (ras : List Addr) (S : DS) : Prop where
  ob : ∃ dx, H x = some (.ins C dx (dkF rl wl S.pl S.wr S.lf S.kp S.ov))
  rl : H rl = some (.lst (ras.map V.ref))
  wl : H wl = some (.lst (S.wear.map V.int))
  rs : ∀ (i : Nat) (a : Addr) (ts : List Str), ras[i]? = some a → S.texts[i]? = some ts → H a = some (.lst (ts.map V.str))
  nd : ras.Nodup
  l1 : S.texts.length = ras.length
  l2 : S.wear.length = ras.length
  lo : 4 ≤ ras.length
  hi : ras.length ≤ 8
  p0 : 6 ≤ S.pl
  p1 : S.pl ≤ 16
  tx : ∀ ts ∈ S.texts, (ts.length : Int) ≤ S.pl ∧ ∀ t ∈ ts, 1 ≤ t.length ∧ t.length ≤ 2000
theorem Dk.m {C : Addr} {H H' : Hp} {x rl wl : Addr} {ras : List Addr} {S : DS} (e : Same H H') (h : Dk C H x rl wl ras S) : Dk C H' x rl wl ras S := by
  obtain ⟨⟨dx, h1⟩, h2, h3, h4, h5, h6, h7, h8, h9, h10, h11, h12⟩ := h
  exact ⟨⟨dx, e _ _ h1⟩, e _ _ h2, e _ _ h3, fun i a ts q1 q2 => e _ _ (h4 i a ts q1 q2), h5, h6, h7, h8, h9, h10, h11, h12⟩
/-- what belongs to it -/
def DkFoot (x rl wl : Addr) (ras : List Addr) (b : Addr) : Prop := b = x ∨ b = rl ∨ b = wl ∨ b ∈ ras
theorem Dk.nrx {C : Addr} {H : Hp} {x rl wl : Addr} {ras : List Addr} {S : DS} (h : Dk C H x rl wl ras S) : rl ≠ x := fun e => by
  obtain ⟨dx, q⟩ := h.ob
  have := h.rl
  rw [e, q] at this
  cases this
theorem Dk.nwx {C : Addr} {H : Hp} {x rl wl : Addr} {ras : List Addr} {S : DS} (h : Dk C H x rl wl ras S) : wl ≠ x := fun e => by
  obtain ⟨dx, q⟩ := h.ob
  have := h.wl
  rw [e, q] at this
  cases this
theorem Dk.text {C : Addr} {H : Hp} {x rl wl : Addr} {ras : List Addr} {S : DS} (h : Dk C H x rl wl ras S) {i : Nat} {a : Addr} (ha : ras[i]? = some a) : ∃ ts, S.texts[i]? = some ts ∧ H a = some (.lst (ts.map V.str)) := by
  have hlt : i < S.texts.length := by
    rw [h.l1]
    exact (List.getElem?_eq_some_iff.mp ha).1
  exact ⟨_, List.getElem?_eq_getElem hlt, h.rs i a _ ha (List.getElem?_eq_getElem hlt)⟩
theorem Dk.nax {C : Addr} {H : Hp} {x rl wl : Addr} {ras : List Addr} {S : DS} (h : Dk C H x rl wl ras S) {i : Nat} {a : Addr} (ha : ras[i]? = some a) : a ≠ x := fun e => by
  obtain ⟨dx, q⟩ := h.ob
  obtain ⟨ts, _, q2⟩ := h.text ha
  rw [e, q] at q2
  cases q2
theorem Dk.nar {C : Addr} {H : Hp} {x rl wl : Addr} {ras : List Addr} {S : DS} (h : Dk C H x rl wl ras S) {i : Nat} {a : Addr} (ha : ras[i]? = some a) : a ≠ rl := fun e => by
  obtain ⟨ts, _, q2⟩ := h.text ha
  rw [e, h.rl] at q2
  have q4 := Option.some.inj q2
  have q3 : ras.map V.ref = ts.map V.str := by injection q4
  have := h.lo
  cases ras with
  | nil => simp at this
  | cons r rs =>
    cases ts with
    | nil => cases q3
    | cons t ts => cases q3
/-- other fields: all else stays -/
theorem Dk.re {C : Addr} {H H' : Hp} {x rl wl : Addr} {ras : List Addr} {S S' : DS} (h : Dk C H x rl wl ras S) (e : SameBut x H H') (ob : ∃ dx, H' x = some (.ins C dx (dkF rl wl S'.pl S'.wr S'.lf S'.kp S'.ov))) (e1 : S'.texts = S.texts) (e2 : S'.wear = S.wear) (e3 : S'.pl = S.pl) : Dk C H' x rl wl ras S' := by
  refine ⟨ob, e _ _ h.rl h.nrx, by rw [e2]; exact e _ _ h.wl h.nwx, fun i a ts q1 q2 => ?_, h.nd, by rw [e1]; exact h.l1, by rw [e2]; exact h.l2, h.lo, h.hi, by rw [e3]; exact h.p0, by rw [e3]; exact h.p1, by rw [e1, e3]; exact h.tx⟩
  rw [e1] at q2
  exact e _ _ (h.rs i a ts q1 q2) (h.nax q1)
theorem Dk.naw {C : Addr} {H : Hp} {x rl wl : Addr} {ras : List Addr} {S : DS} (h : Dk C H x rl wl ras S) {i : Nat} {a : Addr} (ha : ras[i]? = some a) : a ≠ wl := fun e => by
  obtain ⟨ts, _, q2⟩ := h.text ha
  rw [e, h.wl] at q2
  have q4 := Option.some.inj q2
  have q3 : S.wear.map V.int = ts.map V.str := by injection q4
  have l1 := h.lo
  have l2 := h.l2
  cases e1 : S.wear with
  | nil => rw [e1] at l2; simp at l2; omega
  | cons r rs =>
    rw [e1] at q3
    cases ts with
    | nil => cases q3
    | cons t ts => cases q3
theorem nodup_at {l : List Addr} (h : l.Nodup) {i j : Nat} {a : Addr} (hi : l[i]? = some a) (hj : l[j]? = some a) : i = j := by
  exact (List.getElem?_inj (List.getElem?_eq_some_iff.mp hi).1 h).mp (hi.trans hj.symm)
/-- one row otherwise -/
theorem Dk.row {C : Addr} {H : Hp} {x rl wl : Addr} {ras : List Addr} {S : DS} (h : Dk C H x rl wl ras S) {n : Nat} {a : Addr} (ha : ras[n]? = some a) {ts : List Str} (hl : (ts.length : Int) ≤ S.pl) (ht : ∀ t ∈ ts, 1 ≤ t.length ∧ t.length ≤ 2000) :
    Dk C (upd H a (.lst (ts.map V.str))) x rl wl ras { S with texts := S.texts.set n ts } := by
  obtain ⟨dx, ob⟩ := h.ob
  refine ⟨⟨dx, by rw [upd_ne (h.nax ha).symm]; exact ob⟩, by rw [upd_ne (h.nar ha).symm]; exact h.rl, by rw [upd_ne (h.naw ha).symm]; exact h.wl, fun i b us q1 q2 => ?_, h.nd, by rw [List.length_set]; exact h.l1, h.l2, h.lo, h.hi, h.p0, h.p1, fun us hu => ?_⟩
  · by_cases e : i = n
    · subst e
      have e2 : b = a := Option.some.inj (q1.symm.trans ha)
      subst e2
      have hlt : i < S.texts.length := by
        rw [h.l1]
        exact (List.getElem?_eq_some_iff.mp ha).1
      have e3 : us = ts := by
        rw [show ({ S with texts := S.texts.set i ts } : DS).texts = S.texts.set i ts from rfl, List.getElem?_set_self hlt] at q2
        exact (Option.some.inj q2).symm
      rw [e3]
      exact upd_same
    · have q3 : S.texts[i]? = some us := by
        rw [show ({ S with texts := S.texts.set n ts } : DS).texts = S.texts.set n ts from rfl, List.getElem?_set_ne (Ne.symm e)] at q2
        exact q2
      rw [upd_ne (fun z => e (nodup_at h.nd (by rw [← z]; exact q1) ha))]
      exact h.rs i b us q1 q3
  · rcases List.mem_or_eq_of_mem_set hu with hu | rfl
    · exact h.tx us hu
    · exact ⟨hl, ht⟩
def oneD (S : DS) : DS := { S with wr := S.wr + 1, lf := S.lf.map (· - 1) }
theorem ixN_nat {n j : Nat} (h : j < n) : ixN n (j : Int) = some j := by
  unfold ixN
  rw [if_pos (by omega), if_pos (by omega), Int.toNat_natCast]
/-- one row anew, at a' -/
theorem Dk.anew {C : Addr} {H : Hp} {x rl wl : Addr} {ras : List Addr} {S : DS} (h : Dk C H x rl wl ras S) {n : Nat} {a' : Addr} (hn : n < ras.length) (hf : H a' = none) :
    Dk C (upd (upd H a' (.lst [])) rl (.lst ((ras.set n a').map V.ref))) x rl wl (ras.set n a') { S with texts := S.texts.set n [] } := by
  obtain ⟨dx, ob⟩ := h.ob
  have n1 : x ≠ a' := ne_of_none ob hf
  have n2 : rl ≠ a' := ne_of_none h.rl hf
  have n3 : wl ≠ a' := ne_of_none h.wl hf
  have nwr : wl ≠ rl := fun e => by
    have q2 := h.wl
    rw [e, h.rl] at q2
    have q4 := Option.some.inj q2
    have q3 : ras.map V.ref = S.wear.map V.int := by injection q4
    have l1 := h.lo
    cases e1 : ras with
    | nil => rw [e1] at l1; simp at l1
    | cons r rs =>
      rw [e1] at q3
      cases e2 : S.wear with
      | nil => rw [e2] at q3; cases q3
      | cons t ts => rw [e2] at q3; cases q3
  have fresh : ∀ (i : Nat) (b : Addr), ras[i]? = some b → b ≠ a' := fun i b hb e => by
    obtain ⟨ts, _, q⟩ := h.text hb
    rw [e, hf] at q
    cases q
  refine ⟨⟨dx, by rw [upd_ne h.nrx.symm, upd_ne n1]; exact ob⟩, upd_same, by rw [upd_ne nwr, upd_ne n3]; exact h.wl, fun i b us q1 q2 => ?_, ?_, by rw [List.length_set, List.length_set]; exact h.l1, by rw [List.length_set]; exact h.l2, by rw [List.length_set]; exact h.lo, by rw [List.length_set]; exact h.hi, h.p0, h.p1, fun us hu => ?_⟩
  · rw [show ({ S with texts := S.texts.set n [] } : DS).texts = S.texts.set n [] from rfl] at q2
    by_cases e : i = n
    · subst e
      rw [List.getElem?_set_self hn] at q1
      rw [List.getElem?_set_self (by rw [h.l1]; exact hn)] at q2
      have e1 := Option.some.inj q1
      have e2 := Option.some.inj q2
      rw [← e1, ← e2, upd_ne n2.symm]
      exact upd_same
    · rw [List.getElem?_set_ne (Ne.symm e)] at q1 q2
      rw [upd_ne (h.nar q1), upd_ne (fresh i b q1)]
      exact h.rs i b us q1 q2
  · refine List.pairwise_iff_getElem.mpr fun i j hi hj hij => ?_
    have hi' : i < ras.length := by simpa using hi
    have hj' : j < ras.length := by simpa using hj
    intro e
    have gi : (ras.set n a')[i]? = some ((ras.set n a')[i]'hi) := List.getElem?_eq_getElem _
    have gj : (ras.set n a')[j]? = some ((ras.set n a')[j]'hj) := List.getElem?_eq_getElem _
    rw [e] at gi
    by_cases ei : i = n
    · subst ei
      rw [List.getElem?_set_self hi'] at gi
      rw [List.getElem?_set_ne (by omega), ← gi] at gj
      exact fresh j a' gj rfl
    · by_cases ej : j = n
      · subst ej
        rw [List.getElem?_set_self hj'] at gj
        rw [List.getElem?_set_ne (by omega), ← gj] at gi
        exact fresh i a' gi rfl
      · rw [List.getElem?_set_ne (by omega)] at gi gj
        exact absurd (nodup_at h.nd gi gj) (by omega)
  · rcases List.mem_or_eq_of_mem_set hu with hu | rfl
    · exact h.tx us hu
    · exact ⟨by have := h.p0; show (0 : Int) ≤ S.pl; omega, fun _ h => nomatch h⟩
/-- one segment's wear otherwise -/
theorem Dk.worn {C : Addr} {H : Hp} {x rl wl : Addr} {ras : List Addr} {S : DS} (h : Dk C H x rl wl ras S) (ws : List Int) (hl : ws.length = S.wear.length) :
    Dk C (upd H wl (.lst (ws.map V.int))) x rl wl ras { S with wear := ws } := by
  obtain ⟨dx, ob⟩ := h.ob
  have nwr : rl ≠ wl := fun e => by
    have q2 := h.wl
    rw [← e, h.rl] at q2
    have q4 := Option.some.inj q2
    have q3 : ras.map V.ref = S.wear.map V.int := by injection q4
    have l1 := h.lo
    cases e1 : ras with
    | nil => rw [e1] at l1; simp at l1
    | cons r rs =>
      rw [e1] at q3
      cases e2 : S.wear with
      | nil => rw [e2] at q3; cases q3
      | cons t ts => rw [e2] at q3; cases q3
  exact ⟨⟨dx, by rw [upd_ne h.nwx.symm]; exact ob⟩, by rw [upd_ne nwr]; exact h.rl, upd_same, fun i b us q1 q2 => by rw [upd_ne (h.naw q1)]; exact h.rs i b us q1 q2, h.nd, h.l1, by rw [hl]; exact h.l2, h.lo, h.hi, h.p0, h.p1, h.tx⟩
end Cl

/-! ### ClLam: a lambda handed to a def that calls it in a try; all but the tables stays -/
namespace Cl
open PySem PySem.Spec PyProof.Rows L2
open LamX (CodeO TabS Tabs ExtN TabB LamS lamEnv lamCx lam_make2 lam_start2)
section
variable {X : Cx} {pins : List (Addr × Obj)} {σ : L2.St} {H HZ : Hp} {s s1 : Shared}
/-- x() in the def that got the lambda x, in its try: what is raised is the try's -/
theorem pe_act2 {CXg : CXT} {Eg : XK} {Ng : List Str} {qg : Str} {sg : Scope} {g f c' : Addr} {cdg pm ctv : Value} {params : Arguments} {body : Expr} {scope : Scope} {k i : Nat} {a : Str} {pn : List (Addr × Obj)} {xe : Value → Shared → Prop} {W : WX} {t : XK → TE} {p1 p2 : Pos}
    (I : Inv X pins σ H s) (L : LamS X.env.scope scope) (hf : s.heap.get? f = some (PySem.W.kla_obj "<lambda>" (X.env.qual ++ "<lambda>") params body scope (cloFrom X.env.cells scope.names []) pm c' ctv)) (hfn : H f = none) (hfr : f ∉ frs X.stack)
    (hbind : bindArgs (PySem.W.kla_fn "<lambda>" (X.env.qual ++ "<lambda>") params body scope (cloFrom X.env.cells scope.names []) pm (.ref c') ctv) ⟨[], []⟩ = pure [])
    (tk : Takes ((cxOf CXg X.prog X.w X.K X.mg X.base Ng qg sg g cdg X.A X.stack s H Eg).tr pn xe) W) (hr : Rm (k + 1) (X.A.deeper (envOfC qg sg s.heap.objs.size g cdg)))
    (hbody : ∀ (A : Around) (outer : List Env) (s : Shared) (H : Hp) (E : XK), Rm k (A.deeper (lamEnv X scope s.heap.objs.size f c')) → PE (lamCx X A outer s H E scope f c') body (t E))
    (hN : Ng[i]? = some a) (hv : Vis sg a) (hd : (a == ("__debug__" : Str)) = false := by decide) (hcd : (a == ("__classdict__" : Str)) = false := by decide) :
    PE ((cxOf CXg X.prog X.w X.K X.mg X.base Ng qg sg g cdg X.A X.stack s H Eg).tr pn xe) (.Call (.Name a p1) [] [] p2)
      (fun σZ HZ Q => σZ[i]? = some (some (.ref f)) ∧ HZ c' = some (CodeO c' (X.env.qual ++ "<lambda>")) ∧ t (WE W σZ) σ HZ Q) := by
  constructor
  rintro pinsZ sZ σZ HZ Q IZ ⟨hs, hc, ht⟩
  have look := (pe_var (pos := p1) (i := i) hN hv hd hcd).run pinsZ sZ σZ HZ (fun v H1 => v = .ref f ∧ H1 = HZ) IZ ⟨.ref f, hs, rfl, rfl⟩
  refine wpAny_Call_Name_kw (thn look ?_)
  rintro u s1 ⟨v, H1, I1, r1, rfl, rfl⟩
  obtain rfl : u = Value.ref f := r1
  have stands : s1.heap.get? f = some (PySem.W.kla_obj "<lambda>" (X.env.qual ++ "<lambda>") params body scope (cloFrom X.env.cells scope.names []) pm c' ctv) := I1.base.keep f _ hf hfn hfr (fun z => nomatch (show f ∈ ([] : List Addr) from z))
  have un : Un (frs X.stack) [] H H1 s.heap s1.heap := I1.base
  obtain ⟨⟨oc, vs, tt, hoc, hdc, hvc⟩, _, _⟩ := I1.hok c' _ hc
  refine PySem.W.callWith_F0 ⟨_, _, _, _, stands⟩ ?_
  have pass : PassesAt (L2.CX X.prog X.w) ((cxOf CXg X.prog X.w X.K X.mg X.base Ng qg sg g cdg X.A X.stack s H Eg).tr pn xe) σZ (WE W σZ) := passAt tk σZ
  have rc : codeAny (model X.prog X.w) (X.A.deeper (envOfC qg sg s.heap.objs.size g cdg)) (.call (.ref f) ⟨[], []⟩) (CR (L2.CX X.prog X.w) (envOfC qg sg s.heap.objs.size g cdg :: X.stack) X.prog X.w H1 s1 Q (WE W σZ)) s1 := by
    refine PySem.W.kla_callFunE hr.room.depth stands rfl L.co L.gen rfl ⟨c', oc, vs, tt, rfl, hoc, hdc, hvc⟩ ?_
    rw [hbind]
    refine wpAny_pure (wpAny_newFunctionEnv (fun y hy => (L.own y hy).2) (fun y hy => absurd hy (by simp)) (fun h₁ hns hsb => ⟨I1.nolimit.fresh _ hsb, ?_⟩) L.kind)
    show codeAny _ _ (.expr body (lamEnv X scope s1.heap.objs.size f c')) _ _
    have kept : ∀ b o, s1.heap.get? b = some o → h₁.get? b = some o := fun b o e => hsb.extBut b o (Nat.ne_of_lt (Heap.lt_size e)) (Heap.get?_push_of_some _ e)
    have J : Inv (lamCx X (X.A.deeper (envOfC qg sg s.heap.objs.size g cdg)) (envOfC qg sg s.heap.objs.size g cdg :: X.stack) s1 H1 (WE W σZ) scope f c') [] σ H1 { s1 with heap := h₁, toks := s1.toks + ([] : List (Str × Value)).length } := lam_start2 I L I1.env0 hr.room.hd un hns kept
    refine PySem.W.kla_codeExpr (wpAny_mono ((hbody _ _ s1 H1 (WE W σZ) (hr.deeper _)).run [] _ _ H1 Q J ht) ?_ fun e s' hq => hq)
    rintro v s' ⟨w', H', J', rv, q⟩
    exact ⟨w', H', J'.os, J'.bare, J'.base, J'.hok, rv, q⟩
  refine wpAny_call (codeAny_mono rc ?_)
  rintro (e | fl) s' hq
  · exact pass pinsZ H1 s1 e s' I1 hq
  · cases fl with
    | ret u => exact I1.after hq
    | next | brk | cont => exact False.elim hq
end
/-- a def that calls what it gets, in a try: TT is what it makes of that -/
structure LamTo (P : Program) (w : World) (K : PySem.W.Frag) (mg : Str → Option Value) (base : Heap) (x a : Str) (k : Nat) (TT : (XK → Hp → VK → Prop) → Hp → VK → Prop) : Prop where
  ex : ∃ (g : Addr) (pg : Arguments) (bg : List Stmt) (sg : Scope) (dV kV doc pm cdv ct oc : Value) (an od : Option Addr) (osl : Array (Option Value)) (Ng : List Str),
    mg x = some (.ref g) ∧ PySem.W.keepIn K (.ref g) = true ∧ K.lookup g = some ⟨oc, od, .func (PySem.W.fnOf x x pg bg sg dV kV doc pm an cdv ct), osl⟩ ∧ PySem.W.codeIn K cdv x = true ∧ L2.Binds K (PySem.W.fnOf x x pg bg sg dV kV doc pm an cdv ct) [a] [] ∧
    FnScope Ng [a] sg ∧ Ng[0]? = some a ∧ Vis sg a ∧
    ∀ (A : Around) (stack : List Env) (s : Shared) (H : Hp) (f : Addr) (Q : VK) (tl : XK → Hp → VK → Prop) (ok : Hp → Prop), Rm k (A.deeper (envOfC x sg s.heap.objs.size g cdv)) →
      (∀ (W : WX) (pn : List (Addr × Obj)) (xe : Value → Shared → Prop) (p1 p2 : Pos), Takes ((cxOf CX0 P w K mg base Ng x sg g cdv A stack s H E0).tr pn xe) W →
        PE ((cxOf CX0 P w K mg base Ng x sg g cdv A stack s H E0).tr pn xe) (.Call (.Name a p1) [] [] p2) (fun σZ HZ Q => σZ[0]? = some (some (.ref f)) ∧ ok HZ ∧ tl (WE W σZ) HZ Q)) →
      ok H → TT tl H Q → ∃ t, PSs (cxOf CX0 P w K mg base Ng x sg g cdv A stack s H E0).nox bg t ∧ t { nx := fun _ H' => Q .non H', rt := Q } (L2.start Ng [.ref f]) H
def tLamT (T : List (Addr × Str)) (TT : (XK → Hp → VK → Prop) → Hp → VK → Prop) (t : XK → TE) : TE := fun σ H Q => Tabs T H ∧ ∀ H1, ExtN H H1 → Tabs T H1 → TT (fun E H' Q' => t E σ H' Q') H1 Q
/-- x(lambda: body) -/
theorem pe_lamto {X : Cx} (n : Nat) {T : List (Addr × Str)} {TT : (XK → Hp → VK → Prop) → Hp → VK → Prop} {x a : Str} {c P : Addr} {k : Nat} {params : Arguments} {body : Expr} {scope : Scope} {t : XK → TE} {p lpos pos : Pos}
    (M : LamTo X.prog X.w X.K X.mg X.base x a k TT) (hg : Gl X x) (TB : TabB X.base X.mg c P) (hcode : X.env.code = .ref c) (hmT : (P, X.env.qual ++ "<lambda>") ∈ T) (hu : ∀ p ∈ T, p.1 = P → p.2 = X.env.qual ++ "<lambda>")
    (hr : Rm (n + 2) X.A) (hk : k ≤ n + 1) (L : LamS X.env.scope scope) (hdef : defaultsOf params X.env = ([], []))
    (hbind : ∀ (q : Str) (cl : List (Str × Addr)) (pm cv ctv : Value), bindArgs (PySem.W.kla_fn "<lambda>" q params body scope cl pm cv ctv) ⟨[], []⟩ = pure [])
    (hbody : ∀ (A : Around) (outer : List Env) (s : Shared) (H : Hp) (E : XK) (f c' : Addr), Rm n (A.deeper (lamEnv X scope s.heap.objs.size f c')) → PE (lamCx X A outer s H E scope f c') body (t E))
    (hdb : (x == ("__debug__" : Str)) = false := by decide) (hd : (a == ("__debug__" : Str)) = false := by decide) (hcd : (a == ("__classdict__" : Str)) = false := by decide) :
    PE X (.Call (.Name x p) [.Lambda params body scope lpos] [] pos) (tLamT T TT t) := by
  constructor
  rintro pins s σ H Q I ⟨hT, h⟩
  obtain ⟨g, pg, bg, sg, dV, kV, doc, pm, cdv, ct, oc, an, od, osl, Ng, hm, hkp, lk, hcg, hb, Sg, hNg, hva, gives⟩ := M.ex
  refine wpAny_Call_Name_kw (ld_glob I hg hm ?_ hdb)
  refine PySem.W.callWith_K (h₀ := X.base) I.ok.mod.kin hkp ?_ (by rfl) (by rfl)
  show wpAny _ _ (spliced ((false, eval (.Lambda params body scope lpos) X.env) :: backTo pos (starEach [] X.env))) _ _ s
  refine Calls.spliced_cons (lam_make2 I TB hcode hmT hu hT hdef (L.has I.ok) ?_)
  intro f c' pm' ctv H1 s' I1 eN T1 hf hfn hfr hco
  refine Calls.spliced_nil ⟨I1.kIn, ?_⟩
  have rc : codeAny (model X.prog X.w) X.A (.call (.ref g) ⟨[.ref f], []⟩) (CR CX0 X.stack X.prog X.w H1 s' Q E0) s' := by
    refine LamX.run_ofS (k := n) (N := Ng) (ps := [a]) (us := [.ref f]) (vs := [.ref f]) lk hcg Sg (hr.room.mono (by omega)) I1.env0 (hb s' [.ref f] I1.kIn rfl) (.cons rfl .nil) rfl fun _ => ?_
    obtain ⟨t', ht', hq'⟩ := gives X.A X.stack s' H1 f Q (fun E H' Q' => t E σ H' Q') (fun HZ => HZ c' = some (CodeO c' (X.env.qual ++ "<lambda>"))) ((hr.deeper _).mono hk)
      (fun W pn xe p1 p2 tk => pe_act2 (i := 0) I1 L hf hfn hfr (hbind _ _ _ _ _) tk (hr.deeper _) (fun A outer s H E hr2 => hbody A outer s H E f c' hr2) hNg hva hd hcd) hco (h H1 eN T1)
    exact ⟨t', ht'.nox, hq'⟩
  refine wpAny_call (codeAny_mono rc ?_)
  rintro (e | fl) s2 hq
  · exact (show False from hq).elim
  · cases fl with
    | ret u => exact I1.after hq
    | next | brk | cont => exact False.elim hq
/-! how many of a list's flat things are equal -/
def rCountF (K : PySem.W.Frag) : V → List V → Hp → VK → Prop := fun x xs H Q => ∃ (a : Addr) (ys : List V) (y : V), x = V.ref a ∧ xs = [y] ∧ SqL K H a ys ∧ flatV y = true ∧ ys.all flatV = true ∧ Q (.int (ys.countP fun z => eqV z y : Nat)) H
section
variable {X : Cx}
theorem countF_its {H : Hp} {y : V} {uy : Value} : ∀ {ys : List V} {its : List Value}, Vals ys its → ys.all flatV = true → its.countP (eqU y) = ys.countP fun z => eqV z y
  | [], [], _, _ => rfl
  | z :: ys, u :: its, .cons r rs, f => by
    obtain ⟨f1, f2⟩ := Bool.and_eq_true_iff.mp f
    rw [List.countP_cons, List.countP_cons, countF_its (H := H) (uy := uy) rs f2, eqU_of r f1]
theorem mt_countF (K : PySem.W.Frag) (hK : X.K = K := by rfl) : MtR X "list.count" (rCountF K) := by
  subst hK
  intro pins s σ H x xs v us Q I rx rxs h
  obtain ⟨a, ys, y, rfl, rfl, hs, fy, fys, q⟩ := h
  cases rx
  obtain ⟨uy, rfl, ry⟩ := rxs.one
  obtain ⟨its, rv, ⟨⟨cls, dd, data, sl⟩, n, ho, hc, hdn, hd⟩, hlen⟩ := I.list hs
  simp only at hc hd
  subst hc hd
  refine call_meets PySem.F.slot_list_count ⟨_, ho, rfl⟩ PySem.F.entry_list_count (PySem.F.args_list_count_2 _ _) (SeqAt.list_countAt a its.toArray n dd sl uy (eqU y)) ⟨ho, fun u' hu' => mem_eqAt ry fy rv fys u' (by simpa using hu'), ?_⟩
  refine ⟨.int (ys.countP fun z => eqV z y : Nat), H, I.tok _, ⟨s.toks, ?_⟩, q⟩
  show Value.int ((its.toArray.toList.countP (eqU y) : Nat) : Int) s.toks = _
  rw [countF_its (H := H) (uy := uy) rv fys]
end
/-! a def that gets the caught exception, by its name -/
theorem roomHm {j k : Nat} {A : Around} {h : Option Value} (r : Rm k A) (l : j ≤ k) : L2H.RoomH j (A.mark h) := ⟨(r.mono l).room.dp, (r.mono l).room.un⟩
structure CalE (P : Program) (w : World) (K : PySem.W.Frag) (mg : Str → Option Value) (base : Heap) (x : Str) (k : Nat) (ps : List Str) (sp : Value → Option Addr → Addr → Sp) : Prop where
  ex : ∃ (f : Addr) (fd : FuncData), (∀ cls d, FnE P w K mg base CX0 k f fd ps cls d (sp cls d)) ∧ mg x = some (.ref f) ∧ PySem.W.keepIn K (.ref f) = true ∧ L2.Binds K fd ps []
section
variable {X : Cx} {k : Nat} {ps : List Str} {sp : Value → Option Addr → Addr → Sp} {x : Str} {q pos : Pos} {e : Expr} {es : List Expr} {t : TA} {a : Addr} {oe : Obj} {cls : Value} {d : Option Addr}
theorem pe_callE2 (C : CalE X.prog X.w X.K X.mg X.base x k ps sp) (hr : L2H.RoomH k X.A) (hp : (a, oe) ∈ X.pn) (hz : Zc cls d oe) (hf : ∃ vs, oe.data = .fields vs) (hg : Gl X x) (ha : PA X (e :: es) t) (hdb : (x == ("__debug__" : Str)) = false := by decide)
    (he : starEach (e :: es) X.env = (false, eval e X.env) :: starEach es X.env := by rfl) (hpl : (backTo pos (starEach es X.env)).any (·.1) = false := by rfl) : PE X (.Call (.Name x q) (e :: es) [] pos) (tCallE d (sp cls d a) t) := by
  obtain ⟨f, fd, F, hm, hk, hb⟩ := C.ex
  exact pe_callE (F cls d) hr hp hz hf hg hm hk hb ha hdb he hpl
end
end Cl

/-! ### ClLamEnd: defs that make lambdas; the law's own call where some of its defs do -/
namespace Cl
open PySem PySem.Spec PyProof.Rows L2
open LamX (CodeO TabS Tabs ExtN TabB)
/-- a def whose code object is at c -/
structure FunL (K : PySem.W.Frag) (x qual : Str) (st : Stmt) (f : Addr) (fd : FuncData) (c : Addr) : Prop where
  ex : ∃ (oc : Value) (od : Option Addr) (kV doc pm : Value) (an : Option Addr) (ct : Value) (osl : Array (Option Value)),
    fd = PySem.W.fnOf x qual (defArgs st) (defBody st) (defScope st) .none kV doc pm an (.ref c) ct ∧ K.lookup f = some ⟨oc, od, .func fd, osl⟩ ∧ PySem.W.codeIn K (.ref c) qual = true
section
variable {P : Program} {w : World} {K : PySem.W.Frag} {mg : Str → Option Value} {base : Heap}
theorem funl_mk {x qual : Str} {st : Stmt} {f c : Addr} {oc kV doc pm cd ct : Value} {od an : Option Addr} {osl : Array (Option Value)} (l : K.lookup f = some ⟨oc, od, .func (PySem.W.fnOf x qual (defArgs st) (defBody st) (defScope st) .none kV doc pm an cd ct), osl⟩)
    (h : PySem.W.codeIn K cd qual = true) (e : cd = .ref c) : FunL K x qual st f (PySem.W.fnOf x qual (defArgs st) (defBody st) (defScope st) .none kV doc pm an cd ct) c := by
  subst e
  exact ⟨_, _, _, _, _, _, _, _, rfl, l, h⟩
theorem gn_funL {x qual : Str} {st : Stmt} {f c : Addr} {fd : FuncData} {N ps : List Str} {k : Nat} {sp : Sp} (F : FunL K x qual st f fd c) (S : FnScope N ps (defScope st)) (len : ∀ vs H Q E, sp vs H Q E → vs.length = ps.length)
    (hb : ∀ (A : Around) (out : List Env) (s : Shared) (H : Hp) (vs : List V) (Q : VK) (E : XK), Rm k (A.deeper (envOfC qual (defScope st) s.heap.objs.size f (.ref c))) → sp vs H Q E →
      ∃ t, PSs (cxOf CX0 P w K mg base N qual (defScope st) f (.ref c) A out s H E).nox (defBody st) t ∧ t { nx := fun _ H' => Q .non H', rt := Q } (start N vs) H) : GnOk P w K mg base CX0 (k + 1) f fd ps sp := by
  obtain ⟨oc, od, kV, doc, pm, an, ct, osl, rfl, lk, hc⟩ := F.ex
  refine gn_of lk hc S len fun A out s H vs Q E hr hs => ?_
  obtain ⟨t, h1, h2⟩ := hb A out s H vs Q E hr hs
  exact ⟨t, h1.nox, h2⟩
end
/-- gn_law with tables: cs, the code objects and their tables -/
theorem gn_lawT {P : Program} {w : World} {K : PySem.W.Frag} {mg mb : Str → Option Value} {CX : CXT} {k : Nat} {fa a : Addr} {cs : List (Addr × Addr)} {fd : FuncData} {x : Str} {sp : Sp} {t : Shared} {vs : List Value} {ns : List Int}
    (inK : K.In t.heap) (gl : t.heap.Ns mainGlobals mg) (bl : t.heap.Ns builtinsNs mb) (bb : ∀ y : Str, y ≠ "__name__" → mb y = bootBuiltins y) (nolim : t.heap.NoLimit) (gens : t.gens = #[])
    (hT : ∀ p ∈ cs, t.heap.get? p.2 = some { cls := .none, data := .fields #[] }) (nT : ∀ p ∈ cs, K.lookup p.2 = none) (hC : ∀ p ∈ cs, PySem.W.CodeHd t.heap p.1 p.2)
    (hbm : ∃ (bm : Addr) (ob : Obj), mg "__builtins__" = some (.ref bm) ∧ bm ≠ builtinsNs ∧ t.heap.get? bm = some ob ∧ ob.cls = .type "module" ∧ ob.dict = some builtinsNs ∧ ob.data = .plain)
    (ha : t.heap.get? a = some { cls := .type "list", data := .seq vs.toArray }) (hin : IntsAre vs ns) (small : ns.length ≤ sizeLine) (hr : Room k callerA)
    (F : ∀ base : Heap, K.In base → base.Ns mainGlobals mg → (∀ p ∈ cs, TabB base mg p.1 p.2) → GnOk P w K mg base CX k fa fd [x] sp) (bd : ∀ (s : Shared) (u : Value), BindsTo s fd ⟨[u], []⟩ [(x, u)])
    (hsp : ∀ H : Hp, (∀ p ∈ cs, H p.2 = some (.tbl #[])) → SqL K H a (ns.map V.int) → sp [.ref a] H (fun v _ => v = .bl true) fun _ _ _ => False) (hx : ∀ H e s', CX [] H t (fun _ _ _ => False) e s' → False) :
    codeAny (model P w) callerA (.call (.ref fa) ⟨[.ref a], []⟩) (fun r s' => r = .ok (.ret (.bool true)) ∧ OldK t.heap s'.heap ∧ s'.os = t.os ∧ AllBare s'.gens) t := by
  have rel := vals_ints hin
  have same := hin.length
  obtain ⟨isT, eT⟩ : ∃ isT : Addr → Prop, isT = fun b => b ∈ cs.map (·.2) := ⟨_, rfl⟩
  have tabAt : ∀ b, isT b → t.heap.get? b = some { cls := .none, data := .fields #[] } := by
    intro b hb
    rw [eT] at hb
    obtain ⟨p, hp, rfl⟩ := List.mem_map.mp hb
    exact hT p hp
  have ofT : ∀ p ∈ cs, isT p.2 := fun p hp => by rw [eT]; exact List.mem_map.mpr ⟨p, hp, rfl⟩
  have notT : ¬ isT a := fun z => by
    have q := tabAt a z
    rw [ha] at q
    exact nomatch (show Data.seq vs.toArray _ = Data.fields #[] from congrArg Obj.data (Option.some.inj q))
  -- what is tracked: the tables, and the script where the top doesn't know it
  obtain ⟨H, hH, hS, ok, only, apart⟩ : ∃ H : Hp, (∀ p ∈ cs, H p.2 = some (.tbl #[])) ∧ SqL K H a (ns.map V.int) ∧ HOk P w H t.heap ∧
      (∀ b u, H b = some u → (isT b ∧ u = .tbl #[]) ∨ (b = a ∧ ∃ o, u = .frz o (.lst (ns.map V.int)))) ∧ (∀ u, H a = some u → K.lookup a = none) := by
    classical
    obtain ⟨G, hG⟩ : ∃ G : Hp, G = fun b => if isT b then some (.tbl #[]) else none := ⟨_, rfl⟩
    have gT : ∀ b, isT b → G b = some (.tbl #[]) := fun b hb => by rw [hG]; exact if_pos hb
    have gN : ∀ b, ¬ isT b → G b = none := fun b hb => by rw [hG]; exact if_neg hb
    have gO : ∀ b u, G b = some u → isT b ∧ u = .tbl #[] := fun b u z => by
      by_cases hb : isT b
      · rw [gT b hb] at z
        exact ⟨hb, (Option.some.inj z).symm⟩
      · rw [gN b hb] at z
        cases z
    have gK : ∀ b u, G b = some u → ObjOk P w G t.heap b u := fun b u z => by
      obtain ⟨hb, rfl⟩ := gO b u z
      exact tabAt b hb
    cases q : K.lookup a with
    | some o =>
      have e := inK a o q
      rw [ha] at e
      cases e
      exact ⟨G, fun p hp => gT _ (ofT p hp), .inr ⟨_, vs.toArray, _, q, rfl, rfl, rfl, by rw [List.size_toArray, same]; exact small, by simpa using rel⟩, gK, (fun b u z => .inl (gO b u z)), fun u z => by rw [gN a notT] at z; cases z⟩
    | none =>
      refine ⟨upd G a (.frz { cls := .type "list", data := .seq vs.toArray } (.lst (ns.map V.int))), fun p hp => ?_, .inl (.inr ⟨_, upd_same⟩), fun b u z => ?_, fun b u z => ?_, fun _ _ => rfl⟩
      · rw [upd_ne (fun e => notT (by rw [← e]; exact ofT p hp))]
        exact gT _ (ofT p hp)
      · by_cases hb : b = a
        · subst hb
          rw [upd_same] at z
          cases z
          exact ⟨ha, by rw [List.length_map]; exact small, vs, _, rel, ha⟩
        · rw [upd_ne hb] at z
          obtain ⟨hb2, rfl⟩ := gO b u z
          exact tabAt b hb2
      · by_cases hb : b = a
        · subst hb
          rw [upd_same] at z
          cases z
          exact .inr ⟨rfl, _, rfl⟩
        · rw [upd_ne hb] at z
          exact .inl (gO b u z)
  have free : ∀ {b : Addr} {o : Obj}, t.heap.get? b = some o → (∀ xs n, o.data ≠ .seq xs n) → o.data ≠ .fields #[] → H b = none := by
    intro b o e n1 n2
    cases z : H b with
    | none => rfl
    | some u =>
      rcases only b u z with ⟨hb, _⟩ | ⟨rfl, _⟩
      · rw [tabAt b hb] at e
        cases e
        exact (n2 rfl).elim
      · rw [ha] at e
        cases e
        exact (n1 _ _ rfl).elim
  have hid : ∀ {b : Addr} {o : Obj}, t.heap.get? b = some o → H b = none → (hidT t.heap H).get? b = some o := fun e n => hidT_get e n
  have nsH : ∀ {b : Addr} {m : Str → Option Value}, t.heap.Ns b m → (hidT t.heap H).Ns b m := by
    rintro b m ⟨o, es, ep, e, d, r⟩
    refine ⟨o, es, ep, hid e (free e (fun xs n z => ?_) fun z => ?_), d, r⟩ <;> (rw [d] at z; cases z)
  have inH : K.In (hidT t.heap H) := by
    intro b o e
    refine hid (inK b o e) ?_
    cases z : H b with
    | none => rfl
    | some u =>
      rcases only b u z with ⟨hb, _⟩ | ⟨rfl, _⟩
      · rw [eT] at hb
        obtain ⟨p, hp, rfl⟩ := List.mem_map.mp hb
        rw [nT p hp] at e
        cases e
      · rw [apart u z] at e
        cases e
  have TB : ∀ p ∈ cs, TabB (hidT t.heap H) mg p.1 p.2 := by
    intro p hp
    have atP := hT p hp
    refine ⟨?_, ?_, fun z => ?_⟩
    · obtain ⟨o, us, file, tf, flags, tg, inF, text, tt, e1, r1, r2, r3, r⟩ := hC p hp
      refine ⟨o, us, file, tf, flags, tg, inF, text, tt, hid e1 (free e1 (fun xs n z => ?_) fun z => ?_), r1, r2, r3, r⟩
      · rw [r2] at z
        cases z
      · rw [r2] at z
        cases z
        cases r3
    · obtain ⟨bm, ob, b1, b2, b3, b4, b5, b6⟩ := hbm
      refine ⟨bm, ob, b1, b2, fun e => ?_, fun e => ?_, hid b3 (free b3 (fun xs n z => ?_) fun z => ?_), b4, b5, b6⟩
      · obtain ⟨o, es, ep, e1, d, _⟩ := gl
        rw [e, e1] at b3
        cases b3
        rw [d] at b6
        cases b6
      · rw [e, atP] at b3
        cases b3
        cases b6
      · rw [b6] at z
        cases z
      · rw [b6] at z
        cases z
    · obtain ⟨o, es, ep, e1, d, _⟩ := gl
      rw [z, atP] at e1
      cases e1
      cases d
  obtain ⟨mc, c1, c2⟩ := nolim
  have md : Mod K mg (hidT t.heap H) := ⟨inH, nsH gl, ⟨mb, nsH bl, bb⟩, ⟨mc, nsH c1, c2⟩⟩
  have e0 : Env0 P w K mg (hidT t.heap H) callerA [] t H := ⟨rfl, md, fun b o e => of_hidT e, Nat.le_of_eq (hidT_size _ _), trivial, fun b hb => (List.not_mem_nil (show b ∈ ([] : List Addr) from hb)).elim, ok, .of_eq gens⟩
  refine codeAny_mono ((F _ inH (nsH gl) TB).run callerA [] t H ⟨[.ref a], []⟩ [.ref a] [.ref a] _ _ ⟨hr, rfl⟩ e0 (bd t (.ref a)) (.cons rfl .nil) (hsp H hH hS)) ?_
  rintro (e | fl) s' h
  · exact (hx H e s' h).elim
  cases fl with
  | next | brk | cont => exact h.elim
  | ret u =>
    obtain ⟨v, H1, os, bare, un, ok1, r1, q⟩ := h
    obtain rfl : v = .bl true := q
    obtain rfl : u = Value.bool true := r1
    have stays : ∀ b o, ¬ isT b → t.heap.get? b = some o → s'.heap.get? b = some o := by
      intro b o nb e
      cases z : H b with
      | none => exact un.keep b o e z (List.not_mem_nil (a := b)) (List.not_mem_nil (a := b))
      | some u =>
        rcases only b u z with ⟨hb, _⟩ | ⟨rfl, ob, rfl⟩
        · exact absurd hb nb
        · have e1 := (ok b _ z).1
          have e2 := (ok1 b _ (un.frzs b ob _ z)).1
          rw [e] at e1
          cases e1
          exact e2
    have grown : ∀ p ∈ cs, ∃ more : Array Value, s'.heap.get? p.2 = some { cls := .none, data := .fields more } := fun p hp => by
      obtain ⟨more, z⟩ := un.tbls p.2 #[] (hH p hp)
      exact ⟨_, ok1 p.2 _ z⟩
    refine ⟨rfl, ⟨fun b o e => ?_, fun b o e => ?_⟩, os, bare⟩
    · by_cases hb : isT b
      · rw [eT] at hb
        obtain ⟨p, hp, rfl⟩ := List.mem_map.mp hb
        obtain ⟨more, hm⟩ := grown p hp
        rw [hT p hp] at e
        cases e
        exact .inr (.inl ⟨((hC p hp).tab (hT p hp)).isCodeTable, rfl, #[], more, rfl, by rw [Array.empty_append]; exact hm⟩)
      · exact .inl (stays b o hb e)
    · by_cases hb : isT b
      · rw [eT] at hb
        obtain ⟨p, hp, rfl⟩ := List.mem_map.mp hb
        obtain ⟨more, hm⟩ := grown p hp
        exact ⟨_, hm⟩
      · exact ⟨o, stays b o hb e⟩
theorem gn_walkT {l : PySem.W.OpenLaw} {n k : Nat} {q : Program} {loose : List Str} {XP : (Str → Option Value) → Heap → Prop} {YP : World → Heap → Prop} {d : DefRec} {K : Params → PySem.W.Frag} {CX : World → CXT} {x : Str}
    (hn : l.most = some n) (hn2 : n ≤ sizeLine) (hdf : d.params.defaults = []) (hr : Room k callerA) (hY : ∀ (w : World) (h : Heap), YP w h → (K w.params).In h)
    (F : ∀ (w : World) (mg : Str → Option Value) (fa : Addr) (h : Heap), YP w h → (K w.params).In h → h.Ns mainGlobals mg → mg d.name = some (.ref fa) →
      ∃ (fd : FuncData) (cs : List (Addr × Addr)) (sp : Sp), (∀ p ∈ cs, h.get? p.2 = some { cls := .none, data := .fields #[] }) ∧ (∀ p ∈ cs, (K w.params).lookup p.2 = none) ∧ (∀ p ∈ cs, PySem.W.CodeHd h p.1 p.2) ∧ (∀ (s : Shared) (u : Value), BindsTo s fd ⟨[u], []⟩ [(x, u)]) ∧
        (∀ (H : Hp) (a : Addr) (ns : List Int), ns.length ≤ n → (∀ p ∈ cs, H p.2 = some (.tbl #[])) → SqL (K w.params) H a (ns.map V.int) → sp [.ref a] H (fun v _ => v = .bl true) fun _ _ _ => False) ∧
        ∀ base : Heap, (K w.params).In base → base.Ns mainGlobals mg → (∀ p ∈ cs, TabB base mg p.1 p.2) → GnOk l.prog w (K w.params) mg base (CX w) k fa fd [x] sp)
    (hx : ∀ (w : World) (H : Hp) (s : Shared) (e : Value) (s' : Shared), CX w [] H s (fun _ _ _ => False) e s' → False) : PySem.W.WalkO q loose XP YP l.row.toRowW d [] (fun f vs => PySem.call f vs) := by
  refine Att.attach_call hn hdf ?_
  intro w s₀ t mg mb fa o pm cd doc a vs ns G Y _ _ _ hmg hobj hints hlen hg
  obtain ⟨fd, cs, sp, h1, h2, h3, hb, hs, hF⟩ := F w mg fa _ Y (hY w _ Y) G.T.g hmg
  exact gn_lawT (hY w _ Y) G.T.g G.T.b G.T.builtins G.T.nolimit hg h1 h2 h3 G.T.bmain hobj hints (Nat.le_trans hlen hn2) hr hF hb (fun H hH hS => hs H a ns hlen hH hS) fun H e s' => hx w H t e s'
/-! defs with defaults -/
structure FunV (K : PySem.W.Frag) (x qual : Str) (st : Stmt) (f : Addr) (fd : FuncData) : Prop where
  ex : ∃ (oc : Value) (od : Option Addr) (dV kV doc pm : Value) (an : Option Addr) (cdv ct : Value) (osl : Array (Option Value)),
    fd = PySem.W.fnOf x qual (defArgs st) (defBody st) (defScope st) dV kV doc pm an cdv ct ∧ K.lookup f = some ⟨oc, od, .func fd, osl⟩ ∧ PySem.W.codeIn K cdv qual = true
section
variable {P : Program} {w : World} {K : PySem.W.Frag} {mg : Str → Option Value} {base : Heap}
theorem gn_funXV {x qual : Str} {st : Stmt} {f : Addr} {fd : FuncData} {N ps : List Str} {k : Nat} {sp : Sp} (F : FunV K x qual st f fd) (S : FnScope N ps (defScope st)) (len : ∀ vs H Q E, sp vs H Q E → vs.length = ps.length)
    (hb : ∀ (cdv : Value) (A : Around) (out : List Env) (s : Shared) (H : Hp) (vs : List V) (Q : VK) (E : XK), Rm k (A.deeper (envOfC qual (defScope st) s.heap.objs.size f cdv)) → sp vs H Q E →
      ∃ t, PSs (cxOf (L2.CX P w) P w K mg base N qual (defScope st) f cdv A out s H E) (defBody st) t ∧ t { nx := fun _ H' => Q .non H', rt := Q } (start N vs) H) : GnOk P w K mg base (L2.CX P w) (k + 1) f fd ps sp := by
  obtain ⟨oc, od, dV, kV, doc, pm, an, cdv, ct, osl, rfl, lk, hc⟩ := F.ex
  exact gn_of lk hc S len fun A out s H vs Q E hr hs => hb cdv A out s H vs Q E hr hs
theorem kb_dflt {x qual : Str} {params : Arguments} {body : List Stmt} {scope : Scope} {D : Addr} {kV doc pm cdv ct : Value} {an : Option Addr} {o : Obj} {its : List Value} {m n : Nat} {ps ks : List Str} (lD : K.lookup D = some o) (oD : o.data = .seq its.toArray m)
    (gu : List Value → List Value → List Value) (gv : List V → List V → List V) (hrel : ∀ {vs zs : List V} {us ws : List Value}, Vals vs us → Vals zs ws → Vals (gv vs zs) (gu us ws))
    (h : ∀ us ws : List Value, us.length = n → ws.length = ks.length → ∃ k, bindArgs (PySem.W.fnOf x qual params body scope (.ref D) kV doc pm an cdv ct) ⟨us, ks.zip ws⟩ = seqItems? (.ref D) >>= k ∧ k (some its.toArray) = pure (ps.zip (gu us ws))) :
    KBn K (PySem.W.fnOf x qual params body scope (.ref D) kV doc pm an cdv ct) ps n ks gu gv := by
  refine ⟨fun s us ws X l1 l2 => ?_, fun r1 r2 => hrel r1 r2⟩
  obtain ⟨k, e1, e2⟩ := h us ws l1 l2
  refine BindsTo.of_looks fun M => ?_
  rw [e1]
  exact looks_items X lD oD (.of_pure e2)
end
theorem kb_kwd {K : PySem.W.Frag} {x qual : Str} {params : Arguments} {body : List Stmt} {scope : Scope} {D : Addr} {doc pm cdv ct : Value} {an : Option Addr} {n : Nat} {ps ks : List Str} {q : Str × Value} (lq : PySem.W.nsIn K D q.1 = some (some q.2))
    (gu : List Value → List Value → List Value) (gv : List V → List V → List V) (hrel : ∀ {vs zs : List V} {us ws : List Value}, Vals vs us → Vals zs ws → Vals (gv vs zs) (gu us ws))
    (h : ∀ us ws : List Value, us.length = n → ws.length = ks.length → KwChain D [q] (bindArgs (PySem.W.fnOf x qual params body scope .none (.ref D) doc pm an cdv ct) ⟨us, ks.zip ws⟩) (ps.zip (gu us ws))) :
    KBn K (PySem.W.fnOf x qual params body scope .none (.ref D) doc pm an cdv ct) ps n ks gu gv := by
  refine ⟨fun s us ws X l1 l2 => BindsTo.of_looks fun M => KwChain.looks X (fun p hp => ?_) (h us ws l1 l2), fun r1 r2 => hrel r1 r2⟩
  rw [List.mem_singleton.mp hp]
  exact lq
/-- the law's promise, where its defs make lambdas -/
def sp_lawT (K : PySem.W.Frag) (T : List (Addr × Str)) : Sp := fun vs H Q _ => ∃ (a : Addr) (ns : List Int), vs = [.ref a] ∧ SqL K H a (ns.map V.int) ∧ ns.length ≤ 63 ∧ Tabs T H ∧ ∀ H', Q (.bl true) H'
/-! what is new since H0 (or was a table) may change -/
def NwT (H0 : Hp) (b : Addr) : Prop := ∀ o, H0 b = some o → ∃ ps, o = .tbl ps
theorem NwT.of {H0 H : Hp} {b : Addr} (e : ExtN H0 H) (n : H b = none) : NwT H0 b := fun o q => Classical.byContradiction fun z => by
  rw [e _ _ q (fun ps h => z ⟨ps, h⟩)] at n
  cases n
theorem ext_same {H0 H1 H2 : Hp} (e : ExtN H0 H1) (s : Same H1 H2) : ExtN H0 H2 := fun b o h m => s b o (e b o h m)
theorem ext_but {H0 H1 H2 : Hp} {p : Addr} (e : ExtN H0 H1) (n : NwT H0 p) (s : SameBut p H1 H2) : ExtN H0 H2 := fun b o h m => s b o (e b o h m) fun q => by
  obtain ⟨ps, z⟩ := n o (by rw [← q]; exact h)
  exact m ps z
theorem codeO_lst {c : Addr} {q : Str} {xs : List V} : CodeO c q ≠ .lst xs := fun z => by
  unfold CodeO at z
  cases z
theorem codeO_ins {c : Addr} {q : Str} {C : Addr} {dx : Addr} {fs : List (Str × V)} : CodeO c q ≠ .ins C dx fs := fun z => by
  unfold CodeO at z
  cases z
theorem tabs_butO {T : List (Addr × Str)} {H1 H2 : Hp} {p : Addr} {o : HO} (t : Tabs T H1) (h : H1 p = some o) (n1 : ∀ ps, o ≠ .tbl ps) (n2 : ∀ c q, CodeO c q ≠ o) (s : SameBut p H1 H2) : Tabs T H2 := fun r hr => by
  obtain ⟨ps, h1, h2, h3⟩ := t r hr
  refine ⟨ps, s _ _ h1 (fun e => by rw [e, h] at h1; exact n1 _ (Option.some.inj h1)), h2, fun pos cv hc => ?_⟩
  obtain ⟨c, e1, e2⟩ := h3 pos cv hc
  exact ⟨c, e1, s _ _ e2 (fun e => n2 _ _ (Option.some.inj (e2.symm.trans (by rw [e]; exact h))))⟩
theorem tabs_but {T : List (Addr × Str)} {H1 H2 : Hp} {p : Addr} {xs : List V} (t : Tabs T H1) (h : H1 p = some (.lst xs)) (s : SameBut p H1 H2) : Tabs T H2 :=
  tabs_butO t h (fun _ z => by cases z) (fun _ _ => codeO_lst) s
theorem sql_ext {K : PySem.W.Frag} {H0 H1 : Hp} {a : Addr} {xs : List V} (h : SqL K H0 a xs) (e : ExtN H0 H1) : SqL K H1 a xs := by
  rcases h with (h | ⟨o, h⟩) | h
  · exact .inl (.inl (e _ _ h (fun _ z => by cases z)))
  · exact .inl (.inr ⟨o, e _ _ h (fun _ z => by cases z)⟩)
  · exact .inr h
end Cl

namespace Cl
open PySem L2
def topS (i : Nat) : Stmt := PySem.Challenge.pw_cleanedlog_k26_sizes.main.body.getD i (.Pass ⟨0, 0, 0, 0⟩)
section
variable {P : Program} {w : World} {K : PySem.W.Frag} {mg : Str → Option Value} {base : Heap} {T : List (Addr × Str)}
abbrev s_is_within : Stmt := topS 27
abbrev N_is_within : List Str := ["thing", "least", "most"]
theorem sc_is_within : FnScope N_is_within ["thing", "least", "most"] (defScope s_is_within) := ⟨rfl, rfl, rfl, by decide +kernel, rfl, by decide +kernel, by decide +kernel⟩
def sp_is_within (K : PySem.W.Frag) : Sp := fun vs H Q _ => ∃ (v : V) (lo hi : Int), vs = [v, .int lo, .int hi] ∧ Th K H v ∧ Q (.bl (withinV v lo hi)) H
theorem ok_is_within {f : Addr} {fd : FuncData} (F : Fun K "is_within" "is_within" s_is_within f fd) (B : Bt mg) : GnOk P w K mg base CX0 1 f fd ["thing", "least", "most"] (sp_is_within K) := by
  refine gn_fun F sc_is_within (fun vs H Q E h => ?_) (fun cdv A outer s H vs Q E hr h => ?_)
  · obtain ⟨v, lo, hi, rfl, _⟩ := h
    rfl
  · obtain ⟨v, lo, hi, rfl, hv, k⟩ := h
    refine ⟨_, (pss_one (ps_ret (pe_and (pe_callB (call_isiK K) (by rfl) B.isinstance (by decide +kernel) (pa_cons (pv 0) (pa_cons (pe_bltn (v := .ty "int") (by rfl) B.int (by decide +kernel) rfl) pa_nil))) (pe_and (pe_not (pe_callB (call_isiK K) (by rfl) B.isinstance (by decide +kernel) (pa_cons (pv 0) (pa_cons (pe_bltn (v := .ty "bool") (by rfl) B.bool (by decide +kernel) rfl) pa_nil)))) (pe_one (pe_chain op_le op_le (pv 1) (pv 0) (pv 2))))))), ?_⟩
    obtain ⟨t, b1, b2, b3, ht, k1, k2, k3, hi1, hs1⟩ := hv
    refine ⟨_, rfl, _, _, t, _, _, rfl, .ty _, ht, k1, _, rfl, ?_⟩
    rcases hi1 with ⟨n, rfl, rfl, rfl⟩ | ⟨hn, hb⟩
    · refine iteT ?_
      refine ⟨_, rfl, _, _, t, _, _, rfl, .ty _, ht, k2, _, rfl, _, rfl, ?_⟩
      refine iteT ?_
      refine ⟨_, rfl, _, rfl, _, _, rfl, rfl, _, rfl, ?_⟩
      by_cases c : lo ≤ n
      · refine iteT' (decide_eq_true c) ?_
        refine ⟨_, rfl, _, _, rfl, rfl, ?_⟩
        have e : withinV (.int n) lo hi = decide (n ≤ hi) := by
          show (decide (lo ≤ n) && decide (n ≤ hi)) = _
          rw [decide_eq_true c, Bool.true_and]
        rw [e] at k
        exact k
      · refine iteF' (decide_eq_false c) ?_
        have e : withinV (.int n) lo hi = false := by
          show (decide (lo ≤ n) && decide (n ≤ hi)) = _
          rw [decide_eq_false c, Bool.false_and]
        rw [e] at k
        exact k
    · rw [withinV_no hn] at k
      cases b1 with
      | false => exact iteF k
      | true =>
        have hb2 : b2 = true := hb.elim (fun h => (by cases h)) id
        subst hb2
        refine iteT ?_
        refine ⟨_, rfl, _, _, t, _, _, rfl, .ty _, ht, k2, _, rfl, _, rfl, ?_⟩
        exact iteF k
abbrev s_Disk_init : Stmt := inClass (topS 28) 0
abbrev N_Disk_init : List Str := ["self", "segments", "places", "segment"]
theorem sc_Disk_init : FnScope N_Disk_init ["self", "segments", "places"] (defScope s_Disk_init) := ⟨rfl, rfl, rfl, by decide +kernel, rfl, by decide +kernel, by decide +kernel⟩
def newD (n m : Int) : DS := ⟨List.replicate n.toNat [], List.replicate n.toNat 0, m, 0, none, 0, false⟩
def sp_Disk_init (K : PySem.W.Frag) (C E0 : Addr) : Sp := fun vs H Q E => ∃ (x dx : Addr) (v u : V), vs = [.ref x, v, u] ∧ H x = some (.ins C dx []) ∧ Th K H v ∧ Th K H u ∧
  (∀ n m : Int, v = .int n → u = .int m → 4 ≤ n → n ≤ 8 → 6 ≤ m → m ≤ 16 → ∀ (rl wl : Addr) (ras : List Addr) (H' : Hp), SameBut x H H' → H rl = none → H wl = none → (∀ a ∈ ras, H a = none) → Dk C H' x rl wl ras (newD n m) → Q .non H') ∧
  ((withinV v 4 8 = false ∨ withinV u 6 16 = false) → E (.ref E0) none H)
theorem dk_all {rl wl : Addr} {m : Int} : putF "is_over" (V.bl false) (putF "signs_kept" (V.int 0) (putF "writes_left" V.non (putF "count_of_writes" (V.int 0) (putF "many_places" (V.int m) (putF "erasings" (V.ref wl) (putF "written_rows" (V.ref rl) [])))))) = dkF rl wl m 0 none 0 false := by
  kernel_rfl
theorem withinV_int {v : V} {lo hi : Int} (h : withinV v lo hi = true) : ∃ n, v = .int n ∧ lo ≤ n ∧ n ≤ hi := by
  cases v with
  | int n =>
    obtain ⟨a, b⟩ := Bool.and_eq_true_iff.mp (show (decide (lo ≤ n) && decide (n ≤ hi)) = true from h)
    exact ⟨n, rfl, of_decide_eq_true a, of_decide_eq_true b⟩
  | _ => cases h
theorem ok_Disk_init {f : Addr} {fd : FuncData} (F : FunV K "__init__" "Disk.__init__" s_Disk_init f fd) (B : Bt mg) {A_NoDisk : Addr} {A_Disk : Addr} (T_Disk : CF K mg "Disk" A_Disk ["written_rows", "erasings", "many_places", "count_of_writes", "writes_left", "signs_kept", "is_over"]) (XC_NoDisk : XCls K mg "NoDisk" A_NoDisk) (XN_NoDisk : PySem.W.excIn K A_NoDisk [.type "ValueError", .type "Exception", .type "BaseException", .type "object"] "ValueError.__new__" = true) (C_is_within : Cal P w K mg base CX0 "is_within" 1 ["thing", "least", "most"] (sp_is_within K)) {tk_SEGMENTS : Tok} (g_SEGMENTS : mg "SEGMENTS" = some (.int 6 tk_SEGMENTS)) {tk_PLACES : Tok} (g_PLACES : mg "PLACES" = some (.int 12 tk_PLACES)) {tk_LEAST_SEGMENTS : Tok} (g_LEAST_SEGMENTS : mg "LEAST_SEGMENTS" = some (.int 4 tk_LEAST_SEGMENTS)) {tk_MOST_SEGMENTS : Tok} (g_MOST_SEGMENTS : mg "MOST_SEGMENTS" = some (.int 8 tk_MOST_SEGMENTS)) {tk_LEAST_PLACES : Tok} (g_LEAST_PLACES : mg "LEAST_PLACES" = some (.int 6 tk_LEAST_PLACES)) {tk_MOST_PLACES : Tok} (g_MOST_PLACES : mg "MOST_PLACES" = some (.int 16 tk_MOST_PLACES)) : GnOk P w K mg base (L2.CX P w) 2 f fd ["self", "segments", "places"] (sp_Disk_init K A_Disk A_NoDisk) := by
  refine gn_funXV F sc_Disk_init (fun vs H Q E h => ?_) (fun cdv A outer s H vs Q E hr h => ?_)
  · obtain ⟨x, dx, v, u, rfl, _⟩ := h
    rfl
  · obtain ⟨x, dx, v, u, rfl, hx, hv, hu, kin, kout⟩ := h
    refine ⟨_, (pss_cons (ps_if (PW.pt (pw_or (pt_not (pt_val (pe_cal C_is_within (hr.mono (by decide)) (by rfl) pass0 (pa_cons (pv 1) (pa_cons (pe_glob (by rfl) g_LEAST_SEGMENTS (rel_i _ _)) (pa_cons (pe_glob (by rfl) g_MOST_SEGMENTS (rel_i _ _)) pa_nil)))))) (pw_or1 (pt_not (pt_val (pe_cal C_is_within (hr.mono (by decide)) (by rfl) pass0 (pa_cons (pv 2) (pa_cons (pe_glob (by rfl) g_LEAST_PLACES (rel_i _ _)) (pa_cons (pe_glob (by rfl) g_MOST_PLACES (rel_i _ _)) pa_nil)))))))))
      (pss_one (ps_raise rfl (takes_of rfl rfl rfl rfl) (pmk_xo XC_NoDisk XN_NoDisk (by rfl))))
      pss_nil)
    (pss_cons (ps_fld (pv 0) (pe_lc (own := [("segment", 3)]) (g := gName 3) (tt := tYes) (by rfl) sc_Disk_init.nd (pi_range1 (by rfl) B.range (pa_cons (pv 1) pa_nil)) (blkOk_by (N := N_Disk_init) (sc := defScope s_Disk_init) (by decide +kernel)) (fun _ _ _ _ _ => pg_name (i := 3) sc_Disk_init.nd rfl (Or.inl rfl)) (fun _ _ _ _ _ => pts_nil) (fun _ _ _ _ _ => (pe_lst pa_nil))) rfl)
    (pss_cons (ps_fld (pv 0) (pe_op op_rep (pe_lst (pa_cons pe_int pa_nil)) (pv 1)) rfl)
    (pss_cons (ps_fld (pv 0) (pv 2) rfl)
    (pss_cons (ps_fld (pv 0) pe_int rfl)
    (pss_cons (ps_fld (pv 0) pe_non rfl)
    (pss_cons (ps_fld (pv 0) pe_int rfl)
    (pss_one (ps_fld (pv 0) pe_bl rfl))))))))), ?_⟩
    refine ⟨_, rfl, v, 4, 8, rfl, hv, _, rfl, ?_⟩
    cases e1 : withinV v 4 8 with
    | false => exact iteT (iteT (kout (.inl e1)))
    | true =>
    refine iteF ?_
    refine ⟨_, rfl, u, 6, 16, rfl, hu, _, rfl, ?_⟩
    cases e2 : withinV u 6 16 with
    | false => exact iteT (kout (.inr e2))
    | true =>
    refine iteF ?_
    obtain ⟨n, rfl, n1, n2⟩ := withinV_int e1
    obtain ⟨m, rfl, m1, m2⟩ := withinV_int e2
    refine ⟨_, rfl, n, rfl, by omega, by omega, fun D hD => lc_range (lo := 0) (n := n.toNat) (fun i H1 => ∃ ras : List Addr, H1 D = some (.lst (ras.map V.ref)) ∧ ras.length = i ∧ ras.Nodup ∧ (∀ a ∈ ras, H a = none ∧ H1 a = some (.lst []) ∧ a ≠ D) ∧ Same H H1) ⟨[], upd_same, rfl, List.nodup_nil, (fun _ h => nomatch h), Same.new hD⟩ ?_ ?_⟩
    · rintro i H1 hi ⟨ras, h1, l1, nd, hr, s1⟩
      refine ⟨rfl, ?_⟩
      refine ⟨by decide, fun a ha => ?_⟩
      have naD : a ≠ D := (ne_of_none h1 ha).symm
      have e3 : Same H1 (upd H1 a (.lst [])) := Same.new ha
      refine ⟨_, e3 _ _ h1, sz_lt (by rw [List.length_map]; omega), ras ++ [a], ?_, by rw [List.length_append, l1]; rfl, ?_, fun b hb => ?_, Same.newer (s1.trans e3) hD⟩
      · rw [upd_same, List.map_append]
        rfl
      · refine List.nodup_append.mpr ⟨nd, by simp, fun b hb c hc => ?_⟩
        rw [List.mem_singleton.mp hc]
        exact fun z => by
          have := (hr b hb).2.1
          rw [z, ha] at this
          cases this
      · rcases List.mem_append.mp hb with hb | hb
        · obtain ⟨q1, q2, q3⟩ := hr b hb
          exact ⟨q1, by rw [upd_ne q3]; exact e3 _ _ q2, q3⟩
        · rw [List.mem_singleton.mp hb]
          exact ⟨same_none s1 ha, by rw [upd_ne naD]; exact upd_same, naD⟩
    · rintro H1 ⟨ras, h1, l1, nd, hr, s1⟩
      have nxD : x ≠ D := ne_of_none hx hD
      refine ⟨_, rfl, x, A_Disk, dx, [], rfl, s1 _ _ hx, T_Disk.cl, T_Disk.no _ (by simp), by decide, ?_⟩
      refine ⟨(by show 1 ≤ sizeLine; decide), fun l hl => ?_⟩
      have nxl : x ≠ l := ne_of_none upd_same hl
      refine ⟨_, rfl, l, n, _, rfl, rfl, upd_same, by omega, by omega, by show 1 * n.toNat ≤ sizeLine; rw [sizeLine_eq]; omega, fun p hp => ?_⟩
      have rep : (List.replicate n.toNat [V.int 0]).flatten = (List.replicate n.toNat (0 : Int)).map V.int := by
        rw [List.map_replicate]
        induction n.toNat with
        | zero => rfl
        | succ k ih => rw [List.replicate_succ, List.flatten_cons, ih, List.replicate_succ]; rfl
      rw [rep]
      have hx2 : (upd (upd (upd H1 x (.ins A_Disk dx (putF "written_rows" (V.ref D) []))) l (.lst [V.int 0])) p (.lst ((List.replicate n.toNat (0 : Int)).map V.int))) x = some (.ins A_Disk dx (putF "written_rows" (V.ref D) [])) := Same.new hp _ _ (Same.new hl _ _ upd_same)
      refine ⟨_, rfl, x, A_Disk, dx, _, rfl, hx2, T_Disk.cl, T_Disk.no _ (by simp), fewS (by decide), ?_⟩
      refine ⟨_, rfl, _, rfl, x, A_Disk, dx, _, rfl, upd_same, T_Disk.cl, T_Disk.no _ (by simp), fewS (fewS (by decide)), ?_⟩
      refine ⟨_, rfl, x, A_Disk, dx, _, rfl, upd_same, T_Disk.cl, T_Disk.no _ (by simp), fewS (fewS (fewS (by decide))), ?_⟩
      refine ⟨_, rfl, x, A_Disk, dx, _, rfl, upd_same, T_Disk.cl, T_Disk.no _ (by simp), fewS (fewS (fewS (fewS (by decide)))), ?_⟩
      refine ⟨_, rfl, x, A_Disk, dx, _, rfl, upd_same, T_Disk.cl, T_Disk.no _ (by simp), fewS (fewS (fewS (fewS (fewS (by decide))))), ?_⟩
      refine ⟨_, rfl, x, A_Disk, dx, _, rfl, upd_same, T_Disk.cl, T_Disk.no _ (by simp), fewS (fewS (fewS (fewS (fewS (fewS (by decide)))))), ?_⟩
      rw [dk_all]
      repeat rw [upd_upd]
      have h1x : H1 x = some (.ins A_Disk dx []) := s1 _ _ hx
      have fl : H1 l = none := ne_none2 hl
      have fp : H1 p = none := ne_none2 (ne_none2 hp)
      have npl : p ≠ l := (ne_of_none upd_same hp).symm
      have npx : p ≠ x := (ne_of_none h1x fp).symm
      have k4 : ∀ b o, H1 b = some o → b ≠ x → (upd (upd (upd (upd H1 x (.ins A_Disk dx (putF "written_rows" (V.ref D) []))) l (.lst [V.int 0])) p (.lst ((List.replicate n.toNat (0 : Int)).map V.int))) x (.ins A_Disk dx (dkF D p m 0 none 0 false))) b = some o := fun b o q nb => by
        rw [upd_ne nb, upd_ne (ne_of_none q fp), upd_ne (ne_of_none q fl), upd_ne nb]
        exact q
      refine kin n m rfl rfl n1 n2 m1 m2 D p ras _ (fun b o q nb => k4 b o (s1 _ _ q) nb) hD (same_none s1 fp) (fun a ha => (hr a ha).1) ⟨⟨dx, upd_same⟩, k4 _ _ h1 nxD.symm, by rw [upd_ne npx]; exact upd_same, fun i a ts q1 q2 => ?_, nd, by show (List.replicate n.toNat ([] : List Str)).length = _; rw [List.length_replicate]; exact l1.symm, by show (List.replicate n.toNat (0 : Int)).length = _; rw [List.length_replicate]; exact l1.symm, by rw [l1]; omega, by rw [l1]; omega, m1, m2, fun ts ht => ?_⟩
      · have hm := List.mem_of_getElem? q1
        obtain ⟨f1, f2, f3⟩ := hr a hm
        have et : ts = [] := (List.mem_replicate.mp (List.mem_of_getElem? (show (List.replicate n.toNat ([] : List Str))[i]? = some ts from q2))).2
        rw [et]
        exact k4 _ _ f2 (fun e => by rw [e, hx] at f1; cases f1)
      · have et : ts = [] := (List.mem_replicate.mp (show ts ∈ List.replicate n.toNat ([] : List Str) from ht)).2
        rw [et]
        exact ⟨by show (0 : Int) ≤ m; omega, fun _ h => nomatch h⟩
abbrev s_Disk_segments : Stmt := inClass (topS 28) 1
abbrev N_Disk_segments : List Str := ["self"]
theorem sc_Disk_segments : FnScope N_Disk_segments ["self"] (defScope s_Disk_segments) := ⟨rfl, rfl, rfl, by decide +kernel, rfl, by decide +kernel, by decide +kernel⟩
def sp_Disk_segments (C : Addr) : Sp := fun vs H Q _ => ∃ (x rl wl : Addr) (ras : List Addr) (S : DS), vs = [.ref x] ∧ Dk C H x rl wl ras S ∧ Q (.int ras.length) H
theorem ok_Disk_segments {f : Addr} {fd : FuncData} (F : Fun K "segments" "Disk.segments" s_Disk_segments f fd) (B : Bt mg) {A_Disk : Addr} (T_Disk : CF K mg "Disk" A_Disk ["written_rows", "erasings", "many_places", "count_of_writes", "writes_left", "signs_kept", "is_over"]) : GnOk P w K mg base CX0 1 f fd ["self"] (sp_Disk_segments A_Disk) := by
  refine gn_fun F sc_Disk_segments (fun vs H Q E h => ?_) (fun cdv A outer s H vs Q E hr h => ?_)
  · obtain ⟨x, rl, wl, ras, S, rfl, _⟩ := h
    rfl
  · obtain ⟨x, rl, wl, ras, S, rfl, hd, k⟩ := h
    refine ⟨_, (pss_one (ps_ret (pe_callB (call_lenK K) (by rfl) B.len (by decide +kernel) (pa_cons (pe_fld (pv 0) rfl) pa_nil)))), ?_⟩
    obtain ⟨dx, ob⟩ := hd.ob
    exact ⟨_, rfl, x, A_Disk, dx, _, _, rfl, ob, T_Disk.cl, T_Disk.no _ (by simp), dk_1 .., _, ras.length, rfl, .inl ⟨_, SqL.of hd.rl, by simp⟩, k⟩
abbrev s_Disk_places : Stmt := inClass (topS 28) 2
abbrev N_Disk_places : List Str := ["self"]
theorem sc_Disk_places : FnScope N_Disk_places ["self"] (defScope s_Disk_places) := ⟨rfl, rfl, rfl, by decide +kernel, rfl, by decide +kernel, by decide +kernel⟩
def sp_Disk_places (C : Addr) : Sp := fun vs H Q _ => ∃ (x rl wl : Addr) (ras : List Addr) (S : DS), vs = [.ref x] ∧ Dk C H x rl wl ras S ∧ Q (.int S.pl) H
theorem ok_Disk_places {f : Addr} {fd : FuncData} (F : Fun K "places" "Disk.places" s_Disk_places f fd) (B : Bt mg) {A_Disk : Addr} (T_Disk : CF K mg "Disk" A_Disk ["written_rows", "erasings", "many_places", "count_of_writes", "writes_left", "signs_kept", "is_over"]) : GnOk P w K mg base CX0 1 f fd ["self"] (sp_Disk_places A_Disk) := by
  refine gn_fun F sc_Disk_places (fun vs H Q E h => ?_) (fun cdv A outer s H vs Q E hr h => ?_)
  · obtain ⟨x, rl, wl, ras, S, rfl, _⟩ := h
    rfl
  · obtain ⟨x, rl, wl, ras, S, rfl, hd, k⟩ := h
    refine ⟨_, (pss_one (ps_ret (pe_fld (pv 0) rfl))), ?_⟩
    obtain ⟨dx, ob⟩ := hd.ob
    exact ⟨_, rfl, x, A_Disk, dx, _, _, rfl, ob, T_Disk.cl, T_Disk.no _ (by simp), dk_3 .., k⟩
abbrev s_Disk_row_of : Stmt := inClass (topS 28) 3
abbrev N_Disk_row_of : List Str := ["self", "segment"]
theorem sc_Disk_row_of : FnScope N_Disk_row_of ["self", "segment"] (defScope s_Disk_row_of) := ⟨rfl, rfl, rfl, by decide +kernel, rfl, by decide +kernel, by decide +kernel⟩
def sp_Disk_row_of (K : PySem.W.Frag) (C E0 : Addr) : Sp := fun vs H Q E => ∃ (x rl wl : Addr) (ras : List Addr) (S : DS) (v : V), vs = [.ref x, v] ∧ Dk C H x rl wl ras S ∧ Th K H v ∧
  (∀ (n : Nat) (a : Addr), v = .int n → ras[n]? = some a → Q (.ref a) H) ∧ ((∀ n : Nat, n < ras.length → v ≠ .int n) → E (.ref E0) none H)
theorem ok_Disk_row_of {f : Addr} {fd : FuncData} (F : Fun K "row_of" "Disk.row_of" s_Disk_row_of f fd) (B : Bt mg) {A_NoPlace : Addr} {A_Disk : Addr} (T_Disk : CF K mg "Disk" A_Disk ["written_rows", "erasings", "many_places", "count_of_writes", "writes_left", "signs_kept", "is_over"]) (XC_NoPlace : XCls K mg "NoPlace" A_NoPlace) (XN_NoPlace : PySem.W.excIn K A_NoPlace [.type "ValueError", .type "Exception", .type "BaseException", .type "object"] "ValueError.__new__" = true) (C_is_within : Cal P w K mg base CX0 "is_within" 1 ["thing", "least", "most"] (sp_is_within K)) : GnOk P w K mg base (L2.CX P w) 2 f fd ["self", "segment"] (sp_Disk_row_of K A_Disk A_NoPlace) := by
  refine gn_funX F sc_Disk_row_of (fun vs H Q E h => ?_) (fun cdv A outer s H vs Q E hr h => ?_)
  · obtain ⟨x, rl, wl, ras, S, v, rfl, _⟩ := h
    rfl
  · obtain ⟨x, rl, wl, ras, S, v, rfl, hd, hv, kin, kout⟩ := h
    refine ⟨_, (pss_cons (ps_if (pt_not (pt_val (pe_cal C_is_within (hr.mono (by decide)) (by rfl) pass0 (pa_cons (pv 1) (pa_cons pe_int (pa_cons (pe_op op_sub (pe_callB (call_lenK K) (by rfl) B.len (by decide +kernel) (pa_cons (pe_fld (pv 0) rfl) pa_nil)) pe_int) pa_nil))))))
      (pss_one (ps_raise rfl (takes_of rfl rfl rfl rfl) (pmk_xo XC_NoPlace XN_NoPlace (by rfl))))
      pss_nil)
    (pss_one (ps_ret (pe_ix (ix_listK K) (pe_fld (pv 0) rfl) (pv 1) (fun _ _ => rfl))))), ?_⟩
    obtain ⟨dx, ob⟩ := hd.ob
    refine ⟨_, rfl, _, rfl, x, A_Disk, dx, _, _, rfl, ob, T_Disk.cl, T_Disk.no _ (by simp), dk_1 .., _, ras.length, rfl, .inl ⟨_, SqL.of hd.rl, by simp⟩, _, _, rfl, rfl, v, 0, _, rfl, hv, _, rfl, ?_⟩
    by_cases c : ∃ n : Nat, n < ras.length ∧ v = .int n
    · obtain ⟨n, hn, rfl⟩ := c
      have e : withinV (.int (n : Int)) 0 ((ras.length : Int) - 1) = true := by
        show (decide ((0 : Int) ≤ n) && decide ((n : Int) ≤ (ras.length : Int) - 1)) = true
        rw [decide_eq_true (by omega), decide_eq_true (by omega)]
        rfl
      refine iteF' (by rw [e]; rfl) ?_
      refine ⟨_, rfl, x, A_Disk, dx, _, _, rfl, ob, T_Disk.cl, T_Disk.no _ (by simp), dk_1 .., _, rfl, rl, _, _, _, rfl, rfl, SqL.of hd.rl, atI_nat (v := V.ref (ras[n]'hn)) (by rw [List.getElem?_map, List.getElem?_eq_getElem hn]; rfl), ?_⟩
      exact kin n _ rfl (List.getElem?_eq_getElem hn)
    · have e : withinV v 0 ((ras.length : Int) - 1) = false := by
        cases v with
        | int m =>
          show (decide ((0 : Int) ≤ m) && decide (m ≤ (ras.length : Int) - 1)) = false
          by_cases c1 : 0 ≤ m
          · by_cases c2 : m ≤ (ras.length : Int) - 1
            · exact absurd ⟨m.toNat, by omega, by rw [Int.toNat_of_nonneg c1]⟩ c
            · rw [decide_eq_false c2, Bool.and_false]
          · rw [decide_eq_false c1, Bool.false_and]
        | _ => rfl
      refine iteT' (by rw [e]; rfl) ?_
      exact kout fun n hn hv' => c ⟨n, hn, hv'⟩
abbrev s_Disk_next_place : Stmt := inClass (topS 28) 4
abbrev N_Disk_next_place : List Str := ["self", "segment"]
theorem sc_Disk_next_place : FnScope N_Disk_next_place ["self", "segment"] (defScope s_Disk_next_place) := ⟨rfl, rfl, rfl, by decide +kernel, rfl, by decide +kernel, by decide +kernel⟩
def sp_Disk_next_place (K : PySem.W.Frag) (C E0 : Addr) : Sp := fun vs H Q E => ∃ (x rl wl : Addr) (ras : List Addr) (S : DS) (v : V), vs = [.ref x, v] ∧ Dk C H x rl wl ras S ∧ Th K H v ∧
  (∀ (n : Nat) (ts : List Str), v = .int n → S.texts[n]? = some ts → Q (.int ts.length) H) ∧ ((∀ n : Nat, n < ras.length → v ≠ .int n) → E (.ref E0) none H)
theorem ok_Disk_next_place {f : Addr} {fd : FuncData} (F : Fun K "next_place" "Disk.next_place" s_Disk_next_place f fd) (B : Bt mg) {A_Disk : Addr} (T_Disk : CF K mg "Disk" A_Disk ["written_rows", "erasings", "many_places", "count_of_writes", "writes_left", "signs_kept", "is_over"]) (M_Disk_row_of : Mth P w K mg base (L2.CX P w) A_Disk "row_of" 2 ["self", "segment"] (sp_Disk_row_of K A_Disk A_NoPlace)) : GnOk P w K mg base (L2.CX P w) 3 f fd ["self", "segment"] (sp_Disk_next_place K A_Disk A_NoPlace) := by
  refine gn_funX F sc_Disk_next_place (fun vs H Q E h => ?_) (fun cdv A outer s H vs Q E hr h => ?_)
  · obtain ⟨x, rl, wl, ras, S, v, rfl, _⟩ := h
    rfl
  · obtain ⟨x, rl, wl, ras, S, v, rfl, hd, hv, kin, kout⟩ := h
    refine ⟨_, (pss_one (ps_ret (pe_callB (call_lenK K) (by rfl) B.len (by decide +kernel) (pa_cons (pe_mth M_Disk_row_of T_Disk.cl (hr.mono (by decide)) (passE (takes_of rfl rfl rfl rfl) (fun _ _ _ _ h => h)) (pv 0) (pa_cons (pv 1) pa_nil)) pa_nil)))), ?_⟩
    refine ⟨_, rfl, x, _, _, rfl, hd.ob.choose_spec, dk_no _ _ _ _ _ _ _ (by decide +kernel), _, rfl, x, rl, wl, ras, S, v, rfl, hd, hv, fun n a hn ha => ?_, kout⟩
    have hlt : n < S.texts.length := by
      rw [hd.l1]
      exact (List.getElem?_eq_some_iff.mp ha).1
    have ht := List.getElem?_eq_getElem hlt
    refine ⟨_, (S.texts[n]).length, rfl, .inl ⟨_, SqL.of (hd.rs n a _ ha ht), by simp⟩, ?_⟩
    exact kin n _ hn ht
abbrev s_Disk_told : Stmt := inClass (topS 28) 5
abbrev N_Disk_told : List Str := ["self", "segment", "place", "row"]
theorem sc_Disk_told : FnScope N_Disk_told ["self", "segment", "place"] (defScope s_Disk_told) := ⟨rfl, rfl, rfl, by decide +kernel, rfl, by decide +kernel, by decide +kernel⟩
def sp_Disk_told (K : PySem.W.Frag) (C E0 : Addr) : Sp := fun vs H Q E => ∃ (x rl wl : Addr) (ras : List Addr) (S : DS) (v u : V), vs = [.ref x, v, u] ∧ Dk C H x rl wl ras S ∧ Th K H v ∧ Th K H u ∧
  (∀ (n m : Nat) (ts : List Str), v = .int n → S.texts[n]? = some ts → u = .int m → (m : Int) < S.pl → Q (match ts[m]? with | some t => .str t | none => .non) H) ∧
  (((∀ n : Nat, n < ras.length → v ≠ .int n) ∨ (∀ m : Nat, (m : Int) < S.pl → u ≠ .int m)) → E (.ref E0) none H)
theorem ok_Disk_told {f : Addr} {fd : FuncData} (F : Fun K "told" "Disk.told" s_Disk_told f fd) (B : Bt mg) {A_NoPlace : Addr} {A_Disk : Addr} (T_Disk : CF K mg "Disk" A_Disk ["written_rows", "erasings", "many_places", "count_of_writes", "writes_left", "signs_kept", "is_over"]) (M_Disk_row_of : Mth P w K mg base (L2.CX P w) A_Disk "row_of" 2 ["self", "segment"] (sp_Disk_row_of K A_Disk A_NoPlace)) (XC_NoPlace : XCls K mg "NoPlace" A_NoPlace) (XN_NoPlace : PySem.W.excIn K A_NoPlace [.type "ValueError", .type "Exception", .type "BaseException", .type "object"] "ValueError.__new__" = true) (C_is_within : Cal P w K mg base CX0 "is_within" 1 ["thing", "least", "most"] (sp_is_within K)) : GnOk P w K mg base (L2.CX P w) 3 f fd ["self", "segment", "place"] (sp_Disk_told K A_Disk A_NoPlace) := by
  refine gn_funX F sc_Disk_told (fun vs H Q E h => ?_) (fun cdv A outer s H vs Q E hr h => ?_)
  · obtain ⟨x, rl, wl, ras, S, v, u, rfl, _⟩ := h
    rfl
  · obtain ⟨x, rl, wl, ras, S, v, u, rfl, hd, hv, hu, kin, kout⟩ := h
    refine ⟨_, (pss_cons (ps_set (i := 3) sc_Disk_told.nd rfl (Or.inl rfl) (pe_mth M_Disk_row_of T_Disk.cl (hr.mono (by decide)) (passE (takes_of rfl rfl rfl rfl) (fun _ _ _ _ h => h)) (pv 0) (pa_cons (pv 1) pa_nil)))
    (pss_cons (ps_if (pt_not (pt_val (pe_cal C_is_within (hr.mono (by decide)) (by rfl) pass0 (pa_cons (pv 2) (pa_cons pe_int (pa_cons (pe_op op_sub (pe_fld (pv 0) rfl) pe_int) pa_nil))))))
      (pss_one (ps_raise rfl (takes_of rfl rfl rfl rfl) (pmk_xo XC_NoPlace XN_NoPlace (by rfl))))
      pss_nil)
    (pss_one (ps_ret (pe_ifExp (pt_cmpR op_lt (pv 2) (pe_callB (call_lenK K) (by rfl) B.len (by decide +kernel) (pa_cons (pv 3) pa_nil)) (nomark _)) (pe_ix (ix_listK K) (pv 3) (pv 2) (fun _ _ => rfl)) pe_non))))), ?_⟩
    refine ⟨_, rfl, x, _, _, rfl, hd.ob.choose_spec, dk_no _ _ _ _ _ _ _ (by decide +kernel), _, rfl, x, rl, wl, ras, S, v, rfl, hd, hv, fun n a hn ha => ?_, fun h => kout (.inl h)⟩
    have hlt : n < S.texts.length := by
      rw [hd.l1]
      exact (List.getElem?_eq_some_iff.mp ha).1
    have ht := List.getElem?_eq_getElem hlt
    have hrow := hd.rs n a _ ha ht
    have htx := hd.tx _ (List.getElem_mem hlt)
    obtain ⟨dx, ob⟩ := hd.ob
    refine ⟨_, rfl, _, rfl, x, A_Disk, dx, _, _, rfl, ob, T_Disk.cl, T_Disk.no _ (by simp), dk_3 .., _, _, rfl, rfl, u, 0, _, rfl, hu, _, rfl, ?_⟩
    by_cases c : ∃ m : Nat, (m : Int) < S.pl ∧ u = .int m
    · obtain ⟨m, hm, rfl⟩ := c
      have e : withinV (.int (m : Int)) 0 (S.pl - 1) = true := by
        show (decide ((0 : Int) ≤ m) && decide ((m : Int) ≤ S.pl - 1)) = true
        rw [decide_eq_true (by omega), decide_eq_true (by omega)]
        rfl
      refine iteF' (by rw [e]; rfl) ?_
      have kk := kin n m _ hn ht rfl hm
      refine ⟨_, rfl, _, rfl, _, (S.texts[n]).length, rfl, .inl ⟨_, SqL.of hrow, by simp⟩, _, _, rfl, rfl, _, rfl, ?_⟩
      by_cases c1 : m < (S.texts[n]).length
      · refine iteT' (decide_eq_true (by omega)) ?_
        rw [List.getElem?_eq_getElem c1] at kk
        exact ⟨_, rfl, _, rfl, a, _, _, _, rfl, rfl, SqL.of hrow, atI_nat (v := V.str ((S.texts[n])[m]'c1)) (by rw [List.getElem?_map, List.getElem?_eq_getElem c1]; rfl), kk⟩
      · refine iteF' (decide_eq_false (by omega)) ?_
        rw [List.getElem?_eq_none (by omega)] at kk
        exact kk
    · have e : withinV u 0 (S.pl - 1) = false := by
        cases u with
        | int m =>
          show (decide ((0 : Int) ≤ m) && decide (m ≤ S.pl - 1)) = false
          by_cases c1 : 0 ≤ m
          · by_cases c2 : m ≤ S.pl - 1
            · exact absurd ⟨m.toNat, by omega, by rw [Int.toNat_of_nonneg c1]⟩ c
            · rw [decide_eq_false c2, Bool.and_false]
          · rw [decide_eq_false c1, Bool.false_and]
        | _ => rfl
      refine iteT' (by rw [e]; rfl) ?_
      exact kout (.inr fun m hm hu' => c ⟨m, hm, hu'⟩)
abbrev s_Disk_wear : Stmt := inClass (topS 28) 6
abbrev N_Disk_wear : List Str := ["self", "segment"]
theorem sc_Disk_wear : FnScope N_Disk_wear ["self", "segment"] (defScope s_Disk_wear) := ⟨rfl, rfl, rfl, by decide +kernel, rfl, by decide +kernel, by decide +kernel⟩
def sp_Disk_wear (K : PySem.W.Frag) (C E0 : Addr) : Sp := fun vs H Q E => ∃ (x rl wl : Addr) (ras : List Addr) (S : DS) (v : V), vs = [.ref x, v] ∧ Dk C H x rl wl ras S ∧ Th K H v ∧
  (∀ (n : Nat) (k : Int), v = .int n → S.wear[n]? = some k → Q (.int k) H) ∧ ((∀ n : Nat, n < ras.length → v ≠ .int n) → E (.ref E0) none H)
theorem ok_Disk_wear {f : Addr} {fd : FuncData} (F : Fun K "wear" "Disk.wear" s_Disk_wear f fd) (B : Bt mg) {A_Disk : Addr} (T_Disk : CF K mg "Disk" A_Disk ["written_rows", "erasings", "many_places", "count_of_writes", "writes_left", "signs_kept", "is_over"]) (M_Disk_row_of : Mth P w K mg base (L2.CX P w) A_Disk "row_of" 2 ["self", "segment"] (sp_Disk_row_of K A_Disk A_NoPlace)) : GnOk P w K mg base (L2.CX P w) 3 f fd ["self", "segment"] (sp_Disk_wear K A_Disk A_NoPlace) := by
  refine gn_funX F sc_Disk_wear (fun vs H Q E h => ?_) (fun cdv A outer s H vs Q E hr h => ?_)
  · obtain ⟨x, rl, wl, ras, S, v, rfl, _⟩ := h
    rfl
  · obtain ⟨x, rl, wl, ras, S, v, rfl, hd, hv, kin, kout⟩ := h
    refine ⟨_, (pss_cons (ps_expr (pe_mth M_Disk_row_of T_Disk.cl (hr.mono (by decide)) (passE (takes_of rfl rfl rfl rfl) (fun _ _ _ _ h => h)) (pv 0) (pa_cons (pv 1) pa_nil)))
    (pss_one (ps_ret (pe_ix (ix_listK K) (pe_fld (pv 0) rfl) (pv 1) (fun _ _ => rfl))))), ?_⟩
    refine ⟨_, rfl, x, _, _, rfl, hd.ob.choose_spec, dk_no _ _ _ _ _ _ _ (by decide +kernel), _, rfl, x, rl, wl, ras, S, v, rfl, hd, hv, fun n a hn ha => ?_, kout⟩
    have hlt : n < S.wear.length := by
      rw [hd.l2]
      exact (List.getElem?_eq_some_iff.mp ha).1
    have ht := List.getElem?_eq_getElem hlt
    obtain ⟨dx, ob⟩ := hd.ob
    subst hn
    refine ⟨_, rfl, x, A_Disk, dx, _, _, rfl, ob, T_Disk.cl, T_Disk.no _ (by simp), dk_2 .., _, rfl, wl, _, _, _, rfl, rfl, SqL.of hd.wl, atI_nat (v := V.int (S.wear[n]'hlt)) (by rw [List.getElem?_map, ht]; rfl), ?_⟩
    exact kin n _ rfl ht
abbrev s_Disk_writes : Stmt := inClass (topS 28) 7
abbrev N_Disk_writes : List Str := ["self"]
theorem sc_Disk_writes : FnScope N_Disk_writes ["self"] (defScope s_Disk_writes) := ⟨rfl, rfl, rfl, by decide +kernel, rfl, by decide +kernel, by decide +kernel⟩
def sp_Disk_writes (C : Addr) : Sp := fun vs H Q _ => ∃ (x rl wl : Addr) (ras : List Addr) (S : DS), vs = [.ref x] ∧ Dk C H x rl wl ras S ∧ Q (.int S.wr) H
theorem ok_Disk_writes {f : Addr} {fd : FuncData} (F : Fun K "writes" "Disk.writes" s_Disk_writes f fd) (B : Bt mg) {A_Disk : Addr} (T_Disk : CF K mg "Disk" A_Disk ["written_rows", "erasings", "many_places", "count_of_writes", "writes_left", "signs_kept", "is_over"]) : GnOk P w K mg base CX0 1 f fd ["self"] (sp_Disk_writes A_Disk) := by
  refine gn_fun F sc_Disk_writes (fun vs H Q E h => ?_) (fun cdv A outer s H vs Q E hr h => ?_)
  · obtain ⟨x, rl, wl, ras, S, rfl, _⟩ := h
    rfl
  · obtain ⟨x, rl, wl, ras, S, rfl, hd, k⟩ := h
    refine ⟨_, (pss_one (ps_ret (pe_fld (pv 0) rfl))), ?_⟩
    obtain ⟨dx, ob⟩ := hd.ob
    exact ⟨_, rfl, x, A_Disk, dx, _, _, rfl, ob, T_Disk.cl, T_Disk.no _ (by simp), dk_4 .., k⟩
abbrev s_Disk_has_stopped : Stmt := inClass (topS 28) 9
abbrev N_Disk_has_stopped : List Str := ["self"]
theorem sc_Disk_has_stopped : FnScope N_Disk_has_stopped ["self"] (defScope s_Disk_has_stopped) := ⟨rfl, rfl, rfl, by decide +kernel, rfl, by decide +kernel, by decide +kernel⟩
def sp_Disk_has_stopped (C : Addr) : Sp := fun vs H Q _ => ∃ (x rl wl : Addr) (ras : List Addr) (S : DS), vs = [.ref x] ∧ Dk C H x rl wl ras S ∧ Q (.bl S.ov) H
theorem ok_Disk_has_stopped {f : Addr} {fd : FuncData} (F : Fun K "has_stopped" "Disk.has_stopped" s_Disk_has_stopped f fd) (B : Bt mg) {A_Disk : Addr} (T_Disk : CF K mg "Disk" A_Disk ["written_rows", "erasings", "many_places", "count_of_writes", "writes_left", "signs_kept", "is_over"]) : GnOk P w K mg base CX0 1 f fd ["self"] (sp_Disk_has_stopped A_Disk) := by
  refine gn_fun F sc_Disk_has_stopped (fun vs H Q E h => ?_) (fun cdv A outer s H vs Q E hr h => ?_)
  · obtain ⟨x, rl, wl, ras, S, rfl, _⟩ := h
    rfl
  · obtain ⟨x, rl, wl, ras, S, rfl, hd, k⟩ := h
    refine ⟨_, (pss_one (ps_ret (pe_fld (pv 0) rfl))), ?_⟩
    obtain ⟨dx, ob⟩ := hd.ob
    exact ⟨_, rfl, x, A_Disk, dx, _, _, rfl, ob, T_Disk.cl, T_Disk.no _ (by simp), dk_7 .., k⟩
abbrev s_Disk_is_shut : Stmt := inClass (topS 28) 10
abbrev N_Disk_is_shut : List Str := ["self"]
theorem sc_Disk_is_shut : FnScope N_Disk_is_shut ["self"] (defScope s_Disk_is_shut) := ⟨rfl, rfl, rfl, by decide +kernel, rfl, by decide +kernel, by decide +kernel⟩
def shutD (S : DS) : Bool := S.ov || decide (S.lf = some 0)
def sp_Disk_is_shut (C : Addr) : Sp := fun vs H Q _ => ∃ (x rl wl : Addr) (ras : List Addr) (S : DS), vs = [.ref x] ∧ Dk C H x rl wl ras S ∧ Q (.bl (shutD S)) H
theorem ok_Disk_is_shut {f : Addr} {fd : FuncData} (F : Fun K "is_shut" "Disk.is_shut" s_Disk_is_shut f fd) (B : Bt mg) {A_Disk : Addr} (T_Disk : CF K mg "Disk" A_Disk ["written_rows", "erasings", "many_places", "count_of_writes", "writes_left", "signs_kept", "is_over"]) : GnOk P w K mg base CX0 1 f fd ["self"] (sp_Disk_is_shut A_Disk) := by
  refine gn_fun F sc_Disk_is_shut (fun vs H Q E h => ?_) (fun cdv A outer s H vs Q E hr h => ?_)
  · obtain ⟨x, rl, wl, ras, S, rfl, _⟩ := h
    rfl
  · obtain ⟨x, rl, wl, ras, S, rfl, hd, k⟩ := h
    refine ⟨_, (pss_one (ps_ret (pe_or (pe_fld (pv 0) rfl) (pe_one (pe_cmpR op_eq (pe_fld (pv 0) rfl) pe_int (nomark _)))))), ?_⟩
    obtain ⟨dx, ob⟩ := hd.ob
    refine ⟨_, rfl, x, A_Disk, dx, _, _, rfl, ob, T_Disk.cl, T_Disk.no _ (by simp), dk_7 .., _, rfl, ?_⟩
    unfold shutD at k
    cases e : S.ov with
    | true =>
      rw [e] at k
      exact iteT k
    | false =>
      rw [e] at k
      refine iteF ?_
      refine ⟨_, rfl, x, A_Disk, dx, _, _, rfl, ob, T_Disk.cl, T_Disk.no _ (by simp), dk_5 .., ?_⟩
      cases e2 : S.lf with
      | none =>
        rw [e2] at k
        exact ⟨rfl, k⟩
      | some n =>
        rw [e2] at k
        refine ⟨rfl, ?_⟩
        have e3 : decide (V.int n = V.int 0) = decide (some n = some (0 : Int)) := decide_eq_decide.mpr ⟨fun h => by rw [V.int.inj h], fun h => by rw [Option.some.inj h]⟩
        show Q (.bl (decide (V.int n = V.int 0))) H
        rw [e3]
        exact k
abbrev s_Disk_count_one : Stmt := inClass (topS 28) 11
abbrev N_Disk_count_one : List Str := ["self"]
theorem sc_Disk_count_one : FnScope N_Disk_count_one ["self"] (defScope s_Disk_count_one) := ⟨rfl, rfl, rfl, by decide +kernel, rfl, by decide +kernel, by decide +kernel⟩
def sp_Disk_count_one (C : Addr) : Sp := fun vs H Q _ => ∃ (x rl wl : Addr) (ras : List Addr) (S : DS), vs = [.ref x] ∧ Dk C H x rl wl ras S ∧ ∀ H', SameBut x H H' → Dk C H' x rl wl ras (oneD S) → Q .non H'
theorem ok_Disk_count_one {f : Addr} {fd : FuncData} (F : Fun K "count_one" "Disk.count_one" s_Disk_count_one f fd) (B : Bt mg) {A_Disk : Addr} (T_Disk : CF K mg "Disk" A_Disk ["written_rows", "erasings", "many_places", "count_of_writes", "writes_left", "signs_kept", "is_over"]) : GnOk P w K mg base CX0 1 f fd ["self"] (sp_Disk_count_one A_Disk) := by
  refine gn_fun F sc_Disk_count_one (fun vs H Q E h => ?_) (fun cdv A outer s H vs Q E hr h => ?_)
  · obtain ⟨x, rl, wl, ras, S, rfl, _⟩ := h
    rfl
  · obtain ⟨x, rl, wl, ras, S, rfl, hd, k⟩ := h
    refine ⟨_, (pss_cons (ps_fldaug (pv 0) pe_int in_add)
    (pss_one (ps_if (pt_cmpR op_notN (pe_fld (pv 0) rfl) pe_non (nomark _))
      (pss_one (ps_fldaug (pv 0) pe_int in_sub))
      pss_nil))), ?_⟩
    obtain ⟨dx, ob⟩ := hd.ob
    refine ⟨_, rfl, x, A_Disk, dx, _, _, rfl, ob, T_Disk.cl, T_Disk.no _ (by simp), dk_4 .., _, _, rfl, rfl, dx, _, ob, by simp [dkF], ?_⟩
    rw [put_4]
    cases e : S.lf with
    | none =>
      refine ⟨_, rfl, x, A_Disk, dx, _, _, rfl, upd_same, T_Disk.cl, T_Disk.no _ (by simp), dk_5 .., rfl, _, rfl, ?_⟩
      refine iteF' (by rfl) ?_
      refine k _ ((SameBut.refl x H).upd) (hd.re ((SameBut.refl x H).upd) ⟨dx, ?_⟩ rfl rfl rfl)
      rw [upd_same]
      unfold oneD
      rw [e]
      rfl
    | some n =>
      refine ⟨_, rfl, x, A_Disk, dx, _, _, rfl, upd_same, T_Disk.cl, T_Disk.no _ (by simp), dk_5 .., rfl, _, rfl, ?_⟩
      refine iteT' (by rfl) ?_
      refine ⟨_, rfl, x, A_Disk, dx, _, _, rfl, upd_same, T_Disk.cl, T_Disk.no _ (by simp), dk_5 .., n, 1, rfl, rfl, dx, _, upd_same, by simp [dkF], ?_⟩
      rw [show (V.int (n - 1)) = lfV (some (n - 1)) from rfl, put_5, upd_upd]
      refine k _ ((SameBut.refl x H).upd) (hd.re ((SameBut.refl x H).upd) ⟨dx, ?_⟩ rfl rfl rfl)
      rw [upd_same]
      unfold oneD
      rw [e]
      rfl
abbrev s_Disk_tear : Stmt := inClass (topS 28) 12
abbrev N_Disk_tear : List Str := ["self", "row", "text", "part"]
theorem sc_Disk_tear : FnScope N_Disk_tear ["self", "row", "text"] (defScope s_Disk_tear) := ⟨rfl, rfl, rfl, by decide +kernel, rfl, by decide +kernel, by decide +kernel⟩
/-- what a stop leaves of a text -/
def partD (S : DS) (z : Str) : Str := cutS z none (some (if (z.length : Int) - 1 < S.kp then (z.length : Int) - 1 else S.kp))
def tornD (S : DS) (n : Nat) (z : Str) : DS := { S with ov := true, texts := if partD S z ≠ "" ∧ S.ov = false then S.texts.set n ((S.texts.getD n []) ++ [partD S z]) else S.texts }
def sp_Disk_tear (C : Addr) : Sp := fun vs H Q _ => ∃ (x rl wl : Addr) (ras : List Addr) (S : DS) (n : Nat) (a : Addr) (z : Str), vs = [.ref x, .ref a, .str z] ∧ Dk C H x rl wl ras S ∧ ras[n]? = some a ∧ 1 ≤ z.length ∧ z.length ≤ 2000 ∧ 0 ≤ S.kp ∧ ((S.texts.getD n []).length : Int) < S.pl ∧
  ∀ H', (∀ b o, H b = some o → b ≠ x → b ≠ a → H' b = some o) → Dk C H' x rl wl ras (tornD S n z) → Q .non H'
theorem ok_Disk_tear {f : Addr} {fd : FuncData} (F : Fun K "tear" "Disk.tear" s_Disk_tear f fd) (B : Bt mg) {A_Disk : Addr} (T_Disk : CF K mg "Disk" A_Disk ["written_rows", "erasings", "many_places", "count_of_writes", "writes_left", "signs_kept", "is_over"]) : GnOk P w K mg base CX0 1 f fd ["self", "row", "text"] (sp_Disk_tear A_Disk) := by
  refine gn_fun F sc_Disk_tear (fun vs H Q E h => ?_) (fun cdv A outer s H vs Q E hr h => ?_)
  · obtain ⟨x, rl, wl, ras, S, n, a, z, rfl, _⟩ := h
    rfl
  · obtain ⟨x, rl, wl, ras, S, n, a, z, rfl, hd, ha, hz1, hz2, hk, hlen, k⟩ := h
    refine ⟨_, (pss_cons (ps_set (i := 3) sc_Disk_tear.nd rfl (Or.inl rfl) (pe_slice sl_str (pv 2) po_none (po_some (pe_callB (call_min2 rfl) (by rfl) B.min (by decide +kernel) (pa_cons (pe_fld (pv 0) rfl) (pa_cons (pe_op op_sub (pe_callB call_len_str (by rfl) B.len (by decide +kernel) (pa_cons (pv 2) pa_nil)) pe_int) pa_nil))))))
    (pss_cons (ps_if (PW.pt (pw_and (pt_cmpR op_ne (pv 3) pe_str (nomark _)) (pw_and1 (pt_not (pt_val (pe_fld (pv 0) rfl))))))
      (pss_one (ps_expr (pe_bmK K PySem.F.plainAttrs_list PySem.F.slot_list_append PySem.F.type_list_append mt_append (pv 1) (pa_cons (pv 3) pa_nil))))
      pss_nil)
    (pss_one (ps_fld (pv 0) pe_bl rfl)))), ?_⟩
    obtain ⟨dx, ob⟩ := hd.ob
    obtain ⟨ts, hts, hrow⟩ := hd.text ha
    have hgd : S.texts.getD n [] = ts := by
      rw [List.getD_eq_getElem?_getD, hts]
      rfl
    rw [hgd] at hlen
    refine ⟨_, rfl, _, rfl, x, A_Disk, dx, _, _, rfl, ob, T_Disk.cl, T_Disk.no _ (by simp), dk_6 .., _, rfl, z, rfl, sz_of (by omega), _, _, rfl, rfl, _, _, rfl, _, rfl, z, rfl, sz_of (by omega), ?_⟩
    have pd : cutS z none (some (if (z.length : Int) - 1 < S.kp then (z.length : Int) - 1 else S.kp)) = partD S z := rfl
    rw [pd]
    have pl2 : (partD S z).length ≤ 2000 := by
      rw [← pd, ← len_toList]
      show ((z.cps.toList.drop 0).take _).length ≤ 2000
      rw [List.drop_zero, List.length_take, len_toList]
      omega
    have last : ∀ (H1 : Hp) (S1 : DS), Dk A_Disk H1 x rl wl ras S1 → (∀ b o, H b = some o → b ≠ x → b ≠ a → H1 b = some o) → tornD S n z = { S1 with ov := true } → ∀ dx1, H1 x = some (.ins A_Disk dx1 (dkF rl wl S1.pl S1.wr S1.lf S1.kp S1.ov)) → Q .non (upd H1 x (.ins A_Disk dx1 (dkF rl wl S1.pl S1.wr S1.lf S1.kp true))) := fun H1 S1 hd1 hsb e dx1 ob1 => by
      refine k _ (fun b o q n1 n2 => by rw [upd_ne n1]; exact hsb b o q n1 n2) ?_
      rw [e]
      exact hd1.re ((SameBut.refl x H1).upd) ⟨dx1, upd_same⟩ rfl rfl rfl
    refine ⟨_, rfl, rfl, _, rfl, ?_⟩
    by_cases c1 : partD S z = ""
    · refine iteF' (by rw [c1, decide_eq_true rfl]; rfl) (iteF ?_)
      refine ⟨_, rfl, x, A_Disk, dx, _, rfl, ob, T_Disk.cl, T_Disk.no _ (by simp), by simp [dkF], ?_⟩
      rw [put_7]
      refine last H S hd (fun b o q _ _ => q) ?_ dx ob
      unfold tornD
      rw [if_neg (fun h => h.1 c1)]
    · refine iteT' (by rw [decide_eq_false (fun e => c1 (V.str.inj e))]; rfl) ?_
      refine ⟨_, rfl, x, A_Disk, dx, _, _, rfl, ob, T_Disk.cl, T_Disk.no _ (by simp), dk_7 .., _, rfl, ?_⟩
      cases eo : S.ov with
      | true =>
        refine iteF ?_
        refine ⟨_, rfl, x, A_Disk, dx, _, rfl, ob, T_Disk.cl, T_Disk.no _ (by simp), by simp [dkF], ?_⟩
        rw [put_7]
        refine last H S hd (fun b o q _ _ => q) ?_ dx ob
        unfold tornD
        rw [if_neg (fun h => by rw [h.2] at eo; cases eo)]
      | false =>
        refine iteT ?_
        refine ⟨_, rfl, .inl ⟨rfl, _, SqL.of hrow⟩, _, rfl, a, _, _, rfl, rfl, hrow, sz_lt (by rw [List.length_map]; have := hd.p1; omega), ?_⟩
        have e2 : ts.map V.str ++ [V.str (partD S z)] = (ts ++ [partD S z]).map V.str := by
          rw [List.map_append]
          rfl
        rw [e2]
        have p1 : 1 ≤ (partD S z).length := by
          refine Nat.one_le_iff_ne_zero.mpr fun h => c1 (TL.ext_tl ?_)
          rw [TL.len_tl] at h
          rw [List.length_eq_zero_iff.mp h]
          rfl
        have htx := hd.tx ts (List.mem_of_getElem? hts)
        have hd2 := hd.row (ts := ts ++ [partD S z]) ha (by rw [List.length_append, List.length_singleton]; omega) (fun t ht => by
          rcases List.mem_append.mp ht with ht | ht
          · exact htx.2 t ht
          · rw [List.mem_singleton.mp ht]
            exact ⟨p1, pl2⟩)
        have ob2 : (upd H a (.lst ((ts ++ [partD S z]).map V.str))) x = some (.ins A_Disk dx (dkF rl wl S.pl S.wr S.lf S.kp S.ov)) := by rw [upd_ne (hd.nax ha).symm]; exact ob
        refine ⟨_, rfl, x, A_Disk, dx, _, rfl, ob2, T_Disk.cl, T_Disk.no _ (by simp), by simp [dkF], ?_⟩
        rw [put_7]
        refine last _ _ hd2 (fun b o q _ n2 => by rw [upd_ne n2]; exact q) ?_ dx ob2
        unfold tornD
        rw [if_pos ⟨c1, eo⟩, hgd]
abbrev s_Disk_write : Stmt := inClass (topS 28) 13
abbrev N_Disk_write : List Str := ["self", "segment", "text", "row"]
theorem sc_Disk_write : FnScope N_Disk_write ["self", "segment", "text"] (defScope s_Disk_write) := ⟨rfl, rfl, rfl, by decide +kernel, rfl, by decide +kernel, by decide +kernel⟩
-- xm: XC_NoPlace
def wroteD (S : DS) (n : Nat) (z : Str) : DS := { oneD S with texts := S.texts.set n ((S.texts.getD n []) ++ [z]) }
def sp_Disk_write (K : PySem.W.Frag) (C E0 E1 E2 E3 : Addr) : Sp := fun vs H Q E => ∃ (x rl wl : Addr) (ras : List Addr) (S : DS) (v u : V), vs = [.ref x, v, u] ∧ Dk C H x rl wl ras S ∧ Th K H v ∧ Th K H u ∧ (∀ z, u = .str z → z.length ≤ 100000) ∧ 0 ≤ S.kp ∧
  ((∀ n : Nat, n < ras.length → v ≠ .int n) → E (.ref E0) none H) ∧
  (∀ (n : Nat) (a : Addr), v = .int n → ras[n]? = some a →
    ((∀ z, u = .str z → ¬ (1 ≤ z.length ∧ z.length ≤ 2000)) → E (.ref E1) none H) ∧
    (∀ z, u = .str z → 1 ≤ z.length → z.length ≤ 2000 →
      (((S.texts.getD n []).length : Int) = S.pl → E (.ref E2) none H) ∧
      (((S.texts.getD n []).length : Int) < S.pl → shutD S = true → ∀ H', (∀ b o, H b = some o → b ≠ x → b ≠ a → H' b = some o) → Dk C H' x rl wl ras (tornD S n z) → E (.ref E3) none H') ∧
      (((S.texts.getD n []).length : Int) < S.pl → shutD S = false → ∀ H', (∀ b o, H b = some o → b ≠ x → b ≠ a → H' b = some o) → Dk C H' x rl wl ras (wroteD S n z) → Q (.int (S.texts.getD n []).length) H')))
theorem ok_Disk_write {f : Addr} {fd : FuncData} (F : Fun K "write" "Disk.write" s_Disk_write f fd) (B : Bt mg) {A_BadText : Addr} {A_Full : Addr} {A_Stopped : Addr} {A_NoPlace : Addr} {A_Disk : Addr} (T_Disk : CF K mg "Disk" A_Disk ["written_rows", "erasings", "many_places", "count_of_writes", "writes_left", "signs_kept", "is_over"]) (M_Disk_row_of : Mth P w K mg base (L2.CX P w) A_Disk "row_of" 2 ["self", "segment"] (sp_Disk_row_of K A_Disk A_NoPlace)) (M_Disk_is_shut : Mth P w K mg base CX0 A_Disk "is_shut" 1 ["self"] (sp_Disk_is_shut A_Disk)) (M_Disk_tear : Mth P w K mg base CX0 A_Disk "tear" 1 ["self", "row", "text"] (sp_Disk_tear A_Disk)) (M_Disk_count_one : Mth P w K mg base CX0 A_Disk "count_one" 1 ["self"] (sp_Disk_count_one A_Disk)) (XC_BadText : XCls K mg "BadText" A_BadText) (XN_BadText : PySem.W.excIn K A_BadText [.type "ValueError", .type "Exception", .type "BaseException", .type "object"] "ValueError.__new__" = true) (XC_Full : XCls K mg "Full" A_Full) (XN_Full : PySem.W.excIn K A_Full [.type "ValueError", .type "Exception", .type "BaseException", .type "object"] "ValueError.__new__" = true) (XC_Stopped : XCls K mg "Stopped" A_Stopped) (XN_Stopped : PySem.W.excIn K A_Stopped [.type "ValueError", .type "Exception", .type "BaseException", .type "object"] "ValueError.__new__" = true) (XC_NoPlace : XCls K mg "NoPlace" A_NoPlace) {tk_LONGEST : Tok} (g_LONGEST : mg "LONGEST" = some (.int 2000 tk_LONGEST)) : GnOk P w K mg base (L2.CX P w) 3 f fd ["self", "segment", "text"] (sp_Disk_write K A_Disk A_NoPlace A_BadText A_Full A_Stopped) := by
  refine gn_funX F sc_Disk_write (fun vs H Q E h => ?_) (fun cdv A outer s H vs Q E hr h => ?_)
  · obtain ⟨x, rl, wl, ras, S, v, u, rfl, _⟩ := h
    rfl
  · obtain ⟨x, rl, wl, ras, S, v, u, rfl, hd, hv, hu, hul, hk, kno, kin⟩ := h
    refine ⟨_, (pss_cons (ps_set (i := 3) sc_Disk_write.nd rfl (Or.inl rfl) (pe_mth M_Disk_row_of T_Disk.cl (hr.mono (by decide)) (passE (takes_of rfl rfl rfl rfl) (fun _ _ _ _ h => h)) (pv 0) (pa_cons (pv 1) pa_nil)))
    (pss_cons (ps_if (PW.pt (pw_or (pt_not (pt_val (pe_callB (call_isiK K) (by rfl) B.isinstance (by decide +kernel) (pa_cons (pv 2) (pa_cons (pe_bltn (v := .ty "str") (by rfl) B.str (by decide +kernel) rfl) pa_nil))))) (pw_or1 (pt_not (pt_chain op_le op_le pe_int (pe_callB call_len_str (by rfl) B.len (by decide +kernel) (pa_cons (pv 2) pa_nil)) (pe_glob (by rfl) g_LONGEST (rel_i _ _)))))))
      (pss_one (ps_raise rfl (takes_of rfl rfl rfl rfl) (pmk_xo XC_BadText XN_BadText (by rfl))))
      pss_nil)
    (pss_cons (ps_if (pt_cmpR op_eq (pe_callB (call_lenK K) (by rfl) B.len (by decide +kernel) (pa_cons (pv 3) pa_nil)) (pe_fld (pv 0) rfl) (nomark _))
      (pss_one (ps_raise rfl (takes_of rfl rfl rfl rfl) (pmk_xo XC_Full XN_Full (by rfl))))
      pss_nil)
    (pss_cons (ps_if (pt_val (pe_mth0 M_Disk_is_shut T_Disk.cl (hr.mono (by decide)) pass0 (pv 0)))
      (pss_cons (ps_expr (pe_mth M_Disk_tear T_Disk.cl (hr.mono (by decide)) pass0 (pv 0) (pa_cons (pv 3) (pa_cons (pv 2) pa_nil))))
    (pss_one (ps_raise rfl (takes_of rfl rfl rfl rfl) (pmk_xo XC_Stopped XN_Stopped (by rfl)))))
      pss_nil)
    (pss_cons (ps_expr (pe_mth0 M_Disk_count_one T_Disk.cl (hr.mono (by decide)) pass0 (pv 0)))
    (pss_cons (ps_expr (pe_bmK K PySem.F.plainAttrs_list PySem.F.slot_list_append PySem.F.type_list_append mt_append (pv 3) (pa_cons (pv 2) pa_nil)))
    (pss_one (ps_ret (pe_op op_sub (pe_callB (call_lenK K) (by rfl) B.len (by decide +kernel) (pa_cons (pv 3) pa_nil)) pe_int))))))))), ?_⟩
    obtain ⟨dx, ob⟩ := hd.ob
    refine ⟨_, rfl, x, _, _, rfl, ob, dk_no _ _ _ _ _ _ _ (by decide +kernel), _, rfl, x, rl, wl, ras, S, v, rfl, hd, hv, fun n a hn ha => ?_, kno⟩
    obtain ⟨kbad, kz⟩ := kin n a hn ha
    obtain ⟨ts, hts, hrow⟩ := hd.text ha
    have hgd : S.texts.getD n [] = ts := by
      rw [List.getD_eq_getElem?_getD, hts]
      rfl
    rw [hgd] at kz
    obtain ⟨t, b1, b2, b3, hty, k1, k2, k3, hi1, hs1⟩ := hu
    refine ⟨_, rfl, _, _, t, _, _, rfl, .ty _, hty, k3, _, rfl, ?_⟩
    rcases hs1 with ⟨z, rfl, rfl⟩ | ⟨hno, rfl⟩
    rotate_left
    · exact iteT (kbad fun z hz => absurd hz (hno z))
    refine iteF ?_
    have hzl := hul z rfl
    refine ⟨_, rfl, z, rfl, sz_of hzl, _, _, rfl, rfl, _, rfl, ?_⟩
    by_cases c1 : (1 : Int) ≤ (z.length : Int)
    rotate_left
    · refine iteF' (decide_eq_false c1) ⟨_, rfl, ?_⟩
      refine iteT (kbad fun y hy => ?_)
      rw [← V.str.inj hy]
      omega
    refine iteT' (decide_eq_true c1) ?_
    refine ⟨_, _, rfl, rfl, _, rfl, ?_⟩
    by_cases c2 : (z.length : Int) ≤ 2000
    rotate_left
    · refine iteT' (by rw [decide_eq_false c2]; rfl) (kbad fun y hy => ?_)
      rw [← V.str.inj hy]
      omega
    refine iteF' (by rw [decide_eq_true c2]; rfl) ?_
    obtain ⟨kfull, kshut, kq⟩ := kz z rfl (by omega) (by omega)
    have htx := hd.tx ts (List.mem_of_getElem? hts)
    have hp1 := hd.p1
    refine ⟨_, rfl, _, ts.length, rfl, .inl ⟨_, SqL.of hrow, by simp⟩, _, rfl, x, A_Disk, dx, _, _, rfl, ob, T_Disk.cl, T_Disk.no _ (by simp), dk_3 .., rfl, _, rfl, ?_⟩
    by_cases c3 : (ts.length : Int) = S.pl
    · refine iteT' (decide_eq_true (by rw [c3])) (kfull c3)
    refine iteF' (decide_eq_false (fun e => c3 (V.int.inj e))) ?_
    have hlt : (ts.length : Int) < S.pl := by omega
    refine ⟨_, rfl, x, _, _, rfl, ob, dk_no _ _ _ _ _ _ _ (by decide +kernel), x, rl, wl, ras, S, rfl, hd, _, rfl, ?_⟩
    cases es : shutD S with
    | true =>
      refine iteT ?_
      refine ⟨_, rfl, x, _, _, rfl, ob, dk_no _ _ _ _ _ _ _ (by decide +kernel), _, rfl, _, rfl, x, rl, wl, ras, S, n, a, z, rfl, hd, ha, by omega, by omega, hk, by rw [hgd]; exact hlt, fun H' f' d' => ?_⟩
      exact kshut hlt es H' f' d'
    | false =>
      refine iteF ?_
      refine ⟨_, rfl, x, _, _, rfl, ob, dk_no _ _ _ _ _ _ _ (by decide +kernel), x, rl, wl, ras, S, rfl, hd, fun H1 s1 hd1 => ?_⟩
      have hrow1 : H1 a = some (.lst (ts.map V.str)) := s1 _ _ hrow (hd.nax ha)
      refine ⟨_, rfl, .inl ⟨rfl, _, SqL.of hrow1⟩, _, rfl, a, _, _, rfl, rfl, hrow1, sz_lt (by rw [List.length_map]; omega), ?_⟩
      have e2 : ts.map V.str ++ [V.str z] = (ts ++ [z]).map V.str := by
        rw [List.map_append]
        rfl
      rw [e2]
      have hd2 := hd1.row (ts := ts ++ [z]) ha (by rw [List.length_append, List.length_singleton]; show _ ≤ S.pl; omega) (fun t ht => by
        rcases List.mem_append.mp ht with ht | ht
        · exact htx.2 t ht
        · rw [List.mem_singleton.mp ht]
          exact ⟨by omega, by omega⟩)
      refine ⟨_, rfl, _, (ts ++ [z]).length, rfl, .inl ⟨_, SqL.of upd_same, by simp⟩, _, _, rfl, rfl, ?_⟩
      have e3 : (((ts ++ [z]).length : Nat) : Int) - 1 = (ts.length : Int) := by
        rw [List.length_append, List.length_singleton]
        omega
      show Q (.int ((((ts ++ [z]).length : Nat) : Int) - 1)) _
      rw [e3]
      refine kq hlt es _ (fun b o q n1 n2 => by rw [upd_ne n2]; exact s1 _ _ q n1) ?_
      unfold wroteD
      rw [hgd]
      exact hd2
abbrev s_Disk_erase : Stmt := inClass (topS 28) 14
abbrev N_Disk_erase : List Str := ["self", "segment"]
theorem sc_Disk_erase : FnScope N_Disk_erase ["self", "segment"] (defScope s_Disk_erase) := ⟨rfl, rfl, rfl, by decide +kernel, rfl, by decide +kernel, by decide +kernel⟩
-- xm: XC_NoPlace
def erasedD (S : DS) (n : Nat) : DS := { oneD S with texts := S.texts.set n [], wear := S.wear.set n (S.wear.getD n 0 + 1) }
def sp_Disk_erase (K : PySem.W.Frag) (C E0 E3 : Addr) : Sp := fun vs H Q E => ∃ (x rl wl : Addr) (ras : List Addr) (S : DS) (v : V), vs = [.ref x, v] ∧ Dk C H x rl wl ras S ∧ Th K H v ∧
  ((∀ n : Nat, n < ras.length → v ≠ .int n) → E (.ref E0) none H) ∧
  (∀ (n : Nat) (a : Addr), v = .int n → ras[n]? = some a →
    (shutD S = true → ∀ H', SameBut x H H' → Dk C H' x rl wl ras { S with ov := true } → E (.ref E3) none H') ∧
    (shutD S = false → ∀ (a' : Addr) (H' : Hp), (∀ b o, H b = some o → b ≠ x → b ≠ rl → b ≠ wl → H' b = some o) → H a' = none → Dk C H' x rl wl (ras.set n a') (erasedD S n) → Q .non H'))
theorem ok_Disk_erase {f : Addr} {fd : FuncData} (F : Fun K "erase" "Disk.erase" s_Disk_erase f fd) (B : Bt mg) {A_Stopped : Addr} {A_NoPlace : Addr} {A_Disk : Addr} (T_Disk : CF K mg "Disk" A_Disk ["written_rows", "erasings", "many_places", "count_of_writes", "writes_left", "signs_kept", "is_over"]) (M_Disk_row_of : Mth P w K mg base (L2.CX P w) A_Disk "row_of" 2 ["self", "segment"] (sp_Disk_row_of K A_Disk A_NoPlace)) (M_Disk_is_shut : Mth P w K mg base CX0 A_Disk "is_shut" 1 ["self"] (sp_Disk_is_shut A_Disk)) (M_Disk_count_one : Mth P w K mg base CX0 A_Disk "count_one" 1 ["self"] (sp_Disk_count_one A_Disk)) (XC_Stopped : XCls K mg "Stopped" A_Stopped) (XN_Stopped : PySem.W.excIn K A_Stopped [.type "ValueError", .type "Exception", .type "BaseException", .type "object"] "ValueError.__new__" = true) (XC_NoPlace : XCls K mg "NoPlace" A_NoPlace) : GnOk P w K mg base (L2.CX P w) 3 f fd ["self", "segment"] (sp_Disk_erase K A_Disk A_NoPlace A_Stopped) := by
  refine gn_funX F sc_Disk_erase (fun vs H Q E h => ?_) (fun cdv A outer s H vs Q E hr h => ?_)
  · obtain ⟨x, rl, wl, ras, S, v, rfl, _⟩ := h
    rfl
  · obtain ⟨x, rl, wl, ras, S, v, rfl, hd, hv, kno, kin⟩ := h
    refine ⟨_, (pss_cons (ps_expr (pe_mth M_Disk_row_of T_Disk.cl (hr.mono (by decide)) (passE (takes_of rfl rfl rfl rfl) (fun _ _ _ _ h => h)) (pv 0) (pa_cons (pv 1) pa_nil)))
    (pss_cons (ps_if (pt_val (pe_mth0 M_Disk_is_shut T_Disk.cl (hr.mono (by decide)) pass0 (pv 0)))
      (pss_cons (ps_fld (pv 0) pe_bl rfl)
    (pss_one (ps_raise rfl (takes_of rfl rfl rfl rfl) (pmk_xo XC_Stopped XN_Stopped (by rfl)))))
      pss_nil)
    (pss_cons (ps_expr (pe_mth0 M_Disk_count_one T_Disk.cl (hr.mono (by decide)) pass0 (pv 0)))
    (pss_cons (ps_asg (pe_lst pa_nil) (pg_sub (pe_fld (pv 0) rfl) (pv 1) set_list))
    (pss_one (ps_augS (pe_fld (pv 0) rfl) (pv 1) (get_listK K) pe_int ip_add set_list)))))), ?_⟩
    obtain ⟨dx, ob⟩ := hd.ob
    refine ⟨_, rfl, x, _, _, rfl, ob, dk_no _ _ _ _ _ _ _ (by decide +kernel), _, rfl, x, rl, wl, ras, S, v, rfl, hd, hv, fun n a hn ha => ?_, kno⟩
    obtain ⟨kshut, kq⟩ := kin n a hn ha
    have hnl : n < ras.length := (List.getElem?_eq_some_iff.mp ha).1
    subst hn
    refine ⟨_, rfl, x, _, _, rfl, ob, dk_no _ _ _ _ _ _ _ (by decide +kernel), x, rl, wl, ras, S, rfl, hd, _, rfl, ?_⟩
    cases es : shutD S with
    | true =>
      refine iteT ?_
      refine ⟨_, rfl, x, A_Disk, dx, _, rfl, ob, T_Disk.cl, T_Disk.no _ (by simp), by simp [dkF], ?_⟩
      rw [put_7]
      exact kshut es _ ((SameBut.refl x H).upd) (hd.re ((SameBut.refl x H).upd) ⟨dx, upd_same⟩ rfl rfl rfl)
    | false =>
      refine iteF ?_
      refine ⟨_, rfl, x, _, _, rfl, ob, dk_no _ _ _ _ _ _ _ (by decide +kernel), x, rl, wl, ras, S, rfl, hd, fun H1 s1 hd1 => ?_⟩
      obtain ⟨dx1, ob1⟩ := hd1.ob
      refine ⟨by decide, fun a' ha' => ?_⟩
      have ob2 : (upd H1 a' (.lst [])) x = some (.ins A_Disk dx1 (dkF rl wl (oneD S).pl (oneD S).wr (oneD S).lf (oneD S).kp (oneD S).ov)) := Same.new ha' _ _ ob1
      have hrl2 : (upd H1 a' (.lst [])) rl = some (.lst (ras.map V.ref)) := Same.new ha' _ _ hd1.rl
      refine ⟨_, rfl, x, A_Disk, dx1, _, _, rfl, ob2, T_Disk.cl, T_Disk.no _ (by simp), dk_1 .., _, rfl, rl, _, _, n, rfl, rfl, hrl2, ixN_nat (by rw [List.length_map]; exact hnl), ?_⟩
      have em : (ras.map V.ref).set n (V.ref a') = (ras.set n a').map V.ref := by rw [List.map_set]
      rw [em]
      have hd2 := hd1.anew hnl ha'
      obtain ⟨dx3, ob3⟩ := hd2.ob
      have hwl : n < S.wear.length := by rw [hd.l2]; exact hnl
      have hw := List.getElem?_eq_getElem hwl
      refine ⟨_, rfl, x, A_Disk, dx3, _, _, rfl, ob3, T_Disk.cl, T_Disk.no _ (by simp), dk_2 .., _, rfl, wl, _, _, _, rfl, rfl, SqL.of hd2.wl, atI_nat (v := V.int (S.wear[n]'hwl)) (by rw [List.getElem?_map]; show (S.wear[n]?).map V.int = _; rw [hw]; rfl), ?_⟩
      refine ⟨_, _, rfl, rfl, wl, _, _, n, rfl, rfl, hd2.wl, ixN_nat (by rw [List.length_map]; exact hwl), ?_⟩
      have ew : ((oneD S).wear.map V.int).set n (V.int (S.wear[n]'hwl + 1)) = (S.wear.set n (S.wear[n]'hwl + 1)).map V.int := by
        rw [List.map_set]
        rfl
      have hd3 := hd2.worn (S.wear.set n (S.wear[n]'hwl + 1)) (by rw [List.length_set]; rfl)
      have eg : S.wear.getD n 0 = S.wear[n]'hwl := by
        rw [List.getD_eq_getElem?_getD, hw]
        rfl
      have ee : erasedD S n = { ({ (oneD S) with texts := (oneD S).texts.set n [] } : DS) with wear := S.wear.set n (S.wear[n]'hwl + 1) } := by
        unfold erasedD
        rw [eg]
        rfl
      have nax : a' ≠ x := fun e => by
        rw [e, ob1] at ha'
        cases ha'
      refine kq es a' _ (fun b o q n1 n2 n3 => ?_) (s1.free ha' nax) ?_
      · have q1 := s1 _ _ q n1
        rw [upd_ne n3, upd_ne n2, upd_ne (ne_of_none q1 ha')]
        exact q1
      · rw [ee]
        show Dk A_Disk (upd _ wl (.lst (((oneD S).wear.map V.int).set n (V.int (S.wear[n]'hwl + 1))))) x rl wl (ras.set n a') _
        rw [ew]
        exact hd3
abbrev s_Disk_stop : Stmt := inClass (topS 28) 8
abbrev N_Disk_stop : List Str := ["self", "many", "kept"]
theorem sc_Disk_stop : FnScope N_Disk_stop ["self", "many", "kept"] (defScope s_Disk_stop) := ⟨rfl, rfl, rfl, by decide +kernel, rfl, by decide +kernel, by decide +kernel⟩
def sp_Disk_stop (C : Addr) : Sp := fun vs H Q _ => ∃ (x rl wl : Addr) (ras : List Addr) (S : DS) (m c : Int), vs = [.ref x, .int m, .int c] ∧ Dk C H x rl wl ras S ∧ ∀ H', SameBut x H H' → Dk C H' x rl wl ras { S with lf := some m, kp := c } → Q .non H'
theorem ok_Disk_stop {f : Addr} {fd : FuncData} (F : Fun K "stop" "Disk.stop" s_Disk_stop f fd) (B : Bt mg) {A_Disk : Addr} (T_Disk : CF K mg "Disk" A_Disk ["written_rows", "erasings", "many_places", "count_of_writes", "writes_left", "signs_kept", "is_over"]) : GnOk P w K mg base CX0 1 f fd ["self", "many", "kept"] (sp_Disk_stop A_Disk) := by
  refine gn_fun F sc_Disk_stop (fun vs H Q E h => ?_) (fun cdv A outer s H vs Q E hr h => ?_)
  · obtain ⟨x, rl, wl, ras, S, m, c, rfl, _⟩ := h
    rfl
  · obtain ⟨x, rl, wl, ras, S, m, c, rfl, hd, k⟩ := h
    refine ⟨_, (pss_one (ps_asg (pe_tup (pa_cons (pv 1) (pa_cons (pv 2) pa_nil))) (pg_tup (by rfl) (pgs_cons (pg_attrK K (pv 0)) (pgs_cons (pg_attrK K (pv 0)) pgs_nil))))), ?_⟩
    obtain ⟨dx, ob⟩ := hd.ob
    refine ⟨_, rfl, _, rfl, (by show 2 ≤ sizeLine; decide), fun t ht => ?_⟩
    have ob1 : (upd H t (.tup [.int m, .int c])) x = some (.ins A_Disk dx (dkF rl wl S.pl S.wr S.lf S.kp S.ov)) := Same.new ht _ _ ob
    refine ⟨t, _, rfl, SqT.of upd_same, rfl, _, _, rfl, _, rfl, x, A_Disk, dx, _, rfl, ob1, T_Disk.cl, T_Disk.no _ (by simp), by simp [dkF], ?_⟩
    rw [show (V.int m) = lfV (some m) from rfl, put_5]
    refine ⟨_, _, rfl, _, rfl, x, A_Disk, dx, _, rfl, upd_same, T_Disk.cl, T_Disk.no _ (by simp), by simp [dkF], ?_⟩
    rw [put_6, upd_upd]
    have sb := ((SameBut.refl x H).new (o := .tup [.int m, .int c]) ht).upd (o := .ins A_Disk dx (dkF rl wl S.pl S.wr (some m) c S.ov))
    refine ⟨rfl, k _ sb (hd.re sb ⟨dx, upd_same⟩ rfl rfl rfl)⟩
section
/-- all but what F tells, and the tables, stays -/
def Lx (T : List (Addr × Str)) (F : Addr → Prop) (H H' : Hp) : Prop := (∀ b o, H b = some o → ¬ F b → (∀ ps, o ≠ .tbl ps) → H' b = some o) ∧ LamX.Tabs T H'
theorem Lx.trans {T : List (Addr × Str)} {F : Addr → Prop} {H H1 H2 : Hp} (a : Lx T F H H1) (b : Lx T F H1 H2) : Lx T F H H2 := ⟨fun c o e n m => b.1 c o (a.1 c o e n m) n m, b.2⟩
theorem Lx.same {T : List (Addr × Str)} {F : Addr → Prop} {H H' : Hp} (t : LamX.Tabs T H) (s : Same H H') : Lx T F H H' := ⟨fun c o e _ _ => s c o e, t.ext s⟩
theorem Lx.ext {T : List (Addr × Str)} {F : Addr → Prop} {H H' : Hp} (e : LamX.ExtN H H') (t : LamX.Tabs T H') : Lx T F H H' := ⟨fun c o h _ n => e c o h n, t⟩
theorem Dk.ext {C : Addr} {H H' : Hp} {x rl wl : Addr} {ras : List Addr} {S : DS} (e : LamX.ExtN H H') (h : Dk C H x rl wl ras S) : Dk C H' x rl wl ras S := by
  obtain ⟨⟨dx, h1⟩, h2, h3, h4, h5, h6, h7, h8, h9, h10, h11, h12⟩ := h
  exact ⟨⟨dx, e _ _ h1 (fun _ z => by cases z)⟩, e _ _ h2 (fun _ z => by cases z), e _ _ h3 (fun _ z => by cases z), fun i a ts q1 q2 => e _ _ (h4 i a ts q1 q2) (fun _ z => by cases z), h5, h6, h7, h8, h9, h10, h11, h12⟩
/-- what stands at a disk's places is an object or a list -/
theorem Dk.kind {C : Addr} {H : Hp} {x rl wl : Addr} {ras : List Addr} {S : DS} (h : Dk C H x rl wl ras S) {b : Addr} (hb : DkFoot x rl wl ras b) : (∃ dx fs, H b = some (.ins C dx fs)) ∨ ∃ xs, H b = some (.lst xs) := by
  rcases hb with rfl | rfl | rfl | hb
  · obtain ⟨dx, e⟩ := h.ob
    exact .inl ⟨_, _, e⟩
  · exact .inr ⟨_, h.rl⟩
  · exact .inr ⟨_, h.wl⟩
  · obtain ⟨i, hi, rfl⟩ := List.getElem_of_mem hb
    obtain ⟨ts, _, e⟩ := h.text (List.getElem?_eq_getElem hi)
    exact .inr ⟨_, e⟩
theorem Lx.but {T : List (Addr × Str)} {C : Addr} {H H' : Hp} {x rl wl : Addr} {ras : List Addr} {S : DS} (h : Dk C H x rl wl ras S) (t : LamX.Tabs T H) (s : ∀ b o, H b = some o → ¬ DkFoot x rl wl ras b → H' b = some o) : Lx T (DkFoot x rl wl ras) H H' := by
  refine ⟨fun b o e n _ => s b o e n, fun p hp => ?_⟩
  obtain ⟨ps, h1, h2, h3⟩ := t p hp
  have nk : ∀ b o, H b = some o → (∀ dx fs, o ≠ .ins C dx fs) → (∀ xs, o ≠ .lst xs) → H' b = some o := fun b o e n1 n2 => s b o e fun z => by
    rcases h.kind z with ⟨dx, fs, q⟩ | ⟨xs, q⟩
    · rw [e] at q
      exact n1 _ _ (Option.some.inj q)
    · rw [e] at q
      exact n2 _ (Option.some.inj q)
  refine ⟨ps, nk _ _ h1 (fun _ _ z => by cases z) (fun _ z => by cases z), h2, fun pos cv hc => ?_⟩
  obtain ⟨c, e1, e2⟩ := h3 pos cv hc
  exact ⟨c, e1, nk _ _ e2 (fun _ _ z => by cases z) (fun _ z => by cases z)⟩
theorem Lx.pot {T : List (Addr × Str)} {F : Addr → Prop} {H H' : Hp} {p : Addr} {a b : Int} (l : Lx T F H H') (h : Pot H p a b) (n : ¬ F p) : Pot H' p a b := ⟨l.1 _ _ h.1 n (fun _ z => by cases z), h.2⟩
end
section
variable {C E0 E1 E2 E3 : Addr} {H : Hp} {x rl wl : Addr} {ras : List Addr} {S : DS} {Q : VK} {E : XK}
theorem int_nat {n m : Nat} (e : V.int n = V.int m) : n = m := by
  injection e with e
  omega
theorem Dk.at (h : Dk C H x rl wl ras S) {n : Nat} (hn : n < ras.length) : ∃ a, ras[n]? = some a ∧ S.texts[n]? = some (S.texts.getD n []) := by
  have hl : n < S.texts.length := by rw [h.l1]; exact hn
  exact ⟨_, List.getElem?_eq_getElem hn, by rw [List.getD_eq_getElem?_getD, List.getElem?_eq_getElem hl]; rfl⟩
theorem foot_of {ras : List Addr} {n : Nat} {a : Addr} (ha : ras[n]? = some a) : DkFoot x rl wl ras a := .inr (.inr (.inr (List.mem_of_getElem? ha)))
theorem d_write (h : Dk C H x rl wl ras S) {n : Nat} {z : Str} (hn : n < ras.length) (z1 : 1 ≤ z.length) (z2 : z.length ≤ 2000) (hl : ((S.texts.getD n []).length : Int) < S.pl) (hs : shutD S = false) (hk : 0 ≤ S.kp)
    (k : ∀ H', (∀ b o, H b = some o → ¬ DkFoot x rl wl ras b → H' b = some o) → Dk C H' x rl wl ras (wroteD S n z) → Q (.int (S.texts.getD n []).length) H') : sp_Disk_write K C E0 E1 E2 E3 [.ref x, .int n, .str z] H Q E := by
  refine ⟨x, rl, wl, ras, S, _, _, rfl, h, .int _, .str _, fun y e => by cases e; omega, hk, fun q => absurd rfl (q n hn), fun m a e ha => ?_⟩
  have e2 := int_nat e
  subst e2
  refine ⟨fun q => absurd ⟨z1, z2⟩ (q z rfl), fun y e _ _ => ?_⟩
  cases e
  exact ⟨fun q => absurd q (by omega), fun _ q => (by rw [hs] at q; cases q), fun _ _ H' s d => k H' (fun b o e n => s b o e (fun q => n (.inl q)) (fun q => n (by rw [q]; exact foot_of ha))) d⟩
theorem d_write_np (h : Dk C H x rl wl ras S) {v u : V} (tv : Th K H v) (tu : Th K H u) (hu : ∀ z, u = .str z → z.length ≤ 100000) (hk : 0 ≤ S.kp) (hv : ∀ n : Nat, n < ras.length → v ≠ .int n) (k : E (.ref E0) none H) : sp_Disk_write K C E0 E1 E2 E3 [.ref x, v, u] H Q E :=
  ⟨x, rl, wl, ras, S, _, _, rfl, h, tv, tu, hu, hk, fun _ => k, fun m a e ha => absurd e (hv m (List.getElem?_eq_some_iff.mp ha).1)⟩
theorem d_write_bt (h : Dk C H x rl wl ras S) {n : Nat} {u : V} (hn : n < ras.length) (tu : Th K H u) (hu : ∀ z, u = .str z → z.length ≤ 100000) (hk : 0 ≤ S.kp) (hv : ∀ z, u = .str z → ¬ (1 ≤ z.length ∧ z.length ≤ 2000)) (k : E (.ref E1) none H) : sp_Disk_write K C E0 E1 E2 E3 [.ref x, .int n, u] H Q E :=
  ⟨x, rl, wl, ras, S, _, _, rfl, h, .int _, tu, hu, hk, fun q => absurd rfl (q n hn), fun _ _ _ _ => ⟨fun _ => k, fun z e a b => absurd ⟨a, b⟩ (hv z e)⟩⟩
theorem d_write_full (h : Dk C H x rl wl ras S) {n : Nat} {z : Str} (hn : n < ras.length) (z1 : 1 ≤ z.length) (z2 : z.length ≤ 2000) (hl : ((S.texts.getD n []).length : Int) = S.pl) (hk : 0 ≤ S.kp) (k : E (.ref E2) none H) : sp_Disk_write K C E0 E1 E2 E3 [.ref x, .int n, .str z] H Q E := by
  refine ⟨x, rl, wl, ras, S, _, _, rfl, h, .int _, .str _, fun y e => by cases e; omega, hk, fun q => absurd rfl (q n hn), fun m a e ha => ?_⟩
  have e2 := int_nat e
  subst e2
  refine ⟨fun q => absurd ⟨z1, z2⟩ (q z rfl), fun y e _ _ => ?_⟩
  cases e
  exact ⟨fun _ => k, fun q => absurd q (by omega), fun q => absurd q (by omega)⟩
theorem d_write_stop (h : Dk C H x rl wl ras S) {n : Nat} {z : Str} (hn : n < ras.length) (z1 : 1 ≤ z.length) (z2 : z.length ≤ 2000) (hl : ((S.texts.getD n []).length : Int) < S.pl) (hs : shutD S = true) (hk : 0 ≤ S.kp)
    (k : ∀ H', (∀ b o, H b = some o → ¬ DkFoot x rl wl ras b → H' b = some o) → Dk C H' x rl wl ras (tornD S n z) → E (.ref E3) none H') : sp_Disk_write K C E0 E1 E2 E3 [.ref x, .int n, .str z] H Q E := by
  refine ⟨x, rl, wl, ras, S, _, _, rfl, h, .int _, .str _, fun y e => by cases e; omega, hk, fun q => absurd rfl (q n hn), fun m a e ha => ?_⟩
  have e2 := int_nat e
  subst e2
  refine ⟨fun q => absurd ⟨z1, z2⟩ (q z rfl), fun y e _ _ => ?_⟩
  cases e
  exact ⟨fun q => absurd q (by omega), fun _ _ H' s d => k H' (fun b o e n => s b o e (fun q => n (.inl q)) (fun q => n (by rw [q]; exact foot_of ha))) d, fun _ q => by rw [hs] at q; cases q⟩
theorem d_told (h : Dk C H x rl wl ras S) {n m : Nat} (hn : n < ras.length) (hm : (m : Int) < S.pl) (k : Q (match (S.texts.getD n [])[m]? with | some t => .str t | none => .non) H) : sp_Disk_told K C E0 [.ref x, .int n, .int m] H Q E := by
  obtain ⟨a, _, ht⟩ := h.at hn
  refine ⟨x, rl, wl, ras, S, _, _, rfl, h, .int _, .int _, fun i j ts e1 e2 e3 _ => ?_, fun q => ?_⟩
  · have d1 := int_nat e1
    have d2 := int_nat e3
    subst d1 d2
    rw [ht] at e2
    cases e2
    exact k
  · rcases q with q | q
    · exact absurd rfl (q n hn)
    · exact absurd rfl (q m hm)
theorem d_told_no (h : Dk C H x rl wl ras S) {v u : V} (tv : Th K H v) (tu : Th K H u) (hv : (∀ n : Nat, n < ras.length → v ≠ .int n) ∨ (∀ m : Nat, (m : Int) < S.pl → u ≠ .int m)) (k : E (.ref E0) none H) : sp_Disk_told K C E0 [.ref x, v, u] H Q E := by
  refine ⟨x, rl, wl, ras, S, _, _, rfl, h, tv, tu, fun i j ts e1 e2 e3 e4 => ?_, fun _ => k⟩
  rcases hv with q | q
  · exact absurd e1 (q i (by rw [← h.l1]; exact (List.getElem?_eq_some_iff.mp e2).1))
  · exact absurd e3 (q j e4)
theorem d_next (h : Dk C H x rl wl ras S) {n : Nat} (hn : n < ras.length) (k : Q (.int (S.texts.getD n []).length) H) : sp_Disk_next_place K C E0 [.ref x, .int n] H Q E := by
  obtain ⟨a, _, ht⟩ := h.at hn
  refine ⟨x, rl, wl, ras, S, _, rfl, h, .int _, fun i ts e1 e2 => ?_, fun q => absurd rfl (q n hn)⟩
  have d1 := int_nat e1
  subst d1
  rw [ht] at e2
  cases e2
  exact k
theorem d_next_no (h : Dk C H x rl wl ras S) {v : V} (tv : Th K H v) (hv : ∀ n : Nat, n < ras.length → v ≠ .int n) (k : E (.ref E0) none H) : sp_Disk_next_place K C E0 [.ref x, v] H Q E :=
  ⟨x, rl, wl, ras, S, _, rfl, h, tv, fun i ts e1 e2 => absurd e1 (hv i (by rw [← h.l1]; exact (List.getElem?_eq_some_iff.mp e2).1)), fun _ => k⟩
theorem Dk.wat (h : Dk C H x rl wl ras S) {n : Nat} (hn : n < ras.length) : S.wear[n]? = some (S.wear.getD n 0) := by
  have hl : n < S.wear.length := by rw [h.l2]; exact hn
  rw [List.getD_eq_getElem?_getD, List.getElem?_eq_getElem hl]
  rfl
theorem d_wear (h : Dk C H x rl wl ras S) {n : Nat} (hn : n < ras.length) (k : Q (.int (S.wear.getD n 0)) H) : sp_Disk_wear K C E0 [.ref x, .int n] H Q E := by
  have ht := h.wat hn
  refine ⟨x, rl, wl, ras, S, _, rfl, h, .int _, fun i ts e1 e2 => ?_, fun q => absurd rfl (q n hn)⟩
  have d1 := int_nat e1
  subst d1
  rw [ht] at e2
  cases e2
  exact k
theorem d_wear_no (h : Dk C H x rl wl ras S) {v : V} (tv : Th K H v) (hv : ∀ n : Nat, n < ras.length → v ≠ .int n) (k : E (.ref E0) none H) : sp_Disk_wear K C E0 [.ref x, v] H Q E :=
  ⟨x, rl, wl, ras, S, _, rfl, h, tv, fun i ts e1 e2 => absurd e1 (hv i (by rw [← h.l2]; exact (List.getElem?_eq_some_iff.mp e2).1)), fun _ => k⟩
theorem shut_no (a : S.lf = none) (b : S.ov = false) : shutD S = false := by
  unfold shutD
  rw [a, b]
  rfl
theorem getD_set {ts : List (List Str)} {n : Nat} {t : List Str} (h : n < ts.length) : (ts.set n t).getD n [] = t := by
  rw [List.getD_eq_getElem?_getD, List.getElem?_set_self h]
  rfl
theorem getD_ne {ts : List (List Str)} {n m : Nat} {t : List Str} (h : n ≠ m) : (ts.set n t).getD m [] = ts.getD m [] := by
  rw [List.getD_eq_getElem?_getD, List.getElem?_set_ne h, List.getD_eq_getElem?_getD]
theorem wrote_at (h : Dk C H x rl wl ras S) {n : Nat} {z : Str} (hn : n < ras.length) : (wroteD S n z).texts.getD n [] = S.texts.getD n [] ++ [z] := getD_set (by rw [h.l1]; exact hn)
theorem wrote_lf {n : Nat} {z : Str} (h : S.lf = none) : (wroteD S n z).lf = none := by
  show S.lf.map _ = none
  rw [h]
  rfl
theorem dk_m {m : Str} (h : ([("written_rows" : Str), "erasings", "many_places", "count_of_writes", "writes_left", "signs_kept", "is_over"] : List Str).all (fun f => !decide (m = f)) = true) {rl wl : Addr} {pl wr : Int} {lf : Option Int} {kp : Int} {ov : Bool} : (dkF rl wl pl wr lf kp ov).lookup m = none := dk_no _ _ _ _ _ _ _ h
theorem Dk.off {o : HO} {l : Addr} (h : Dk C H x rl wl ras S) (n : ¬ DkFoot x rl wl ras l) : Dk C (upd H l o) x rl wl ras S := by
  obtain ⟨⟨dx, h1⟩, h2, h3, h4, h5, h6, h7, h8, h9, h10, h11, h12⟩ := h
  exact ⟨⟨dx, by rw [upd_ne (fun e => n (.inl e.symm))]; exact h1⟩, by rw [upd_ne (fun e => n (.inr (.inl e.symm)))]; exact h2, by rw [upd_ne (fun e => n (.inr (.inr (.inl e.symm))))]; exact h3, fun i a ts q1 q2 => by rw [upd_ne (fun e => n (.inr (.inr (.inr (by rw [← e]; exact List.mem_of_getElem? q1)))))]; exact h4 i a ts q1 q2, h5, h6, h7, h8, h9, h10, h11, h12⟩
theorem Dk.new (h : Dk C H x rl wl ras S) {l : Addr} (n : H l = none) : ¬ DkFoot x rl wl ras l := fun z => by
  rcases h.kind z with ⟨dx, fs, q⟩ | ⟨xs, q⟩ <;> (rw [n] at q; cases q)
theorem Lx.updF {T : List (Addr × Str)} {F : Addr → Prop} {H H' : Hp} {l : Addr} {o : HO} (h : Lx T F H H') (n : ∀ o, H l = some o → ∃ ps, o = .tbl ps) (nt : ∀ c q, H' l ≠ some (LamX.CodeO c q)) (nt2 : ∀ ps, H' l ≠ some (.tbl ps)) : Lx T F H (upd H' l o) := by
  refine ⟨fun b u e f m => by rw [upd_ne (fun z => (n u (by rw [← z]; exact e)).elim fun ps q => m ps q)]; exact h.1 b u e f m, fun p hp => ?_⟩
  obtain ⟨ps, h1, h2, h3⟩ := h.2 p hp
  refine ⟨ps, by rw [upd_ne (fun e => nt2 ps (by rw [← e]; exact h1))]; exact h1, h2, fun pos cv hc => ?_⟩
  obtain ⟨c, e1, e2⟩ := h3 pos cv hc
  exact ⟨c, e1, by rw [upd_ne (fun e => nt _ _ (by rw [← e]; exact e2))]; exact e2⟩
theorem codeO_no {c : Addr} {q : Str} {xs : List V} : LamX.CodeO c q ≠ .lst xs := fun z => by
  unfold LamX.CodeO at z
  cases z
theorem Lx.lstF {T : List (Addr × Str)} {F : Addr → Prop} {H H' : Hp} {l : Addr} {o : HO} {xs : List V} (h : Lx T F H H') (n : ∀ o, H l = some o → ∃ ps, o = .tbl ps) (e : H' l = some (.lst xs)) : Lx T F H (upd H' l o) :=
  h.updF n (fun c q z => codeO_no (Option.some.inj (z.symm.trans e))) (fun ps z => by rw [e] at z; cases z)
theorem tups_dt {q : PyData} {vs : List V} : ∀ {ts : List Addr}, (∀ t ∈ ts, Dt K H (.ref t) q) → DtAll K H (ts.map V.ref) (List.replicate ts.length q)
  | [], _ => .nil
  | t :: ts, h => by
    rw [List.length_cons, List.replicate_succ]
    exact .cons (h t List.mem_cons_self) (tups_dt (vs := vs) fun u hu => h u (List.mem_cons_of_mem _ hu))
end
/-- a disk that stands in H, new since H0, and a pot beside it -/
structure Run (T : List (Addr × Str)) (C : Addr) (H0 H : Hp) (p x rl wl : Addr) (ras : List Addr) (S : DS) : Prop where
  e : LamX.ExtN H0 H
  t : LamX.Tabs T H
  pt : ∃ a b, Pot H p a b
  d : Dk C H x rl wl ras S
  np : NwT H0 p
  nf : ∀ b, DkFoot x rl wl ras b → NwT H0 b
  ap : ¬ DkFoot x rl wl ras p
section
variable {T : List (Addr × Str)} {C : Addr} {H0 H H' : Hp} {p x rl wl : Addr} {ras : List Addr} {S S' : DS}
theorem Dk.but (h : Dk C H x rl wl ras S) (s : SameBut p H H') (n : ¬ DkFoot x rl wl ras p) : Dk C H' x rl wl ras S := by
  obtain ⟨⟨dx, h1⟩, h2, h3, h4, h5, h6, h7, h8, h9, h10, h11, h12⟩ := h
  exact ⟨⟨dx, s _ _ h1 (fun e => n (.inl e.symm))⟩, s _ _ h2 (fun e => n (.inr (.inl e.symm))), s _ _ h3 (fun e => n (.inr (.inr (.inl e.symm)))), fun i a ts q1 q2 => s _ _ (h4 i a ts q1 q2) (fun e => n (.inr (.inr (.inr (by rw [← e]; exact List.mem_of_getElem? q1))))), h5, h6, h7, h8, h9, h10, h11, h12⟩
theorem Run.same (h : Run T C H0 H p x rl wl ras S) (s : Same H H') : Run T C H0 H' p x rl wl ras S := by
  obtain ⟨e, t, ⟨a, b, pt⟩, d, np, nf, ap⟩ := h
  exact ⟨ext_same e s, t.ext s, ⟨a, b, s _ _ pt.1, pt.2⟩, d.m s, np, nf, ap⟩
theorem Run.ext (h : Run T C H0 H p x rl wl ras S) (s : LamX.ExtN H H') (t : LamX.Tabs T H') : Run T C H0 H' p x rl wl ras S := by
  obtain ⟨e, _, ⟨a, b, pt⟩, d, np, nf, ap⟩ := h
  exact ⟨e.trans s, t, ⟨a, b, s _ _ pt.1 (fun _ z => by cases z), pt.2⟩, d.ext s, np, nf, ap⟩
theorem Run.pot {a b : Int} (h : Run T C H0 H p x rl wl ras S) (s : SameBut p H H') (pt' : Pot H' p a b) : Run T C H0 H' p x rl wl ras S := by
  obtain ⟨e, t, ⟨_, _, pt⟩, d, np, nf, ap⟩ := h
  exact ⟨ext_but e np s, tabs_but t pt.1 s, ⟨a, b, pt'⟩, d.but s ap, np, nf, ap⟩
theorem Run.lx (h : Run T C H0 H p x rl wl ras S) (l : Lx T (DkFoot x rl wl ras) H H') (d' : Dk C H' x rl wl ras S') : Run T C H0 H' p x rl wl ras S' := by
  obtain ⟨e, _, ⟨a, b, pt⟩, _, np, nf, ap⟩ := h
  exact ⟨fun c o q m => l.1 c o (e c o q m) (fun f => (nf c f o q).elim fun ps z => m ps z) m, l.2, ⟨a, b, l.pot pt ap⟩, d', np, nf, ap⟩
theorem Run.lx2 {n : Nat} {a' : Addr} (h : Run T C H0 H p x rl wl ras S) (s : ∀ b o, H b = some o → ¬ DkFoot x rl wl ras b → H' b = some o) (f : H a' = none) (d' : Dk C H' x rl wl (ras.set n a') S') : Run T C H0 H' p x rl wl (ras.set n a') S' := by
  have l := Lx.but h.d h.t s
  obtain ⟨e, _, ⟨a, b, pt⟩, _, np, nf, ap⟩ := h
  have ft : ∀ b, DkFoot x rl wl (ras.set n a') b → DkFoot x rl wl ras b ∨ b = a' := fun b z => by
    rcases z with z | z | z | z
    · exact .inl (.inl z)
    · exact .inl (.inr (.inl z))
    · exact .inl (.inr (.inr (.inl z)))
    · rcases List.mem_or_eq_of_mem_set z with z | z
      · exact .inl (.inr (.inr (.inr z)))
      · exact .inr z
  refine ⟨fun c o q m => l.1 c o (e c o q m) (fun f => (nf c f o q).elim fun ps z => m ps z) m, l.2, ⟨a, b, l.pot pt ap⟩, d', np, fun b z => ?_, fun z => ?_⟩
  · rcases ft b z with z | z
    · exact nf b z
    · rw [z]
      exact NwT.of e f
  · rcases ft p z with z | z
    · exact ap z
    · rw [← z, pt.1] at f
      cases f
theorem Run.made {a b n m : Int} {dx : Addr} (e : LamX.ExtN H0 H) (t : LamX.Tabs T H) (pt : Pot H p a b) (np : NwT H0 p) (hx : H x = none) (hdx : H dx = none) (nd : dx ≠ x)
    (s : SameBut x (upd (upd H dx (.own x)) x (.ins C dx [])) H') (r1 : (upd (upd H dx (.own x)) x (.ins C dx [])) rl = none) (r2 : (upd (upd H dx (.own x)) x (.ins C dx [])) wl = none) (r3 : ∀ c ∈ ras, (upd (upd H dx (.own x)) x (.ins C dx [])) c = none) (d : Dk C H' x rl wl ras (newD n m)) :
    Run T C H0 H' p x rl wl ras (newD n m) := by
  have sG : Same H (upd (upd H dx (.own x)) x (.ins C dx [])) := Same.newer (Same.new hdx) hx
  have gx : (upd (upd H dx (.own x)) x (.ins C dx [])) x = some (.ins C dx []) := upd_same
  have fr : ∀ {c}, (upd (upd H dx (.own x)) x (.ins C dx [])) c = none → H c = none := fun {c} h => ne_none2 (ne_none2 h)
  generalize (upd (upd H dx (.own x)) x (.ins C dx [])) = G at s r1 r2 r3 sG gx fr
  have npx : p ≠ x := (pt.ne hx).symm
  have eG : LamX.ExtN H0 G := ext_same e sG
  have no : ∀ c, DkFoot x rl wl ras c → H c = none := fun c z => by
    rcases z with rfl | rfl | rfl | z
    · exact hx
    · exact fr r1
    · exact fr r2
    · exact fr (r3 c z)
  refine ⟨ext_but eG (NwT.of e hx) s, tabs_butO (t.ext sG) gx (fun _ z => by cases z) (fun _ _ => codeO_ins) s, ⟨a, b, s _ _ (sG _ _ pt.1) npx, pt.2⟩, d, np, fun c z => NwT.of e (no c z), fun z => ?_⟩
  have := no p z
  rw [pt.1] at this
  cases this
theorem newD_len {n m : Int} (d : Dk C H x rl wl ras (newD n m)) : ras.length = n.toNat := by
  rw [← d.l1]
  exact List.length_replicate
theorem newD_row {n m : Int} {j : Nat} : (newD n m).texts.getD j [] = [] := by
  show (List.replicate n.toNat ([] : List Str)).getD j [] = []
  rw [List.getD_eq_getElem?_getD, List.getElem?_replicate]
  split <;> rfl
theorem newD_wear {n m : Int} {j : Nat} : (newD n m).wear.getD j 0 = 0 := by
  show (List.replicate n.toNat (0 : Int)).getD j 0 = 0
  rw [List.getD_eq_getElem?_getD, List.getElem?_replicate]
  split <;> rfl
theorem within_yes {v : V} {n lo hi : Int} (e : v = .int n) (a : lo ≤ n) (b : n ≤ hi) (q : withinV v lo hi = false) : False := by
  subst e
  have h : withinV (.int n) lo hi = (decide (lo ≤ n) && decide (n ≤ hi)) := rfl
  rw [h, decide_eq_true a, decide_eq_true b] at q
  cases q
theorem cut_len {z : Str} {i : Int} (h0 : 0 ≤ i) (h1 : i ≤ (z.length : Int)) : (cutS z none (some i)).length = i.toNat := by
  rw [← len_toList]
  show ((z.cps.toList.drop 0).take (HT.sIx z.length z.length (some i) - 0)).length = _
  have e : HT.sIx z.length z.length (some i) = i.toNat := by
    show (if i < 0 then _ else min i.toNat z.length) = _
    rw [if_neg (by omega)]
    omega
  rw [e, List.drop_zero, List.length_take, len_toList]
  omega
theorem wear_set {ws : List Int} {n : Nat} {v : Int} (h : n < ws.length) : (ws.set n v).getD n 0 = v := by
  rw [List.getD_eq_getElem?_getD, List.getElem?_set_self h]
  rfl
theorem wear_ne {ws : List Int} {n m : Nat} {v : Int} (h : n ≠ m) : (ws.set n v).getD m 0 = ws.getD m 0 := by
  rw [List.getD_eq_getElem?_getD, List.getElem?_set_ne h, List.getD_eq_getElem?_getD]
end
theorem dk_made {T : List (Addr × Str)} {C : Addr} {H H' : Hp} {x rl wl dx : Addr} {ras : List Addr} {S : DS} (t : LamX.Tabs T H) (hx : H x = none) (hdx : H dx = none)
    (s : SameBut x (upd (upd H dx (.own x)) x (.ins C dx [])) H') (r1 : (upd (upd H dx (.own x)) x (.ins C dx [])) rl = none) (r2 : (upd (upd H dx (.own x)) x (.ins C dx [])) wl = none) (r3 : ∀ c ∈ ras, (upd (upd H dx (.own x)) x (.ins C dx [])) c = none) :
    Same H H' ∧ ∀ c, DkFoot x rl wl ras c → H c = none := by
  refine ⟨fun b o e => s b o ?_ (ne_of_none e hx), fun c z => ?_⟩
  · rw [upd_ne (ne_of_none e hx), upd_ne (ne_of_none e hdx)]
    exact e
  · rcases z with rfl | rfl | rfl | z
    · exact hx
    · exact ne_none2 (ne_none2 r1)
    · exact ne_none2 (ne_none2 r2)
    · exact ne_none2 (ne_none2 (r3 c z))

section
variable {C E0 E1 E2 E3 : Addr} {H H' : Hp} {x rl wl : Addr} {ras : List Addr} {S : DS} {Q : VK} {E : XK}
theorem d_erase (h : Dk C H x rl wl ras S) {n : Nat} (hn : n < ras.length) (hs : shutD S = false) (k : ∀ (a' : Addr) (H' : Hp), (∀ b o, H b = some o → ¬ DkFoot x rl wl ras b → H' b = some o) → H a' = none → Dk C H' x rl wl (ras.set n a') (erasedD S n) → Q .non H') :
    sp_Disk_erase K C E0 E3 [.ref x, .int n] H Q E := by
  refine ⟨x, rl, wl, ras, S, _, rfl, h, .int _, fun q => absurd rfl (q n hn), fun m a e ha => ?_⟩
  have e2 := int_nat e
  subst e2
  exact ⟨fun q => (by rw [hs] at q; cases q), fun _ a' H' s f d => k a' H' (fun b o e n => s b o e (fun q => n (.inl q)) (fun q => n (.inr (.inl q))) (fun q => n (.inr (.inr (.inl q))))) f d⟩
theorem d_erase_stop (h : Dk C H x rl wl ras S) {n : Nat} (hn : n < ras.length) (hs : shutD S = true) (k : ∀ H', (∀ b o, H b = some o → ¬ DkFoot x rl wl ras b → H' b = some o) → Dk C H' x rl wl ras { S with ov := true } → E (.ref E3) none H') :
    sp_Disk_erase K C E0 E3 [.ref x, .int n] H Q E := by
  refine ⟨x, rl, wl, ras, S, _, rfl, h, .int _, fun q => absurd rfl (q n hn), fun m a e ha => ⟨fun _ H' s d => k H' (fun b o e n => s b o e (fun q => n (.inl q))) d, fun q => by rw [hs] at q; cases q⟩⟩
theorem d_erase_np (h : Dk C H x rl wl ras S) {v : V} (tv : Th K H v) (hv : ∀ n : Nat, n < ras.length → v ≠ .int n) (k : E (.ref E0) none H) : sp_Disk_erase K C E0 E3 [.ref x, v] H Q E :=
  ⟨x, rl, wl, ras, S, _, rfl, h, tv, fun _ => k, fun m a e ha => absurd e (hv m (List.getElem?_eq_some_iff.mp ha).1)⟩
theorem erased_ch {n : Nat} (h : ∀ ts ∈ S.texts, ∀ t ∈ ts, ∀ c ∈ t.cps.toList, c < 1114112) : ∀ ts ∈ (erasedD S n).texts, ∀ t ∈ ts, ∀ c ∈ t.cps.toList, c < 1114112 := by
  intro ts hts t ht
  rcases List.mem_or_eq_of_mem_set (show ts ∈ S.texts.set n [] from hts) with hts | rfl
  · exact h ts hts t ht
  · cases ht
end

/-- the places of a disk and of a law's model of it -/
structure AD where
  x : Addr
  rl : Addr
  wl : Addr
  ras : List Addr
  m : Addr
  ml : Addr
  mw : Addr
  mras : List Addr
def AD.dk (A : AD) (b : Addr) : Prop := DkFoot A.x A.rl A.wl A.ras b
def AD.mf (A : AD) (b : Addr) : Prop := b = A.m ∨ b = A.ml ∨ b = A.mw ∨ b ∈ A.mras
def AD.foot (A : AD) (b : Addr) : Prop := A.dk b ∨ A.mf b
def lfI : Option Int → Int
  | none => -1
  | some n => n
/-- what a model's dict tells -/
structure MdK (xx : Bool) (kvs : List (Key × V)) (ml mw : Addr) (S : DS) : Prop where
  ln : kvs.length ≤ 20
  kr : valV kvs (.inr "rows") = some (.ref ml)
  kw : valV kvs (.inr "wear") = some (.ref mw)
  kn : valV kvs (.inr "writes") = some (.int S.wr)
  kp : valV kvs (.inr "places") = some (.int S.pl)
  ko : valV kvs (.inr "over") = some (.bl S.ov)
  kl : xx = true → valV kvs (.inr "left") = some (.int (lfI S.lf)) ∧ valV kvs (.inr "kept") = some (.int S.kp)
structure Md (xx : Bool) (H : Hp) (A : AD) (S : DS) : Prop where
  ob : ∃ kvs : List (Key × V), H A.m = some (.dK kvs) ∧ MdK xx kvs A.ml A.mw S
  rl : H A.ml = some (.lst (A.mras.map V.ref))
  wl : H A.mw = some (.lst (S.wear.map V.int))
  rs : ∀ (i : Nat) (a : Addr) (ts : List Str), A.mras[i]? = some a → S.texts[i]? = some ts → H a = some (.lst (ts.map V.str))
  nd : (A.m :: A.ml :: A.mw :: A.mras).Nodup
  l1 : S.texts.length = A.mras.length
  l2 : S.wear.length = A.mras.length
structure Pair (xx : Bool) (C : Addr) (H : Hp) (A : AD) (S M : DS) : Prop where
  d : Dk C H A.x A.rl A.wl A.ras S
  md : Md xx H A M
  dj : ∀ b, A.mf b → ¬ A.dk b
  ch : ∀ ts ∈ S.texts, ∀ t ∈ ts, ∀ c ∈ t.cps.toList, c < 1114112
section
variable {T : List (Addr × Str)} {xx : Bool} {C : Addr} {H H' : Hp} {A : AD} {S M : DS}
theorem Dk.keep {x rl wl : Addr} {ras : List Addr} (h : Dk C H x rl wl ras S) (e : ∀ b o, H b = some o → DkFoot x rl wl ras b → H' b = some o) : Dk C H' x rl wl ras S := by
  obtain ⟨⟨dx, h1⟩, h2, h3, h4, h5, h6, h7, h8, h9, h10, h11, h12⟩ := h
  exact ⟨⟨dx, e _ _ h1 (.inl rfl)⟩, e _ _ h2 (.inr (.inl rfl)), e _ _ h3 (.inr (.inr (.inl rfl))), fun i a ts q1 q2 => e _ _ (h4 i a ts q1 q2) (.inr (.inr (.inr (List.mem_of_getElem? q1)))), h5, h6, h7, h8, h9, h10, h11, h12⟩
theorem Md.keep (h : Md xx H A M) (e : ∀ b o, H b = some o → A.mf b → H' b = some o) : Md xx H' A M := by
  obtain ⟨⟨kvs, h1, k⟩, h2, h3, h4, h5, h6, h7⟩ := h
  exact ⟨⟨kvs, e _ _ h1 (.inl rfl), k⟩, e _ _ h2 (.inr (.inl rfl)), e _ _ h3 (.inr (.inr (.inl rfl))), fun i a ts q1 q2 => e _ _ (h4 i a ts q1 q2) (.inr (.inr (.inr (List.mem_of_getElem? q1)))), h5, h6, h7⟩
theorem Md.at (h : Md xx H A M) {n : Nat} (hn : n < A.mras.length) : ∃ a, A.mras[n]? = some a ∧ M.texts[n]? = some (M.texts.getD n []) ∧ H a = some (.lst ((M.texts.getD n []).map V.str)) := by
  have hl : n < M.texts.length := by rw [h.l1]; exact hn
  have e : M.texts[n]? = some (M.texts.getD n []) := by rw [List.getD_eq_getElem?_getD, List.getElem?_eq_getElem hl]; rfl
  exact ⟨_, List.getElem?_eq_getElem hn, e, h.rs n _ _ (List.getElem?_eq_getElem hn) e⟩
theorem Md.kind (h : Md xx H A M) {b : Addr} (hb : A.mf b) : (∃ kvs, H b = some (.dK kvs)) ∨ ∃ xs, H b = some (.lst xs) := by
  rcases hb with rfl | rfl | rfl | hb
  · obtain ⟨kvs, e, _⟩ := h.ob
    exact .inl ⟨_, e⟩
  · exact .inr ⟨_, h.rl⟩
  · exact .inr ⟨_, h.wl⟩
  · obtain ⟨i, hi, rfl⟩ := List.getElem_of_mem hb
    obtain ⟨a, ha, _, e⟩ := h.at hi
    rw [List.getElem?_eq_getElem hi] at ha
    cases ha
    exact .inr ⟨_, e⟩
theorem Pair.keep (h : Pair xx C H A S M) (e : ∀ b o, H b = some o → A.foot b → H' b = some o) : Pair xx C H' A S M :=
  ⟨h.d.keep fun b o q f => e b o q (.inl f), h.md.keep fun b o q f => e b o q (.inr f), h.dj, h.ch⟩
theorem Pair.kind (h : Pair xx C H A S M) {b : Addr} (hb : A.foot b) : ∃ o, H b = some o ∧ (∀ ps, o ≠ .tbl ps) ∧ ∀ c q, LamX.CodeO c q ≠ o := by
  have nd : ∀ c q kvs, LamX.CodeO c q ≠ .dK kvs := fun c q kvs z => by
    unfold LamX.CodeO at z
    cases z
  rcases hb with hb | hb
  · rcases h.d.kind hb with ⟨dx, fs, e⟩ | ⟨xs, e⟩
    · exact ⟨_, e, (fun _ z => by cases z), fun _ _ => codeO_ins⟩
    · exact ⟨_, e, (fun _ z => by cases z), fun _ _ => codeO_lst⟩
  · rcases h.md.kind hb with ⟨kvs, e⟩ | ⟨xs, e⟩
    · exact ⟨_, e, (fun _ z => by cases z), fun c q => nd c q _⟩
    · exact ⟨_, e, (fun _ z => by cases z), fun _ _ => codeO_lst⟩
theorem Pair.m (h : Pair xx C H A S M) (s : Same H H') : Pair xx C H' A S M := h.keep fun b o e _ => s b o e
theorem Pair.ext (h : Pair xx C H A S M) (s : LamX.ExtN H H') : Pair xx C H' A S M := h.keep fun b o e f => by
  obtain ⟨u, q, n, _⟩ := h.kind f
  rw [e] at q
  exact s b o e (fun ps z => n ps (by rw [← Option.some.inj q]; exact z))
theorem Pair.but {p : Addr} (h : Pair xx C H A S M) (s : SameBut p H H') (n : ¬ A.foot p) : Pair xx C H' A S M := h.keep fun b o e f => s b o e fun z => n (by rw [← z]; exact f)
theorem Pair.off {p : Addr} {o : HO} (h : Pair xx C H A S M) (n : ¬ A.foot p) : Pair xx C (upd H p o) A S M := h.keep fun b u e f => by
  rw [upd_ne (fun z => n (by rw [← z]; exact f))]
  exact e
theorem Pair.new {p : Addr} (h : Pair xx C H A S M) (n : H p = none) : ¬ A.foot p := fun f => by
  obtain ⟨u, q, _⟩ := h.kind f
  rw [n] at q
  cases q
/-- tables stay, where the foot alone changes -/
theorem tabs_foot {F : Addr → Prop} (t : LamX.Tabs T H) (k : ∀ b, F b → ∃ o, H b = some o ∧ (∀ ps, o ≠ .tbl ps) ∧ ∀ c q, LamX.CodeO c q ≠ o) (s : ∀ b o, H b = some o → ¬ F b → H' b = some o) : LamX.Tabs T H' := fun r hr => by
  obtain ⟨ps, h1, h2, h3⟩ := t r hr
  refine ⟨ps, s _ _ h1 (fun f => ?_), h2, fun pos cv hc => ?_⟩
  · obtain ⟨o, e, n, _⟩ := k _ f
    rw [h1] at e
    exact n ps (Option.some.inj e).symm
  · obtain ⟨c, e1, e2⟩ := h3 pos cv hc
    refine ⟨c, e1, s _ _ e2 fun f => ?_⟩
    obtain ⟨o, e, _, n⟩ := k _ f
    rw [e2] at e
    exact n _ _ (Option.some.inj e)
theorem Lx.foot {F : Addr → Prop} (t : LamX.Tabs T H) (k : ∀ b, F b → ∃ o, H b = some o ∧ (∀ ps, o ≠ .tbl ps) ∧ ∀ c q, LamX.CodeO c q ≠ o) (s : ∀ b o, H b = some o → ¬ F b → H' b = some o) : Lx T F H H' :=
  ⟨fun b o e f _ => s b o e f, tabs_foot t k s⟩
theorem Lx.mono {F G : Addr → Prop} (h : Lx T F H H') (k : ∀ b, F b → G b) : Lx T G H H' := ⟨fun b o e f m => h.1 b o e (fun z => f (k b z)) m, h.2⟩
/-! the model's deeds -/
theorem Md.neq (h : Md xx H A M) : A.m ≠ A.ml ∧ A.m ≠ A.mw ∧ A.ml ≠ A.mw ∧ A.m ∉ A.mras ∧ A.ml ∉ A.mras ∧ A.mw ∉ A.mras ∧ A.mras.Nodup := by
  have := h.nd
  simp only [List.nodup_cons, List.mem_cons, not_or] at this
  obtain ⟨⟨a, b, c⟩, ⟨d, e⟩, f, g⟩ := this
  exact ⟨a, b, d, c, e, f, g⟩
theorem Md.row (h : Md xx H A M) {n : Nat} {a : Addr} (ha : A.mras[n]? = some a) (ts : List Str) : Md xx (upd H a (.lst (ts.map V.str))) A { M with texts := M.texts.set n ts } := by
  obtain ⟨n1, n2, n3, n4, n5, n6, n7⟩ := h.neq
  have am := List.mem_of_getElem? ha
  obtain ⟨⟨kvs, e, k⟩, h2, h3, h4, h5, h6, h7⟩ := h
  refine ⟨⟨kvs, by rw [upd_ne (fun z => n4 (by rw [z]; exact am))]; exact e, ⟨k.ln, k.kr, k.kw, k.kn, k.kp, k.ko, k.kl⟩⟩, by rw [upd_ne (fun z => n5 (by rw [z]; exact am))]; exact h2, by rw [upd_ne (fun z => n6 (by rw [z]; exact am))]; exact h3, fun i b us q1 q2 => ?_, h5, by rw [List.length_set]; exact h6, h7⟩
  by_cases e : i = n
  · subst e
    have e2 : b = a := Option.some.inj (q1.symm.trans ha)
    subst e2
    have hlt : i < M.texts.length := by
      rw [h6]
      exact (List.getElem?_eq_some_iff.mp ha).1
    have q3 : (M.texts.set i ts)[i]? = some us := q2
    rw [List.getElem?_set_self hlt] at q3
    rw [← Option.some.inj q3]
    exact upd_same
  · have q3 : (M.texts.set n ts)[i]? = some us := q2
    rw [List.getElem?_set_ne (Ne.symm e)] at q3
    rw [upd_ne (fun z => e (nodup_at n7 (by rw [← z]; exact q1) ha))]
    exact h4 i b us q1 q3
theorem Md.putWr (h : Md xx H A M) {kvs : List (Key × V)} (e : H A.m = some (.dK kvs)) (k : MdK xx kvs A.ml A.mw M) (w : Int) : Md xx (upd H A.m (.dK (putK kvs (.inr "writes") (.int w)))) A { M with wr := w } := by
  obtain ⟨n1, n2, n3, n4, n5, n6, n7⟩ := h.neq
  obtain ⟨_, h2, h3, h4, h5, h6, h7⟩ := h
  have o : ∀ {x : Str} {v : Option V}, x ≠ "writes" → valV kvs (.inr x) = v → valV (putK kvs (.inr "writes") (.int w)) (.inr x) = v := fun {x v} n e => by
    rw [valV_put, if_neg (fun z => n (Sum.inr.inj z))]
    exact e
  have hs : (kvs.any fun kv => decide (kv.1 = (Sum.inr "writes" : Key))) = true := by rw [valV_any, k.kn]; rfl
  refine ⟨⟨_, upd_same, ⟨?_, o (by decide +kernel) k.kr, o (by decide +kernel) k.kw, by rw [valV_put, if_pos rfl], o (by decide +kernel) k.kp, o (by decide +kernel) k.ko, fun z => ⟨o (by decide +kernel) (k.kl z).1, o (by decide +kernel) (k.kl z).2⟩⟩⟩, by rw [upd_ne n1.symm]; exact h2, by rw [upd_ne n2.symm]; exact h3, fun i a ts q1 q2 => by rw [upd_ne (fun z => n4 (by rw [← z]; exact List.mem_of_getElem? q1))]; exact h4 i a ts q1 q2, h5, h6, h7⟩
  unfold putK
  rw [if_pos hs, List.length_map]
  exact k.ln
theorem Md.worn (h : Md xx H A M) (ws : List Int) (hl : ws.length = M.wear.length) : Md xx (upd H A.mw (.lst (ws.map V.int))) A { M with wear := ws } := by
  obtain ⟨n1, n2, n3, n4, n5, n6, n7⟩ := h.neq
  obtain ⟨⟨kvs, e, k⟩, h2, h3, h4, h5, h6, h7⟩ := h
  exact ⟨⟨kvs, by rw [upd_ne n2]; exact e, ⟨k.ln, k.kr, k.kw, k.kn, k.kp, k.ko, k.kl⟩⟩, by rw [upd_ne n3]; exact h2, upd_same, fun i a ts q1 q2 => by rw [upd_ne (fun z => n6 (by rw [← z]; exact List.mem_of_getElem? q1))]; exact h4 i a ts q1 q2, h5, h6, by rw [hl]; exact h7⟩
/-- one row anew: a' holds no text -/
theorem Md.anew (h : Md xx H A M) {n : Nat} {a' : Addr} (hn : n < A.mras.length) (hf : ¬ A.mf a') (he : H a' = some (.lst [])) : Md xx (upd H A.ml (.lst ((A.mras.set n a').map V.ref))) { A with mras := A.mras.set n a' } { M with texts := M.texts.set n [] } := by
  obtain ⟨n1, n2, n3, n4, n5, n6, n7⟩ := h.neq
  obtain ⟨⟨kvs, e, k⟩, h2, h3, h4, h5, h6, h7⟩ := h
  have f1 : a' ≠ A.m := fun z => hf (.inl z)
  have f2 : a' ≠ A.ml := fun z => hf (.inr (.inl z))
  have f3 : a' ≠ A.mw := fun z => hf (.inr (.inr (.inl z)))
  have f4 : a' ∉ A.mras := fun z => hf (.inr (.inr (.inr z)))
  have ms : ∀ b, b ∈ A.mras.set n a' → b ∈ A.mras ∨ b = a' := fun b hb => List.mem_or_eq_of_mem_set hb
  have nd2 : (A.mras.set n a').Nodup := by
    refine List.pairwise_iff_getElem.mpr fun i j hi hj hij q => ?_
    have hi' : i < A.mras.length := by simpa using hi
    have hj' : j < A.mras.length := by simpa using hj
    rw [List.getElem_set, List.getElem_set] at q
    by_cases c1 : n = i
    · by_cases c2 : n = j
      · omega
      · rw [if_pos c1, if_neg c2] at q
        exact f4 (by rw [q]; exact List.getElem_mem hj')
    · by_cases c2 : n = j
      · rw [if_neg c1, if_pos c2] at q
        exact f4 (by rw [← q]; exact List.getElem_mem hi')
      · rw [if_neg c1, if_neg c2] at q
        exact absurd (nodup_at n7 (by rw [List.getElem?_eq_getElem hi']) (by rw [List.getElem?_eq_getElem hj', ← q])) (by omega)
  refine ⟨⟨kvs, by show upd H A.ml _ A.m = _; rw [upd_ne n1]; exact e, ⟨k.ln, k.kr, k.kw, k.kn, k.kp, k.ko, k.kl⟩⟩, upd_same, by show upd H A.ml _ A.mw = _; rw [upd_ne n3.symm]; exact h3, fun i b us q1 q2 => ?_, ?_, by show (M.texts.set n []).length = (A.mras.set n a').length; rw [List.length_set, List.length_set]; exact h6, by show M.wear.length = (A.mras.set n a').length; rw [List.length_set]; exact h7⟩
  · have q3 : (A.mras.set n a')[i]? = some b := q1
    have q4 : (M.texts.set n [])[i]? = some us := q2
    by_cases c : i = n
    · subst c
      rw [List.getElem?_set_self hn] at q3
      rw [List.getElem?_set_self (by rw [h6]; exact hn)] at q4
      rw [← Option.some.inj q3, ← Option.some.inj q4, upd_ne f2]
      exact he
    · rw [List.getElem?_set_ne (Ne.symm c)] at q3 q4
      rw [upd_ne (fun z => n5 (by rw [← z]; exact List.mem_of_getElem? q3))]
      exact h4 i b us q3 q4
  · show (A.m :: A.ml :: A.mw :: A.mras.set n a').Nodup
    simp only [List.nodup_cons, List.mem_cons, not_or]
    exact ⟨⟨n1, n2, fun z => (ms _ z).elim n4 (fun e => f1 e.symm)⟩, ⟨n3, fun z => (ms _ z).elim n5 (fun e => f2 e.symm)⟩, fun z => (ms _ z).elim n6 (fun e => f3 e.symm), nd2⟩
end
theorem vp_eq {kvs : List (Key × V)} {k : Key} {y : V} : valV (putK kvs k y) k = some y := by rw [valV_put, if_pos rfl]
theorem vp_ne {kvs : List (Key × V)} {k j : Key} {y : V} {v : Option V} (n : j ≠ k) (e : valV kvs j = v) : valV (putK kvs k y) j = v := by
  rw [valV_put, if_neg n]
  exact e
section
variable {T : List (Addr × Str)} {xx : Bool} {C : Addr} {H H' : Hp} {A : AD} {S M : DS} {F : Addr → Prop}
theorem Lx.but1 {p : Addr} {a b : Int} (t : LamX.Tabs T H) (h : Pot H p a b) (s : SameBut p H H') (f : F p) : Lx T F H H' :=
  ⟨fun c o e n _ => s c o e fun q => n (by rw [q]; exact f), tabs_but t h.1 s⟩
theorem Lx.upd1 {b : Addr} {o : HO} (t : LamX.Tabs T H) (k : ∃ u, H b = some u ∧ (∀ ps, u ≠ .tbl ps) ∧ ∀ c q, LamX.CodeO c q ≠ u) (f : F b) : Lx T F H (upd H b o) :=
  ⟨fun c u e n _ => by rw [upd_ne (fun z => n (by rw [z]; exact f))]; exact e, tabs_foot (F := fun c => c = b) t (fun c z => by rw [z]; exact k) fun c u e n => by rw [upd_ne n]; exact e⟩
theorem Pair.lxd (h : Pair xx C H A S M) (t : LamX.Tabs T H) (f : ∀ b, A.dk b → F b) (s : ∀ b o, H b = some o → ¬ DkFoot A.x A.rl A.wl A.ras b → H' b = some o) : Lx T F H H' :=
  (Lx.foot (F := A.dk) t (fun _ z => h.kind (.inl z)) fun b o e n => s b o e n).mono f
/-- the disk alone changed -/
theorem Pair.dk {S' : DS} (h : Pair xx C H A S M) (s : ∀ b o, H b = some o → ¬ DkFoot A.x A.rl A.wl A.ras b → H' b = some o) (d : Dk C H' A.x A.rl A.wl A.ras S') (c : ∀ ts ∈ S'.texts, ∀ t ∈ ts, ∀ c ∈ t.cps.toList, c < 1114112) : Pair xx C H' A S' M :=
  ⟨d, h.md.keep fun b o e f => s b o e (h.dj b f), h.dj, c⟩
theorem Pair.mrow (h : Pair xx C H A S M) {n : Nat} {a : Addr} (ha : A.mras[n]? = some a) (ts : List Str) : Pair xx C (upd H a (.lst (ts.map V.str))) A S { M with texts := M.texts.set n ts } :=
  ⟨h.d.off (h.dj a (.inr (.inr (.inr (List.mem_of_getElem? ha))))), h.md.row ha ts, h.dj, h.ch⟩
theorem Pair.mwr (h : Pair xx C H A S M) {kvs : List (Key × V)} (e : H A.m = some (.dK kvs)) (k : MdK xx kvs A.ml A.mw M) (w : Int) : Pair xx C (upd H A.m (.dK (putK kvs (.inr "writes") (.int w)))) A S { M with wr := w } :=
  ⟨h.d.off (h.dj _ (.inl rfl)), h.md.putWr e k w, h.dj, h.ch⟩
theorem Pair.mworn (h : Pair xx C H A S M) (ws : List Int) (hl : ws.length = M.wear.length) : Pair xx C (upd H A.mw (.lst (ws.map V.int))) A S { M with wear := ws } :=
  ⟨h.d.off (h.dj _ (.inr (.inr (.inl rfl)))), h.md.worn ws hl, h.dj, h.ch⟩
theorem wrote_ch {n : Nat} {z : Str} (h : ∀ ts ∈ S.texts, ∀ t ∈ ts, ∀ c ∈ t.cps.toList, c < 1114112) (hz : ∀ c ∈ z.cps.toList, c < 1114112) : ∀ ts ∈ (wroteD S n z).texts, ∀ t ∈ ts, ∀ c ∈ t.cps.toList, c < 1114112 := by
  intro ts hts t ht
  rcases List.mem_or_eq_of_mem_set (show ts ∈ S.texts.set n (S.texts.getD n [] ++ [z]) from hts) with hts | rfl
  · exact h ts hts t ht
  · rcases List.mem_append.mp ht with ht | ht
    · by_cases c : n < S.texts.length
      · have e : S.texts.getD n [] = S.texts[n] := by rw [List.getD_eq_getElem?_getD, List.getElem?_eq_getElem c]; rfl
        rw [e] at ht
        exact h _ (List.getElem_mem c) t ht
      · have e : S.texts.getD n [] = [] := by rw [List.getD_eq_getElem?_getD, List.getElem?_eq_none (by omega)]; rfl
        rw [e] at ht
        cases ht
    · rw [List.mem_singleton.mp ht]
      exact hz
theorem nwt_lx {b : Addr} (l : Lx T F H H') (n : H' b = none) (f : ¬ F b) : NwT H b := fun o q => Classical.byContradiction fun z => by
  rw [l.1 _ _ q f (fun ps h => z ⟨ps, h⟩)] at n
  cases n
/-- a model's row anew -/
theorem Pair.manew (h : Pair xx C H A S M) {n : Nat} {a' : Addr} (hn : n < A.mras.length) (hf : ¬ A.foot a') (he : H a' = some (.lst [])) : Pair xx C (upd H A.ml (.lst ((A.mras.set n a').map V.ref))) { A with mras := A.mras.set n a' } S { M with texts := M.texts.set n [] } :=
  ⟨h.d.off (h.dj _ (.inr (.inl rfl))), h.md.anew hn (fun z => hf (.inr z)) he, fun b z => by
    rcases z with z | z | z | z
    · exact h.dj b (.inl z)
    · exact h.dj b (.inr (.inl z))
    · exact h.dj b (.inr (.inr (.inl z)))
    · rcases List.mem_or_eq_of_mem_set z with z | z
      · exact h.dj b (.inr (.inr (.inr z)))
      · exact fun q => hf (.inl (by rw [← z]; exact q)), h.ch⟩
theorem manew_foot {n : Nat} {a' b : Addr} (z : ({ A with mras := A.mras.set n a' } : AD).foot b) : A.foot b ∨ b = a' := by
  rcases z with z | z | z | z | z
  · exact .inl (.inl z)
  · exact .inl (.inr (.inl z))
  · exact .inl (.inr (.inr (.inl z)))
  · exact .inl (.inr (.inr (.inr (.inl z))))
  · rcases List.mem_or_eq_of_mem_set z with z | z
    · exact .inl (.inr (.inr (.inr (.inr z))))
    · exact .inr z
/-- the disk's row anew -/
theorem Pair.dnew {n : Nat} {a' : Addr} {S' : DS} (h : Pair xx C H A S M) (s : ∀ b o, H b = some o → ¬ DkFoot A.x A.rl A.wl A.ras b → H' b = some o) (f : H a' = none) (d : Dk C H' A.x A.rl A.wl (A.ras.set n a') S') (c : ∀ ts ∈ S'.texts, ∀ t ∈ ts, ∀ c ∈ t.cps.toList, c < 1114112) :
    Pair xx C H' { A with ras := A.ras.set n a' } S' M :=
  have md := h.md.keep fun b o e q => s b o e (h.dj b q)
  ⟨d, ⟨md.ob, md.rl, md.wl, md.rs, md.nd, md.l1, md.l2⟩, fun b q z => by
    rcases z with z | z | z | z
    · exact h.dj b q (.inl z)
    · exact h.dj b q (.inr (.inl z))
    · exact h.dj b q (.inr (.inr (.inl z)))
    · rcases List.mem_or_eq_of_mem_set z with z | z
      · exact h.dj b q (.inr (.inr (.inr z)))
      · rcases h.md.kind q with ⟨k, e⟩ | ⟨k, e⟩ <;> (rw [z, f] at e; cases e), c⟩
theorem dnew_foot {n : Nat} {a' b : Addr} (z : ({ A with ras := A.ras.set n a' } : AD).foot b) : A.foot b ∨ b = a' := by
  rcases z with (z | z | z | z) | z
  · exact .inl (.inl (.inl z))
  · exact .inl (.inl (.inr (.inl z)))
  · exact .inl (.inl (.inr (.inr (.inl z))))
  · rcases List.mem_or_eq_of_mem_set z with z | z
    · exact .inl (.inl (.inr (.inr (.inr z))))
    · exact .inr z
  · exact .inl (.inr z)
end
theorem ext_lx {T : List (Addr × Str)} {H0 H1 H2 : Hp} {F : Addr → Prop} (e : LamX.ExtN H0 H1) (l : Lx T F H1 H2) (n : ∀ b, F b → NwT H0 b) : LamX.ExtN H0 H2 := fun b o h m => l.1 b o (e b o h m) (fun f => (n b f o h).elim fun ps q => m ps q) m
theorem NwT.back {H0 H1 : Hp} {b : Addr} (e : LamX.ExtN H0 H1) (n : NwT H1 b) : NwT H0 b := fun o q => Classical.byContradiction fun z => by
  obtain ⟨ps, h⟩ := n o (e _ _ q fun ps h => z ⟨ps, h⟩)
  exact z ⟨ps, h⟩
theorem two_ways2 {α β : Type} (R : α → β → Hp → Prop) {G : Prop} {F : α → β → Hp → Prop} (h : (∀ x y H, R x y H → F x y H) → G) (hF : ∀ x y H, R x y H → F x y H) : G := h hF
/-- a model tells what its disk tells -/
def AsD (S M : DS) : Prop := M.texts = S.texts ∧ M.wear = S.wear ∧ M.pl = S.pl ∧ M.wr = S.wr ∧ M.ov = S.ov
/-- what a law holds of its disk and its model between its deeds -/
structure Bd (T : List (Addr × Str)) (xx : Bool) (C : Addr) (H0 H : Hp) (A : AD) (S M : DS) : Prop where
  e : LamX.ExtN H0 H
  t : LamX.Tabs T H
  p : Pair xx C H A S M
  a : AsD S M
  n : ∀ b, A.foot b → NwT H0 b
theorem Bd.made {T : List (Addr × Str)} {C : Addr} {H0 H5 H6 : Hp} {p x rl wl : Addr} {ras : List Addr} {n w : Int} {A : AD} (R : Run T C H0 H5 p x rl wl ras (newD n w)) (s : Same H5 H6) (fr : ∀ b, A.mf b → H5 b = none)
    (md : Md false H6 A ⟨List.replicate n.toNat [], List.replicate n.toNat 0, w, 0, none, 0, false⟩) : Bd T false C H0 H6 ⟨x, rl, wl, ras, A.m, A.ml, A.mw, A.mras⟩ (newD n w) ⟨List.replicate n.toNat [], List.replicate n.toNat 0, w, 0, none, 0, false⟩ := by
  refine ⟨ext_same R.e s, R.t.ext s, ⟨R.d.m s, ⟨md.ob, md.rl, md.wl, md.rs, md.nd, md.l1, md.l2⟩, fun b z q => ?_, fun ts hts t ht => ?_⟩, ⟨rfl, rfl, rfl, rfl, rfl⟩, fun b z => ?_⟩
  · have n5 := fr b z
    rcases R.d.kind q with ⟨_, _, e⟩ | ⟨_, e⟩ <;> (rw [n5] at e; cases e)
  · rw [(List.mem_replicate.mp (show ts ∈ List.replicate n.toNat ([] : List Str) from hts)).2] at ht
    cases ht
  · rcases z with z | z
    · exact R.nf b z
    · exact NwT.of R.e (fr b z)
/-- all but the pot (and tables) stays -/
def KpB (p : Addr) (H H' : Hp) : Prop := ∀ b o, H b = some o → b ≠ p → (∀ ps, o ≠ .tbl ps) → H' b = some o
theorem KpB.of {p : Addr} {H H' : Hp} (e : LamX.ExtN H H') : KpB p H H' := fun b o h _ n => e b o h n
theorem KpB.but {p : Addr} {H H' : Hp} (e : SameBut p H H') : KpB p H H' := fun b o h n _ => e b o h n
theorem KpB.trans {p : Addr} {H H1 H2 : Hp} (a : KpB p H H1) (b : KpB p H1 H2) : KpB p H H2 := fun c o h n m => b c o (a c o h n m) n m

section
variable {T : List (Addr × Str)} {C : Addr} {H H' : Hp} {A : AD} {S M : DS} {F : Addr → Prop}
/-- how many writes are let is never below nought; nor how many signs are kept -/
def LfO (S : DS) : Prop := (∀ n, S.lf = some n → 0 ≤ n) ∧ 0 ≤ S.kp
theorem Md.put {xx : Bool} {M' : DS} (h : Md xx H A M) {kvs kvs' : List (Key × V)} (k : MdK xx kvs' A.ml A.mw M') (e1 : M'.texts = M.texts) (e2 : M'.wear = M.wear) : Md xx (upd H A.m (.dK kvs')) A M' := by
  obtain ⟨n1, n2, n3, n4, n5, n6, n7⟩ := h.neq
  obtain ⟨_, h2, h3, h4, h5, h6, h7⟩ := h
  exact ⟨⟨_, upd_same, k⟩, by rw [upd_ne n1.symm]; exact h2, by rw [upd_ne n2.symm, e2]; exact h3, fun i a ts q1 q2 => by rw [upd_ne (fun z => n4 (by rw [← z]; exact List.mem_of_getElem? q1))]; exact h4 i a ts q1 (by rw [← e1]; exact q2), h5, by rw [e1]; exact h6, by rw [e2]; exact h7⟩
theorem Pair.mput {xx : Bool} {M' : DS} (h : Pair xx C H A S M) {kvs kvs' : List (Key × V)} (e : H A.m = some (.dK kvs)) (k : MdK xx kvs' A.ml A.mw M') (e1 : M'.texts = M.texts) (e2 : M'.wear = M.wear) : Pair xx C (upd H A.m (.dK kvs')) A S M' :=
  ⟨h.d.off (h.dj _ (.inl rfl)), h.md.put (kvs := kvs) k e1 e2, h.dj, h.ch⟩
theorem put_len {kvs : List (Key × V)} {k : Key} {v w : V} (h : valV kvs k = some w) : (putK kvs k v).length = kvs.length := by
  have hs : (kvs.any fun kv => decide (kv.1 = k)) = true := by rw [valV_any, h]; rfl
  unfold putK
  rw [if_pos hs, List.length_map]
theorem MdK.over {xx : Bool} {kvs : List (Key × V)} {ml mw : Addr} (k : MdK xx kvs ml mw M) (b : Bool) : MdK xx (putK kvs (.inr "over") (.bl b)) ml mw { M with ov := b } :=
  ⟨by rw [put_len k.ko]; exact k.ln, vp_ne (by decide +kernel) k.kr, vp_ne (by decide +kernel) k.kw, vp_ne (by decide +kernel) k.kn, vp_ne (by decide +kernel) k.kp, vp_eq, fun z => ⟨vp_ne (by decide +kernel) (k.kl z).1, vp_ne (by decide +kernel) (k.kl z).2⟩⟩
theorem MdK.left {kvs : List (Key × V)} {ml mw : Addr} (k : MdK true kvs ml mw M) (l : Option Int) : MdK true (putK kvs (.inr "left") (.int (lfI l))) ml mw { M with lf := l } :=
  ⟨by rw [put_len (k.kl rfl).1]; exact k.ln, vp_ne (by decide +kernel) k.kr, vp_ne (by decide +kernel) k.kw, vp_ne (by decide +kernel) k.kn, vp_ne (by decide +kernel) k.kp, vp_ne (by decide +kernel) k.ko, fun z => ⟨vp_eq, vp_ne (by decide +kernel) (k.kl z).2⟩⟩
theorem MdK.kept {kvs : List (Key × V)} {ml mw : Addr} (k : MdK true kvs ml mw M) (n : Int) : MdK true (putK kvs (.inr "kept") (.int n)) ml mw { M with kp := n } :=
  ⟨by rw [put_len (k.kl rfl).2]; exact k.ln, vp_ne (by decide +kernel) k.kr, vp_ne (by decide +kernel) k.kw, vp_ne (by decide +kernel) k.kn, vp_ne (by decide +kernel) k.kp, vp_ne (by decide +kernel) k.ko, fun z => ⟨vp_ne (by decide +kernel) (k.kl z).1, vp_eq⟩⟩
theorem torn_ch {n : Nat} {z : Str} (h : ∀ ts ∈ S.texts, ∀ t ∈ ts, ∀ c ∈ t.cps.toList, c < 1114112) (hz : ∀ c ∈ z.cps.toList, c < 1114112) : ∀ ts ∈ (tornD S n z).texts, ∀ t ∈ ts, ∀ c ∈ t.cps.toList, c < 1114112 := by
  intro ts hts t ht
  have hts' : ts ∈ (if partD S z ≠ "" ∧ S.ov = false then S.texts.set n ((S.texts.getD n []) ++ [partD S z]) else S.texts) := hts
  split at hts'
  · rcases List.mem_or_eq_of_mem_set hts' with q | rfl
    · exact h ts q t ht
    · rcases List.mem_append.mp ht with ht | ht
      · by_cases c : n < S.texts.length
        · have e : S.texts.getD n [] = S.texts[n] := by rw [List.getD_eq_getElem?_getD, List.getElem?_eq_getElem c]; rfl
          rw [e] at ht
          exact h _ (List.getElem_mem c) t ht
        · have e : S.texts.getD n [] = [] := by rw [List.getD_eq_getElem?_getD, List.getElem?_eq_none (by omega)]; rfl
          rw [e] at ht
          cases ht
      · rw [List.mem_singleton.mp ht]
        intro c hc
        unfold partD at hc
        have e : (cutS z none (some (if (z.length : Int) - 1 < S.kp then (z.length : Int) - 1 else S.kp))).cps.toList = (z.cps.toList.drop (HT.sIx z.length 0 none)).take (HT.sIx z.length z.length (some (if (z.length : Int) - 1 < S.kp then (z.length : Int) - 1 else S.kp)) - HT.sIx z.length 0 none) := rfl
        rw [e] at hc
        exact hz c (List.mem_of_mem_drop (List.mem_of_mem_take hc))
  · exact h ts hts' t ht
theorem LfO.one (h : LfO S) (hs : shutD S = false) : LfO (oneD S) := by
  refine ⟨fun n e => ?_, h.2⟩
  have e' : S.lf.map (· - 1) = some n := e
  obtain ⟨m, hm, q⟩ := Option.map_eq_some_iff.mp e'
  have h0 := h.1 m hm
  have hn : m ≠ 0 := fun z => by
    unfold shutD at hs
    rw [hm, z] at hs
    simp at hs
  omega
theorem MdK.wrs {xx : Bool} {kvs : List (Key × V)} {ml mw : Addr} (k : MdK xx kvs ml mw M) (n : Int) : MdK xx (putK kvs (.inr "writes") (.int n)) ml mw { M with wr := n } :=
  ⟨by rw [put_len k.kn]; exact k.ln, vp_ne (by decide +kernel) k.kr, vp_ne (by decide +kernel) k.kw, vp_eq, vp_ne (by decide +kernel) k.kp, vp_ne (by decide +kernel) k.ko, fun z => ⟨vp_ne (by decide +kernel) (k.kl z).1, vp_ne (by decide +kernel) (k.kl z).2⟩⟩
theorem lfI_zero {l : Option Int} : lfI l = 0 ↔ l = some 0 := by
  cases l with
  | none => exact ⟨(fun h => by cases h), (fun h => by cases h)⟩
  | some n => exact ⟨fun h => by rw [show n = 0 from h], fun h => by injection h⟩
theorem lfI_less {l : Option Int} (h : ∀ n, l = some n → 0 ≤ n) (h0 : l ≠ some 0) : (if lfI l - 1 > -1 then lfI l - 1 else -1 : Int) = lfI (l.map (· - 1)) := by
  cases l with
  | none => rfl
  | some n =>
    have h1 := h n rfl
    have h2 : n ≠ 0 := fun z => h0 (by rw [z])
    show (if n - 1 > -1 then n - 1 else -1 : Int) = n - 1
    rw [if_pos (by omega)]
end

abbrev s_l_at : Stmt := topS 30
abbrev N_l_at : List Str := ["script", "k"]
theorem sc_l_at : FnScope N_l_at ["script", "k"] (defScope s_l_at) := ⟨rfl, rfl, rfl, by decide +kernel, rfl, by decide +kernel, by decide +kernel⟩
theorem ok_l_at {f : Addr} {fd : FuncData} (F : Fun K "_law_at" "_law_at" s_l_at f fd) (B : Bt mg) : GnOk P w K mg base CX0 1 f fd ["script", "k"] (sp_l_at K) := by
  refine gn_fun F sc_l_at (fun vs H Q E h => ?_) (fun cdv A outer s H vs Q E hr h => ?_)
  · obtain ⟨a, ns, i, rfl, _⟩ := h
    rfl
  · obtain ⟨a, ns, i, rfl, hS, k⟩ := h
    refine ⟨_, (pss_cons (ps_if (pt_cmpR op_lt (pv 1) (pe_callB call_len (by rfl) B.len (by decide +kernel) (pa_cons (pv 0) pa_nil)) (nomark _))
      (pss_one (ps_ret (pe_ix ix_list (pv 0) (pv 1) (fun _ _ => rfl))))
      pss_nil)
    (pss_one (ps_ret pe_int))), ?_⟩
    refine ⟨_, rfl, _, rfl, _, ns.length, rfl, .inl ⟨_, hS, by simp⟩, _, _, rfl, rfl, _, rfl, ?_⟩
    refine ite2 (fun c => ?_) (fun c => ?_)
    · have c' : (i : Int) < ns.length := of_decide_eq_true c
      refine ⟨_, rfl, _, rfl, a, _, _, _, rfl, rfl, hS, atI_nat (v := V.int (ns[i]'(by omega))) (by simp [show i < ns.length by omega]), ?_⟩
      exact k _
    · exact k 0
abbrev s_l_pot : Stmt := topS 31
abbrev N_l_pot : List Str := ["cell"]
theorem sc_l_pot : FnScope N_l_pot ["cell"] (defScope s_l_pot) := ⟨rfl, rfl, rfl, by decide +kernel, rfl, by decide +kernel, by decide +kernel⟩
theorem ok_l_pot {f : Addr} {fd : FuncData} (F : Fun K "_law_pot" "_law_pot" s_l_pot f fd) (B : Bt mg) : GnOk P w K mg base CX0 1 f fd ["cell"] sp_l_pot := by
  refine gn_fun F sc_l_pot (fun vs H Q E h => ?_) (fun cdv A outer s H vs Q E hr h => ?_)
  · obtain ⟨c, rfl, _⟩ := h
    rfl
  · obtain ⟨c, rfl, k⟩ := h
    refine ⟨_, pss_one (ps_ret (pe_lst (pa_cons (pe_callB (call_max2 rfl) (by rfl) B.max (by decide +kernel) (pa_cons pe_int (pa_cons (pe_op op_sub (pv 0) (pe_op op_pow pe_int pe_int)) pa_nil)))
      (pa_cons (pe_op op_add (pe_op op_mod (pe_op op_pow (pe_op op_add (pe_op op_mod (pe_callB call_abs (by rfl) B.abs (by decide +kernel) (pa_cons (pv 0) pa_nil)) pe_int) pe_int) pe_int) pe_int) pe_int) pa_nil)))), ?_⟩
    refine ⟨_, rfl, _, _, rfl, rfl, ⟨by decide, by decide, by decide⟩, _, _, rfl, rfl, _, _, rfl, ?_⟩
    refine ⟨_, rfl, _, rfl, ?_⟩
    refine ⟨_, _, rfl, rfl, (by show (0:Int) < 2147483563; decide), _, _, rfl, rfl, _, _, rfl, rfl, ⟨by decide, by decide, ?_⟩, ?_⟩
    · show (((if c < 0 then -c else c) % 2147483563 + 1 : Int)).natAbs < 2 ^ 64
      omega
    refine ⟨_, _, rfl, rfl, (by show (0:Int) < 2147483549; decide), _, _, rfl, rfl, (by show 2 ≤ sizeLine; decide), fun p hp => ?_⟩
    exact k p _ (Same.new hp) hp ⟨upd_same, potB_ok c⟩
abbrev s_l_take : Stmt := topS 32
abbrev N_l_take : List Str := ["pot", "many", "digit"]
theorem sc_l_take : FnScope N_l_take ["pot", "many"] (defScope s_l_take) := ⟨rfl, rfl, rfl, by decide +kernel, rfl, by decide +kernel, by decide +kernel⟩
theorem ok_l_take {f : Addr} {fd : FuncData} (F : Fun K "_law_take" "_law_take" s_l_take f fd) (B : Bt mg) : GnOk P w K mg base CX0 1 f fd ["pot", "many"] sp_l_take := by
  refine gn_fun F sc_l_take (fun vs H Q E h => ?_) (fun cdv A outer s H vs Q E hr h => ?_)
  · obtain ⟨p, a, b, m, rfl, _⟩ := h
    rfl
  · obtain ⟨p, a, b, m, rfl, ⟨hp, hb⟩, hm, hm2, k⟩ := h
    refine ⟨_, pss_cons (ps_if (pt_cmpR op_gt (pe_ix ix_list (pv 0) pe_int (fun _ _ => rfl)) pe_int (nomark _))
        (pss_cons (ps_asg (pe_callB call_divmodW (by rfl) B.divmod (by decide +kernel) (pa_cons (pe_ix ix_list (pv 0) pe_int (fun _ _ => rfl)) (pa_cons (pv 1) pa_nil)))
            (pg_tup (by rfl) (pgs_cons (pg_sub (pv 0) pe_int set_list) (pgs_cons (pg_name (i := 2) sc_l_take.nd rfl (Or.inl rfl)) pgs_nil))))
          (pss_one (ps_ret (pv 2)))) pss_nil)
      (pss_cons (ps_asg (pe_op op_mod (pe_op op_add (pe_op op_mul (pe_ix ix_list (pv 0) pe_int (fun _ _ => rfl)) pe_int) pe_int) pe_int) (pg_sub (pv 0) pe_int set_list))
      (pss_one (ps_ret (pe_op op_mod (pe_op op_fdiv (pe_op op_mod (pe_op op_mul (pe_ix ix_list (pv 0) pe_int (fun _ _ => rfl)) (pe_ix ix_list (pv 0) pe_int (fun _ _ => rfl))) pe_int) pe_int) (pv 1))))), ?_⟩
    refine ⟨_, rfl, p, _, _, _, rfl, rfl, SqL.of hp, rfl, _, _, rfl, rfl, _, rfl, ?_⟩
    have hd : CDivP a m := ⟨hm, PyProof.noPylong_of_log2 hm2⟩
    refine ite2 (fun c => ?_) (fun c => ?_)
    · have c' : 0 < a := of_decide_eq_true c
      refine ⟨_, rfl, p, _, _, _, rfl, rfl, SqL.of hp, rfl, _, rfl, _, _, rfl, hd, fun t ht => ?_⟩
      have npt : p ≠ t := ne_of_none hp ht
      refine ⟨t, _, rfl, SqT.of upd_same, rfl, ?_⟩
      refine ⟨_, _, rfl, _, rfl, p, _, _, _, rfl, rfl, (by rw [upd_ne npt]; exact hp), rfl, ?_⟩
      refine ⟨_, _, rfl, rfl, _, rfl, ?_⟩
      have e1 : tkA a b m = a / m := if_pos c'
      have e2 : tkB a b m = b := if_pos c'
      have e3 : tkD a b m = a % m := if_pos c'
      have := k (upd (upd H t (.tup [.int (a / m), .int (a % m)])) p (.lst [.int (tkA a b m), .int (tkB a b m)])) (SameBut.of (Same.new ht)).upd ⟨upd_same, tkB_ok hb⟩
      rw [e1, e2, e3] at this
      exact this
    · have c' : ¬ 0 < a := fun z => c (decide_eq_true z)
      refine ⟨_, rfl, p, _, _, _, rfl, rfl, SqL.of hp, rfl, _, _, rfl, rfl, .inr (by decide), _, _, rfl, rfl, _, _, rfl, rfl, (by show (0:Int) < 2147483647; decide), ?_⟩
      refine ⟨_, rfl, p, _, _, _, rfl, rfl, hp, rfl, ?_⟩
      have e1 : tkA a b m = a := if_neg c'
      have e2 : tkB a b m = (b * 48271 + 12347) % 2147483647 := if_neg c'
      have e3 : tkD a b m = ((b * 48271 + 12347) % 2147483647) * ((b * 48271 + 12347) % 2147483647) % 2147483579 / 13 % m := if_neg c'
      refine ⟨_, rfl, p, _, _, _, rfl, rfl, SqL.of upd_same, rfl, _, rfl, p, _, _, _, rfl, rfl, SqL.of upd_same, rfl, _, _, rfl, rfl, .inr ?_, ?_⟩
      · show -(2 ^ 64) < (b * 48271 + 12347) % 2147483647 ∧ (b * 48271 + 12347) % 2147483647 < 2 ^ 64
        omega
      refine ⟨_, _, rfl, rfl, (by show (0:Int) < 2147483579; decide), _, _, rfl, rfl, ⟨by decide, by decide⟩, _, rfl, _, _, rfl, rfl, hm, ?_⟩
      have := k (upd H p (.lst [.int (tkA a b m), .int (tkB a b m)])) (SameBut.of (Same.refl H)).upd ⟨upd_same, tkB_ok hb⟩
      rw [e1, e2, e3] at this
      exact this
abbrev s_l_class : Stmt := topS 33
abbrev N_l_class : List Str := ["error", "kinds"]
theorem sc_l_class : FnScope N_l_class ["error"] (defScope s_l_class) := ⟨rfl, rfl, rfl, by decide +kernel, rfl, by decide +kernel, by decide +kernel⟩
/-- what the law calls a class of the disk's -/
def lawC (b f d p s : Addr) (cls : Value) (n : Str) : Prop := (cls = .ref b ∧ n = "bad text") ∨ (cls = .ref f ∧ n = "full") ∨ (cls = .ref d ∧ n = "no disk") ∨ (cls = .ref p ∧ n = "no place") ∨ (cls = .ref s ∧ n = "stopped")
def sp_l_class (b f n p s : Addr) : Value → Option Addr → Addr → Sp := fun cls d a vs H Q _ => vs = [.ref a] ∧ ∃ z, lawC b f n p s cls z ∧ DctOk d H ∧ ∀ H', Same H H' → Q (.str z) H'
theorem first_true {bs : List Bool} {j : Nat} (h : (bs.take j).all (fun b => !b) = true) (m : Nat) (z : V) (hm : m < j) (e : (bs.map V.bl)[m]? = some z) : eqV z (.bl true) = false := by
  rw [List.getElem?_map] at e
  obtain ⟨b, hb, rfl⟩ := Option.map_eq_some_iff.mp e
  have q := List.all_eq_true.mp h b (List.mem_of_getElem? (i := m) (by rw [List.getElem?_take, if_pos hm]; exact hb))
  cases b
  · rfl
  · cases q
theorem ok_l_class {f : Addr} {fd : FuncData} (F : Fun K "_law_class" "_law_class" s_l_class f fd) (B : Bt mg) {A_BadText : Addr} {A_Full : Addr} {A_NoDisk : Addr} {A_NoPlace : Addr} {A_Stopped : Addr} {A_DiskError : Addr} {A_NoMount : Addr} {A_NoRecord : Addr} {A_NoRoom : Addr} {A_NotBlank : Addr} {A_Unreadable : Addr} {A_TreeError : Addr} {A_NoTree : Addr} {A_NoRow : Addr} {A_NoHouse : Addr} {A_Halted : Addr} (XC_BadText : XCls K mg "BadText" A_BadText) (XC_Full : XCls K mg "Full" A_Full) (XC_NoDisk : XCls K mg "NoDisk" A_NoDisk) (XC_NoPlace : XCls K mg "NoPlace" A_NoPlace) (XC_Stopped : XCls K mg "Stopped" A_Stopped) (XC_DiskError : XCls K mg "DiskError" A_DiskError) (XC_NoMount : XCls K mg "NoMount" A_NoMount) (XC_NoRecord : XCls K mg "NoRecord" A_NoRecord) (XC_NoRoom : XCls K mg "NoRoom" A_NoRoom) (XC_NotBlank : XCls K mg "NotBlank" A_NotBlank) (XC_Unreadable : XCls K mg "Unreadable" A_Unreadable) (XC_TreeError : XCls K mg "TreeError" A_TreeError) (XC_NoTree : XCls K mg "NoTree" A_NoTree) (XC_NoRow : XCls K mg "NoRow" A_NoRow) (XC_NoHouse : XCls K mg "NoHouse" A_NoHouse) (XC_Halted : XCls K mg "Halted" A_Halted) (XK_BadText_BadText : PySem.W.kitOne K (.ref A_BadText) (.ref A_BadText) = some true) (XK_BadText_Full : PySem.W.kitOne K (.ref A_BadText) (.ref A_Full) = some false) (XK_BadText_NoDisk : PySem.W.kitOne K (.ref A_BadText) (.ref A_NoDisk) = some false) (XK_BadText_NoPlace : PySem.W.kitOne K (.ref A_BadText) (.ref A_NoPlace) = some false) (XK_BadText_Stopped : PySem.W.kitOne K (.ref A_BadText) (.ref A_Stopped) = some false) (XK_BadText_DiskError : PySem.W.kitOne K (.ref A_BadText) (.ref A_DiskError) = some true) (XK_BadText_ValueError : PySem.W.kitOne K (.ref A_BadText) (.type "ValueError") = some true) (XK_BadText_NoMount : PySem.W.kitOne K (.ref A_BadText) (.ref A_NoMount) = some false) (XK_BadText_NoRecord : PySem.W.kitOne K (.ref A_BadText) (.ref A_NoRecord) = some false) (XK_BadText_NoRoom : PySem.W.kitOne K (.ref A_BadText) (.ref A_NoRoom) = some false) (XK_BadText_NotBlank : PySem.W.kitOne K (.ref A_BadText) (.ref A_NotBlank) = some false) (XK_BadText_Unreadable : PySem.W.kitOne K (.ref A_BadText) (.ref A_Unreadable) = some false) (XK_BadText_TreeError : PySem.W.kitOne K (.ref A_BadText) (.ref A_TreeError) = some false) (XK_BadText_NoTree : PySem.W.kitOne K (.ref A_BadText) (.ref A_NoTree) = some false) (XK_BadText_NoRow : PySem.W.kitOne K (.ref A_BadText) (.ref A_NoRow) = some false) (XK_BadText_NoHouse : PySem.W.kitOne K (.ref A_BadText) (.ref A_NoHouse) = some false) (XK_BadText_Halted : PySem.W.kitOne K (.ref A_BadText) (.ref A_Halted) = some false) (XK_Full_BadText : PySem.W.kitOne K (.ref A_Full) (.ref A_BadText) = some false) (XK_Full_Full : PySem.W.kitOne K (.ref A_Full) (.ref A_Full) = some true) (XK_Full_NoDisk : PySem.W.kitOne K (.ref A_Full) (.ref A_NoDisk) = some false) (XK_Full_NoPlace : PySem.W.kitOne K (.ref A_Full) (.ref A_NoPlace) = some false) (XK_Full_Stopped : PySem.W.kitOne K (.ref A_Full) (.ref A_Stopped) = some false) (XK_Full_DiskError : PySem.W.kitOne K (.ref A_Full) (.ref A_DiskError) = some true) (XK_Full_ValueError : PySem.W.kitOne K (.ref A_Full) (.type "ValueError") = some true) (XK_Full_NoMount : PySem.W.kitOne K (.ref A_Full) (.ref A_NoMount) = some false) (XK_Full_NoRecord : PySem.W.kitOne K (.ref A_Full) (.ref A_NoRecord) = some false) (XK_Full_NoRoom : PySem.W.kitOne K (.ref A_Full) (.ref A_NoRoom) = some false) (XK_Full_NotBlank : PySem.W.kitOne K (.ref A_Full) (.ref A_NotBlank) = some false) (XK_Full_Unreadable : PySem.W.kitOne K (.ref A_Full) (.ref A_Unreadable) = some false) (XK_Full_TreeError : PySem.W.kitOne K (.ref A_Full) (.ref A_TreeError) = some false) (XK_Full_NoTree : PySem.W.kitOne K (.ref A_Full) (.ref A_NoTree) = some false) (XK_Full_NoRow : PySem.W.kitOne K (.ref A_Full) (.ref A_NoRow) = some false) (XK_Full_NoHouse : PySem.W.kitOne K (.ref A_Full) (.ref A_NoHouse) = some false) (XK_Full_Halted : PySem.W.kitOne K (.ref A_Full) (.ref A_Halted) = some false) (XK_NoDisk_BadText : PySem.W.kitOne K (.ref A_NoDisk) (.ref A_BadText) = some false) (XK_NoDisk_Full : PySem.W.kitOne K (.ref A_NoDisk) (.ref A_Full) = some false) (XK_NoDisk_NoDisk : PySem.W.kitOne K (.ref A_NoDisk) (.ref A_NoDisk) = some true) (XK_NoDisk_NoPlace : PySem.W.kitOne K (.ref A_NoDisk) (.ref A_NoPlace) = some false) (XK_NoDisk_Stopped : PySem.W.kitOne K (.ref A_NoDisk) (.ref A_Stopped) = some false) (XK_NoDisk_DiskError : PySem.W.kitOne K (.ref A_NoDisk) (.ref A_DiskError) = some true) (XK_NoDisk_ValueError : PySem.W.kitOne K (.ref A_NoDisk) (.type "ValueError") = some true) (XK_NoDisk_NoMount : PySem.W.kitOne K (.ref A_NoDisk) (.ref A_NoMount) = some false) (XK_NoDisk_NoRecord : PySem.W.kitOne K (.ref A_NoDisk) (.ref A_NoRecord) = some false) (XK_NoDisk_NoRoom : PySem.W.kitOne K (.ref A_NoDisk) (.ref A_NoRoom) = some false) (XK_NoDisk_NotBlank : PySem.W.kitOne K (.ref A_NoDisk) (.ref A_NotBlank) = some false) (XK_NoDisk_Unreadable : PySem.W.kitOne K (.ref A_NoDisk) (.ref A_Unreadable) = some false) (XK_NoDisk_TreeError : PySem.W.kitOne K (.ref A_NoDisk) (.ref A_TreeError) = some false) (XK_NoDisk_NoTree : PySem.W.kitOne K (.ref A_NoDisk) (.ref A_NoTree) = some false) (XK_NoDisk_NoRow : PySem.W.kitOne K (.ref A_NoDisk) (.ref A_NoRow) = some false) (XK_NoDisk_NoHouse : PySem.W.kitOne K (.ref A_NoDisk) (.ref A_NoHouse) = some false) (XK_NoDisk_Halted : PySem.W.kitOne K (.ref A_NoDisk) (.ref A_Halted) = some false) (XK_NoPlace_BadText : PySem.W.kitOne K (.ref A_NoPlace) (.ref A_BadText) = some false) (XK_NoPlace_Full : PySem.W.kitOne K (.ref A_NoPlace) (.ref A_Full) = some false) (XK_NoPlace_NoDisk : PySem.W.kitOne K (.ref A_NoPlace) (.ref A_NoDisk) = some false) (XK_NoPlace_NoPlace : PySem.W.kitOne K (.ref A_NoPlace) (.ref A_NoPlace) = some true) (XK_NoPlace_Stopped : PySem.W.kitOne K (.ref A_NoPlace) (.ref A_Stopped) = some false) (XK_NoPlace_DiskError : PySem.W.kitOne K (.ref A_NoPlace) (.ref A_DiskError) = some true) (XK_NoPlace_ValueError : PySem.W.kitOne K (.ref A_NoPlace) (.type "ValueError") = some true) (XK_NoPlace_NoMount : PySem.W.kitOne K (.ref A_NoPlace) (.ref A_NoMount) = some false) (XK_NoPlace_NoRecord : PySem.W.kitOne K (.ref A_NoPlace) (.ref A_NoRecord) = some false) (XK_NoPlace_NoRoom : PySem.W.kitOne K (.ref A_NoPlace) (.ref A_NoRoom) = some false) (XK_NoPlace_NotBlank : PySem.W.kitOne K (.ref A_NoPlace) (.ref A_NotBlank) = some false) (XK_NoPlace_Unreadable : PySem.W.kitOne K (.ref A_NoPlace) (.ref A_Unreadable) = some false) (XK_NoPlace_TreeError : PySem.W.kitOne K (.ref A_NoPlace) (.ref A_TreeError) = some false) (XK_NoPlace_NoTree : PySem.W.kitOne K (.ref A_NoPlace) (.ref A_NoTree) = some false) (XK_NoPlace_NoRow : PySem.W.kitOne K (.ref A_NoPlace) (.ref A_NoRow) = some false) (XK_NoPlace_NoHouse : PySem.W.kitOne K (.ref A_NoPlace) (.ref A_NoHouse) = some false) (XK_NoPlace_Halted : PySem.W.kitOne K (.ref A_NoPlace) (.ref A_Halted) = some false) (XK_Stopped_BadText : PySem.W.kitOne K (.ref A_Stopped) (.ref A_BadText) = some false) (XK_Stopped_Full : PySem.W.kitOne K (.ref A_Stopped) (.ref A_Full) = some false) (XK_Stopped_NoDisk : PySem.W.kitOne K (.ref A_Stopped) (.ref A_NoDisk) = some false) (XK_Stopped_NoPlace : PySem.W.kitOne K (.ref A_Stopped) (.ref A_NoPlace) = some false) (XK_Stopped_Stopped : PySem.W.kitOne K (.ref A_Stopped) (.ref A_Stopped) = some true) (XK_Stopped_DiskError : PySem.W.kitOne K (.ref A_Stopped) (.ref A_DiskError) = some true) (XK_Stopped_ValueError : PySem.W.kitOne K (.ref A_Stopped) (.type "ValueError") = some true) (XK_Stopped_NoMount : PySem.W.kitOne K (.ref A_Stopped) (.ref A_NoMount) = some false) (XK_Stopped_NoRecord : PySem.W.kitOne K (.ref A_Stopped) (.ref A_NoRecord) = some false) (XK_Stopped_NoRoom : PySem.W.kitOne K (.ref A_Stopped) (.ref A_NoRoom) = some false) (XK_Stopped_NotBlank : PySem.W.kitOne K (.ref A_Stopped) (.ref A_NotBlank) = some false) (XK_Stopped_Unreadable : PySem.W.kitOne K (.ref A_Stopped) (.ref A_Unreadable) = some false) (XK_Stopped_TreeError : PySem.W.kitOne K (.ref A_Stopped) (.ref A_TreeError) = some false) (XK_Stopped_NoTree : PySem.W.kitOne K (.ref A_Stopped) (.ref A_NoTree) = some false) (XK_Stopped_NoRow : PySem.W.kitOne K (.ref A_Stopped) (.ref A_NoRow) = some false) (XK_Stopped_NoHouse : PySem.W.kitOne K (.ref A_Stopped) (.ref A_NoHouse) = some false) (XK_Stopped_Halted : PySem.W.kitOne K (.ref A_Stopped) (.ref A_Halted) = some false) (BV : mg "ValueError" = none) : ∀ (cls : Value) (d : Option Addr), FnE P w K mg base CX0 1 f fd ["error"] cls d ((sp_l_class A_BadText A_Full A_NoDisk A_NoPlace A_Stopped) cls d) := by
  intro cls d
  obtain ⟨oc, od, kV, doc, pm, an, cdv, ct, osl, rfl, lk, hc⟩ := F.ex
  refine fn_ofE lk hc sc_l_class (fun a vs H Q E h => ?_) (fun A outer s H vs Q E p hz hf hd hr h => ?_)
  · obtain ⟨rfl, _⟩ := h
    rfl
  · obtain ⟨rfl, z, hc, hdc, k⟩ := h
    refine ⟨_, (pss_cons (ps_set (i := 1) sc_l_class.nd rfl (Or.inl rfl) (pe_lst (pa_cons (pe_callB (call_isP List.mem_cons_self hz hf K) (by rfl) B.isinstance (by decide +kernel) (pa_cons (pv 0) (pa_cons (pe_glob (by rfl) XC_BadText.mgC (rel_r _)) pa_nil))) (pa_cons (pe_callB (call_isP List.mem_cons_self hz hf K) (by rfl) B.isinstance (by decide +kernel) (pa_cons (pv 0) (pa_cons (pe_glob (by rfl) XC_Full.mgC (rel_r _)) pa_nil))) (pa_cons (pe_callB (call_isP List.mem_cons_self hz hf K) (by rfl) B.isinstance (by decide +kernel) (pa_cons (pv 0) (pa_cons (pe_glob (by rfl) XC_NoDisk.mgC (rel_r _)) pa_nil))) (pa_cons (pe_callB (call_isP List.mem_cons_self hz hf K) (by rfl) B.isinstance (by decide +kernel) (pa_cons (pv 0) (pa_cons (pe_glob (by rfl) XC_NoPlace.mgC (rel_r _)) pa_nil))) pa_nil))))))
    (pss_cons (ps_set (i := 1) sc_l_class.nd rfl (Or.inl rfl) (pe_op op_cat (pv 1) (pe_lst (pa_cons (pe_callB (call_isP List.mem_cons_self hz hf K) (by rfl) B.isinstance (by decide +kernel) (pa_cons (pv 0) (pa_cons (pe_glob (by rfl) XC_Stopped.mgC (rel_r _)) pa_nil))) pa_nil))))
    (pss_cons (ps_if (PW.pt (pw_or (pt_not (pt_val (pe_callB (call_isP List.mem_cons_self hz hf K) (by rfl) B.isinstance (by decide +kernel) (pa_cons (pv 0) (pa_cons (pe_glob (by rfl) XC_DiskError.mgC (rel_r _)) pa_nil))))) (pw_or (pt_not (pt_val (pe_callB (call_isP List.mem_cons_self hz hf K) (by rfl) B.isinstance (by decide +kernel) (pa_cons (pv 0) (pa_cons (pe_bltn (v := .ty "ValueError") (by rfl) BV (by decide +kernel) rfl) pa_nil))))) (pw_or1 (pt_cmpR op_ne (pe_bmK K PySem.F.plainAttrs_list PySem.F.slot_list_count PySem.F.type_list_count (mt_countF K) (pv 1) (pa_cons pe_bl pa_nil)) pe_int (nomark _))))))
      (pss_one (ps_ret pe_str))
      pss_nil)
    (pss_cons (ps_if (pt_val (pe_callB (call_isPT List.mem_cons_self hz hf K) (by rfl) B.isinstance (by decide +kernel) (pa_cons (pv 0) (pa_cons (pe_tup (pa_cons (pe_glob (by rfl) XC_NoMount.mgC (rel_r _)) (pa_cons (pe_glob (by rfl) XC_NoRecord.mgC (rel_r _)) (pa_cons (pe_glob (by rfl) XC_NoRoom.mgC (rel_r _)) (pa_cons (pe_glob (by rfl) XC_NotBlank.mgC (rel_r _)) (pa_cons (pe_glob (by rfl) XC_Unreadable.mgC (rel_r _)) (pa_cons (pe_glob (by rfl) XC_TreeError.mgC (rel_r _)) (pa_cons (pe_glob (by rfl) XC_NoTree.mgC (rel_r _)) (pa_cons (pe_glob (by rfl) XC_NoRow.mgC (rel_r _)) (pa_cons (pe_glob (by rfl) XC_NoHouse.mgC (rel_r _)) (pa_cons (pe_glob (by rfl) XC_Halted.mgC (rel_r _)) pa_nil))))))))))) pa_nil))))
      (pss_one (ps_ret pe_str))
      pss_nil)
    (pss_one (ps_ret (pe_ix (ix_listK K) (pe_lst (pa_cons pe_str (pa_cons pe_str (pa_cons pe_str (pa_cons pe_str (pa_cons pe_str pa_nil)))))) (pe_bmK K PySem.F.plainAttrs_list PySem.F.slot_list_index PySem.F.type_list_index mt_index (pv 1) (pa_cons pe_bl pa_nil)) (fun _ _ => rfl)))))))), ?_⟩
    obtain ⟨D, b1, b2, b3, b4, b5, j, rfl, ek, k1, k2, k3, k4, k5, kd, kv, ka, hn, hj, hm, hz⟩ : ∃ (D : Addr) (b1 b2 b3 b4 b5 : Bool) (j : Nat), cls = .ref D ∧ PySem.W.ExcK K D ∧ PySem.W.kitOne K (.ref D) (.ref A_BadText) = some b1 ∧ PySem.W.kitOne K (.ref D) (.ref A_Full) = some b2 ∧ PySem.W.kitOne K (.ref D) (.ref A_NoDisk) = some b3 ∧ PySem.W.kitOne K (.ref D) (.ref A_NoPlace) = some b4 ∧ PySem.W.kitOne K (.ref D) (.ref A_Stopped) = some b5 ∧
        PySem.W.kitOne K (.ref D) (.ref A_DiskError) = some true ∧ PySem.W.kitOne K (.ref D) (.type "ValueError") = some true ∧ PySem.W.kitAny K (.ref D) [.ref A_NoMount, .ref A_NoRecord, .ref A_NoRoom, .ref A_NotBlank, .ref A_Unreadable, .ref A_TreeError, .ref A_NoTree, .ref A_NoRow, .ref A_NoHouse, .ref A_Halted] = some false ∧
        (([b1, b2, b3, b4, b5].map V.bl).countP (fun z => eqV z (.bl true)) = 1) ∧ ([b1, b2, b3, b4, b5].map V.bl)[j]? = some (.bl true) ∧ ([b1, b2, b3, b4, b5].take j).all (fun b => !b) = true ∧ atI ([V.str "bad text", V.str "full", V.str "no disk", V.str "no place", V.str "stopped"] : List V) (j : Int) = some (.str z) := by
      rcases hc with ⟨rfl, rfl⟩ | ⟨rfl, rfl⟩ | ⟨rfl, rfl⟩ | ⟨rfl, rfl⟩ | ⟨rfl, rfl⟩
      · exact ⟨A_BadText, true, false, false, false, false, 0, rfl, XC_BadText.ek, XK_BadText_BadText, XK_BadText_Full, XK_BadText_NoDisk, XK_BadText_NoPlace, XK_BadText_Stopped, XK_BadText_DiskError, XK_BadText_ValueError, (kitAny_f XK_BadText_NoMount (kitAny_f XK_BadText_NoRecord (kitAny_f XK_BadText_NoRoom (kitAny_f XK_BadText_NotBlank (kitAny_f XK_BadText_Unreadable (kitAny_f XK_BadText_TreeError (kitAny_f XK_BadText_NoTree (kitAny_f XK_BadText_NoRow (kitAny_f XK_BadText_NoHouse (kitAny_f XK_BadText_Halted rfl)))))))))), by decide, rfl, rfl, rfl⟩
      · exact ⟨A_Full, false, true, false, false, false, 1, rfl, XC_Full.ek, XK_Full_BadText, XK_Full_Full, XK_Full_NoDisk, XK_Full_NoPlace, XK_Full_Stopped, XK_Full_DiskError, XK_Full_ValueError, (kitAny_f XK_Full_NoMount (kitAny_f XK_Full_NoRecord (kitAny_f XK_Full_NoRoom (kitAny_f XK_Full_NotBlank (kitAny_f XK_Full_Unreadable (kitAny_f XK_Full_TreeError (kitAny_f XK_Full_NoTree (kitAny_f XK_Full_NoRow (kitAny_f XK_Full_NoHouse (kitAny_f XK_Full_Halted rfl)))))))))), by decide, rfl, rfl, rfl⟩
      · exact ⟨A_NoDisk, false, false, true, false, false, 2, rfl, XC_NoDisk.ek, XK_NoDisk_BadText, XK_NoDisk_Full, XK_NoDisk_NoDisk, XK_NoDisk_NoPlace, XK_NoDisk_Stopped, XK_NoDisk_DiskError, XK_NoDisk_ValueError, (kitAny_f XK_NoDisk_NoMount (kitAny_f XK_NoDisk_NoRecord (kitAny_f XK_NoDisk_NoRoom (kitAny_f XK_NoDisk_NotBlank (kitAny_f XK_NoDisk_Unreadable (kitAny_f XK_NoDisk_TreeError (kitAny_f XK_NoDisk_NoTree (kitAny_f XK_NoDisk_NoRow (kitAny_f XK_NoDisk_NoHouse (kitAny_f XK_NoDisk_Halted rfl)))))))))), by decide, rfl, rfl, rfl⟩
      · exact ⟨A_NoPlace, false, false, false, true, false, 3, rfl, XC_NoPlace.ek, XK_NoPlace_BadText, XK_NoPlace_Full, XK_NoPlace_NoDisk, XK_NoPlace_NoPlace, XK_NoPlace_Stopped, XK_NoPlace_DiskError, XK_NoPlace_ValueError, (kitAny_f XK_NoPlace_NoMount (kitAny_f XK_NoPlace_NoRecord (kitAny_f XK_NoPlace_NoRoom (kitAny_f XK_NoPlace_NotBlank (kitAny_f XK_NoPlace_Unreadable (kitAny_f XK_NoPlace_TreeError (kitAny_f XK_NoPlace_NoTree (kitAny_f XK_NoPlace_NoRow (kitAny_f XK_NoPlace_NoHouse (kitAny_f XK_NoPlace_Halted rfl)))))))))), by decide, rfl, rfl, rfl⟩
      · exact ⟨A_Stopped, false, false, false, false, true, 4, rfl, XC_Stopped.ek, XK_Stopped_BadText, XK_Stopped_Full, XK_Stopped_NoDisk, XK_Stopped_NoPlace, XK_Stopped_Stopped, XK_Stopped_DiskError, XK_Stopped_ValueError, (kitAny_f XK_Stopped_NoMount (kitAny_f XK_Stopped_NoRecord (kitAny_f XK_Stopped_NoRoom (kitAny_f XK_Stopped_NotBlank (kitAny_f XK_Stopped_Unreadable (kitAny_f XK_Stopped_TreeError (kitAny_f XK_Stopped_NoTree (kitAny_f XK_Stopped_NoRow (kitAny_f XK_Stopped_NoHouse (kitAny_f XK_Stopped_Halted rfl)))))))))), by decide, rfl, rfl, rfl⟩
    have dm : ∀ {H'}, Same H H' → DctOk d H' := fun {H'} s => hdc.elim .inl fun ⟨dd, fs, e, h⟩ => .inr ⟨dd, fs, e, s _ _ h⟩
    refine ⟨_, rfl, _, _, D, b1, rfl, rfl, ek, hdc, .own _, k1, ?_⟩
    refine ⟨_, rfl, _, _, D, b2, rfl, rfl, ek, hdc, .own _, k2, ?_⟩
    refine ⟨_, rfl, _, _, D, b3, rfl, rfl, ek, hdc, .own _, k3, ?_⟩
    refine ⟨_, rfl, _, _, D, b4, rfl, rfl, ek, hdc, .own _, k4, ?_⟩
    refine ⟨(by show 4 ≤ sizeLine; decide), fun l1 hl1 => ?_⟩
    have s1 : Same H (upd H l1 (.lst [.bl b1, .bl b2, .bl b3, .bl b4])) := Same.new hl1
    refine ⟨_, rfl, ?_⟩
    refine ⟨_, rfl, _, _, D, b5, rfl, rfl, ek, dm s1, .own _, k5, ?_⟩
    refine ⟨(by show 1 ≤ sizeLine; decide), fun l2 hl2 => ⟨l1, l2, _, _, rfl, rfl, by rw [upd_ne (ne_of_none upd_same hl2)]; exact upd_same, upd_same, (by show 5 ≤ sizeLine; decide), fun l3 hl3 => ?_⟩⟩
    have s3 : Same H (upd (upd (upd H l1 (.lst [.bl b1, .bl b2, .bl b3, .bl b4])) l2 (.lst [.bl b5])) l3 (.lst ([.bl b1, .bl b2, .bl b3, .bl b4] ++ [.bl b5]))) := Same.newer (Same.newer s1 (ne_none2 hl2)) (ne_none2 (ne_none2 hl3))
    have e3 : (upd (upd (upd H l1 (.lst [.bl b1, .bl b2, .bl b3, .bl b4])) l2 (.lst [.bl b5])) l3 (.lst ([.bl b1, .bl b2, .bl b3, .bl b4] ++ [.bl b5]))) l3 = some (.lst ([b1, b2, b3, b4, b5].map V.bl)) := upd_same
    generalize (upd (upd (upd H l1 (.lst [.bl b1, .bl b2, .bl b3, .bl b4])) l2 (.lst [.bl b5])) l3 (.lst ([.bl b1, .bl b2, .bl b3, .bl b4] ++ [.bl b5]))) = H3 at s3 e3 ⊢
    refine ⟨_, rfl, _, _, D, true, rfl, rfl, ek, dm s3, .own _, kd, _, rfl, ?_⟩
    refine ⟨_, rfl, _, _, D, true, rfl, rfl, ek, dm s3, .ty _, kv, _, rfl, ?_⟩
    refine ⟨_, rfl, .inl ⟨rfl, _, SqL.of e3⟩, l3, _, _, rfl, rfl, SqL.of e3, rfl, ?_, rfl, _, rfl, ?_⟩
    · rfl
    rw [hn]
    refine ⟨_, rfl, ?_⟩
    refine ⟨(by show 10 ≤ sizeLine; decide), fun t ht => ?_⟩
    have s4 : Same H (upd H3 t (.tup [.ref A_NoMount, .ref A_NoRecord, .ref A_NoRoom, .ref A_NotBlank, .ref A_Unreadable, .ref A_TreeError, .ref A_NoTree, .ref A_NoRow, .ref A_NoHouse, .ref A_Halted])) := Same.newer s3 (same_none s3 ht)
    refine ⟨t, _, _, D, false, rfl, rfl, ek, dm s4, upd_same, .cons (.own _) (.cons (.own _) (.cons (.own _) (.cons (.own _) (.cons (.own _) (.cons (.own _) (.cons (.own _) (.cons (.own _) (.cons (.own _) (.cons (.own _) .nil))))))))), ka, _, rfl, ?_⟩
    refine ⟨(by show 5 ≤ sizeLine; decide), fun l5 hl5 => ?_⟩
    have e5 : (upd (upd H3 t (.tup [.ref A_NoMount, .ref A_NoRecord, .ref A_NoRoom, .ref A_NotBlank, .ref A_Unreadable, .ref A_TreeError, .ref A_NoTree, .ref A_NoRow, .ref A_NoHouse, .ref A_Halted])) l5 (.lst [.str "bad text", .str "full", .str "no disk", .str "no place", .str "stopped"])) l3 = some (.lst ([b1, b2, b3, b4, b5].map V.bl)) := by
      rw [upd_ne (ne_of_none e3 (ne_none2 hl5)), upd_ne (ne_of_none e3 ht)]
      exact e3
    refine ⟨_, rfl, .inl ⟨rfl, _, SqL.of e5⟩, l3, _, _, j, _, rfl, rfl, SqL.of e5, rfl, rfl, hj, rfl, first_true hm, ?_⟩
    refine ⟨l5, _, _, _, rfl, rfl, SqL.of upd_same, hz, ?_⟩
    exact k _ (Same.newer s4 (same_none s4 hl5))
abbrev s_l_tried : Stmt := topS 34
abbrev N_l_tried : List Str := ["deed", "told", "e"]
theorem sc_l_tried : FnScope N_l_tried ["deed"] (defScope s_l_tried) := ⟨rfl, rfl, rfl, by decide +kernel, rfl, by decide +kernel, by decide +kernel⟩
def TTried (b f d p s : Addr) : (XK → Hp → VK → Prop) → Hp → VK → Prop := fun tl H Q => ∀ (E : XK) (Q' : VK),
  (∀ cls z H', lawC b f d p s cls z → (∀ t H'', Same H' H'' → H' t = none → H'' t = some (.tup [.str "refused", .str z]) → Q (.ref t) H'') → E cls none H') →
  (∀ v H', (∀ t, H' t = none → Q (.ref t) (upd H' t (.tup [.str "told", v]))) → Q' v H') → tl E H Q'
theorem ok_l_tried {f : Addr} {fd : FuncData} (F : Fun K "_law_tried" "_law_tried" s_l_tried f fd) (B : Bt mg) {A_CleanedError : Addr} {A_BadText : Addr} {A_Full : Addr} {A_NoDisk : Addr} {A_NoPlace : Addr} {A_Stopped : Addr} (XC_CleanedError : XCls K mg "CleanedError" A_CleanedError) (XM_BadText_CleanedError : PySem.W.exmOne K (.ref A_BadText) (.ref A_CleanedError) = some true) (XM_Full_CleanedError : PySem.W.exmOne K (.ref A_Full) (.ref A_CleanedError) = some true) (XM_NoDisk_CleanedError : PySem.W.exmOne K (.ref A_NoDisk) (.ref A_CleanedError) = some true) (XM_NoPlace_CleanedError : PySem.W.exmOne K (.ref A_NoPlace) (.ref A_CleanedError) = some true) (XM_Stopped_CleanedError : PySem.W.exmOne K (.ref A_Stopped) (.ref A_CleanedError) = some true) (E_l_class : CalE P w K mg base "_law_class" 1 ["error"] (sp_l_class A_BadText A_Full A_NoDisk A_NoPlace A_Stopped)) (hm : mg "_law_tried" = some (.ref f)) (hb : L2.Binds K fd ["deed"] []) : LamTo P w K mg base "_law_tried" "deed" 2 (TTried A_BadText A_Full A_NoDisk A_NoPlace A_Stopped) := by
  obtain ⟨oc, od, kV, doc, pm, an, cdv, ct, osl, rfl, lk, hc⟩ := F.ex
  refine ⟨f, _, _, _, _, _, _, _, _, _, _, _, _, _, N_l_tried, hm, F.kp, lk, hc, hb, sc_l_tried, rfl, .inl rfl, fun A stack s H f Q tl ok hr act hok h => ?_⟩
  have XM : ∀ cls z, lawC A_BadText A_Full A_NoDisk A_NoPlace A_Stopped cls z → PySem.W.exmOne K cls (.ref A_CleanedError) = some true := by
    rintro cls z (⟨rfl, _⟩ | ⟨rfl, _⟩ | ⟨rfl, _⟩ | ⟨rfl, _⟩ | ⟨rfl, _⟩)
    · exact XM_BadText_CleanedError
    · exact XM_Full_CleanedError
    · exact XM_NoDisk_CleanedError
    · exact XM_NoPlace_CleanedError
    · exact XM_Stopped_CleanedError
  refine ⟨_, (pss_cons (ps_try_as (i := 2) rfl rfl sc_l_tried.nd rfl rfl ⟨by rfl, by decide, .inl XC_CleanedError.mgC⟩ takes0
      (fun W pn xe tk _ => (pss_one (ps_set (i := 1) sc_l_tried.nd rfl (Or.inl rfl) (pe_tup (pa_cons pe_str (pa_cons (act W pn xe _ _ tk) pa_nil))))))
      (fun a oe cls d pn hz hf => (pss_one (ps_set (i := 1) sc_l_tried.nd rfl (Or.inl rfl) (pe_tup (pa_cons pe_str (pa_cons (pe_callE2 E_l_class (roomHm hr (by decide)) List.mem_cons_self hz hf (by rfl) (pa_cons (pv 2) pa_nil)) pa_nil)))))))
    (pss_one (ps_ret (pv 1)))), ?_⟩
  refine ⟨rfl, hok, h _ _ (fun cls z H' hc k => ?_) (fun v H' k => ?_)⟩
  · refine ⟨true, XM _ _ hc, fun _ a ha => ?_, fun q => Bool.noConfusion q⟩
    refine ⟨_, rfl, .inl rfl, rfl, z, hc, .inl rfl, fun H2 s2 => ⟨(by show 2 ≤ sizeLine; decide), fun t ht => ?_⟩⟩
    exact ⟨_, rfl, k t _ (Same.newer s2 (same_none s2 ht) |>.trans (Same.refl _)) (same_none s2 ht) upd_same⟩
  · exact ⟨(by show 2 ≤ sizeLine; decide), fun t ht => ⟨_, rfl, k t ht⟩⟩
abbrev s_l_no_size : Stmt := topS 35
abbrev N_l_no_size : List Str := ["pot", "least", "most", "far", "some"]
theorem sc_l_no_size : FnScope N_l_no_size ["pot", "least", "most"] (defScope s_l_no_size) := ⟨rfl, rfl, rfl, by decide +kernel, rfl, by decide +kernel, by decide +kernel⟩
def sp_l_no_size (K : PySem.W.Frag) : Sp := fun vs H Q _ => ∃ (p : Addr) (a b lo hi : Int), vs = [.ref p, .int lo, .int hi] ∧ Pot H p a b ∧ 1 ≤ lo ∧ lo ≤ hi ∧ hi ≤ 100 ∧ ∀ (v : V) (H' : Hp) (a' b' : Int), SameBut p H H' → Pot H' p a' b' → (∀ H2, KpB p H' H2 → Th K H2 v) → withinV v lo hi = false → Q v H'
theorem ok_l_no_size {f : Addr} {fd : FuncData} (F : Fun K "_law_no_size" "_law_no_size" s_l_no_size f fd) (B : Bt mg) (C_law_take : Cal P w K mg base CX0 "_law_take" 1 ["pot", "many"] sp_l_take) : GnOk P w K mg base CX0 2 f fd ["pot", "least", "most"] (sp_l_no_size K) := by
  refine gn_fun F sc_l_no_size (fun vs H Q E h => ?_) (fun cdv A outer s H vs Q E hr h => ?_)
  · obtain ⟨p, a, b, lo, hi, rfl, _⟩ := h
    rfl
  · obtain ⟨p, a, b, lo, hi, rfl, hp, lo1, lohi, hi1, k⟩ := h
    refine ⟨_, (pss_cons (ps_set (i := 3) sc_l_no_size.nd rfl (Or.inl rfl) (pe_cal C_law_take (hr.mono (by decide)) (by rfl) pass0 (pa_cons (pv 0) (pa_cons (pe_op op_pow pe_int pe_int) pa_nil))))
    (pss_cons (ps_set (i := 4) sc_l_no_size.nd rfl (Or.inl rfl) (pe_lst (pa_cons (pe_op op_sub (pv 1) pe_int) (pa_cons (pe_op op_add (pv 2) pe_int) (pa_cons (pe_op op_add (pe_op op_add (pv 2) pe_int) (pv 3)) (pa_cons (pe_un un_neg (pv 3)) (pa_cons pe_int (pa_cons pe_bl (pa_cons pe_non (pa_cons (pe_callTy call_str_int (by rfl) B.str (by decide +kernel) (pa_cons (pv 1) pa_nil)) (pa_cons (pe_lst (pa_cons (pv 1) pa_nil)) (pa_cons (pe_tup (pa_cons (pv 2) pa_nil)) (pa_cons pe_dnewK pa_nil)))))))))))))
    (pss_one (ps_ret (pe_ix (ix_listK K) (pv 4) (pe_cal C_law_take (hr.mono (by decide)) (by rfl) pass0 (pa_cons (pv 0) (pa_cons pe_int pa_nil))) (fun _ _ => rfl)))))), ?_⟩
    refine ⟨_, rfl, _, _, rfl, rfl, ⟨by decide, by decide, by decide⟩, p, a, b, _, rfl, hp, by decide, by decide +kernel, fun H1 s1 p1 => ?_⟩
    have f0 : 0 ≤ tkD a b (10 ^ Int.toNat 30) := tkD_nn (by decide)
    generalize tkD a b (10 ^ Int.toNat 30) = far at f0 ⊢
    generalize tkA a b (10 ^ Int.toNat 30) = a1 at p1
    generalize tkB a b (10 ^ Int.toNat 30) = b1 at p1
    obtain ⟨zz, ezz⟩ : ∃ zz, zz = Str.ofString (toString lo) := ⟨_, rfl⟩
    refine ⟨_, rfl, _, _, rfl, rfl, _, rfl, _, _, rfl, rfl, _, rfl, _, _, rfl, rfl, _, rfl, _, _, rfl, rfl, _, rfl, _, rfl, _, rfl, lo, rfl, Nat.lt_of_le_of_lt (Nat.log2_le_self _) (by omega), ?_⟩
    rw [← ezz]
    refine ⟨_, rfl, (by show 1 ≤ sizeLine; decide), fun l1 hl1 => ⟨_, rfl, (by show 1 ≤ sizeLine; decide), fun t1 ht1 => fun d1 hd1 => ⟨(by show 11 ≤ sizeLine; decide), fun L hL => ?_⟩⟩⟩
    obtain ⟨G, eG⟩ : ∃ G, G = upd (upd (upd (upd H1 l1 (.lst [.int lo])) t1 (.tup [.int hi])) d1 (.dK [])) L (.lst [.int (lo - 1), .int (hi + 1), .int (hi + 1 + far), .int (-far), .int 0, .bl true, .non, .str zz, .ref l1, .ref t1, .ref d1]) := ⟨_, rfl⟩
    have g1 : G l1 = some (.lst [.int lo]) := by
      rw [eG]
      exact Same.new hL _ _ (Same.new hd1 _ _ (Same.new ht1 _ _ upd_same))
    have g2 : G t1 = some (.tup [.int hi]) := by
      rw [eG]
      exact Same.new hL _ _ (Same.new hd1 _ _ upd_same)
    have g3 : G d1 = some (.dK []) := by
      rw [eG]
      exact Same.new hL _ _ upd_same
    have g4 : G L = some (.lst [.int (lo - 1), .int (hi + 1), .int (hi + 1 + far), .int (-far), .int 0, .bl true, .non, .str zz, .ref l1, .ref t1, .ref d1]) := by
      rw [eG]
      exact upd_same
    have sG : SameBut p H G := by
      rw [eG]
      exact s1.same (Same.newer (Same.newer (Same.newer (Same.new hl1) (ne_none2 ht1)) (ne_none2 (ne_none2 hd1))) (ne_none2 (ne_none2 (ne_none2 hL))))
    have pG : Pot G p a1 b1 := by
      rw [eG]
      exact (((p1.new hl1).new ht1).new hd1).new hL
    have np : ∀ {c : Addr} {o : HO}, G c = some o → (∀ z, o ≠ .lst z ∨ z ≠ [.int a1, .int b1]) → c ≠ p := fun {c o} e z q => by
      rw [q, pG.1] at e
      rcases z [.int a1, .int b1] with h | h
      · exact h (Option.some.inj e).symm
      · exact h rfl
    subst eG
    refine ⟨_, rfl, _, rfl, p, a1, b1, 11, rfl, pG, by decide, by decide, fun H2 s2 p2 => ?_⟩
    have L_p : L ≠ p := fun q => by
      have := pG.1
      rw [← q, g4] at this
      cases this
    have l_p : l1 ≠ p := fun q => by
      have := pG.1
      rw [← q, g1] at this
      cases this
    have t_p : t1 ≠ p := fun q => by
      have := pG.1
      rw [← q, g2] at this
      cases this
    have d_p : d1 ≠ p := fun q => by
      have := pG.1
      rw [← q, g3] at this
      cases this
    have h1 := s2 _ _ g1 l_p
    have h2 := s2 _ _ g2 t_p
    have h3 := s2 _ _ g3 d_p
    have j0 : 0 ≤ tkD a1 b1 11 := tkD_nn (by decide)
    have j1 : tkD a1 b1 11 < 11 := tkD_lt (by decide)
    obtain ⟨v, hv, hvm⟩ := atI_mem (xs := [V.int (lo - 1), V.int (hi + 1), V.int (hi + 1 + far), V.int (-far), V.int 0, V.bl true, V.non, V.str zz, V.ref l1, V.ref t1, V.ref d1]) j0 j1
    refine ⟨L, _, _, v, rfl, rfl, SqL.of (s2 _ _ g4 L_p), hv, ?_⟩
    have ok : (∀ H3, KpB p H2 H3 → Th K H3 v) ∧ withinV v lo hi = false := by
      have wn : ∀ m : Int, (m < lo ∨ hi < m) → withinV (.int m) lo hi = false := fun m h => by
        show (decide (lo ≤ m) && decide (m ≤ hi)) = false
        rcases h with h | h
        · rw [decide_eq_false (by omega)]
          rfl
        · rw [decide_eq_false (p := m ≤ hi) (by omega), Bool.and_false]
      rcases List.mem_cons.mp hvm with rfl | hvm
      · exact ⟨fun _ _ => .int _, wn _ (by omega)⟩
      rcases List.mem_cons.mp hvm with rfl | hvm
      · exact ⟨fun _ _ => .int _, wn _ (by omega)⟩
      rcases List.mem_cons.mp hvm with rfl | hvm
      · exact ⟨fun _ _ => .int _, wn _ (by omega)⟩
      rcases List.mem_cons.mp hvm with rfl | hvm
      · exact ⟨fun _ _ => .int _, wn _ (by omega)⟩
      rcases List.mem_cons.mp hvm with rfl | hvm
      · exact ⟨fun _ _ => .int _, wn _ (by omega)⟩
      rcases List.mem_cons.mp hvm with rfl | hvm
      · exact ⟨fun _ _ => .bl _, rfl⟩
      rcases List.mem_cons.mp hvm with rfl | hvm
      · exact ⟨fun _ _ => .non, rfl⟩
      rcases List.mem_cons.mp hvm with rfl | hvm
      · exact ⟨fun _ _ => .str _, rfl⟩
      rcases List.mem_cons.mp hvm with rfl | hvm
      · exact ⟨fun _ e => .lst (e _ _ h1 l_p (fun _ z => by cases z)), rfl⟩
      rcases List.mem_cons.mp hvm with rfl | hvm
      · exact ⟨fun _ e => .tup (e _ _ h2 t_p (fun _ z => by cases z)), rfl⟩
      rw [List.mem_singleton.mp hvm]
      exact ⟨fun _ e => .dct (e _ _ h3 d_p (fun _ z => by cases z)), rfl⟩
    exact k v H2 _ _ (sG.trans s2) p2 ok.1 ok.2
abbrev s_l_whole : Stmt := topS 36
abbrev N_l_whole : List Str := ["thing"]
theorem sc_l_whole : FnScope N_l_whole ["thing"] (defScope s_l_whole) := ⟨rfl, rfl, rfl, by decide +kernel, rfl, by decide +kernel, by decide +kernel⟩
/-- of an int -/
def sp_l_whole : Sp := fun vs H Q _ => ∃ n : Int, vs = [.int n] ∧ Q (.bl true) H
theorem ok_l_whole {f : Addr} {fd : FuncData} (F : Fun K "_law_whole" "_law_whole" s_l_whole f fd) (B : Bt mg) : GnOk P w K mg base CX0 1 f fd ["thing"] sp_l_whole := by
  refine gn_fun F sc_l_whole (fun vs H Q E h => ?_) (fun cdv A outer s H vs Q E hr h => ?_)
  · obtain ⟨n, rfl, _⟩ := h
    rfl
  · obtain ⟨n, rfl, k⟩ := h
    refine ⟨_, (pss_one (ps_ret (pe_and (pe_callB (call_isiK K) (by rfl) B.isinstance (by decide +kernel) (pa_cons (pv 0) (pa_cons (pe_bltn (v := .ty "int") (by rfl) B.int (by decide +kernel) rfl) pa_nil))) (pe_one (pe_not (pe_callB (call_isiK K) (by rfl) B.isinstance (by decide +kernel) (pa_cons (pv 0) (pa_cons (pe_bltn (v := .ty "bool") (by rfl) B.bool (by decide +kernel) rfl) pa_nil)))))))), ?_⟩
    refine ⟨_, rfl, _, _, _, _, true, rfl, .ty _, .base (.int n), kit_ty (by decide +kernel), true, rfl, ?_⟩
    refine iteT ?_
    exact ⟨_, rfl, _, _, _, _, false, rfl, .ty _, .base (.int n), kit_ty (by decide +kernel), false, rfl, k⟩
abbrev s_l_reads : Stmt := topS 37
abbrev N_l_reads : List Str := ["disk", "model", "rows", "wide", "told", "stopped", "k", "row", "one", "at"]
theorem sc_l_reads : FnScope N_l_reads ["disk", "model"] (defScope s_l_reads) := ⟨rfl, rfl, rfl, by decide +kernel, rfl, by decide +kernel, by decide +kernel⟩
def sp_l_reads_k22 (C : Addr) : Sp := fun vs H Q _ => ∃ (xx : Bool) (A : AD) (S M : DS), vs = [.ref A.x, .ref A.m] ∧ Pair xx C H A S M ∧ AsD S M ∧ ∀ H', Same H H' → Q (.bl true) H'
theorem dget {H : Hp} {a : Addr} {kvs : List (Key × V)} {x : Str} {y : V} (e : H a = some (.dK kvs)) (v : valV kvs (.inr x) = some y) : DGet H a (.str x) (some y) := .inl ⟨kvs, .inr x, .inl e, rfl, v.symm⟩
/-- [_law_whole(one) for one in told], of whole numbers -/
theorem all_whole {K : PySem.W.Frag} {σ : L2.St} {H : Hp} {i j : Nat} {l : Addr} {ns : List Int} {Q : VK} (hi : σ[i]? = some (some (.ref l))) (h : H l = some (.lst (ns.map V.int))) (hn : ns.length ≤ 100) (hw : ∀ x, wipe ((wipe σ [j]).set j x) [j] = wipe σ [j]) (hj : ∀ x, ((wipe σ [j]).set j (some x))[j]? = some (some x))
    (k : ∀ G H', Same H H' → H' G = some (.lst ((ns.map fun _ => true).map V.bl)) → Q (.ref G) H') : tLc (iList K (tVar i)) (gName j) tYes (tCall sp_l_whole [] E0 (tCons (tVar j) tNil)) [j] σ H Q := by
  refine ⟨_, hi, l, rfl, ⟨_, SqL.of h⟩, fun G hG => ?_⟩
  refine lc_list (K := K) (a := l) (xs := ns.map V.int) (fun i H1 => H1 G = some (.lst (((ns.take i).map fun _ => true).map V.bl)) ∧ Same H H1) ⟨upd_same, Same.new hG⟩ (fun _ _ _ ⟨_, s1⟩ => SqL.of (s1 _ _ h)) ?_ ?_
  · rintro i x H3 hx ⟨h3, s3⟩
    obtain ⟨t, ht, rfl⟩ : ∃ t, ns[i]? = some t ∧ x = V.int t := by
      rw [List.getElem?_map] at hx
      obtain ⟨t, ht, e⟩ := Option.map_eq_some_iff.mp hx
      exact ⟨t, ht, e.symm⟩
    refine ⟨hw _, ?_⟩
    refine ⟨_, hj _, t, rfl, _, h3, sz_lt (by rw [List.length_map, List.length_map, List.length_take]; omega), ?_, Same.newer s3 hG⟩
    rw [upd_same, take_snoc ht, List.map_append, List.map_append]
    rfl
  · rintro H3 ⟨h3, s3⟩
    rw [List.length_map, List.take_length] at h3
    exact k G H3 s3 h3
theorem all_true {ns : List Int} : ((ns.map fun _ => true).all id) = true := by
  rw [List.all_map]
  exact List.all_eq_true.mpr fun _ _ => rfl
def toldV (ts : List Str) (m : Nat) : V := match ts[m]? with
  | some t => .str t
  | none => .non
theorem told_list {ts : List Str} {n : Nat} (h : ts.length ≤ n) : (List.range n).map (toldV ts) = ts.map V.str ++ List.replicate (n - ts.length) V.non := by
  refine List.ext_getElem? fun m => ?_
  rw [List.getElem?_map, List.getElem?_append]
  by_cases c : m < ts.length
  · rw [if_pos (by rw [List.length_map]; exact c), List.getElem?_map, List.getElem?_range (by omega)]
    show some (toldV ts m) = _
    unfold toldV
    rw [List.getElem?_eq_getElem c]
    rfl
  · rw [if_neg (by rw [List.length_map]; exact c), List.getElem?_replicate, List.length_map]
    by_cases c2 : m < n
    · rw [List.getElem?_range c2, if_pos (by omega)]
      show some (toldV ts m) = _
      unfold toldV
      rw [List.getElem?_eq_none (by omega)]
    · rw [List.getElem?_eq_none (by rw [List.length_range]; omega), if_neg (by omega)]
      rfl
theorem nones_dt {K : PySem.W.Frag} {H : Hp} : ∀ n : Nat, DtAll K H (List.replicate n V.non) (List.replicate n PyData.none)
  | 0 => .nil
  | n + 1 => by
    rw [List.replicate_succ, List.replicate_succ]
    exact .cons .non (nones_dt n)
theorem ok_l_reads {f : Addr} {fd : FuncData} (F : Fun K "_law_reads" "_law_reads" s_l_reads f fd) (B : Bt mg) {A_Disk : Addr} (T_Disk : CF K mg "Disk" A_Disk ["written_rows", "erasings", "many_places", "count_of_writes", "writes_left", "signs_kept", "is_over"]) (M_Disk_segments : Mth P w K mg base CX0 A_Disk "segments" 1 ["self"] (sp_Disk_segments A_Disk)) (M_Disk_places : Mth P w K mg base CX0 A_Disk "places" 1 ["self"] (sp_Disk_places A_Disk)) (M_Disk_writes : Mth P w K mg base CX0 A_Disk "writes" 1 ["self"] (sp_Disk_writes A_Disk)) (M_Disk_has_stopped : Mth P w K mg base CX0 A_Disk "has_stopped" 1 ["self"] (sp_Disk_has_stopped A_Disk)) (M_Disk_next_place : Mth P w K mg base (L2.CX P w) A_Disk "next_place" 3 ["self", "segment"] (sp_Disk_next_place K A_Disk A_NoPlace)) (M_Disk_wear : Mth P w K mg base (L2.CX P w) A_Disk "wear" 3 ["self", "segment"] (sp_Disk_wear K A_Disk A_NoPlace)) (M_Disk_told : Mth P w K mg base (L2.CX P w) A_Disk "told" 3 ["self", "segment", "place"] (sp_Disk_told K A_Disk A_NoPlace)) (C_law_whole : Cal P w K mg base CX0 "_law_whole" 1 ["thing"] sp_l_whole) : GnOk P w K mg base CX0 4 f fd ["disk", "model"] (sp_l_reads_k22 A_Disk) := by
  refine gn_fun F sc_l_reads (fun vs H Q E h => ?_) (fun cdv A outer s H vs Q E hr h => ?_)
  · obtain ⟨xx, A, S, M, rfl, _⟩ := h
    rfl
  · obtain ⟨xx, A, S, M, rfl, hP, ⟨q1, q2, q3, q4, q5⟩, k⟩ := h
    refine ⟨_, (pss_cons (ps_par (i := 2) (j := 3) (by rfl) sc_l_reads.nd rfl rfl (by decide) rfl rfl (pa_cons (pe_dget hr.hu (pv 1) pe_str (fun _ _ => rfl)) (pa_cons (pe_dget hr.hu (pv 1) pe_str (fun _ _ => rfl)) pa_nil)) (by rfl))
    (pss_cons (ps_set (i := 4) sc_l_reads.nd rfl (Or.inl rfl) (pe_lst (pa_cons (pe_mth0 M_Disk_segments T_Disk.cl (hr.mono (by decide)) pass0 (pv 0)) (pa_cons (pe_mth0 M_Disk_places T_Disk.cl (hr.mono (by decide)) pass0 (pv 0)) (pa_cons (pe_mth0 M_Disk_writes T_Disk.cl (hr.mono (by decide)) pass0 (pv 0)) pa_nil)))))
    (pss_cons (ps_if (PW.pt (pw_or (pt_cmpR (op_neDK K hr.units) (pv 4) (pe_lst (pa_cons (pe_callB (call_lenK K) (by rfl) B.len (by decide +kernel) (pa_cons (pv 2) pa_nil)) (pa_cons (pv 3) (pa_cons (pe_dget hr.hu (pv 1) pe_str (fun _ _ => rfl)) pa_nil)))) (nomark _)) (pw_or1 (pt_not (pt_val (pe_callB (cr_allK K rfl) (by rfl) B.all (by decide +kernel) (pa_cons (pe_lc (own := [("one", 8)]) (g := gName 8) (tt := tYes) (by rfl) sc_l_reads.nd (pi_listK K (pv 4)) (blkOk_by (N := N_l_reads) (sc := defScope s_l_reads) (by decide +kernel)) (fun _ _ _ _ _ => pg_name (i := 8) sc_l_reads.nd rfl (Or.inl rfl)) (fun _ _ _ _ _ => pts_nil) (fun _ _ _ _ _ => (pe_cal C_law_whole (hr.mono (by decide)) (by rfl) pass0 (pa_cons (pv 8) pa_nil)))) pa_nil)))))))
      (pss_one (ps_ret pe_bl))
      pss_nil)
    (pss_cons (ps_set (i := 5) sc_l_reads.nd rfl (Or.inl rfl) (pe_mth0 M_Disk_has_stopped T_Disk.cl (hr.mono (by decide)) pass0 (pv 0)))
    (pss_cons (ps_if (PW.pt (pw_or (pt_not (pt_val (pe_callB (call_isiK K) (by rfl) B.isinstance (by decide +kernel) (pa_cons (pv 5) (pa_cons (pe_bltn (v := .ty "bool") (by rfl) B.bool (by decide +kernel) rfl) pa_nil))))) (pw_or1 (pt_cmpR op_ne (pv 5) (pe_dget hr.hu (pv 1) pe_str (fun _ _ => rfl)) (nomark _)))))
      (pss_one (ps_ret pe_bl))
      pss_nil)
    (pss_cons (ps_for PassesOwn.never rfl (pi_enum (by rfl) B.enumerate (pa_cons (pv 2) pa_nil)) (pg_tup (by rfl) (pgs_cons (pg_name (i := 6) sc_l_reads.nd rfl (Or.inr rfl)) (pgs_cons (pg_name (i := 7) sc_l_reads.nd rfl (Or.inl rfl)) pgs_nil)))
      (pss_cons (ps_set (i := 4) sc_l_reads.nd rfl (Or.inl rfl) (pe_lst (pa_cons (pe_mth M_Disk_next_place T_Disk.cl (hr.mono (by decide)) passN (pv 0) (pa_cons (pv 6) pa_nil)) (pa_cons (pe_mth M_Disk_wear T_Disk.cl (hr.mono (by decide)) passN (pv 0) (pa_cons (pv 6) pa_nil)) pa_nil))))
    (pss_cons (ps_if (PW.pt (pw_or (pt_cmpR (op_neDK K hr.units) (pv 4) (pe_lst (pa_cons (pe_callB (call_lenK K) (by rfl) B.len (by decide +kernel) (pa_cons (pv 7) pa_nil)) (pa_cons (pe_ix (ix_listK K) (pe_dget hr.hu (pv 1) pe_str (fun _ _ => rfl)) (pv 6) (fun _ _ => rfl)) pa_nil))) (nomark _)) (pw_or1 (pt_not (pt_val (pe_callB (cr_allK K rfl) (by rfl) B.all (by decide +kernel) (pa_cons (pe_lc (own := [("one", 8)]) (g := gName 8) (tt := tYes) (by rfl) sc_l_reads.nd (pi_listK K (pv 4)) (blkOk_by (N := N_l_reads) (sc := defScope s_l_reads) (by decide +kernel)) (fun _ _ _ _ _ => pg_name (i := 8) sc_l_reads.nd rfl (Or.inl rfl)) (fun _ _ _ _ _ => pts_nil) (fun _ _ _ _ _ => (pe_cal C_law_whole (hr.mono (by decide)) (by rfl) pass0 (pa_cons (pv 8) pa_nil)))) pa_nil)))))))
      (pss_one (ps_ret pe_bl))
      pss_nil)
    (pss_one (ps_if (pt_cmpR (op_neDK K hr.units) (pe_lc (own := [("at", 9)]) (g := gName 9) (tt := tYes) (by rfl) sc_l_reads.nd (pi_range1 (by rfl) B.range (pa_cons (pv 3) pa_nil)) (blkOk_by (N := N_l_reads) (sc := defScope s_l_reads) (by decide +kernel)) (fun _ _ _ _ _ => pg_name (i := 9) sc_l_reads.nd rfl (Or.inl rfl)) (fun _ _ _ _ _ => pts_nil) (fun _ _ _ _ _ => (pe_mth M_Disk_told T_Disk.cl (hr.mono (by decide)) passN (pv 0) (pa_cons (pv 6) (pa_cons (pv 9) pa_nil))))) (pe_op op_cat (pv 7) (pe_op op_rep (pe_lst (pa_cons pe_non pa_nil)) (pe_op op_sub (pv 3) (pe_callB (call_lenK K) (by rfl) B.len (by decide +kernel) (pa_cons (pv 7) pa_nil))))) (nomark _))
      (pss_one (ps_ret pe_bl))
      pss_nil)))))
    (pss_one (ps_ret pe_bl)))))))), ?_⟩
    obtain ⟨kvs, ek, MK⟩ := hP.md.ob
    have lenR : A.mras.length = A.ras.length := by
      rw [← hP.md.l1, q1]
      exact hP.d.l1
    have l8 := hP.d.hi
    refine ⟨_, rfl, A.m, _, rfl, dget ek MK.kr, _, rfl, A.m, _, rfl, dget ek MK.kp, _, _, rfl, ?_⟩
    obtain ⟨dx, hob⟩ := hP.d.ob
    refine ⟨_, rfl, A.x, dx, _, rfl, hob, dk_m (by decide +kernel), A.x, A.rl, A.wl, A.ras, S, rfl, hP.d, ?_⟩
    refine ⟨_, rfl, A.x, dx, _, rfl, hob, dk_m (by decide +kernel), A.x, A.rl, A.wl, A.ras, S, rfl, hP.d, ?_⟩
    refine ⟨_, rfl, A.x, dx, _, rfl, hob, dk_m (by decide +kernel), A.x, A.rl, A.wl, A.ras, S, rfl, hP.d, ?_⟩
    refine ⟨(by show 3 ≤ sizeLine; decide), fun l1 hl1 => ?_⟩
    have s1 : Same H (upd H l1 (.lst [.int A.ras.length, .int S.pl, .int S.wr])) := Same.new hl1
    have g1 : (upd H l1 (.lst [.int A.ras.length, .int S.pl, .int S.wr])) l1 = some (.lst (([(A.ras.length : Int), S.pl, S.wr] : List Int).map V.int)) := upd_same
    generalize (upd H l1 (.lst [.int A.ras.length, .int S.pl, .int S.wr])) = H1 at s1 g1 ⊢
    refine ⟨_, rfl, _, rfl, _, A.mras.length, rfl, .inl ⟨_, SqL.of (s1 _ _ hP.md.rl), by simp⟩, _, rfl, _, rfl, A.m, _, rfl, dget (s1 _ _ ek) MK.kn, (by show 3 ≤ sizeLine; decide), fun l2 hl2 => ?_⟩
    rw [q3, q4, lenR]
    have s2 : Same H1 (upd H1 l2 (.lst [.int A.ras.length, .int S.pl, .int S.wr])) := Same.new hl2
    refine ne_same (k := 1) (Dp.ofLints (s2 _ _ g1)) (Dp.ofLints (ns := [(A.ras.length : Int), S.pl, S.wr]) upd_same) (Shp.ints _) ⟨false, rfl, iteF ?_⟩
    have g2 := s2 _ _ g1
    generalize (upd H1 l2 (.lst [.int A.ras.length, .int S.pl, .int S.wr])) = H2 at s2 g2 ⊢
    dsimp only [tNot, tB, tCB, tCons]
    refine all_whole rfl g2 (by show 3 ≤ 100; decide) (fun _ => rfl) (fun _ => rfl) fun G H3 s3 g3 => ⟨G, _, rfl, SqL.of g3, ?_⟩
    have sA := (s1.trans s2).trans s3
    refine ⟨_, rfl, iteF' (by rfl) ?_⟩
    have hP3 := hP.m sA
    refine ⟨_, rfl, A.x, dx, _, rfl, sA _ _ hob, dk_m (by decide +kernel), A.x, A.rl, A.wl, A.ras, S, rfl, hP3.d, ?_⟩
    refine ⟨_, rfl, _, _, _, _, true, rfl, .ty _, .base (.bl S.ov), kit_ty (by decide +kernel), true, rfl, iteF ?_⟩
    refine ⟨_, rfl, _, rfl, A.m, _, rfl, dget (sA _ _ ek) MK.ko, rfl, _, rfl, iteF' (by rw [q5, decide_eq_true rfl]; rfl) ?_⟩
    refine ⟨_, rfl, A.ml, _, rfl, SqL.of (sA _ _ hP.md.rl), ?_⟩
    have p0 := hP.d.p0
    have p1 := hP.d.p1
    refine for_it (walk_enum (K := K) (a := A.ml) (xs := A.mras.map V.ref)) (fun i σ H2 => ∃ v4 v6 v7, σ = [some (.ref A.x), some (.ref A.m), some (.ref A.ml), some (.int S.pl), v4, some (.bl S.ov), v6, v7, none, none] ∧ Same H H2) ⟨_, _, _, rfl, sA⟩ (fun _ _ H2 _ ⟨_, _, _, _, e⟩ => SqL.of (e _ _ hP.md.rl)) ?_ ?_
    rotate_left
    · rintro σ H4 ⟨v4, v6, v7, rfl, s4⟩
      exact k H4 s4
    · rintro i y σ H4 H5 hi ⟨v4, v6, v7, rfl, s4⟩ ⟨T, x0, y0, rfl, hT, rfl, hx0, hy0⟩
      obtain rfl : V.int (i : Nat) = x0 := by simpa using hx0
      have hin : i < A.mras.length := by rw [List.length_map] at hi; exact hi
      have hir : i < A.ras.length := by omega
      obtain ⟨ra, hra, hrt, hrl⟩ := hP.md.at hin
      obtain rfl : y0 = V.ref ra := by
        have hy0' : (A.mras.map V.ref)[i]? = some y0 := hy0
        rw [List.getElem?_map, hra] at hy0'
        exact (Option.some.inj hy0').symm
      have s5 : Same H (upd H4 T (.tup [.int (i : Nat), .ref ra])) := s4.trans (Same.new hT)
      have hTT : (upd H4 T (.tup [.int (i : Nat), .ref ra])) T = some (.tup [.int (i : Nat), .ref ra]) := upd_same
      generalize (upd H4 T (.tup [.int (i : Nat), .ref ra])) = H5 at s5 hTT ⊢
      refine ⟨T, _, rfl, SqT.of hTT, rfl, _, _, rfl, _, _, rfl, rfl, ?_⟩
      rw [q1] at hrl
      have hS : S.texts[i]? = some (S.texts.getD i []) := by rw [← q1]; exact hrt
      obtain ⟨ts, ets⟩ : ∃ ts, ts = S.texts.getD i [] := ⟨_, rfl⟩
      rw [← ets] at hrl hS
      have tsl := (hP.d.tx ts (List.mem_of_getElem? hS)).1
      have hP5 := hP.m s5
      refine ⟨_, rfl, A.x, dx, _, rfl, s5 _ _ hob, dk_m (by decide +kernel), _, rfl, ?_⟩
      dsimp only [tCons, tC, tNil, List.cons_append, List.nil_append]
      refine d_next hP5.d hir ?_
      refine ⟨_, rfl, A.x, dx, _, rfl, s5 _ _ hob, dk_m (by decide +kernel), _, rfl, ?_⟩
      dsimp only [tCons, tC, tNil, List.cons_append, List.nil_append]
      refine d_wear hP5.d hir ?_
      rw [← ets]
      refine ⟨(by show 2 ≤ sizeLine; decide), fun l6 hl6 => ?_⟩
      have s6 : Same H5 (upd H5 l6 (.lst [.int ts.length, .int (S.wear.getD i 0)])) := Same.new hl6
      have g6 : (upd H5 l6 (.lst [.int ts.length, .int (S.wear.getD i 0)])) l6 = some (.lst (([(ts.length : Int), S.wear.getD i 0] : List Int).map V.int)) := upd_same
      generalize (upd H5 l6 (.lst [.int ts.length, .int (S.wear.getD i 0)])) = H6 at s6 g6 ⊢
      have sB := s5.trans s6
      have hw : S.wear[i]? = some (S.wear.getD i 0) := hP.d.wat hir
      refine ⟨_, rfl, _, rfl, _, ts.length, rfl, .inl ⟨_, SqL.of (sB _ _ hrl), by simp⟩, _, rfl, A.m, _, rfl, dget (sB _ _ ek) MK.kw, _, rfl, A.mw, _, _, _, rfl, rfl, SqL.of (sB _ _ hP.md.wl), atI_nat (v := V.int (S.wear.getD i 0)) (by rw [q2, List.getElem?_map, hw]; rfl), (by show 2 ≤ sizeLine; decide), fun l7 hl7 => ?_⟩
      have s7 : Same H6 (upd H6 l7 (.lst [.int ts.length, .int (S.wear.getD i 0)])) := Same.new hl7
      refine ne_same (k := 1) (Dp.ofLints (s7 _ _ g6)) (Dp.ofLints (ns := [(ts.length : Int), S.wear.getD i 0]) upd_same) (Shp.ints _) ⟨false, rfl, iteF ?_⟩
      have g7 := s7 _ _ g6
      generalize (upd H6 l7 (.lst [.int ts.length, .int (S.wear.getD i 0)])) = H7 at s7 g7 ⊢
      dsimp only [tNot, tB, tCB, tCons]
      refine all_whole rfl g7 (by show 2 ≤ 100; decide) (fun _ => rfl) (fun _ => rfl) fun G H8 s8 g8 => ⟨G, _, rfl, SqL.of g8, ?_⟩
      refine ⟨_, rfl, iteF' (by rfl) ?_⟩
      have sC := (sB.trans s7).trans s8
      have hP8 := hP.m sC
      refine ⟨_, rfl, S.pl, rfl, by omega, by omega, fun D hD => lc_range (lo := 0) (n := S.pl.toNat) (fun j H9 => H9 D = some (.lst ((List.range j).map (toldV ts))) ∧ Same H8 H9) ⟨upd_same, Same.new hD⟩ ?_ ?_⟩
      · rintro j H9 hj ⟨g9, s9⟩
        have hP9 := hP8.m s9
        refine ⟨rfl, ?_⟩
        refine ⟨_, rfl, A.x, dx, _, rfl, s9 _ _ (sC _ _ hob), dk_m (by decide +kernel), _, rfl, _, congrArg (fun v => some (some v)) (congrArg V.int (Int.zero_add _)), ?_⟩
        dsimp only [tCons, tC, tNil, List.cons_append, List.nil_append]
        refine d_told hP9.d hir (m := j) (by omega) ?_
        rw [← ets]
        refine ⟨_, g9, sz_lt (by rw [List.length_map, List.length_range]; omega), ?_, Same.newer s9 hD⟩
        rw [upd_same, List.range_succ, List.map_append]
        rfl
      · rintro H9 ⟨g9, s9⟩
        have sD := sC.trans s9
        rw [told_list (by omega)] at g9
        refine ⟨_, rfl, (by show 1 ≤ sizeLine; decide), fun l10 hl10 => ?_⟩
        have s10 : Same H9 (upd H9 l10 (.lst [.non])) := Same.new hl10
        have hrl10 := s10 _ _ (sD _ _ hrl)
        refine ⟨_, rfl, _, rfl, _, ts.length, rfl, .inl ⟨_, SqL.of hrl10, by simp⟩, _, _, rfl, rfl, l10, _, _, rfl, rfl, upd_same, by omega, by omega, by show 1 * (S.pl - ts.length).toNat ≤ sizeLine; rw [sizeLine_eq]; omega, fun p11 hp11 => ?_⟩
        have s11 : Same (upd H9 l10 (.lst [.non])) (upd (upd H9 l10 (.lst [.non])) p11 (.lst (List.replicate (S.pl - ts.length).toNat [V.non]).flatten)) := Same.new hp11
        have r11 : (List.replicate (S.pl - ts.length).toNat [V.non]).flatten = List.replicate (S.pl.toNat - ts.length) V.non := by
          rw [List.flatten_replicate_singleton]
          congr 1
          omega
        refine ⟨ra, p11, _, _, rfl, rfl, s11 _ _ hrl10, upd_same, by rw [r11, List.length_map, List.length_replicate, sizeLine_eq]; omega, fun q12 hq12 => ?_⟩
        have sF : Same (upd (upd H9 l10 (.lst [.non])) p11 (.lst (List.replicate (S.pl - ts.length).toNat [V.non]).flatten)) (upd (upd (upd H9 l10 (.lst [.non])) p11 (.lst (List.replicate (S.pl - ts.length).toNat [V.non]).flatten)) q12 (.lst (ts.map V.str ++ (List.replicate (S.pl - ts.length).toNat [V.non]).flatten))) := Same.new hq12
        have sG := (s10.trans s11).trans sF
        have gq : (upd (upd (upd H9 l10 (.lst [.non])) p11 (.lst (List.replicate (S.pl - ts.length).toNat [V.non]).flatten)) q12 (.lst (ts.map V.str ++ (List.replicate (S.pl - ts.length).toNat [V.non]).flatten))) q12 = some (.lst (ts.map V.str ++ List.replicate (S.pl.toNat - ts.length) V.non)) := by rw [upd_same, r11]
        have dt : ∀ {H' : Hp}, DtAll K H' (ts.map V.str ++ List.replicate (S.pl.toNat - ts.length) V.non) (ts.map PyData.str ++ List.replicate (S.pl.toNat - ts.length) PyData.none) := fun {H'} => (DtAll.strs ts).app (nones_dt _)
        refine ne_same (k := 1) (Dp.ofL (sG _ _ g9) dt) (Dp.ofL gq dt) (Shp.list fun d hd => ?_) ⟨false, rfl, iteF ⟨_, _, _, rfl, sD.trans sG⟩⟩
        rcases List.mem_append.mp hd with hd | hd
        · obtain ⟨z, hz, rfl⟩ := List.mem_map.mp hd
          exact Shp.str (hP.ch ts (List.mem_of_getElem? hS) z hz)
        · rw [(List.mem_replicate.mp hd).2]
          exact Shp.none
abbrev s_l_empty : Stmt := topS 38
abbrev N_l_empty : List Str := ["many", "wide", "found", "k"]
theorem sc_l_empty : FnScope N_l_empty ["many", "wide"] (defScope s_l_empty) := ⟨rfl, rfl, rfl, by decide +kernel, rfl, by decide +kernel, by decide +kernel⟩
def modD (n w : Int) : DS := ⟨List.replicate n.toNat [], List.replicate n.toNat 0, w, 0, none, 0, false⟩
def sp_l_model_k22 : Sp := fun vs H Q _ => ∃ (n w : Int), vs = [.int n, .int w] ∧ 4 ≤ n ∧ n ≤ 8 ∧ ∀ (A : AD) (H' : Hp), Same H H' → (∀ b, A.mf b → H b = none) → Md false H' A (modD n w) → Q (.ref A.m) H'
theorem mod_K {D pw : Addr} {n w : Int} : MdK false (putK (mergeK [] [(.inr "rows", .ref D), (.inr "wear", .ref pw), (.inr "writes", .int 0), (.inr "places", .int w)]) (.inr "over") (.bl false)) D pw (modD n w) := by
  have e : mergeK [] [(Sum.inr "rows", V.ref D), (Sum.inr "wear", V.ref pw), (Sum.inr "writes", V.int 0), (Sum.inr "places", V.int w)] = putK (putK (putK (putK ([] : List (Key × V)) (.inr "rows") (.ref D)) (.inr "wear") (.ref pw)) (.inr "writes") (.int 0)) (.inr "places") (.int w) := rfl
  rw [e]
  refine ⟨?_, vp_ne (by decide +kernel) (vp_ne (by decide +kernel) (vp_ne (by decide +kernel) (vp_ne (by decide +kernel) vp_eq))), vp_ne (by decide +kernel) (vp_ne (by decide +kernel) (vp_ne (by decide +kernel) vp_eq)), vp_ne (by decide +kernel) (vp_ne (by decide +kernel) vp_eq), vp_ne (by decide +kernel) vp_eq, vp_eq, fun z => by cases z⟩
  have h1 := length_putK ([] : List (Key × V)) (.inr "rows") (.ref D)
  have h2 := length_putK (putK ([] : List (Key × V)) (.inr "rows") (.ref D)) (.inr "wear") (.ref pw)
  have h3 := length_putK (putK (putK ([] : List (Key × V)) (.inr "rows") (.ref D)) (.inr "wear") (.ref pw)) (.inr "writes") (.int 0)
  have h4 := length_putK (putK (putK (putK ([] : List (Key × V)) (.inr "rows") (.ref D)) (.inr "wear") (.ref pw)) (.inr "writes") (.int 0)) (.inr "places") (.int w)
  have h5 := length_putK (putK (putK (putK (putK ([] : List (Key × V)) (.inr "rows") (.ref D)) (.inr "wear") (.ref pw)) (.inr "writes") (.int 0)) (.inr "places") (.int w)) (.inr "over") (.bl false)
  have h0 : ([] : List (Key × V)).length = 0 := rfl
  omega
theorem mod_len {D pw : Addr} {w : Int} : (mergeK [] [(Sum.inr "rows", V.ref D), (Sum.inr "wear", V.ref pw), (Sum.inr "writes", V.int 0), (Sum.inr "places", V.int w)]).length ≤ 4 := by
  have e : mergeK [] [(Sum.inr "rows", V.ref D), (Sum.inr "wear", V.ref pw), (Sum.inr "writes", V.int 0), (Sum.inr "places", V.int w)] = putK (putK (putK (putK ([] : List (Key × V)) (.inr "rows") (.ref D)) (.inr "wear") (.ref pw)) (.inr "writes") (.int 0)) (.inr "places") (.int w) := rfl
  rw [e]
  have h1 := length_putK ([] : List (Key × V)) (.inr "rows") (.ref D)
  have h2 := length_putK (putK ([] : List (Key × V)) (.inr "rows") (.ref D)) (.inr "wear") (.ref pw)
  have h3 := length_putK (putK (putK ([] : List (Key × V)) (.inr "rows") (.ref D)) (.inr "wear") (.ref pw)) (.inr "writes") (.int 0)
  have h4 := length_putK (putK (putK (putK ([] : List (Key × V)) (.inr "rows") (.ref D)) (.inr "wear") (.ref pw)) (.inr "writes") (.int 0)) (.inr "places") (.int w)
  have h0 : ([] : List (Key × V)).length = 0 := rfl
  omega
theorem ok_l_empty {f : Addr} {fd : FuncData} (F : Fun K "_law_empty" "_law_empty" s_l_empty f fd) (B : Bt mg) : GnOk P w K mg base CX0 1 f fd ["many", "wide"] sp_l_model_k22 := by
  refine gn_fun F sc_l_empty (fun vs H Q E h => ?_) (fun cdv A outer s H vs Q E hr h => ?_)
  · obtain ⟨n, w, rfl, _⟩ := h
    rfl
  · obtain ⟨n, w, rfl, n1, n2, k⟩ := h
    refine ⟨_, (pss_cons (ps_set (i := 2) sc_l_empty.nd rfl (Or.inl rfl) (pe_disp (pps_cons pe_str (pe_lc (own := [("k", 3)]) (g := gName 3) (tt := tYes) (by rfl) sc_l_empty.nd (pi_range1 (by rfl) B.range (pa_cons (pv 0) pa_nil)) (blkOk_by (N := N_l_empty) (sc := defScope s_l_empty) (by decide +kernel)) (fun _ _ _ _ _ => pg_name (i := 3) sc_l_empty.nd rfl (Or.inl rfl)) (fun _ _ _ _ _ => pts_nil) (fun _ _ _ _ _ => (pe_lst pa_nil))) (pps_cons pe_str (pe_op op_rep (pe_lst (pa_cons pe_int pa_nil)) (pv 0)) (pps_cons pe_str pe_int (pps_cons pe_str (pv 1) pps_nil)))) (by rfl) (by rfl) (fun z => by cases z) (by decide)))
    (pss_cons (ps_dput hr.hu (pv 2) pe_str pe_bl rfl)
    (pss_one (ps_ret (pv 2))))), ?_⟩
    intro m hm
    have nm0 : ∀ {b o}, H b = some o → b ≠ m := fun {b o} e => ne_of_none e hm
    refine ⟨_, rfl, n, rfl, by omega, by omega, fun D hD => lc_range (lo := 0) (n := n.toNat) (fun i H1 => ∃ ras : List Addr, H1 D = some (.lst (ras.map V.ref)) ∧ ras.length = i ∧ ras.Nodup ∧ (∀ a ∈ ras, (upd H m (.dK [])) a = none ∧ H1 a = some (.lst []) ∧ a ≠ D) ∧ Same (upd H m (.dK [])) H1) ⟨[], upd_same, rfl, List.nodup_nil, (fun _ h => nomatch h), Same.new hD⟩ ?_ ?_⟩
    · rintro i H1 hi ⟨ras, h1, l1, nd, hr, s1⟩
      refine ⟨rfl, ?_⟩
      refine ⟨by decide, fun a ha => ?_⟩
      have naD : a ≠ D := (ne_of_none h1 ha).symm
      have e3 : Same H1 (upd H1 a (.lst [])) := Same.new ha
      refine ⟨_, e3 _ _ h1, sz_lt (by rw [List.length_map]; omega), ras ++ [a], ?_, by rw [List.length_append, l1]; rfl, ?_, fun b hb => ?_, Same.newer (s1.trans e3) hD⟩
      · rw [upd_same, List.map_append]
        rfl
      · refine List.nodup_append.mpr ⟨nd, by simp, fun b hb c hc => ?_⟩
        rw [List.mem_singleton.mp hc]
        exact fun z => by
          have := (hr b hb).2.1
          rw [z, ha] at this
          cases this
      · rcases List.mem_append.mp hb with hb | hb
        · obtain ⟨q1, q2, q3⟩ := hr b hb
          exact ⟨q1, by rw [upd_ne q3]; exact e3 _ _ q2, q3⟩
        · rw [List.mem_singleton.mp hb]
          exact ⟨same_none s1 ha, by rw [upd_ne naD]; exact upd_same, naD⟩
    · rintro H1 ⟨ras, h1, l1, nd, hr, s1⟩
      refine ⟨(by show 1 ≤ sizeLine; decide), fun l hl => ⟨_, rfl, l, n, _, rfl, rfl, upd_same, by omega, by omega, by show 1 * n.toNat ≤ sizeLine; rw [sizeLine_eq]; omega, fun pw hpw => ?_⟩⟩
      have rep : (List.replicate n.toNat [V.int 0]).flatten = (List.replicate n.toNat (0 : Int)).map V.int := by
        rw [List.map_replicate]
        induction n.toNat with
        | zero => rfl
        | succ k ih => rw [List.replicate_succ, List.flatten_cons, ih, List.replicate_succ]; rfl
      rw [rep]
      have s2 : Same H1 (upd (upd H1 l (.lst [.int 0])) pw (.lst ((List.replicate n.toNat (0 : Int)).map V.int))) := Same.newer (Same.new hl) (ne_none2 hpw)
      have hw2 : (upd (upd H1 l (.lst [.int 0])) pw (.lst ((List.replicate n.toNat (0 : Int)).map V.int))) pw = some (.lst ((List.replicate n.toNat (0 : Int)).map V.int)) := upd_same
      have fpw : H1 pw = none := ne_none2 hpw
      generalize (upd (upd H1 l (.lst [.int 0])) pw (.lst ((List.replicate n.toNat (0 : Int)).map V.int))) = H2 at s2 hw2 ⊢
      have sm : Same (upd H m (.dK [])) H2 := s1.trans s2
      refine ⟨_, rfl, ?_⟩
      refine ⟨sm _ _ upd_same, [(.inr "rows", .ref D), (.inr "wear", .ref pw), (.inr "writes", .int 0), (.inr "places", .int w)], rfl, (by show 4 ≤ 15; decide), ?_⟩
      have fD : H D = none := ne_none2 hD
      have mD : m ≠ D := ne_of_none upd_same hD
      have mpw : m ≠ pw := fun z => by
        have q := s1 _ _ (show (upd H m (.dK [])) m = some (.dK []) from upd_same)
        rw [z, fpw] at q
        cases q
      have Dpw : D ≠ pw := fun z => by
        rw [z, fpw] at h1
        cases h1
      have fw : H pw = none := ne_none2 (same_none s1 fpw)
      have mra : m ∉ ras := fun z => by
        have q := (hr m z).1
        rw [upd_same] at q
        cases q
      have Dra : D ∉ ras := fun z => (hr D z).2.2 rfl
      have wra : pw ∉ ras := fun z => by
        have q := (hr pw z).2.1
        rw [fpw] at q
        cases q
      refine ⟨_, rfl, m, _, rfl, DPut.k (k := .inr "over") upd_same ?_, ?_⟩
      · exact Nat.lt_of_le_of_lt mod_len (by show 4 < sizeLine; decide)
      rw [upd_upd]
      refine ⟨_, rfl, k ⟨m, m, m, [], m, D, pw, ras⟩ _ (fun b o e => ?_) (fun b hb => ?_) ⟨⟨_, upd_same, mod_K⟩, ?_, ?_, fun i a ts q1 q2 => ?_, ?_, ?_, ?_⟩⟩
      · rw [upd_ne (nm0 e)]
        exact sm _ _ (by rw [upd_ne (nm0 e)]; exact e)
      · rcases hb with rfl | rfl | rfl | hb
        · exact hm
        · exact fD
        · exact fw
        · exact ne_none2 (hr b hb).1
      · show upd H2 m _ D = _
        rw [upd_ne mD.symm]
        exact s2 _ _ h1
      · show upd H2 m _ pw = _
        rw [upd_ne mpw.symm]
        exact hw2
      · have am := List.mem_of_getElem? q1
        have et : ts = [] := (List.mem_replicate.mp (List.mem_of_getElem? (show (List.replicate n.toNat ([] : List Str))[i]? = some ts from q2))).2
        rw [et, upd_ne (fun z => mra (by rw [← z]; exact am))]
        exact s2 _ _ (hr a am).2.1
      · show (m :: D :: pw :: ras).Nodup
        simp only [List.nodup_cons, List.mem_cons, not_or]
        exact ⟨⟨mD, mpw, mra⟩, ⟨Dpw, Dra⟩, wra, nd⟩
      · show (List.replicate n.toNat ([] : List Str)).length = _
        rw [List.length_replicate]
        exact l1.symm
      · show (List.replicate n.toNat (0 : Int)).length = _
        rw [List.length_replicate]
        exact l1.symm
/-! what a deed of the disk's tells, and what is behind it -/
def resW (S : DS) (n : Nat) : List V := if ((S.texts.getD n []).length : Int) = S.pl then [.str "refused", .str "full"] else if shutD S = true then [.str "refused", .str "stopped"] else [.str "told", .int (S.texts.getD n []).length]
def resWP (S : DS) (n : Nat) : List PyData := if ((S.texts.getD n []).length : Int) = S.pl then [.str "refused", .str "full"] else if shutD S = true then [.str "refused", .str "stopped"] else [.str "told", .int (S.texts.getD n []).length]
def aftW (S : DS) (n : Nat) (z : Str) : DS := if ((S.texts.getD n []).length : Int) = S.pl then S else if shutD S = true then tornD S n z else wroteD S n z
def resE (S : DS) : List V := if shutD S = true then [.str "refused", .str "stopped"] else [.str "told", .non]
def resEP (S : DS) : List PyData := if shutD S = true then [.str "refused", .str "stopped"] else [.str "told", .none]
def aftE (S : DS) (n : Nat) : DS := if shutD S = true then { S with ov := true } else erasedD S n
section
variable {K : PySem.W.Frag} {T : List (Addr × Str)} {C A_NoPlace A_BadText A_Full A_NoDisk A_Stopped : Addr} {H H' : Hp} {A : AD} {S S' : DS} {n : Nat} {z : Str} {Qk Q' : VK} {E : XK}
theorem shp_c {z : Str} (h : z.cps.toList.all (fun c => decide (c < 1114112)) = true) : ∀ c ∈ z.cps.toList, c < 1114112 := fun c hc => of_decide_eq_true (List.all_eq_true.mp h c hc)
theorem resW_dt {t : Addr} (h : H t = some (.tup (resW S n))) : Dt K H (.ref t) (.tuple (resWP S n)) := by
  refine .tup (SqT.of h) ?_
  unfold resW resWP
  split
  · exact .cons (.str _) (.cons (.str _) .nil)
  · split
    · exact .cons (.str _) (.cons (.str _) .nil)
    · exact .cons (.str _) (.cons (.int _) .nil)
theorem shp_two {a : Str} {d : PyData} (ha : a.cps.toList.all (fun c => decide (c < 1114112)) = true) (hd : Shp 0 d) : Shp 1 (.tuple [.str a, d]) := Shp.tuple fun x hx => by
  rcases List.mem_cons.mp hx with rfl | hx
  · exact Shp.str (shp_c ha)
  rw [List.mem_singleton.mp hx]
  exact hd
theorem resW_shp : Shp 1 (.tuple (resWP S n)) := by
  unfold resWP
  split
  · exact shp_two (by decide +kernel) (Shp.str (shp_c (by decide +kernel)))
  · split
    · exact shp_two (by decide +kernel) (Shp.str (shp_c (by decide +kernel)))
    · exact shp_two (by decide +kernel) (Shp.int _)
theorem resE_dt {t : Addr} (h : H t = some (.tup (resE S))) : Dt K H (.ref t) (.tuple (resEP S)) := by
  refine .tup (SqT.of h) ?_
  unfold resE resEP
  split
  · exact .cons (.str _) (.cons (.str _) .nil)
  · exact .cons (.str _) (.cons .non .nil)
theorem resE_shp : Shp 1 (.tuple (resEP S)) := by
  unfold resEP
  split
  · exact shp_two (by decide +kernel) (Shp.str (shp_c (by decide +kernel)))
  · exact shp_two (by decide +kernel) Shp.none
theorem LfO.aftW (h : LfO S) : LfO (aftW S n z) := by
  unfold Cl.aftW
  split
  · exact h
  · split
    · exact ⟨h.1, h.2⟩
    · rename_i c
      have := h.one (Bool.eq_false_iff.mpr c)
      exact ⟨this.1, this.2⟩
theorem LfO.aftE (h : LfO S) : LfO (aftE S n) := by
  unfold Cl.aftE
  split
  · exact ⟨h.1, h.2⟩
  · rename_i c
    have := h.one (Bool.eq_false_iff.mpr c)
    exact ⟨this.1, this.2⟩
theorem lam_do {b f d p s : Addr} {t : XK → TE} {σ : L2.St} {Q : VK} (hT : LamX.Tabs T H) (h : ∀ R : VK, R = Q → ∀ H3, LamX.ExtN H H3 → LamX.Tabs T H3 → ∀ (E : XK) (Q' : VK),
    (∀ cls z H', lawC b f d p s cls z → (∀ t H'', Same H' H'' → H' t = none → H'' t = some (.tup [.str "refused", .str z]) → R (.ref t) H'') → E cls none H') →
    (∀ v H', (∀ t, H' t = none → R (.ref t) (upd H' t (.tup [.str "told", v]))) → Q' v H') → t E σ H3 Q') : tLamT T (TTried b f d p s) t σ H Q :=
  ⟨hT, fun H1 e1 T1 E Q' hE hQ => h Q rfl H1 e1 T1 E Q' (fun cls z H' c k => hE cls z H' c k) hQ⟩
theorem NwT.thr {F : Addr → Prop} {H1 : Hp} {c : Addr} (l : Lx T F H H1) (n : NwT H1 c) : NwT H c ∨ F c := by
  by_cases f : F c
  · exact .inr f
  · exact .inl fun o q => Classical.byContradiction fun z => by
      obtain ⟨ps, h⟩ := n o (l.1 _ _ q f fun ps h => z ⟨ps, h⟩)
      exact z ⟨ps, h⟩
theorem Lx.trans2 {F G : Addr → Prop} {H1 H2 : Hp} (a : Lx T F H H1) (b : Lx T G H1 H2) (g : ∀ c, G c → F c ∨ NwT H c) : Lx T F H H2 :=
  ⟨fun c o e n m => b.1 c o (a.1 c o e n m) (fun z => (g c z).elim n fun w => by obtain ⟨ps, q⟩ := w o e; exact m ps q) m, b.2⟩
theorem pot_nw {p : Addr} {a b : Int} (h : Pot H p a b) : ¬ NwT H p := fun w => by
  obtain ⟨ps, q⟩ := w _ h.1
  cases q
end
/-! deeds as plain data: a segment, and the text to be written there (none: it is erased) -/
abbrev Dd := Nat × Option Str
def dV : Option Str → V
  | none => .non
  | some z => .str z
def dP : Option Str → PyData
  | none => .none
  | some z => .str z
/-- a deed that may be asked of a disk of so many segments -/
def DeedOk (r : Nat) (d : Dd) : Prop := d.1 < r ∧ ∀ z, d.2 = some z → 1 ≤ z.length ∧ z.length ≤ 2000 ∧ ∀ c ∈ z.cps.toList, c < 1114112
def doD (S : DS) (d : Dd) : DS := match d.2 with
  | none => erasedD S d.1
  | some z => wroteD S d.1 z
def aftD (S : DS) (d : Dd) : DS := match d.2 with
  | none => aftE S d.1
  | some z => aftW S d.1 z
def resD (S : DS) (d : Dd) : List V := match d.2 with
  | none => resE S
  | some _ => resW S d.1
def resDP (S : DS) (d : Dd) : List PyData := match d.2 with
  | none => resEP S
  | some _ => resWP S d.1
/-- what a law's model holds to be due -/
def dueV (M : DS) (d : Dd) : List V := [.str "told", match d.2 with
  | none => .non
  | some _ => .int (M.texts.getD d.1 []).length]
def runD (S : DS) (ds : List Dd) : DS := ds.foldl doD S
theorem runD_snoc {S : DS} {ds : List Dd} {d : Dd} : runD S (ds ++ [d]) = doD (runD S ds) d := by
  unfold runD
  rw [List.foldl_append]
  rfl
/-- a write is asked only where there is room for one more -/
def Lg (M : DS) (ds : List Dd) : Prop := ∀ (i : Nat) (d : Dd) (z : Str), ds[i]? = some d → d.2 = some z → ((((runD M (ds.take i)).texts.getD d.1 []).length : Nat) : Int) < M.pl - 1
theorem doD_pl {S : DS} {d : Dd} : (doD S d).pl = S.pl := by
  unfold doD
  split <;> rfl
theorem runD_pl {S : DS} (ds : List Dd) : (runD S ds).pl = S.pl := by
  unfold runD
  induction ds generalizing S with
  | nil => rfl
  | cons d ds ih => rw [List.foldl_cons, ih, doD_pl]
theorem doD_ov {S : DS} {d : Dd} : (doD S d).ov = S.ov := by
  unfold doD
  split <;> rfl
theorem doD_kp {S : DS} {d : Dd} : (doD S d).kp = S.kp := by
  unfold doD
  split <;> rfl
theorem doD_lf {S : DS} {d : Dd} : (doD S d).lf = S.lf.map (· - 1) := by
  unfold doD
  split <;> rfl
/-- a deed as a tuple -/
def DdAt (H : Hp) (t : Addr) (d : Dd) : Prop := H t = some (.tup [.int d.1, dV d.2])
theorem DdAt.m {H H' : Hp} {t : Addr} {d : Dd} (h : DdAt H t d) (s : Same H H') : DdAt H' t d := s _ _ h
theorem resD_dt {K : PySem.W.Frag} {H : Hp} {S : DS} {d : Dd} {t : Addr} (h : H t = some (.tup (resD S d))) : Dt K H (.ref t) (.tuple (resDP S d)) := by
  obtain ⟨n, z⟩ := d
  cases z with
  | none => exact resE_dt h
  | some z => exact resW_dt h
theorem resD_shp {S : DS} {d : Dd} : Shp 1 (.tuple (resDP S d)) := by
  obtain ⟨n, z⟩ := d
  cases z with
  | none => exact resE_shp
  | some z => exact resW_shp
theorem AsD.doD {S M : DS} (a : AsD S M) (d : Dd) : AsD (doD S d) (doD M d) := by
  obtain ⟨a1, a2, a3, a4, a5⟩ := a
  obtain ⟨n, z⟩ := d
  cases z with
  | none =>
    refine ⟨?_, ?_, a3, ?_, a5⟩
    · show M.texts.set n [] = S.texts.set n []
      rw [a1]
    · show M.wear.set n (M.wear.getD n 0 + 1) = S.wear.set n (S.wear.getD n 0 + 1)
      rw [a2]
    · show M.wr + 1 = S.wr + 1
      rw [a4]
  | some z =>
    refine ⟨?_, a2, a3, ?_, a5⟩
    · show M.texts.set n ((M.texts.getD n []) ++ [z]) = S.texts.set n ((S.texts.getD n []) ++ [z])
      rw [a1]
    · show M.wr + 1 = S.wr + 1
      rw [a4]
theorem AsD.run {S M : DS} (a : AsD S M) (ds : List Dd) : AsD (runD S ds) (runD M ds) := by
  unfold runD
  induction ds generalizing S M with
  | nil => exact a
  | cons d ds ih => exact ih (a.doD d)
/-- where it is let, a deed is told as it is due -/
theorem res_due {S M : DS} {d : Dd} (a : AsD S M) (ns : shutD S = false) (nf : ∀ z, d.2 = some z → ((S.texts.getD d.1 []).length : Int) < S.pl) : resD S d = dueV M d ∧ aftD S d = doD S d := by
  obtain ⟨n, z⟩ := d
  cases z with
  | none => exact ⟨if_neg (by rw [ns]; decide), if_neg (by rw [ns]; decide)⟩
  | some z =>
    have nf' : ((S.texts.getD n []).length : Int) < S.pl := nf z rfl
    have ne : ¬ ((S.texts.getD n []).length : Int) = S.pl := by omega
    refine ⟨(if_neg ne).trans ((if_neg (by rw [ns]; decide)).trans ?_), (if_neg ne).trans (if_neg (by rw [ns]; decide))⟩
    show [V.str "told", V.int _] = [V.str "told", V.int _]
    rw [a.1]
/-- without left and kept a model doesn't tell of them -/
theorem Md.alike {H : Hp} {A : AD} {M M' : DS} (h : Md false H A M) (e1 : M'.texts = M.texts) (e2 : M'.wear = M.wear) (e3 : M'.wr = M.wr) (e4 : M'.pl = M.pl) (e5 : M'.ov = M.ov) : Md false H A M' := by
  obtain ⟨⟨kvs, h1, k⟩, h2, h3, h4, h5, h6, h7⟩ := h
  exact ⟨⟨kvs, h1, ⟨k.ln, k.kr, k.kw, by rw [e3]; exact k.kn, by rw [e4]; exact k.kp, by rw [e5]; exact k.ko, fun z => by cases z⟩⟩, h2, by rw [e2]; exact h3, by rw [e1]; exact h4, h5, by rw [e1]; exact h6, by rw [e2]; exact h7⟩
section
variable {K : PySem.W.Frag} {T : List (Addr × Str)} {C A_NoPlace A_BadText A_Full A_NoDisk A_Stopped : Addr} {H H' : Hp} {x rl wl : Addr} {ras : List Addr} {S : DS} {n : Nat} {z : Str} {Qk Q' : VK} {E : XK}
/-- disk.write(n, z), tried, of a disk alone -/
theorem triedK_write (hT : LamX.Tabs T H) (hd : Dk C H x rl wl ras S) (kp0 : 0 ≤ S.kp) (hn : n < ras.length) (z1 : 1 ≤ z.length) (z2 : z.length ≤ 2000)
    (hE : ∀ cls y H', lawC A_BadText A_Full A_NoDisk A_NoPlace A_Stopped cls y → (∀ t H'', Same H' H'' → H' t = none → H'' t = some (.tup [.str "refused", .str y]) → Qk (.ref t) H'') → E cls none H')
    (hQ : ∀ v H', (∀ t, H' t = none → Qk (.ref t) (upd H' t (.tup [.str "told", v]))) → Q' v H')
    (k : ∀ t H', Lx T (DkFoot x rl wl ras) H H' → Dk C H' x rl wl ras (aftW S n z) → H' t = some (.tup (resW S n)) → Qk (.ref t) H') : sp_Disk_write K C A_NoPlace A_BadText A_Full A_Stopped [.ref x, .int n, .str z] H Q' E := by
  have tsl : ((S.texts.getD n []).length : Int) ≤ S.pl := by
    obtain ⟨_, _, e⟩ := hd.at hn
    exact (hd.tx _ (List.mem_of_getElem? e)).1
  by_cases hf : ((S.texts.getD n []).length : Int) = S.pl
  · have er : resW S n = [.str "refused", .str "full"] := if_pos hf
    have ea : aftW S n z = S := if_pos hf
    rw [er, ea] at k
    exact d_write_full hd hn z1 z2 hf kp0 (hE _ "full" H (.inr (.inl ⟨rfl, rfl⟩)) fun t H1 s1 f1 ht => k t H1 (Lx.same hT s1) (hd.m s1) ht)
  · cases hs : shutD S with
    | true =>
      have er : resW S n = [.str "refused", .str "stopped"] := (if_neg hf).trans (if_pos hs)
      have ea : aftW S n z = tornD S n z := (if_neg hf).trans (if_pos hs)
      rw [er, ea] at k
      refine d_write_stop hd hn z1 z2 (by omega) hs kp0 fun H1 s1 D1 => hE _ "stopped" H1 (.inr (.inr (.inr (.inr ⟨rfl, rfl⟩)))) fun t H2 s2 f2 ht => ?_
      have L1 := Lx.but hd hT s1
      exact k t H2 (L1.trans (Lx.same L1.2 s2)) (D1.m s2) ht
    | false =>
      have er : resW S n = [.str "told", .int (S.texts.getD n []).length] := (if_neg hf).trans (if_neg (by rw [hs]; decide))
      have ea : aftW S n z = wroteD S n z := (if_neg hf).trans (if_neg (by rw [hs]; decide))
      rw [er, ea] at k
      refine d_write hd hn z1 z2 (by omega) hs kp0 fun H1 s1 D1 => hQ _ H1 fun t ht => ?_
      have L1 := Lx.but hd hT s1
      have s2 : Same H1 (upd H1 t (.tup [.str "told", .int (S.texts.getD n []).length])) := Same.new ht
      exact k t _ (L1.trans (Lx.same L1.2 s2)) (D1.m s2) upd_same
/-- disk.erase(n), tried, of a disk alone -/
theorem triedK_erase (hT : LamX.Tabs T H) (hd : Dk C H x rl wl ras S) (hn : n < ras.length)
    (hE : ∀ cls y H', lawC A_BadText A_Full A_NoDisk A_NoPlace A_Stopped cls y → (∀ t H'', Same H' H'' → H' t = none → H'' t = some (.tup [.str "refused", .str y]) → Qk (.ref t) H'') → E cls none H')
    (hQ : ∀ v H', (∀ t, H' t = none → Qk (.ref t) (upd H' t (.tup [.str "told", v]))) → Q' v H')
    (k : ∀ t H' ras', Lx T (DkFoot x rl wl ras) H H' → (∀ c ∈ ras', c ∈ ras ∨ NwT H c) → ras'.length = ras.length → Dk C H' x rl wl ras' (aftE S n) → H' t = some (.tup (resE S)) → Qk (.ref t) H') : sp_Disk_erase K C A_NoPlace A_Stopped [.ref x, .int n] H Q' E := by
  cases hs : shutD S with
  | true =>
    have er : resE S = [.str "refused", .str "stopped"] := if_pos hs
    have ea : aftE S n = { S with ov := true } := if_pos hs
    rw [er, ea] at k
    refine d_erase_stop hd hn hs fun H1 s1 D1 => hE _ "stopped" H1 (.inr (.inr (.inr (.inr ⟨rfl, rfl⟩)))) fun t H2 s2 f2 ht => ?_
    have L1 := Lx.but hd hT s1
    exact k t H2 ras (L1.trans (Lx.same L1.2 s2)) (fun c q => .inl q) rfl (D1.m s2) ht
  | false =>
    have er : resE S = [.str "told", .non] := if_neg (by rw [hs]; decide)
    have ea : aftE S n = erasedD S n := if_neg (by rw [hs]; decide)
    rw [er, ea] at k
    refine d_erase hd hn hs fun a' H1 s1 f1 D1 => hQ _ H1 fun t ht => ?_
    have L1 := Lx.but hd hT s1
    have s2 : Same H1 (upd H1 t (.tup [.str "told", .non])) := Same.new ht
    refine k t _ (ras.set n a') (L1.trans (Lx.same L1.2 s2)) (fun c q => ?_) List.length_set (D1.m s2) upd_same
    rcases List.mem_or_eq_of_mem_set q with w | w
    · exact .inl w
    · rw [w]
      exact .inr fun o e => by rw [f1] at e; cases e
end
theorem getD_set_or {α : Type} {xs : List α} {n j : Nat} {v d : α} : (xs.set n v).getD j d = v ∨ (xs.set n v).getD j d = xs.getD j d := by
  rw [List.getD_eq_getElem?_getD, List.getD_eq_getElem?_getD]
  by_cases c : n = j
  · subst c
    by_cases hl : n < xs.length
    · rw [List.getElem?_set_self hl]
      exact .inl rfl
    · rw [List.getElem?_eq_none (by rw [List.length_set]; omega), List.getElem?_eq_none (by omega)]
      exact .inr rfl
  · rw [List.getElem?_set_ne c]
    exact .inr rfl
theorem doD_bd {M : DS} {d : Dd} {m : Int} (m0 : 0 ≤ m) (b : ∀ j, (((M.texts.getD j []).length : Nat) : Int) ≤ m) (h : ∀ z, d.2 = some z → (((M.texts.getD d.1 []).length : Nat) : Int) < m) : ∀ j, ((((doD M d).texts.getD j []).length : Nat) : Int) ≤ m := fun j => by
  obtain ⟨n, z⟩ := d
  cases z with
  | none =>
    show ((((M.texts.set n []).getD j []).length : Nat) : Int) ≤ m
    rcases getD_set_or (xs := M.texts) (n := n) (j := j) (v := []) (d := []) with q | q
    · rw [q]
      show (0 : Int) ≤ m
      exact m0
    · rw [q]
      exact b j
  | some z =>
    show ((((M.texts.set n ((M.texts.getD n []) ++ [z])).getD j []).length : Nat) : Int) ≤ m
    rcases getD_set_or (xs := M.texts) (n := n) (j := j) (v := (M.texts.getD n []) ++ [z]) (d := []) with q | q
    · rw [q, List.length_append, List.length_singleton]
      have : (((M.texts.getD n []).length : Nat) : Int) < m := h z rfl
      omega
    · rw [q]
      exact b j
theorem Lg.snoc {M : DS} {ds : List Dd} {d : Dd} (h : Lg M ds) (k : ∀ z, d.2 = some z → ((((runD M ds).texts.getD d.1 []).length : Nat) : Int) < M.pl - 1) : Lg M (ds ++ [d]) := fun i e z hi hz => by
  by_cases c : i < ds.length
  · rw [List.getElem?_append_left c] at hi
    rw [List.take_append_of_le_length (by omega)]
    exact h i e z hi hz
  · rw [List.getElem?_append_right (by omega)] at hi
    have hm : i - ds.length = 0 := by
      have := (List.getElem?_eq_some_iff.mp hi).1
      simp at this
      omega
    rw [hm] at hi
    have e' : d = e := by simpa using hi
    rw [List.take_append_of_le_length (by omega), List.take_of_length_le (by omega), ← e']
    exact k z (by rw [e']; exact hz)

abbrev s_l_made : Stmt := topS 39
abbrev N_l_made : List Str := ["pot", "many", "wide", "way"]
theorem sc_l_made : FnScope N_l_made ["pot", "many", "wide"] (defScope s_l_made) := ⟨rfl, rfl, rfl, by decide +kernel, rfl, by decide +kernel, by decide +kernel⟩
def sp_l_made_k26 (C : Addr) : Sp := fun vs H Q _ => ∃ (p : Addr) (a b n w : Int), vs = [.ref p, .int n, .int w] ∧ Pot H p a b ∧ 4 ≤ n ∧ n ≤ 8 ∧ 6 ≤ w ∧ w ≤ 16 ∧ ∀ (t : Addr) (H' : Hp) (x rl wl : Addr) (ras : List Addr), SameBut p H H' → (∃ a b, Pot H' p a b) → (∀ c, DkFoot x rl wl ras c → H c = none) → Dk C H' x rl wl ras (newD (if tkD a b 6 = 0 ∨ tkD a b 6 = 2 then 6 else n) (if tkD a b 6 = 0 ∨ tkD a b 6 = 1 then 12 else w)) →
  H' t = some (.tup [.ref x, .int (if tkD a b 6 = 0 ∨ tkD a b 6 = 2 then 6 else n), .int (if tkD a b 6 = 0 ∨ tkD a b 6 = 1 then 12 else w)]) → Q (.ref t) H'
/-- a disk is made: sizes that are some -/
theorem mk_init {K : PySem.W.Frag} {C E0 x dx : Addr} {H : Hp} {n w : Int} {R : Hp → Prop} {E : XK} (n4 : 4 ≤ n) (n8 : n ≤ 8) (w6 : 6 ≤ w) (w16 : w ≤ 16) (hx : H x = none) (hdx : H dx = none)
    (k : ∀ (rl wl : Addr) (ras : List Addr) (H5 : Hp), Same H H5 → (∀ c, DkFoot x rl wl ras c → H c = none) → Dk C H5 x rl wl ras (newD n w) → R H5) : sp_Disk_init K C E0 [.ref x, .int n, .int w] (upd (upd H dx (.own x)) x (.ins C dx [])) (fun v H3 => v = .non ∧ R H3) E := by
  refine ⟨x, dx, _, _, rfl, upd_same, .int _, .int _, fun n' m' q1 q2 _ _ _ _ rl wl ras H5 s5 r1 r2 r3 D5 => ?_, fun q => ?_⟩
  · cases q1
    cases q2
    obtain ⟨sm, fr⟩ := dk_made (T := []) (C := C) (fun _ h => nomatch h) hx hdx s5 r1 r2 r3 (S := newD n w)
    exact ⟨rfl, k rl wl ras H5 sm fr D5⟩
  · rcases q with q | q
    · exact (within_yes (n := n) rfl n4 n8 q).elim
    · exact (within_yes (n := w) rfl w6 w16 q).elim
theorem ok_l_made {f : Addr} {fd : FuncData} (F : Fun K "_law_made" "_law_made" s_l_made f fd) (B : Bt mg) {A_Disk : Addr} (T_Disk : CF K mg "Disk" A_Disk ["written_rows", "erasings", "many_places", "count_of_writes", "writes_left", "signs_kept", "is_over"]) (I_Disk_kw0 : MkrK P w K mg base (L2.CX P w) A_Disk 2 ["self", "segments", "places"] 0 [] (fun us ws => [us.getD 0 V.non, (V.int 6), (V.int 12)]) (sp_Disk_init K A_Disk A_NoDisk)) (I_Disk_kw1 : MkrK P w K mg base (L2.CX P w) A_Disk 2 ["self", "segments", "places"] 1 [] (fun us ws => [us.getD 0 V.non, us.getD 1 V.non, (V.int 12)]) (sp_Disk_init K A_Disk A_NoDisk)) (I_Disk_kw0_places : MkrK P w K mg base (L2.CX P w) A_Disk 2 ["self", "segments", "places"] 0 ["places"] (fun us ws => [us.getD 0 V.non, (V.int 6), ws.getD 0 V.non]) (sp_Disk_init K A_Disk A_NoDisk)) (I_Disk_kw0_places_segments : MkrK P w K mg base (L2.CX P w) A_Disk 2 ["self", "segments", "places"] 0 ["places", "segments"] (fun us ws => [us.getD 0 V.non, ws.getD 1 V.non, ws.getD 0 V.non]) (sp_Disk_init K A_Disk A_NoDisk)) (I_Disk_kw1_places : MkrK P w K mg base (L2.CX P w) A_Disk 2 ["self", "segments", "places"] 1 ["places"] (fun us ws => [us.getD 0 V.non, us.getD 1 V.non, ws.getD 0 V.non]) (sp_Disk_init K A_Disk A_NoDisk)) (I_Disk_kw2 : MkrK P w K mg base (L2.CX P w) A_Disk 2 ["self", "segments", "places"] 2 [] (fun us ws => [us.getD 0 V.non, us.getD 1 V.non, us.getD 2 V.non]) (sp_Disk_init K A_Disk A_NoDisk)) (C_law_take : Cal P w K mg base CX0 "_law_take" 1 ["pot", "many"] sp_l_take) {tk_SEGMENTS : Tok} (g_SEGMENTS : mg "SEGMENTS" = some (.int 6 tk_SEGMENTS)) {tk_PLACES : Tok} (g_PLACES : mg "PLACES" = some (.int 12 tk_PLACES)) : GnOk P w K mg base CX0 4 f fd ["pot", "many", "wide"] (sp_l_made_k26 A_Disk) := by
  refine gn_fun F sc_l_made (fun vs H Q E h => ?_) (fun cdv A outer s H vs Q E hr h => ?_)
  · obtain ⟨p, a, b, n, w, rfl, _⟩ := h
    rfl
  · obtain ⟨p, a, b, n, w, rfl, hp, n4, n8, w6, w16, k⟩ := h
    refine ⟨_, (pss_cons (ps_set (i := 3) sc_l_made.nd rfl (Or.inl rfl) (pe_cal C_law_take (hr.mono (by decide)) (by rfl) pass0 (pa_cons (pv 0) (pa_cons pe_int pa_nil))))
    (pss_cons (ps_if (pt_cmpR op_eq (pv 3) pe_int (nomark _))
      (pss_one (ps_ret (pe_tup (pa_cons (pe_mkk0 I_Disk_kw0 (hr.mono (by decide)) (by rfl) T_Disk.mgC passN pk_nil) (pa_cons (pe_glob (by rfl) g_SEGMENTS (rel_i _ _)) (pa_cons (pe_glob (by rfl) g_PLACES (rel_i _ _)) pa_nil))))))
      pss_nil)
    (pss_cons (ps_if (pt_cmpR op_eq (pv 3) pe_int (nomark _))
      (pss_one (ps_ret (pe_tup (pa_cons (pe_mkk I_Disk_kw1 (hr.mono (by decide)) (by rfl) T_Disk.mgC passN (pa_cons (pv 1) pa_nil) pk_nil) (pa_cons (pv 1) (pa_cons (pe_glob (by rfl) g_PLACES (rel_i _ _)) pa_nil))))))
      pss_nil)
    (pss_cons (ps_if (pt_cmpR op_eq (pv 3) pe_int (nomark _))
      (pss_one (ps_ret (pe_tup (pa_cons (pe_mkk0 I_Disk_kw0_places (hr.mono (by decide)) (by rfl) T_Disk.mgC passN (pk_cons (pv 2) pk_nil)) (pa_cons (pe_glob (by rfl) g_SEGMENTS (rel_i _ _)) (pa_cons (pv 2) pa_nil))))))
      pss_nil)
    (pss_cons (ps_if (pt_cmpR op_eq (pv 3) pe_int (nomark _))
      (pss_one (ps_ret (pe_tup (pa_cons (pe_mkk0 I_Disk_kw0_places_segments (hr.mono (by decide)) (by rfl) T_Disk.mgC passN (pk_cons (pv 2) (pk_cons (pv 1) pk_nil))) (pa_cons (pv 1) (pa_cons (pv 2) pa_nil))))))
      pss_nil)
    (pss_cons (ps_if (pt_cmpR op_eq (pv 3) pe_int (nomark _))
      (pss_one (ps_ret (pe_tup (pa_cons (pe_mkk I_Disk_kw1_places (hr.mono (by decide)) (by rfl) T_Disk.mgC passN (pa_cons (pv 1) pa_nil) (pk_cons (pv 2) pk_nil)) (pa_cons (pv 1) (pa_cons (pv 2) pa_nil))))))
      pss_nil)
    (pss_one (ps_ret (pe_tup (pa_cons (pe_mkk I_Disk_kw2 (hr.mono (by decide)) (by rfl) T_Disk.mgC passN (pa_cons (pv 1) (pa_cons (pv 2) pa_nil)) pk_nil) (pa_cons (pv 1) (pa_cons (pv 2) pa_nil)))))))))))), ?_⟩
    refine ⟨_, rfl, p, a, b, 6, rfl, hp, by decide, by decide +kernel, fun H1 s1 p1 => ?_⟩
    have fr5 : ∀ {x rl wl : Addr} {ras : List Addr}, (∀ c, DkFoot x rl wl ras c → H1 c = none) → ∀ c, DkFoot x rl wl ras c → H c = none := fun {x rl wl ras} f c z => by
      have n1 := f c z
      by_cases e : c = p
      · rw [e, p1.1] at n1
        cases n1
      · cases h : H c with
        | none => rfl
        | some o =>
          rw [s1 _ _ h e] at n1
          cases n1
    generalize tkD a b 6 = d at k ⊢
    refine ⟨_, rfl, rfl, _, rfl, ?_⟩
    refine ite2 (fun c => ?_) (fun c => ?_)
    · have hd : d = 0 := by simpa using c
      have q1 : (if d = 0 ∨ d = 2 then (6 : Int) else n) = 6 := if_pos (by omega)
      have q2 : (if d = 0 ∨ d = 1 then (12 : Int) else w) = 12 := if_pos (by omega)
      rw [q1, q2] at k
      refine ⟨rfl, rfl, fun x dx hx hdx nd => mk_init (by omega) (by omega) (by omega) (by omega) hx hdx fun rl wl ras H5 s5 f5 D5 => ?_⟩
      exact ⟨(by show 3 ≤ sizeLine; decide), fun t9 ht9 => k t9 _ x rl wl ras (s1.same (s5.trans (Same.new ht9))) ⟨_, _, Same.new ht9 _ _ (s5 _ _ p1.1), p1.2⟩ (fr5 f5) (D5.m (Same.new ht9)) upd_same⟩
    · have hn0 : d ≠ 0 := by simpa using c
      refine ⟨_, rfl, rfl, _, rfl, ?_⟩
      refine ite2 (fun c => ?_) (fun c => ?_)
      · have hd : d = 1 := by simpa using c
        have q1 : (if d = 0 ∨ d = 2 then (6 : Int) else n) = n := if_neg (by omega)
        have q2 : (if d = 0 ∨ d = 1 then (12 : Int) else w) = 12 := if_pos (by omega)
        rw [q1, q2] at k
        refine ⟨_, rfl, rfl, rfl, fun x dx hx hdx nd => mk_init (by omega) (by omega) (by omega) (by omega) hx hdx fun rl wl ras H5 s5 f5 D5 => ?_⟩
        exact ⟨_, rfl, (by show 3 ≤ sizeLine; decide), fun t9 ht9 => k t9 _ x rl wl ras (s1.same (s5.trans (Same.new ht9))) ⟨_, _, Same.new ht9 _ _ (s5 _ _ p1.1), p1.2⟩ (fr5 f5) (D5.m (Same.new ht9)) upd_same⟩
      · have hn1 : d ≠ 1 := by simpa using c
        refine ⟨_, rfl, rfl, _, rfl, ?_⟩
        refine ite2 (fun c => ?_) (fun c => ?_)
        · have hd : d = 2 := by simpa using c
          have q1 : (if d = 0 ∨ d = 2 then (6 : Int) else n) = 6 := if_pos (by omega)
          have q2 : (if d = 0 ∨ d = 1 then (12 : Int) else w) = w := if_neg (by omega)
          rw [q1, q2] at k
          refine ⟨_, rfl, rfl, rfl, fun x dx hx hdx nd => mk_init (by omega) (by omega) (by omega) (by omega) hx hdx fun rl wl ras H5 s5 f5 D5 => ?_⟩
          exact ⟨_, rfl, (by show 3 ≤ sizeLine; decide), fun t9 ht9 => k t9 _ x rl wl ras (s1.same (s5.trans (Same.new ht9))) ⟨_, _, Same.new ht9 _ _ (s5 _ _ p1.1), p1.2⟩ (fr5 f5) (D5.m (Same.new ht9)) upd_same⟩
        · have hn2 : d ≠ 2 := by simpa using c
          refine ⟨_, rfl, rfl, _, rfl, ?_⟩
          refine ite2 (fun c => ?_) (fun c => ?_)
          · have hd : d = 3 := by simpa using c
            have q1 : (if d = 0 ∨ d = 2 then (6 : Int) else n) = n := if_neg (by omega)
            have q2 : (if d = 0 ∨ d = 1 then (12 : Int) else w) = w := if_neg (by omega)
            rw [q1, q2] at k
            refine ⟨_, rfl, _, rfl, rfl, rfl, fun x dx hx hdx nd => mk_init (by omega) (by omega) (by omega) (by omega) hx hdx fun rl wl ras H5 s5 f5 D5 => ?_⟩
            exact ⟨_, rfl, _, rfl, (by show 3 ≤ sizeLine; decide), fun t9 ht9 => k t9 _ x rl wl ras (s1.same (s5.trans (Same.new ht9))) ⟨_, _, Same.new ht9 _ _ (s5 _ _ p1.1), p1.2⟩ (fr5 f5) (D5.m (Same.new ht9)) upd_same⟩
          · have hn3 : d ≠ 3 := by simpa using c
            refine ⟨_, rfl, rfl, _, rfl, ?_⟩
            refine ite2 (fun c => ?_) (fun c => ?_)
            · have hd : d = 4 := by simpa using c
              have q1 : (if d = 0 ∨ d = 2 then (6 : Int) else n) = n := if_neg (by omega)
              have q2 : (if d = 0 ∨ d = 1 then (12 : Int) else w) = w := if_neg (by omega)
              rw [q1, q2] at k
              refine ⟨_, rfl, _, rfl, rfl, rfl, fun x dx hx hdx nd => mk_init (by omega) (by omega) (by omega) (by omega) hx hdx fun rl wl ras H5 s5 f5 D5 => ?_⟩
              exact ⟨_, rfl, _, rfl, (by show 3 ≤ sizeLine; decide), fun t9 ht9 => k t9 _ x rl wl ras (s1.same (s5.trans (Same.new ht9))) ⟨_, _, Same.new ht9 _ _ (s5 _ _ p1.1), p1.2⟩ (fr5 f5) (D5.m (Same.new ht9)) upd_same⟩
            · have hn4 : d ≠ 4 := by simpa using c
              have q1 : (if d = 0 ∨ d = 2 then (6 : Int) else n) = n := if_neg (by omega)
              have q2 : (if d = 0 ∨ d = 1 then (12 : Int) else w) = w := if_neg (by omega)
              rw [q1, q2] at k
              refine ⟨_, rfl, _, rfl, rfl, rfl, fun x dx hx hdx nd => mk_init (by omega) (by omega) (by omega) (by omega) hx hdx fun rl wl ras H5 s5 f5 D5 => ?_⟩
              exact ⟨_, rfl, _, rfl, (by show 3 ≤ sizeLine; decide), fun t9 ht9 => k t9 _ x rl wl ras (s1.same (s5.trans (Same.new ht9))) ⟨_, _, Same.new ht9 _ _ (s5 _ _ p1.1), p1.2⟩ (fr5 f5) (D5.m (Same.new ht9)) upd_same⟩
abbrev s_l_refused : Stmt := topS 40
abbrev N_l_refused : List Str := ["pot", "many", "wide", "odd", "other", "way"]
theorem sc_l_refused : FnScope N_l_refused ["pot"] (defScope s_l_refused) := ⟨rfl, rfl, rfl, by decide +kernel, rfl, by decide +kernel, by decide +kernel⟩
def sp_l_refused_k26 (T : List (Addr × Str)) : Sp := fun vs H Q _ => ∃ (p : Addr) (a b : Int), vs = [.ref p] ∧ Pot H p a b ∧ LamX.Tabs T H ∧ ∀ (H' : Hp) (a' b' : Int), Lx T (fun c => c = p) H H' → Pot H' p a' b' → Q (.bl true) H'
theorem two_new {C x dx : Addr} {H : Hp} (hx : H x = none) (hdx : H dx = none) : Same H (upd (upd H dx (.own x)) x (.ins C dx [])) := fun b o e => by
  rw [upd_ne (ne_of_none e hx), upd_ne (ne_of_none e hdx)]
  exact e
/-- a disk of a size that is none -/
theorem mk_bad {K : PySem.W.Frag} {C E0 x dx : Addr} {H : Hp} {v u : V} {Q : VK} {E : XK} (hx : H x = none) (hdx : H dx = none) (tv : Th K (upd (upd H dx (.own x)) x (.ins C dx [])) v) (tu : Th K (upd (upd H dx (.own x)) x (.ins C dx [])) u) (h : withinV v 4 8 = false ∨ withinV u 6 16 = false)
    (k : E (.ref E0) none (upd (upd H dx (.own x)) x (.ins C dx []))) : sp_Disk_init K C E0 [.ref x, v, u] (upd (upd H dx (.own x)) x (.ins C dx [])) Q E := by
  refine ⟨x, dx, v, u, rfl, upd_same, tv, tu, fun n m q1 q2 n4 n8 w6 w16 => ?_, fun _ => k⟩
  rcases h with h | h
  · exact (within_yes q1 n4 n8 h).elim
  · exact (within_yes q2 w6 w16 h).elim
theorem ok_l_refused {f : Addr} {fd : FuncData} {c_l_refused : Addr} (F : FunL K "_law_refused" "_law_refused" s_l_refused f fd c_l_refused) (B : Bt mg) {P_l_refused : Addr} (TB_l_refused : LamX.TabB base mg c_l_refused P_l_refused) (hT_l_refused : (P_l_refused, (("_law_refused" : Str) ++ ".<locals>." ++ "<lambda>")) ∈ T) (hu_l_refused : ∀ p ∈ T, p.1 = P_l_refused → p.2 = (("_law_refused" : Str) ++ ".<locals>." ++ "<lambda>")) {A_Disk : Addr} (T_Disk : CF K mg "Disk" A_Disk ["written_rows", "erasings", "many_places", "count_of_writes", "writes_left", "signs_kept", "is_over"]) (I_Disk_kw2 : MkrK P w K mg base (L2.CX P w) A_Disk 2 ["self", "segments", "places"] 2 [] (fun us ws => [us.getD 0 V.non, us.getD 1 V.non, us.getD 2 V.non]) (sp_Disk_init K A_Disk A_NoDisk)) (I_Disk_kw0_places : MkrK P w K mg base (L2.CX P w) A_Disk 2 ["self", "segments", "places"] 0 ["places"] (fun us ws => [us.getD 0 V.non, (V.int 6), ws.getD 0 V.non]) (sp_Disk_init K A_Disk A_NoDisk)) (C_law_take : Cal P w K mg base CX0 "_law_take" 1 ["pot", "many"] sp_l_take) (C_law_no_size : Cal P w K mg base CX0 "_law_no_size" 2 ["pot", "least", "most"] (sp_l_no_size K)) (L_l_tried : LamTo P w K mg base "_law_tried" "deed" 2 (TTried A_BadText A_Full A_NoDisk A_NoPlace A_Stopped)) : GnOk P w K mg base CX0 6 f fd ["pot"] (sp_l_refused_k26 T) := by
  refine gn_funL F sc_l_refused (fun vs H Q E h => ?_) (fun A outer s H vs Q E hr h => ?_)
  · obtain ⟨p, a, b, rfl, _⟩ := h
    rfl
  · obtain ⟨p, a, b, rfl, hp, hT, k⟩ := h
    refine ⟨_, (pss_cons (ps_asg (pe_tup (pa_cons (pe_op op_add pe_int (pe_cal C_law_take (hr.mono (by decide)) (by rfl) pass0 (pa_cons (pv 0) (pa_cons pe_int pa_nil)))) (pa_cons (pe_op op_add pe_int (pe_cal C_law_take (hr.mono (by decide)) (by rfl) pass0 (pa_cons (pv 0) (pa_cons pe_int pa_nil)))) pa_nil))) (pg_tupK K 2 (by rfl) (pgs_cons (pg_name (i := 1) sc_l_refused.nd rfl (Or.inr rfl)) (pgs_cons (pg_name (i := 2) sc_l_refused.nd rfl (Or.inr rfl)) pgs_nil))))
    (pss_cons (ps_asg (pe_tup (pa_cons (pe_cal C_law_no_size (hr.mono (by decide)) (by rfl) pass0 (pa_cons (pv 0) (pa_cons pe_int (pa_cons pe_int pa_nil)))) (pa_cons (pe_cal C_law_no_size (hr.mono (by decide)) (by rfl) pass0 (pa_cons (pv 0) (pa_cons pe_int (pa_cons pe_int pa_nil)))) pa_nil))) (pg_tupK K 2 (by rfl) (pgs_cons (pg_name (i := 3) sc_l_refused.nd rfl (Or.inr rfl)) (pgs_cons (pg_name (i := 4) sc_l_refused.nd rfl (Or.inr rfl)) pgs_nil))))
    (pss_cons (ps_set (i := 5) sc_l_refused.nd rfl (Or.inl rfl) (pe_cal C_law_take (hr.mono (by decide)) (by rfl) pass0 (pa_cons (pv 0) (pa_cons pe_int pa_nil))))
    (pss_cons (ps_if (pt_cmpR op_eq (pv 5) pe_int (nomark _))
      (pss_one (ps_ret (pe_cmpR (op_eqDK K hr.units) (pe_lamto 3 L_l_tried (by rfl) TB_l_refused rfl hT_l_refused hu_l_refused (hr.mono (by decide)) (by decide) (LamX.lamS_by (sc := defScope s_l_refused) (by decide +kernel)) (by rfl) (fun _ _ _ _ _ => by rfl)
        (fun A2 o2 s2 H2 E2 f2 c2 hr => (pe_mkk I_Disk_kw2 (hr.mono (by decide)) (by rfl) T_Disk.mgC (passE (takes_of rfl rfl rfl rfl) (fun _ _ _ _ h => h)) (pa_cons (pv 3) (pa_cons (pv 2) pa_nil)) pk_nil))) (pe_tup (pa_cons pe_str (pa_cons pe_str pa_nil))) (nomark _))))
      pss_nil)
    (pss_cons (ps_if (pt_cmpR op_eq (pv 5) pe_int (nomark _))
      (pss_one (ps_ret (pe_cmpR (op_eqDK K hr.units) (pe_lamto 3 L_l_tried (by rfl) TB_l_refused rfl hT_l_refused hu_l_refused (hr.mono (by decide)) (by decide) (LamX.lamS_by (sc := defScope s_l_refused) (by decide +kernel)) (by rfl) (fun _ _ _ _ _ => by rfl)
        (fun A2 o2 s2 H2 E2 f2 c2 hr => (pe_mkk I_Disk_kw2 (hr.mono (by decide)) (by rfl) T_Disk.mgC (passE (takes_of rfl rfl rfl rfl) (fun _ _ _ _ h => h)) (pa_cons (pv 1) (pa_cons (pv 4) pa_nil)) pk_nil))) (pe_tup (pa_cons pe_str (pa_cons pe_str pa_nil))) (nomark _))))
      pss_nil)
    (pss_cons (ps_if (pt_cmpR op_eq (pv 5) pe_int (nomark _))
      (pss_one (ps_ret (pe_cmpR (op_eqDK K hr.units) (pe_lamto 3 L_l_tried (by rfl) TB_l_refused rfl hT_l_refused hu_l_refused (hr.mono (by decide)) (by decide) (LamX.lamS_by (sc := defScope s_l_refused) (by decide +kernel)) (by rfl) (fun _ _ _ _ _ => by rfl)
        (fun A2 o2 s2 H2 E2 f2 c2 hr => (pe_mkk I_Disk_kw2 (hr.mono (by decide)) (by rfl) T_Disk.mgC (passE (takes_of rfl rfl rfl rfl) (fun _ _ _ _ h => h)) (pa_cons (pv 3) (pa_cons (pv 4) pa_nil)) pk_nil))) (pe_tup (pa_cons pe_str (pa_cons pe_str pa_nil))) (nomark _))))
      pss_nil)
    (pss_one (ps_ret (pe_cmpR (op_eqDK K hr.units) (pe_lamto 3 L_l_tried (by rfl) TB_l_refused rfl hT_l_refused hu_l_refused (hr.mono (by decide)) (by decide) (LamX.lamS_by (sc := defScope s_l_refused) (by decide +kernel)) (by rfl) (fun _ _ _ _ _ => by rfl)
        (fun A2 o2 s2 H2 E2 f2 c2 hr => (pe_mkk0 I_Disk_kw0_places (hr.mono (by decide)) (by rfl) T_Disk.mgC (passE (takes_of rfl rfl rfl rfl) (fun _ _ _ _ h => h)) (pk_cons (pv 4) pk_nil)))) (pe_tup (pa_cons pe_str (pa_cons pe_str pa_nil))) (nomark _)))))))))), ?_⟩
    refine ⟨_, rfl, p, a, b, 5, rfl, hp, by decide, by decide +kernel, fun H1 s1 p1 => ?_⟩
    have d20 : 0 ≤ tkD a b 5 := tkD_nn (by decide)
    have d21 : tkD a b 5 < 5 := tkD_lt (by decide)
    generalize tkD a b 5 = d2 at d20 d21 ⊢
    generalize tkA a b 5 = a1 at p1
    generalize tkB a b 5 = b1 at p1
    refine ⟨_, _, rfl, rfl, ?_⟩
    refine ⟨_, rfl, p, a1, b1, 11, rfl, p1, by decide, by decide +kernel, fun H2 s2 p2 => ?_⟩
    have d30 : 0 ≤ tkD a1 b1 11 := tkD_nn (by decide)
    have d31 : tkD a1 b1 11 < 11 := tkD_lt (by decide)
    generalize tkD a1 b1 11 = d3 at d30 d31 ⊢
    generalize tkA a1 b1 11 = a2 at p2
    generalize tkB a1 b1 11 = b2 at p2
    refine ⟨_, _, rfl, rfl, ?_⟩
    refine ⟨(by show 2 ≤ sizeLine; decide), fun t3 ht3 => ?_⟩
    have s3 : Same H2 (upd H2 t3 (.tup [.int (4 + d2), .int (6 + d3)])) := Same.new ht3
    have g3 : (upd H2 t3 (.tup [.int (4 + d2), .int (6 + d3)])) t3 = some (.tup [.int (4 + d2), .int (6 + d3)]) := upd_same
    have p3 : Pot (upd H2 t3 (.tup [.int (4 + d2), .int (6 + d3)])) p a2 b2 := ⟨s3 _ _ p2.1, p2.2⟩
    refine ⟨t3, _, rfl, SqT.of upd_same, rfl, _, _, rfl, _, _, rfl, rfl, ?_⟩
    have s03 : SameBut p H (upd H2 t3 (.tup [.int (4 + d2), .int (6 + d3)])) := (s1.trans s2).same s3
    generalize (upd H2 t3 (.tup [.int (4 + d2), .int (6 + d3)])) = H3 at p3 s03 ⊢
    refine ⟨_, rfl, p, a2, b2, 4, 8, rfl, p3, by decide, by decide, by decide, fun v H4 a4 b4 s4 p4 tv nv => ?_⟩
    refine ⟨_, rfl, p, a4, b4, 6, 16, rfl, p4, by decide, by decide, by decide, fun u H5 a5 b5 s5 p5 tu nu => ?_⟩
    refine ⟨(by show 2 ≤ sizeLine; decide), fun t6 ht6 => ?_⟩
    have s6 : Same H5 (upd H5 t6 (.tup [v, u])) := Same.new ht6
    have p6 : Pot (upd H5 t6 (.tup [v, u])) p a5 b5 := ⟨s6 _ _ p5.1, p5.2⟩
    refine ⟨t6, _, rfl, SqT.of upd_same, rfl, _, _, rfl, _, _, rfl, rfl, ?_⟩
    have s06 : SameBut p H (upd H5 t6 (.tup [v, u])) := ((s03.trans s4).trans s5).same s6
    have tv6 : ∀ H2, KpB p (upd H5 t6 (.tup [v, u])) H2 → Th K H2 v := fun H2 e => tv H2 ((KpB.but (s5.same s6)).trans e)
    have tu6 : ∀ H2, KpB p (upd H5 t6 (.tup [v, u])) H2 → Th K H2 u := fun H2 e => tu H2 ((KpB.but (SameBut.of s6)).trans e)
    generalize (upd H5 t6 (.tup [v, u])) = H6 at p6 s06 tv6 tu6 ⊢
    refine ⟨_, rfl, p, a5, b5, 4, rfl, p6, by decide, by decide +kernel, fun H7 s7 p7 => ?_⟩
    have s07 := s06.trans s7
    have L7 : Lx T (fun c => c = p) H H7 := Lx.but1 hT hp s07 rfl
    have tv7 : ∀ H2, KpB p H7 H2 → Th K H2 v := fun H2 e => tv6 H2 ((KpB.but s7).trans e)
    have tu7 : ∀ H2, KpB p H7 H2 → Th K H2 u := fun H2 e => tu6 H2 ((KpB.but s7).trans e)
    generalize tkD a5 b5 4 = way
    generalize tkA a5 b5 4 = a7 at p7
    generalize tkB a5 b5 4 = b7 at p7
    -- each way: refused
    have fin : ∀ (H8 : Hp), LamX.ExtN H7 H8 → LamX.Tabs T H8 → ∀ (H9 : Hp), Same H8 H9 → ∀ (t : Addr), H9 t = some (.tup [.str "refused", .str "no disk"]) → 2 ≤ sizeLine ∧ ∀ t2, H9 t2 = none → rEqD K (.ref t) (.ref t2) (upd H9 t2 (.tup [.str "refused", .str "no disk"])) Q := fun H8 e8 T8 H9 s9 t ht => ⟨(by decide), fun t2 ht2 => by
      have s10 : Same H9 (upd H9 t2 (.tup [.str "refused", .str "no disk"])) := Same.new ht2
      have qd : ∀ {t : Addr} {H' : Hp}, H' t = some (.tup [.str "refused", .str "no disk"]) → Dt K H' (.ref t) (.tuple [.str "refused", .str "no disk"]) := fun h => .tup (SqT.of h) (.cons (.str _) (.cons (.str _) .nil))
      refine eq_same (d := .tuple [.str "refused", .str "no disk"]) (k := 1) (qd (s10 _ _ ht)).dp (qd upd_same).dp ⟨by decide +kernel, by decide +kernel⟩ ?_
      have L10 := (L7.trans (Lx.ext e8 T8)).trans (Lx.same T8 (s9.trans s10))
      exact k _ a7 b7 L10 ⟨(s9.trans s10) _ _ (e8 _ _ p7.1 (fun _ z => by cases z)), p7.2⟩⟩
    refine ⟨_, rfl, rfl, _, rfl, ?_⟩
    refine ite2 (fun c => ?_) (fun c => ?_)
    · refine lam_do L7.2 fun Rk eR H8 e8 T8 E8 Q8 hE8 hQ8 => ?_
      refine ⟨_, rfl, _, rfl, rfl, rfl, fun x dx hx hdx nd => ?_⟩
      have kp : KpB p H7 (upd (upd H8 dx (.own x)) x (.ins A_Disk dx [])) := (KpB.of e8).trans (KpB.but (SameBut.of (two_new hx hdx)))
      refine mk_bad hx hdx (tv7 _ kp) (.int _) (.inl nv) (hE8 _ "no disk" _ (.inr (.inr (.inl ⟨rfl, rfl⟩))) fun t H9 s9 f9 ht => ?_)
      subst eR
      exact fin H8 e8 T8 H9 ((two_new hx hdx).trans s9) t ht
    refine ⟨_, rfl, rfl, _, rfl, ?_⟩
    refine ite2 (fun c => ?_) (fun c => ?_)
    · refine lam_do L7.2 fun Rk eR H8 e8 T8 E8 Q8 hE8 hQ8 => ?_
      refine ⟨_, rfl, _, rfl, rfl, rfl, fun x dx hx hdx nd => ?_⟩
      have kp : KpB p H7 (upd (upd H8 dx (.own x)) x (.ins A_Disk dx [])) := (KpB.of e8).trans (KpB.but (SameBut.of (two_new hx hdx)))
      refine mk_bad hx hdx (.int _) (tu7 _ kp) (.inr nu) (hE8 _ "no disk" _ (.inr (.inr (.inl ⟨rfl, rfl⟩))) fun t H9 s9 f9 ht => ?_)
      subst eR
      exact fin H8 e8 T8 H9 ((two_new hx hdx).trans s9) t ht
    refine ⟨_, rfl, rfl, _, rfl, ?_⟩
    refine ite2 (fun c => ?_) (fun c => ?_)
    · refine lam_do L7.2 fun Rk eR H8 e8 T8 E8 Q8 hE8 hQ8 => ?_
      refine ⟨_, rfl, _, rfl, rfl, rfl, fun x dx hx hdx nd => ?_⟩
      have kp : KpB p H7 (upd (upd H8 dx (.own x)) x (.ins A_Disk dx [])) := (KpB.of e8).trans (KpB.but (SameBut.of (two_new hx hdx)))
      refine mk_bad hx hdx (tv7 _ kp) (tu7 _ kp) (.inl nv) (hE8 _ "no disk" _ (.inr (.inr (.inl ⟨rfl, rfl⟩))) fun t H9 s9 f9 ht => ?_)
      subst eR
      exact fin H8 e8 T8 H9 ((two_new hx hdx).trans s9) t ht
    refine lam_do L7.2 fun Rk eR H8 e8 T8 E8 Q8 hE8 hQ8 => ?_
    refine ⟨_, rfl, rfl, rfl, fun x dx hx hdx nd => ?_⟩
    have kp : KpB p H7 (upd (upd H8 dx (.own x)) x (.ins A_Disk dx [])) := (KpB.of e8).trans (KpB.but (SameBut.of (two_new hx hdx)))
    refine mk_bad hx hdx (.int _) (tu7 _ kp) (.inr nu) (hE8 _ "no disk" _ (.inr (.inr (.inl ⟨rfl, rfl⟩))) fun t H9 s9 f9 ht => ?_)
    subst eR
    exact fin H8 e8 T8 H9 ((two_new hx hdx).trans s9) t ht
abbrev s_l_apart : Stmt := topS 41
abbrev N_l_apart : List Str := ["one", "two", "many", "wide"]
theorem sc_l_apart : FnScope N_l_apart ["one", "two", "many", "wide"] (defScope s_l_apart) := ⟨rfl, rfl, rfl, by decide +kernel, rfl, by decide +kernel, by decide +kernel⟩
def sp_l_apart_k26 (C : Addr) (T : List (Addr × Str)) : Sp := fun vs H Q _ => ∃ (x rl wl : Addr) (ras : List Addr) (x2 rl2 wl2 : Addr) (ras2 : List Addr) (n w : Int), vs = [.ref x, .ref x2, .int n, .int w] ∧ LamX.Tabs T H ∧ Dk C H x rl wl ras (newD n w) ∧ Dk C H x2 rl2 wl2 ras2 (newD n w) ∧ (∀ c, DkFoot x rl wl ras c → ¬ DkFoot x2 rl2 wl2 ras2 c) ∧ 4 ≤ n ∧ n ≤ 8 ∧ 6 ≤ w ∧ w ≤ 16 ∧
  ∀ H', Lx T (fun c => DkFoot x rl wl ras c ∨ DkFoot x2 rl2 wl2 ras2 c) H H' → Q (.bl true) H'
theorem pair_new {C : Addr} {H H' : Hp} {x rl wl : Addr} {ras : List Addr} {A0 : AD} {n w : Int} (d : Dk C H x rl wl ras (newD n w)) (s : Same H H') (f : ∀ c, A0.mf c → H c = none) (md : Md false H' A0 (modD n w)) : Pair false C H' ⟨x, rl, wl, ras, A0.m, A0.ml, A0.mw, A0.mras⟩ (newD n w) (modD n w) := by
  refine ⟨d.m s, ⟨md.ob, md.rl, md.wl, md.rs, md.nd, md.l1, md.l2⟩, fun c z q => ?_, fun ts hts t ht => ?_⟩
  · have n2 := f c z
    rcases d.kind q with ⟨_, _, e⟩ | ⟨_, e⟩ <;> (rw [n2] at e; cases e)
  · rw [(List.mem_replicate.mp (show ts ∈ List.replicate n.toNat ([] : List Str) from hts)).2] at ht
    cases ht
theorem Dk.lx {T : List (Addr × Str)} {C : Addr} {H H' : Hp} {x rl wl : Addr} {ras : List Addr} {S : DS} {F : Addr → Prop} (d : Dk C H x rl wl ras S) (l : Lx T F H H') (n : ∀ c, DkFoot x rl wl ras c → ¬ F c) : Dk C H' x rl wl ras S := d.keep fun b o e f => l.1 _ _ e (n b f) fun ps z => by
  rcases d.kind f with ⟨_, _, q⟩ | ⟨_, q⟩ <;> (rw [e] at q; rw [z] at q; cases q)
theorem wrote_ne {S : DS} {n m : Nat} {z : Str} (h : n ≠ m) : (wroteD S n z).texts.getD m [] = S.texts.getD m [] := by
  show (S.texts.set n _).getD m [] = _
  rw [List.getD_eq_getElem?_getD, List.getElem?_set_ne h, List.getD_eq_getElem?_getD]
theorem erased_ne {S : DS} {n m : Nat} (h : n ≠ m) : (erasedD S n).texts.getD m [] = S.texts.getD m [] := by
  show (S.texts.set n _).getD m [] = _
  rw [List.getD_eq_getElem?_getD, List.getElem?_set_ne h, List.getD_eq_getElem?_getD]
theorem erased_at {S : DS} {n : Nat} : (erasedD S n).texts.getD n [] = [] := by
  show (S.texts.set n []).getD n [] = []
  by_cases h : n < S.texts.length
  · rw [List.getD_eq_getElem?_getD, List.getElem?_set_self h]
    rfl
  · rw [List.getD_eq_getElem?_getD, List.getElem?_eq_none (by rw [List.length_set]; omega)]
    rfl
theorem ok_l_apart {f : Addr} {fd : FuncData} {c_l_apart : Addr} (F : FunL K "_law_apart" "_law_apart" s_l_apart f fd c_l_apart) (B : Bt mg) {P_l_apart : Addr} (TB_l_apart : LamX.TabB base mg c_l_apart P_l_apart) (hT_l_apart : (P_l_apart, (("_law_apart" : Str) ++ ".<locals>." ++ "<lambda>")) ∈ T) (hu_l_apart : ∀ p ∈ T, p.1 = P_l_apart → p.2 = (("_law_apart" : Str) ++ ".<locals>." ++ "<lambda>")) {A_Disk : Addr} (T_Disk : CF K mg "Disk" A_Disk ["written_rows", "erasings", "many_places", "count_of_writes", "writes_left", "signs_kept", "is_over"]) (M_Disk_write : Mth P w K mg base (L2.CX P w) A_Disk "write" 3 ["self", "segment", "text"] (sp_Disk_write K A_Disk A_NoPlace A_BadText A_Full A_Stopped)) (M_Disk_stop_kw1 : MthK P w K mg base CX0 A_Disk "stop" 1 ["self", "many", "kept"] 1 [] (fun us ws => [us.getD 0 V.non, us.getD 1 V.non, (V.int 0)]) (sp_Disk_stop A_Disk)) (M_Disk_erase : Mth P w K mg base (L2.CX P w) A_Disk "erase" 3 ["self", "segment"] (sp_Disk_erase K A_Disk A_NoPlace A_Stopped)) (M_Disk_next_place : Mth P w K mg base (L2.CX P w) A_Disk "next_place" 3 ["self", "segment"] (sp_Disk_next_place K A_Disk A_NoPlace)) (M_Disk_told : Mth P w K mg base (L2.CX P w) A_Disk "told" 3 ["self", "segment", "place"] (sp_Disk_told K A_Disk A_NoPlace)) (M_Disk_writes : Mth P w K mg base CX0 A_Disk "writes" 1 ["self"] (sp_Disk_writes A_Disk)) (C_law_reads : Cal P w K mg base CX0 "_law_reads" 4 ["disk", "model"] (sp_l_reads_k22 A_Disk)) (L_l_tried : LamTo P w K mg base "_law_tried" "deed" 2 (TTried A_BadText A_Full A_NoDisk A_NoPlace A_Stopped)) (C_law_empty : Cal P w K mg base CX0 "_law_empty" 1 ["many", "wide"] sp_l_model_k22) : GnOk P w K mg base CX0 7 f fd ["one", "two", "many", "wide"] (sp_l_apart_k26 A_Disk T) := by
  refine gn_funL F sc_l_apart (fun vs H Q E h => ?_) (fun A outer s H vs Q E hr h => ?_)
  · obtain ⟨x, rl, wl, ras, x2, rl2, wl2, ras2, n, w, rfl, _⟩ := h
    rfl
  · obtain ⟨x, rl, wl, ras, x2, rl2, wl2, ras2, n, w, rfl, hT, hd, hd2, dj, n4, n8, w6, w16, k⟩ := h
    refine ⟨_, (pss_cons (ps_expr (pe_mth M_Disk_write T_Disk.cl (hr.mono (by decide)) passN (pv 0) (pa_cons (pe_op op_sub (pv 2) pe_int) (pa_cons pe_str pa_nil))))
    (pss_cons (ps_expr (pe_mthk M_Disk_stop_kw1 T_Disk.cl (hr.mono (by decide)) pass0 (pv 0) (pa_cons pe_int pa_nil) pk_nil))
    (pss_cons (ps_expr (pe_mth M_Disk_erase T_Disk.cl (hr.mono (by decide)) passN (pv 0) (pa_cons pe_int pa_nil)))
    (pss_cons (ps_if (PW.pt (pw_or (pt_cmpR (op_neDK K hr.units) (pe_lamto 4 L_l_tried (by rfl) TB_l_apart rfl hT_l_apart hu_l_apart (hr.mono (by decide)) (by decide) (LamX.lamS_by (sc := defScope s_l_apart) (by decide +kernel)) (by rfl) (fun _ _ _ _ _ => by rfl)
        (fun A2 o2 s2 H2 E2 f2 c2 hr => (pe_mth M_Disk_write T_Disk.cl (hr.mono (by decide)) (passE (takes_of rfl rfl rfl rfl) (fun _ _ _ _ h => h)) (pv 0) (pa_cons pe_int (pa_cons pe_str pa_nil))))) (pe_tup (pa_cons pe_str (pa_cons pe_str pa_nil))) (nomark _)) (pw_or1 (pt_cmpR op_ne (pe_mth M_Disk_next_place T_Disk.cl (hr.mono (by decide)) passN (pv 0) (pa_cons pe_int pa_nil)) pe_int (nomark _)))))
      (pss_one (ps_ret pe_bl))
      pss_nil)
    (pss_cons (ps_if (pt_not (pt_val (pe_cal C_law_reads (hr.mono (by decide)) (by rfl) pass0 (pa_cons (pv 1) (pa_cons (pe_cal C_law_empty (hr.mono (by decide)) (by rfl) pass0 (pa_cons (pv 2) (pa_cons (pv 3) pa_nil))) pa_nil)))))
      (pss_one (ps_ret pe_bl))
      pss_nil)
    (pss_cons (ps_expr (pe_mth M_Disk_write T_Disk.cl (hr.mono (by decide)) passN (pv 1) (pa_cons pe_int (pa_cons pe_str pa_nil))))
    (pss_one (ps_ret (pe_and (pe_cmpR op_isN (pe_mth M_Disk_told T_Disk.cl (hr.mono (by decide)) passN (pv 0) (pa_cons pe_int (pa_cons pe_int pa_nil))) pe_non (nomark _)) (pe_and (pe_cmpR op_eq (pe_mth M_Disk_told T_Disk.cl (hr.mono (by decide)) passN (pv 1) (pa_cons pe_int (pa_cons pe_int pa_nil))) pe_str (nomark _)) (pe_and (pe_cmpR op_eq (pe_mth M_Disk_told T_Disk.cl (hr.mono (by decide)) passN (pv 0) (pa_cons (pe_op op_sub (pv 2) pe_int) (pa_cons pe_int pa_nil))) pe_str (nomark _)) (pe_one (pe_cmpR op_eq (pe_mth0 M_Disk_writes T_Disk.cl (hr.mono (by decide)) pass0 (pv 0)) pe_int (nomark _)))))))))))))), ?_⟩
    obtain ⟨m, em⟩ : ∃ m : Nat, n - 1 = (m : Int) := ⟨(n - 1).toNat, by omega⟩
    have lr : ras.length = n.toNat := newD_len hd
    have lr2 : ras2.length = n.toNat := newD_len hd2
    have hm : m < ras.length := by omega
    have h0 : 0 < ras.length := by omega
    have r0 : ∀ j, (newD n w).texts.getD j [] = [] := fun j => newD_row
    obtain ⟨S0, eS0⟩ : ∃ S0, S0 = newD n w := ⟨_, rfl⟩
    have lf0 : S0.lf = none := by rw [eS0]; rfl
    have ov0 : S0.ov = false := by rw [eS0]; rfl
    have kp0 : S0.kp = 0 := by rw [eS0]; rfl
    have wr0 : S0.wr = 0 := by rw [eS0]; rfl
    have pl0 : S0.pl = w := by rw [eS0]; rfl
    rw [← eS0] at hd r0
    obtain ⟨dx, ob⟩ := hd.ob
    refine ⟨_, rfl, x, dx, _, rfl, ob, dk_m (by decide +kernel), _, rfl, _, _, rfl, rfl, ?_⟩
    dsimp only [tCons, tC, tNil, List.cons_append, List.nil_append]
    rw [em]
    refine d_write hd hm (by decide) (by decide) (by rw [r0, pl0]; show (0 : Int) < w; omega) (shut_no lf0 ov0) (by rw [kp0]; exact Int.le_refl 0) fun H1 s1 D1 => ?_
    have L1 : Lx T (DkFoot x rl wl ras) H H1 := Lx.but hd hT s1
    have t1m : (wroteD S0 m "a").texts.getD m [] = [("a" : Str)] := by rw [wrote_at hd hm, r0]; rfl
    have t10 : (wroteD S0 m "a").texts.getD 0 [] = [] := by rw [wrote_ne (by omega), r0]
    obtain ⟨S1, eS1⟩ : ∃ S1, S1 = wroteD S0 m "a" := ⟨_, rfl⟩
    have lf1 : S1.lf = none := by rw [eS1]; show S0.lf.map _ = none; rw [lf0]; rfl
    have ov1 : S1.ov = false := by rw [eS1]; exact ov0
    have wr1 : S1.wr = 1 := by rw [eS1]; show S0.wr + 1 = 1; rw [wr0]; rfl
    have pl1 : S1.pl = w := by rw [eS1]; exact pl0
    rw [← eS1] at D1 t1m t10
    obtain ⟨dx1, ob1⟩ := D1.ob
    refine ⟨_, rfl, x, dx1, _, rfl, ob1, dk_m (by decide +kernel), rfl, rfl, ?_⟩
    refine ⟨x, rl, wl, ras, S1, 1, 0, rfl, D1, fun H2 s2 D2 => ?_⟩
    have sk2 : ∀ b o, H1 b = some o → ¬ DkFoot x rl wl ras b → H2 b = some o := fun b o e n => s2 b o e (fun q => n (.inl q))
    have L2' : Lx T (DkFoot x rl wl ras) H H2 := L1.trans (Lx.but D1 L1.2 sk2)
    obtain ⟨dx2, ob2⟩ := D2.ob
    refine ⟨_, rfl, x, dx2, _, rfl, ob2, dk_m (by decide +kernel), ?_⟩
    dsimp only [tCons, tC, tNil, List.cons_append, List.nil_append]
    refine d_erase (n := 0) D2 h0 (by unfold shutD; show (S1.ov || decide (some (1 : Int) = some 0)) = false; rw [ov1]; rfl) fun a' H3 s3 f3 D3 => ?_
    have L23 : Lx T (DkFoot x rl wl ras) H2 H3 := Lx.but D2 L2'.2 s3
    have L3 := L2'.trans L23
    obtain ⟨S3, eS3⟩ : ∃ S3, S3 = erasedD { S1 with lf := some 1, kp := 0 } 0 := ⟨_, rfl⟩
    have lf3 : S3.lf = some 0 := by rw [eS3]; rfl
    have ov3 : S3.ov = false := by rw [eS3]; exact ov1
    have kp3 : S3.kp = 0 := by rw [eS3]; rfl
    have wr3 : S3.wr = 2 := by rw [eS3]; show S1.wr + 1 = 2; rw [wr1]; rfl
    have pl3 : S3.pl = w := by rw [eS3]; exact pl1
    have t3m : S3.texts.getD m [] = [("a" : Str)] := by rw [eS3, erased_ne (by omega)]; exact t1m
    have t30 : S3.texts.getD 0 [] = [] := by rw [eS3, erased_at]
    rw [← eS3] at D3
    have f3H : NwT H a' := NwT.of (H0 := H2) (LamX.ExtN.refl H2) f3 |>.thr L2' |>.elim id fun q => ?na
    case na =>
      obtain ⟨o, e⟩ : ∃ o, H2 a' = some o := by
        rcases D2.kind q with ⟨_, _, e⟩ | ⟨_, e⟩ <;> exact ⟨_, e⟩
      rw [f3] at e
      cases e
    have ft3 : ∀ c, DkFoot x rl wl (ras.set 0 a') c → DkFoot x rl wl ras c ∨ NwT H c := fun c z => by
      rcases z with z | z | z | z
      · exact .inl (.inl z)
      · exact .inl (.inr (.inl z))
      · exact .inl (.inr (.inr (.inl z)))
      · rcases List.mem_or_eq_of_mem_set z with q | q
        · exact .inl (.inr (.inr (.inr q)))
        · rw [q]
          exact .inr f3H
    have lr3 : (ras.set 0 a').length = ras.length := List.length_set
    generalize ras.set 0 a' = ras3 at D3 ft3 lr3
    refine lam_do L3.2 fun Rk eR H4 e4 T4 E4 Q4 hE4 hQ4 => ?_
    have D4 := D3.ext e4
    have L4 := L3.trans (Lx.ext e4 T4)
    obtain ⟨dx4, ob4⟩ := D4.ob
    refine ⟨_, rfl, x, dx4, _, rfl, ob4, dk_m (by decide +kernel), ?_⟩
    dsimp only [tCons, tC, tNil, List.cons_append, List.nil_append]
    refine d_write_stop (n := 0) D4 (by omega) (by decide) (by decide) (by rw [t30, pl3]; show (0 : Int) < w; omega) (by unfold shutD; rw [lf3]; simp) (by rw [kp3]; exact Int.le_refl 0) fun H5 s5 D5 => hE4 _ "stopped" H5 (.inr (.inr (.inr (.inr ⟨rfl, rfl⟩)))) fun t6 H6 s6 f6 ht6 => ?_
    subst eR
    have e5 : tornD S3 0 "ab" = { S3 with ov := true } := by
      unfold tornD
      rw [if_neg]
      intro q
      refine q.1 ?_
      unfold partD
      rw [kp3]
      rfl
    rw [e5] at D5
    have L5 : Lx T (DkFoot x rl wl ras) H H5 := L4.trans2 (Lx.but D4 L4.2 s5) ft3
    refine ⟨(by show 2 ≤ sizeLine; decide), fun t7 ht7 => ?_⟩
    have s7 : Same H6 (upd H6 t7 (.tup [.str "refused", .str "stopped"])) := Same.new ht7
    have qd : ∀ {t : Addr} {z : Str} {H' : Hp}, H' t = some (.tup [.str "refused", .str z]) → Dt K H' (.ref t) (.tuple [.str "refused", .str z]) := fun h => .tup (SqT.of h) (.cons (.str _) (.cons (.str _) .nil))
    refine ne_same (d := .tuple [.str "refused", .str "stopped"]) (k := 1) (qd (s7 _ _ ht6)).dp (qd upd_same).dp ⟨by decide +kernel, by decide +kernel⟩ ⟨false, rfl, iteF ?_⟩
    have D7 := (D5.m s6).m s7
    have L7 := (L5.trans (Lx.same L5.2 s6)).trans (Lx.same (L5.2.ext s6) s7)
    generalize (upd H6 t7 (.tup [.str "refused", .str "stopped"])) = H7 at D7 L7 ⊢
    obtain ⟨dx7, ob7⟩ := D7.ob
    refine ⟨_, rfl, x, dx7, _, rfl, ob7, dk_m (by decide +kernel), ?_⟩
    dsimp only [tCons, tC, tNil, List.cons_append, List.nil_append]
    refine d_next (n := 0) D7 (by omega) ?_
    rw [show (({ S3 with ov := true } : DS).texts.getD 0 []) = [] from t30]
    refine ⟨rfl, _, rfl, iteF' rfl ?_⟩
    have E7 := hd2.lx L7 fun c z q => dj c q z
    refine ⟨_, rfl, _, rfl, _, rfl, n, w, rfl, n4, n8, fun A0 H8 s8 f8 md8 => ?_⟩
    refine ⟨false, ⟨x2, rl2, wl2, ras2, A0.m, A0.ml, A0.mw, A0.mras⟩, newD n w, modD n w, rfl, pair_new E7 s8 f8 md8, ⟨rfl, rfl, rfl, rfl, rfl⟩, fun H9 s9 => ⟨_, rfl, iteF' rfl ?_⟩⟩
    have E9 := (E7.m s8).m s9
    have D9 := (D7.m s8).m s9
    have L9 := (L7.trans (Lx.same L7.2 s8)).trans (Lx.same (L7.2.ext s8) s9)
    obtain ⟨dx9, ob9⟩ := E9.ob
    refine ⟨_, rfl, x2, dx9, _, rfl, ob9, dk_m (by decide +kernel), ?_⟩
    dsimp only [tCons, tC, tNil, List.cons_append, List.nil_append]
    refine d_write (n := 0) (z := "b") E9 (by omega) (by decide) (by decide) (by rw [newD_row]; show (0 : Int) < w; omega) (shut_no rfl rfl) (Int.le_refl 0) fun H10 s10 E10 => ?_
    have L10' : Lx T (DkFoot x2 rl2 wl2 ras2) H9 H10 := Lx.but E9 L9.2 s10
    have LL : Lx T (fun c => DkFoot x rl wl ras c ∨ DkFoot x2 rl2 wl2 ras2 c) H H10 := (L9.mono fun c => .inl).trans (L10'.mono fun c => .inr)
    have D10 := D9.lx L10' fun c z q => by
      rcases ft3 c z with y | y
      · exact dj c y q
      · rcases hd2.kind q with ⟨_, _, e⟩ | ⟨_, e⟩ <;> (obtain ⟨ps, z⟩ := y _ e; cases z)
    have u10 : (wroteD (newD n w) 0 "b").texts.getD 0 [] = [("b" : Str)] := by rw [wrote_at E9 (by omega), newD_row]; rfl
    obtain ⟨dxa, oba⟩ := D10.ob
    obtain ⟨dxb, obb⟩ := E10.ob
    refine ⟨_, rfl, x, dxa, _, rfl, oba, dk_m (by decide +kernel), ?_⟩
    dsimp only [tCons, tC, tNil, List.cons_append, List.nil_append]
    refine d_told (n := 0) (m := 0) D10 (by omega) (by show (0 : Int) < S3.pl; rw [pl3]; omega) ?_
    rw [show (({ S3 with ov := true } : DS).texts.getD 0 []) = [] from t30]
    refine ⟨rfl, ?_⟩
    refine ⟨true, rfl, iteT' rfl ?_⟩
    refine ⟨_, rfl, x2, dxb, _, rfl, obb, dk_m (by decide +kernel), ?_⟩
    dsimp only [tCons, tC, tNil, List.cons_append, List.nil_append]
    refine d_told (n := 0) (m := 0) E10 (by omega) (by show (0 : Int) < w; omega) ?_
    rw [u10]
    refine ⟨rfl, ?_⟩
    refine ⟨true, rfl, iteT' rfl ?_⟩
    refine ⟨_, rfl, x, dxa, _, rfl, oba, dk_m (by decide +kernel), _, rfl, _, _, rfl, rfl, ?_⟩
    dsimp only [tCons, tC, tNil, List.cons_append, List.nil_append]
    rw [em]
    refine d_told (n := m) (m := 0) D10 (by omega) (by show (0 : Int) < S3.pl; rw [pl3]; omega) ?_
    rw [show (({ S3 with ov := true } : DS).texts.getD m []) = [("a" : Str)] from t3m]
    refine ⟨rfl, ?_⟩
    refine ⟨true, rfl, iteT' rfl ?_⟩
    refine ⟨_, rfl, x, dxa, _, rfl, oba, dk_m (by decide +kernel), x, rl, wl, ras3, _, rfl, D10, ?_⟩
    dsimp only [tC]
    rw [wr3]
    exact ⟨rfl, k H10 LL⟩
abbrev s_law : Stmt := topS 42
abbrev N_law : List Str := ["script", "k", "pot", "again", "one", "many", "wide", "two", "more", "most"]
theorem sc_law : FnScope N_law ["script"] (defScope s_law) := ⟨rfl, rfl, rfl, by decide +kernel, rfl, by decide +kernel, by decide +kernel⟩
theorem ok_law {f : Addr} {fd : FuncData} (F : Fun K "law" "law" s_law f fd) (B : Bt mg) (C_law_pot : Cal P w K mg base CX0 "_law_pot" 1 ["cell"] sp_l_pot) (C_law_made : Cal P w K mg base CX0 "_law_made" 4 ["pot", "many", "wide"] (sp_l_made_k26 A_Disk)) (C_law_whole : Cal P w K mg base CX0 "_law_whole" 1 ["thing"] sp_l_whole) (C_law_refused : Cal P w K mg base CX0 "_law_refused" 6 ["pot"] (sp_l_refused_k26 T)) (C_law_at : Cal P w K mg base CX0 "_law_at" 1 ["script", "k"] (sp_l_at K)) (C_law_take : Cal P w K mg base CX0 "_law_take" 1 ["pot", "many"] sp_l_take) (C_law_reads : Cal P w K mg base CX0 "_law_reads" 4 ["disk", "model"] (sp_l_reads_k22 A_Disk)) (C_law_apart : Cal P w K mg base CX0 "_law_apart" 7 ["one", "two", "many", "wide"] (sp_l_apart_k26 A_Disk T)) (C_law_empty : Cal P w K mg base CX0 "_law_empty" 1 ["many", "wide"] sp_l_model_k22) {tk_SEGMENTS : Tok} (g_SEGMENTS : mg "SEGMENTS" = some (.int 6 tk_SEGMENTS)) {tk_PLACES : Tok} (g_PLACES : mg "PLACES" = some (.int 12 tk_PLACES)) : GnOk P w K mg base CX0 8 f fd ["script"] (sp_lawT K T) := by
  refine gn_fun F sc_law (fun vs H Q E h => ?_) (fun cdv A outer s H vs Q E hr h => ?_)
  · obtain ⟨a, ns, rfl, _⟩ := h
    rfl
  · obtain ⟨a, ns, rfl, hS, hl, hT, k⟩ := h
    refine ⟨_, (pss_cons (ps_if (PW.pt (pw_or (pt_cmpR op_ne (pe_glob (by rfl) g_SEGMENTS (rel_i _ _)) pe_int (nomark _)) (pw_or (pt_cmpR op_ne (pe_glob (by rfl) g_PLACES (rel_i _ _)) pe_int (nomark _)) (pw_or (pt_not (pt_val (pe_cal C_law_whole (hr.mono (by decide)) (by rfl) pass0 (pa_cons (pe_glob (by rfl) g_SEGMENTS (rel_i _ _)) pa_nil)))) (pw_or1 (pt_not (pt_val (pe_cal C_law_whole (hr.mono (by decide)) (by rfl) pass0 (pa_cons (pe_glob (by rfl) g_PLACES (rel_i _ _)) pa_nil)))))))))
      (pss_one (ps_ret pe_bl))
      pss_nil)
    (pss_cons (ps_for PassesOwn.never rfl (pi_range1 (by rfl) B.range (pa_cons (pe_callB (call_max2 rfl) (by rfl) B.max (by decide +kernel) (pa_cons pe_int (pa_cons (pe_callB (call_min2 rfl) (by rfl) B.min (by decide +kernel) (pa_cons (pe_callB (call_lenK K) (by rfl) B.len (by decide +kernel) (pa_cons (pv 0) pa_nil)) (pa_cons pe_int pa_nil))) pa_nil))) pa_nil)) (pg_name (i := 1) sc_law.nd rfl (Or.inl rfl))
      (pss_cons (ps_set (i := 2) sc_law.nd rfl (Or.inl rfl) (pe_cal C_law_pot (hr.mono (by decide)) (by rfl) pass0 (pa_cons (pe_op op_add (pe_cal C_law_at (hr.mono (by decide)) (by rfl) pass0 (pa_cons (pv 0) (pa_cons (pv 1) pa_nil))) (pe_op op_mul pe_int (pv 1))) pa_nil)))
    (pss_cons (ps_if (pt_not (pt_val (pe_cal C_law_refused (hr.mono (by decide)) (by rfl) pass0 (pa_cons (pv 2) pa_nil))))
      (pss_one (ps_ret pe_bl))
      pss_nil)
    (pss_cons (ps_set (i := 3) sc_law.nd rfl (Or.inl rfl) (pe_callTy (call_list_ofK K) (by rfl) B.list (by decide +kernel) (pa_cons (pv 2) pa_nil)))
    (pss_cons (ps_asg (pe_cal C_law_made (hr.mono (by decide)) (by rfl) pass0 (pa_cons (pv 2) (pa_cons (pe_op op_add pe_int (pe_cal C_law_take (hr.mono (by decide)) (by rfl) pass0 (pa_cons (pv 2) (pa_cons pe_int pa_nil)))) (pa_cons (pe_op op_add pe_int (pe_cal C_law_take (hr.mono (by decide)) (by rfl) pass0 (pa_cons (pv 2) (pa_cons pe_int pa_nil)))) pa_nil)))) (pg_tup (by rfl) (pgs_cons (pg_name (i := 4) sc_law.nd rfl (Or.inl rfl)) (pgs_cons (pg_name (i := 5) sc_law.nd rfl (Or.inl rfl)) (pgs_cons (pg_name (i := 6) sc_law.nd rfl (Or.inl rfl)) pgs_nil)))))
    (pss_cons (ps_asg (pe_cal C_law_made (hr.mono (by decide)) (by rfl) pass0 (pa_cons (pv 3) (pa_cons (pe_op op_add pe_int (pe_cal C_law_take (hr.mono (by decide)) (by rfl) pass0 (pa_cons (pv 3) (pa_cons pe_int pa_nil)))) (pa_cons (pe_op op_add pe_int (pe_cal C_law_take (hr.mono (by decide)) (by rfl) pass0 (pa_cons (pv 3) (pa_cons pe_int pa_nil)))) pa_nil)))) (pg_tup (by rfl) (pgs_cons (pg_name (i := 7) sc_law.nd rfl (Or.inl rfl)) (pgs_cons (pg_name (i := 8) sc_law.nd rfl (Or.inl rfl)) (pgs_cons (pg_name (i := 9) sc_law.nd rfl (Or.inl rfl)) pgs_nil)))))
    (pss_cons (ps_if (PW.pt (pw_or (pt_cmpR (op_neDK K hr.units) (pe_tup (pa_cons (pv 5) (pa_cons (pv 6) pa_nil))) (pe_tup (pa_cons (pv 8) (pa_cons (pv 9) pa_nil))) (nomark _)) (pw_or1 (pt_not (pt_val (pe_cal C_law_reads (hr.mono (by decide)) (by rfl) pass0 (pa_cons (pv 4) (pa_cons (pe_cal C_law_empty (hr.mono (by decide)) (by rfl) pass0 (pa_cons (pv 5) (pa_cons (pv 6) pa_nil))) pa_nil))))))))
      (pss_one (ps_ret pe_bl))
      pss_nil)
    (pss_one (ps_if (PW.pt (pw_or (pt_not (pt_val (pe_cal C_law_reads (hr.mono (by decide)) (by rfl) pass0 (pa_cons (pv 7) (pa_cons (pe_cal C_law_empty (hr.mono (by decide)) (by rfl) pass0 (pa_cons (pv 5) (pa_cons (pv 6) pa_nil))) pa_nil))))) (pw_or1 (pt_not (pt_val (pe_cal C_law_apart (hr.mono (by decide)) (by rfl) pass0 (pa_cons (pv 4) (pa_cons (pv 7) (pa_cons (pv 5) (pa_cons (pv 6) pa_nil))))))))))
      (pss_one (ps_ret pe_bl))
      pss_nil)))))))))
    (pss_one (ps_ret pe_bl)))), ?_⟩
    refine ⟨rfl, _, rfl, iteF' (by decide +kernel) ?_⟩
    refine ⟨rfl, _, rfl, iteF' (by decide +kernel) ?_⟩
    refine ⟨6, rfl, _, rfl, iteF' rfl ?_⟩
    refine ⟨12, rfl, _, rfl, iteF' rfl ?_⟩
    refine ⟨_, rfl, _, ns.length, rfl, .inl ⟨_, hS, by simp⟩, _, _, rfl, _, _, rfl, ?_⟩
    generalize e : (if (if (31 : Int) < (ns.length : Int) then (31 : Int) else (ns.length : Int)) > 3 then _ else _ : Int) = n
    have hn0 : 0 ≤ n ∧ n ≤ 100 := by
      rw [← e]
      split <;> (try split) <;> omega
    refine ⟨n, rfl, by omega, by omega, for_range (lo := 0) (n := n.toNat) (fun i σ H' => ∃ v1 v2 v3 v4 v5 v6 v7 v8 v9, σ = [some (.ref a), v1, v2, v3, v4, v5, v6, v7, v8, v9] ∧ LamX.ExtN H H' ∧ LamX.Tabs T H') ⟨_, _, _, _, _, _, _, _, _, rfl, LamX.ExtN.refl H, hT⟩ ?_ ?_⟩
    rotate_left
    · rintro σ H9 ⟨v1, v2, v3, v4, v5, v6, v7, v8, v9, rfl, -, -⟩
      exact k H9
    rintro i σ H1 hi ⟨v1, v2, v3, v4, v5, v6, v7, v8, v9, rfl, e1, T1⟩
    refine ⟨_, rfl, _, congrArg (fun v => some (some v)) (congrArg V.int (Int.zero_add _)), a, ns, i, rfl, sql_ext hS e1, fun c => ?_⟩
    refine ⟨_, congrArg (fun v => some (some v)) (congrArg V.int (Int.zero_add _)), _, _, rfl, rfl, .inl ⟨by decide, by decide⟩, _, _, rfl, rfl, ?_⟩
    refine ⟨_, rfl, fun p H2 s2 f2 p2 => ?_⟩
    have e2 := ext_same e1 s2
    have np : NwT H p := NwT.of e1 f2
    refine ⟨_, rfl, p, _, _, rfl, p2, T1.ext s2, fun H3 A B L3 p3 => ⟨_, rfl, iteF' rfl ?_⟩⟩
    have e3 := ext_lx e2 L3 (fun b z => by rw [z]; exact np)
    refine ⟨_, rfl, p, _, rfl, .inl (SqL.of p3.1), fun q hq => ?_⟩
    have s4 : Same H3 (upd H3 q (.lst [.int A, .int B])) := Same.new hq
    have q4 : Pot (upd H3 q (.lst [.int A, .int B])) q A B := ⟨upd_same, p3.2⟩
    have p4 : Pot (upd H3 q (.lst [.int A, .int B])) p A B := ⟨s4 _ _ p3.1, p3.2⟩
    have nq : NwT H q := NwT.of e3 hq
    have npq : p ≠ q := ne_of_none p3.1 hq
    have e4 := ext_same e3 s4
    have T4 := L3.2.ext s4
    generalize (upd H3 q (.lst [.int A, .int B])) = H4 at s4 q4 p4 e4 T4 ⊢
    refine ⟨_, rfl, _, rfl, p, A, B, 5, rfl, p4, by decide, by decide +kernel, fun H5 s5 p5 => ⟨_, _, rfl, rfl, ?_⟩⟩
    refine ⟨_, rfl, p, _, _, 11, rfl, p5, by decide, by decide +kernel, fun H6 s6 p6 => ⟨_, _, rfl, rfl, ?_⟩⟩
    dsimp only
    obtain ⟨nn, enn⟩ : ∃ nn, nn = 4 + tkD A B 5 := ⟨_, rfl⟩
    obtain ⟨ww, eww⟩ : ∃ ww, ww = 6 + tkD (tkA A B 5) (tkB A B 5) 11 := ⟨_, rfl⟩
    have a50 : 0 ≤ tkD A B 5 := tkD_nn (by decide)
    have a51 : tkD A B 5 < 5 := tkD_lt (by decide)
    have a60 : 0 ≤ tkD (tkA A B 5) (tkB A B 5) 11 := tkD_nn (by decide)
    have a61 : tkD (tkA A B 5) (tkB A B 5) 11 < 11 := tkD_lt (by decide)
    rw [← enn, ← eww]
    refine ⟨p, _, _, nn, ww, rfl, p6, by omega, by omega, by omega, by omega, fun t7 H7 x rl wl ras s7 ⟨_, _, p7⟩ f7 D7 ht7 => ?_⟩
    generalize eN : (if tkD (tkA (tkA A B 5) (tkB A B 5) 11) (tkB (tkA A B 5) (tkB A B 5) 11) 6 = 0 ∨ tkD (tkA (tkA A B 5) (tkB A B 5) 11) (tkB (tkA A B 5) (tkB A B 5) 11) 6 = 2 then (6 : Int) else nn) = N at D7 ht7
    generalize eW : (if tkD (tkA (tkA A B 5) (tkB A B 5) 11) (tkB (tkA A B 5) (tkB A B 5) 11) 6 = 0 ∨ tkD (tkA (tkA A B 5) (tkB A B 5) 11) (tkB (tkA A B 5) (tkB A B 5) 11) 6 = 1 then (12 : Int) else ww) = W at D7 ht7
    have bN : 4 ≤ N ∧ N ≤ 8 := by
      rw [← eN]
      split <;> omega
    have bW : 6 ≤ W ∧ W ≤ 16 := by
      rw [← eW]
      split <;> omega
    refine ⟨t7, _, rfl, SqT.of ht7, rfl, _, _, rfl, _, _, rfl, _, _, rfl, rfl, ?_⟩
    have s47 : SameBut p H4 H7 := (s5.trans s6).trans s7
    have q7 : Pot H7 q A B := ⟨s47 _ _ q4.1 npq.symm, q4.2⟩
    have T7 := tabs_but T4 p4.1 s47
    have e7 := ext_but e4 np s47
    have e6 := ext_but (ext_but e4 np s5) np s6
    have nfq : ¬ DkFoot x rl wl ras q := fun z => by
      have := f7 q z
      rw [s6 _ _ (s5 _ _ q4.1 npq.symm) npq.symm] at this
      cases this
    refine ⟨_, rfl, _, rfl, q, A, B, 5, rfl, q7, by decide, by decide +kernel, fun H8 s8 q8 => ⟨_, _, rfl, rfl, ?_⟩⟩
    refine ⟨_, rfl, q, _, _, 11, rfl, q8, by decide, by decide +kernel, fun H9 s9 q9 => ⟨_, _, rfl, rfl, ?_⟩⟩
    dsimp only
    rw [← enn, ← eww]
    refine ⟨q, _, _, nn, ww, rfl, q9, by omega, by omega, by omega, by omega, fun t10 H10 x2 rl2 wl2 ras2 s10 _ f10 D10 ht10 => ?_⟩
    rw [eN, eW] at D10 ht10
    have s79 : SameBut q H7 H9 := s8.trans s9
    have s710 : SameBut q H7 H10 := s79.trans s10
    refine ⟨t10, _, rfl, SqT.of ht10, rfl, _, _, rfl, _, _, rfl, _, _, rfl, rfl, ?_⟩
    have D9 := D7.but s79 nfq
    have D7' := D7.but s710 nfq
    have T10 := tabs_but T7 q7.1 s710
    have e10 := ext_but e7 nq s710
    have e9 := ext_but e7 nq s79
    have dj : ∀ c, DkFoot x rl wl ras c → ¬ DkFoot x2 rl2 wl2 ras2 c := fun c z1 z2 => by
      have n9 := f10 c z2
      rcases D9.kind z1 with ⟨_, _, e⟩ | ⟨_, e⟩ <;> (rw [n9] at e; cases e)
    refine ⟨_, rfl, _, rfl, (by show 2 ≤ sizeLine; decide), fun t11 ht11 => ?_⟩
    have s11 : Same H10 (upd H10 t11 (.tup [.int N, .int W])) := Same.new ht11
    have g11 : (upd H10 t11 (.tup [.int N, .int W])) t11 = some (.tup [.int N, .int W]) := upd_same
    generalize (upd H10 t11 (.tup [.int N, .int W])) = H11 at s11 g11 ⊢
    refine ⟨_, rfl, _, rfl, (by show 2 ≤ sizeLine; decide), fun t12 ht12 => ?_⟩
    have s12 : Same H11 (upd H11 t12 (.tup [.int N, .int W])) := Same.new ht12
    have qd : ∀ {t : Addr} {H' : Hp}, H' t = some (.tup [.int N, .int W]) → Dt K H' (.ref t) (.tuple [.int N, .int W]) := fun h => .tup (SqT.of h) (.cons (.int _) (.cons (.int _) .nil))
    refine ne_same (d := .tuple [.int N, .int W]) (k := 1) (qd (s12 _ _ g11)).dp (qd upd_same).dp (Shp.tuple fun d hd => ?_) ⟨false, rfl, iteF ?_⟩
    · rcases List.mem_cons.mp hd with rfl | hd
      · exact Shp.int _
      rw [List.mem_singleton.mp hd]
      exact Shp.int _
    have s1012 := s11.trans s12
    generalize (upd H11 t12 (.tup [.int N, .int W])) = H12 at s1012 ⊢
    have F12 := D7'.m s1012
    have G12 := D10.m s1012
    refine ⟨_, rfl, _, rfl, _, rfl, N, W, rfl, by omega, by omega, fun A0 H13 s13 f13 md13 => ?_⟩
    refine ⟨false, ⟨x, rl, wl, ras, A0.m, A0.ml, A0.mw, A0.mras⟩, newD N W, modD N W, rfl, pair_new F12 s13 f13 md13, ⟨rfl, rfl, rfl, rfl, rfl⟩, fun H14 s14 => ⟨_, rfl, iteF' rfl ?_⟩⟩
    have G14 := (G12.m s13).m s14
    refine ⟨_, rfl, _, rfl, _, rfl, N, W, rfl, by omega, by omega, fun A1 H15 s15 f15 md15 => ?_⟩
    refine ⟨false, ⟨x2, rl2, wl2, ras2, A1.m, A1.ml, A1.mw, A1.mras⟩, newD N W, modD N W, rfl, pair_new G14 s15 f15 md15, ⟨rfl, rfl, rfl, rfl, rfl⟩, fun H16 s16 => ⟨_, rfl, iteF' rfl ?_⟩⟩
    have sf := ((s1012.trans s13).trans s14).trans (s15.trans s16)
    have e16 := ext_same e10 sf
    refine ⟨_, rfl, _, rfl, _, rfl, _, rfl, x, rl, wl, ras, x2, rl2, wl2, ras2, N, W, rfl, T10.ext sf, D7'.m sf, D10.m sf, dj, by omega, by omega, by omega, by omega, fun H17 L17 => ⟨_, rfl, iteF' rfl ?_⟩⟩
    refine ⟨_, _, _, _, _, _, _, _, _, rfl, ext_lx e16 L17 fun c z => ?_, L17.2⟩
    rcases z with z | z
    · exact NwT.of e6 (f7 c z)
    · exact NwT.of e9 (f10 c z)
end
theorem all_mk {P : Program} {w : World} {K : PySem.W.Frag} {h : Heap} {mg : Str → Option Value} {fa : Addr} (X : K.In h) (G : h.Ns mainGlobals mg) (hfa : mg "law" = some (.ref fa))
    {tk_SEGMENTS : Tok}
    {tk_PLACES : Tok}
    {tk_LEAST_SEGMENTS : Tok}
    {tk_MOST_SEGMENTS : Tok}
    {tk_LEAST_PLACES : Tok}
    {tk_MOST_PLACES : Tok}
    {tk_LONGEST : Tok}
    {A_CleanedError : Addr} {nm_CleanedError q_CleanedError : Str} {N_CleanedError : Addr} {bs_CleanedError : List Value} {sn_CleanedError : List Str} {sub_CleanedError : List Value} {ab_CleanedError : Bool} {col_CleanedError : Option Bool} {dd_CleanedError : Option Addr} {m0_CleanedError m1_CleanedError m2_CleanedError m3_CleanedError m5_CleanedError : Option Value}
    {A_DiskError : Addr} {nm_DiskError q_DiskError : Str} {N_DiskError : Addr} {bs_DiskError : List Value} {sn_DiskError : List Str} {sub_DiskError : List Value} {ab_DiskError : Bool} {col_DiskError : Option Bool} {dd_DiskError : Option Addr} {m0_DiskError m1_DiskError m2_DiskError m3_DiskError m5_DiskError : Option Value}
    {A_NoDisk : Addr} {nm_NoDisk q_NoDisk : Str} {N_NoDisk : Addr} {bs_NoDisk : List Value} {sn_NoDisk : List Str} {sub_NoDisk : List Value} {ab_NoDisk : Bool} {col_NoDisk : Option Bool} {dd_NoDisk : Option Addr} {m0_NoDisk m1_NoDisk m2_NoDisk m3_NoDisk m5_NoDisk : Option Value}
    {A_NoPlace : Addr} {nm_NoPlace q_NoPlace : Str} {N_NoPlace : Addr} {bs_NoPlace : List Value} {sn_NoPlace : List Str} {sub_NoPlace : List Value} {ab_NoPlace : Bool} {col_NoPlace : Option Bool} {dd_NoPlace : Option Addr} {m0_NoPlace m1_NoPlace m2_NoPlace m3_NoPlace m5_NoPlace : Option Value}
    {A_BadText : Addr} {nm_BadText q_BadText : Str} {N_BadText : Addr} {bs_BadText : List Value} {sn_BadText : List Str} {sub_BadText : List Value} {ab_BadText : Bool} {col_BadText : Option Bool} {dd_BadText : Option Addr} {m0_BadText m1_BadText m2_BadText m3_BadText m5_BadText : Option Value}
    {A_Full : Addr} {nm_Full q_Full : Str} {N_Full : Addr} {bs_Full : List Value} {sn_Full : List Str} {sub_Full : List Value} {ab_Full : Bool} {col_Full : Option Bool} {dd_Full : Option Addr} {m0_Full m1_Full m2_Full m3_Full m5_Full : Option Value}
    {A_Stopped : Addr} {nm_Stopped q_Stopped : Str} {N_Stopped : Addr} {bs_Stopped : List Value} {sn_Stopped : List Str} {sub_Stopped : List Value} {ab_Stopped : Bool} {col_Stopped : Option Bool} {dd_Stopped : Option Addr} {m0_Stopped m1_Stopped m2_Stopped m3_Stopped m5_Stopped : Option Value}
    {A_NoMount : Addr} {nm_NoMount q_NoMount : Str} {N_NoMount : Addr} {bs_NoMount : List Value} {sn_NoMount : List Str} {sub_NoMount : List Value} {ab_NoMount : Bool} {col_NoMount : Option Bool} {dd_NoMount : Option Addr} {m0_NoMount m1_NoMount m2_NoMount m3_NoMount m5_NoMount : Option Value}
    {A_NoRecord : Addr} {nm_NoRecord q_NoRecord : Str} {N_NoRecord : Addr} {bs_NoRecord : List Value} {sn_NoRecord : List Str} {sub_NoRecord : List Value} {ab_NoRecord : Bool} {col_NoRecord : Option Bool} {dd_NoRecord : Option Addr} {m0_NoRecord m1_NoRecord m2_NoRecord m3_NoRecord m5_NoRecord : Option Value}
    {A_NoRoom : Addr} {nm_NoRoom q_NoRoom : Str} {N_NoRoom : Addr} {bs_NoRoom : List Value} {sn_NoRoom : List Str} {sub_NoRoom : List Value} {ab_NoRoom : Bool} {col_NoRoom : Option Bool} {dd_NoRoom : Option Addr} {m0_NoRoom m1_NoRoom m2_NoRoom m3_NoRoom m5_NoRoom : Option Value}
    {A_NotBlank : Addr} {nm_NotBlank q_NotBlank : Str} {N_NotBlank : Addr} {bs_NotBlank : List Value} {sn_NotBlank : List Str} {sub_NotBlank : List Value} {ab_NotBlank : Bool} {col_NotBlank : Option Bool} {dd_NotBlank : Option Addr} {m0_NotBlank m1_NotBlank m2_NotBlank m3_NotBlank m5_NotBlank : Option Value}
    {A_Unreadable : Addr} {nm_Unreadable q_Unreadable : Str} {N_Unreadable : Addr} {bs_Unreadable : List Value} {sn_Unreadable : List Str} {sub_Unreadable : List Value} {ab_Unreadable : Bool} {col_Unreadable : Option Bool} {dd_Unreadable : Option Addr} {m0_Unreadable m1_Unreadable m2_Unreadable m3_Unreadable m5_Unreadable : Option Value}
    {A_TreeError : Addr} {nm_TreeError q_TreeError : Str} {N_TreeError : Addr} {bs_TreeError : List Value} {sn_TreeError : List Str} {sub_TreeError : List Value} {ab_TreeError : Bool} {col_TreeError : Option Bool} {dd_TreeError : Option Addr} {m0_TreeError m1_TreeError m2_TreeError m3_TreeError m5_TreeError : Option Value}
    {A_NoTree : Addr} {nm_NoTree q_NoTree : Str} {N_NoTree : Addr} {bs_NoTree : List Value} {sn_NoTree : List Str} {sub_NoTree : List Value} {ab_NoTree : Bool} {col_NoTree : Option Bool} {dd_NoTree : Option Addr} {m0_NoTree m1_NoTree m2_NoTree m3_NoTree m5_NoTree : Option Value}
    {A_NoRow : Addr} {nm_NoRow q_NoRow : Str} {N_NoRow : Addr} {bs_NoRow : List Value} {sn_NoRow : List Str} {sub_NoRow : List Value} {ab_NoRow : Bool} {col_NoRow : Option Bool} {dd_NoRow : Option Addr} {m0_NoRow m1_NoRow m2_NoRow m3_NoRow m5_NoRow : Option Value}
    {A_NoHouse : Addr} {nm_NoHouse q_NoHouse : Str} {N_NoHouse : Addr} {bs_NoHouse : List Value} {sn_NoHouse : List Str} {sub_NoHouse : List Value} {ab_NoHouse : Bool} {col_NoHouse : Option Bool} {dd_NoHouse : Option Addr} {m0_NoHouse m1_NoHouse m2_NoHouse m3_NoHouse m5_NoHouse : Option Value}
    {A_Halted : Addr} {nm_Halted q_Halted : Str} {N_Halted : Addr} {bs_Halted : List Value} {sn_Halted : List Str} {sub_Halted : List Value} {ab_Halted : Bool} {col_Halted : Option Bool} {dd_Halted : Option Addr} {m0_Halted m1_Halted m2_Halted m3_Halted m5_Halted : Option Value}
    {A_Disk : Addr}
    {f_is_within : Addr} {oc_is_within kV_is_within dc_is_within pm_is_within cd_is_within ct_is_within : Value} {od_is_within an_is_within : Option Addr} {sl_is_within : Array (Option Value)}
    {f_Disk_init : Addr} {oc_Disk_init kV_Disk_init dc_Disk_init pm_Disk_init cd_Disk_init ct_Disk_init : Value} {od_Disk_init an_Disk_init : Option Addr} {sl_Disk_init : Array (Option Value)}
    {D_Disk_init : Addr} {dd_Disk_init : Option Addr} {nn_Disk_init : Nat} {ss_Disk_init : Array (Option Value)} {tD_Disk_init_0 : Tok} {tD_Disk_init_1 : Tok}
    {f_Disk_segments : Addr} {oc_Disk_segments kV_Disk_segments dc_Disk_segments pm_Disk_segments cd_Disk_segments ct_Disk_segments : Value} {od_Disk_segments an_Disk_segments : Option Addr} {sl_Disk_segments : Array (Option Value)}
    {f_Disk_places : Addr} {oc_Disk_places kV_Disk_places dc_Disk_places pm_Disk_places cd_Disk_places ct_Disk_places : Value} {od_Disk_places an_Disk_places : Option Addr} {sl_Disk_places : Array (Option Value)}
    {f_Disk_row_of : Addr} {oc_Disk_row_of kV_Disk_row_of dc_Disk_row_of pm_Disk_row_of cd_Disk_row_of ct_Disk_row_of : Value} {od_Disk_row_of an_Disk_row_of : Option Addr} {sl_Disk_row_of : Array (Option Value)}
    {f_Disk_next_place : Addr} {oc_Disk_next_place kV_Disk_next_place dc_Disk_next_place pm_Disk_next_place cd_Disk_next_place ct_Disk_next_place : Value} {od_Disk_next_place an_Disk_next_place : Option Addr} {sl_Disk_next_place : Array (Option Value)}
    {f_Disk_told : Addr} {oc_Disk_told kV_Disk_told dc_Disk_told pm_Disk_told cd_Disk_told ct_Disk_told : Value} {od_Disk_told an_Disk_told : Option Addr} {sl_Disk_told : Array (Option Value)}
    {f_Disk_wear : Addr} {oc_Disk_wear kV_Disk_wear dc_Disk_wear pm_Disk_wear cd_Disk_wear ct_Disk_wear : Value} {od_Disk_wear an_Disk_wear : Option Addr} {sl_Disk_wear : Array (Option Value)}
    {f_Disk_writes : Addr} {oc_Disk_writes kV_Disk_writes dc_Disk_writes pm_Disk_writes cd_Disk_writes ct_Disk_writes : Value} {od_Disk_writes an_Disk_writes : Option Addr} {sl_Disk_writes : Array (Option Value)}
    {f_Disk_has_stopped : Addr} {oc_Disk_has_stopped kV_Disk_has_stopped dc_Disk_has_stopped pm_Disk_has_stopped cd_Disk_has_stopped ct_Disk_has_stopped : Value} {od_Disk_has_stopped an_Disk_has_stopped : Option Addr} {sl_Disk_has_stopped : Array (Option Value)}
    {f_Disk_is_shut : Addr} {oc_Disk_is_shut kV_Disk_is_shut dc_Disk_is_shut pm_Disk_is_shut cd_Disk_is_shut ct_Disk_is_shut : Value} {od_Disk_is_shut an_Disk_is_shut : Option Addr} {sl_Disk_is_shut : Array (Option Value)}
    {f_Disk_count_one : Addr} {oc_Disk_count_one kV_Disk_count_one dc_Disk_count_one pm_Disk_count_one cd_Disk_count_one ct_Disk_count_one : Value} {od_Disk_count_one an_Disk_count_one : Option Addr} {sl_Disk_count_one : Array (Option Value)}
    {f_Disk_tear : Addr} {oc_Disk_tear kV_Disk_tear dc_Disk_tear pm_Disk_tear cd_Disk_tear ct_Disk_tear : Value} {od_Disk_tear an_Disk_tear : Option Addr} {sl_Disk_tear : Array (Option Value)}
    {f_Disk_write : Addr} {oc_Disk_write kV_Disk_write dc_Disk_write pm_Disk_write cd_Disk_write ct_Disk_write : Value} {od_Disk_write an_Disk_write : Option Addr} {sl_Disk_write : Array (Option Value)}
    {f_Disk_erase : Addr} {oc_Disk_erase kV_Disk_erase dc_Disk_erase pm_Disk_erase cd_Disk_erase ct_Disk_erase : Value} {od_Disk_erase an_Disk_erase : Option Addr} {sl_Disk_erase : Array (Option Value)}
    {f_Disk_stop : Addr} {oc_Disk_stop dc_Disk_stop pm_Disk_stop cd_Disk_stop ct_Disk_stop : Value} {od_Disk_stop an_Disk_stop : Option Addr} {sl_Disk_stop : Array (Option Value)}
    {KD_Disk_stop : Addr} {tK_Disk_stop : Tok}
    {f_l_at : Addr} {oc_l_at kV_l_at dc_l_at pm_l_at cd_l_at ct_l_at : Value} {od_l_at an_l_at : Option Addr} {sl_l_at : Array (Option Value)}
    {f_l_pot : Addr} {oc_l_pot kV_l_pot dc_l_pot pm_l_pot cd_l_pot ct_l_pot : Value} {od_l_pot an_l_pot : Option Addr} {sl_l_pot : Array (Option Value)}
    {f_l_take : Addr} {oc_l_take kV_l_take dc_l_take pm_l_take cd_l_take ct_l_take : Value} {od_l_take an_l_take : Option Addr} {sl_l_take : Array (Option Value)}
    {f_l_class : Addr} {oc_l_class kV_l_class dc_l_class pm_l_class cd_l_class ct_l_class : Value} {od_l_class an_l_class : Option Addr} {sl_l_class : Array (Option Value)}
    {f_l_tried : Addr} {oc_l_tried kV_l_tried dc_l_tried pm_l_tried cd_l_tried ct_l_tried : Value} {od_l_tried an_l_tried : Option Addr} {sl_l_tried : Array (Option Value)}
    {f_l_no_size : Addr} {oc_l_no_size kV_l_no_size dc_l_no_size pm_l_no_size cd_l_no_size ct_l_no_size : Value} {od_l_no_size an_l_no_size : Option Addr} {sl_l_no_size : Array (Option Value)}
    {f_l_whole : Addr} {oc_l_whole kV_l_whole dc_l_whole pm_l_whole cd_l_whole ct_l_whole : Value} {od_l_whole an_l_whole : Option Addr} {sl_l_whole : Array (Option Value)}
    {f_l_reads : Addr} {oc_l_reads kV_l_reads dc_l_reads pm_l_reads cd_l_reads ct_l_reads : Value} {od_l_reads an_l_reads : Option Addr} {sl_l_reads : Array (Option Value)}
    {f_l_empty : Addr} {oc_l_empty kV_l_empty dc_l_empty pm_l_empty cd_l_empty ct_l_empty : Value} {od_l_empty an_l_empty : Option Addr} {sl_l_empty : Array (Option Value)}
    {f_l_made : Addr} {oc_l_made kV_l_made dc_l_made pm_l_made cd_l_made ct_l_made : Value} {od_l_made an_l_made : Option Addr} {sl_l_made : Array (Option Value)}
    {f_l_refused : Addr} {oc_l_refused kV_l_refused dc_l_refused pm_l_refused ct_l_refused : Value} {od_l_refused an_l_refused : Option Addr} {sl_l_refused : Array (Option Value)}
    {cc_l_refused P_l_refused : Addr} {vs_l_refused : Array Value} {oe_l_refused : Value} {de_l_refused : Option Addr} {se_l_refused : Array (Option Value)}
    {f_l_apart : Addr} {oc_l_apart kV_l_apart dc_l_apart pm_l_apart ct_l_apart : Value} {od_l_apart an_l_apart : Option Addr} {sl_l_apart : Array (Option Value)}
    {cc_l_apart P_l_apart : Addr} {vs_l_apart : Array Value} {oe_l_apart : Value} {de_l_apart : Option Addr} {se_l_apart : Array (Option Value)}
    {f_law : Addr} {oc_law kV_law dc_law pm_law cd_law ct_law : Value} {od_law an_law : Option Addr} {sl_law : Array (Option Value)}
    (z_len : PySem.W.nsIn K mainGlobals "len" = some none)
    (z_max : PySem.W.nsIn K mainGlobals "max" = some none)
    (z_min : PySem.W.nsIn K mainGlobals "min" = some none)
    (z_abs : PySem.W.nsIn K mainGlobals "abs" = some none)
    (z_divmod : PySem.W.nsIn K mainGlobals "divmod" = some none)
    (z_range : PySem.W.nsIn K mainGlobals "range" = some none)
    (z_ord : PySem.W.nsIn K mainGlobals "ord" = some none)
    (z_isinstance : PySem.W.nsIn K mainGlobals "isinstance" = some none)
    (z_int : PySem.W.nsIn K mainGlobals "int" = some none)
    (z_str : PySem.W.nsIn K mainGlobals "str" = some none)
    (z_bool : PySem.W.nsIn K mainGlobals "bool" = some none)
    (z_list : PySem.W.nsIn K mainGlobals "list" = some none)
    (z_tuple : PySem.W.nsIn K mainGlobals "tuple" = some none)
    (z_dict : PySem.W.nsIn K mainGlobals "dict" = some none)
    (z_set : PySem.W.nsIn K mainGlobals "set" = some none)
    (z_all : PySem.W.nsIn K mainGlobals "all" = some none)
    (z_any : PySem.W.nsIn K mainGlobals "any" = some none)
    (z_sorted : PySem.W.nsIn K mainGlobals "sorted" = some none)
    (z_enumerate : PySem.W.nsIn K mainGlobals "enumerate" = some none)
    (z_zip : PySem.W.nsIn K mainGlobals "zip" = some none)
    (z_repr : PySem.W.nsIn K mainGlobals "repr" = some none)
    (z_sum : PySem.W.nsIn K mainGlobals "sum" = some none)
    (a_SEGMENTS : PySem.W.nsIn K mainGlobals "SEGMENTS" = some (some (.int 6 tk_SEGMENTS)))
    (a_PLACES : PySem.W.nsIn K mainGlobals "PLACES" = some (some (.int 12 tk_PLACES)))
    (a_LEAST_SEGMENTS : PySem.W.nsIn K mainGlobals "LEAST_SEGMENTS" = some (some (.int 4 tk_LEAST_SEGMENTS)))
    (a_MOST_SEGMENTS : PySem.W.nsIn K mainGlobals "MOST_SEGMENTS" = some (some (.int 8 tk_MOST_SEGMENTS)))
    (a_LEAST_PLACES : PySem.W.nsIn K mainGlobals "LEAST_PLACES" = some (some (.int 6 tk_LEAST_PLACES)))
    (a_MOST_PLACES : PySem.W.nsIn K mainGlobals "MOST_PLACES" = some (some (.int 16 tk_MOST_PLACES)))
    (a_LONGEST : PySem.W.nsIn K mainGlobals "LONGEST" = some (some (.int 2000 tk_LONGEST)))
    (z_ValueError : PySem.W.nsIn K mainGlobals "ValueError" = some none)
    (xa_CleanedError : PySem.W.nsIn K mainGlobals "CleanedError" = some (some (.ref A_CleanedError)))
    (xl_CleanedError : K.lookup A_CleanedError = some (excClassObj nm_CleanedError q_CleanedError A_CleanedError N_CleanedError bs_CleanedError [.type "ValueError", .type "Exception", .type "BaseException", .type "object"] true sn_CleanedError sub_CleanedError ab_CleanedError col_CleanedError dd_CleanedError m0_CleanedError m1_CleanedError m2_CleanedError m3_CleanedError m5_CleanedError "ValueError.__new__"))
    (xs_CleanedError : PySem.W.findIn K (.ref A_CleanedError) "__setattr__" = some (some (.builtin "object.__setattr__")))
    (xg_CleanedError : PySem.W.findIn K (.ref A_CleanedError) "__getattribute__" = some (some (.builtin "BaseException.__getattribute__")))
    (xh_CleanedError : PySem.W.findIn K (.ref A_CleanedError) "__getattr__" = some none)
    (xe_CleanedError : PySem.W.subIn K (.ref A_CleanedError) (.type "BaseException") = some true)
    (xt_CleanedError : PySem.W.typeIn K (.ref A_CleanedError) = some (.type "type"))
    (xk_CleanedError : PySem.W.keepIn K (.ref A_CleanedError) = true)
    (xd_CleanedError : PySem.W.hasDictIn K A_CleanedError = true)
    (xc_CleanedError : PySem.W.findIn K (.ref A_CleanedError) "__class__" = some (some (.builtin "object.__class__")))
    (xo_CleanedError : PySem.W.mroIn K A_CleanedError (.type "object") = some true)
    (xa_DiskError : PySem.W.nsIn K mainGlobals "DiskError" = some (some (.ref A_DiskError)))
    (xl_DiskError : K.lookup A_DiskError = some (excClassObj nm_DiskError q_DiskError A_DiskError N_DiskError bs_DiskError [.ref A_CleanedError, .type "ValueError", .type "Exception", .type "BaseException", .type "object"] true sn_DiskError sub_DiskError ab_DiskError col_DiskError dd_DiskError m0_DiskError m1_DiskError m2_DiskError m3_DiskError m5_DiskError "ValueError.__new__"))
    (xs_DiskError : PySem.W.findIn K (.ref A_DiskError) "__setattr__" = some (some (.builtin "object.__setattr__")))
    (xg_DiskError : PySem.W.findIn K (.ref A_DiskError) "__getattribute__" = some (some (.builtin "BaseException.__getattribute__")))
    (xh_DiskError : PySem.W.findIn K (.ref A_DiskError) "__getattr__" = some none)
    (xe_DiskError : PySem.W.subIn K (.ref A_DiskError) (.type "BaseException") = some true)
    (xt_DiskError : PySem.W.typeIn K (.ref A_DiskError) = some (.type "type"))
    (xk_DiskError : PySem.W.keepIn K (.ref A_DiskError) = true)
    (xd_DiskError : PySem.W.hasDictIn K A_DiskError = true)
    (xc_DiskError : PySem.W.findIn K (.ref A_DiskError) "__class__" = some (some (.builtin "object.__class__")))
    (xo_DiskError : PySem.W.mroIn K A_DiskError (.type "object") = some true)
    (xa_NoDisk : PySem.W.nsIn K mainGlobals "NoDisk" = some (some (.ref A_NoDisk)))
    (xl_NoDisk : K.lookup A_NoDisk = some (excClassObj nm_NoDisk q_NoDisk A_NoDisk N_NoDisk bs_NoDisk [.ref A_DiskError, .ref A_CleanedError, .type "ValueError", .type "Exception", .type "BaseException", .type "object"] true sn_NoDisk sub_NoDisk ab_NoDisk col_NoDisk dd_NoDisk m0_NoDisk m1_NoDisk m2_NoDisk m3_NoDisk m5_NoDisk "ValueError.__new__"))
    (xs_NoDisk : PySem.W.findIn K (.ref A_NoDisk) "__setattr__" = some (some (.builtin "object.__setattr__")))
    (xg_NoDisk : PySem.W.findIn K (.ref A_NoDisk) "__getattribute__" = some (some (.builtin "BaseException.__getattribute__")))
    (xh_NoDisk : PySem.W.findIn K (.ref A_NoDisk) "__getattr__" = some none)
    (xe_NoDisk : PySem.W.subIn K (.ref A_NoDisk) (.type "BaseException") = some true)
    (xt_NoDisk : PySem.W.typeIn K (.ref A_NoDisk) = some (.type "type"))
    (xk_NoDisk : PySem.W.keepIn K (.ref A_NoDisk) = true)
    (xd_NoDisk : PySem.W.hasDictIn K A_NoDisk = true)
    (xc_NoDisk : PySem.W.findIn K (.ref A_NoDisk) "__class__" = some (some (.builtin "object.__class__")))
    (xo_NoDisk : PySem.W.mroIn K A_NoDisk (.type "object") = some true)
    (xa_NoPlace : PySem.W.nsIn K mainGlobals "NoPlace" = some (some (.ref A_NoPlace)))
    (xl_NoPlace : K.lookup A_NoPlace = some (excClassObj nm_NoPlace q_NoPlace A_NoPlace N_NoPlace bs_NoPlace [.ref A_DiskError, .ref A_CleanedError, .type "ValueError", .type "Exception", .type "BaseException", .type "object"] true sn_NoPlace sub_NoPlace ab_NoPlace col_NoPlace dd_NoPlace m0_NoPlace m1_NoPlace m2_NoPlace m3_NoPlace m5_NoPlace "ValueError.__new__"))
    (xs_NoPlace : PySem.W.findIn K (.ref A_NoPlace) "__setattr__" = some (some (.builtin "object.__setattr__")))
    (xg_NoPlace : PySem.W.findIn K (.ref A_NoPlace) "__getattribute__" = some (some (.builtin "BaseException.__getattribute__")))
    (xh_NoPlace : PySem.W.findIn K (.ref A_NoPlace) "__getattr__" = some none)
    (xe_NoPlace : PySem.W.subIn K (.ref A_NoPlace) (.type "BaseException") = some true)
    (xt_NoPlace : PySem.W.typeIn K (.ref A_NoPlace) = some (.type "type"))
    (xk_NoPlace : PySem.W.keepIn K (.ref A_NoPlace) = true)
    (xd_NoPlace : PySem.W.hasDictIn K A_NoPlace = true)
    (xc_NoPlace : PySem.W.findIn K (.ref A_NoPlace) "__class__" = some (some (.builtin "object.__class__")))
    (xo_NoPlace : PySem.W.mroIn K A_NoPlace (.type "object") = some true)
    (xa_BadText : PySem.W.nsIn K mainGlobals "BadText" = some (some (.ref A_BadText)))
    (xl_BadText : K.lookup A_BadText = some (excClassObj nm_BadText q_BadText A_BadText N_BadText bs_BadText [.ref A_DiskError, .ref A_CleanedError, .type "ValueError", .type "Exception", .type "BaseException", .type "object"] true sn_BadText sub_BadText ab_BadText col_BadText dd_BadText m0_BadText m1_BadText m2_BadText m3_BadText m5_BadText "ValueError.__new__"))
    (xs_BadText : PySem.W.findIn K (.ref A_BadText) "__setattr__" = some (some (.builtin "object.__setattr__")))
    (xg_BadText : PySem.W.findIn K (.ref A_BadText) "__getattribute__" = some (some (.builtin "BaseException.__getattribute__")))
    (xh_BadText : PySem.W.findIn K (.ref A_BadText) "__getattr__" = some none)
    (xe_BadText : PySem.W.subIn K (.ref A_BadText) (.type "BaseException") = some true)
    (xt_BadText : PySem.W.typeIn K (.ref A_BadText) = some (.type "type"))
    (xk_BadText : PySem.W.keepIn K (.ref A_BadText) = true)
    (xd_BadText : PySem.W.hasDictIn K A_BadText = true)
    (xc_BadText : PySem.W.findIn K (.ref A_BadText) "__class__" = some (some (.builtin "object.__class__")))
    (xo_BadText : PySem.W.mroIn K A_BadText (.type "object") = some true)
    (xa_Full : PySem.W.nsIn K mainGlobals "Full" = some (some (.ref A_Full)))
    (xl_Full : K.lookup A_Full = some (excClassObj nm_Full q_Full A_Full N_Full bs_Full [.ref A_DiskError, .ref A_CleanedError, .type "ValueError", .type "Exception", .type "BaseException", .type "object"] true sn_Full sub_Full ab_Full col_Full dd_Full m0_Full m1_Full m2_Full m3_Full m5_Full "ValueError.__new__"))
    (xs_Full : PySem.W.findIn K (.ref A_Full) "__setattr__" = some (some (.builtin "object.__setattr__")))
    (xg_Full : PySem.W.findIn K (.ref A_Full) "__getattribute__" = some (some (.builtin "BaseException.__getattribute__")))
    (xh_Full : PySem.W.findIn K (.ref A_Full) "__getattr__" = some none)
    (xe_Full : PySem.W.subIn K (.ref A_Full) (.type "BaseException") = some true)
    (xt_Full : PySem.W.typeIn K (.ref A_Full) = some (.type "type"))
    (xk_Full : PySem.W.keepIn K (.ref A_Full) = true)
    (xd_Full : PySem.W.hasDictIn K A_Full = true)
    (xc_Full : PySem.W.findIn K (.ref A_Full) "__class__" = some (some (.builtin "object.__class__")))
    (xo_Full : PySem.W.mroIn K A_Full (.type "object") = some true)
    (xa_Stopped : PySem.W.nsIn K mainGlobals "Stopped" = some (some (.ref A_Stopped)))
    (xl_Stopped : K.lookup A_Stopped = some (excClassObj nm_Stopped q_Stopped A_Stopped N_Stopped bs_Stopped [.ref A_DiskError, .ref A_CleanedError, .type "ValueError", .type "Exception", .type "BaseException", .type "object"] true sn_Stopped sub_Stopped ab_Stopped col_Stopped dd_Stopped m0_Stopped m1_Stopped m2_Stopped m3_Stopped m5_Stopped "ValueError.__new__"))
    (xs_Stopped : PySem.W.findIn K (.ref A_Stopped) "__setattr__" = some (some (.builtin "object.__setattr__")))
    (xg_Stopped : PySem.W.findIn K (.ref A_Stopped) "__getattribute__" = some (some (.builtin "BaseException.__getattribute__")))
    (xh_Stopped : PySem.W.findIn K (.ref A_Stopped) "__getattr__" = some none)
    (xe_Stopped : PySem.W.subIn K (.ref A_Stopped) (.type "BaseException") = some true)
    (xt_Stopped : PySem.W.typeIn K (.ref A_Stopped) = some (.type "type"))
    (xk_Stopped : PySem.W.keepIn K (.ref A_Stopped) = true)
    (xd_Stopped : PySem.W.hasDictIn K A_Stopped = true)
    (xc_Stopped : PySem.W.findIn K (.ref A_Stopped) "__class__" = some (some (.builtin "object.__class__")))
    (xo_Stopped : PySem.W.mroIn K A_Stopped (.type "object") = some true)
    (xa_NoMount : PySem.W.nsIn K mainGlobals "NoMount" = some (some (.ref A_NoMount)))
    (xl_NoMount : K.lookup A_NoMount = some (excClassObj nm_NoMount q_NoMount A_NoMount N_NoMount bs_NoMount [.ref A_DiskError, .ref A_CleanedError, .type "ValueError", .type "Exception", .type "BaseException", .type "object"] true sn_NoMount sub_NoMount ab_NoMount col_NoMount dd_NoMount m0_NoMount m1_NoMount m2_NoMount m3_NoMount m5_NoMount "ValueError.__new__"))
    (xs_NoMount : PySem.W.findIn K (.ref A_NoMount) "__setattr__" = some (some (.builtin "object.__setattr__")))
    (xg_NoMount : PySem.W.findIn K (.ref A_NoMount) "__getattribute__" = some (some (.builtin "BaseException.__getattribute__")))
    (xh_NoMount : PySem.W.findIn K (.ref A_NoMount) "__getattr__" = some none)
    (xe_NoMount : PySem.W.subIn K (.ref A_NoMount) (.type "BaseException") = some true)
    (xt_NoMount : PySem.W.typeIn K (.ref A_NoMount) = some (.type "type"))
    (xk_NoMount : PySem.W.keepIn K (.ref A_NoMount) = true)
    (xd_NoMount : PySem.W.hasDictIn K A_NoMount = true)
    (xc_NoMount : PySem.W.findIn K (.ref A_NoMount) "__class__" = some (some (.builtin "object.__class__")))
    (xo_NoMount : PySem.W.mroIn K A_NoMount (.type "object") = some true)
    (xa_NoRecord : PySem.W.nsIn K mainGlobals "NoRecord" = some (some (.ref A_NoRecord)))
    (xl_NoRecord : K.lookup A_NoRecord = some (excClassObj nm_NoRecord q_NoRecord A_NoRecord N_NoRecord bs_NoRecord [.ref A_CleanedError, .type "ValueError", .type "Exception", .type "BaseException", .type "object"] true sn_NoRecord sub_NoRecord ab_NoRecord col_NoRecord dd_NoRecord m0_NoRecord m1_NoRecord m2_NoRecord m3_NoRecord m5_NoRecord "ValueError.__new__"))
    (xs_NoRecord : PySem.W.findIn K (.ref A_NoRecord) "__setattr__" = some (some (.builtin "object.__setattr__")))
    (xg_NoRecord : PySem.W.findIn K (.ref A_NoRecord) "__getattribute__" = some (some (.builtin "BaseException.__getattribute__")))
    (xh_NoRecord : PySem.W.findIn K (.ref A_NoRecord) "__getattr__" = some none)
    (xe_NoRecord : PySem.W.subIn K (.ref A_NoRecord) (.type "BaseException") = some true)
    (xt_NoRecord : PySem.W.typeIn K (.ref A_NoRecord) = some (.type "type"))
    (xk_NoRecord : PySem.W.keepIn K (.ref A_NoRecord) = true)
    (xd_NoRecord : PySem.W.hasDictIn K A_NoRecord = true)
    (xc_NoRecord : PySem.W.findIn K (.ref A_NoRecord) "__class__" = some (some (.builtin "object.__class__")))
    (xo_NoRecord : PySem.W.mroIn K A_NoRecord (.type "object") = some true)
    (xa_NoRoom : PySem.W.nsIn K mainGlobals "NoRoom" = some (some (.ref A_NoRoom)))
    (xl_NoRoom : K.lookup A_NoRoom = some (excClassObj nm_NoRoom q_NoRoom A_NoRoom N_NoRoom bs_NoRoom [.ref A_DiskError, .ref A_CleanedError, .type "ValueError", .type "Exception", .type "BaseException", .type "object"] true sn_NoRoom sub_NoRoom ab_NoRoom col_NoRoom dd_NoRoom m0_NoRoom m1_NoRoom m2_NoRoom m3_NoRoom m5_NoRoom "ValueError.__new__"))
    (xs_NoRoom : PySem.W.findIn K (.ref A_NoRoom) "__setattr__" = some (some (.builtin "object.__setattr__")))
    (xg_NoRoom : PySem.W.findIn K (.ref A_NoRoom) "__getattribute__" = some (some (.builtin "BaseException.__getattribute__")))
    (xh_NoRoom : PySem.W.findIn K (.ref A_NoRoom) "__getattr__" = some none)
    (xe_NoRoom : PySem.W.subIn K (.ref A_NoRoom) (.type "BaseException") = some true)
    (xt_NoRoom : PySem.W.typeIn K (.ref A_NoRoom) = some (.type "type"))
    (xk_NoRoom : PySem.W.keepIn K (.ref A_NoRoom) = true)
    (xd_NoRoom : PySem.W.hasDictIn K A_NoRoom = true)
    (xc_NoRoom : PySem.W.findIn K (.ref A_NoRoom) "__class__" = some (some (.builtin "object.__class__")))
    (xo_NoRoom : PySem.W.mroIn K A_NoRoom (.type "object") = some true)
    (xa_NotBlank : PySem.W.nsIn K mainGlobals "NotBlank" = some (some (.ref A_NotBlank)))
    (xl_NotBlank : K.lookup A_NotBlank = some (excClassObj nm_NotBlank q_NotBlank A_NotBlank N_NotBlank bs_NotBlank [.ref A_DiskError, .ref A_CleanedError, .type "ValueError", .type "Exception", .type "BaseException", .type "object"] true sn_NotBlank sub_NotBlank ab_NotBlank col_NotBlank dd_NotBlank m0_NotBlank m1_NotBlank m2_NotBlank m3_NotBlank m5_NotBlank "ValueError.__new__"))
    (xs_NotBlank : PySem.W.findIn K (.ref A_NotBlank) "__setattr__" = some (some (.builtin "object.__setattr__")))
    (xg_NotBlank : PySem.W.findIn K (.ref A_NotBlank) "__getattribute__" = some (some (.builtin "BaseException.__getattribute__")))
    (xh_NotBlank : PySem.W.findIn K (.ref A_NotBlank) "__getattr__" = some none)
    (xe_NotBlank : PySem.W.subIn K (.ref A_NotBlank) (.type "BaseException") = some true)
    (xt_NotBlank : PySem.W.typeIn K (.ref A_NotBlank) = some (.type "type"))
    (xk_NotBlank : PySem.W.keepIn K (.ref A_NotBlank) = true)
    (xd_NotBlank : PySem.W.hasDictIn K A_NotBlank = true)
    (xc_NotBlank : PySem.W.findIn K (.ref A_NotBlank) "__class__" = some (some (.builtin "object.__class__")))
    (xo_NotBlank : PySem.W.mroIn K A_NotBlank (.type "object") = some true)
    (xa_Unreadable : PySem.W.nsIn K mainGlobals "Unreadable" = some (some (.ref A_Unreadable)))
    (xl_Unreadable : K.lookup A_Unreadable = some (excClassObj nm_Unreadable q_Unreadable A_Unreadable N_Unreadable bs_Unreadable [.ref A_DiskError, .ref A_CleanedError, .type "ValueError", .type "Exception", .type "BaseException", .type "object"] true sn_Unreadable sub_Unreadable ab_Unreadable col_Unreadable dd_Unreadable m0_Unreadable m1_Unreadable m2_Unreadable m3_Unreadable m5_Unreadable "ValueError.__new__"))
    (xs_Unreadable : PySem.W.findIn K (.ref A_Unreadable) "__setattr__" = some (some (.builtin "object.__setattr__")))
    (xg_Unreadable : PySem.W.findIn K (.ref A_Unreadable) "__getattribute__" = some (some (.builtin "BaseException.__getattribute__")))
    (xh_Unreadable : PySem.W.findIn K (.ref A_Unreadable) "__getattr__" = some none)
    (xe_Unreadable : PySem.W.subIn K (.ref A_Unreadable) (.type "BaseException") = some true)
    (xt_Unreadable : PySem.W.typeIn K (.ref A_Unreadable) = some (.type "type"))
    (xk_Unreadable : PySem.W.keepIn K (.ref A_Unreadable) = true)
    (xd_Unreadable : PySem.W.hasDictIn K A_Unreadable = true)
    (xc_Unreadable : PySem.W.findIn K (.ref A_Unreadable) "__class__" = some (some (.builtin "object.__class__")))
    (xo_Unreadable : PySem.W.mroIn K A_Unreadable (.type "object") = some true)
    (xa_TreeError : PySem.W.nsIn K mainGlobals "TreeError" = some (some (.ref A_TreeError)))
    (xl_TreeError : K.lookup A_TreeError = some (excClassObj nm_TreeError q_TreeError A_TreeError N_TreeError bs_TreeError [.ref A_CleanedError, .type "ValueError", .type "Exception", .type "BaseException", .type "object"] true sn_TreeError sub_TreeError ab_TreeError col_TreeError dd_TreeError m0_TreeError m1_TreeError m2_TreeError m3_TreeError m5_TreeError "ValueError.__new__"))
    (xs_TreeError : PySem.W.findIn K (.ref A_TreeError) "__setattr__" = some (some (.builtin "object.__setattr__")))
    (xg_TreeError : PySem.W.findIn K (.ref A_TreeError) "__getattribute__" = some (some (.builtin "BaseException.__getattribute__")))
    (xh_TreeError : PySem.W.findIn K (.ref A_TreeError) "__getattr__" = some none)
    (xe_TreeError : PySem.W.subIn K (.ref A_TreeError) (.type "BaseException") = some true)
    (xt_TreeError : PySem.W.typeIn K (.ref A_TreeError) = some (.type "type"))
    (xk_TreeError : PySem.W.keepIn K (.ref A_TreeError) = true)
    (xd_TreeError : PySem.W.hasDictIn K A_TreeError = true)
    (xc_TreeError : PySem.W.findIn K (.ref A_TreeError) "__class__" = some (some (.builtin "object.__class__")))
    (xo_TreeError : PySem.W.mroIn K A_TreeError (.type "object") = some true)
    (xa_NoTree : PySem.W.nsIn K mainGlobals "NoTree" = some (some (.ref A_NoTree)))
    (xl_NoTree : K.lookup A_NoTree = some (excClassObj nm_NoTree q_NoTree A_NoTree N_NoTree bs_NoTree [.ref A_CleanedError, .type "ValueError", .type "Exception", .type "BaseException", .type "object"] true sn_NoTree sub_NoTree ab_NoTree col_NoTree dd_NoTree m0_NoTree m1_NoTree m2_NoTree m3_NoTree m5_NoTree "ValueError.__new__"))
    (xs_NoTree : PySem.W.findIn K (.ref A_NoTree) "__setattr__" = some (some (.builtin "object.__setattr__")))
    (xg_NoTree : PySem.W.findIn K (.ref A_NoTree) "__getattribute__" = some (some (.builtin "BaseException.__getattribute__")))
    (xh_NoTree : PySem.W.findIn K (.ref A_NoTree) "__getattr__" = some none)
    (xe_NoTree : PySem.W.subIn K (.ref A_NoTree) (.type "BaseException") = some true)
    (xt_NoTree : PySem.W.typeIn K (.ref A_NoTree) = some (.type "type"))
    (xk_NoTree : PySem.W.keepIn K (.ref A_NoTree) = true)
    (xd_NoTree : PySem.W.hasDictIn K A_NoTree = true)
    (xc_NoTree : PySem.W.findIn K (.ref A_NoTree) "__class__" = some (some (.builtin "object.__class__")))
    (xo_NoTree : PySem.W.mroIn K A_NoTree (.type "object") = some true)
    (xa_NoRow : PySem.W.nsIn K mainGlobals "NoRow" = some (some (.ref A_NoRow)))
    (xl_NoRow : K.lookup A_NoRow = some (excClassObj nm_NoRow q_NoRow A_NoRow N_NoRow bs_NoRow [.ref A_CleanedError, .type "ValueError", .type "Exception", .type "BaseException", .type "object"] true sn_NoRow sub_NoRow ab_NoRow col_NoRow dd_NoRow m0_NoRow m1_NoRow m2_NoRow m3_NoRow m5_NoRow "ValueError.__new__"))
    (xs_NoRow : PySem.W.findIn K (.ref A_NoRow) "__setattr__" = some (some (.builtin "object.__setattr__")))
    (xg_NoRow : PySem.W.findIn K (.ref A_NoRow) "__getattribute__" = some (some (.builtin "BaseException.__getattribute__")))
    (xh_NoRow : PySem.W.findIn K (.ref A_NoRow) "__getattr__" = some none)
    (xe_NoRow : PySem.W.subIn K (.ref A_NoRow) (.type "BaseException") = some true)
    (xt_NoRow : PySem.W.typeIn K (.ref A_NoRow) = some (.type "type"))
    (xk_NoRow : PySem.W.keepIn K (.ref A_NoRow) = true)
    (xd_NoRow : PySem.W.hasDictIn K A_NoRow = true)
    (xc_NoRow : PySem.W.findIn K (.ref A_NoRow) "__class__" = some (some (.builtin "object.__class__")))
    (xo_NoRow : PySem.W.mroIn K A_NoRow (.type "object") = some true)
    (xa_NoHouse : PySem.W.nsIn K mainGlobals "NoHouse" = some (some (.ref A_NoHouse)))
    (xl_NoHouse : K.lookup A_NoHouse = some (excClassObj nm_NoHouse q_NoHouse A_NoHouse N_NoHouse bs_NoHouse [.ref A_CleanedError, .type "ValueError", .type "Exception", .type "BaseException", .type "object"] true sn_NoHouse sub_NoHouse ab_NoHouse col_NoHouse dd_NoHouse m0_NoHouse m1_NoHouse m2_NoHouse m3_NoHouse m5_NoHouse "ValueError.__new__"))
    (xs_NoHouse : PySem.W.findIn K (.ref A_NoHouse) "__setattr__" = some (some (.builtin "object.__setattr__")))
    (xg_NoHouse : PySem.W.findIn K (.ref A_NoHouse) "__getattribute__" = some (some (.builtin "BaseException.__getattribute__")))
    (xh_NoHouse : PySem.W.findIn K (.ref A_NoHouse) "__getattr__" = some none)
    (xe_NoHouse : PySem.W.subIn K (.ref A_NoHouse) (.type "BaseException") = some true)
    (xt_NoHouse : PySem.W.typeIn K (.ref A_NoHouse) = some (.type "type"))
    (xk_NoHouse : PySem.W.keepIn K (.ref A_NoHouse) = true)
    (xd_NoHouse : PySem.W.hasDictIn K A_NoHouse = true)
    (xc_NoHouse : PySem.W.findIn K (.ref A_NoHouse) "__class__" = some (some (.builtin "object.__class__")))
    (xo_NoHouse : PySem.W.mroIn K A_NoHouse (.type "object") = some true)
    (xa_Halted : PySem.W.nsIn K mainGlobals "Halted" = some (some (.ref A_Halted)))
    (xl_Halted : K.lookup A_Halted = some (excClassObj nm_Halted q_Halted A_Halted N_Halted bs_Halted [.ref A_CleanedError, .type "ValueError", .type "Exception", .type "BaseException", .type "object"] true sn_Halted sub_Halted ab_Halted col_Halted dd_Halted m0_Halted m1_Halted m2_Halted m3_Halted m5_Halted "ValueError.__new__"))
    (xs_Halted : PySem.W.findIn K (.ref A_Halted) "__setattr__" = some (some (.builtin "object.__setattr__")))
    (xg_Halted : PySem.W.findIn K (.ref A_Halted) "__getattribute__" = some (some (.builtin "BaseException.__getattribute__")))
    (xh_Halted : PySem.W.findIn K (.ref A_Halted) "__getattr__" = some none)
    (xe_Halted : PySem.W.subIn K (.ref A_Halted) (.type "BaseException") = some true)
    (xt_Halted : PySem.W.typeIn K (.ref A_Halted) = some (.type "type"))
    (xk_Halted : PySem.W.keepIn K (.ref A_Halted) = true)
    (xd_Halted : PySem.W.hasDictIn K A_Halted = true)
    (xc_Halted : PySem.W.findIn K (.ref A_Halted) "__class__" = some (some (.builtin "object.__class__")))
    (xo_Halted : PySem.W.mroIn K A_Halted (.type "object") = some true)
    (hXN_NoDisk : PySem.W.excIn K A_NoDisk [.type "ValueError", .type "Exception", .type "BaseException", .type "object"] "ValueError.__new__" = true)
    (hXN_NoPlace : PySem.W.excIn K A_NoPlace [.type "ValueError", .type "Exception", .type "BaseException", .type "object"] "ValueError.__new__" = true)
    (hXN_BadText : PySem.W.excIn K A_BadText [.type "ValueError", .type "Exception", .type "BaseException", .type "object"] "ValueError.__new__" = true)
    (hXN_Full : PySem.W.excIn K A_Full [.type "ValueError", .type "Exception", .type "BaseException", .type "object"] "ValueError.__new__" = true)
    (hXN_Stopped : PySem.W.excIn K A_Stopped [.type "ValueError", .type "Exception", .type "BaseException", .type "object"] "ValueError.__new__" = true)
    (hXK_BadText_BadText : PySem.W.subIn K (.ref A_BadText) (.ref A_BadText) = some true)
    (hXS_BadText : PySem.W.subIn K (.ref A_BadText) (.ref A_BadText) = some true)
    (hXK_BadText_Full : PySem.W.subIn K (.ref A_BadText) (.ref A_Full) = some false)
    (hXK_BadText_NoDisk : PySem.W.subIn K (.ref A_BadText) (.ref A_NoDisk) = some false)
    (hXK_BadText_NoPlace : PySem.W.subIn K (.ref A_BadText) (.ref A_NoPlace) = some false)
    (hXK_BadText_Stopped : PySem.W.subIn K (.ref A_BadText) (.ref A_Stopped) = some false)
    (hXK_BadText_DiskError : PySem.W.subIn K (.ref A_BadText) (.ref A_DiskError) = some true)
    (hXK_BadText_ValueError : PySem.W.subIn K (.ref A_BadText) (.type "ValueError") = some true)
    (hXK_BadText_NoMount : PySem.W.subIn K (.ref A_BadText) (.ref A_NoMount) = some false)
    (hXK_BadText_NoRecord : PySem.W.subIn K (.ref A_BadText) (.ref A_NoRecord) = some false)
    (hXK_BadText_NoRoom : PySem.W.subIn K (.ref A_BadText) (.ref A_NoRoom) = some false)
    (hXK_BadText_NotBlank : PySem.W.subIn K (.ref A_BadText) (.ref A_NotBlank) = some false)
    (hXK_BadText_Unreadable : PySem.W.subIn K (.ref A_BadText) (.ref A_Unreadable) = some false)
    (hXK_BadText_TreeError : PySem.W.subIn K (.ref A_BadText) (.ref A_TreeError) = some false)
    (hXK_BadText_NoTree : PySem.W.subIn K (.ref A_BadText) (.ref A_NoTree) = some false)
    (hXK_BadText_NoRow : PySem.W.subIn K (.ref A_BadText) (.ref A_NoRow) = some false)
    (hXK_BadText_NoHouse : PySem.W.subIn K (.ref A_BadText) (.ref A_NoHouse) = some false)
    (hXK_BadText_Halted : PySem.W.subIn K (.ref A_BadText) (.ref A_Halted) = some false)
    (hXK_Full_BadText : PySem.W.subIn K (.ref A_Full) (.ref A_BadText) = some false)
    (hXS_Full : PySem.W.subIn K (.ref A_Full) (.ref A_Full) = some true)
    (hXK_Full_Full : PySem.W.subIn K (.ref A_Full) (.ref A_Full) = some true)
    (hXK_Full_NoDisk : PySem.W.subIn K (.ref A_Full) (.ref A_NoDisk) = some false)
    (hXK_Full_NoPlace : PySem.W.subIn K (.ref A_Full) (.ref A_NoPlace) = some false)
    (hXK_Full_Stopped : PySem.W.subIn K (.ref A_Full) (.ref A_Stopped) = some false)
    (hXK_Full_DiskError : PySem.W.subIn K (.ref A_Full) (.ref A_DiskError) = some true)
    (hXK_Full_ValueError : PySem.W.subIn K (.ref A_Full) (.type "ValueError") = some true)
    (hXK_Full_NoMount : PySem.W.subIn K (.ref A_Full) (.ref A_NoMount) = some false)
    (hXK_Full_NoRecord : PySem.W.subIn K (.ref A_Full) (.ref A_NoRecord) = some false)
    (hXK_Full_NoRoom : PySem.W.subIn K (.ref A_Full) (.ref A_NoRoom) = some false)
    (hXK_Full_NotBlank : PySem.W.subIn K (.ref A_Full) (.ref A_NotBlank) = some false)
    (hXK_Full_Unreadable : PySem.W.subIn K (.ref A_Full) (.ref A_Unreadable) = some false)
    (hXK_Full_TreeError : PySem.W.subIn K (.ref A_Full) (.ref A_TreeError) = some false)
    (hXK_Full_NoTree : PySem.W.subIn K (.ref A_Full) (.ref A_NoTree) = some false)
    (hXK_Full_NoRow : PySem.W.subIn K (.ref A_Full) (.ref A_NoRow) = some false)
    (hXK_Full_NoHouse : PySem.W.subIn K (.ref A_Full) (.ref A_NoHouse) = some false)
    (hXK_Full_Halted : PySem.W.subIn K (.ref A_Full) (.ref A_Halted) = some false)
    (hXK_NoDisk_BadText : PySem.W.subIn K (.ref A_NoDisk) (.ref A_BadText) = some false)
    (hXS_NoDisk : PySem.W.subIn K (.ref A_NoDisk) (.ref A_NoDisk) = some true)
    (hXK_NoDisk_Full : PySem.W.subIn K (.ref A_NoDisk) (.ref A_Full) = some false)
    (hXK_NoDisk_NoDisk : PySem.W.subIn K (.ref A_NoDisk) (.ref A_NoDisk) = some true)
    (hXK_NoDisk_NoPlace : PySem.W.subIn K (.ref A_NoDisk) (.ref A_NoPlace) = some false)
    (hXK_NoDisk_Stopped : PySem.W.subIn K (.ref A_NoDisk) (.ref A_Stopped) = some false)
    (hXK_NoDisk_DiskError : PySem.W.subIn K (.ref A_NoDisk) (.ref A_DiskError) = some true)
    (hXK_NoDisk_ValueError : PySem.W.subIn K (.ref A_NoDisk) (.type "ValueError") = some true)
    (hXK_NoDisk_NoMount : PySem.W.subIn K (.ref A_NoDisk) (.ref A_NoMount) = some false)
    (hXK_NoDisk_NoRecord : PySem.W.subIn K (.ref A_NoDisk) (.ref A_NoRecord) = some false)
    (hXK_NoDisk_NoRoom : PySem.W.subIn K (.ref A_NoDisk) (.ref A_NoRoom) = some false)
    (hXK_NoDisk_NotBlank : PySem.W.subIn K (.ref A_NoDisk) (.ref A_NotBlank) = some false)
    (hXK_NoDisk_Unreadable : PySem.W.subIn K (.ref A_NoDisk) (.ref A_Unreadable) = some false)
    (hXK_NoDisk_TreeError : PySem.W.subIn K (.ref A_NoDisk) (.ref A_TreeError) = some false)
    (hXK_NoDisk_NoTree : PySem.W.subIn K (.ref A_NoDisk) (.ref A_NoTree) = some false)
    (hXK_NoDisk_NoRow : PySem.W.subIn K (.ref A_NoDisk) (.ref A_NoRow) = some false)
    (hXK_NoDisk_NoHouse : PySem.W.subIn K (.ref A_NoDisk) (.ref A_NoHouse) = some false)
    (hXK_NoDisk_Halted : PySem.W.subIn K (.ref A_NoDisk) (.ref A_Halted) = some false)
    (hXK_NoPlace_BadText : PySem.W.subIn K (.ref A_NoPlace) (.ref A_BadText) = some false)
    (hXS_NoPlace : PySem.W.subIn K (.ref A_NoPlace) (.ref A_NoPlace) = some true)
    (hXK_NoPlace_Full : PySem.W.subIn K (.ref A_NoPlace) (.ref A_Full) = some false)
    (hXK_NoPlace_NoDisk : PySem.W.subIn K (.ref A_NoPlace) (.ref A_NoDisk) = some false)
    (hXK_NoPlace_NoPlace : PySem.W.subIn K (.ref A_NoPlace) (.ref A_NoPlace) = some true)
    (hXK_NoPlace_Stopped : PySem.W.subIn K (.ref A_NoPlace) (.ref A_Stopped) = some false)
    (hXK_NoPlace_DiskError : PySem.W.subIn K (.ref A_NoPlace) (.ref A_DiskError) = some true)
    (hXK_NoPlace_ValueError : PySem.W.subIn K (.ref A_NoPlace) (.type "ValueError") = some true)
    (hXK_NoPlace_NoMount : PySem.W.subIn K (.ref A_NoPlace) (.ref A_NoMount) = some false)
    (hXK_NoPlace_NoRecord : PySem.W.subIn K (.ref A_NoPlace) (.ref A_NoRecord) = some false)
    (hXK_NoPlace_NoRoom : PySem.W.subIn K (.ref A_NoPlace) (.ref A_NoRoom) = some false)
    (hXK_NoPlace_NotBlank : PySem.W.subIn K (.ref A_NoPlace) (.ref A_NotBlank) = some false)
    (hXK_NoPlace_Unreadable : PySem.W.subIn K (.ref A_NoPlace) (.ref A_Unreadable) = some false)
    (hXK_NoPlace_TreeError : PySem.W.subIn K (.ref A_NoPlace) (.ref A_TreeError) = some false)
    (hXK_NoPlace_NoTree : PySem.W.subIn K (.ref A_NoPlace) (.ref A_NoTree) = some false)
    (hXK_NoPlace_NoRow : PySem.W.subIn K (.ref A_NoPlace) (.ref A_NoRow) = some false)
    (hXK_NoPlace_NoHouse : PySem.W.subIn K (.ref A_NoPlace) (.ref A_NoHouse) = some false)
    (hXK_NoPlace_Halted : PySem.W.subIn K (.ref A_NoPlace) (.ref A_Halted) = some false)
    (hXK_Stopped_BadText : PySem.W.subIn K (.ref A_Stopped) (.ref A_BadText) = some false)
    (hXS_Stopped : PySem.W.subIn K (.ref A_Stopped) (.ref A_Stopped) = some true)
    (hXK_Stopped_Full : PySem.W.subIn K (.ref A_Stopped) (.ref A_Full) = some false)
    (hXK_Stopped_NoDisk : PySem.W.subIn K (.ref A_Stopped) (.ref A_NoDisk) = some false)
    (hXK_Stopped_NoPlace : PySem.W.subIn K (.ref A_Stopped) (.ref A_NoPlace) = some false)
    (hXK_Stopped_Stopped : PySem.W.subIn K (.ref A_Stopped) (.ref A_Stopped) = some true)
    (hXK_Stopped_DiskError : PySem.W.subIn K (.ref A_Stopped) (.ref A_DiskError) = some true)
    (hXK_Stopped_ValueError : PySem.W.subIn K (.ref A_Stopped) (.type "ValueError") = some true)
    (hXK_Stopped_NoMount : PySem.W.subIn K (.ref A_Stopped) (.ref A_NoMount) = some false)
    (hXK_Stopped_NoRecord : PySem.W.subIn K (.ref A_Stopped) (.ref A_NoRecord) = some false)
    (hXK_Stopped_NoRoom : PySem.W.subIn K (.ref A_Stopped) (.ref A_NoRoom) = some false)
    (hXK_Stopped_NotBlank : PySem.W.subIn K (.ref A_Stopped) (.ref A_NotBlank) = some false)
    (hXK_Stopped_Unreadable : PySem.W.subIn K (.ref A_Stopped) (.ref A_Unreadable) = some false)
    (hXK_Stopped_TreeError : PySem.W.subIn K (.ref A_Stopped) (.ref A_TreeError) = some false)
    (hXK_Stopped_NoTree : PySem.W.subIn K (.ref A_Stopped) (.ref A_NoTree) = some false)
    (hXK_Stopped_NoRow : PySem.W.subIn K (.ref A_Stopped) (.ref A_NoRow) = some false)
    (hXK_Stopped_NoHouse : PySem.W.subIn K (.ref A_Stopped) (.ref A_NoHouse) = some false)
    (hXK_Stopped_Halted : PySem.W.subIn K (.ref A_Stopped) (.ref A_Halted) = some false)
    (hXM_BadText_CleanedError : PySem.W.subIn K (.ref A_BadText) (.ref A_CleanedError) = some true)
    (hXM_Full_CleanedError : PySem.W.subIn K (.ref A_Full) (.ref A_CleanedError) = some true)
    (hXM_NoDisk_CleanedError : PySem.W.subIn K (.ref A_NoDisk) (.ref A_CleanedError) = some true)
    (hXM_NoPlace_CleanedError : PySem.W.subIn K (.ref A_NoPlace) (.ref A_CleanedError) = some true)
    (hXM_Stopped_CleanedError : PySem.W.subIn K (.ref A_Stopped) (.ref A_CleanedError) = some true)
    (ig_ : PySem.W.specialIn K (.builtin "object.__class__") "__get__" = some (some (.builtin "getset_descriptor.__get__")))
    (it_ : PySem.W.takesIn K (.builtin "object.__class__") = some true)
    (ac_Disk : PySem.W.nsIn K mainGlobals "Disk" = some (some (.ref A_Disk)))
    (pg_Disk : PySem.W.plainGet K A_Disk Str.empty = true)
    (hd_Disk : PySem.W.hasDictIn K A_Disk = true)
    (po_Disk : PySem.W.plainOver K A_Disk = true)
    (sa_Disk : PySem.W.findIn K (.ref A_Disk) "__setattr__" = some (some (.builtin "object.__setattr__")))
    (mk_Disk : PySem.W.makesIn K A_Disk = true)
    (kc_Disk : PySem.W.keepIn K (.ref A_Disk) = true)
    (ic_Disk : PySem.W.findIn K (.ref A_Disk) "__class__" = some (some (.builtin "object.__class__")))
    (im_Disk : PySem.W.mroIn K A_Disk (.type "object") = some true)
    (n_Disk_written_rows : PySem.W.findIn K (.ref A_Disk) "written_rows" = some none)
    (n_Disk_erasings : PySem.W.findIn K (.ref A_Disk) "erasings" = some none)
    (n_Disk_many_places : PySem.W.findIn K (.ref A_Disk) "many_places" = some none)
    (n_Disk_count_of_writes : PySem.W.findIn K (.ref A_Disk) "count_of_writes" = some none)
    (n_Disk_writes_left : PySem.W.findIn K (.ref A_Disk) "writes_left" = some none)
    (n_Disk_signs_kept : PySem.W.findIn K (.ref A_Disk) "signs_kept" = some none)
    (n_Disk_is_over : PySem.W.findIn K (.ref A_Disk) "is_over" = some none)
    (a_is_within : PySem.W.nsIn K mainGlobals "is_within" = some (some (.ref f_is_within)))
    (l_is_within : K.lookup f_is_within = some ⟨oc_is_within, od_is_within, .func (PySem.W.fnOf "is_within" "is_within" (defArgs s_is_within) (defBody s_is_within) (defScope s_is_within) .none kV_is_within dc_is_within pm_is_within an_is_within cd_is_within ct_is_within), sl_is_within⟩)
    (c_is_within : PySem.W.codeIn K cd_is_within "is_within" = true)
    (k_is_within : PySem.W.keepIn K (.ref f_is_within) = true)
    (a_Disk_init : PySem.W.findIn K (.ref A_Disk) "__init__" = some (some (.ref f_Disk_init)))
    (i_Disk_init : PySem.W.isFn K (.ref f_Disk_init) = true)
    (l_Disk_init : K.lookup f_Disk_init = some ⟨oc_Disk_init, od_Disk_init, .func (PySem.W.fnOf "__init__" "Disk.__init__" (defArgs s_Disk_init) (defBody s_Disk_init) (defScope s_Disk_init) (.ref D_Disk_init) kV_Disk_init dc_Disk_init pm_Disk_init an_Disk_init cd_Disk_init ct_Disk_init), sl_Disk_init⟩)
    (lD_Disk_init : K.lookup D_Disk_init = some ⟨.type "tuple", dd_Disk_init, .seq #[Value.int 6 tD_Disk_init_0, Value.int 12 tD_Disk_init_1] nn_Disk_init, ss_Disk_init⟩)
    (c_Disk_init : PySem.W.codeIn K cd_Disk_init "Disk.__init__" = true)
    (k_Disk_init : PySem.W.keepIn K (.ref f_Disk_init) = true)
    (a_Disk_segments : PySem.W.findIn K (.ref A_Disk) "segments" = some (some (.ref f_Disk_segments)))
    (i_Disk_segments : PySem.W.isFn K (.ref f_Disk_segments) = true)
    (l_Disk_segments : K.lookup f_Disk_segments = some ⟨oc_Disk_segments, od_Disk_segments, .func (PySem.W.fnOf "segments" "Disk.segments" (defArgs s_Disk_segments) (defBody s_Disk_segments) (defScope s_Disk_segments) .none kV_Disk_segments dc_Disk_segments pm_Disk_segments an_Disk_segments cd_Disk_segments ct_Disk_segments), sl_Disk_segments⟩)
    (c_Disk_segments : PySem.W.codeIn K cd_Disk_segments "Disk.segments" = true)
    (k_Disk_segments : PySem.W.keepIn K (.ref f_Disk_segments) = true)
    (a_Disk_places : PySem.W.findIn K (.ref A_Disk) "places" = some (some (.ref f_Disk_places)))
    (i_Disk_places : PySem.W.isFn K (.ref f_Disk_places) = true)
    (l_Disk_places : K.lookup f_Disk_places = some ⟨oc_Disk_places, od_Disk_places, .func (PySem.W.fnOf "places" "Disk.places" (defArgs s_Disk_places) (defBody s_Disk_places) (defScope s_Disk_places) .none kV_Disk_places dc_Disk_places pm_Disk_places an_Disk_places cd_Disk_places ct_Disk_places), sl_Disk_places⟩)
    (c_Disk_places : PySem.W.codeIn K cd_Disk_places "Disk.places" = true)
    (k_Disk_places : PySem.W.keepIn K (.ref f_Disk_places) = true)
    (a_Disk_row_of : PySem.W.findIn K (.ref A_Disk) "row_of" = some (some (.ref f_Disk_row_of)))
    (i_Disk_row_of : PySem.W.isFn K (.ref f_Disk_row_of) = true)
    (l_Disk_row_of : K.lookup f_Disk_row_of = some ⟨oc_Disk_row_of, od_Disk_row_of, .func (PySem.W.fnOf "row_of" "Disk.row_of" (defArgs s_Disk_row_of) (defBody s_Disk_row_of) (defScope s_Disk_row_of) .none kV_Disk_row_of dc_Disk_row_of pm_Disk_row_of an_Disk_row_of cd_Disk_row_of ct_Disk_row_of), sl_Disk_row_of⟩)
    (c_Disk_row_of : PySem.W.codeIn K cd_Disk_row_of "Disk.row_of" = true)
    (k_Disk_row_of : PySem.W.keepIn K (.ref f_Disk_row_of) = true)
    (a_Disk_next_place : PySem.W.findIn K (.ref A_Disk) "next_place" = some (some (.ref f_Disk_next_place)))
    (i_Disk_next_place : PySem.W.isFn K (.ref f_Disk_next_place) = true)
    (l_Disk_next_place : K.lookup f_Disk_next_place = some ⟨oc_Disk_next_place, od_Disk_next_place, .func (PySem.W.fnOf "next_place" "Disk.next_place" (defArgs s_Disk_next_place) (defBody s_Disk_next_place) (defScope s_Disk_next_place) .none kV_Disk_next_place dc_Disk_next_place pm_Disk_next_place an_Disk_next_place cd_Disk_next_place ct_Disk_next_place), sl_Disk_next_place⟩)
    (c_Disk_next_place : PySem.W.codeIn K cd_Disk_next_place "Disk.next_place" = true)
    (k_Disk_next_place : PySem.W.keepIn K (.ref f_Disk_next_place) = true)
    (a_Disk_told : PySem.W.findIn K (.ref A_Disk) "told" = some (some (.ref f_Disk_told)))
    (i_Disk_told : PySem.W.isFn K (.ref f_Disk_told) = true)
    (l_Disk_told : K.lookup f_Disk_told = some ⟨oc_Disk_told, od_Disk_told, .func (PySem.W.fnOf "told" "Disk.told" (defArgs s_Disk_told) (defBody s_Disk_told) (defScope s_Disk_told) .none kV_Disk_told dc_Disk_told pm_Disk_told an_Disk_told cd_Disk_told ct_Disk_told), sl_Disk_told⟩)
    (c_Disk_told : PySem.W.codeIn K cd_Disk_told "Disk.told" = true)
    (k_Disk_told : PySem.W.keepIn K (.ref f_Disk_told) = true)
    (a_Disk_wear : PySem.W.findIn K (.ref A_Disk) "wear" = some (some (.ref f_Disk_wear)))
    (i_Disk_wear : PySem.W.isFn K (.ref f_Disk_wear) = true)
    (l_Disk_wear : K.lookup f_Disk_wear = some ⟨oc_Disk_wear, od_Disk_wear, .func (PySem.W.fnOf "wear" "Disk.wear" (defArgs s_Disk_wear) (defBody s_Disk_wear) (defScope s_Disk_wear) .none kV_Disk_wear dc_Disk_wear pm_Disk_wear an_Disk_wear cd_Disk_wear ct_Disk_wear), sl_Disk_wear⟩)
    (c_Disk_wear : PySem.W.codeIn K cd_Disk_wear "Disk.wear" = true)
    (k_Disk_wear : PySem.W.keepIn K (.ref f_Disk_wear) = true)
    (a_Disk_writes : PySem.W.findIn K (.ref A_Disk) "writes" = some (some (.ref f_Disk_writes)))
    (i_Disk_writes : PySem.W.isFn K (.ref f_Disk_writes) = true)
    (l_Disk_writes : K.lookup f_Disk_writes = some ⟨oc_Disk_writes, od_Disk_writes, .func (PySem.W.fnOf "writes" "Disk.writes" (defArgs s_Disk_writes) (defBody s_Disk_writes) (defScope s_Disk_writes) .none kV_Disk_writes dc_Disk_writes pm_Disk_writes an_Disk_writes cd_Disk_writes ct_Disk_writes), sl_Disk_writes⟩)
    (c_Disk_writes : PySem.W.codeIn K cd_Disk_writes "Disk.writes" = true)
    (k_Disk_writes : PySem.W.keepIn K (.ref f_Disk_writes) = true)
    (a_Disk_has_stopped : PySem.W.findIn K (.ref A_Disk) "has_stopped" = some (some (.ref f_Disk_has_stopped)))
    (i_Disk_has_stopped : PySem.W.isFn K (.ref f_Disk_has_stopped) = true)
    (l_Disk_has_stopped : K.lookup f_Disk_has_stopped = some ⟨oc_Disk_has_stopped, od_Disk_has_stopped, .func (PySem.W.fnOf "has_stopped" "Disk.has_stopped" (defArgs s_Disk_has_stopped) (defBody s_Disk_has_stopped) (defScope s_Disk_has_stopped) .none kV_Disk_has_stopped dc_Disk_has_stopped pm_Disk_has_stopped an_Disk_has_stopped cd_Disk_has_stopped ct_Disk_has_stopped), sl_Disk_has_stopped⟩)
    (c_Disk_has_stopped : PySem.W.codeIn K cd_Disk_has_stopped "Disk.has_stopped" = true)
    (k_Disk_has_stopped : PySem.W.keepIn K (.ref f_Disk_has_stopped) = true)
    (a_Disk_is_shut : PySem.W.findIn K (.ref A_Disk) "is_shut" = some (some (.ref f_Disk_is_shut)))
    (i_Disk_is_shut : PySem.W.isFn K (.ref f_Disk_is_shut) = true)
    (l_Disk_is_shut : K.lookup f_Disk_is_shut = some ⟨oc_Disk_is_shut, od_Disk_is_shut, .func (PySem.W.fnOf "is_shut" "Disk.is_shut" (defArgs s_Disk_is_shut) (defBody s_Disk_is_shut) (defScope s_Disk_is_shut) .none kV_Disk_is_shut dc_Disk_is_shut pm_Disk_is_shut an_Disk_is_shut cd_Disk_is_shut ct_Disk_is_shut), sl_Disk_is_shut⟩)
    (c_Disk_is_shut : PySem.W.codeIn K cd_Disk_is_shut "Disk.is_shut" = true)
    (k_Disk_is_shut : PySem.W.keepIn K (.ref f_Disk_is_shut) = true)
    (a_Disk_count_one : PySem.W.findIn K (.ref A_Disk) "count_one" = some (some (.ref f_Disk_count_one)))
    (i_Disk_count_one : PySem.W.isFn K (.ref f_Disk_count_one) = true)
    (l_Disk_count_one : K.lookup f_Disk_count_one = some ⟨oc_Disk_count_one, od_Disk_count_one, .func (PySem.W.fnOf "count_one" "Disk.count_one" (defArgs s_Disk_count_one) (defBody s_Disk_count_one) (defScope s_Disk_count_one) .none kV_Disk_count_one dc_Disk_count_one pm_Disk_count_one an_Disk_count_one cd_Disk_count_one ct_Disk_count_one), sl_Disk_count_one⟩)
    (c_Disk_count_one : PySem.W.codeIn K cd_Disk_count_one "Disk.count_one" = true)
    (k_Disk_count_one : PySem.W.keepIn K (.ref f_Disk_count_one) = true)
    (a_Disk_tear : PySem.W.findIn K (.ref A_Disk) "tear" = some (some (.ref f_Disk_tear)))
    (i_Disk_tear : PySem.W.isFn K (.ref f_Disk_tear) = true)
    (l_Disk_tear : K.lookup f_Disk_tear = some ⟨oc_Disk_tear, od_Disk_tear, .func (PySem.W.fnOf "tear" "Disk.tear" (defArgs s_Disk_tear) (defBody s_Disk_tear) (defScope s_Disk_tear) .none kV_Disk_tear dc_Disk_tear pm_Disk_tear an_Disk_tear cd_Disk_tear ct_Disk_tear), sl_Disk_tear⟩)
    (c_Disk_tear : PySem.W.codeIn K cd_Disk_tear "Disk.tear" = true)
    (k_Disk_tear : PySem.W.keepIn K (.ref f_Disk_tear) = true)
    (a_Disk_write : PySem.W.findIn K (.ref A_Disk) "write" = some (some (.ref f_Disk_write)))
    (i_Disk_write : PySem.W.isFn K (.ref f_Disk_write) = true)
    (l_Disk_write : K.lookup f_Disk_write = some ⟨oc_Disk_write, od_Disk_write, .func (PySem.W.fnOf "write" "Disk.write" (defArgs s_Disk_write) (defBody s_Disk_write) (defScope s_Disk_write) .none kV_Disk_write dc_Disk_write pm_Disk_write an_Disk_write cd_Disk_write ct_Disk_write), sl_Disk_write⟩)
    (c_Disk_write : PySem.W.codeIn K cd_Disk_write "Disk.write" = true)
    (k_Disk_write : PySem.W.keepIn K (.ref f_Disk_write) = true)
    (a_Disk_erase : PySem.W.findIn K (.ref A_Disk) "erase" = some (some (.ref f_Disk_erase)))
    (i_Disk_erase : PySem.W.isFn K (.ref f_Disk_erase) = true)
    (l_Disk_erase : K.lookup f_Disk_erase = some ⟨oc_Disk_erase, od_Disk_erase, .func (PySem.W.fnOf "erase" "Disk.erase" (defArgs s_Disk_erase) (defBody s_Disk_erase) (defScope s_Disk_erase) .none kV_Disk_erase dc_Disk_erase pm_Disk_erase an_Disk_erase cd_Disk_erase ct_Disk_erase), sl_Disk_erase⟩)
    (c_Disk_erase : PySem.W.codeIn K cd_Disk_erase "Disk.erase" = true)
    (k_Disk_erase : PySem.W.keepIn K (.ref f_Disk_erase) = true)
    (a_Disk_stop : PySem.W.findIn K (.ref A_Disk) "stop" = some (some (.ref f_Disk_stop)))
    (i_Disk_stop : PySem.W.isFn K (.ref f_Disk_stop) = true)
    (l_Disk_stop : K.lookup f_Disk_stop = some ⟨oc_Disk_stop, od_Disk_stop, .func (PySem.W.fnOf "stop" "Disk.stop" (defArgs s_Disk_stop) (defBody s_Disk_stop) (defScope s_Disk_stop) .none (.ref KD_Disk_stop) dc_Disk_stop pm_Disk_stop an_Disk_stop cd_Disk_stop ct_Disk_stop), sl_Disk_stop⟩)
    (c_Disk_stop : PySem.W.codeIn K cd_Disk_stop "Disk.stop" = true)
    (k_Disk_stop : PySem.W.keepIn K (.ref f_Disk_stop) = true)
    (lK_Disk_stop : PySem.W.nsIn K KD_Disk_stop "kept" = some (some (Value.int 0 tK_Disk_stop)))
    (a_l_at : PySem.W.nsIn K mainGlobals "_law_at" = some (some (.ref f_l_at)))
    (l_l_at : K.lookup f_l_at = some ⟨oc_l_at, od_l_at, .func (PySem.W.fnOf "_law_at" "_law_at" (defArgs s_l_at) (defBody s_l_at) (defScope s_l_at) .none kV_l_at dc_l_at pm_l_at an_l_at cd_l_at ct_l_at), sl_l_at⟩)
    (c_l_at : PySem.W.codeIn K cd_l_at "_law_at" = true)
    (k_l_at : PySem.W.keepIn K (.ref f_l_at) = true)
    (a_l_pot : PySem.W.nsIn K mainGlobals "_law_pot" = some (some (.ref f_l_pot)))
    (l_l_pot : K.lookup f_l_pot = some ⟨oc_l_pot, od_l_pot, .func (PySem.W.fnOf "_law_pot" "_law_pot" (defArgs s_l_pot) (defBody s_l_pot) (defScope s_l_pot) .none kV_l_pot dc_l_pot pm_l_pot an_l_pot cd_l_pot ct_l_pot), sl_l_pot⟩)
    (c_l_pot : PySem.W.codeIn K cd_l_pot "_law_pot" = true)
    (k_l_pot : PySem.W.keepIn K (.ref f_l_pot) = true)
    (a_l_take : PySem.W.nsIn K mainGlobals "_law_take" = some (some (.ref f_l_take)))
    (l_l_take : K.lookup f_l_take = some ⟨oc_l_take, od_l_take, .func (PySem.W.fnOf "_law_take" "_law_take" (defArgs s_l_take) (defBody s_l_take) (defScope s_l_take) .none kV_l_take dc_l_take pm_l_take an_l_take cd_l_take ct_l_take), sl_l_take⟩)
    (c_l_take : PySem.W.codeIn K cd_l_take "_law_take" = true)
    (k_l_take : PySem.W.keepIn K (.ref f_l_take) = true)
    (a_l_class : PySem.W.nsIn K mainGlobals "_law_class" = some (some (.ref f_l_class)))
    (l_l_class : K.lookup f_l_class = some ⟨oc_l_class, od_l_class, .func (PySem.W.fnOf "_law_class" "_law_class" (defArgs s_l_class) (defBody s_l_class) (defScope s_l_class) .none kV_l_class dc_l_class pm_l_class an_l_class cd_l_class ct_l_class), sl_l_class⟩)
    (c_l_class : PySem.W.codeIn K cd_l_class "_law_class" = true)
    (k_l_class : PySem.W.keepIn K (.ref f_l_class) = true)
    (a_l_tried : PySem.W.nsIn K mainGlobals "_law_tried" = some (some (.ref f_l_tried)))
    (l_l_tried : K.lookup f_l_tried = some ⟨oc_l_tried, od_l_tried, .func (PySem.W.fnOf "_law_tried" "_law_tried" (defArgs s_l_tried) (defBody s_l_tried) (defScope s_l_tried) .none kV_l_tried dc_l_tried pm_l_tried an_l_tried cd_l_tried ct_l_tried), sl_l_tried⟩)
    (c_l_tried : PySem.W.codeIn K cd_l_tried "_law_tried" = true)
    (k_l_tried : PySem.W.keepIn K (.ref f_l_tried) = true)
    (a_l_no_size : PySem.W.nsIn K mainGlobals "_law_no_size" = some (some (.ref f_l_no_size)))
    (l_l_no_size : K.lookup f_l_no_size = some ⟨oc_l_no_size, od_l_no_size, .func (PySem.W.fnOf "_law_no_size" "_law_no_size" (defArgs s_l_no_size) (defBody s_l_no_size) (defScope s_l_no_size) .none kV_l_no_size dc_l_no_size pm_l_no_size an_l_no_size cd_l_no_size ct_l_no_size), sl_l_no_size⟩)
    (c_l_no_size : PySem.W.codeIn K cd_l_no_size "_law_no_size" = true)
    (k_l_no_size : PySem.W.keepIn K (.ref f_l_no_size) = true)
    (a_l_whole : PySem.W.nsIn K mainGlobals "_law_whole" = some (some (.ref f_l_whole)))
    (l_l_whole : K.lookup f_l_whole = some ⟨oc_l_whole, od_l_whole, .func (PySem.W.fnOf "_law_whole" "_law_whole" (defArgs s_l_whole) (defBody s_l_whole) (defScope s_l_whole) .none kV_l_whole dc_l_whole pm_l_whole an_l_whole cd_l_whole ct_l_whole), sl_l_whole⟩)
    (c_l_whole : PySem.W.codeIn K cd_l_whole "_law_whole" = true)
    (k_l_whole : PySem.W.keepIn K (.ref f_l_whole) = true)
    (a_l_reads : PySem.W.nsIn K mainGlobals "_law_reads" = some (some (.ref f_l_reads)))
    (l_l_reads : K.lookup f_l_reads = some ⟨oc_l_reads, od_l_reads, .func (PySem.W.fnOf "_law_reads" "_law_reads" (defArgs s_l_reads) (defBody s_l_reads) (defScope s_l_reads) .none kV_l_reads dc_l_reads pm_l_reads an_l_reads cd_l_reads ct_l_reads), sl_l_reads⟩)
    (c_l_reads : PySem.W.codeIn K cd_l_reads "_law_reads" = true)
    (k_l_reads : PySem.W.keepIn K (.ref f_l_reads) = true)
    (a_l_empty : PySem.W.nsIn K mainGlobals "_law_empty" = some (some (.ref f_l_empty)))
    (l_l_empty : K.lookup f_l_empty = some ⟨oc_l_empty, od_l_empty, .func (PySem.W.fnOf "_law_empty" "_law_empty" (defArgs s_l_empty) (defBody s_l_empty) (defScope s_l_empty) .none kV_l_empty dc_l_empty pm_l_empty an_l_empty cd_l_empty ct_l_empty), sl_l_empty⟩)
    (c_l_empty : PySem.W.codeIn K cd_l_empty "_law_empty" = true)
    (k_l_empty : PySem.W.keepIn K (.ref f_l_empty) = true)
    (a_l_made : PySem.W.nsIn K mainGlobals "_law_made" = some (some (.ref f_l_made)))
    (l_l_made : K.lookup f_l_made = some ⟨oc_l_made, od_l_made, .func (PySem.W.fnOf "_law_made" "_law_made" (defArgs s_l_made) (defBody s_l_made) (defScope s_l_made) .none kV_l_made dc_l_made pm_l_made an_l_made cd_l_made ct_l_made), sl_l_made⟩)
    (c_l_made : PySem.W.codeIn K cd_l_made "_law_made" = true)
    (k_l_made : PySem.W.keepIn K (.ref f_l_made) = true)
    (a_l_refused : PySem.W.nsIn K mainGlobals "_law_refused" = some (some (.ref f_l_refused)))
    (l_l_refused : K.lookup f_l_refused = some ⟨oc_l_refused, od_l_refused, .func (PySem.W.fnOf "_law_refused" "_law_refused" (defArgs s_l_refused) (defBody s_l_refused) (defScope s_l_refused) .none kV_l_refused dc_l_refused pm_l_refused an_l_refused (.ref cc_l_refused) ct_l_refused), sl_l_refused⟩)
    (c_l_refused : PySem.W.codeIn K (.ref cc_l_refused) "_law_refused" = true)
    (k_l_refused : PySem.W.keepIn K (.ref f_l_refused) = true)
    (lc_l_refused : K.lookup cc_l_refused = some ⟨oe_l_refused, de_l_refused, .fields vs_l_refused, se_l_refused⟩)
    (vp_l_refused : vs_l_refused.toList.getD 11 .none = .ref P_l_refused)
    (ch_l_refused : PySem.W.codeHdIn K cc_l_refused P_l_refused = true)
    (np_l_refused : K.lookup P_l_refused = none)
    (hP_l_refused : h.get? P_l_refused = some { cls := .none, data := .fields #[] })
    (a_l_apart : PySem.W.nsIn K mainGlobals "_law_apart" = some (some (.ref f_l_apart)))
    (l_l_apart : K.lookup f_l_apart = some ⟨oc_l_apart, od_l_apart, .func (PySem.W.fnOf "_law_apart" "_law_apart" (defArgs s_l_apart) (defBody s_l_apart) (defScope s_l_apart) .none kV_l_apart dc_l_apart pm_l_apart an_l_apart (.ref cc_l_apart) ct_l_apart), sl_l_apart⟩)
    (c_l_apart : PySem.W.codeIn K (.ref cc_l_apart) "_law_apart" = true)
    (k_l_apart : PySem.W.keepIn K (.ref f_l_apart) = true)
    (lc_l_apart : K.lookup cc_l_apart = some ⟨oe_l_apart, de_l_apart, .fields vs_l_apart, se_l_apart⟩)
    (vp_l_apart : vs_l_apart.toList.getD 11 .none = .ref P_l_apart)
    (ch_l_apart : PySem.W.codeHdIn K cc_l_apart P_l_apart = true)
    (np_l_apart : K.lookup P_l_apart = none)
    (hP_l_apart : h.get? P_l_apart = some { cls := .none, data := .fields #[] })
    (a_law : PySem.W.nsIn K mainGlobals "law" = some (some (.ref f_law)))
    (l_law : K.lookup f_law = some ⟨oc_law, od_law, .func (PySem.W.fnOf "law" "law" (defArgs s_law) (defBody s_law) (defScope s_law) .none kV_law dc_law pm_law an_law cd_law ct_law), sl_law⟩)
    (c_law : PySem.W.codeIn K cd_law "law" = true)
    (k_law : PySem.W.keepIn K (.ref f_law) = true)
    (ne_0_1 : P_l_refused ≠ P_l_apart) :
    ∃ (fd : FuncData) (cs : List (Addr × Addr)) (sp : Sp), (∀ p ∈ cs, h.get? p.2 = some { cls := .none, data := .fields #[] }) ∧ (∀ p ∈ cs, K.lookup p.2 = none) ∧ (∀ p ∈ cs, PySem.W.CodeHd h p.1 p.2) ∧ (∀ (s : Shared) (v : Value), BindsTo s fd ⟨[v], []⟩ [("script", v)]) ∧
      (∀ (H : Hp) (a : Addr) (ns : List Int), ns.length ≤ 63 → (∀ p ∈ cs, H p.2 = some (.tbl #[])) → SqL K H a (ns.map V.int) → sp [.ref a] H (fun v _ => v = .bl true) fun _ _ _ => False) ∧
      ∀ base : Heap, K.In base → base.Ns mainGlobals mg → (∀ p ∈ cs, LamX.TabB base mg p.1 p.2) → GnOk P w K mg base CX0 8 fa fd ["script"] sp := by
  have e := hfa.symm.trans (PySem.W.mg_of X G a_law)
  cases e
  obtain ⟨T, eT⟩ : ∃ T : List (Addr × Str), T = [(P_l_refused, (("_law_refused" : Str) ++ ".<locals>." ++ "<lambda>")), (P_l_apart, (("_law_apart" : Str) ++ ".<locals>." ++ "<lambda>"))] := ⟨_, rfl⟩
  have hT_l_refused : (P_l_refused, (("_law_refused" : Str) ++ ".<locals>." ++ "<lambda>")) ∈ T := by rw [eT]; exact (.head _)
  have hu_l_refused : ∀ p ∈ T, p.1 = P_l_refused → p.2 = (("_law_refused" : Str) ++ ".<locals>." ++ "<lambda>") := by rw [eT]; exact (List.forall_mem_cons.mpr ⟨fun _ => rfl, (List.forall_mem_cons.mpr ⟨fun e => absurd e.symm ne_0_1, (fun _ h => nomatch h)⟩)⟩)
  have hT_l_apart : (P_l_apart, (("_law_apart" : Str) ++ ".<locals>." ++ "<lambda>")) ∈ T := by rw [eT]; exact (.tail _ (.head _))
  have hu_l_apart : ∀ p ∈ T, p.1 = P_l_apart → p.2 = (("_law_apart" : Str) ++ ".<locals>." ++ "<lambda>") := by rw [eT]; exact (List.forall_mem_cons.mpr ⟨fun e => absurd e ne_0_1, (List.forall_mem_cons.mpr ⟨fun _ => rfl, (fun _ h => nomatch h)⟩)⟩)
  refine ⟨PySem.W.fnOf "law" "law" (defArgs s_law) (defBody s_law) (defScope s_law) .none kV_law dc_law pm_law an_law cd_law ct_law, [(cc_l_refused, P_l_refused), (cc_l_apart, P_l_apart)], sp_lawT K T, (List.forall_mem_cons.mpr ⟨hP_l_refused, (List.forall_mem_cons.mpr ⟨hP_l_apart, (fun _ h => nomatch h)⟩)⟩), (List.forall_mem_cons.mpr ⟨np_l_refused, (List.forall_mem_cons.mpr ⟨np_l_apart, (fun _ h => nomatch h)⟩)⟩), (List.forall_mem_cons.mpr ⟨PySem.W.codeHd_of_K X ch_l_refused, (List.forall_mem_cons.mpr ⟨PySem.W.codeHd_of_K X ch_l_apart, (fun _ h => nomatch h)⟩)⟩), fun s v => .of_eq rfl, fun H a ns hl hH hS => ⟨a, ns, rfl, hS, hl, ?_, fun _ => rfl⟩, fun base _ _ hTB => ?_⟩
  · rw [eT]; exact (List.forall_mem_cons.mpr ⟨LamX.TabS.nil (hH (cc_l_refused, P_l_refused) (.head _)), (List.forall_mem_cons.mpr ⟨LamX.TabS.nil (hH (cc_l_apart, P_l_apart) (.tail _ (.head _))), (fun _ h => nomatch h)⟩)⟩)
  have TB_l_refused := hTB (cc_l_refused, P_l_refused) (.head _)
  have TB_l_apart := hTB (cc_l_apart, P_l_apart) (.tail _ (.head _))
  have F_law := fun_mk (st := s_law) l_law c_law k_law
  have B : Bt mg := ⟨PySem.W.mg_none_of X G z_len, PySem.W.mg_none_of X G z_max, PySem.W.mg_none_of X G z_min, PySem.W.mg_none_of X G z_abs, PySem.W.mg_none_of X G z_divmod, PySem.W.mg_none_of X G z_range, PySem.W.mg_none_of X G z_ord, PySem.W.mg_none_of X G z_isinstance, PySem.W.mg_none_of X G z_int, PySem.W.mg_none_of X G z_str, PySem.W.mg_none_of X G z_bool, PySem.W.mg_none_of X G z_list, PySem.W.mg_none_of X G z_tuple, PySem.W.mg_none_of X G z_dict, PySem.W.mg_none_of X G z_set, PySem.W.mg_none_of X G z_all, PySem.W.mg_none_of X G z_any, PySem.W.mg_none_of X G z_sorted, PySem.W.mg_none_of X G z_enumerate, PySem.W.mg_none_of X G z_zip, PySem.W.mg_none_of X G z_repr, PySem.W.mg_none_of X G z_sum⟩
  have g_SEGMENTS := PySem.W.mg_of X G a_SEGMENTS
  have g_PLACES := PySem.W.mg_of X G a_PLACES
  have g_LEAST_SEGMENTS := PySem.W.mg_of X G a_LEAST_SEGMENTS
  have g_MOST_SEGMENTS := PySem.W.mg_of X G a_MOST_SEGMENTS
  have g_LEAST_PLACES := PySem.W.mg_of X G a_LEAST_PLACES
  have g_MOST_PLACES := PySem.W.mg_of X G a_MOST_PLACES
  have g_LONGEST := PySem.W.mg_of X G a_LONGEST
  have BV := PySem.W.mg_none_of X G z_ValueError
  have XC_CleanedError : XCls K mg "CleanedError" A_CleanedError := ⟨PySem.W.mg_of X G xa_CleanedError, ⟨⟨_, _, _, _, _, _, _, _, _, _, _, _, _, _, _, xl_CleanedError, by kernel_rfl⟩, xs_CleanedError, xe_CleanedError, xt_CleanedError, xk_CleanedError⟩, ⟨xg_CleanedError, xh_CleanedError, xe_CleanedError, xd_CleanedError, xc_CleanedError, ig_, it_, xo_CleanedError⟩⟩
  have XC_DiskError : XCls K mg "DiskError" A_DiskError := ⟨PySem.W.mg_of X G xa_DiskError, ⟨⟨_, _, _, _, _, _, _, _, _, _, _, _, _, _, _, xl_DiskError, by kernel_rfl⟩, xs_DiskError, xe_DiskError, xt_DiskError, xk_DiskError⟩, ⟨xg_DiskError, xh_DiskError, xe_DiskError, xd_DiskError, xc_DiskError, ig_, it_, xo_DiskError⟩⟩
  have XC_NoDisk : XCls K mg "NoDisk" A_NoDisk := ⟨PySem.W.mg_of X G xa_NoDisk, ⟨⟨_, _, _, _, _, _, _, _, _, _, _, _, _, _, _, xl_NoDisk, by kernel_rfl⟩, xs_NoDisk, xe_NoDisk, xt_NoDisk, xk_NoDisk⟩, ⟨xg_NoDisk, xh_NoDisk, xe_NoDisk, xd_NoDisk, xc_NoDisk, ig_, it_, xo_NoDisk⟩⟩
  have XC_NoPlace : XCls K mg "NoPlace" A_NoPlace := ⟨PySem.W.mg_of X G xa_NoPlace, ⟨⟨_, _, _, _, _, _, _, _, _, _, _, _, _, _, _, xl_NoPlace, by kernel_rfl⟩, xs_NoPlace, xe_NoPlace, xt_NoPlace, xk_NoPlace⟩, ⟨xg_NoPlace, xh_NoPlace, xe_NoPlace, xd_NoPlace, xc_NoPlace, ig_, it_, xo_NoPlace⟩⟩
  have XC_BadText : XCls K mg "BadText" A_BadText := ⟨PySem.W.mg_of X G xa_BadText, ⟨⟨_, _, _, _, _, _, _, _, _, _, _, _, _, _, _, xl_BadText, by kernel_rfl⟩, xs_BadText, xe_BadText, xt_BadText, xk_BadText⟩, ⟨xg_BadText, xh_BadText, xe_BadText, xd_BadText, xc_BadText, ig_, it_, xo_BadText⟩⟩
  have XC_Full : XCls K mg "Full" A_Full := ⟨PySem.W.mg_of X G xa_Full, ⟨⟨_, _, _, _, _, _, _, _, _, _, _, _, _, _, _, xl_Full, by kernel_rfl⟩, xs_Full, xe_Full, xt_Full, xk_Full⟩, ⟨xg_Full, xh_Full, xe_Full, xd_Full, xc_Full, ig_, it_, xo_Full⟩⟩
  have XC_Stopped : XCls K mg "Stopped" A_Stopped := ⟨PySem.W.mg_of X G xa_Stopped, ⟨⟨_, _, _, _, _, _, _, _, _, _, _, _, _, _, _, xl_Stopped, by kernel_rfl⟩, xs_Stopped, xe_Stopped, xt_Stopped, xk_Stopped⟩, ⟨xg_Stopped, xh_Stopped, xe_Stopped, xd_Stopped, xc_Stopped, ig_, it_, xo_Stopped⟩⟩
  have XC_NoMount : XCls K mg "NoMount" A_NoMount := ⟨PySem.W.mg_of X G xa_NoMount, ⟨⟨_, _, _, _, _, _, _, _, _, _, _, _, _, _, _, xl_NoMount, by kernel_rfl⟩, xs_NoMount, xe_NoMount, xt_NoMount, xk_NoMount⟩, ⟨xg_NoMount, xh_NoMount, xe_NoMount, xd_NoMount, xc_NoMount, ig_, it_, xo_NoMount⟩⟩
  have XC_NoRecord : XCls K mg "NoRecord" A_NoRecord := ⟨PySem.W.mg_of X G xa_NoRecord, ⟨⟨_, _, _, _, _, _, _, _, _, _, _, _, _, _, _, xl_NoRecord, by kernel_rfl⟩, xs_NoRecord, xe_NoRecord, xt_NoRecord, xk_NoRecord⟩, ⟨xg_NoRecord, xh_NoRecord, xe_NoRecord, xd_NoRecord, xc_NoRecord, ig_, it_, xo_NoRecord⟩⟩
  have XC_NoRoom : XCls K mg "NoRoom" A_NoRoom := ⟨PySem.W.mg_of X G xa_NoRoom, ⟨⟨_, _, _, _, _, _, _, _, _, _, _, _, _, _, _, xl_NoRoom, by kernel_rfl⟩, xs_NoRoom, xe_NoRoom, xt_NoRoom, xk_NoRoom⟩, ⟨xg_NoRoom, xh_NoRoom, xe_NoRoom, xd_NoRoom, xc_NoRoom, ig_, it_, xo_NoRoom⟩⟩
  have XC_NotBlank : XCls K mg "NotBlank" A_NotBlank := ⟨PySem.W.mg_of X G xa_NotBlank, ⟨⟨_, _, _, _, _, _, _, _, _, _, _, _, _, _, _, xl_NotBlank, by kernel_rfl⟩, xs_NotBlank, xe_NotBlank, xt_NotBlank, xk_NotBlank⟩, ⟨xg_NotBlank, xh_NotBlank, xe_NotBlank, xd_NotBlank, xc_NotBlank, ig_, it_, xo_NotBlank⟩⟩
  have XC_Unreadable : XCls K mg "Unreadable" A_Unreadable := ⟨PySem.W.mg_of X G xa_Unreadable, ⟨⟨_, _, _, _, _, _, _, _, _, _, _, _, _, _, _, xl_Unreadable, by kernel_rfl⟩, xs_Unreadable, xe_Unreadable, xt_Unreadable, xk_Unreadable⟩, ⟨xg_Unreadable, xh_Unreadable, xe_Unreadable, xd_Unreadable, xc_Unreadable, ig_, it_, xo_Unreadable⟩⟩
  have XC_TreeError : XCls K mg "TreeError" A_TreeError := ⟨PySem.W.mg_of X G xa_TreeError, ⟨⟨_, _, _, _, _, _, _, _, _, _, _, _, _, _, _, xl_TreeError, by kernel_rfl⟩, xs_TreeError, xe_TreeError, xt_TreeError, xk_TreeError⟩, ⟨xg_TreeError, xh_TreeError, xe_TreeError, xd_TreeError, xc_TreeError, ig_, it_, xo_TreeError⟩⟩
  have XC_NoTree : XCls K mg "NoTree" A_NoTree := ⟨PySem.W.mg_of X G xa_NoTree, ⟨⟨_, _, _, _, _, _, _, _, _, _, _, _, _, _, _, xl_NoTree, by kernel_rfl⟩, xs_NoTree, xe_NoTree, xt_NoTree, xk_NoTree⟩, ⟨xg_NoTree, xh_NoTree, xe_NoTree, xd_NoTree, xc_NoTree, ig_, it_, xo_NoTree⟩⟩
  have XC_NoRow : XCls K mg "NoRow" A_NoRow := ⟨PySem.W.mg_of X G xa_NoRow, ⟨⟨_, _, _, _, _, _, _, _, _, _, _, _, _, _, _, xl_NoRow, by kernel_rfl⟩, xs_NoRow, xe_NoRow, xt_NoRow, xk_NoRow⟩, ⟨xg_NoRow, xh_NoRow, xe_NoRow, xd_NoRow, xc_NoRow, ig_, it_, xo_NoRow⟩⟩
  have XC_NoHouse : XCls K mg "NoHouse" A_NoHouse := ⟨PySem.W.mg_of X G xa_NoHouse, ⟨⟨_, _, _, _, _, _, _, _, _, _, _, _, _, _, _, xl_NoHouse, by kernel_rfl⟩, xs_NoHouse, xe_NoHouse, xt_NoHouse, xk_NoHouse⟩, ⟨xg_NoHouse, xh_NoHouse, xe_NoHouse, xd_NoHouse, xc_NoHouse, ig_, it_, xo_NoHouse⟩⟩
  have XC_Halted : XCls K mg "Halted" A_Halted := ⟨PySem.W.mg_of X G xa_Halted, ⟨⟨_, _, _, _, _, _, _, _, _, _, _, _, _, _, _, xl_Halted, by kernel_rfl⟩, xs_Halted, xe_Halted, xt_Halted, xk_Halted⟩, ⟨xg_Halted, xh_Halted, xe_Halted, xd_Halted, xc_Halted, ig_, it_, xo_Halted⟩⟩
  have XN_NoDisk := hXN_NoDisk
  have XN_NoPlace := hXN_NoPlace
  have XN_BadText := hXN_BadText
  have XN_Full := hXN_Full
  have XN_Stopped := hXN_Stopped
  have XK_BadText_BadText := kit_own xd_BadText xt_BadText hXK_BadText_BadText hXS_BadText
  have XK_BadText_Full := kit_own xd_Full xt_Full hXK_BadText_Full hXS_BadText
  have XK_BadText_NoDisk := kit_own xd_NoDisk xt_NoDisk hXK_BadText_NoDisk hXS_BadText
  have XK_BadText_NoPlace := kit_own xd_NoPlace xt_NoPlace hXK_BadText_NoPlace hXS_BadText
  have XK_BadText_Stopped := kit_own xd_Stopped xt_Stopped hXK_BadText_Stopped hXS_BadText
  have XK_BadText_DiskError := kit_own xd_DiskError xt_DiskError hXK_BadText_DiskError hXS_BadText
  have XK_BadText_ValueError := kit_bi hXK_BadText_ValueError
  have XK_BadText_NoMount := kit_own xd_NoMount xt_NoMount hXK_BadText_NoMount hXS_BadText
  have XK_BadText_NoRecord := kit_own xd_NoRecord xt_NoRecord hXK_BadText_NoRecord hXS_BadText
  have XK_BadText_NoRoom := kit_own xd_NoRoom xt_NoRoom hXK_BadText_NoRoom hXS_BadText
  have XK_BadText_NotBlank := kit_own xd_NotBlank xt_NotBlank hXK_BadText_NotBlank hXS_BadText
  have XK_BadText_Unreadable := kit_own xd_Unreadable xt_Unreadable hXK_BadText_Unreadable hXS_BadText
  have XK_BadText_TreeError := kit_own xd_TreeError xt_TreeError hXK_BadText_TreeError hXS_BadText
  have XK_BadText_NoTree := kit_own xd_NoTree xt_NoTree hXK_BadText_NoTree hXS_BadText
  have XK_BadText_NoRow := kit_own xd_NoRow xt_NoRow hXK_BadText_NoRow hXS_BadText
  have XK_BadText_NoHouse := kit_own xd_NoHouse xt_NoHouse hXK_BadText_NoHouse hXS_BadText
  have XK_BadText_Halted := kit_own xd_Halted xt_Halted hXK_BadText_Halted hXS_BadText
  have XK_Full_BadText := kit_own xd_BadText xt_BadText hXK_Full_BadText hXS_Full
  have XK_Full_Full := kit_own xd_Full xt_Full hXK_Full_Full hXS_Full
  have XK_Full_NoDisk := kit_own xd_NoDisk xt_NoDisk hXK_Full_NoDisk hXS_Full
  have XK_Full_NoPlace := kit_own xd_NoPlace xt_NoPlace hXK_Full_NoPlace hXS_Full
  have XK_Full_Stopped := kit_own xd_Stopped xt_Stopped hXK_Full_Stopped hXS_Full
  have XK_Full_DiskError := kit_own xd_DiskError xt_DiskError hXK_Full_DiskError hXS_Full
  have XK_Full_ValueError := kit_bi hXK_Full_ValueError
  have XK_Full_NoMount := kit_own xd_NoMount xt_NoMount hXK_Full_NoMount hXS_Full
  have XK_Full_NoRecord := kit_own xd_NoRecord xt_NoRecord hXK_Full_NoRecord hXS_Full
  have XK_Full_NoRoom := kit_own xd_NoRoom xt_NoRoom hXK_Full_NoRoom hXS_Full
  have XK_Full_NotBlank := kit_own xd_NotBlank xt_NotBlank hXK_Full_NotBlank hXS_Full
  have XK_Full_Unreadable := kit_own xd_Unreadable xt_Unreadable hXK_Full_Unreadable hXS_Full
  have XK_Full_TreeError := kit_own xd_TreeError xt_TreeError hXK_Full_TreeError hXS_Full
  have XK_Full_NoTree := kit_own xd_NoTree xt_NoTree hXK_Full_NoTree hXS_Full
  have XK_Full_NoRow := kit_own xd_NoRow xt_NoRow hXK_Full_NoRow hXS_Full
  have XK_Full_NoHouse := kit_own xd_NoHouse xt_NoHouse hXK_Full_NoHouse hXS_Full
  have XK_Full_Halted := kit_own xd_Halted xt_Halted hXK_Full_Halted hXS_Full
  have XK_NoDisk_BadText := kit_own xd_BadText xt_BadText hXK_NoDisk_BadText hXS_NoDisk
  have XK_NoDisk_Full := kit_own xd_Full xt_Full hXK_NoDisk_Full hXS_NoDisk
  have XK_NoDisk_NoDisk := kit_own xd_NoDisk xt_NoDisk hXK_NoDisk_NoDisk hXS_NoDisk
  have XK_NoDisk_NoPlace := kit_own xd_NoPlace xt_NoPlace hXK_NoDisk_NoPlace hXS_NoDisk
  have XK_NoDisk_Stopped := kit_own xd_Stopped xt_Stopped hXK_NoDisk_Stopped hXS_NoDisk
  have XK_NoDisk_DiskError := kit_own xd_DiskError xt_DiskError hXK_NoDisk_DiskError hXS_NoDisk
  have XK_NoDisk_ValueError := kit_bi hXK_NoDisk_ValueError
  have XK_NoDisk_NoMount := kit_own xd_NoMount xt_NoMount hXK_NoDisk_NoMount hXS_NoDisk
  have XK_NoDisk_NoRecord := kit_own xd_NoRecord xt_NoRecord hXK_NoDisk_NoRecord hXS_NoDisk
  have XK_NoDisk_NoRoom := kit_own xd_NoRoom xt_NoRoom hXK_NoDisk_NoRoom hXS_NoDisk
  have XK_NoDisk_NotBlank := kit_own xd_NotBlank xt_NotBlank hXK_NoDisk_NotBlank hXS_NoDisk
  have XK_NoDisk_Unreadable := kit_own xd_Unreadable xt_Unreadable hXK_NoDisk_Unreadable hXS_NoDisk
  have XK_NoDisk_TreeError := kit_own xd_TreeError xt_TreeError hXK_NoDisk_TreeError hXS_NoDisk
  have XK_NoDisk_NoTree := kit_own xd_NoTree xt_NoTree hXK_NoDisk_NoTree hXS_NoDisk
  have XK_NoDisk_NoRow := kit_own xd_NoRow xt_NoRow hXK_NoDisk_NoRow hXS_NoDisk
  have XK_NoDisk_NoHouse := kit_own xd_NoHouse xt_NoHouse hXK_NoDisk_NoHouse hXS_NoDisk
  have XK_NoDisk_Halted := kit_own xd_Halted xt_Halted hXK_NoDisk_Halted hXS_NoDisk
  have XK_NoPlace_BadText := kit_own xd_BadText xt_BadText hXK_NoPlace_BadText hXS_NoPlace
  have XK_NoPlace_Full := kit_own xd_Full xt_Full hXK_NoPlace_Full hXS_NoPlace
  have XK_NoPlace_NoDisk := kit_own xd_NoDisk xt_NoDisk hXK_NoPlace_NoDisk hXS_NoPlace
  have XK_NoPlace_NoPlace := kit_own xd_NoPlace xt_NoPlace hXK_NoPlace_NoPlace hXS_NoPlace
  have XK_NoPlace_Stopped := kit_own xd_Stopped xt_Stopped hXK_NoPlace_Stopped hXS_NoPlace
  have XK_NoPlace_DiskError := kit_own xd_DiskError xt_DiskError hXK_NoPlace_DiskError hXS_NoPlace
  have XK_NoPlace_ValueError := kit_bi hXK_NoPlace_ValueError
  have XK_NoPlace_NoMount := kit_own xd_NoMount xt_NoMount hXK_NoPlace_NoMount hXS_NoPlace
  have XK_NoPlace_NoRecord := kit_own xd_NoRecord xt_NoRecord hXK_NoPlace_NoRecord hXS_NoPlace
  have XK_NoPlace_NoRoom := kit_own xd_NoRoom xt_NoRoom hXK_NoPlace_NoRoom hXS_NoPlace
  have XK_NoPlace_NotBlank := kit_own xd_NotBlank xt_NotBlank hXK_NoPlace_NotBlank hXS_NoPlace
  have XK_NoPlace_Unreadable := kit_own xd_Unreadable xt_Unreadable hXK_NoPlace_Unreadable hXS_NoPlace
  have XK_NoPlace_TreeError := kit_own xd_TreeError xt_TreeError hXK_NoPlace_TreeError hXS_NoPlace
  have XK_NoPlace_NoTree := kit_own xd_NoTree xt_NoTree hXK_NoPlace_NoTree hXS_NoPlace
  have XK_NoPlace_NoRow := kit_own xd_NoRow xt_NoRow hXK_NoPlace_NoRow hXS_NoPlace
  have XK_NoPlace_NoHouse := kit_own xd_NoHouse xt_NoHouse hXK_NoPlace_NoHouse hXS_NoPlace
  have XK_NoPlace_Halted := kit_own xd_Halted xt_Halted hXK_NoPlace_Halted hXS_NoPlace
  have XK_Stopped_BadText := kit_own xd_BadText xt_BadText hXK_Stopped_BadText hXS_Stopped
  have XK_Stopped_Full := kit_own xd_Full xt_Full hXK_Stopped_Full hXS_Stopped
  have XK_Stopped_NoDisk := kit_own xd_NoDisk xt_NoDisk hXK_Stopped_NoDisk hXS_Stopped
  have XK_Stopped_NoPlace := kit_own xd_NoPlace xt_NoPlace hXK_Stopped_NoPlace hXS_Stopped
  have XK_Stopped_Stopped := kit_own xd_Stopped xt_Stopped hXK_Stopped_Stopped hXS_Stopped
  have XK_Stopped_DiskError := kit_own xd_DiskError xt_DiskError hXK_Stopped_DiskError hXS_Stopped
  have XK_Stopped_ValueError := kit_bi hXK_Stopped_ValueError
  have XK_Stopped_NoMount := kit_own xd_NoMount xt_NoMount hXK_Stopped_NoMount hXS_Stopped
  have XK_Stopped_NoRecord := kit_own xd_NoRecord xt_NoRecord hXK_Stopped_NoRecord hXS_Stopped
  have XK_Stopped_NoRoom := kit_own xd_NoRoom xt_NoRoom hXK_Stopped_NoRoom hXS_Stopped
  have XK_Stopped_NotBlank := kit_own xd_NotBlank xt_NotBlank hXK_Stopped_NotBlank hXS_Stopped
  have XK_Stopped_Unreadable := kit_own xd_Unreadable xt_Unreadable hXK_Stopped_Unreadable hXS_Stopped
  have XK_Stopped_TreeError := kit_own xd_TreeError xt_TreeError hXK_Stopped_TreeError hXS_Stopped
  have XK_Stopped_NoTree := kit_own xd_NoTree xt_NoTree hXK_Stopped_NoTree hXS_Stopped
  have XK_Stopped_NoRow := kit_own xd_NoRow xt_NoRow hXK_Stopped_NoRow hXS_Stopped
  have XK_Stopped_NoHouse := kit_own xd_NoHouse xt_NoHouse hXK_Stopped_NoHouse hXS_Stopped
  have XK_Stopped_Halted := kit_own xd_Halted xt_Halted hXK_Stopped_Halted hXS_Stopped
  have XM_BadText_CleanedError := PySem.W.exm_ref xe_CleanedError xd_CleanedError xt_CleanedError hXM_BadText_CleanedError
  have XM_Full_CleanedError := PySem.W.exm_ref xe_CleanedError xd_CleanedError xt_CleanedError hXM_Full_CleanedError
  have XM_NoDisk_CleanedError := PySem.W.exm_ref xe_CleanedError xd_CleanedError xt_CleanedError hXM_NoDisk_CleanedError
  have XM_NoPlace_CleanedError := PySem.W.exm_ref xe_CleanedError xd_CleanedError xt_CleanedError hXM_NoPlace_CleanedError
  have XM_Stopped_CleanedError := PySem.W.exm_ref xe_CleanedError xd_CleanedError xt_CleanedError hXM_Stopped_CleanedError
  have T_Disk : CF K mg "Disk" A_Disk ["written_rows", "erasings", "many_places", "count_of_writes", "writes_left", "signs_kept", "is_over"] := ⟨⟨pg_Disk, hd_Disk, po_Disk, sa_Disk⟩, PySem.W.mg_of X G ac_Disk, (all_cons n_Disk_written_rows (all_cons n_Disk_erasings (all_cons n_Disk_many_places (all_cons n_Disk_count_of_writes (all_cons n_Disk_writes_left (all_cons n_Disk_signs_kept (all_cons n_Disk_is_over (fun _ h => nomatch h)))))))), ic_Disk, ig_, it_, im_Disk⟩
  have C_is_within : Cal P w K mg base CX0 "is_within" 1 ["thing", "least", "most"] (sp_is_within K) := cal_mk X G a_is_within l_is_within c_is_within k_is_within (fun _ _ _ _ _ _ us hl => match us, hl with | [_, _, _], _ => rfl) (fun F => ok_is_within F B)
  have F_Disk_init : FunV K "__init__" "Disk.__init__" s_Disk_init f_Disk_init _ := ⟨_, _, _, _, _, _, _, _, _, _, rfl, l_Disk_init, c_Disk_init⟩
  have I_Disk_kw2 : MkrK P w K mg base (L2.CX P w) A_Disk 2 ["self", "segments", "places"] 2 [] (fun us ws => [us.getD 0 V.non, us.getD 1 V.non, us.getD 2 V.non]) (sp_Disk_init K A_Disk A_NoDisk) := ⟨_, _, (fun us ws => [us.getD 0 Value.none, us.getD 1 Value.none, us.getD 2 Value.none]), ok_Disk_init F_Disk_init B T_Disk XC_NoDisk XN_NoDisk C_is_within g_SEGMENTS g_PLACES g_LEAST_SEGMENTS g_MOST_SEGMENTS g_LEAST_PLACES g_MOST_PLACES, ⟨mk_Disk, a_Disk_init, i_Disk_init, kc_Disk⟩, kb_dflt lD_Disk_init rfl (fun us ws => [us.getD 0 Value.none, us.getD 1 Value.none, us.getD 2 Value.none]) (fun us ws => [us.getD 0 V.non, us.getD 1 V.non, us.getD 2 V.non]) (fun r1 r2 => (.cons (vget r1 0) (.cons (vget r1 1) (.cons (vget r1 2) .nil)))) (fun us ws h1 h2 => match us, ws, h1, h2 with | [_, _, _], [], _, _ => ⟨_, rfl, rfl⟩)⟩
  have I_Disk_kw0 : MkrK P w K mg base (L2.CX P w) A_Disk 2 ["self", "segments", "places"] 0 [] (fun us ws => [us.getD 0 V.non, (V.int 6), (V.int 12)]) (sp_Disk_init K A_Disk A_NoDisk) := ⟨_, _, (fun us ws => [us.getD 0 Value.none, (Value.int 6 tD_Disk_init_0), (Value.int 12 tD_Disk_init_1)]), ok_Disk_init F_Disk_init B T_Disk XC_NoDisk XN_NoDisk C_is_within g_SEGMENTS g_PLACES g_LEAST_SEGMENTS g_MOST_SEGMENTS g_LEAST_PLACES g_MOST_PLACES, ⟨mk_Disk, a_Disk_init, i_Disk_init, kc_Disk⟩, kb_dflt lD_Disk_init rfl (fun us ws => [us.getD 0 Value.none, (Value.int 6 tD_Disk_init_0), (Value.int 12 tD_Disk_init_1)]) (fun us ws => [us.getD 0 V.non, (V.int 6), (V.int 12)]) (fun r1 r2 => (.cons (vget r1 0) (.cons ⟨_, rfl⟩ (.cons ⟨_, rfl⟩ .nil)))) (fun us ws h1 h2 => match us, ws, h1, h2 with | [_], [], _, _ => ⟨_, rfl, rfl⟩)⟩
  have I_Disk_kw1 : MkrK P w K mg base (L2.CX P w) A_Disk 2 ["self", "segments", "places"] 1 [] (fun us ws => [us.getD 0 V.non, us.getD 1 V.non, (V.int 12)]) (sp_Disk_init K A_Disk A_NoDisk) := ⟨_, _, (fun us ws => [us.getD 0 Value.none, us.getD 1 Value.none, (Value.int 12 tD_Disk_init_1)]), ok_Disk_init F_Disk_init B T_Disk XC_NoDisk XN_NoDisk C_is_within g_SEGMENTS g_PLACES g_LEAST_SEGMENTS g_MOST_SEGMENTS g_LEAST_PLACES g_MOST_PLACES, ⟨mk_Disk, a_Disk_init, i_Disk_init, kc_Disk⟩, kb_dflt lD_Disk_init rfl (fun us ws => [us.getD 0 Value.none, us.getD 1 Value.none, (Value.int 12 tD_Disk_init_1)]) (fun us ws => [us.getD 0 V.non, us.getD 1 V.non, (V.int 12)]) (fun r1 r2 => (.cons (vget r1 0) (.cons (vget r1 1) (.cons ⟨_, rfl⟩ .nil)))) (fun us ws h1 h2 => match us, ws, h1, h2 with | [_, _], [], _, _ => ⟨_, rfl, rfl⟩)⟩
  have I_Disk_kw0_places : MkrK P w K mg base (L2.CX P w) A_Disk 2 ["self", "segments", "places"] 0 ["places"] (fun us ws => [us.getD 0 V.non, (V.int 6), ws.getD 0 V.non]) (sp_Disk_init K A_Disk A_NoDisk) := ⟨_, _, (fun us ws => [us.getD 0 Value.none, (Value.int 6 tD_Disk_init_0), ws.getD 0 Value.none]), ok_Disk_init F_Disk_init B T_Disk XC_NoDisk XN_NoDisk C_is_within g_SEGMENTS g_PLACES g_LEAST_SEGMENTS g_MOST_SEGMENTS g_LEAST_PLACES g_MOST_PLACES, ⟨mk_Disk, a_Disk_init, i_Disk_init, kc_Disk⟩, kb_dflt lD_Disk_init rfl (fun us ws => [us.getD 0 Value.none, (Value.int 6 tD_Disk_init_0), ws.getD 0 Value.none]) (fun us ws => [us.getD 0 V.non, (V.int 6), ws.getD 0 V.non]) (fun r1 r2 => (.cons (vget r1 0) (.cons ⟨_, rfl⟩ (.cons (vget r2 0) .nil)))) (fun us ws h1 h2 => match us, ws, h1, h2 with | [_], [_], _, _ => ⟨_, rfl, rfl⟩)⟩
  have I_Disk_kw0_places_segments : MkrK P w K mg base (L2.CX P w) A_Disk 2 ["self", "segments", "places"] 0 ["places", "segments"] (fun us ws => [us.getD 0 V.non, ws.getD 1 V.non, ws.getD 0 V.non]) (sp_Disk_init K A_Disk A_NoDisk) := ⟨_, _, (fun us ws => [us.getD 0 Value.none, ws.getD 1 Value.none, ws.getD 0 Value.none]), ok_Disk_init F_Disk_init B T_Disk XC_NoDisk XN_NoDisk C_is_within g_SEGMENTS g_PLACES g_LEAST_SEGMENTS g_MOST_SEGMENTS g_LEAST_PLACES g_MOST_PLACES, ⟨mk_Disk, a_Disk_init, i_Disk_init, kc_Disk⟩, kb_dflt lD_Disk_init rfl (fun us ws => [us.getD 0 Value.none, ws.getD 1 Value.none, ws.getD 0 Value.none]) (fun us ws => [us.getD 0 V.non, ws.getD 1 V.non, ws.getD 0 V.non]) (fun r1 r2 => (.cons (vget r1 0) (.cons (vget r2 1) (.cons (vget r2 0) .nil)))) (fun us ws h1 h2 => match us, ws, h1, h2 with | [_], [_, _], _, _ => ⟨_, rfl, rfl⟩)⟩
  have I_Disk_kw1_places : MkrK P w K mg base (L2.CX P w) A_Disk 2 ["self", "segments", "places"] 1 ["places"] (fun us ws => [us.getD 0 V.non, us.getD 1 V.non, ws.getD 0 V.non]) (sp_Disk_init K A_Disk A_NoDisk) := ⟨_, _, (fun us ws => [us.getD 0 Value.none, us.getD 1 Value.none, ws.getD 0 Value.none]), ok_Disk_init F_Disk_init B T_Disk XC_NoDisk XN_NoDisk C_is_within g_SEGMENTS g_PLACES g_LEAST_SEGMENTS g_MOST_SEGMENTS g_LEAST_PLACES g_MOST_PLACES, ⟨mk_Disk, a_Disk_init, i_Disk_init, kc_Disk⟩, kb_dflt lD_Disk_init rfl (fun us ws => [us.getD 0 Value.none, us.getD 1 Value.none, ws.getD 0 Value.none]) (fun us ws => [us.getD 0 V.non, us.getD 1 V.non, ws.getD 0 V.non]) (fun r1 r2 => (.cons (vget r1 0) (.cons (vget r1 1) (.cons (vget r2 0) .nil)))) (fun us ws h1 h2 => match us, ws, h1, h2 with | [_, _], [_], _, _ => ⟨_, rfl, rfl⟩)⟩
  have F_Disk_segments := fun_mk (st := s_Disk_segments) l_Disk_segments c_Disk_segments k_Disk_segments
  have M_Disk_segments : Mth P w K mg base CX0 A_Disk "segments" 1 ["self"] (sp_Disk_segments A_Disk) := ⟨_, _, ok_Disk_segments F_Disk_segments B T_Disk, ⟨a_Disk_segments, i_Disk_segments, k_Disk_segments⟩, F_Disk_segments.binds (ps := ["self"]) fun _ _ _ _ _ _ us hl => match us, hl with | [_], _ => rfl⟩
  have F_Disk_places := fun_mk (st := s_Disk_places) l_Disk_places c_Disk_places k_Disk_places
  have M_Disk_places : Mth P w K mg base CX0 A_Disk "places" 1 ["self"] (sp_Disk_places A_Disk) := ⟨_, _, ok_Disk_places F_Disk_places B T_Disk, ⟨a_Disk_places, i_Disk_places, k_Disk_places⟩, F_Disk_places.binds (ps := ["self"]) fun _ _ _ _ _ _ us hl => match us, hl with | [_], _ => rfl⟩
  have F_Disk_row_of := fun_mk (st := s_Disk_row_of) l_Disk_row_of c_Disk_row_of k_Disk_row_of
  have M_Disk_row_of : Mth P w K mg base (L2.CX P w) A_Disk "row_of" 2 ["self", "segment"] (sp_Disk_row_of K A_Disk A_NoPlace) := ⟨_, _, ok_Disk_row_of F_Disk_row_of B T_Disk XC_NoPlace XN_NoPlace C_is_within, ⟨a_Disk_row_of, i_Disk_row_of, k_Disk_row_of⟩, F_Disk_row_of.binds (ps := ["self", "segment"]) fun _ _ _ _ _ _ us hl => match us, hl with | [_, _], _ => rfl⟩
  have F_Disk_next_place := fun_mk (st := s_Disk_next_place) l_Disk_next_place c_Disk_next_place k_Disk_next_place
  have M_Disk_next_place : Mth P w K mg base (L2.CX P w) A_Disk "next_place" 3 ["self", "segment"] (sp_Disk_next_place K A_Disk A_NoPlace) := ⟨_, _, ok_Disk_next_place F_Disk_next_place B T_Disk M_Disk_row_of, ⟨a_Disk_next_place, i_Disk_next_place, k_Disk_next_place⟩, F_Disk_next_place.binds (ps := ["self", "segment"]) fun _ _ _ _ _ _ us hl => match us, hl with | [_, _], _ => rfl⟩
  have F_Disk_told := fun_mk (st := s_Disk_told) l_Disk_told c_Disk_told k_Disk_told
  have M_Disk_told : Mth P w K mg base (L2.CX P w) A_Disk "told" 3 ["self", "segment", "place"] (sp_Disk_told K A_Disk A_NoPlace) := ⟨_, _, ok_Disk_told F_Disk_told B T_Disk M_Disk_row_of XC_NoPlace XN_NoPlace C_is_within, ⟨a_Disk_told, i_Disk_told, k_Disk_told⟩, F_Disk_told.binds (ps := ["self", "segment", "place"]) fun _ _ _ _ _ _ us hl => match us, hl with | [_, _, _], _ => rfl⟩
  have F_Disk_wear := fun_mk (st := s_Disk_wear) l_Disk_wear c_Disk_wear k_Disk_wear
  have M_Disk_wear : Mth P w K mg base (L2.CX P w) A_Disk "wear" 3 ["self", "segment"] (sp_Disk_wear K A_Disk A_NoPlace) := ⟨_, _, ok_Disk_wear F_Disk_wear B T_Disk M_Disk_row_of, ⟨a_Disk_wear, i_Disk_wear, k_Disk_wear⟩, F_Disk_wear.binds (ps := ["self", "segment"]) fun _ _ _ _ _ _ us hl => match us, hl with | [_, _], _ => rfl⟩
  have F_Disk_writes := fun_mk (st := s_Disk_writes) l_Disk_writes c_Disk_writes k_Disk_writes
  have M_Disk_writes : Mth P w K mg base CX0 A_Disk "writes" 1 ["self"] (sp_Disk_writes A_Disk) := ⟨_, _, ok_Disk_writes F_Disk_writes B T_Disk, ⟨a_Disk_writes, i_Disk_writes, k_Disk_writes⟩, F_Disk_writes.binds (ps := ["self"]) fun _ _ _ _ _ _ us hl => match us, hl with | [_], _ => rfl⟩
  have F_Disk_has_stopped := fun_mk (st := s_Disk_has_stopped) l_Disk_has_stopped c_Disk_has_stopped k_Disk_has_stopped
  have M_Disk_has_stopped : Mth P w K mg base CX0 A_Disk "has_stopped" 1 ["self"] (sp_Disk_has_stopped A_Disk) := ⟨_, _, ok_Disk_has_stopped F_Disk_has_stopped B T_Disk, ⟨a_Disk_has_stopped, i_Disk_has_stopped, k_Disk_has_stopped⟩, F_Disk_has_stopped.binds (ps := ["self"]) fun _ _ _ _ _ _ us hl => match us, hl with | [_], _ => rfl⟩
  have F_Disk_is_shut := fun_mk (st := s_Disk_is_shut) l_Disk_is_shut c_Disk_is_shut k_Disk_is_shut
  have M_Disk_is_shut : Mth P w K mg base CX0 A_Disk "is_shut" 1 ["self"] (sp_Disk_is_shut A_Disk) := ⟨_, _, ok_Disk_is_shut F_Disk_is_shut B T_Disk, ⟨a_Disk_is_shut, i_Disk_is_shut, k_Disk_is_shut⟩, F_Disk_is_shut.binds (ps := ["self"]) fun _ _ _ _ _ _ us hl => match us, hl with | [_], _ => rfl⟩
  have F_Disk_count_one := fun_mk (st := s_Disk_count_one) l_Disk_count_one c_Disk_count_one k_Disk_count_one
  have M_Disk_count_one : Mth P w K mg base CX0 A_Disk "count_one" 1 ["self"] (sp_Disk_count_one A_Disk) := ⟨_, _, ok_Disk_count_one F_Disk_count_one B T_Disk, ⟨a_Disk_count_one, i_Disk_count_one, k_Disk_count_one⟩, F_Disk_count_one.binds (ps := ["self"]) fun _ _ _ _ _ _ us hl => match us, hl with | [_], _ => rfl⟩
  have F_Disk_tear := fun_mk (st := s_Disk_tear) l_Disk_tear c_Disk_tear k_Disk_tear
  have M_Disk_tear : Mth P w K mg base CX0 A_Disk "tear" 1 ["self", "row", "text"] (sp_Disk_tear A_Disk) := ⟨_, _, ok_Disk_tear F_Disk_tear B T_Disk, ⟨a_Disk_tear, i_Disk_tear, k_Disk_tear⟩, F_Disk_tear.binds (ps := ["self", "row", "text"]) fun _ _ _ _ _ _ us hl => match us, hl with | [_, _, _], _ => rfl⟩
  have F_Disk_write := fun_mk (st := s_Disk_write) l_Disk_write c_Disk_write k_Disk_write
  have M_Disk_write : Mth P w K mg base (L2.CX P w) A_Disk "write" 3 ["self", "segment", "text"] (sp_Disk_write K A_Disk A_NoPlace A_BadText A_Full A_Stopped) := ⟨_, _, ok_Disk_write F_Disk_write B T_Disk M_Disk_row_of M_Disk_is_shut M_Disk_tear M_Disk_count_one XC_BadText XN_BadText XC_Full XN_Full XC_Stopped XN_Stopped XC_NoPlace g_LONGEST, ⟨a_Disk_write, i_Disk_write, k_Disk_write⟩, F_Disk_write.binds (ps := ["self", "segment", "text"]) fun _ _ _ _ _ _ us hl => match us, hl with | [_, _, _], _ => rfl⟩
  have F_Disk_erase := fun_mk (st := s_Disk_erase) l_Disk_erase c_Disk_erase k_Disk_erase
  have M_Disk_erase : Mth P w K mg base (L2.CX P w) A_Disk "erase" 3 ["self", "segment"] (sp_Disk_erase K A_Disk A_NoPlace A_Stopped) := ⟨_, _, ok_Disk_erase F_Disk_erase B T_Disk M_Disk_row_of M_Disk_is_shut M_Disk_count_one XC_Stopped XN_Stopped XC_NoPlace, ⟨a_Disk_erase, i_Disk_erase, k_Disk_erase⟩, F_Disk_erase.binds (ps := ["self", "segment"]) fun _ _ _ _ _ _ us hl => match us, hl with | [_, _], _ => rfl⟩
  have F_Disk_stop := fun_mk (st := s_Disk_stop) l_Disk_stop c_Disk_stop k_Disk_stop
  have M_Disk_stop_kw1 : MthK P w K mg base CX0 A_Disk "stop" 1 ["self", "many", "kept"] 1 [] (fun us ws => [us.getD 0 V.non, us.getD 1 V.non, (V.int 0)]) (sp_Disk_stop A_Disk) := ⟨_, _, (fun us ws => [us.getD 0 Value.none, us.getD 1 Value.none, (Value.int 0 tK_Disk_stop)]), ok_Disk_stop F_Disk_stop B T_Disk, ⟨a_Disk_stop, i_Disk_stop, k_Disk_stop⟩, kb_kwd (q := ("kept", Value.int 0 tK_Disk_stop)) lK_Disk_stop (fun us ws => [us.getD 0 Value.none, us.getD 1 Value.none, (Value.int 0 tK_Disk_stop)]) (fun us ws => [us.getD 0 V.non, us.getD 1 V.non, (V.int 0)]) (fun r1 r2 => (.cons (vget r1 0) (.cons (vget r1 1) (.cons ⟨_, rfl⟩ .nil)))) (fun us ws h1 h2 => match us, ws, h1, h2 with | [_, _], [], _, _ => ⟨_, _, _, _, _, _, rfl, rfl, rfl⟩)⟩
  have C_law_at : Cal P w K mg base CX0 "_law_at" 1 ["script", "k"] (sp_l_at K) := cal_mk X G a_l_at l_l_at c_l_at k_l_at (fun _ _ _ _ _ _ us hl => match us, hl with | [_, _], _ => rfl) (fun F => ok_l_at F B)
  have C_law_pot : Cal P w K mg base CX0 "_law_pot" 1 ["cell"] sp_l_pot := cal_mk X G a_l_pot l_l_pot c_l_pot k_l_pot (fun _ _ _ _ _ _ us hl => match us, hl with | [_], _ => rfl) (fun F => ok_l_pot F B)
  have C_law_take : Cal P w K mg base CX0 "_law_take" 1 ["pot", "many"] sp_l_take := cal_mk X G a_l_take l_l_take c_l_take k_l_take (fun _ _ _ _ _ _ us hl => match us, hl with | [_, _], _ => rfl) (fun F => ok_l_take F B)
  have F_l_class := fun_mk (st := s_l_class) l_l_class c_l_class k_l_class
  have E_l_class : CalE P w K mg base "_law_class" 1 ["error"] (sp_l_class A_BadText A_Full A_NoDisk A_NoPlace A_Stopped) := ⟨f_l_class, _, ok_l_class F_l_class B XC_BadText XC_Full XC_NoDisk XC_NoPlace XC_Stopped XC_DiskError XC_NoMount XC_NoRecord XC_NoRoom XC_NotBlank XC_Unreadable XC_TreeError XC_NoTree XC_NoRow XC_NoHouse XC_Halted XK_BadText_BadText XK_BadText_Full XK_BadText_NoDisk XK_BadText_NoPlace XK_BadText_Stopped XK_BadText_DiskError XK_BadText_ValueError XK_BadText_NoMount XK_BadText_NoRecord XK_BadText_NoRoom XK_BadText_NotBlank XK_BadText_Unreadable XK_BadText_TreeError XK_BadText_NoTree XK_BadText_NoRow XK_BadText_NoHouse XK_BadText_Halted XK_Full_BadText XK_Full_Full XK_Full_NoDisk XK_Full_NoPlace XK_Full_Stopped XK_Full_DiskError XK_Full_ValueError XK_Full_NoMount XK_Full_NoRecord XK_Full_NoRoom XK_Full_NotBlank XK_Full_Unreadable XK_Full_TreeError XK_Full_NoTree XK_Full_NoRow XK_Full_NoHouse XK_Full_Halted XK_NoDisk_BadText XK_NoDisk_Full XK_NoDisk_NoDisk XK_NoDisk_NoPlace XK_NoDisk_Stopped XK_NoDisk_DiskError XK_NoDisk_ValueError XK_NoDisk_NoMount XK_NoDisk_NoRecord XK_NoDisk_NoRoom XK_NoDisk_NotBlank XK_NoDisk_Unreadable XK_NoDisk_TreeError XK_NoDisk_NoTree XK_NoDisk_NoRow XK_NoDisk_NoHouse XK_NoDisk_Halted XK_NoPlace_BadText XK_NoPlace_Full XK_NoPlace_NoDisk XK_NoPlace_NoPlace XK_NoPlace_Stopped XK_NoPlace_DiskError XK_NoPlace_ValueError XK_NoPlace_NoMount XK_NoPlace_NoRecord XK_NoPlace_NoRoom XK_NoPlace_NotBlank XK_NoPlace_Unreadable XK_NoPlace_TreeError XK_NoPlace_NoTree XK_NoPlace_NoRow XK_NoPlace_NoHouse XK_NoPlace_Halted XK_Stopped_BadText XK_Stopped_Full XK_Stopped_NoDisk XK_Stopped_NoPlace XK_Stopped_Stopped XK_Stopped_DiskError XK_Stopped_ValueError XK_Stopped_NoMount XK_Stopped_NoRecord XK_Stopped_NoRoom XK_Stopped_NotBlank XK_Stopped_Unreadable XK_Stopped_TreeError XK_Stopped_NoTree XK_Stopped_NoRow XK_Stopped_NoHouse XK_Stopped_Halted BV, PySem.W.mg_of X G a_l_class, k_l_class, F_l_class.binds (fun _ _ _ _ _ _ us hl => match us, hl with | [_], _ => rfl)⟩
  have F_l_tried := fun_mk (st := s_l_tried) l_l_tried c_l_tried k_l_tried
  have L_l_tried := ok_l_tried (w := w) (P := P) (base := base) F_l_tried B XC_CleanedError XM_BadText_CleanedError XM_Full_CleanedError XM_NoDisk_CleanedError XM_NoPlace_CleanedError XM_Stopped_CleanedError E_l_class (PySem.W.mg_of X G a_l_tried) (F_l_tried.binds (fun _ _ _ _ _ _ us hl => match us, hl with | [_], _ => rfl))
  have C_law_no_size : Cal P w K mg base CX0 "_law_no_size" 2 ["pot", "least", "most"] (sp_l_no_size K) := cal_mk X G a_l_no_size l_l_no_size c_l_no_size k_l_no_size (fun _ _ _ _ _ _ us hl => match us, hl with | [_, _, _], _ => rfl) (fun F => ok_l_no_size F B C_law_take)
  have C_law_whole : Cal P w K mg base CX0 "_law_whole" 1 ["thing"] sp_l_whole := cal_mk X G a_l_whole l_l_whole c_l_whole k_l_whole (fun _ _ _ _ _ _ us hl => match us, hl with | [_], _ => rfl) (fun F => ok_l_whole F B)
  have C_law_reads : Cal P w K mg base CX0 "_law_reads" 4 ["disk", "model"] (sp_l_reads_k22 A_Disk) := cal_mk X G a_l_reads l_l_reads c_l_reads k_l_reads (fun _ _ _ _ _ _ us hl => match us, hl with | [_, _], _ => rfl) (fun F => ok_l_reads F B T_Disk M_Disk_segments M_Disk_places M_Disk_writes M_Disk_has_stopped M_Disk_next_place M_Disk_wear M_Disk_told C_law_whole)
  have C_law_empty : Cal P w K mg base CX0 "_law_empty" 1 ["many", "wide"] sp_l_model_k22 := cal_mk X G a_l_empty l_l_empty c_l_empty k_l_empty (fun _ _ _ _ _ _ us hl => match us, hl with | [_, _], _ => rfl) (fun F => ok_l_empty F B)
  have C_law_made : Cal P w K mg base CX0 "_law_made" 4 ["pot", "many", "wide"] (sp_l_made_k26 A_Disk) := cal_mk X G a_l_made l_l_made c_l_made k_l_made (fun _ _ _ _ _ _ us hl => match us, hl with | [_, _, _], _ => rfl) (fun F => ok_l_made F B T_Disk I_Disk_kw0 I_Disk_kw1 I_Disk_kw0_places I_Disk_kw0_places_segments I_Disk_kw1_places I_Disk_kw2 C_law_take g_SEGMENTS g_PLACES)
  have C_law_refused : Cal P w K mg base CX0 "_law_refused" 6 ["pot"] (sp_l_refused_k26 T) := ⟨f_l_refused, _, ok_l_refused (funl_mk (st := s_l_refused) l_l_refused c_l_refused rfl) B TB_l_refused hT_l_refused hu_l_refused T_Disk I_Disk_kw2 I_Disk_kw0_places C_law_take C_law_no_size L_l_tried, PySem.W.mg_of X G a_l_refused, k_l_refused, (fun_mk (st := s_l_refused) l_l_refused c_l_refused k_l_refused).binds (fun _ _ _ _ _ _ us hl => match us, hl with | [_], _ => rfl)⟩
  have C_law_apart : Cal P w K mg base CX0 "_law_apart" 7 ["one", "two", "many", "wide"] (sp_l_apart_k26 A_Disk T) := ⟨f_l_apart, _, ok_l_apart (funl_mk (st := s_l_apart) l_l_apart c_l_apart rfl) B TB_l_apart hT_l_apart hu_l_apart T_Disk M_Disk_write M_Disk_stop_kw1 M_Disk_erase M_Disk_next_place M_Disk_told M_Disk_writes C_law_reads L_l_tried C_law_empty, PySem.W.mg_of X G a_l_apart, k_l_apart, (fun_mk (st := s_l_apart) l_l_apart c_l_apart k_l_apart).binds (fun _ _ _ _ _ _ us hl => match us, hl with | [_, _, _, _], _ => rfl)⟩
  exact ok_law F_law B C_law_pot C_law_made C_law_whole C_law_refused C_law_at C_law_take C_law_reads C_law_apart C_law_empty g_SEGMENTS g_PLACES
end Cl
open PySem PySem.W PyProof.Rows
set_option maxRecDepth 100000 in
set_option maxHeartbeats 0 in
theorem PySem.Challenge.cw_cleanedlog_k26_sizes_holds : PySem.Challenge.rw_cleanedlog_k26_sizes.Holds := by
  w_on; o_law; k_head; (case hw => w_witness2)
  k_fill
  refine Cl.gn_walkT (l := PySem.Challenge.rw_cleanedlog_k26_sizes) (n := 63) (k := 8) (x := "script") (CX := fun _ => L2.CX0) rfl (by decide) rfl ⟨rfl, by decide, by decide⟩ (fun w h Y => PySem.W.km_in_of Y) ?F (fun _ _ _ _ _ z => z)
  case F =>
    intro w mg fa h Y KX G hmg
    refine' Cl.all_mk KX G hmg ?z_len ?z_max ?z_min ?z_abs ?z_divmod ?z_range ?z_ord ?z_isinstance ?z_int ?z_str ?z_bool ?z_list ?z_tuple ?z_dict ?z_set ?z_all ?z_any ?z_sorted ?z_enumerate ?z_zip ?z_repr ?z_sum ?a_SEGMENTS ?a_PLACES ?a_LEAST_SEGMENTS ?a_MOST_SEGMENTS ?a_LEAST_PLACES ?a_MOST_PLACES ?a_LONGEST ?z_ValueError ?xa_CleanedError ?xl_CleanedError ?xs_CleanedError ?xg_CleanedError ?xh_CleanedError ?xe_CleanedError ?xt_CleanedError ?xk_CleanedError ?xd_CleanedError ?xc_CleanedError ?xo_CleanedError ?xa_DiskError ?xl_DiskError ?xs_DiskError ?xg_DiskError ?xh_DiskError ?xe_DiskError ?xt_DiskError ?xk_DiskError ?xd_DiskError ?xc_DiskError ?xo_DiskError ?xa_NoDisk ?xl_NoDisk ?xs_NoDisk ?xg_NoDisk ?xh_NoDisk ?xe_NoDisk ?xt_NoDisk ?xk_NoDisk ?xd_NoDisk ?xc_NoDisk ?xo_NoDisk ?xa_NoPlace ?xl_NoPlace ?xs_NoPlace ?xg_NoPlace ?xh_NoPlace ?xe_NoPlace ?xt_NoPlace ?xk_NoPlace ?xd_NoPlace ?xc_NoPlace ?xo_NoPlace ?xa_BadText ?xl_BadText ?xs_BadText ?xg_BadText ?xh_BadText ?xe_BadText ?xt_BadText ?xk_BadText ?xd_BadText ?xc_BadText ?xo_BadText ?xa_Full ?xl_Full ?xs_Full ?xg_Full ?xh_Full ?xe_Full ?xt_Full ?xk_Full ?xd_Full ?xc_Full ?xo_Full ?xa_Stopped ?xl_Stopped ?xs_Stopped ?xg_Stopped ?xh_Stopped ?xe_Stopped ?xt_Stopped ?xk_Stopped ?xd_Stopped ?xc_Stopped ?xo_Stopped ?xa_NoMount ?xl_NoMount ?xs_NoMount ?xg_NoMount ?xh_NoMount ?xe_NoMount ?xt_NoMount ?xk_NoMount ?xd_NoMount ?xc_NoMount ?xo_NoMount ?xa_NoRecord ?xl_NoRecord ?xs_NoRecord ?xg_NoRecord ?xh_NoRecord ?xe_NoRecord ?xt_NoRecord ?xk_NoRecord ?xd_NoRecord ?xc_NoRecord ?xo_NoRecord ?xa_NoRoom ?xl_NoRoom ?xs_NoRoom ?xg_NoRoom ?xh_NoRoom ?xe_NoRoom ?xt_NoRoom ?xk_NoRoom ?xd_NoRoom ?xc_NoRoom ?xo_NoRoom ?xa_NotBlank ?xl_NotBlank ?xs_NotBlank ?xg_NotBlank ?xh_NotBlank ?xe_NotBlank ?xt_NotBlank ?xk_NotBlank ?xd_NotBlank ?xc_NotBlank ?xo_NotBlank ?xa_Unreadable ?xl_Unreadable ?xs_Unreadable ?xg_Unreadable ?xh_Unreadable ?xe_Unreadable ?xt_Unreadable ?xk_Unreadable ?xd_Unreadable ?xc_Unreadable ?xo_Unreadable ?xa_TreeError ?xl_TreeError ?xs_TreeError ?xg_TreeError ?xh_TreeError ?xe_TreeError ?xt_TreeError ?xk_TreeError ?xd_TreeError ?xc_TreeError ?xo_TreeError ?xa_NoTree ?xl_NoTree ?xs_NoTree ?xg_NoTree ?xh_NoTree ?xe_NoTree ?xt_NoTree ?xk_NoTree ?xd_NoTree ?xc_NoTree ?xo_NoTree ?xa_NoRow ?xl_NoRow ?xs_NoRow ?xg_NoRow ?xh_NoRow ?xe_NoRow ?xt_NoRow ?xk_NoRow ?xd_NoRow ?xc_NoRow ?xo_NoRow ?xa_NoHouse ?xl_NoHouse ?xs_NoHouse ?xg_NoHouse ?xh_NoHouse ?xe_NoHouse ?xt_NoHouse ?xk_NoHouse ?xd_NoHouse ?xc_NoHouse ?xo_NoHouse ?xa_Halted ?xl_Halted ?xs_Halted ?xg_Halted ?xh_Halted ?xe_Halted ?xt_Halted ?xk_Halted ?xd_Halted ?xc_Halted ?xo_Halted ?hXN_NoDisk ?hXN_NoPlace ?hXN_BadText ?hXN_Full ?hXN_Stopped ?hXK_BadText_BadText ?hXS_BadText ?hXK_BadText_Full ?hXK_BadText_NoDisk ?hXK_BadText_NoPlace ?hXK_BadText_Stopped ?hXK_BadText_DiskError ?hXK_BadText_ValueError ?hXK_BadText_NoMount ?hXK_BadText_NoRecord ?hXK_BadText_NoRoom ?hXK_BadText_NotBlank ?hXK_BadText_Unreadable ?hXK_BadText_TreeError ?hXK_BadText_NoTree ?hXK_BadText_NoRow ?hXK_BadText_NoHouse ?hXK_BadText_Halted ?hXK_Full_BadText ?hXS_Full ?hXK_Full_Full ?hXK_Full_NoDisk ?hXK_Full_NoPlace ?hXK_Full_Stopped ?hXK_Full_DiskError ?hXK_Full_ValueError ?hXK_Full_NoMount ?hXK_Full_NoRecord ?hXK_Full_NoRoom ?hXK_Full_NotBlank ?hXK_Full_Unreadable ?hXK_Full_TreeError ?hXK_Full_NoTree ?hXK_Full_NoRow ?hXK_Full_NoHouse ?hXK_Full_Halted ?hXK_NoDisk_BadText ?hXS_NoDisk ?hXK_NoDisk_Full ?hXK_NoDisk_NoDisk ?hXK_NoDisk_NoPlace ?hXK_NoDisk_Stopped ?hXK_NoDisk_DiskError ?hXK_NoDisk_ValueError ?hXK_NoDisk_NoMount ?hXK_NoDisk_NoRecord ?hXK_NoDisk_NoRoom ?hXK_NoDisk_NotBlank ?hXK_NoDisk_Unreadable ?hXK_NoDisk_TreeError ?hXK_NoDisk_NoTree ?hXK_NoDisk_NoRow ?hXK_NoDisk_NoHouse ?hXK_NoDisk_Halted ?hXK_NoPlace_BadText ?hXS_NoPlace ?hXK_NoPlace_Full ?hXK_NoPlace_NoDisk ?hXK_NoPlace_NoPlace ?hXK_NoPlace_Stopped ?hXK_NoPlace_DiskError ?hXK_NoPlace_ValueError ?hXK_NoPlace_NoMount ?hXK_NoPlace_NoRecord ?hXK_NoPlace_NoRoom ?hXK_NoPlace_NotBlank ?hXK_NoPlace_Unreadable ?hXK_NoPlace_TreeError ?hXK_NoPlace_NoTree ?hXK_NoPlace_NoRow ?hXK_NoPlace_NoHouse ?hXK_NoPlace_Halted ?hXK_Stopped_BadText ?hXS_Stopped ?hXK_Stopped_Full ?hXK_Stopped_NoDisk ?hXK_Stopped_NoPlace ?hXK_Stopped_Stopped ?hXK_Stopped_DiskError ?hXK_Stopped_ValueError ?hXK_Stopped_NoMount ?hXK_Stopped_NoRecord ?hXK_Stopped_NoRoom ?hXK_Stopped_NotBlank ?hXK_Stopped_Unreadable ?hXK_Stopped_TreeError ?hXK_Stopped_NoTree ?hXK_Stopped_NoRow ?hXK_Stopped_NoHouse ?hXK_Stopped_Halted ?hXM_BadText_CleanedError ?hXM_Full_CleanedError ?hXM_NoDisk_CleanedError ?hXM_NoPlace_CleanedError ?hXM_Stopped_CleanedError ?ig_ ?it_ ?ac_Disk ?pg_Disk ?hd_Disk ?po_Disk ?sa_Disk ?mk_Disk ?kc_Disk ?ic_Disk ?im_Disk ?n_Disk_written_rows ?n_Disk_erasings ?n_Disk_many_places ?n_Disk_count_of_writes ?n_Disk_writes_left ?n_Disk_signs_kept ?n_Disk_is_over ?a_is_within ?l_is_within ?c_is_within ?k_is_within ?a_Disk_init ?i_Disk_init ?l_Disk_init ?lD_Disk_init ?c_Disk_init ?k_Disk_init ?a_Disk_segments ?i_Disk_segments ?l_Disk_segments ?c_Disk_segments ?k_Disk_segments ?a_Disk_places ?i_Disk_places ?l_Disk_places ?c_Disk_places ?k_Disk_places ?a_Disk_row_of ?i_Disk_row_of ?l_Disk_row_of ?c_Disk_row_of ?k_Disk_row_of ?a_Disk_next_place ?i_Disk_next_place ?l_Disk_next_place ?c_Disk_next_place ?k_Disk_next_place ?a_Disk_told ?i_Disk_told ?l_Disk_told ?c_Disk_told ?k_Disk_told ?a_Disk_wear ?i_Disk_wear ?l_Disk_wear ?c_Disk_wear ?k_Disk_wear ?a_Disk_writes ?i_Disk_writes ?l_Disk_writes ?c_Disk_writes ?k_Disk_writes ?a_Disk_has_stopped ?i_Disk_has_stopped ?l_Disk_has_stopped ?c_Disk_has_stopped ?k_Disk_has_stopped ?a_Disk_is_shut ?i_Disk_is_shut ?l_Disk_is_shut ?c_Disk_is_shut ?k_Disk_is_shut ?a_Disk_count_one ?i_Disk_count_one ?l_Disk_count_one ?c_Disk_count_one ?k_Disk_count_one ?a_Disk_tear ?i_Disk_tear ?l_Disk_tear ?c_Disk_tear ?k_Disk_tear ?a_Disk_write ?i_Disk_write ?l_Disk_write ?c_Disk_write ?k_Disk_write ?a_Disk_erase ?i_Disk_erase ?l_Disk_erase ?c_Disk_erase ?k_Disk_erase ?a_Disk_stop ?i_Disk_stop ?l_Disk_stop ?c_Disk_stop ?k_Disk_stop ?lK_Disk_stop ?a_l_at ?l_l_at ?c_l_at ?k_l_at ?a_l_pot ?l_l_pot ?c_l_pot ?k_l_pot ?a_l_take ?l_l_take ?c_l_take ?k_l_take ?a_l_class ?l_l_class ?c_l_class ?k_l_class ?a_l_tried ?l_l_tried ?c_l_tried ?k_l_tried ?a_l_no_size ?l_l_no_size ?c_l_no_size ?k_l_no_size ?a_l_whole ?l_l_whole ?c_l_whole ?k_l_whole ?a_l_reads ?l_l_reads ?c_l_reads ?k_l_reads ?a_l_empty ?l_l_empty ?c_l_empty ?k_l_empty ?a_l_made ?l_l_made ?c_l_made ?k_l_made ?a_l_refused ?l_l_refused ?c_l_refused ?k_l_refused ?lc_l_refused ?vp_l_refused ?ch_l_refused ?np_l_refused ?hP_l_refused ?a_l_apart ?l_l_apart ?c_l_apart ?k_l_apart ?lc_l_apart ?vp_l_apart ?ch_l_apart ?np_l_apart ?hP_l_apart ?a_law ?l_law ?c_law ?k_law ?ne_0_1
    (case z_len => k_is); (case z_max => k_is); (case z_min => k_is); (case z_abs => k_is); (case z_divmod => k_is); (case z_range => k_is); (case z_ord => k_is); (case z_isinstance => k_is); (case z_int => k_is); (case z_str => k_is); (case z_bool => k_is); (case z_list => k_is); (case z_tuple => k_is); (case z_dict => k_is); (case z_set => k_is); (case z_all => k_is); (case z_any => k_is); (case z_sorted => k_is); (case z_enumerate => k_is); (case z_zip => k_is); (case z_repr => k_is); (case z_sum => k_is); (case a_SEGMENTS => k_is); (case a_PLACES => k_is); (case a_LEAST_SEGMENTS => k_is); (case a_MOST_SEGMENTS => k_is); (case a_LEAST_PLACES => k_is); (case a_MOST_PLACES => k_is); (case a_LONGEST => k_is); (case z_ValueError => k_is); (case xa_CleanedError => k_is); (case xl_CleanedError => k_is); (case xs_CleanedError => k_is); (case xg_CleanedError => k_is); (case xh_CleanedError => k_is); (case xe_CleanedError => k_is); (case xt_CleanedError => k_is); (case xk_CleanedError => k_is); (case xd_CleanedError => k_is); (case xc_CleanedError => k_is); (case xo_CleanedError => k_is); (case xa_DiskError => k_is); (case xl_DiskError => k_is); (case xs_DiskError => k_is); (case xg_DiskError => k_is); (case xh_DiskError => k_is); (case xe_DiskError => k_is); (case xt_DiskError => k_is); (case xk_DiskError => k_is); (case xd_DiskError => k_is); (case xc_DiskError => k_is); (case xo_DiskError => k_is); (case xa_NoDisk => k_is); (case xl_NoDisk => k_is); (case xs_NoDisk => k_is); (case xg_NoDisk => k_is); (case xh_NoDisk => k_is); (case xe_NoDisk => k_is); (case xt_NoDisk => k_is); (case xk_NoDisk => k_is); (case xd_NoDisk => k_is); (case xc_NoDisk => k_is); (case xo_NoDisk => k_is); (case xa_NoPlace => k_is); (case xl_NoPlace => k_is); (case xs_NoPlace => k_is); (case xg_NoPlace => k_is); (case xh_NoPlace => k_is); (case xe_NoPlace => k_is); (case xt_NoPlace => k_is); (case xk_NoPlace => k_is); (case xd_NoPlace => k_is); (case xc_NoPlace => k_is); (case xo_NoPlace => k_is); (case xa_BadText => k_is); (case xl_BadText => k_is); (case xs_BadText => k_is); (case xg_BadText => k_is); (case xh_BadText => k_is); (case xe_BadText => k_is); (case xt_BadText => k_is); (case xk_BadText => k_is); (case xd_BadText => k_is); (case xc_BadText => k_is); (case xo_BadText => k_is); (case xa_Full => k_is); (case xl_Full => k_is); (case xs_Full => k_is); (case xg_Full => k_is); (case xh_Full => k_is); (case xe_Full => k_is); (case xt_Full => k_is); (case xk_Full => k_is); (case xd_Full => k_is); (case xc_Full => k_is); (case xo_Full => k_is); (case xa_Stopped => k_is); (case xl_Stopped => k_is); (case xs_Stopped => k_is); (case xg_Stopped => k_is); (case xh_Stopped => k_is); (case xe_Stopped => k_is); (case xt_Stopped => k_is); (case xk_Stopped => k_is); (case xd_Stopped => k_is); (case xc_Stopped => k_is); (case xo_Stopped => k_is); (case xa_NoMount => k_is); (case xl_NoMount => k_is); (case xs_NoMount => k_is); (case xg_NoMount => k_is); (case xh_NoMount => k_is); (case xe_NoMount => k_is); (case xt_NoMount => k_is); (case xk_NoMount => k_is); (case xd_NoMount => k_is); (case xc_NoMount => k_is); (case xo_NoMount => k_is); (case xa_NoRecord => k_is); (case xl_NoRecord => k_is); (case xs_NoRecord => k_is); (case xg_NoRecord => k_is); (case xh_NoRecord => k_is); (case xe_NoRecord => k_is); (case xt_NoRecord => k_is); (case xk_NoRecord => k_is); (case xd_NoRecord => k_is); (case xc_NoRecord => k_is); (case xo_NoRecord => k_is); (case xa_NoRoom => k_is); (case xl_NoRoom => k_is); (case xs_NoRoom => k_is); (case xg_NoRoom => k_is); (case xh_NoRoom => k_is); (case xe_NoRoom => k_is); (case xt_NoRoom => k_is); (case xk_NoRoom => k_is); (case xd_NoRoom => k_is); (case xc_NoRoom => k_is); (case xo_NoRoom => k_is); (case xa_NotBlank => k_is); (case xl_NotBlank => k_is); (case xs_NotBlank => k_is); (case xg_NotBlank => k_is); (case xh_NotBlank => k_is); (case xe_NotBlank => k_is); (case xt_NotBlank => k_is); (case xk_NotBlank => k_is); (case xd_NotBlank => k_is); (case xc_NotBlank => k_is); (case xo_NotBlank => k_is); (case xa_Unreadable => k_is); (case xl_Unreadable => k_is); (case xs_Unreadable => k_is); (case xg_Unreadable => k_is); (case xh_Unreadable => k_is); (case xe_Unreadable => k_is); (case xt_Unreadable => k_is); (case xk_Unreadable => k_is); (case xd_Unreadable => k_is); (case xc_Unreadable => k_is); (case xo_Unreadable => k_is); (case xa_TreeError => k_is); (case xl_TreeError => k_is); (case xs_TreeError => k_is); (case xg_TreeError => k_is); (case xh_TreeError => k_is); (case xe_TreeError => k_is); (case xt_TreeError => k_is); (case xk_TreeError => k_is); (case xd_TreeError => k_is); (case xc_TreeError => k_is); (case xo_TreeError => k_is); (case xa_NoTree => k_is); (case xl_NoTree => k_is); (case xs_NoTree => k_is); (case xg_NoTree => k_is); (case xh_NoTree => k_is); (case xe_NoTree => k_is); (case xt_NoTree => k_is); (case xk_NoTree => k_is); (case xd_NoTree => k_is); (case xc_NoTree => k_is); (case xo_NoTree => k_is); (case xa_NoRow => k_is); (case xl_NoRow => k_is); (case xs_NoRow => k_is); (case xg_NoRow => k_is); (case xh_NoRow => k_is); (case xe_NoRow => k_is); (case xt_NoRow => k_is); (case xk_NoRow => k_is); (case xd_NoRow => k_is); (case xc_NoRow => k_is); (case xo_NoRow => k_is); (case xa_NoHouse => k_is); (case xl_NoHouse => k_is); (case xs_NoHouse => k_is); (case xg_NoHouse => k_is); (case xh_NoHouse => k_is); (case xe_NoHouse => k_is); (case xt_NoHouse => k_is); (case xk_NoHouse => k_is); (case xd_NoHouse => k_is); (case xc_NoHouse => k_is); (case xo_NoHouse => k_is); (case xa_Halted => k_is); (case xl_Halted => k_is); (case xs_Halted => k_is); (case xg_Halted => k_is); (case xh_Halted => k_is); (case xe_Halted => k_is); (case xt_Halted => k_is); (case xk_Halted => k_is); (case xd_Halted => k_is); (case xc_Halted => k_is); (case xo_Halted => k_is); (case hXN_NoDisk => kernel_rfl); (case hXN_NoPlace => kernel_rfl); (case hXN_BadText => kernel_rfl); (case hXN_Full => kernel_rfl); (case hXN_Stopped => kernel_rfl); (case hXK_BadText_BadText => k_is); (case hXS_BadText => k_is); (case hXK_BadText_Full => k_is); (case hXK_BadText_NoDisk => k_is); (case hXK_BadText_NoPlace => k_is); (case hXK_BadText_Stopped => k_is); (case hXK_BadText_DiskError => k_is); (case hXK_BadText_ValueError => k_is); (case hXK_BadText_NoMount => k_is); (case hXK_BadText_NoRecord => k_is); (case hXK_BadText_NoRoom => k_is); (case hXK_BadText_NotBlank => k_is); (case hXK_BadText_Unreadable => k_is); (case hXK_BadText_TreeError => k_is); (case hXK_BadText_NoTree => k_is); (case hXK_BadText_NoRow => k_is); (case hXK_BadText_NoHouse => k_is); (case hXK_BadText_Halted => k_is); (case hXK_Full_BadText => k_is); (case hXS_Full => k_is); (case hXK_Full_Full => k_is); (case hXK_Full_NoDisk => k_is); (case hXK_Full_NoPlace => k_is); (case hXK_Full_Stopped => k_is); (case hXK_Full_DiskError => k_is); (case hXK_Full_ValueError => k_is); (case hXK_Full_NoMount => k_is); (case hXK_Full_NoRecord => k_is); (case hXK_Full_NoRoom => k_is); (case hXK_Full_NotBlank => k_is); (case hXK_Full_Unreadable => k_is); (case hXK_Full_TreeError => k_is); (case hXK_Full_NoTree => k_is); (case hXK_Full_NoRow => k_is); (case hXK_Full_NoHouse => k_is); (case hXK_Full_Halted => k_is); (case hXK_NoDisk_BadText => k_is); (case hXS_NoDisk => k_is); (case hXK_NoDisk_Full => k_is); (case hXK_NoDisk_NoDisk => k_is); (case hXK_NoDisk_NoPlace => k_is); (case hXK_NoDisk_Stopped => k_is); (case hXK_NoDisk_DiskError => k_is); (case hXK_NoDisk_ValueError => k_is); (case hXK_NoDisk_NoMount => k_is); (case hXK_NoDisk_NoRecord => k_is); (case hXK_NoDisk_NoRoom => k_is); (case hXK_NoDisk_NotBlank => k_is); (case hXK_NoDisk_Unreadable => k_is); (case hXK_NoDisk_TreeError => k_is); (case hXK_NoDisk_NoTree => k_is); (case hXK_NoDisk_NoRow => k_is); (case hXK_NoDisk_NoHouse => k_is); (case hXK_NoDisk_Halted => k_is); (case hXK_NoPlace_BadText => k_is); (case hXS_NoPlace => k_is); (case hXK_NoPlace_Full => k_is); (case hXK_NoPlace_NoDisk => k_is); (case hXK_NoPlace_NoPlace => k_is); (case hXK_NoPlace_Stopped => k_is); (case hXK_NoPlace_DiskError => k_is); (case hXK_NoPlace_ValueError => k_is); (case hXK_NoPlace_NoMount => k_is); (case hXK_NoPlace_NoRecord => k_is); (case hXK_NoPlace_NoRoom => k_is); (case hXK_NoPlace_NotBlank => k_is); (case hXK_NoPlace_Unreadable => k_is); (case hXK_NoPlace_TreeError => k_is); (case hXK_NoPlace_NoTree => k_is); (case hXK_NoPlace_NoRow => k_is); (case hXK_NoPlace_NoHouse => k_is); (case hXK_NoPlace_Halted => k_is); (case hXK_Stopped_BadText => k_is); (case hXS_Stopped => k_is); (case hXK_Stopped_Full => k_is); (case hXK_Stopped_NoDisk => k_is); (case hXK_Stopped_NoPlace => k_is); (case hXK_Stopped_Stopped => k_is); (case hXK_Stopped_DiskError => k_is); (case hXK_Stopped_ValueError => k_is); (case hXK_Stopped_NoMount => k_is); (case hXK_Stopped_NoRecord => k_is); (case hXK_Stopped_NoRoom => k_is); (case hXK_Stopped_NotBlank => k_is); (case hXK_Stopped_Unreadable => k_is); (case hXK_Stopped_TreeError => k_is); (case hXK_Stopped_NoTree => k_is); (case hXK_Stopped_NoRow => k_is); (case hXK_Stopped_NoHouse => k_is); (case hXK_Stopped_Halted => k_is); (case hXM_BadText_CleanedError => k_is); (case hXM_Full_CleanedError => k_is); (case hXM_NoDisk_CleanedError => k_is); (case hXM_NoPlace_CleanedError => k_is); (case hXM_Stopped_CleanedError => k_is); (case ig_ => k_is); (case it_ => k_is); (case ac_Disk => k_is); (case pg_Disk => k_is); (case hd_Disk => k_is); (case po_Disk => k_is); (case sa_Disk => k_is); (case mk_Disk => k_is); (case kc_Disk => k_is); (case ic_Disk => k_is); (case im_Disk => k_is); (case n_Disk_written_rows => k_is); (case n_Disk_erasings => k_is); (case n_Disk_many_places => k_is); (case n_Disk_count_of_writes => k_is); (case n_Disk_writes_left => k_is); (case n_Disk_signs_kept => k_is); (case n_Disk_is_over => k_is); (case a_is_within => k_is); (case l_is_within => k_is); (case c_is_within => k_is); (case k_is_within => k_is); (case a_Disk_init => k_is); (case i_Disk_init => k_is); (case l_Disk_init => k_is); (case lD_Disk_init => k_is); (case c_Disk_init => k_is); (case k_Disk_init => k_is); (case a_Disk_segments => k_is); (case i_Disk_segments => k_is); (case l_Disk_segments => k_is); (case c_Disk_segments => k_is); (case k_Disk_segments => k_is); (case a_Disk_places => k_is); (case i_Disk_places => k_is); (case l_Disk_places => k_is); (case c_Disk_places => k_is); (case k_Disk_places => k_is); (case a_Disk_row_of => k_is); (case i_Disk_row_of => k_is); (case l_Disk_row_of => k_is); (case c_Disk_row_of => k_is); (case k_Disk_row_of => k_is); (case a_Disk_next_place => k_is); (case i_Disk_next_place => k_is); (case l_Disk_next_place => k_is); (case c_Disk_next_place => k_is); (case k_Disk_next_place => k_is); (case a_Disk_told => k_is); (case i_Disk_told => k_is); (case l_Disk_told => k_is); (case c_Disk_told => k_is); (case k_Disk_told => k_is); (case a_Disk_wear => k_is); (case i_Disk_wear => k_is); (case l_Disk_wear => k_is); (case c_Disk_wear => k_is); (case k_Disk_wear => k_is); (case a_Disk_writes => k_is); (case i_Disk_writes => k_is); (case l_Disk_writes => k_is); (case c_Disk_writes => k_is); (case k_Disk_writes => k_is); (case a_Disk_has_stopped => k_is); (case i_Disk_has_stopped => k_is); (case l_Disk_has_stopped => k_is); (case c_Disk_has_stopped => k_is); (case k_Disk_has_stopped => k_is); (case a_Disk_is_shut => k_is); (case i_Disk_is_shut => k_is); (case l_Disk_is_shut => k_is); (case c_Disk_is_shut => k_is); (case k_Disk_is_shut => k_is); (case a_Disk_count_one => k_is); (case i_Disk_count_one => k_is); (case l_Disk_count_one => k_is); (case c_Disk_count_one => k_is); (case k_Disk_count_one => k_is); (case a_Disk_tear => k_is); (case i_Disk_tear => k_is); (case l_Disk_tear => k_is); (case c_Disk_tear => k_is); (case k_Disk_tear => k_is); (case a_Disk_write => k_is); (case i_Disk_write => k_is); (case l_Disk_write => k_is); (case c_Disk_write => k_is); (case k_Disk_write => k_is); (case a_Disk_erase => k_is); (case i_Disk_erase => k_is); (case l_Disk_erase => k_is); (case c_Disk_erase => k_is); (case k_Disk_erase => k_is); (case a_Disk_stop => k_is); (case i_Disk_stop => k_is); (case l_Disk_stop => k_is); (case c_Disk_stop => k_is); (case k_Disk_stop => k_is); (case lK_Disk_stop => k_is); (case a_l_at => k_is); (case l_l_at => k_is); (case c_l_at => k_is); (case k_l_at => k_is); (case a_l_pot => k_is); (case l_l_pot => k_is); (case c_l_pot => k_is); (case k_l_pot => k_is); (case a_l_take => k_is); (case l_l_take => k_is); (case c_l_take => k_is); (case k_l_take => k_is); (case a_l_class => k_is); (case l_l_class => k_is); (case c_l_class => k_is); (case k_l_class => k_is); (case a_l_tried => k_is); (case l_l_tried => k_is); (case c_l_tried => k_is); (case k_l_tried => k_is); (case a_l_no_size => k_is); (case l_l_no_size => k_is); (case c_l_no_size => k_is); (case k_l_no_size => k_is); (case a_l_whole => k_is); (case l_l_whole => k_is); (case c_l_whole => k_is); (case k_l_whole => k_is); (case a_l_reads => k_is); (case l_l_reads => k_is); (case c_l_reads => k_is); (case k_l_reads => k_is); (case a_l_empty => k_is); (case l_l_empty => k_is); (case c_l_empty => k_is); (case k_l_empty => k_is); (case a_l_made => k_is); (case l_l_made => k_is); (case c_l_made => k_is); (case k_l_made => k_is); (case a_l_refused => k_is); (case l_l_refused => k_is); (case c_l_refused => k_is); (case k_l_refused => k_is); (case lc_l_refused => k_is); (case vp_l_refused => rfl); (case ch_l_refused => kernel_rfl); (case np_l_refused => kernel_rfl); (case hP_l_refused => exact PySem.W.km_tabs_of Y _ (by decide)); (case a_l_apart => k_is); (case l_l_apart => k_is); (case c_l_apart => k_is); (case k_l_apart => k_is); (case lc_l_apart => k_is); (case vp_l_apart => rfl); (case ch_l_apart => kernel_rfl); (case np_l_apart => kernel_rfl); (case hP_l_apart => exact PySem.W.km_tabs_of Y _ (by decide)); (case a_law => k_is); (case l_law => k_is); (case c_law => k_is); (case k_law => k_is); (case ne_0_1 => decide)
