import PyProof.Rows.All
import Wide.All
import OpenK.AllK
import Wide.FinOn
import HandS.ForMost
import HandS.ForExc
import HandS.WideBits
import HandS.StrMore
import HandS.Flow
import HandS.IsInst
import HandS.Defaults
import HandS.TupAny
import HandS.Walk
import HandS.More
import HandS.SortInts
import PySem.Challenge.RW_cleanedlog_k41_contents
set_option Elab.async false
set_option linter.all false
set_option maxRecDepth 100000
set_option maxHeartbeats 4000000
/-! ### ClG: defs that know that nothing is being shown (repr wants it): promises, calls, methods, makings, the law's own call -/
namespace Cl
open PySem PySem.Spec PyProof.Rows L2

/-- room for k calls, and no repr is running -/
structure Rm (k : Nat) (A : Around) : Prop where
  room : Room k A
  gd : A.guards = some []
theorem Rm.mono {j k : Nat} {A : Around} (r : Rm k A) (h : j ≤ k) : Rm j A := ⟨r.room.mono h, r.gd⟩
theorem Rm.deeper {k : Nat} {A : Around} (r : Rm (k + 1) A) (env : Env) : Rm k (A.deeper env) := ⟨r.room.deeper env, r.gd⟩
theorem Rm.make {k : Nat} {A : Around} (r : Rm (k + 1) A) (C : Addr) (us : List Value) (kw : List (Str × Value)) : Rm k (A.under (.builtin "type.__call__" ⟨.ref C :: us, kw⟩)) := by
  refine ⟨r.room.make C us kw, ?_⟩
  show pushGuards (Code.builtin "type.__call__" ⟨.ref C :: us, kw⟩).guards A.guards = some []
  rw [show (Code.builtin "type.__call__" ⟨.ref C :: us, kw⟩).guards = [] by simp [Code.guards, Code.isGuard, guardIds]]
  exact r.gd
theorem Rm.hu {A : Around} {k : Nat} (hr : Rm k A) : A.units + 1 < cLine := hu_of hr.room
theorem Rm.units {A : Around} {k : Nat} (hr : Rm k A) : A.units + 64 < cLine := hr.room.units

/-- a def that keeps its promise wherever there is such room -/
structure GnOk (P : Program) (w : World) (K : PySem.W.Frag) (mg : Str → Option Value) (base : Heap) (CX : CXT) (k : Nat) (f : Addr) (fd : FuncData) (ps : List Str) (sp : Sp) : Prop where
  len : ∀ vs H Q E, sp vs H Q E → vs.length = ps.length
  run : ∀ (A : Around) (out : List Env) (s : Shared) (H : Hp) (ar : Args) (us : List Value) (vs : List V) (Q : VK) (E : XK), Rm k A → Env0 P w K mg base A out s H →
    BindsTo s fd ar (ps.zip us) → Vals vs us → sp vs H Q E → codeAny (model P w) A (.call (.ref f) ar) (CR CX out P w H s Q E) s

section
variable {P : Program} {w : World} {K : PySem.W.Frag} {mg : Str → Option Value} {base : Heap}
theorem GnOk.mono {CX : CXT} {j k : Nat} {f : Addr} {fd : FuncData} {ps : List Str} {sp : Sp} (F : GnOk P w K mg base CX j f fd ps sp) (h : j ≤ k) : GnOk P w K mg base CX k f fd ps sp :=
  ⟨F.len, fun A out s H ar us vs Q E hr => F.run A out s H ar us vs Q E (hr.mono h)⟩
theorem GnOk.imp {CX : CXT} {k : Nat} {f : Addr} {fd : FuncData} {ps : List Str} {sp sp' : Sp} (F : GnOk P w K mg base CX k f fd ps sp) (h : ∀ vs H Q E, sp' vs H Q E → sp vs H Q E) : GnOk P w K mg base CX k f fd ps sp' :=
  ⟨fun vs H Q E q => F.len vs H Q E (h _ _ _ _ q), fun A out s H ar us vs Q E hr he hb hv hs => F.run A out s H ar us vs Q E hr he hb hv (h _ _ _ _ hs)⟩
/-- the end of a body is the end of the call -/
theorem body_end {CX : CXT} {N : List Str} {qual : Str} {sc : Scope} {f : Addr} {cd : Value} {A : Around} {out : List Env} {s : Shared} {H : Hp} {E : XK} {Q : VK} :
    ∀ {fl : Flow} {s' : Shared}, SP (cxOf CX P w K mg base N qual sc f cd A out s H E) [] { nx := fun _ H' => Q .non H', rt := Q } fl s' → CE out P w H s Q (match (generalizing := false) fl with | .ret v => v | _ => .none) s'
  | .ret _, _, ⟨v, _, H1, J, rv, q⟩ => ⟨v, H1, J.os, J.bare, J.base, J.hok, rv, q⟩
  | .next, _, ⟨_, H1, J, q⟩ => ⟨.non, H1, J.os, J.bare, J.base, J.hok, rfl, q⟩
  | .brk, _, ⟨_, _, _, q⟩ => q.elim
  | .cont, _, ⟨_, _, _, q⟩ => q.elim
theorem gn_of {CX : CXT} {k : Nat} {f : Addr} {nm qual : Str} {pars : Arguments} {body : List Stmt} {sc : Scope} {dV kV doc pm cdv ct oc : Value} {an od : Option Addr} {osl : Array (Option Value)} {N ps : List Str} {sp : Sp}
    (lk : K.lookup f = some ⟨oc, od, .func (PySem.W.fnOf nm qual pars body sc dV kV doc pm an cdv ct), osl⟩) (hc : PySem.W.codeIn K cdv qual = true) (S : FnScope N ps sc) (len : ∀ vs H Q E, sp vs H Q E → vs.length = ps.length)
    (hb : ∀ (A : Around) (out : List Env) (s : Shared) (H : Hp) (vs : List V) (Q : VK) (E : XK), Rm k (A.deeper (envOfC qual sc s.heap.objs.size f cdv)) → sp vs H Q E →
      ∃ t, PSs (cxOf CX P w K mg base N qual sc f cdv A out s H E) body t ∧ t { nx := fun _ H' => Q .non H', rt := Q } (start N vs) H) :
    GnOk P w K mg base CX (k + 1) f (PySem.W.fnOf nm qual pars body sc dV kV doc pm an cdv ct) ps sp := by
  constructor
  · exact len
  intro A out s H ar us vs Q E hr e0 hbd rv hs
  have lenv := len _ _ _ _ hs
  have inK : K.In s.heap := e0.mod.kin.keeps fun b o e => (e0.bs b o e).1
  have nolim : s.heap.NoLimit := e0.mod.nolimit.keeps fun b o e => (e0.bs b o e).1
  have kinds : ∀ y ∈ ps.zip us, sc.names.lookup y.1 = some .local ∨ (sc.names.lookup y.1 = some .cell ∧ ((cellsFrom (s.heap.objs.size + 1) sc.names []).lookup y.1).isSome = true) := by
    rintro ⟨n, v⟩ hy
    have hp := S.par n (List.of_mem_zip hy).1
    exact hp.imp id fun q => ⟨q, PySem.W.cellsFrom_some _ _ _ (.inl q)⟩
  refine codeAny_call_function hr.room.depth (inK _ _ lk) rfl S.co S.gen rfl (PySem.W.codeRec_of inK hc) (hbd _ _ _ _ (wpAny_newFunctionEnv_cells S.kind kinds ?_))
  rintro env rfl s1 x
  refine ⟨nolim.keeps x.toInCall.keep, codeAny_func ?_⟩
  obtain ⟨t, ht, hq⟩ := hb A out s H vs Q E (hr.deeper _) hs
  refine wpAny_mono (ht.run [] s1 (start N vs) H _ (inv_start S hr.room.hd e0 lenv rv x) hq) (fun fl s' z => ?_) fun e s' z => z
  have z' := body_end z
  cases fl <;> exact z'
/-- THE RULE for a def out of which nothing is raised -/
theorem gn_fun {x qual : Str} {st : Stmt} {f : Addr} {fd : FuncData} {N ps : List Str} {k : Nat} {sp : Sp} (F : Fun K x qual st f fd) (S : FnScope N ps (defScope st)) (len : ∀ vs H Q E, sp vs H Q E → vs.length = ps.length)
    (hb : ∀ (cdv : Value) (A : Around) (out : List Env) (s : Shared) (H : Hp) (vs : List V) (Q : VK) (E : XK), Rm k (A.deeper (envOfC qual (defScope st) s.heap.objs.size f cdv)) → sp vs H Q E →
      ∃ t, PSs (cxOf CX0 P w K mg base N qual (defScope st) f cdv A out s H E).nox (defBody st) t ∧ t { nx := fun _ H' => Q .non H', rt := Q } (start N vs) H) : GnOk P w K mg base CX0 (k + 1) f fd ps sp := by
  obtain ⟨oc, od, kV, doc, pm, an, cdv, ct, osl, rfl, lk, hc⟩ := F.ex
  refine gn_of lk hc S len fun A out s H vs Q E hr hs => ?_
  obtain ⟨t, h1, h2⟩ := hb cdv A out s H vs Q E hr hs
  exact ⟨t, h1.nox, h2⟩
/-- THE RULE for a def that may raise -/
theorem gn_funX {x qual : Str} {st : Stmt} {f : Addr} {fd : FuncData} {N ps : List Str} {k : Nat} {sp : Sp} (F : Fun K x qual st f fd) (S : FnScope N ps (defScope st)) (len : ∀ vs H Q E, sp vs H Q E → vs.length = ps.length)
    (hb : ∀ (cdv : Value) (A : Around) (out : List Env) (s : Shared) (H : Hp) (vs : List V) (Q : VK) (E : XK), Rm k (A.deeper (envOfC qual (defScope st) s.heap.objs.size f cdv)) → sp vs H Q E →
      ∃ t, PSs (cxOf (L2.CX P w) P w K mg base N qual (defScope st) f cdv A out s H E) (defBody st) t ∧ t { nx := fun _ H' => Q .non H', rt := Q } (start N vs) H) : GnOk P w K mg base (L2.CX P w) (k + 1) f fd ps sp := by
  obtain ⟨oc, od, kV, doc, pm, an, cdv, ct, osl, rfl, lk, hc⟩ := F.ex
  exact gn_of lk hc S len fun A out s H vs Q E hr hs => hb cdv A out s H vs Q E hr hs
end

/-! ### calls -/
section
variable {X : Cx} {CX : CXT} {k : Nat} {f C : Addr} {fd : FuncData} {ps : List Str} {sp : Sp} {E : XK} {pins : List (Addr × Obj)} {σ : L2.St} {H : Hp} {s : Shared} {Q : VK}
/-- the callee runs, its parameters bound to all -/
theorem gn_call {us : List Value} {kw : List (Str × Value)} {allU : List Value} {allV : List V} (F : GnOk X.prog X.w X.K X.mg X.base CX k f fd ps sp) (hr : Rm k X.A) (hb : BindsTo s fd ⟨us, kw⟩ (ps.zip allU)) (hx : Passes CX X E)
    (I : Inv X pins σ H s) (r : Vals allV allU) (h : sp allV H Q E) : wpAny (model X.prog X.w) X.A (call (.ref f) us kw) (EP X pins σ Q) X.xe s := by
  refine wpAny_call (codeAny_mono (F.run X.A X.stack s H ⟨us, kw⟩ allU allV Q E hr I.env0 hb r h) ?_)
  rintro (e | fl) s' hq
  · exact hx pins σ H s e s' I hq
  · cases fl with
    | ret u => exact I.after hq
    | next | brk | cont => exact hq.elim
/-- C(..): the instance and its dict are made, __init__ runs -/
theorem gn_make {us : List Value} {kw : List (Str × Value)} {allU : List Value} {allV : List V} (M : Mk X.K C f) (F : GnOk X.prog X.w X.K X.mg X.base CX k f fd ps sp) (hr : Rm (k + 1) X.A)
    (hb : ∀ (s' : Shared) (x : Addr), X.K.In s'.heap → BindsTo s' fd ⟨.ref x :: us, kw⟩ (ps.zip (.ref x :: allU))) (hx : Passes CX X E)
    (I : Inv X pins σ H s) (r : Vals allV allU) (h : ∀ x dx, H x = none → H dx = none → dx ≠ x → sp (.ref x :: allV) (upd (upd H dx (.own x)) x (.ins C dx [])) (fun v H2 => v = .non ∧ Q (.ref x) H2) E) :
    wpAny (model X.prog X.w) X.A (call (.ref C) us kw) (EP X pins σ Q) X.xe s := by
  have J := Inv.made (C := C) I
  have now := h (s.heap.objs.size + 1) s.heap.objs.size (I.hok.fresh (Nat.le_succ _)) (I.hok.fresh (Nat.le_refl _)) (Nat.ne_of_lt (Nat.lt_succ_self _))
  refine wpAny_call (make_map (f := f) I.kIn M.makes M.init (beq_iff_eq.mp M.fn) (codeAny_mono (F.run _ X.stack _ _ _ (.ref (s.heap.objs.size + 1) :: allU) _ _ E (hr.make C us kw) (J.env0.make C us kw) (hb _ _ J.kIn) (.cons (show L2.RelV (V.ref (s.heap.objs.size + 1)) (Value.ref (s.heap.objs.size + 1)) from rfl) r) now) ?_))
  rintro (e | fl) s' hq
  · exact hx pins σ _ _ e s' J hq
  · cases fl with
    | ret u =>
      obtain ⟨v, H1, J1, rv, ev, q1⟩ := J.after hq
      subst ev
      exact ⟨rv, .ref (s.heap.objs.size + 1), H1, J1, rfl, q1⟩
    | next | brk | cont => exact hq.elim
end

/-! ### bundles: a def by its name; how it is bound -/
/-- n positional values and the keywords ks; gV puts the values in the parameters' order (defaults among them) -/
structure Cal (P : Program) (w : World) (K : PySem.W.Frag) (mg : Str → Option Value) (base : Heap) (CX : CXT) (x : Str) (k : Nat) (ps : List Str) (sp : Sp) : Prop where
  ex : ∃ (f : Addr) (fd : FuncData), GnOk P w K mg base CX k f fd ps sp ∧ mg x = some (.ref f) ∧ PySem.W.keepIn K (.ref f) = true ∧ Binds K fd ps []
structure CalK (P : Program) (w : World) (K : PySem.W.Frag) (mg : Str → Option Value) (base : Heap) (CX : CXT) (x : Str) (k : Nat) (ps : List Str) (n : Nat) (ks : List Str) (gV : List V → List V → List V) (sp : Sp) : Prop where
  ex : ∃ (f : Addr) (fd : FuncData) (g : List Value → List Value → List Value), GnOk P w K mg base CX k f fd ps sp ∧ mg x = some (.ref f) ∧ PySem.W.keepIn K (.ref f) = true ∧ KBn K fd ps n ks g gV
section
variable {X : Cx} {CX : CXT} {k n : Nat} {ps ks : List Str} {sp : Sp} {E : XK} {x : Str} {p pos : Pos} {e : Expr} {es : List Expr} {kws : List Keyword} {t tk : TA} {gV : List V → List V → List V}
theorem pe_cal (C : Cal X.prog X.w X.K X.mg X.base CX x k ps sp) (hr : Rm k X.A) (hg : Gl X x) (hx : Passes CX X E) (ha : PA X (e :: es) t) (hdb : (x == ("__debug__" : Str)) = false := by decide)
    (he : starEach (e :: es) X.env = (false, eval e X.env) :: starEach es X.env := by rfl) (hpl : (backTo pos (starEach es X.env)).any (·.1) = false := by rfl) :
    PE X (.Call (.Name x p) (e :: es) [] pos) (tCall sp [] E t) := by
  obtain ⟨f, fd, F, hm, hk, hb⟩ := C.ex
  constructor
  intro pins s σ H Q I h
  refine wpAny_Call_Name_kw (ld_glob I hg hm (PySem.W.callWith_K (h₀ := X.base) I.ok.mod.kin hk (thn (ha.run pos pins s σ H _ I h) ?_) he hpl) hdb)
  rintro us s1 ⟨vs, H1, I1, r, q⟩
  rw [List.append_nil] at q
  have hl := F.len _ _ _ _ q
  refine ⟨I1.kIn, gn_call F hr (?_ : BindsTo s1 fd ⟨us, []⟩ (ps.zip us)) hx I1 r q⟩
  have hb' := hb s1 us I1.kIn (by rw [List.append_nil, ← r.length]; exact hl)
  rwa [List.append_nil] at hb'
theorem pe_cal0 (C : Cal X.prog X.w X.K X.mg X.base CX x k ps sp) (hr : Rm k X.A) (hg : Gl X x) (hx : Passes CX X E) (hdb : (x == ("__debug__" : Str)) = false := by decide) :
    PE X (.Call (.Name x p) [] [] pos) (tCall sp [] E tNil) := by
  obtain ⟨f, fd, F, hm, hk, hb⟩ := C.ex
  constructor
  intro pins s σ H Q I h
  have hl := F.len _ _ _ _ (show sp ([] ++ []) H Q E from h)
  refine wpAny_Call_Name_kw (ld_glob I hg hm (PySem.W.callWith_K0 I.kIn hk (gn_call (us := []) (allU := []) F hr (hb s [] I.kIn hl) hx I .nil h)) hdb)
theorem pe_calk (C : CalK X.prog X.w X.K X.mg X.base CX x k ps n ks gV sp) (hr : Rm k X.A) (hg : Gl X x) (hx : Passes CX X E) (ha : PA X (e :: es) t) (hkw : PK X kws tk)
    (hall : (backToKw pos (keywordEach kws X.env)).all (·.1.isSome) = true := by rfl) (hks : (backToKw pos (keywordEach kws X.env)).filterMap (·.1) = ks := by rfl)
    (hdb : (x == ("__debug__" : Str)) = false := by decide) (he : starEach (e :: es) X.env = (false, eval e X.env) :: starEach es X.env := by rfl)
    (hpl : ((backTo pos (starEach (e :: es) X.env)).any (·.1) || (backToKw pos (keywordEach kws X.env)).any (·.1.isNone)) = false := by rfl) :
    PE X (.Call (.Name x p) (e :: es) kws pos) (tCallN n ks.length sp gV E t tk) := by
  obtain ⟨f, fd, g, F, hm, hk, hb⟩ := C.ex
  constructor
  intro pins s σ H Q I h
  refine wpAny_Call_Name_kw (ld_glob I hg hm (PySem.W.callWith_KW (h₀ := X.base) I.ok.mod.kin hk hall (thn (ha.run pos pins s σ H _ I h) ?_) hpl he) hdb)
  rintro us s1 ⟨vs, H1, I1, r, q⟩
  refine thn (hkw.run pos pins s1 σ H1 _ I1 q) ?_
  rintro ws s2 ⟨zs, H2, I2, rz, l1, l2, q2⟩
  rw [hks]
  exact ⟨I2.kIn, gn_call F hr (hb.to s2 us ws I2.kIn (r.length.symm.trans l1) (rz.length.symm.trans l2)) hx I2 (hb.rel r rz) q2⟩
theorem pe_calk0 (C : CalK X.prog X.w X.K X.mg X.base CX x k ps n ks gV sp) (hr : Rm k X.A) (hg : Gl X x) (hx : Passes CX X E) (hkw : PK X kws tk)
    (hall : (backToKw pos (keywordEach kws X.env)).all (·.1.isSome) = true := by rfl) (hks : (backToKw pos (keywordEach kws X.env)).filterMap (·.1) = ks := by rfl)
    (hdb : (x == ("__debug__" : Str)) = false := by decide)
    (hpl : ((backTo pos (starEach [] X.env)).any (·.1) || (backToKw pos (keywordEach kws X.env)).any (·.1.isNone)) = false := by rfl) :
    PE X (.Call (.Name x p) [] kws pos) (tCallN n ks.length sp gV E tNil tk) := by
  obtain ⟨f, fd, g, F, hm, hk, hb⟩ := C.ex
  constructor
  intro pins s σ H Q I h
  refine wpAny_Call_Name_kw (ld_glob I hg hm (PySem.W.callWith_KW0 (h₀ := X.base) I.ok.mod.kin hk hall (thn (hkw.run pos pins s σ H _ I h) ?_) hpl) hdb)
  rintro ws s2 ⟨zs, H2, I2, rz, l1, l2, q2⟩
  rw [hks]
  exact ⟨I2.kIn, gn_call (us := []) F hr (hb.to s2 [] ws I2.kIn l1 (rz.length.symm.trans l2)) hx I2 (hb.rel .nil rz) q2⟩
end
section
variable {P : Program} {w : World} {K : PySem.W.Frag} {mg : Str → Option Value} {base h : Heap} {CX : CXT} {x qual : Str} {k n : Nat} {ps ks : List Str} {sp : Sp} {st : Stmt} {f : Addr} {oc : Value} {od an : Option Addr} {osl : Array (Option Value)} {kV doc pm cdv ct : Value}
theorem cal_mk (KX : K.In h) (G : h.Ns mainGlobals mg) (a : PySem.W.nsIn K mainGlobals x = some (some (.ref f)))
    (l : K.lookup f = some ⟨oc, od, .func (PySem.W.fnOf x qual (defArgs st) (defBody st) (defScope st) .none kV doc pm an cdv ct), osl⟩) (c : PySem.W.codeIn K cdv qual = true) (kp : PySem.W.keepIn K (.ref f) = true)
    (hb : ∀ (kV doc pm : Value) (an : Option Addr) (cdv ct : Value) (us : List Value), us.length = ps.length → bindArgs (PySem.W.fnOf x qual (defArgs st) (defBody st) (defScope st) .none kV doc pm an cdv ct) ⟨us, []⟩ = pure (ps.zip us))
    (ok : ∀ {f : Addr} {fd : FuncData}, Fun K x qual st f fd → GnOk P w K mg base CX k f fd ps sp) : Cal P w K mg base CX x k ps sp :=
  have F := fun_mk (st := st) l c kp
  ⟨f, _, ok F, PySem.W.mg_of KX G a, kp, F.binds hb⟩
theorem calk_mk {g : List Value → List Value → List Value} {gV : List V → List V → List V} (KX : K.In h) (G : h.Ns mainGlobals mg) (a : PySem.W.nsIn K mainGlobals x = some (some (.ref f)))
    (l : K.lookup f = some ⟨oc, od, .func (PySem.W.fnOf x qual (defArgs st) (defBody st) (defScope st) .none kV doc pm an cdv ct), osl⟩) (c : PySem.W.codeIn K cdv qual = true) (kp : PySem.W.keepIn K (.ref f) = true)
    (hb : ∀ (kV doc pm : Value) (an : Option Addr) (cdv ct : Value) (us ws : List Value), us.length = n → ws.length = ks.length → bindArgs (PySem.W.fnOf x qual (defArgs st) (defBody st) (defScope st) .none kV doc pm an cdv ct) ⟨us, ks.zip ws⟩ = pure (ps.zip (g us ws)))
    (hrel : ∀ {vs : List V} {us : List Value} {zs : List V} {ws : List Value}, Vals vs us → Vals zs ws → Vals (gV vs zs) (g us ws))
    (ok : ∀ {f : Addr} {fd : FuncData}, Fun K x qual st f fd → GnOk P w K mg base CX k f fd ps sp) : CalK P w K mg base CX x k ps n ks gV sp :=
  have F := fun_mk (st := st) l c kp
  ⟨f, _, g, ok F, PySem.W.mg_of KX G a, kp, ⟨fun s us ws _ l1 l2 => BindsTo.of_eq (hb _ _ _ _ _ _ us ws l1 l2), hrel⟩⟩
end

/-! ### the law's own call -/
theorem gn_law {P : Program} {w : World} {K : PySem.W.Frag} {mg mb : Str → Option Value} {CX : CXT} {k : Nat} {fa a : Addr} {fd : FuncData} {x : Str} {sp : Sp} {t : Shared} {vs : List Value} {ns : List Int}
    (inK : K.In t.heap) (gl : t.heap.Ns mainGlobals mg) (bl : t.heap.Ns builtinsNs mb) (bb : ∀ y : Str, y ≠ "__name__" → mb y = bootBuiltins y) (nolim : t.heap.NoLimit) (gens : t.gens = #[])
    (ha : t.heap.get? a = some { cls := .type "list", data := .seq vs.toArray }) (hin : IntsAre vs ns) (small : ns.length ≤ sizeLine) (hr : Room k callerA)
    (F : ∀ base : Heap, K.In base → base.Ns mainGlobals mg → GnOk P w K mg base CX k fa fd [x] sp) (bd : ∀ (s : Shared) (u : Value), BindsTo s fd ⟨[u], []⟩ [(x, u)])
    (hsp : ∀ H : Hp, SqL K H a (ns.map V.int) → sp [.ref a] H (fun v _ => v = .bl true) fun _ _ _ => False) (hx : ∀ H e s', CX [] H t (fun _ _ _ => False) e s' → False) :
    codeAny (model P w) callerA (.call (.ref fa) ⟨[.ref a], []⟩) (fun r s' => r = .ok (.ret (.bool true)) ∧ OldK t.heap s'.heap ∧ s'.os = t.os ∧ AllBare s'.gens) t := by
  have rel := vals_ints hin
  have same := hin.length
  -- the abstract heap: the script alone, where the top doesn't know it
  obtain ⟨H, hS, ok, only, apart⟩ : ∃ H : Hp, SqL K H a (ns.map V.int) ∧ HOk P w H t.heap ∧ (∀ b u, H b = some u → b = a ∧ ∃ o, u = .frz o (.lst (ns.map V.int))) ∧ (∀ u, H a = some u → K.lookup a = none) := by
    cases q : K.lookup a with
    | some o =>
      have e := inK a o q
      rw [ha] at e
      cases e
      exact ⟨fun _ => none, .inr ⟨_, vs.toArray, _, q, rfl, rfl, rfl, by rw [List.size_toArray, same]; exact small, by simpa using rel⟩, (fun b u z => by cases (show (none : Option HO) = some u from z)), (fun b u z => by cases (show (none : Option HO) = some u from z)), fun u z => by cases (show (none : Option HO) = some u from z)⟩
    | none =>
      refine ⟨upd (fun _ => none) a (.frz { cls := .type "list", data := .seq vs.toArray } (.lst (ns.map V.int))), .inl (.inr ⟨_, upd_same⟩), fun b u z => ?_, fun b u z => ?_, fun _ _ => rfl⟩
      · by_cases hb : b = a
        · subst hb
          rw [upd_same] at z
          cases z
          exact ⟨ha, by rw [List.length_map]; exact small, vs, _, rel, ha⟩
        · rw [upd_ne hb] at z
          cases z
      · by_cases hb : b = a
        · subst hb
          rw [upd_same] at z
          cases z
          exact ⟨rfl, _, rfl⟩
        · rw [upd_ne hb] at z
          cases z
  have dictNo : ∀ {b : Addr} {o : Obj} {es : Array DictEntry} {ep : Nat}, t.heap.get? b = some o → o.data = .dict es ep → H b = none := by
    intro b o es ep e d
    cases z : H b with
    | none => rfl
    | some u =>
      obtain ⟨rfl, _⟩ := only b u z
      rw [ha] at e
      cases e
      exact nomatch (show Data.seq vs.toArray _ = Data.dict es ep from d)
  have nsH : ∀ {b : Addr} {m : Str → Option Value}, t.heap.Ns b m → (hidT t.heap H).Ns b m := by
    rintro b m ⟨o, es, ep, e, d, r⟩
    exact ⟨o, es, ep, hidT_get e (dictNo e d), d, r⟩
  have inH : K.In (hidT t.heap H) := by
    intro b o e
    refine hidT_get (inK b o e) ?_
    cases z : H b with
    | none => rfl
    | some u =>
      obtain ⟨rfl, _⟩ := only b u z
      rw [apart u z] at e
      cases e
  obtain ⟨mc, c1, c2⟩ := nolim
  have md : Mod K mg (hidT t.heap H) := ⟨inH, nsH gl, ⟨mb, nsH bl, bb⟩, ⟨mc, nsH c1, c2⟩⟩
  have e0 : Env0 P w K mg (hidT t.heap H) callerA [] t H := ⟨rfl, md, fun b o e => of_hidT e, Nat.le_of_eq (hidT_size _ _), trivial, fun b hb => (List.not_mem_nil (show b ∈ ([] : List Addr) from hb)).elim, ok, .of_eq gens⟩
  refine codeAny_mono ((F _ inH (nsH gl)).run callerA [] t H ⟨[.ref a], []⟩ [.ref a] [.ref a] _ _ ⟨hr, rfl⟩ e0 (bd t (.ref a)) (.cons rfl .nil) (hsp H hS)) ?_
  rintro (e | fl) s' h
  · exact (hx H e s' h).elim
  · cases fl with
    | next | brk | cont => exact h.elim
    | ret u =>
      obtain ⟨v, H1, os, bare, un, ok1, r1, q⟩ := h
      obtain rfl : v = .bl true := q
      obtain rfl : u = Value.bool true := r1
      refine ⟨rfl, OldK.of_keep fun b o e => ?_, os, bare⟩
      cases z : H b with
      | none => exact un.keep b o e z (List.not_mem_nil (a := b)) (List.not_mem_nil (a := b))
      | some u =>
        obtain ⟨rfl, ob, rfl⟩ := only b u z
        have e1 := (ok b _ z).1
        have e2 := (ok1 b _ (un.frzs b ob _ z)).1
        rw [e] at e1
        cases e1
        exact e2
theorem gn_walk {l : PySem.W.OpenLaw} {n k : Nat} {q : Program} {loose : List Str} {XP : (Str → Option Value) → Heap → Prop} {YP : World → Heap → Prop} {d : DefRec} {K : Params → PySem.W.Frag} {CX : World → CXT} {sp : PySem.W.Frag → Sp} {x : Str}
    (hn : l.most = some n) (hn2 : n ≤ sizeLine) (hdf : d.params.defaults = []) (hr : Room k callerA) (hY : ∀ (w : World) (h : Heap), YP w h → (K w.params).In h)
    (F : ∀ (w : World) (mg : Str → Option Value) (fa : Addr) (h : Heap), (K w.params).In h → h.Ns mainGlobals mg → mg d.name = some (.ref fa) →
      ∃ fd : FuncData, (∀ (s : Shared) (u : Value), BindsTo s fd ⟨[u], []⟩ [(x, u)]) ∧ ∀ base : Heap, (K w.params).In base → base.Ns mainGlobals mg → GnOk l.prog w (K w.params) mg base (CX w) k fa fd [x] (sp (K w.params)))
    (hsp : ∀ (w : World) (H : Hp) (a : Addr) (ns : List Int), ns.length ≤ n → SqL (K w.params) H a (ns.map V.int) → sp (K w.params) [.ref a] H (fun v _ => v = .bl true) fun _ _ _ => False)
    (hx : ∀ (w : World) (H : Hp) (s : Shared) (e : Value) (s' : Shared), CX w [] H s (fun _ _ _ => False) e s' → False) : PySem.W.WalkO q loose XP YP l.row.toRowW d [] (fun f vs => PySem.call f vs) := by
  refine Att.attach_call hn hdf ?_
  intro w s₀ t mg mb fa o pm cd doc a vs ns G Y _ _ _ hmg hobj hints hlen hg
  obtain ⟨fd, hb, hF⟩ := F w mg fa _ (hY w _ Y) G.T.g hmg
  exact gn_law (hY w _ Y) G.T.g G.T.b G.T.builtins G.T.nolimit hg hobj hints (Nat.le_trans hlen hn2) hr hF hb (fun H hS => hsp w H a ns hlen hS) fun H e s' => hx w H t e s'
end Cl

/-! ### Cl0: words used by all laws: built-ins, calls of own defs by one bundle, heaps that grow, drawing from a pot -/
namespace Cl
open PySem L2

/-- the built-ins that the top leaves as they are -/
structure Bt (mg : Str → Option Value) : Prop where
  len : mg "len" = none
  max : mg "max" = none
  min : mg "min" = none
  abs : mg "abs" = none
  divmod : mg "divmod" = none
  range : mg "range" = none
  ord : mg "ord" = none
  isinstance : mg "isinstance" = none
  int : mg "int" = none
  str : mg "str" = none
  bool : mg "bool" = none
  list : mg "list" = none
  tuple : mg "tuple" = none
  dict : mg "dict" = none
  set : mg "set" = none
  all : mg "all" = none
  any : mg "any" = none
  sorted : mg "sorted" = none
  enumerate : mg "enumerate" = none
  zip : mg "zip" = none
  repr : mg "repr" = none
  sum : mg "sum" = none

/-- all but the object at p stays -/
def SameBut (p : Addr) (H H' : Hp) : Prop := ∀ b o, H b = some o → b ≠ p → H' b = some o
theorem SameBut.of {p : Addr} {H H' : Hp} (h : Same H H') : SameBut p H H' := fun b o e _ => h b o e
theorem Same.new {H : Hp} {p : Addr} {o : HO} (h : H p = none) : Same H (upd H p o) := fun b u e => by
  rw [upd_ne (ne_of_none e h)]; exact e
theorem SameBut.upd {p : Addr} {H H' : Hp} {o : HO} (h : SameBut p H H') : SameBut p H (L2.upd H' p o) := fun b u e n => by
  rw [upd_ne n]; exact h b u e n
theorem SameBut.refl (p : Addr) (H : Hp) : SameBut p H H := fun _ _ e _ => e
theorem SameBut.trans {p : Addr} {H H1 H2 : Hp} (a : SameBut p H H1) (b : SameBut p H1 H2) : SameBut p H H2 := fun c o e n => b c o (a c o e n) n
theorem SameBut.same {p : Addr} {H H1 H2 : Hp} (a : SameBut p H H1) (b : Same H1 H2) : SameBut p H H2 := fun c o e n => b c o (a c o e n)
theorem SameBut.at {p : Addr} {H H' : Hp} (a : SameBut p H H') {b : Addr} {o : HO} (e : H b = some o) (n : b ≠ p) : H' b = some o := a b o e n
theorem SameBut.free {p : Addr} {H H' : Hp} (a : SameBut p H H') {q : Addr} (h : H' q = none) (n : q ≠ p) : H q = none := by
  cases e : H q with
  | none => rfl
  | some o => rw [a q o e n] at h; cases h
/-- q is new behind H: what then changes it, changes nothing of H -/
theorem SameBut.newer {p q : Addr} {H H1 : Hp} {o : HO} (a : SameBut p H H1) (h : H q = none) : SameBut p H (L2.upd H1 q o) := fun c u e n => by
  rw [upd_ne (ne_of_none e h)]; exact a c u e n
theorem Same.newer {q : Addr} {H H1 : Hp} {o : HO} (a : Same H H1) (h : H q = none) : Same H (L2.upd H1 q o) := fun c u e => by
  rw [upd_ne (ne_of_none e h)]; exact a c u e

/-! ### a list, a tuple, read -/
theorem SameBut.seq {K : PySem.W.Frag} {p : Addr} {H H' : Hp} {a : Addr} {xs : List V} (e : SameBut p H H') (h : SqL K H a xs) (n : a ≠ p) : SqL K H' a xs := by
  rcases h with (h | ⟨o, h⟩) | h
  · exact .inl (.inl (e _ _ h n))
  · exact .inl (.inr ⟨o, e _ _ h n⟩)
  · exact .inr h
/-- p is newer than H -/
theorem Same.but {p : Addr} {H H1 H2 : Hp} (s : Same H H1) (b : SameBut p H1 H2) (n : H p = none) : Same H H2 := fun c o e => b c o (s c o e) (ne_of_none e n)

theorem iteF' {b : Bool} {A B : Prop} (e : b = false) (h : B) : if b = true then A else B := by
  rw [e]
  exact iteF h
theorem iteT' {b : Bool} {A B : Prop} (e : b = true) (h : A) : if b = true then A else B := by
  rw [e]
  exact iteT h
/-! ### rules over a written part that is named -/
section
variable {X : Cx}
theorem ix_listK (K : PySem.W.Frag)  (hK : X.K = K := by rfl) : IxR X (rIxL K) := by subst hK; exact ix_list
theorem ix_tupK (K : PySem.W.Frag)  (hK : X.K = K := by rfl) : IxR X (rIxT K) := by subst hK; exact ix_tup
theorem ix_seqK (K : PySem.W.Frag)  (hK : X.K = K := by rfl) : IxR X (rIx K) := by subst hK; exact ix_seq
theorem ix_kdictK (K : PySem.W.Frag) (w : World) (hw : X.w = w := by rfl) (hK : X.K = K := by rfl) : IxR X (rIxD K w) := by subst hK; subst hw; exact ix_kdict
theorem sl_listK (K : PySem.W.Frag)  (hK : X.K = K := by rfl) : SlR X (rSlL K) := by subst hK; exact sl_list
theorem sl_tupAK (K : PySem.W.Frag)  (hK : X.K = K := by rfl) : SlR X (rSlA K) := by subst hK; exact sl_tupA
theorem op_in_seqK (K : PySem.W.Frag)  (hK : X.K = K := by rfl) : OpR X (compareOp .In) (rIn K false) := by subst hK; exact op_in_seq
theorem op_notIn_seqK (K : PySem.W.Frag)  (hK : X.K = K := by rfl) : OpR X (compareOp .NotIn) (rIn K true) := by subst hK; exact op_notIn_seq
theorem op_eqDK (K : PySem.W.Frag) (hu : X.A.units + 64 < cLine) (hK : X.K = K := by rfl) : OpR X (compareOp .Eq) (rEqD K) := by subst hK; exact op_eqD hu
theorem op_neDK (K : PySem.W.Frag) (hu : X.A.units + 64 < cLine) (hK : X.K = K := by rfl) : OpR X (compareOp .NotEq) (rNeD K) := by subst hK; exact op_neD hu
theorem op_catTK (K : PySem.W.Frag)  (hK : X.K = K := by rfl) : OpR X (binaryOp .Add) (rCatT K) := by subst hK; exact op_catT
def rLen (K : PySem.W.Frag) : List V → Hp → VK → Prop := fun xs H Q => ∃ x n, xs = [x] ∧ LenV K x H n ∧ Q (.int n) H
theorem call_lenK (K : PySem.W.Frag)  (hK : X.K = K := by rfl) : CallR X (.builtin "len") (rLen K) := by subst hK; exact call_len
theorem call_isiK (K : PySem.W.Frag)  (hK : X.K = K := by rfl) : CallR X (.builtin "isinstance") (rIsi K) := by subst hK; exact call_isi
theorem call_isiTK (K : PySem.W.Frag)  (hK : X.K = K := by rfl) : CallR X (.builtin "isinstance") (rIsiT K) := by subst hK; exact call_isiT
def rListOf (K : PySem.W.Frag) : List V → Hp → VK → Prop := fun xs H Q => ∃ p ys, xs = [.ref p] ∧ (SqL K H p ys ∨ SqT K H p ys) ∧ ∀ l, H l = none → Q (.ref l) (upd H l (.lst ys))
theorem call_list_ofK (K : PySem.W.Frag)  (hK : X.K = K := by rfl) : CallR X (.type "list") (rListOf K) := by subst hK; exact call_list_of
def rTupleOf (K : PySem.W.Frag) : List V → Hp → VK → Prop := fun xs H Q => ∃ p ys, xs = [.ref p] ∧ ((SqL K H p ys ∧ ∀ l, H l = none → Q (.ref l) (upd H l (.tup ys))) ∨ (SqT K H p ys ∧ Q (.ref p) H))
theorem call_tuple_ofK (K : PySem.W.Frag)  (hK : X.K = K := by rfl) : CallR X (.type "tuple") (rTupleOf K) := by subst hK; exact call_tuple_of
theorem cr_allK (K : PySem.W.Frag) (hc : X.calm = true) (hK : X.K = K := by rfl) : CallR X (.builtin "all") (rAll K) := by subst hK; exact cr_all hc
theorem cr_anyK (K : PySem.W.Frag) (hc : X.calm = true) (hK : X.K = K := by rfl) : CallR X (.builtin "any") (rAny K) := by subst hK; exact cr_any hc
theorem cr_sumK (K : PySem.W.Frag) (hc : X.calm = true) (hK : X.K = K := by rfl) : CallR X (.builtin "sum") (rSum K) := by subst hK; exact cr_sum hc
theorem cr_maxK (K : PySem.W.Frag) (hc : X.calm = true) (hK : X.K = K := by rfl) : CallR X (.builtin "max") (rMax K) := by subst hK; exact cr_max hc
theorem cr_minK (K : PySem.W.Frag) (hc : X.calm = true) (hK : X.K = K := by rfl) : CallR X (.builtin "min") (rMin K) := by subst hK; exact cr_min hc
theorem cr_sortedSK (K : PySem.W.Frag)  (hK : X.K = K := by rfl) : CallR X (.builtin "sorted") (rSortedS K) := by subst hK; exact cr_sortedS
theorem cr_sortedIK (K : PySem.W.Frag)  (hK : X.K = K := by rfl) : CallR X (.builtin "sorted") (rSortedI K) := by subst hK; exact cr_sortedI
theorem mt_indexK (K : PySem.W.Frag)  (hK : X.K = K := by rfl) : MtR X "list.index" (rIndex K) := by subst hK; exact mt_index
theorem pi_listK (K : PySem.W.Frag) {tg l : Expr} {tl : TE} (hl : PE X l tl) (hK : X.K = K := by rfl) : PI X tg l (iList K tl) := by subst hK; exact pi_list hl
theorem pi_tupK (K : PySem.W.Frag) {tg l : Expr} {tl : TE} (hl : PE X l tl) (hK : X.K = K := by rfl) : PI X tg l (iTup K tl) := by subst hK; exact pi_tup hl
variable {o e : Expr} {es : List Expr} {to : TE} {t : TA} {name : Str} {apos cpos : Pos} {T id : String} {r : V → List V → Hp → VK → Prop}
theorem pe_bmK (K : PySem.W.Frag) (pa : PlainAttrs T) (slot : Slot T name id) (hty : typeOf (.builtin id) = pure (.type "method_descriptor")) (hm : MtR X id r) (ho : PE X o to) (ha : PA X (e :: es) t)
    (hbase : attributeBase o name X.env (eval o X.env) = eval o X.env := by rfl)
    (hfew : ((backTo cpos (starEach (e :: es) X.env)).all (fun x => !x.1) && (backToKw cpos (keywordEach [] X.env)).all (fun x => x.1.isSome)
      && decide ((e :: es).length + ([] : List Keyword).length + (if ([] : List Keyword).isEmpty then 0 else 1) < 30)) = true := by rfl)
    (hline : (apos.endLine == cpos.line) = true := by rfl) (hs : starEach (e :: es) X.env = (false, eval e X.env) :: starEach es X.env := by rfl) (hplain : (backTo cpos (starEach es X.env)).any (·.1) = false := by rfl) (hK : X.K = K := by rfl) :
    PE X (.Call (.Attribute o name apos) (e :: es) [] cpos) (tBM K T r to t) := by subst hK; exact pe_bm pa slot hty hm ho ha hbase hfew hline hs hplain
theorem pe_bm0K (K : PySem.W.Frag) (pa : PlainAttrs T) (slot : Slot T name id) (hty : typeOf (.builtin id) = pure (.type "method_descriptor")) (hm : MtR X id r) (ho : PE X o to)
    (hbase : attributeBase o name X.env (eval o X.env) = eval o X.env := by rfl) (hline : (apos.endLine == cpos.line) = true := by rfl) (hK : X.K = K := by rfl) :
    PE X (.Call (.Attribute o name apos) [] [] cpos) (tBM0 K T r to) := by subst hK; exact pe_bm0 pa slot hty hm ho hbase hline
end
theorem rel_s (x : Str) (t : Tok) : RelV (.str x) (.str x t) := ⟨t, rfl⟩
theorem rel_i (x : Int) (t : Tok) : RelV (.int x) (.int x t) := ⟨t, rfl⟩
theorem rel_r (a : Addr) : RelV (.ref a) (.ref a) := rfl

/-! ### isinstance -/
theorem kSS {K : PySem.W.Frag} : PySem.W.kitOne K (.type "str") (.type "str") = some true := kit_ty (by decide +kernel)
/-! ### loops -/
theorem for_str {z : Str} {g : TG} {tb : TS} {D : Ends} {σ : St} {H : Hp} (Pv : Nat → St → Hp → Prop) (h0 : Pv 0 σ H)
    (hs : ∀ i c σ H, z.cps.toList[i]? = some c → Pv i σ H → g (.str ⟨#[c]⟩) σ H fun σ2 H2 => tb { D with nx := Pv (i + 1), ct := Pv (i + 1), bk := D.nx } σ2 H2) (hd : ∀ σ H, Pv z.cps.size σ H → D.nx σ H) :
    ∃ W : Nat → Nat → St → Hp → Prop, (∃ m, W 0 m σ H) ∧ ∀ i m σ H, W i m σ H →
      ((Its z).stop i H ∧ D.nx σ H) ∨ ((Its z).go i H ∧ ∃ N : St → Hp → Prop, (∀ σ' H', N σ' H' → ∃ m', m' < m ∧ W (i + 1) m' σ' H') ∧ ∀ x H', (Its z).yld i H x H' → g x σ H' fun σ2 H2 => tb { D with nx := N, ct := N, bk := D.nx } σ2 H2) := by
  refine ⟨fun i m σ H => m = z.cps.size - i ∧ i ≤ z.cps.size ∧ Pv i σ H, ⟨z.cps.size, by simp, Nat.zero_le _, h0⟩, ?_⟩
  rintro i m σ H ⟨rfl, hi, p⟩
  by_cases hlt : i < z.cps.size
  · refine .inr ⟨hlt, Pv (i + 1), fun σ' H' p' => ⟨z.cps.size - (i + 1), by omega, rfl, hlt, p'⟩, fun x H' y => ?_⟩
    obtain ⟨rfl, c, hc, rfl⟩ := y
    exact hs i c σ H' (by rw [Array.getElem?_toList]; exact hc) p
  · have : i = z.cps.size := by omega
    subst this
    exact .inl ⟨Nat.le_refl _, hd σ H p⟩

/-! ### drawing -/
def potA (c : Int) : Int := if c - 10 ^ 18 > 0 then c - 10 ^ 18 else 0
def potB (c : Int) : Int := ((if c < 0 then -c else c) % 2147483563 + 1) ^ 2 % 2147483549 + 17
def tkD (a b m : Int) : Int := if 0 < a then a % m else ((b * 48271 + 12347) % 2147483647) * ((b * 48271 + 12347) % 2147483647) % 2147483579 / 13 % m
def tkA (a b m : Int) : Int := if 0 < a then a / m else a
def tkB (a b m : Int) : Int := if 0 < a then b else (b * 48271 + 12347) % 2147483647
theorem tkD_nn {a b m : Int} (h : 0 < m) : 0 ≤ tkD a b m := by
  unfold tkD
  split <;> exact Int.emod_nonneg _ (by omega)
theorem tkD_lt {a b m : Int} (h : 0 < m) : tkD a b m < m := by
  unfold tkD
  split <;> exact Int.emod_lt_of_pos _ h
def PotOk (b : Int) : Prop := 0 ≤ b ∧ b < 4294967296
theorem tkB_ok {a b m : Int} (h : PotOk b) : PotOk (tkB a b m) := by
  unfold tkB PotOk at *
  split <;> omega
theorem potB_ok (c : Int) : PotOk (potB c) := by
  unfold potB PotOk
  omega
/-- a pot stands at p -/
def Pot (H : Hp) (p : Addr) (a b : Int) : Prop := H p = some (.lst [.int a, .int b]) ∧ PotOk b
def sp_l_pot : Sp := fun vs H Q _ => ∃ c : Int, vs = [.int c] ∧ ∀ p H', Same H H' → H p = none → Pot H' p (potA c) (potB c) → Q (.ref p) H'
def sp_l_take : Sp := fun vs H Q _ => ∃ (p : Addr) (a b m : Int), vs = [.ref p, .int m] ∧ Pot H p a b ∧ 0 < m ∧ m.natAbs.log2 < 9000 ∧
  ∀ H', SameBut p H H' → Pot H' p (tkA a b m) (tkB a b m) → Q (.int (tkD a b m)) H'
theorem atI_mem {α : Type} {xs : List α} {i : Int} (h0 : 0 ≤ i) (h1 : i < (xs.length : Int)) : ∃ v, atI xs i = some v ∧ v ∈ xs := by
  obtain ⟨j, rfl⟩ : ∃ j : Nat, i = (j : Int) := ⟨i.toNat, by omega⟩
  have hj : j < xs.length := by omega
  exact ⟨xs[j], atI_nat (by simp [hj]), List.getElem_mem hj⟩
theorem sz_of {n : Nat} (h : n ≤ 100000) : n ≤ sizeLine := Nat.le_trans h (by decide)
theorem sz_lt {n : Nat} (h : n < 100000) : n < sizeLine := Nat.lt_of_lt_of_le h (by decide)
theorem sum_ones {ys : List Str} (h : ∀ y ∈ ys, y.length = 1) : (ys.map (·.length)).sum = ys.length := by
  induction ys with
  | nil => rfl
  | cons y r ih =>
    rw [List.map_cons, List.sum_cons, ih fun z hz => h z (List.mem_cons_of_mem _ hz), h y List.mem_cons_self, List.length_cons]
    omega
theorem len_append (a b : Str) : (a ++ b).length = a.length + b.length := by
  show (a.cps ++ b.cps).size = _
  rw [Array.size_append]
  rfl
theorem len_toList (a : Str) : a.cps.toList.length = a.length := by
  rw [Array.length_toList]
  rfl
theorem Pot.ne {H : Hp} {p q : Addr} {a b : Int} (h : Pot H p a b) (n : H q = none) : q ≠ p := fun e => by
  subst e
  rw [h.1] at n
  cases n
theorem Pot.new {H : Hp} {p q : Addr} {a b : Int} {o : HO} (h : Pot H p a b) (n : H q = none) : Pot (L2.upd H q o) p a b := ⟨by rw [upd_ne (Ne.symm (h.ne n))]; exact h.1, h.2⟩
theorem Pot.other {H : Hp} {p q : Addr} {a b : Int} {o : HO} (h : Pot H p a b) (n : q ≠ p) : Pot (L2.upd H q o) p a b := ⟨by rw [upd_ne (Ne.symm n)]; exact h.1, h.2⟩
theorem SameBut.new {p q : Addr} {H H' : Hp} {o : HO} (h : SameBut p H H') (n : H' q = none) : SameBut p H (L2.upd H' q o) := h.same (Same.new n)
/-- a draw below m, small -/
theorem draw3 {m : Int} (h0 : 0 < m) (h : m < 2 ^ 60) : 0 < m ∧ m.natAbs.log2 < 9000 := ⟨h0, Nat.lt_of_lt_of_le (PySem.Flt.log2_lt_of (k := 60) (by decide) (by omega)) (by decide)⟩
/-- a cell of the script, or 0: some int -/
def sp_l_at (K : PySem.W.Frag) : Sp := fun vs H Q _ => ∃ (a : Addr) (ns : List Int) (i : Nat), vs = [.ref a, .int i] ∧ SqL K H a (ns.map V.int) ∧ ∀ c : Int, Q (.int c) H
/-- the law's own promise -/
def sp_law (K : PySem.W.Frag) : Sp := fun vs H Q _ => ∃ (a : Addr) (ns : List Int), vs = [.ref a] ∧ SqL K H a (ns.map V.int) ∧ ns.length ≤ 63 ∧ ∀ H', Q (.bl true) H'
/-- a draw, whatever comes -/
def sp_l_tk : Sp := fun vs H Q _ => ∃ (p : Addr) (a b m : Int), vs = [.ref p, .int m] ∧ Pot H p a b ∧ 0 < m ∧ m.natAbs.log2 < 9000 ∧
  ∀ (d a' b' : Int) (H' : Hp), SameBut p H H' → Pot H' p a' b' → 0 ≤ d → d < m → Q (.int d) H'
theorem take_any : ∀ vs H Q E, sp_l_tk vs H Q E → sp_l_take vs H Q E := by
  rintro vs H Q E ⟨p, a, b, m, rfl, hp, h0, h1, k⟩
  exact ⟨p, a, b, m, rfl, hp, h0, h1, fun H' s' p' => k _ _ _ H' s' p' (tkD_nn h0) (tkD_lt h0)⟩
theorem log2_small {m : Int} (h0 : 0 < m) (h : m < 2 ^ 60) : m.natAbs.log2 < 9000 :=
  Nat.lt_of_lt_of_le (PySem.Flt.log2_lt_of (k := 60) (by decide) (by omega)) (by decide)
end Cl

/-! ### ClHex: numbers in base sixteen, sums of texts -/
namespace Cl
open PySem L2
def hd (k : Nat) : Nat := if k < 10 then 48 + k else 87 + k
def hxR : Nat → Nat → List Nat → List Nat
  | 0, _, f => f
  | k + 1, r, f => if r = 0 then f else hxR k (r / 16) (hd (r % 16) :: f)
def hexL (n : Nat) : List Nat := hxR n (n / 16) [hd (n % 16)]
def sOf (l : List Nat) : Str := ⟨l.toArray⟩
def hexS (n : Nat) : Str := sOf (hexL n)
theorem hxR_fuel : ∀ (k r : Nat) (f : List Nat), r ≤ k → ∀ j, r ≤ j → hxR k r f = hxR j r f
  | 0, r, f, h, j, hj => by
    have : r = 0 := by omega
    subst this
    cases j with
    | zero => rfl
    | succ j => rfl
  | k + 1, r, f, h, j, hj => by
    cases j with
    | zero =>
      have : r = 0 := by omega
      subst this
      rfl
    | succ j =>
      show (if r = 0 then f else hxR k (r / 16) (hd (r % 16) :: f)) = if r = 0 then f else hxR j (r / 16) (hd (r % 16) :: f)
      split
      · rfl
      · exact hxR_fuel k (r / 16) _ (by omega) j (by omega)
theorem hxR_step {k r : Nat} (f : List Nat) (h : r ≤ k) (h0 : r ≠ 0) : hxR k r f = hxR k (r / 16) (hd (r % 16) :: f) := by
  cases k with
  | zero => omega
  | succ k =>
    show (if r = 0 then f else hxR k (r / 16) (hd (r % 16) :: f)) = _
    rw [if_neg h0]
    exact hxR_fuel _ _ _ (by omega) _ (by omega)
theorem hxR_zero (k : Nat) (f : List Nat) : hxR k 0 f = f := by
  cases k <;> rfl
def figs : Str := "0123456789abcdef"
theorem figs_at {k : Nat} (h : k < 16) : atI figs.cps.toList ((k : Nat) : Int) = some (hd k) := by
  have : ∀ k : Fin 16, atI figs.cps.toList ((k.val : Nat) : Int) = some (hd k.val) := by decide +kernel
  exact this ⟨k, h⟩
theorem figs_len : figs.length ≤ sizeLine := by decide +kernel
theorem sOf_app (a b : List Nat) : sOf a ++ sOf b = sOf (a ++ b) := by
  show (⟨a.toArray ++ b.toArray⟩ : Str) = ⟨(a ++ b).toArray⟩
  rw [List.append_toArray]
theorem sOf_len (l : List Nat) : (sOf l).length = l.length := by
  show l.toArray.size = _
  simp
theorem emod_nat (m k : Nat) : ((m : Int) % (k : Int)) = ((m % k : Nat) : Int) := by omega
theorem ediv_nat (m k : Nat) : ((m : Int) / (k : Int)) = ((m / k : Nat) : Int) := by omega
def sp_hex : Sp := fun vs H Q _ => ∃ n : Nat, vs = [.int n] ∧ n < 2 ^ 60 ∧ Q (.str (hexS n)) H
theorem hex_lt {i n j : Nat} (h : n < 2 ^ 60) (hj : j = n / 16 ^ i) (h0 : 0 < j) : i < 15 := by
  refine Nat.lt_of_not_le fun q => ?_
  have h1 : (16:Nat) ^ 15 ≤ 16 ^ i := Nat.pow_le_pow_right (by decide) q
  have h2 : (16:Nat) ^ 15 = 2 ^ 60 := by decide
  have h3 : n / 16 ^ i = 0 := Nat.div_eq_of_lt (by omega)
  omega
theorem hex_le {i n j : Nat} (hj : j = n / 16 ^ i) : j ≤ n := by
  rw [hj]
  exact Nat.div_le_self _ _
theorem str17 {l : List Nat} (h : l.length ≤ 100) : (sOf l).length ≤ sizeLine := by
  rw [sOf_len]
  exact Nat.le_trans h (by decide)

/-- the two numbers of a text's sum -/
def smA : List Nat → Nat → Nat
  | [], a => a
  | c :: r, a => smA r ((a + c) % 251)
def smB : List Nat → Nat → Nat → Nat
  | [], _, b => b
  | c :: r, a, b => smB r ((a + c) % 251) ((b + (a + c) % 251) % 241)
def smA' (l : List Nat) (n : Nat) : Nat := smA (l.take n) 0
def smB' (l : List Nat) (n : Nat) : Nat := smB (l.take n) 0 0
theorem smA_snoc : ∀ (l : List Nat) (c a : Nat), smA (l ++ [c]) a = (smA l a + c) % 251
  | [], _, _ => rfl
  | _ :: r, c, a => smA_snoc r c _
theorem smB_snoc : ∀ (l : List Nat) (c a b : Nat), smB (l ++ [c]) a b = (smB l a b + (smA l a + c) % 251) % 241
  | [], _, _, _ => rfl
  | _ :: r, c, a, b => smB_snoc r c _ _
theorem take_snoc {α : Type} {l : List α} {i : Nat} {c : α} (h : l[i]? = some c) : l.take (i + 1) = l.take i ++ [c] := by
  rw [List.take_add_one, h]
  rfl
theorem smA_lt : ∀ (l : List Nat) (a : Nat), a < 251 → smA l a < 251
  | [], _, h => h
  | _ :: r, _, _ => smA_lt r _ (Nat.mod_lt _ (by decide))
theorem smB_lt : ∀ (l : List Nat) (a b : Nat), b < 241 → smB l a b < 241
  | [], _, _, h => h
  | _ :: r, _, _, _ => smB_lt r _ _ (Nat.mod_lt _ (by decide))
def two (n : Nat) : Str := sOf [hd (n / 16), hd (n % 16)]
theorem two_zfill {n : Nat} (h : n < 256) : Txt.zfill (hexS n) 2 = two n := by
  have : ∀ n : Fin 256, Txt.zfill (hexS n.val) 2 = two n.val := by decide +kernel
  exact this ⟨n, h⟩
theorem two_cut {n : Nat} (h : n < 256) : cutS (hexS (256 + n)) (some 1) none = two n := by
  have : ∀ n : Fin 256, cutS (hexS (256 + n.val)) (some 1) none = two n.val := by decide +kernel
  exact this ⟨n, h⟩
theorem hex3 {n : Nat} (h : n < 256) : (hexS (256 + n)).length ≤ sizeLine := by
  have : ∀ n : Fin 256, (hexS (256 + n.val)).length = 3 := by decide +kernel
  exact Nat.le_trans (Nat.le_of_eq (this ⟨n, h⟩)) (by decide)
def sumS (z : Str) : Str := two (smA z.cps.toList 0) ++ two (smB z.cps.toList 0 0)
def sp_sum : Sp := fun vs H Q _ => ∃ z : Str, vs = [.str z] ∧ Q (.str (sumS z)) H
end Cl

/-! ### ClD: data made of tuples: how they stand, stay, are cut, compared and shown -/
namespace Cl
open PySem L2

/-- tuples, and what is read only, stay -/
structure TS (H H' : Hp) : Prop where
  tup : ∀ a xs, H a = some (.tup xs) → H' a = some (.tup xs)
  frz : ∀ a o u, H a = some (.frz o u) → H' a = some (.frz o u)
theorem TS.refl (H : Hp) : TS H H := ⟨fun _ _ h => h, fun _ _ _ h => h⟩
theorem TS.trans {H H1 H2 : Hp} (a : TS H H1) (b : TS H1 H2) : TS H H2 := ⟨fun x y h => b.tup x y (a.tup x y h), fun x y z h => b.frz x y z (a.frz x y z h)⟩
theorem TS.of {H H' : Hp} (s : Same H H') : TS H H' := ⟨fun a _ h => s a _ h, fun a _ _ h => s a _ h⟩
theorem TS.new {H : Hp} {p : Addr} {o : HO} (h : H p = none) : TS H (upd H p o) := TS.of (Same.new h)
theorem TS.lst {H : Hp} {p : Addr} {xs : List V} {o : HO} (h : H p = some (.lst xs)) : TS H (upd H p o) := by
  refine ⟨fun a ys e => ?_, fun a u v e => ?_⟩
  all_goals
    have n : a ≠ p := fun q => by
      subst q
      rw [h] at e
      cases e
    rw [upd_ne n]
    exact e
theorem TS.but {p : Addr} {H H' : Hp} {xs : List V} (s : SameBut p H H') (h : H p = some (.lst xs)) : TS H H' := by
  refine ⟨fun a ys e => ?_, fun a u v e => ?_⟩
  all_goals
    refine s a _ e fun q => ?_
    subst q
    rw [h] at e
    cases e
theorem TS.pot {p : Addr} {H H' : Hp} {a b : Int} (s : SameBut p H H') (h : Pot H p a b) : TS H H' := TS.but s h.1
theorem TS.seq {K : PySem.W.Frag} {H H' : Hp} {a : Addr} {xs : List V} (e : TS H H') (h : SqT K H a xs) : SqT K H' a xs := by
  rcases h with (h | ⟨o, h⟩) | h
  · exact .inl (.inl (e.tup _ _ h))
  · exact .inl (.inr ⟨o, e.frz _ _ _ h⟩)
  · exact .inr h

mutual
/-- v stands for d in H; d has tuples alone within -/
inductive Dt (K : PySem.W.Frag) (H : Hp) : V → PyData → Prop
  | non : Dt K H .non .none
  | bl (b : Bool) : Dt K H (.bl b) (.bool b)
  | int (i : Int) : Dt K H (.int i) (.int i)
  | str (x : Str) : Dt K H (.str x) (.str x)
  | tup {a : Addr} {xs : List V} {ds : List PyData} : SqT K H a xs → DtAll K H xs ds → Dt K H (.ref a) (.tuple ds)
inductive DtAll (K : PySem.W.Frag) (H : Hp) : List V → List PyData → Prop
  | nil : DtAll K H [] []
  | cons {v : V} {vs : List V} {d : PyData} {ds : List PyData} : Dt K H v d → DtAll K H vs ds → DtAll K H (v :: vs) (d :: ds)
end
section
variable {K : PySem.W.Frag} {H H' : Hp}
mutual
theorem Dt.mono (e : TS H H') : ∀ (d : PyData) {v : V}, Dt K H v d → Dt K H' v d
  | .none, _, h => by cases h; exact .non
  | .bool b, _, h => by cases h; exact .bl b
  | .int i, _, h => by cases h; exact .int i
  | .str x, _, h => by cases h; exact .str x
  | .tuple ds, _, h => by
    cases h with
    | tup hs ha => exact .tup (e.seq hs) (DtAll.mono e ds ha)
  | .list _, _, h => by cases h
  | .dict _, _, h => by cases h
theorem DtAll.mono (e : TS H H') : ∀ (ds : List PyData) {vs : List V}, DtAll K H vs ds → DtAll K H' vs ds
  | [], _, h => by cases h; exact .nil
  | d :: ds, _, h => by
    cases h with
    | cons h1 h2 => exact .cons (Dt.mono e d h1) (DtAll.mono e ds h2)
end
mutual
theorem Dt.dp : ∀ (d : PyData) {v : V}, Dt K H v d → Dp K H v d
  | .none, _, h => by cases h; exact .non
  | .bool b, _, h => by cases h; exact .bl b
  | .int i, _, h => by cases h; exact .int i
  | .str x, _, h => by cases h; exact .str x
  | .tuple ds, _, h => by
    cases h with
    | tup hs ha => exact .tup hs (DtAll.dp ds ha)
  | .list _, _, h => by cases h
  | .dict _, _, h => by cases h
theorem DtAll.dp : ∀ (ds : List PyData) {vs : List V}, DtAll K H vs ds → DpAll K H vs ds
  | [], _, h => by cases h; exact .nil
  | d :: ds, _, h => by
    cases h with
    | cons h1 h2 => exact .cons (Dt.dp d h1) (DtAll.dp ds h2)
end
theorem Dt.m (e : TS H H') {d : PyData} {v : V} (h : Dt K H v d) : Dt K H' v d := Dt.mono e d h
theorem DtAll.m (e : TS H H') {ds : List PyData} {vs : List V} (h : DtAll K H vs ds) : DtAll K H' vs ds := DtAll.mono e ds h
theorem DtAll.length : ∀ {ds : List PyData} {vs : List V}, DtAll K H vs ds → vs.length = ds.length
  | [], _, h => by cases h; rfl
  | _ :: _, _, h => by
    cases h with
    | cons h1 h2 => rw [List.length_cons, List.length_cons, DtAll.length h2]
theorem DtAll.get : ∀ {ds : List PyData} {vs : List V} {i : Nat} {d : PyData}, DtAll K H vs ds → ds[i]? = some d → ∃ v, vs[i]? = some v ∧ Dt K H v d
  | [], _, _, _, _, e => by simp at e
  | _ :: _, _, 0, _, h, e => by
    cases h with
    | cons h1 h2 =>
      rw [List.getElem?_cons_zero] at e
      cases e
      exact ⟨_, rfl, h1⟩
  | _ :: _, _, i + 1, _, h, e => by
    cases h with
    | cons h1 h2 =>
      rw [List.getElem?_cons_succ] at e
      obtain ⟨v, q1, q2⟩ := DtAll.get h2 e
      exact ⟨v, by rw [List.getElem?_cons_succ]; exact q1, q2⟩
theorem DtAll.getV : ∀ {ds : List PyData} {vs : List V} {i : Nat} {v : V}, DtAll K H vs ds → vs[i]? = some v → ∃ d, ds[i]? = some d ∧ Dt K H v d
  | [], _, _, _, h, e => by cases h; simp at e
  | _ :: _, _, 0, _, h, e => by
    cases h with
    | cons h1 h2 =>
      rw [List.getElem?_cons_zero] at e
      cases e
      exact ⟨_, rfl, h1⟩
  | _ :: _, _, i + 1, _, h, e => by
    cases h with
    | cons h1 h2 =>
      rw [List.getElem?_cons_succ] at e
      obtain ⟨d, q1, q2⟩ := DtAll.getV h2 e
      exact ⟨d, by rw [List.getElem?_cons_succ]; exact q1, q2⟩
theorem DtAll.app : ∀ {ds es : List PyData} {vs us : List V}, DtAll K H vs ds → DtAll K H us es → DtAll K H (vs ++ us) (ds ++ es)
  | [], _, _, _, h, k => by cases h; exact k
  | _ :: _, _, _, _, h, k => by
    cases h with
    | cons h1 h2 => exact .cons h1 (DtAll.app h2 k)
theorem DtAll.take : ∀ {ds : List PyData} {vs : List V} (n : Nat), DtAll K H vs ds → DtAll K H (vs.take n) (ds.take n)
  | _, _, 0, _ => .nil
  | [], _, _ + 1, h => by cases h; exact .nil
  | _ :: _, _, n + 1, h => by
    cases h with
    | cons h1 h2 => exact .cons h1 (DtAll.take n h2)
theorem DtAll.drop : ∀ {ds : List PyData} {vs : List V} (n : Nat), DtAll K H vs ds → DtAll K H (vs.drop n) (ds.drop n)
  | _, _, 0, h => h
  | [], _, _ + 1, h => by cases h; exact .nil
  | _ :: _, _, n + 1, h => by
    cases h with
    | cons h1 h2 => exact DtAll.drop n h2
theorem DtAll.of : ∀ {ds : List PyData} {vs : List V}, vs.length = ds.length → (∀ (i : Nat) v d, vs[i]? = some v → ds[i]? = some d → Dt K H v d) → DtAll K H vs ds
  | [], [], _, _ => .nil
  | [], _ :: _, e, _ => by cases e
  | _ :: _, [], e, _ => by cases e
  | d :: ds, v :: vs, e, h => .cons (h 0 v d rfl rfl) (DtAll.of (by simpa using e) fun i w c h1 h2 => h (i + 1) w c (by simpa using h1) (by simpa using h2))
theorem DtAll.strs (ys : List Str) : DtAll K H (ys.map V.str) (ys.map PyData.str) := by
  induction ys with
  | nil => exact .nil
  | cons y r ih => exact .cons (.str y) ih
theorem DtAll.ints (ys : List Int) : DtAll K H (ys.map V.int) (ys.map PyData.int) := by
  induction ys with
  | nil => exact .nil
  | cons y r ih => exact .cons (.int y) ih
/-- a new tuple of such -/
theorem Dt.new {p : Addr} {xs : List V} {ds : List PyData} (h : DtAll K H xs ds) (hp : H p = none) : Dt K (upd H p (.tup xs)) (.ref p) (.tuple ds) := .tup (SqT.of upd_same) (h.m (TS.new hp))
theorem Dt.inv {v : V} {ds : List PyData} (h : Dt K H v (.tuple ds)) : ∃ a xs, v = .ref a ∧ SqT K H a xs ∧ DtAll K H xs ds := by
  cases h with
  | tup hs ha => exact ⟨_, _, rfl, hs, ha⟩
theorem Dt.two {v : V} {d1 d2 : PyData} (h : Dt K H v (.tuple [d1, d2])) : ∃ a v1 v2, v = .ref a ∧ SqT K H a [v1, v2] ∧ Dt K H v1 d1 ∧ Dt K H v2 d2 := by
  obtain ⟨a, xs, rfl, hs, ha⟩ := h.inv
  cases ha with
  | cons h1 ha => cases ha with
    | cons h2 ha => cases ha with
      | nil => exact ⟨_, _, _, rfl, hs, h1, h2⟩
theorem Dt.three {v : V} {d1 d2 d3 : PyData} (h : Dt K H v (.tuple [d1, d2, d3])) : ∃ a v1 v2 v3, v = .ref a ∧ SqT K H a [v1, v2, v3] ∧ Dt K H v1 d1 ∧ Dt K H v2 d2 ∧ Dt K H v3 d3 := by
  obtain ⟨a, xs, rfl, hs, ha⟩ := h.inv
  cases ha with
  | cons h1 ha => cases ha with
    | cons h2 ha => cases ha with
      | cons h3 ha => cases ha with
        | nil => exact ⟨_, _, _, _, rfl, hs, h1, h2, h3⟩
theorem Dt.strI {v : V} {x : Str} (h : Dt K H v (.str x)) : v = .str x := by cases h; rfl
theorem Dt.intI {v : V} {i : Int} (h : Dt K H v (.int i)) : v = .int i := by cases h; rfl
theorem Dt.nonI {v : V} (h : Dt K H v .none) : v = .non := by cases h; rfl

/-! ### slices -/
def cutG {α : Type} (xs : List α) (lo hi : Option Int) : List α := (xs.drop (HT.sIx xs.length 0 lo)).take (HT.sIx xs.length xs.length hi - HT.sIx xs.length 0 lo)
theorem cutG_V (xs : List V) (lo hi : Option Int) : cutG xs lo hi = cutV xs lo hi := rfl
theorem DtAll.cut {ds : List PyData} {vs : List V} (h : DtAll K H vs ds) (lo hi : Option Int) : DtAll K H (cutV vs lo hi) (cutG ds lo hi) := by
  unfold cutV cutG
  rw [h.length]
  exact (h.drop _).take _
theorem sl_dt {v : V} {ds : List PyData} {lo hi : Option Int} {Q : VK} (h : Dt K H v (.tuple ds)) (k : ∀ v' H', Same H H' → Dt K H' v' (.tuple (cutG ds lo hi)) → Q v' H') : rSlA K v lo hi H Q := by
  obtain ⟨a, xs, rfl, hs, ha⟩ := h.inv
  refine ⟨a, xs, rfl, hs, fun e => k _ H (Same.refl H) ?_, fun _ p hp => k _ _ (Same.new hp) (Dt.new (ha.cut lo hi) hp)⟩
  have : cutG ds lo hi = ds := by
    unfold cutG
    rw [← ha.length, e.1, e.2, ha.length]
    simp
  rw [this]
  exact h
theorem sIx_le {n k : Nat} (d : Nat) (h : k ≤ n) : HT.sIx n d (some (k : Int)) = k := by
  rw [HT.sIx_nat]
  omega
theorem sIx_big {n k : Nat} (d : Nat) (h : n ≤ k) : HT.sIx n d (some (k : Int)) = n := by
  rw [HT.sIx_nat]
  omega
theorem cutG_nat {α : Type} (xs : List α) (i j : Nat) : cutG xs (some (i : Int)) (some (j : Int)) = (xs.drop i).take (j - i) := by
  unfold cutG
  by_cases h1 : i ≤ xs.length
  · rw [sIx_le _ h1]
    by_cases h2 : j ≤ xs.length
    · rw [sIx_le _ h2]
    · rw [sIx_big _ (by omega), List.take_of_length_le (by simp), List.take_of_length_le (by simp; omega)]
  · rw [sIx_big _ (by omega : xs.length ≤ i), List.drop_of_length_le (by omega), List.drop_of_length_le (by omega)]
    simp
end

/-! ### ranges by fours, by sixes -/
theorem rgc4 {n : Nat} (hn : n < 1000000) : RgC 0 (n : Int) 4 ((n + 3) / 4) := by
  have e : Builtin.Range.rangeSize 0 (n : Int) 4 = (((n + 3) / 4 : Nat) : Int) := by
    unfold Builtin.Range.rangeSize
    rw [if_pos (by decide)]
    split <;> omega
  refine ⟨by decide, by decide, ?_, e⟩
  have fits : ∀ z : Int, -(2 ^ 62) ≤ z → z < 2 ^ 62 → Builtin.Range.rangeFitsLong z = true := fun z h1 h2 => by
    unfold Builtin.Range.rangeFitsLong
    rw [decide_eq_true (show -(2 ^ 63) ≤ z by omega), decide_eq_true (show z < 2 ^ 63 by omega)]
    rfl
  unfold Builtin.Range.small
  rw [e]
  repeat rw [fits _ (by omega) (by omega)]
  simp
theorem rgc6 {n : Nat} (hn : n < 1000000) : RgC 0 (n : Int) 6 ((n + 5) / 6) := by
  have e : Builtin.Range.rangeSize 0 (n : Int) 6 = (((n + 5) / 6 : Nat) : Int) := by
    unfold Builtin.Range.rangeSize
    rw [if_pos (by decide)]
    split <;> omega
  refine ⟨by decide, by decide, ?_, e⟩
  have fits : ∀ z : Int, -(2 ^ 62) ≤ z → z < 2 ^ 62 → Builtin.Range.rangeFitsLong z = true := fun z h1 h2 => by
    unfold Builtin.Range.rangeFitsLong
    rw [decide_eq_true (show -(2 ^ 63) ≤ z by omega), decide_eq_true (show z < 2 ^ 63 by omega)]
    rfl
  unfold Builtin.Range.small
  rw [e]
  repeat rw [fits _ (by omega) (by omega)]
  simp
/-! ### texts of signs -/
def chS (c : Nat) : Str := ⟨#[c]⟩
theorem join_ones0 : ∀ cs : List Nat, Str.join (Str.ofString "") (cs.map chS) = ⟨cs.toArray⟩
  | [] => by decide +kernel
  | [c] => rfl
  | c :: d :: r => by
    have ih := join_ones0 (d :: r)
    show chS c ++ Str.ofString "" ++ Str.join (Str.ofString "") (chS d :: r.map chS) = _
    rw [show Str.join (Str.ofString "") (chS d :: r.map chS) = ⟨(d :: r).toArray⟩ from ih]
    show (⟨(#[c] ++ (Str.ofString "").cps) ++ (d :: r).toArray⟩ : Str) = ⟨(c :: d :: r).toArray⟩
    rw [show (Str.ofString "").cps = #[] by decide +kernel]
    simp
theorem join_ones (cs : List Nat) : Txt.join (Str.ofString "") (cs.map chS) = ⟨cs.toArray⟩ := by
  rw [TL.join_eq]
  exact join_ones0 cs
/-! ### repr -/
/-- what can be shown: depth at most k, at most n signs -/
structure Sz (k n : Nat) (d : PyData) : Prop where
  sh : d.showable = true
  dep : d.depth ≤ k
  len : d.shown.length ≤ n
theorem Sz.mono {k n k' n' : Nat} {d : PyData} (h : Sz k n d) (hk : k ≤ k') (hn : n ≤ n') : Sz k' n' d := ⟨h.sh, Nat.le_trans h.dep hk, Nat.le_trans h.len hn⟩
theorem Sz.none {k : Nat} : Sz k 4 .none := ⟨by simp [PyData.showable], by simp [PyData.depth], by decide +kernel⟩
theorem Sz.bool {k : Nat} (b : Bool) : Sz k 5 (.bool b) := ⟨by simp [PyData.showable], by simp [PyData.depth], by cases b <;> decide +kernel⟩
theorem ofString_len (s : String) : (Str.ofString s).length = s.length := by
  rw [Str.ofString_eq_toList]
  show (s.toList.map Char.toNat).toArray.size = _
  rw [List.size_toArray, List.length_map, String.length_toList]
theorem Sz.int {k m : Nat} {i : Int} (h0 : 0 < m) (h : i.natAbs < 2 ^ m) (hm : m < 1920) : Sz k (m + 1) (.int i) := by
  have hl := PySem.Flt.log2_lt_of h0 h
  refine ⟨by simp only [PyData.showable]; exact decide_eq_true (Nat.lt_trans hl hm), by simp [PyData.depth], ?_⟩
  simp only [PyData.shown]
  rw [ofString_len]
  exact PySem.int_text_length_le h0 hl
theorem Sz.str {k : Nat} {x : Str} (h : ∀ c ∈ x.cps.toList, c < 16 ^ 8) : Sz k (10 * x.length + 2) (.str x) :=
  ⟨by simp [PyData.showable], by simp [PyData.depth], by simp only [PyData.shown]; exact PySem.StrLaws.reprText_len x h⟩
theorem szAll {k n : Nat} : ∀ {ds : List PyData}, (∀ d ∈ ds, Sz k n d) → PyData.showableAll ds = true ∧ PyData.depthAll ds ≤ k ∧ PySem.piled (PyData.shownAll ds) ≤ (n + 2) * ds.length ∧ (PyData.shownAll ds).length = ds.length
  | [], _ => ⟨by simp [PyData.showableAll], by simp [PyData.depthAll], by simp [PyData.shownAll, PySem.piled], by simp [PyData.shownAll]⟩
  | d :: ds, h => by
    obtain ⟨a, b, c, e⟩ := szAll (ds := ds) fun x hx => h x (List.mem_cons_of_mem _ hx)
    have hd := h d List.mem_cons_self
    refine ⟨by simp only [PyData.showableAll, hd.sh, a, Bool.and_self], by simp only [PyData.depthAll]; exact Nat.max_le.mpr ⟨hd.dep, b⟩, ?_, by simp only [PyData.shownAll, List.length_cons, e]⟩
    simp only [PyData.shownAll]
    rw [PySem.piled_cons, List.length_cons, Nat.mul_succ]
    have := hd.len
    omega
theorem textFrom_le : ∀ (ts : List Str) (k : Nat) (acc : Str), (PySem.textFrom k acc ts).length ≤ acc.length + PySem.piled ts
  | [], _, acc => by
    show acc.length ≤ acc.length + _
    omega
  | t :: r, k, acc => by
    have h := textFrom_le r (k + 1) (acc ++ (if k > 0 then ", " else "" : String) ++ t)
    have e : (acc ++ (if k > 0 then ", " else "" : String) ++ t).length ≤ acc.length + 2 + t.length := by
      rw [len_append, len_append]
      have : ((if k > 0 then ", " else "" : String) : Str).length ≤ 2 := by split <;> decide +kernel
      omega
    show (PySem.textFrom (k + 1) _ r).length ≤ _
    rw [PySem.piled_cons]
    omega
theorem Sz.list {k n : Nat} {ds : List PyData} (h : ∀ d ∈ ds, Sz k n d) : Sz (k + 1) ((n + 2) * ds.length + 2) (.list ds) := by
  obtain ⟨a, b, c, e⟩ := szAll h
  refine ⟨by simp only [PyData.showable]; exact a, by simp only [PyData.depth]; omega, ?_⟩
  simp only [PyData.shown]
  unfold PySem.listText
  rw [len_append]
  have h1 := textFrom_le (PyData.shownAll ds) 0 "["
  have e1 : (("[" : String) : Str).length = 1 := by decide +kernel
  have e2 : (("]" : String) : Str).length = 1 := by decide +kernel
  omega
theorem Sz.tuple {k n : Nat} {ds : List PyData} (h : ∀ d ∈ ds, Sz k n d) : Sz (k + 1) ((n + 2) * ds.length + 3) (.tuple ds) := by
  obtain ⟨a, b, c, e⟩ := szAll h
  refine ⟨by simp only [PyData.showable]; exact a, by simp only [PyData.depth]; omega, ?_⟩
  simp only [PyData.shown]
  unfold PySem.tupleText
  rw [len_append, len_append]
  have e1 : (("(" : String) : Str).length = 1 := by decide +kernel
  have e2 : ((if (PyData.shownAll ds).length == 1 then ",)" else ")" : String) : Str).length ≤ 2 := by split <;> decide +kernel
  have h1 : (Str.join ", " (PyData.shownAll ds)).length ≤ PySem.piled (PyData.shownAll ds) := by
    cases hq : PyData.shownAll ds with
    | nil =>
      show 0 ≤ _
      omega
    | cons x r =>
      have := PySem.join_length_add (x :: r) (by simp)
      omega
  omega
section
variable {X : Cx}
def rRepr (K : PySem.W.Frag) : List V → Hp → VK → Prop := fun xs H Q => ∃ (a : Addr) (d : PyData), xs = [.ref a] ∧ Dp K H (.ref a) d ∧ Sz 60 sizeLine d ∧ Q (.str d.shown) H
theorem dp_noDict {K : PySem.W.Frag} {H : Hp} : ∀ (d : PyData) {v : V}, Dp K H v d → d.hasDict = false
  | .none, _, _ => by simp [PyData.hasDict]
  | .bool _, _, _ => by simp [PyData.hasDict]
  | .int _, _, _ => by simp [PyData.hasDict]
  | .str _, _, _ => by simp [PyData.hasDict]
  | .list ds, _, h => by
    cases h with
    | lst _ ha =>
      simp only [PyData.hasDict]
      exact go ds ha
  | .tuple ds, _, h => by
    cases h with
    | tup _ ha =>
      simp only [PyData.hasDict]
      exact go ds ha
  | .dict _, _, h => by cases h
where go : ∀ (ds : List PyData) {vs : List V}, DpAll K H vs ds → PyData.hasDictAll ds = false
  | [], _, _ => by simp [PyData.hasDictAll]
  | d :: ds, _, h => by
    cases h with
    | cons h1 h2 =>
      simp only [PyData.hasDictAll, dp_noDict d h1, go ds h2, Bool.or_self]
theorem call_repr {k : Nat} (hr : Rm k X.A) : CallR X (.builtin "repr") (rRepr X.K) := by
  intro pins s σ H xs us Q I r h
  obtain ⟨a, d, rfl, hd, sz, q⟩ := h
  obtain ⟨u, rfl, hu⟩ := vals1 r
  obtain ⟨as, hr1⟩ := Dp.reads I d _ u hd hu
  cases hu
  have hz := sz.dep
  have hun := hr.units
  exact PySem.repr_of_reads' (h₀ := s.heap) hr1 sz.sh (PyData.noDict_hsm (dp_noDict d hd)) hr.gd (by omega) (fun _ _ e => e)
    (fun h' u tk hk => ⟨.str d.shown, H, I.kept hk, ⟨_, rfl⟩, q⟩) sz.len
theorem call_reprK (K : PySem.W.Frag) {k : Nat} (hr : Rm k X.A) (hK : X.K = K := by rfl) : CallR X (.builtin "repr") (rRepr K) := by subst hK; exact call_repr hr
end
end Cl

namespace Cl
open PySem L2
def topS (i : Nat) : Stmt := PySem.Challenge.pw_cleanedlog_k41_contents.main.body.getD i (.Pass ⟨0, 0, 0, 0⟩)
section
variable {P : Program} {w : World} {K : PySem.W.Frag} {mg : Str → Option Value} {base : Heap}
abbrev s_many_blocks : Stmt := topS 6
abbrev N_many_blocks : List Str := ["many"]
theorem sc_many_blocks : FnScope N_many_blocks ["many"] (defScope s_many_blocks) := ⟨rfl, rfl, rfl, by decide +kernel, rfl, by decide +kernel, by decide +kernel⟩
def sp_many_blocks : Sp := fun vs H Q _ => ∃ n : Nat, vs = [.int n] ∧ Q (.int (((n + 3) / 4 : Nat) : Int)) H
theorem ok_many_blocks {f : Addr} {fd : FuncData} (F : Fun K "many_blocks" "many_blocks" s_many_blocks f fd) (B : Bt mg) {tk_WIDE : Tok} (g_WIDE : mg "WIDE" = some (.int 4 tk_WIDE)) : GnOk P w K mg base CX0 1 f fd ["many"] sp_many_blocks := by
  refine gn_fun F sc_many_blocks (fun vs H Q E h => ?_) (fun cdv A outer s H vs Q E hr h => ?_)
  · obtain ⟨n, rfl, _⟩ := h
    rfl
  · obtain ⟨n, rfl, k⟩ := h
    refine ⟨_, (pss_one (ps_ret (pe_op op_fdiv (pe_op op_sub (pe_op op_add (pv 0) (pe_glob (by rfl) g_WIDE (rel_i _ _))) pe_int) (pe_glob (by rfl) g_WIDE (rel_i _ _))))), ?_⟩
    refine ⟨_, rfl, _, _, rfl, rfl, _, _, rfl, rfl, _, _, rfl, rfl, ⟨by decide, by decide⟩, ?_⟩
    have e : (((n : Int) + 4 - 1) / 4) = (((n + 3) / 4 : Nat) : Int) := by omega
    have k' : Q (.int (((n : Int) + 4 - 1) / 4)) H := by
      rw [e]
      exact k
    exact k'
abbrev s_contents_of : Stmt := topS 5
abbrev N_contents_of : List Str := ["number", "node", "kind", "links", "things", "at"]
theorem sc_contents_of : FnScope N_contents_of ["number", "node"] (defScope s_contents_of) := ⟨rfl, rfl, rfl, by decide +kernel, rfl, by decide +kernel, by decide +kernel⟩
/-- the content blocks of a node -/
def blkD (kn : Str) (n : Int) (ds : List PyData) : List PyData := (List.range ((ds.length + 3) / 4)).map fun i => .tuple [.str kn, .int n, .int (i : Nat), .tuple ((ds.drop (i * 4)).take 4)]
def kn (kd : Str) : Str := if kd = "dir" then "names" else "words"
def nodeD (kd : Str) (lk : Int) (ds : List PyData) : PyData := .tuple [.str kd, .int lk, .tuple ds]
def sp_contents (K : PySem.W.Frag) : Sp := fun vs H Q _ => ∃ (n : Int) (v : V) (kd : Str) (lk : Int) (ds : List PyData), vs = [.int n, v] ∧ (kd = "file" ∨ kd = "dir") ∧ ds.length ≤ 100 ∧ Dt K H v (nodeD kd lk ds) ∧
  ∀ l xs H', Same H H' → H l = none → H' l = some (.lst xs) → DtAll K H' xs (blkD (kn kd) n ds) → Q (.ref l) H'
theorem blkD_len (kn : Str) (n : Int) (ds : List PyData) : (blkD kn n ds).length = (ds.length + 3) / 4 := by
  unfold blkD
  rw [List.length_map, List.length_range]
theorem blkD_take (kn : Str) (n : Int) (ds : List PyData) {i : Nat} (h : i < (ds.length + 3) / 4) : (blkD kn n ds).take (i + 1) = (blkD kn n ds).take i ++ [.tuple [.str kn, .int n, .int (i : Nat), .tuple ((ds.drop (i * 4)).take 4)]] := by
  refine take_snoc ?_
  unfold blkD
  rw [List.getElem?_map, List.getElem?_range h]
  rfl
theorem ok_contents_of {f : Addr} {fd : FuncData} (F : Fun K "contents_of" "contents_of" s_contents_of f fd) (B : Bt mg) (C_many_blocks : Cal P w K mg base CX0 "many_blocks" 1 ["many"] sp_many_blocks) {A_CONTENTS : Addr} (g_CONTENTS : mg "CONTENTS" = some (.ref A_CONTENTS)) (d_CONTENTS_0 : KDct K w A_CONTENTS "file" (.str "words")) (d_CONTENTS_1 : KDct K w A_CONTENTS "dir" (.str "names")) {tk_WIDE : Tok} (g_WIDE : mg "WIDE" = some (.int 4 tk_WIDE)) : GnOk P w K mg base CX0 2 f fd ["number", "node"] (sp_contents K) := by
  refine gn_fun F sc_contents_of (fun vs H Q E h => ?_) (fun cdv A outer s H vs Q E hr h => ?_)
  · obtain ⟨n, v, kd, lk, ds, rfl, _⟩ := h
    rfl
  · obtain ⟨n, v, kd, lk, ds, rfl, hk, hn, hd, k⟩ := h
    obtain ⟨a, v1, v2, v3, rfl, hs, h1, h2, h3⟩ := hd.three
    obtain rfl := h1.strI
    obtain rfl := h2.intI
    obtain ⟨b, ys, rfl, hb, hy⟩ := h3.inv
    refine ⟨_, (pss_cons (ps_asg (pv 1) (pg_tup (by rfl) (pgs_cons (pg_name (i := 2) sc_contents_of.nd rfl (Or.inr rfl)) (pgs_cons (pg_name (i := 3) sc_contents_of.nd rfl (Or.inl rfl)) (pgs_cons (pg_name (i := 4) sc_contents_of.nd rfl (Or.inr rfl)) pgs_nil)))))
    (pss_one (ps_ret (pe_lc (own := [("at", 5)]) (g := gName 5) (tt := tYes) (by rfl) sc_contents_of.nd (pi_range1 (by rfl) B.range (pa_cons (pe_cal C_many_blocks (hr.mono (by decide)) (by rfl) pass0 (pa_cons (pe_callB (call_lenK K) (by rfl) B.len (by decide +kernel) (pa_cons (pv 4) pa_nil)) pa_nil)) pa_nil)) (blkOk_by (N := N_contents_of) (sc := defScope s_contents_of) (by decide +kernel)) (fun _ _ _ _ _ => pg_name (i := 5) sc_contents_of.nd rfl (Or.inl rfl)) (fun _ _ _ _ _ => pts_nil) (fun _ _ _ _ _ => (pe_tup (pa_cons (pe_ix (ix_kdictK K w) (pe_glob (by rfl) g_CONTENTS (rel_r _)) (pv 2) (fun _ _ => rfl)) (pa_cons (pv 0) (pa_cons (pv 5) (pa_cons (pe_slice (sl_tupAK K) (pv 4) (po_some (pe_op op_mul (pv 5) (pe_glob (by rfl) g_WIDE (rel_i _ _)))) (po_some (pe_op op_add (pe_op op_mul (pv 5) (pe_glob (by rfl) g_WIDE (rel_i _ _))) (pe_glob (by rfl) g_WIDE (rel_i _ _))))) pa_nil)))))))))), ?_⟩
    refine ⟨_, rfl, a, _, rfl, hs, rfl, _, _, rfl, _, _, rfl, _, _, rfl, rfl, ?_⟩
    refine ⟨_, rfl, _, ds.length, rfl, .inr ⟨_, hb, hy.length.symm⟩, ds.length, rfl, ?_⟩
    refine ⟨_, rfl, by omega, by omega, fun D hD => lc_range (lo := 0) (n := (ds.length + 3) / 4) (fun i H1 => ∃ xs, H1 D = some (.lst xs) ∧ DtAll K H1 xs ((blkD (kn kd) n ds).take i) ∧ Same H H1) ⟨[], upd_same, .nil, Same.new hD⟩ ?_ ?_⟩
    · rintro i H1 hi ⟨xs, hx, hxs, s1⟩
      have hl : xs.length = i := by rw [hxs.length, List.length_take, blkD_len]; omega
      have t1 : TS H H1 := TS.of s1
      refine ⟨rfl, ?_⟩
      have kd' : KDct K w A_CONTENTS kd (.str (kn kd)) := by
        rcases hk with rfl | rfl
        · exact d_CONTENTS_0
        · exact d_CONTENTS_1
      refine ⟨_, rfl, _, _, _, rfl, rfl, kd', _, rfl, _, rfl, _, rfl, _, rfl, _, _, rfl, rfl, .inr (by decide), _, rfl, _, rfl, _, _, rfl, rfl, .inr (by decide), _, _, rfl, rfl, _, rfl, ?_⟩
      refine sl_dt (Dt.tup (t1.seq hb) (hy.m t1)) fun v' H2 s2 h2 => ⟨by show 4 ≤ sizeLine; decide, fun p hp => ?_⟩
      have np : p ≠ D := (ne_of_none (s2 D _ hx) hp).symm
      refine ⟨xs, (by rw [upd_ne np.symm]; exact s2 D _ hx), sz_lt (by omega), _, upd_same, ?_, ?_⟩
      · rw [blkD_take _ _ _ hi]
        have st : TS H2 (upd (upd H2 p (.tup [.str (kn kd), .int n, .int (0 + (i : Int)), v'])) D (.lst (xs ++ [.ref p]))) := (TS.new hp).trans (TS.lst (by rw [upd_ne np.symm]; exact s2 D _ hx))
        refine ((hxs.m (TS.of s2)).m st).app (.cons ?_ .nil)
        have e0 : (0 : Int) + (i : Int) = ((i : Nat) : Int) := Int.zero_add _
        have e1 : cutG ds (some ((0 + (i : Int)) * 4)) (some ((0 + (i : Int)) * 4 + 4)) = (ds.drop (i * 4)).take 4 := by
          rw [show ((0 + (i : Int)) * 4) = ((i * 4 : Nat) : Int) by omega, show (((i * 4 : Nat) : Int) + 4) = ((i * 4 + 4 : Nat) : Int) by omega, cutG_nat, show i * 4 + 4 - i * 4 = 4 by omega]
        refine Dt.m (TS.lst (by rw [upd_ne np.symm]; exact s2 D _ hx)) (Dt.new ?_ hp)
        rw [e1] at h2
        rw [e0]
        exact .cons (.str _) (.cons (.int _) (.cons (.int _) (.cons h2 .nil)))
      · exact Same.newer ((s1.trans s2).trans (Same.new hp)) hD
    · rintro H1 ⟨xs, hx, hxs, s1⟩
      rw [List.take_of_length_le (by rw [blkD_len]; omega)] at hxs
      exact k D xs H1 s1 hD hx hxs
abbrev s_l_cell : Stmt := topS 8
abbrev N_l_cell : List Str := ["script", "k"]
theorem sc_l_cell : FnScope N_l_cell ["script", "k"] (defScope s_l_cell) := ⟨rfl, rfl, rfl, by decide +kernel, rfl, by decide +kernel, by decide +kernel⟩
theorem ok_l_cell {f : Addr} {fd : FuncData} (F : Fun K "_law_cell" "_law_cell" s_l_cell f fd) (B : Bt mg) : GnOk P w K mg base CX0 1 f fd ["script", "k"] (sp_l_at K) := by
  refine gn_fun F sc_l_cell (fun vs H Q E h => ?_) (fun cdv A outer s H vs Q E hr h => ?_)
  · obtain ⟨a, ns, i, rfl, _⟩ := h
    rfl
  · obtain ⟨a, ns, i, rfl, hS, k⟩ := h
    refine ⟨_, (pss_one (ps_ret (pe_ifExp (pt_cmpR op_lt (pv 1) (pe_callB (call_lenK K) (by rfl) B.len (by decide +kernel) (pa_cons (pv 0) pa_nil)) (nomark _)) (pe_ix (ix_listK K) (pv 0) (pv 1) (fun _ _ => rfl)) pe_int))), ?_⟩
    refine ⟨_, rfl, _, rfl, _, ns.length, rfl, .inl ⟨_, hS, by simp⟩, _, _, rfl, rfl, _, rfl, ?_⟩
    refine ite2 (fun c => ?_) (fun c => ?_)
    · have c' : (i : Int) < ns.length := of_decide_eq_true c
      refine ⟨_, rfl, _, rfl, a, _, _, _, rfl, rfl, hS, atI_nat (v := V.int (ns[i]'(by omega))) (by simp [show i < ns.length by omega]), ?_⟩
      exact k _
    · exact k 0
abbrev s_l_pot : Stmt := topS 9
abbrev N_l_pot : List Str := ["cell"]
theorem sc_l_pot : FnScope N_l_pot ["cell"] (defScope s_l_pot) := ⟨rfl, rfl, rfl, by decide +kernel, rfl, by decide +kernel, by decide +kernel⟩
theorem ok_l_pot {f : Addr} {fd : FuncData} (F : Fun K "_law_pot" "_law_pot" s_l_pot f fd) (B : Bt mg) : GnOk P w K mg base CX0 1 f fd ["cell"] sp_l_pot := by
  refine gn_fun F sc_l_pot (fun vs H Q E h => ?_) (fun cdv A outer s H vs Q E hr h => ?_)
  · obtain ⟨c, rfl, _⟩ := h
    rfl
  · obtain ⟨c, rfl, k⟩ := h
    refine ⟨_, pss_one (ps_ret (pe_lst (pa_cons (pe_callB (call_max2 rfl) (by rfl) B.max (by decide +kernel) (pa_cons pe_int (pa_cons (pe_op op_sub (pv 0) (pe_op op_pow pe_int pe_int)) pa_nil)))
      (pa_cons (pe_op op_add (pe_op op_mod (pe_op op_pow (pe_op op_add (pe_op op_mod (pe_callB call_abs (by rfl) B.abs (by decide +kernel) (pa_cons (pv 0) pa_nil)) pe_int) pe_int) pe_int) pe_int) pe_int) pa_nil)))), ?_⟩
    refine ⟨_, rfl, _, _, rfl, rfl, ⟨by decide, by decide, by decide⟩, _, _, rfl, rfl, _, _, rfl, ?_⟩
    refine ⟨_, rfl, _, rfl, ?_⟩
    refine ⟨_, _, rfl, rfl, (by show (0:Int) < 2147483563; decide), _, _, rfl, rfl, _, _, rfl, rfl, ⟨by decide, by decide, ?_⟩, ?_⟩
    · show (((if c < 0 then -c else c) % 2147483563 + 1 : Int)).natAbs < 2 ^ 64
      omega
    refine ⟨_, _, rfl, rfl, (by show (0:Int) < 2147483549; decide), _, _, rfl, rfl, (by show 2 ≤ sizeLine; decide), fun p hp => ?_⟩
    exact k p _ (Same.new hp) hp ⟨upd_same, potB_ok c⟩
abbrev s_l_take : Stmt := topS 10
abbrev N_l_take : List Str := ["pot", "many", "digit"]
theorem sc_l_take : FnScope N_l_take ["pot", "many"] (defScope s_l_take) := ⟨rfl, rfl, rfl, by decide +kernel, rfl, by decide +kernel, by decide +kernel⟩
theorem ok_l_take0 {f : Addr} {fd : FuncData} (F : Fun K "_law_take" "_law_take" s_l_take f fd) (B : Bt mg) : GnOk P w K mg base CX0 1 f fd ["pot", "many"] sp_l_take := by
  refine gn_fun F sc_l_take (fun vs H Q E h => ?_) (fun cdv A outer s H vs Q E hr h => ?_)
  · obtain ⟨p, a, b, m, rfl, _⟩ := h
    rfl
  · obtain ⟨p, a, b, m, rfl, ⟨hp, hb⟩, hm, hm2, k⟩ := h
    refine ⟨_, pss_cons (ps_if (pt_cmpR op_gt (pe_ix ix_list (pv 0) pe_int (fun _ _ => rfl)) pe_int (nomark _))
        (pss_cons (ps_asg (pe_callB call_divmodW (by rfl) B.divmod (by decide +kernel) (pa_cons (pe_ix ix_list (pv 0) pe_int (fun _ _ => rfl)) (pa_cons (pv 1) pa_nil)))
            (pg_tup (by rfl) (pgs_cons (pg_sub (pv 0) pe_int set_list) (pgs_cons (pg_name (i := 2) sc_l_take.nd rfl (Or.inl rfl)) pgs_nil))))
          (pss_one (ps_ret (pv 2)))) pss_nil)
      (pss_cons (ps_asg (pe_op op_mod (pe_op op_add (pe_op op_mul (pe_ix ix_list (pv 0) pe_int (fun _ _ => rfl)) pe_int) pe_int) pe_int) (pg_sub (pv 0) pe_int set_list))
      (pss_one (ps_ret (pe_op op_mod (pe_op op_fdiv (pe_op op_mod (pe_op op_mul (pe_ix ix_list (pv 0) pe_int (fun _ _ => rfl)) (pe_ix ix_list (pv 0) pe_int (fun _ _ => rfl))) pe_int) pe_int) (pv 1))))), ?_⟩
    refine ⟨_, rfl, p, _, _, _, rfl, rfl, SqL.of hp, rfl, _, _, rfl, rfl, _, rfl, ?_⟩
    have hd : CDivP a m := ⟨hm, PyProof.noPylong_of_log2 hm2⟩
    refine ite2 (fun c => ?_) (fun c => ?_)
    · have c' : 0 < a := of_decide_eq_true c
      refine ⟨_, rfl, p, _, _, _, rfl, rfl, SqL.of hp, rfl, _, rfl, _, _, rfl, hd, fun t ht => ?_⟩
      have npt : p ≠ t := ne_of_none hp ht
      refine ⟨t, _, rfl, SqT.of upd_same, rfl, ?_⟩
      refine ⟨_, _, rfl, _, rfl, p, _, _, _, rfl, rfl, (by rw [upd_ne npt]; exact hp), rfl, ?_⟩
      refine ⟨_, _, rfl, rfl, _, rfl, ?_⟩
      have e1 : tkA a b m = a / m := if_pos c'
      have e2 : tkB a b m = b := if_pos c'
      have e3 : tkD a b m = a % m := if_pos c'
      have := k (upd (upd H t (.tup [.int (a / m), .int (a % m)])) p (.lst [.int (tkA a b m), .int (tkB a b m)])) (SameBut.of (Same.new ht)).upd ⟨upd_same, tkB_ok hb⟩
      rw [e1, e2, e3] at this
      exact this
    · have c' : ¬ 0 < a := fun z => c (decide_eq_true z)
      refine ⟨_, rfl, p, _, _, _, rfl, rfl, SqL.of hp, rfl, _, _, rfl, rfl, .inr (by decide), _, _, rfl, rfl, _, _, rfl, rfl, (by show (0:Int) < 2147483647; decide), ?_⟩
      refine ⟨_, rfl, p, _, _, _, rfl, rfl, hp, rfl, ?_⟩
      have e1 : tkA a b m = a := if_neg c'
      have e2 : tkB a b m = (b * 48271 + 12347) % 2147483647 := if_neg c'
      have e3 : tkD a b m = ((b * 48271 + 12347) % 2147483647) * ((b * 48271 + 12347) % 2147483647) % 2147483579 / 13 % m := if_neg c'
      refine ⟨_, rfl, p, _, _, _, rfl, rfl, SqL.of upd_same, rfl, _, rfl, p, _, _, _, rfl, rfl, SqL.of upd_same, rfl, _, _, rfl, rfl, .inr ?_, ?_⟩
      · show -(2 ^ 64) < (b * 48271 + 12347) % 2147483647 ∧ (b * 48271 + 12347) % 2147483647 < 2 ^ 64
        omega
      refine ⟨_, _, rfl, rfl, (by show (0:Int) < 2147483579; decide), _, _, rfl, rfl, ⟨by decide, by decide⟩, _, rfl, _, _, rfl, rfl, hm, ?_⟩
      have := k (upd H p (.lst [.int (tkA a b m), .int (tkB a b m)])) (SameBut.of (Same.refl H)).upd ⟨upd_same, tkB_ok hb⟩
      rw [e1, e2, e3] at this
      exact this
theorem ok_l_take {f : Addr} {fd : FuncData} (F : Fun K "_law_take" "_law_take" s_l_take f fd) (B : Bt mg) : GnOk P w K mg base CX0 1 f fd ["pot", "many"] sp_l_tk := (ok_l_take0 F B).imp take_any
abbrev s_l_signs : Stmt := topS 11
abbrev N_l_signs : List Str := ["pot", "signs", "k"]
theorem sc_l_signs : FnScope N_l_signs ["pot", "signs"] (defScope s_l_signs) := ⟨rfl, rfl, rfl, by decide +kernel, rfl, by decide +kernel, by decide +kernel⟩
def sp_l_signs : Sp := fun vs H Q _ => ∃ (p : Addr) (a b : Int) (y : Str), vs = [.ref p, .str y] ∧ Pot H p a b ∧ 0 < y.length ∧ y.length ≤ 100 ∧
  ∀ (z : Str) (H' : Hp) (a' b' : Int), SameBut p H H' → Pot H' p a' b' → 0 < z.length → z.length ≤ 8 → (∀ c ∈ z.cps.toList, c ∈ y.cps.toList) → Q (.str z) H'
theorem ok_l_signs {f : Addr} {fd : FuncData} (F : Fun K "_law_signs" "_law_signs" s_l_signs f fd) (B : Bt mg) (C_law_take : Cal P w K mg base CX0 "_law_take" 1 ["pot", "many"] sp_l_tk) : GnOk P w K mg base CX0 2 f fd ["pot", "signs"] sp_l_signs := by
  refine gn_fun F sc_l_signs (fun vs H Q E h => ?_) (fun cdv A outer s H vs Q E hr h => ?_)
  · obtain ⟨p, a, b, y, rfl, _⟩ := h
    rfl
  · obtain ⟨p, a, b, y, rfl, hp, hy0, hy1, k⟩ := h
    refine ⟨_, (pss_one (ps_ret (pe_join pe_str (pe_lc (own := [("k", 2)]) (g := gName 2) (tt := tYes) (by rfl) sc_l_signs.nd (pi_range1 (by rfl) B.range (pa_cons (pe_op op_add pe_int (pe_cal C_law_take (hr.mono (by decide)) (by rfl) pass0 (pa_cons (pv 0) (pa_cons pe_int pa_nil)))) pa_nil)) (blkOk_by (N := N_l_signs) (sc := defScope s_l_signs) (by decide +kernel)) (fun _ _ _ _ _ => pg_name (i := 2) sc_l_signs.nd rfl (Or.inl rfl)) (fun _ _ _ _ _ => pts_nil) (fun _ _ _ _ _ => (pe_ix ix_str (pv 1) (pe_cal C_law_take (hr.mono (by decide)) (by rfl) pass0 (pa_cons (pv 0) (pa_cons (pe_callB call_len_str (by rfl) B.len (by decide +kernel) (pa_cons (pv 1) pa_nil)) pa_nil))) (fun _ _ => rfl))))))), ?_⟩
    refine ⟨⟨_, rfl⟩, _, rfl, p, a, b, 8, rfl, hp, by decide, by decide, fun n a1 b1 H1 s1 p1 hn0 hn1 => ?_⟩
    refine ⟨_, _, rfl, rfl, _, rfl, by omega, by omega, fun D hD => lc_range (lo := 0) (n := (1 + n).toNat) (fun i H5 => ∃ (cs : List Nat) (a' b' : Int), H5 D = some (.lst ((cs.map chS).map V.str)) ∧ cs.length = i ∧ (∀ c ∈ cs, c ∈ y.cps.toList) ∧ Pot H5 p a' b' ∧ SameBut p H1 H5) ⟨[], _, _, upd_same, rfl, (fun _ h => nomatch h), p1.new hD, SameBut.new (SameBut.refl p H1) hD⟩ ?_ ?_⟩
    · rintro i H5 hi ⟨cs, a', b', hl5, hz, h1s, p5, t5⟩
      have nDp : D ≠ p := p1.ne hD
      refine ⟨rfl, ?_⟩
      refine ⟨_, rfl, _, rfl, _, rfl, _, rfl, sz_of (by omega), p, _, _, _, rfl, p5, (by omega), log2_small (by omega) (by omega), fun n6 a6 b6 H6 s6 p6 h60 h61 => ?_⟩
      obtain ⟨c6, hc6, hm6⟩ := atI_mem (xs := y.cps.toList) (i := n6) h60 (by rw [len_toList]; exact h61)
      refine ⟨y, _, c6, rfl, rfl, sz_of (by omega), hc6, _, s6.at hl5 nDp, sz_lt (by rw [List.length_map, List.length_map]; omega), cs ++ [c6], _, _, ?_, ?_, ?_, p6.other nDp, (t5.trans s6).newer hD⟩
      · rw [upd_same, List.map_append, List.map_append]
        rfl
      · rw [List.length_append, hz]
        rfl
      · intro z hz
        rcases List.mem_append.mp hz with h | h
        · exact h1s z h
        · rw [List.mem_singleton.mp h]
          exact hm6
    · rintro H5 ⟨cs, a', b', hl5, hz, h1s, p5, t5⟩
      have ones : ∀ z ∈ cs.map chS, z.length = 1 := by
        intro z hz
        obtain ⟨c, _, rfl⟩ := List.mem_map.mp hz
        rfl
      refine ⟨_, D, cs.map chS, rfl, rfl, .inl (SqL.of hl5), ?_, ?_⟩
      · rw [sum_ones ones]
        show _ + _ * 0 ≤ _
        rw [List.length_map]
        omega
      · rw [join_ones]
        exact k _ _ _ _ (s1.trans t5) p5 (by show 0 < cs.toArray.size; rw [List.size_toArray]; omega) (by show cs.toArray.size ≤ 8; rw [List.size_toArray]; omega) (by simpa using h1s)
abbrev s_l_name : Stmt := topS 12
abbrev N_l_name : List Str := ["pot", "used", "name", "letter"]
theorem sc_l_name : FnScope N_l_name ["pot", "used"] (defScope s_l_name) := ⟨rfl, rfl, rfl, by decide +kernel, rfl, by decide +kernel, by decide +kernel⟩
/-- signs a few, all below 128 -/
def Few (z : Str) : Prop := 0 < z.length ∧ z.length ≤ 8 ∧ ∀ c ∈ z.cps.toList, c < 128
def sp_l_name : Sp := fun vs H Q _ => ∃ (p : Addr) (a b : Int) (u : Addr) (us : List Str), vs = [.ref p, .ref u] ∧ Pot H p a b ∧ H u = some (.lst (us.map V.str)) ∧ u ≠ p ∧
  ∀ (z : Str) (H' : Hp) (a' b' : Int), SameBut p H H' → Pot H' p a' b' → Few z → Q (.str z) H'
theorem flat_strs (us : List Str) : (us.map V.str).all flatV = true := by
  rw [List.all_map]
  exact List.all_eq_true.mpr fun _ _ => rfl
theorem few_cut {z : Str} {c : Nat} (h : Few z) (hc : c < 128) : Few (cutS z none (some 7) ++ ⟨#[c]⟩) := by
  obtain ⟨h0, h1, h2⟩ := h
  have e : (cutS z none (some 7)).cps.toList = z.cps.toList.take 7 := by
    unfold cutS
    simp [HT.sIx]
    have q : z.length = z.cps.size := rfl
    omega
  have hl : (cutS z none (some 7)).length ≤ 7 := by
    rw [← len_toList, e, List.length_take]
    omega
  refine ⟨by rw [len_append]; show 0 < _ + 1; omega, by rw [len_append]; show _ + 1 ≤ 8; omega, fun d hd => ?_⟩
  have hd' : d ∈ (cutS z none (some 7)).cps.toList ++ [c] := by
    have : ((cutS z none (some 7)) ++ (⟨#[c]⟩ : Str)).cps.toList = (cutS z none (some 7)).cps.toList ++ [c] := by
      show ((cutS z none (some 7)).cps ++ #[c]).toList = _
      simp
    rw [← this]
    exact hd
  rcases List.mem_append.mp hd' with q | q
  · rw [e] at q
    exact h2 d (List.mem_of_mem_take q)
  · rw [List.mem_singleton.mp q]
    exact hc
theorem ok_l_name {f : Addr} {fd : FuncData} (F : Fun K "_law_name" "_law_name" s_l_name f fd) (B : Bt mg) (C_law_signs : Cal P w K mg base CX0 "_law_signs" 2 ["pot", "signs"] sp_l_signs) (C_law_take : Cal P w K mg base CX0 "_law_take" 1 ["pot", "many"] sp_l_tk) : GnOk P w K mg base CX0 3 f fd ["pot", "used"] sp_l_name := by
  refine gn_fun F sc_l_name (fun vs H Q E h => ?_) (fun cdv A outer s H vs Q E hr h => ?_)
  · obtain ⟨p, a, b, u, us, rfl, _⟩ := h
    rfl
  · obtain ⟨p, a, b, u, us, rfl, hp, hu, nup, k⟩ := h
    refine ⟨_, (pss_cons (ps_set (i := 2) sc_l_name.nd rfl (Or.inl rfl) (pe_cal C_law_signs (hr.mono (by decide)) (by rfl) pass0 (pa_cons (pv 0) (pa_cons (pe_ix (ix_listK K) (pe_lst (pa_cons pe_str (pa_cons pe_str pa_nil))) (pe_cal C_law_take (hr.mono (by decide)) (by rfl) pass0 (pa_cons (pv 0) (pa_cons pe_int pa_nil))) (fun _ _ => rfl)) pa_nil))))
    (pss_cons (ps_for PassesOwn.never rfl (pi_str pe_str) (pg_name (i := 3) sc_l_name.nd rfl (Or.inl rfl))
      (pss_one (ps_if (pt_cmpR (op_in_seqK K) (pv 2) (pv 1) (by rfl))
      (pss_one (ps_set (i := 2) sc_l_name.nd rfl (Or.inl rfl) (pe_op op_add_str (pe_slice sl_str (pv 2) po_none (po_some pe_int)) (pv 3))))
      pss_nil)))
    (pss_one (ps_ret (pv 2))))), ?_⟩
    refine ⟨_, rfl, sz_of (by simp), fun l hl => ?_⟩
    have npl : l ≠ p := hp.ne hl
    refine ⟨_, rfl, p, _, _, _, rfl, hp.new hl, (by decide), (by decide), fun n2 a2 b2 H2 s2 p2 h20 h21 => ?_⟩
    obtain ⟨v, hv, hm⟩ := atI_mem (xs := [V.str "abcdefghijklmnopqrstuvwxyz", V.str "ab"]) (i := n2) h20 h21
    obtain ⟨y, rfl, h0, h1, h2⟩ : ∃ y : Str, v = V.str y ∧ 0 < y.length ∧ y.length ≤ 100 ∧ y.cps.toList.all (· < 128) = true := by
      rcases List.mem_cons.mp hm with e | hm
      · exact ⟨_, e, by decide +kernel, by decide +kernel, by decide +kernel⟩
      · exact ⟨_, List.mem_singleton.mp hm, by decide +kernel, by decide +kernel, by decide +kernel⟩
    refine ⟨l, _, _, _, rfl, rfl, SqL.of (s2.at upd_same npl), hv, p, _, _, y, rfl, p2, h0, h1, fun z H3 a' b' s3 p3 z0 z1 z2 => ?_⟩
    have f3 : Few z := ⟨z0, z1, fun c hc => of_decide_eq_true (List.all_eq_true.mp h2 c (z2 c hc))⟩
    have t3 : SameBut p H H3 := ((SameBut.refl p H).new hl).trans s2 |>.trans s3
    refine ⟨Str.ofString "abcdefghijklmnopqrstuvwxyz", rfl, for_str (z := Str.ofString "abcdefghijklmnopqrstuvwxyz") (fun i σ H' => H' = H3 ∧ ∃ z v, Few z ∧ σ = [some (.ref p), some (.ref u), some (.str z), v]) ⟨rfl, z, none, f3, rfl⟩ ?_ ?_⟩
    · rintro i c σ H' hc ⟨rfl, z, v, fz, rfl⟩
      have hc' : c < 128 := of_decide_eq_true (List.all_eq_true.mp (show (Str.ofString "abcdefghijklmnopqrstuvwxyz").cps.toList.all (· < 128) = true by decide +kernel) c (List.mem_of_getElem? hc))
      refine ⟨_, rfl, _, rfl, u, _, rfl, .inl (SqL.of (t3.at hu nup)), rfl, flat_strs us, _, rfl, ?_⟩
      refine ite2 (fun _ => ?_) (fun _ => ?_)
      · refine ⟨_, rfl, 7, rfl, z, rfl, sz_of (Nat.le_trans fz.2.1 (by decide)), _, rfl, _, _, rfl, rfl, ?_, ?_⟩
        · have q := (few_cut fz hc').2.1
          rw [len_append] at q
          exact sz_of (Nat.le_trans q (by decide))
        · exact ⟨rfl, _, _, few_cut fz hc', rfl⟩
      · exact ⟨rfl, _, _, fz, rfl⟩
    · rintro σ H' ⟨rfl, z, v, fz, rfl⟩
      exact ⟨_, rfl, k z H' _ _ t3 p3 fz⟩
abbrev s_l_word : Stmt := topS 13
abbrev N_l_word : List Str := ["pot"]
theorem sc_l_word : FnScope N_l_word ["pot"] (defScope s_l_word) := ⟨rfl, rfl, rfl, by decide +kernel, rfl, by decide +kernel, by decide +kernel⟩
def sp_l_word : Sp := fun vs H Q _ => ∃ (p : Addr) (a b : Int), vs = [.ref p] ∧ Pot H p a b ∧ ∀ (z : Str) (H' : Hp) (a' b' : Int), SameBut p H H' → Pot H' p a' b' → Few z → Q (.str z) H'
theorem ok_l_word {f : Addr} {fd : FuncData} (F : Fun K "_law_word" "_law_word" s_l_word f fd) (B : Bt mg) (C_law_signs : Cal P w K mg base CX0 "_law_signs" 2 ["pot", "signs"] sp_l_signs) (C_law_take : Cal P w K mg base CX0 "_law_take" 1 ["pot", "many"] sp_l_tk) : GnOk P w K mg base CX0 3 f fd ["pot"] sp_l_word := by
  refine gn_fun F sc_l_word (fun vs H Q E h => ?_) (fun cdv A outer s H vs Q E hr h => ?_)
  · obtain ⟨p, a, b, rfl, _⟩ := h
    rfl
  · obtain ⟨p, a, b, rfl, hp, k⟩ := h
    refine ⟨_, (pss_one (ps_ret (pe_cal C_law_signs (hr.mono (by decide)) (by rfl) pass0 (pa_cons (pv 0) (pa_cons (pe_ix (ix_listK K) (pe_lst (pa_cons pe_str (pa_cons pe_str (pa_cons pe_str pa_nil)))) (pe_cal C_law_take (hr.mono (by decide)) (by rfl) pass0 (pa_cons (pv 0) (pa_cons pe_int pa_nil))) (fun _ _ => rfl)) pa_nil))))), ?_⟩
    refine ⟨_, rfl, sz_of (by simp), fun l hl => ?_⟩
    have npl : l ≠ p := hp.ne hl
    refine ⟨_, rfl, p, _, _, _, rfl, hp.new hl, (by decide), (by decide), fun n2 a2 b2 H2 s2 p2 h20 h21 => ?_⟩
    obtain ⟨v, hv, hm⟩ := atI_mem (xs := [V.str "abcdefghijklmnopqrstuvwxyz0123456789", V.str "a0", V.str "7"]) (i := n2) h20 h21
    obtain ⟨y, rfl, h0, h1, h2⟩ : ∃ y : Str, v = V.str y ∧ 0 < y.length ∧ y.length ≤ 100 ∧ y.cps.toList.all (· < 128) = true := by
      rcases List.mem_cons.mp hm with e | hm
      · exact ⟨_, e, by decide +kernel, by decide +kernel, by decide +kernel⟩
      rcases List.mem_cons.mp hm with e | hm
      · exact ⟨_, e, by decide +kernel, by decide +kernel, by decide +kernel⟩
      · exact ⟨_, List.mem_singleton.mp hm, by decide +kernel, by decide +kernel, by decide +kernel⟩
    refine ⟨l, _, _, _, rfl, rfl, SqL.of (s2.at upd_same npl), hv, p, _, _, y, rfl, p2, h0, h1, fun z H3 a' b' s3 p3 z0 z1 z2 => ?_⟩
    exact k z H3 a' b' (((SameBut.refl p H).new hl).trans s2 |>.trans s3) p3 ⟨z0, z1, fun c hc => of_decide_eq_true (List.all_eq_true.mp h2 c (z2 c hc))⟩
abbrev s_l_number : Stmt := topS 14
abbrev N_l_number : List Str := ["pot"]
theorem sc_l_number : FnScope N_l_number ["pot"] (defScope s_l_number) := ⟨rfl, rfl, rfl, by decide +kernel, rfl, by decide +kernel, by decide +kernel⟩
def sp_l_number : Sp := fun vs H Q _ => ∃ (p : Addr) (a b : Int), vs = [.ref p] ∧ Pot H p a b ∧ ∀ (n : Int) (H' : Hp) (a' b' : Int), SameBut p H H' → Pot H' p a' b' → 1 ≤ n → n < 10 ^ 12 → Q (.int n) H'
theorem ok_l_number {f : Addr} {fd : FuncData} (F : Fun K "_law_number" "_law_number" s_l_number f fd) (B : Bt mg) (C_law_take : Cal P w K mg base CX0 "_law_take" 1 ["pot", "many"] sp_l_tk) : GnOk P w K mg base CX0 2 f fd ["pot"] sp_l_number := by
  refine gn_fun F sc_l_number (fun vs H Q E h => ?_) (fun cdv A outer s H vs Q E hr h => ?_)
  · obtain ⟨p, a, b, rfl, _⟩ := h
    rfl
  · obtain ⟨p, a, b, rfl, hp, k⟩ := h
    refine ⟨_, (pss_one (ps_ret (pe_op op_add pe_int (pe_ix (ix_listK K) (pe_lst (pa_cons (pe_cal C_law_take (hr.mono (by decide)) (by rfl) pass0 (pa_cons (pv 0) (pa_cons pe_int pa_nil))) (pa_cons (pe_cal C_law_take (hr.mono (by decide)) (by rfl) pass0 (pa_cons (pv 0) (pa_cons (pe_op op_sub (pe_op op_pow pe_int pe_int) pe_int) pa_nil))) pa_nil))) (pe_cal C_law_take (hr.mono (by decide)) (by rfl) pass0 (pa_cons (pv 0) (pa_cons pe_int pa_nil))) (fun _ _ => rfl))))), ?_⟩
    refine ⟨_, rfl, p, _, _, _, rfl, hp, (by decide), (by decide), fun n1 a1 b1 H1 s1 p1 h10 h11 => ?_⟩
    refine ⟨_, rfl, _, _, rfl, rfl, ⟨by decide, by decide, by decide⟩, _, _, rfl, rfl, p, _, _, _, rfl, p1, (by decide), (by decide), fun n2 a2 b2 H2 s2 p2 h20 h21 => ?_⟩
    refine ⟨sz_of (by simp), fun l hl => ?_⟩
    have npl : l ≠ p := p2.ne hl
    refine ⟨_, rfl, p, _, _, _, rfl, p2.new hl, (by decide), (by decide), fun i a3 b3 H3 s3 p3 h30 h31 => ?_⟩
    have h22 : n2 < 10 ^ 12 - 1 := h21
    obtain ⟨v, hv, hm⟩ := atI_mem (xs := [V.int n1, V.int n2]) (i := i) h30 h31
    obtain ⟨n, rfl, h0, h1⟩ : ∃ n : Int, v = V.int n ∧ 0 ≤ n ∧ n < 10 ^ 12 - 1 := by
      rcases List.mem_cons.mp hm with e | hm
      · exact ⟨_, e, by omega, by omega⟩
      · exact ⟨_, List.mem_singleton.mp hm, by omega, by omega⟩
    refine ⟨l, _, _, _, rfl, rfl, SqL.of (s3.at upd_same npl), hv, _, _, rfl, rfl, ?_⟩
    exact k _ H3 _ _ (((s1.trans s2).new hl).trans s3) p3 (by omega) (by omega)
abbrev s_l_things : Stmt := topS 15
abbrev N_l_things : List Str := ["pot", "kind", "many", "k", "names", "name"]
theorem sc_l_things : FnScope N_l_things ["pot", "kind", "many"] (defScope s_l_things) := ⟨rfl, rfl, rfl, by decide +kernel, rfl, by decide +kernel, by decide +kernel⟩
/-- a word, or a row -/
def Thing (d : PyData) : Prop := (∃ z, Few z ∧ d = .str z) ∨ ∃ z n, Few z ∧ 1 ≤ n ∧ n < 10 ^ 12 ∧ d = .tuple [.str z, .int n]
def sp_l_things (K : PySem.W.Frag) : Sp := fun vs H Q _ => ∃ (p : Addr) (a b : Int) (kd : Str) (m : Int), vs = [.ref p, .str kd, .int m] ∧ Pot H p a b ∧ 0 ≤ m ∧ m ≤ 40 ∧
  ∀ (v : V) (ds : List PyData) (H' : Hp) (a' b' : Int), SameBut p H H' → Pot H' p a' b' → Dt K H' v (.tuple ds) → (ds.length : Int) = m → (∀ d ∈ ds, Thing d) → Q v H'
theorem ok_l_things {f : Addr} {fd : FuncData} (F : Fun K "_law_things" "_law_things" s_l_things f fd) (B : Bt mg) (C_law_name : Cal P w K mg base CX0 "_law_name" 3 ["pot", "used"] sp_l_name) (C_law_word : Cal P w K mg base CX0 "_law_word" 3 ["pot"] sp_l_word) (C_law_number : Cal P w K mg base CX0 "_law_number" 2 ["pot"] sp_l_number) : GnOk P w K mg base CX0 4 f fd ["pot", "kind", "many"] (sp_l_things K) := by
  refine gn_fun F sc_l_things (fun vs H Q E h => ?_) (fun cdv A outer s H vs Q E hr h => ?_)
  · obtain ⟨p, a, b, kd, m, rfl, _⟩ := h
    rfl
  · obtain ⟨p, a, b, kd, m, rfl, hp, hm0, hm1, k⟩ := h
    refine ⟨_, (pss_cons (ps_if (pt_cmpR op_eq (pv 1) pe_str (nomark _))
      (pss_one (ps_ret (pe_callTy (call_tuple_ofK K) (by rfl) B.tuple (by decide +kernel) (pa_cons (pe_lc (own := [("k", 3)]) (g := gName 3) (tt := tYes) (by rfl) sc_l_things.nd (pi_range1 (by rfl) B.range (pa_cons (pv 2) pa_nil)) (blkOk_by (N := N_l_things) (sc := defScope s_l_things) (by decide +kernel)) (fun _ _ _ _ _ => pg_name (i := 3) sc_l_things.nd rfl (Or.inl rfl)) (fun _ _ _ _ _ => pts_nil) (fun _ _ _ _ _ => (pe_cal C_law_word (hr.mono (by decide)) (by rfl) pass0 (pa_cons (pv 0) pa_nil)))) pa_nil))))
      pss_nil)
    (pss_cons (ps_set (i := 4) sc_l_things.nd rfl (Or.inl rfl) (pe_lst pa_nil))
    (pss_cons (ps_for PassesOwn.never rfl (pi_range1 (by rfl) B.range (pa_cons (pv 2) pa_nil)) (pg_name (i := 3) sc_l_things.nd rfl (Or.inl rfl))
      (pss_one (ps_expr (pe_bmK K PySem.F.plainAttrs_list PySem.F.slot_list_append PySem.F.type_list_append mt_append (pv 4) (pa_cons (pe_cal C_law_name (hr.mono (by decide)) (by rfl) pass0 (pa_cons (pv 0) (pa_cons (pv 4) pa_nil))) pa_nil)))))
    (pss_one (ps_ret (pe_callTy (call_tuple_ofK K) (by rfl) B.tuple (by decide +kernel) (pa_cons (pe_lc (own := [("name", 5)]) (g := gName 5) (tt := tYes) (by rfl) sc_l_things.nd (pi_listK K (pe_callB (cr_sortedSK K) (by rfl) B.sorted (by decide +kernel) (pa_cons (pv 4) pa_nil))) (blkOk_by (N := N_l_things) (sc := defScope s_l_things) (by decide +kernel)) (fun _ _ _ _ _ => pg_name (i := 5) sc_l_things.nd rfl (Or.inl rfl)) (fun _ _ _ _ _ => pts_nil) (fun _ _ _ _ _ => (pe_tup (pa_cons (pv 5) (pa_cons (pe_cal C_law_number (hr.mono (by decide)) (by rfl) pass0 (pa_cons (pv 0) pa_nil)) pa_nil))))) pa_nil))))))), ?_⟩
    refine ⟨_, rfl, rfl, _, rfl, ?_⟩
    refine ite2 (fun c => ?_) (fun c => ?_)
    · refine ⟨_, rfl, _, rfl, by omega, by omega, fun D hD => lc_range (lo := 0) (n := m.toNat) (fun i H5 => ∃ (zs : List Str) (a' b' : Int), H5 D = some (.lst (zs.map V.str)) ∧ zs.length = i ∧ (∀ z ∈ zs, Few z) ∧ Pot H5 p a' b' ∧ SameBut p H H5) ⟨[], _, _, upd_same, rfl, (fun _ h => nomatch h), hp.new hD, SameBut.new (SameBut.refl p H) hD⟩ ?_ ?_⟩
      · rintro i H5 hi ⟨zs, a', b', hl5, hz, hf, p5, t5⟩
        have nDp : D ≠ p := hp.ne hD
        refine ⟨rfl, ?_⟩
        refine ⟨_, rfl, p, _, _, rfl, p5, fun z H6 a6 b6 s6 p6 fz => ?_⟩
        refine ⟨_, s6.at hl5 nDp, sz_lt (by rw [List.length_map]; omega), zs ++ [z], _, _, ?_, ?_, ?_, p6.other nDp, (t5.trans s6).newer hD⟩
        · rw [upd_same, List.map_append]
          rfl
        · rw [List.length_append, hz]
          rfl
        · intro y hy
          rcases List.mem_append.mp hy with h | h
          · exact hf y h
          · rw [List.mem_singleton.mp h]
            exact fz
      · rintro H5 ⟨zs, a', b', hl5, hz, hf, p5, t5⟩
        refine ⟨D, _, rfl, .inl ⟨SqL.of hl5, fun l hl => ?_⟩⟩
        refine k (.ref l) (zs.map PyData.str) _ _ _ (t5.new hl) (p5.new hl) (Dt.new (DtAll.strs zs) hl) (by rw [List.length_map]; omega) ?_
        intro d hd
        obtain ⟨z, hz', rfl⟩ := List.mem_map.mp hd
        exact .inl ⟨z, hf z hz', rfl⟩
    · refine ⟨by decide, fun D hD => ?_⟩
      have nDp : D ≠ p := hp.ne hD
      refine ⟨_, rfl, m, rfl, by omega, by omega, for_range (lo := 0) (n := m.toNat) (fun i σ H5 => ∃ (zs : List Str) (a' b' : Int) (v1 : Option V), σ = [some (.ref p), some (.str kd), some (.int m), v1, some (.ref D), none] ∧ H5 D = some (.lst (zs.map V.str)) ∧ zs.length = i ∧ (∀ z ∈ zs, Few z) ∧ Pot H5 p a' b' ∧ SameBut p H H5) ⟨[], _, _, none, rfl, upd_same, rfl, (fun _ h => nomatch h), hp.new hD, SameBut.new (SameBut.refl p H) hD⟩ ?_ ?_⟩
      · rintro i σ H5 hi ⟨zs, a', b', v1, rfl, hl5, hz, hf, p5, t5⟩
        refine ⟨_, rfl, .inl ⟨rfl, _, SqL.of hl5⟩, _, rfl, _, rfl, p, _, _, D, zs, rfl, p5, hl5, nDp, fun z H6 a6 b6 s6 p6 fz => ?_⟩
        refine ⟨D, _, _, rfl, rfl, s6.at hl5 nDp, sz_lt (by rw [List.length_map]; omega), zs ++ [z], _, _, _, rfl, ?_, ?_, ?_, p6.other nDp, (t5.trans s6).newer hD⟩
        · rw [upd_same, List.map_append]
          rfl
        · rw [List.length_append, hz]
          rfl
        · intro y hy
          rcases List.mem_append.mp hy with h | h
          · exact hf y h
          · rw [List.mem_singleton.mp h]
            exact fz
      · rintro σ H5 ⟨zs, a', b', v1, rfl, hl5, hz, hf, p5, t5⟩
        refine ⟨_, rfl, D, zs, rfl, SqL.of hl5, by omega, fun ys q hperm _ hq => ?_⟩
        have nqp : q ≠ p := p5.ne hq
        have hlen : ys.length = zs.length := hperm.length_eq
        refine ⟨q, rfl, ⟨_, SqL.of upd_same⟩, fun E0 hE => lc_list (K := K) (a := q) (xs := ys.map V.str) (fun i H7 => ∃ (ws : List V) (ds : List PyData) (a' b' : Int), H7 E0 = some (.lst ws) ∧ DtAll K H7 ws ds ∧ ds.length = i ∧ (∀ d ∈ ds, Thing d) ∧ Pot H7 p a' b' ∧ SameBut p (upd H5 q (.lst (ys.map V.str))) H7) ⟨[], [], _, _, upd_same, .nil, rfl, (fun _ h => nomatch h), (p5.new hq).new hE, SameBut.new (SameBut.refl p _) hE⟩ (fun i H7 _ ⟨_, _, _, _, _, _, _, _, _, t7⟩ => SqL.of (t7.at upd_same nqp)) ?_ ?_⟩
        · rintro i x H7 hx ⟨ws, ds, a7, b7, hl7, hdt, hdl, hth, p7, t7⟩
          obtain ⟨y, hy, rfl⟩ : ∃ y, y ∈ ys ∧ x = V.str y := by
            obtain ⟨y, hy, e⟩ := List.mem_map.mp (List.mem_of_getElem? hx)
            exact ⟨y, hy, e.symm⟩
          have nEp : E0 ≠ p := (p5.new hq).ne hE
          refine ⟨rfl, ?_⟩
          refine ⟨_, rfl, _, rfl, p, _, _, rfl, p7, fun n H8 a8 b8 s8 p8 n0 n1 => ?_⟩
          refine ⟨by show 2 ≤ sizeLine; decide, fun r hr' => ?_⟩
          have hE8 := s8.at hl7 nEp
          have nrE : r ≠ E0 := (ne_of_none hE8 hr').symm
          have st : TS H7 H8 := TS.pot s8 p7
          have hwl : ws.length = i := by rw [hdt.length, hdl]
          have hil : i < ys.length := by
            have := (List.getElem?_eq_some_iff.mp hx).1
            rwa [List.length_map] at this
          refine ⟨ws, (by rw [upd_ne nrE.symm]; exact hE8), sz_lt (by omega), ws ++ [.ref r], ds ++ [.tuple [.str y, .int n]], _, _, upd_same, ?_, ?_, ?_, (p8.new hr').other nEp, ((t7.trans s8).new hr').newer hE⟩
          · have st2 : TS H8 (upd (upd H8 r (.tup [.str y, .int n])) E0 (.lst (ws ++ [.ref r]))) := (TS.new hr').trans (TS.lst (by rw [upd_ne nrE.symm]; exact hE8))
            exact ((hdt.m st).m st2).app (.cons (Dt.m (TS.lst (by rw [upd_ne nrE.symm]; exact hE8)) (Dt.new (.cons (.str _) (.cons (.int _) .nil)) hr')) .nil)
          · rw [List.length_append, hdl]
            rfl
          · intro d hd
            rcases List.mem_append.mp hd with h | h
            · exact hth d h
            · rw [List.mem_singleton.mp h]
              exact .inr ⟨y, n, hf y (hperm.mem_iff.mp hy), n0, n1, rfl⟩
        · rintro H7 ⟨ws, ds, a7, b7, hl7, hdt, hdl, hth, p7, t7⟩
          refine ⟨E0, _, rfl, .inl ⟨SqL.of hl7, fun l hl => ?_⟩⟩
          rw [List.length_map] at hdl
          exact k (.ref l) ds _ _ _ (((t5.new hq).trans t7).new hl) (p7.new hl) (Dt.new hdt hl) (by omega) hth
abbrev s_l_node : Stmt := topS 16
abbrev N_l_node : List Str := ["pot", "kind", "links", "most", "many"]
theorem sc_l_node : FnScope N_l_node ["pot"] (defScope s_l_node) := ⟨rfl, rfl, rfl, by decide +kernel, rfl, by decide +kernel, by decide +kernel⟩
def sp_l_node (K : PySem.W.Frag) : Sp := fun vs H Q _ => ∃ (p : Addr) (a b : Int), vs = [.ref p] ∧ Pot H p a b ∧
  ∀ (v : V) (kd : Str) (lk : Int) (ds : List PyData) (H' : Hp) (a' b' : Int), SameBut p H H' → Pot H' p a' b' → (kd = "file" ∨ kd = "dir") → Dt K H' v (nodeD kd lk ds) → 1 ≤ lk → lk ≤ 5 → ds.length ≤ 40 → (∀ d ∈ ds, Thing d) → Q v H'
theorem ok_l_node {f : Addr} {fd : FuncData} (F : Fun K "_law_node" "_law_node" s_l_node f fd) (B : Bt mg) (C_law_take : Cal P w K mg base CX0 "_law_take" 1 ["pot", "many"] sp_l_tk) (C_law_things : Cal P w K mg base CX0 "_law_things" 4 ["pot", "kind", "many"] (sp_l_things K)) : GnOk P w K mg base CX0 5 f fd ["pot"] (sp_l_node K) := by
  refine gn_fun F sc_l_node (fun vs H Q E h => ?_) (fun cdv A outer s H vs Q E hr h => ?_)
  · obtain ⟨p, a, b, rfl, _⟩ := h
    rfl
  · obtain ⟨p, a, b, rfl, hp, k⟩ := h
    refine ⟨_, (pss_cons (ps_asg (pe_ix (ix_listK K) (pe_lst (pa_cons (pe_tup (pa_cons pe_str (pa_cons (pe_op op_add pe_int (pe_cal C_law_take (hr.mono (by decide)) (by rfl) pass0 (pa_cons (pv 0) (pa_cons pe_int pa_nil)))) pa_nil))) (pa_cons (pe_tup (pa_cons pe_str (pa_cons pe_int pa_nil))) pa_nil))) (pe_cal C_law_take (hr.mono (by decide)) (by rfl) pass0 (pa_cons (pv 0) (pa_cons pe_int pa_nil))) (fun _ _ => rfl)) (pg_tup (by rfl) (pgs_cons (pg_name (i := 1) sc_l_node.nd rfl (Or.inl rfl)) (pgs_cons (pg_name (i := 2) sc_l_node.nd rfl (Or.inl rfl)) pgs_nil))))
    (pss_cons (ps_set (i := 3) sc_l_node.nd rfl (Or.inl rfl) (pe_ix (ix_listK K) (pe_lst (pa_cons pe_int (pa_cons pe_int pa_nil))) (pe_callTy call_int1 (by rfl) B.int (by decide +kernel) (pa_cons (pe_cmpR op_eq (pv 1) pe_str (nomark _)) pa_nil)) (fun _ _ => rfl)))
    (pss_cons (ps_set (i := 4) sc_l_node.nd rfl (Or.inl rfl) (pe_ix (ix_listK K) (pe_lst (pa_cons pe_int (pa_cons pe_int (pa_cons pe_int (pa_cons pe_int (pa_cons pe_int (pa_cons pe_int (pa_cons (pv 3) (pa_cons (pe_cal C_law_take (hr.mono (by decide)) (by rfl) pass0 (pa_cons (pv 0) (pa_cons (pe_op op_add (pv 3) pe_int) pa_nil))) pa_nil))))))))) (pe_cal C_law_take (hr.mono (by decide)) (by rfl) pass0 (pa_cons (pv 0) (pa_cons pe_int pa_nil))) (fun _ _ => rfl)))
    (pss_one (ps_ret (pe_tup (pa_cons (pv 1) (pa_cons (pv 2) (pa_cons (pe_cal C_law_things (hr.mono (by decide)) (by rfl) pass0 (pa_cons (pv 0) (pa_cons (pv 1) (pa_cons (pv 4) pa_nil)))) pa_nil))))))))), ?_⟩
    refine ⟨_, rfl, p, _, _, _, rfl, hp, (by decide), (by decide), fun n1 a1 b1 H1 s1 p1 h10 h11 => ?_⟩
    refine ⟨_, _, rfl, rfl, sz_of (by simp), fun t1 ht1 => ⟨sz_of (by simp), fun t2 ht2 => ⟨sz_of (by simp), fun l hl => ?_⟩⟩⟩
    have n12 : t1 ≠ t2 := ne_of_none upd_same ht2
    have nlp : l ≠ p := ((p1.new ht1).new ht2).ne hl
    have hl1 : t1 ≠ l := ne_of_none (show (upd (upd H1 t1 _) t2 _) t1 = _ by rw [upd_ne n12]; exact upd_same) hl
    have hl2 : t2 ≠ l := ne_of_none upd_same hl
    refine ⟨_, rfl, p, _, _, _, rfl, ((p1.new ht1).new ht2).new hl, (by decide), (by decide), fun n2 a2 b2 H2 s2 p2 h20 h21 => ?_⟩
    have n1p : t1 ≠ p := p1.ne ht1
    have n2p : t2 ≠ p := (p1.new ht1).ne ht2
    have q1 : H2 t1 = some (.tup [.str "file", .int (1 + n1)]) := s2.at (by rw [upd_ne hl1, upd_ne n12]; exact upd_same) n1p
    have q2 : H2 t2 = some (.tup [.str "dir", .int 1]) := s2.at (by rw [upd_ne hl2]; exact upd_same) n2p
    obtain ⟨v, hv, hm⟩ := atI_mem (xs := [V.ref t1, V.ref t2]) (i := n2) h20 h21
    obtain ⟨t, kd, lk, rfl, ht, hk, l0, l1⟩ : ∃ (t : Addr) (kd : Str) (lk : Int), v = V.ref t ∧ H2 t = some (.tup [.str kd, .int lk]) ∧ (kd = "file" ∨ kd = "dir") ∧ 1 ≤ lk ∧ lk ≤ 5 := by
      rcases List.mem_cons.mp hm with e | hm
      · exact ⟨t1, _, _, e, q1, .inl rfl, by omega, by omega⟩
      · exact ⟨t2, _, _, List.mem_singleton.mp hm, q2, .inr rfl, by omega, by omega⟩
    have st2 : SameBut p H H2 := (((s1.new ht1).new ht2).new hl).trans s2
    refine ⟨l, _, _, _, rfl, rfl, SqL.of (s2.at upd_same nlp), hv, t, _, rfl, SqT.of ht, rfl, _, _, rfl, _, _, rfl, rfl, ?_⟩
    -- most
    refine ⟨sz_of (by simp), fun l2 hl2 => ?_⟩
    have nl2p : l2 ≠ p := p2.ne hl2
    obtain ⟨m, hm, hmE⟩ : ∃ m : Int, (m = 40 ∨ m = 20) ∧ atI [V.int 40, V.int 20] (if decide (V.str kd = V.str (Str.ofString "dir")) = true then 1 else 0) = some (V.int m) := by
      rcases hk with rfl | rfl
      · exact ⟨40, .inl rfl, by decide +kernel⟩
      · exact ⟨20, .inr rfl, by decide +kernel⟩
    refine ⟨_, rfl, rfl, .inr ⟨_, rfl, l2, _, _, _, rfl, rfl, SqL.of upd_same, hmE, ?_⟩⟩
    -- many
    refine ⟨_, rfl, _, rfl, _, rfl, _, _, rfl, rfl, p, _, _, _, rfl, p2.new hl2, (by omega), log2_small (by omega) (by omega), fun n3 a3 b3 H3 s3 p3 h30 h31 => ⟨by show 8 ≤ sizeLine; decide, fun l4 hl4 => ?_⟩⟩
    have nl4p : l4 ≠ p := p3.ne hl4
    refine ⟨_, rfl, p, _, _, _, rfl, p3.new hl4, (by decide), (by decide), fun n5 a5 b5 H5 s5 p5 h50 h51 => ?_⟩
    obtain ⟨v, hv, hmem⟩ := atI_mem (xs := [V.int 0, V.int 1, V.int 4, V.int 5, V.int 12, V.int 13, V.int m, V.int n3]) (i := n5) h50 h51
    obtain ⟨n, rfl, g0, g1⟩ : ∃ n : Int, v = V.int n ∧ 0 ≤ n ∧ n ≤ 40 := by
      simp only [List.mem_cons, List.not_mem_nil, or_false] at hmem
      rcases hmem with e | e | e | e | e | e | e | e <;> exact ⟨_, e, by omega, by omega⟩
    refine ⟨l4, _, _, _, rfl, rfl, SqL.of (s5.at upd_same nl4p), hv, ?_⟩
    have st5 : SameBut p H H5 := (((st2.new hl2).trans s3).new hl4).trans s5
    refine ⟨_, rfl, _, rfl, _, rfl, _, rfl, _, rfl, p, _, _, kd, n, rfl, p5, g0, g1, fun v ds H6 a6 b6 s6 p6 hd hdl hth => ⟨by show 3 ≤ sizeLine; decide, fun q hq => ?_⟩⟩
    exact k (.ref q) kd lk ds _ _ _ ((st5.trans s6).new hq) (p6.new hq) hk (Dt.new (.cons (.str _) (.cons (.int _) (.cons hd .nil))) hq) l0 l1 (by omega) hth
abbrev s_l_blocks : Stmt := topS 17
abbrev N_l_blocks : List Str := ["number", "node", "kind", "k"]
theorem sc_l_blocks : FnScope N_l_blocks ["number", "node"] (defScope s_l_blocks) := ⟨rfl, rfl, rfl, by decide +kernel, rfl, by decide +kernel, by decide +kernel⟩
theorem ok_l_blocks {f : Addr} {fd : FuncData} (F : Fun K "_law_blocks" "_law_blocks" s_l_blocks f fd) (B : Bt mg) : GnOk P w K mg base CX0 1 f fd ["number", "node"] (sp_contents K) := by
  refine gn_fun F sc_l_blocks (fun vs H Q E h => ?_) (fun cdv A outer s H vs Q E hr h => ?_)
  · obtain ⟨n, v, kd, lk, ds, rfl, _⟩ := h
    rfl
  · obtain ⟨n, v, kd, lk, ds, rfl, hk, hn, hd, k⟩ := h
    obtain ⟨a, v1, v2, v3, rfl, hs, h1, h2, h3⟩ := hd.three
    obtain rfl := h1.strI
    obtain rfl := h2.intI
    obtain ⟨b, ys, rfl, hb, hy⟩ := h3.inv
    refine ⟨_, (pss_cons (ps_set (i := 2) sc_l_blocks.nd rfl (Or.inr rfl) (pe_ix (ix_listK K) (pe_lst (pa_cons pe_str (pa_cons pe_str pa_nil))) (pe_callTy call_int1 (by rfl) B.int (by decide +kernel) (pa_cons (pe_cmpR op_eq (pe_ix (ix_tupK K) (pv 1) pe_int (fun _ _ => rfl)) pe_str (nomark _)) pa_nil)) (fun _ _ => rfl)))
    (pss_one (ps_ret (pe_lc (own := [("k", 3)]) (g := gName 3) (tt := tYes) (by rfl) sc_l_blocks.nd (pi_range3 (by rfl) B.range (pa_cons pe_int (pa_cons (pe_callB (call_lenK K) (by rfl) B.len (by decide +kernel) (pa_cons (pe_ix (ix_tupK K) (pv 1) pe_int (fun _ _ => rfl)) pa_nil)) (pa_cons pe_int pa_nil)))) (blkOk_by (N := N_l_blocks) (sc := defScope s_l_blocks) (by decide +kernel)) (fun _ _ _ _ _ => pg_name (i := 3) sc_l_blocks.nd rfl (Or.inl rfl)) (fun _ _ _ _ _ => pts_nil) (fun _ _ _ _ _ => (pe_tup (pa_cons (pv 2) (pa_cons (pv 0) (pa_cons (pe_op op_fdiv (pv 3) pe_int) (pa_cons (pe_slice (sl_tupAK K) (pe_ix (ix_tupK K) (pv 1) pe_int (fun _ _ => rfl)) (po_some (pv 3)) (po_some (pe_op op_add (pv 3) pe_int))) pa_nil)))))))))), ?_⟩
    refine ⟨sz_of (by simp), fun l2 hl2 => ?_⟩
    have s2 : Same H (upd H l2 (.lst [.str "words", .str "names"])) := Same.new hl2
    have t2 := TS.of s2
    have hmE : atI [V.str "words", V.str "names"] (if decide (V.str kd = V.str (Str.ofString "dir")) = true then 1 else 0) = some (V.str (kn kd)) := by
      rcases hk with rfl | rfl <;> decide +kernel
    refine ⟨_, rfl, a, _, _, _, rfl, rfl, t2.seq hs, rfl, rfl, .inr ⟨_, rfl, l2, _, _, _, rfl, rfl, SqL.of upd_same, hmE, ?_⟩⟩
    refine ⟨_, rfl, a, _, _, _, rfl, rfl, t2.seq hs, rfl, _, ds.length, rfl, .inr ⟨_, t2.seq hb, hy.length.symm⟩, ?_⟩
    refine ⟨0, _, 4, (ds.length + 3) / 4, rfl, rgc4 (by omega), fun D hD => lc_it (walk_rangeC (lo := 0) (c := 4) (n := (ds.length + 3) / 4)) (fun i H1 => ∃ xs, H1 D = some (.lst xs) ∧ DtAll K H1 xs ((blkD (kn kd) n ds).take i) ∧ Same (upd H l2 (.lst [.str "words", .str "names"])) H1) ⟨[], upd_same, .nil, Same.new hD⟩ (fun _ _ _ _ => trivial) ?_ ?_⟩
    · rintro i x H0 H1 hi ⟨xs, hx, hxs, s1⟩ ⟨rfl, rfl⟩
      have hl : xs.length = i := by rw [hxs.length, List.length_take, blkD_len]; omega
      have t1 : TS H H1 := t2.trans (TS.of s1)
      have e4 : (0 : Int) + (i : Int) * 4 = ((i * 4 : Nat) : Int) := by omega
      refine ⟨rfl, ?_⟩
      refine ⟨_, rfl, _, rfl, _, rfl, _, _, rfl, rfl, ⟨by decide, by decide⟩, _, rfl, a, _, _, _, rfl, rfl, t1.seq hs, rfl, _, rfl, _, rfl, _, rfl, _, _, rfl, rfl, _, rfl, ?_⟩
      refine sl_dt (Dt.tup (t1.seq hb) (hy.m t1)) fun v' H2 s2' h2' => ⟨by show 4 ≤ sizeLine; decide, fun p hp => ?_⟩
      have np : p ≠ D := (ne_of_none (s2' D _ hx) hp).symm
      refine ⟨xs, (by rw [upd_ne np.symm]; exact s2' D _ hx), sz_lt (by omega), _, upd_same, ?_, ?_⟩
      · rw [blkD_take _ _ _ hi]
        have st : TS H2 (upd (upd H2 p (.tup [.str (kn kd), .int n, .int ((0 + (i : Int) * 4) / 4), v'])) D (.lst (xs ++ [.ref p]))) := (TS.new hp).trans (TS.lst (by rw [upd_ne np.symm]; exact s2' D _ hx))
        refine ((hxs.m (TS.of s2')).m st).app (.cons ?_ .nil)
        have e1 : cutG ds (some (0 + (i : Int) * 4)) (some (0 + (i : Int) * 4 + 4)) = (ds.drop (i * 4)).take 4 := by
          rw [e4, show (((i * 4 : Nat) : Int) + 4) = ((i * 4 + 4 : Nat) : Int) by omega, cutG_nat, show i * 4 + 4 - i * 4 = 4 by omega]
        refine Dt.m (TS.lst (by rw [upd_ne np.symm]; exact s2' D _ hx)) (Dt.new ?_ hp)
        rw [e1] at h2'
        have e5 : (0 + (i : Int) * 4) / 4 = (i : Int) := by omega
        rw [e5]
        exact .cons (.str _) (.cons (.int _) (.cons (.int _) (.cons h2' .nil)))
      · exact Same.newer ((s1.trans s2').trans (Same.new hp)) hD
    · rintro H1 ⟨xs, hx, hxs, s1⟩
      rw [List.take_of_length_le (by rw [blkD_len]; omega)] at hxs
      exact k D xs H1 (s2.trans s1) (s2.free hD) hx hxs
abbrev s_l_right : Stmt := topS 18
abbrev N_l_right : List Str := ["number", "node", "told"]
theorem sc_l_right : FnScope N_l_right ["number", "node"] (defScope s_l_right) := ⟨rfl, rfl, rfl, by decide +kernel, rfl, by decide +kernel, by decide +kernel⟩
def sp_l_right (K : PySem.W.Frag) : Sp := fun vs H Q _ => ∃ (n : Int) (v : V) (kd : Str) (lk : Int) (ds : List PyData), vs = [.int n, v] ∧ 0 ≤ n ∧ n < 10 ^ 12 ∧ (kd = "file" ∨ kd = "dir") ∧ ds.length ≤ 40 ∧ (∀ d ∈ ds, Thing d) ∧ Dt K H v (nodeD kd lk ds) ∧
  ∀ H', Same H H' → Q (.bl true) H'
theorem few_sz {z : Str} (h : Few z) {k : Nat} : Sz k 82 (.str z) := by
  have := Sz.str (k := k) (x := z) fun c hc => Nat.lt_trans (h.2.2 c hc) (by decide)
  have h1 := h.2.1
  exact this.mono (Nat.le_refl _) (by omega)
theorem int_sz {n : Int} (h0 : 0 ≤ n) (h1 : n < 10 ^ 12) {k : Nat} : Sz k 41 (.int n) := Sz.int (m := 40) (by decide) (by omega) (by decide)
theorem thing_sz {d : PyData} (h : Thing d) : Sz 1 171 d := by
  rcases h with ⟨z, hz, rfl⟩ | ⟨z, n, hz, h0, h1, rfl⟩
  · exact (few_sz hz).mono (Nat.le_refl _) (by decide)
  · refine (Sz.tuple (k := 0) (n := 82) (ds := [.str z, .int n]) ?_).mono (by decide) (by simp)
    intro d hd
    rcases List.mem_cons.mp hd with rfl | hd
    · exact few_sz hz
    · rw [List.mem_singleton.mp hd]
      exact (int_sz (by omega) h1).mono (Nat.le_refl _) (by decide)
theorem kn_sz (kd : Str) {k : Nat} : Sz k 52 (.str (kn kd)) := by
  unfold kn
  split
  · exact Sz.str (x := "names") (by decide +kernel)
  · exact Sz.str (x := "words") (by decide +kernel)
theorem blk_sz {n : Int} {kd : Str} {ds : List PyData} (h0 : 0 ≤ n) (h1 : n < 10 ^ 12) (hl : ds.length ≤ 40) (ht : ∀ d ∈ ds, Thing d) : Sz 60 sizeLine (.list (blkD (kn kd) n ds)) := by
  refine (Sz.list (k := 3) (n := 2791) (ds := blkD (kn kd) n ds) ?_).mono (by decide) ?_
  · intro d hd
    obtain ⟨i, hi, rfl⟩ := List.mem_map.mp hd
    have hi' := List.mem_range.mp hi
    refine (Sz.tuple (k := 2) (n := 695) ?_).mono (by decide) (by simp)
    intro d hd
    simp only [List.mem_cons, List.not_mem_nil, or_false] at hd
    rcases hd with rfl | rfl | rfl | rfl
    · exact (kn_sz kd).mono (Nat.le_refl _) (by decide)
    · exact (int_sz h0 h1).mono (Nat.le_refl _) (by decide)
    · exact (int_sz (by omega) (by omega)).mono (Nat.le_refl _) (by decide)
    · refine (Sz.tuple (k := 1) (n := 171) ?_).mono (by decide) ?_
      · intro d hd
        exact thing_sz (ht d (List.mem_of_mem_drop (List.mem_of_mem_take hd)))
      · have : ((ds.drop (i * 4)).take 4).length ≤ 4 := by
          rw [List.length_take]
          omega
        omega
  · rw [blkD_len]
    exact sz_of (by omega)
theorem ok_l_right {f : Addr} {fd : FuncData} (F : Fun K "_law_right" "_law_right" s_l_right f fd) (B : Bt mg) (C_contents_of : Cal P w K mg base CX0 "contents_of" 2 ["number", "node"] (sp_contents K)) (C_law_blocks : Cal P w K mg base CX0 "_law_blocks" 1 ["number", "node"] (sp_contents K)) : GnOk P w K mg base CX0 3 f fd ["number", "node"] (sp_l_right K) := by
  refine gn_fun F sc_l_right (fun vs H Q E h => ?_) (fun cdv A outer s H vs Q E hr h => ?_)
  · obtain ⟨n, v, kd, lk, ds, rfl, _⟩ := h
    rfl
  · obtain ⟨n, v, kd, lk, ds, rfl, h0, h1, hk, hl, ht, hd, k⟩ := h
    have sz := blk_sz (kd := kd) h0 h1 hl ht
    refine ⟨_, (pss_cons (ps_set (i := 2) sc_l_right.nd rfl (Or.inl rfl) (pe_cal C_contents_of (hr.mono (by decide)) (by rfl) pass0 (pa_cons (pv 0) (pa_cons (pv 1) pa_nil))))
    (pss_cons (ps_if (PW.pt (pw_or (pt_not (pt_val (pe_callB (call_isiK K) (by rfl) B.isinstance (by decide +kernel) (pa_cons (pv 2) (pa_cons (pe_bltn (v := .ty "list") (by rfl) B.list (by decide +kernel) rfl) pa_nil))))) (pw_or1 (pt_cmpR op_ne (pe_callB (call_reprK K hr) (by rfl) B.repr (by decide +kernel) (pa_cons (pv 2) pa_nil)) (pe_callB (call_reprK K hr) (by rfl) B.repr (by decide +kernel) (pa_cons (pe_cal C_law_blocks (hr.mono (by decide)) (by rfl) pass0 (pa_cons (pv 0) (pa_cons (pv 1) pa_nil))) pa_nil)) (nomark _)))))
      (pss_one (ps_ret pe_bl))
      pss_nil)
    (pss_cons (ps_expr (pe_bmK K PySem.F.plainAttrs_list PySem.F.slot_list_append PySem.F.type_list_append mt_append (pv 2) (pa_cons (pe_tup (pa_cons pe_str (pa_cons (pv 0) (pa_cons pe_int (pa_cons (pe_tup (pa_cons pe_str pa_nil)) pa_nil))))) pa_nil)))
    (pss_cons (ps_expr (pe_bm0K K PySem.F.plainAttrs_list PySem.F.slot_list_reverse PySem.F.type_list_reverse mt_reverse (pv 2)))
    (pss_one (ps_ret (pe_cmpR op_eq (pe_callB (call_reprK K hr) (by rfl) B.repr (by decide +kernel) (pa_cons (pe_cal C_contents_of (hr.mono (by decide)) (by rfl) pass0 (pa_cons (pv 0) (pa_cons (pv 1) pa_nil))) pa_nil)) (pe_callB (call_reprK K hr) (by rfl) B.repr (by decide +kernel) (pa_cons (pe_cal C_law_blocks (hr.mono (by decide)) (by rfl) pass0 (pa_cons (pv 0) (pa_cons (pv 1) pa_nil))) pa_nil)) (nomark _)))))))), ?_⟩
    refine ⟨_, rfl, _, rfl, n, v, kd, lk, ds, rfl, hk, by omega, hd, fun l xs H1 s1 hl1 hx hxs => ?_⟩
    refine ⟨_, rfl, _, _, _, _, true, rfl, .ty _, .base (.lst hx), kit_ty (by decide +kernel), true, rfl, ?_⟩
    refine iteF ?_
    refine ⟨_, rfl, l, _, rfl, .lst (SqL.of hx) (hxs.dp), sz, _, rfl, _, rfl, n, v, kd, lk, ds, rfl, hk, by omega, hd.m (TS.of s1), fun l2 xs2 H2 s2 hl2 hx2 hxs2 => ⟨l2, _, rfl, .lst (SqL.of hx2) (hxs2.dp), sz, rfl, _, rfl, ?_⟩⟩
    refine iteF' (by simp) ?_
    have nl2 : l ≠ l2 := ne_of_none hx hl2
    refine ⟨_, rfl, .inl ⟨rfl, _, SqL.of (s2 l _ hx)⟩, _, rfl, by simp; decide, fun t ht1 => ⟨by simp; decide, fun t2 ht2 => ?_⟩⟩
    have nlt : l ≠ t := ne_of_none (s2 l _ hx) ht1
    have nlt2 : l ≠ t2 := ne_of_none (show (upd H2 t _) l = _ by rw [upd_ne nlt]; exact s2 l _ hx) ht2
    refine ⟨l, xs, _, rfl, rfl, by rw [upd_ne nlt2, upd_ne nlt]; exact s2 l _ hx, sz_lt ?_, ?_⟩
    · rw [hxs.length, blkD_len]
      omega
    refine ⟨_, rfl, .inl ⟨rfl, _, SqL.of upd_same⟩, l, _, rfl, rfl, upd_same, ?_⟩
    have sH : Same H (upd (upd (upd (upd H2 t (.tup [.str "a"])) t2 (.tup [V.str "words", V.int n, V.int 0, V.ref t])) l (.lst (xs ++ [V.ref t2]))) l (.lst (xs ++ [V.ref t2]).reverse)) :=
      Same.newer (Same.newer (((s1.trans s2).trans (Same.new ht1)).trans (Same.new ht2)) hl1) hl1
    refine ⟨_, rfl, _, rfl, n, v, kd, lk, ds, rfl, hk, by omega, hd.m (TS.of sH), fun l3 xs3 H3 s3 hl3 hx3 hxs3 => ⟨l3, _, rfl, .lst (SqL.of hx3) (hxs3.dp), sz, ?_⟩⟩
    refine ⟨_, rfl, _, rfl, n, v, kd, lk, ds, rfl, hk, by omega, hd.m (TS.of (sH.trans s3)), fun l4 xs4 H4 s4 hl4 hx4 hxs4 => ⟨l4, _, rfl, .lst (SqL.of hx4) (hxs4.dp), sz, rfl, ?_⟩⟩
    rw [decide_eq_true rfl]
    exact k _ ((sH.trans s3).trans s4)
abbrev s_law : Stmt := topS 19
abbrev N_law : List Str := ["script", "k", "pot", "number", "some", "one"]
theorem sc_law : FnScope N_law ["script"] (defScope s_law) := ⟨rfl, rfl, rfl, by decide +kernel, rfl, by decide +kernel, by decide +kernel⟩
theorem ok_law {f : Addr} {fd : FuncData} (F : Fun K "law" "law" s_law f fd) (B : Bt mg) (C_law_pot : Cal P w K mg base CX0 "_law_pot" 1 ["cell"] sp_l_pot) (C_law_number : Cal P w K mg base CX0 "_law_number" 2 ["pot"] sp_l_number) (C_law_cell : Cal P w K mg base CX0 "_law_cell" 1 ["script", "k"] (sp_l_at K)) (C_law_node : Cal P w K mg base CX0 "_law_node" 5 ["pot"] (sp_l_node K)) (C_contents_of : Cal P w K mg base CX0 "contents_of" 2 ["number", "node"] (sp_contents K)) (C_law_right : Cal P w K mg base CX0 "_law_right" 3 ["number", "node"] (sp_l_right K)) {tk_WIDE : Tok} (g_WIDE : mg "WIDE" = some (.int 4 tk_WIDE)) {tk_DIRECT : Tok} (g_DIRECT : mg "DIRECT" = some (.int 3 tk_DIRECT)) {tk_PIECE : Tok} (g_PIECE : mg "PIECE" = some (.int 6 tk_PIECE)) : GnOk P w K mg base CX0 6 f fd ["script"] (sp_law K) := by
  refine gn_fun F sc_law (fun vs H Q E h => ?_) (fun cdv A outer s H vs Q E hr h => ?_)
  · obtain ⟨a, ns, rfl, _⟩ := h
    rfl
  · obtain ⟨a, ns, rfl, hS, hn, k⟩ := h
    refine ⟨_, (pss_cons (ps_for PassesOwn.never rfl (pi_range1 (by rfl) B.range (pa_cons (pe_callB (call_max2 rfl) (by rfl) B.max (by decide +kernel) (pa_cons pe_int (pa_cons (pe_callB (call_min2 rfl) (by rfl) B.min (by decide +kernel) (pa_cons (pe_callB (call_lenK K) (by rfl) B.len (by decide +kernel) (pa_cons (pv 0) pa_nil)) (pa_cons pe_int pa_nil))) pa_nil))) pa_nil)) (pg_name (i := 1) sc_law.nd rfl (Or.inl rfl))
      (pss_cons (ps_set (i := 2) sc_law.nd rfl (Or.inl rfl) (pe_cal C_law_pot (hr.mono (by decide)) (by rfl) pass0 (pa_cons (pe_cal C_law_cell (hr.mono (by decide)) (by rfl) pass0 (pa_cons (pv 0) (pa_cons (pv 1) pa_nil))) pa_nil)))
    (pss_cons (ps_set (i := 3) sc_law.nd rfl (Or.inl rfl) (pe_cal C_law_number (hr.mono (by decide)) (by rfl) pass0 (pa_cons (pv 2) pa_nil)))
    (pss_cons (ps_set (i := 4) sc_law.nd rfl (Or.inl rfl) (pe_lst (pa_cons (pe_cal C_law_node (hr.mono (by decide)) (by rfl) pass0 (pa_cons (pv 2) pa_nil)) (pa_cons (pe_cal C_law_node (hr.mono (by decide)) (by rfl) pass0 (pa_cons (pv 2) pa_nil)) pa_nil))))
    (pss_one (ps_for PassesOwn.never rfl (pi_listK K (pe_op op_cat (pv 4) (pe_slice (sl_listK K) (pv 4) po_none (po_some pe_int)))) (pg_name (i := 5) sc_law.nd rfl (Or.inl rfl))
      (pss_one (ps_if (pt_not (pt_val (pe_cal C_law_right (hr.mono (by decide)) (by rfl) pass0 (pa_cons (pv 3) (pa_cons (pv 5) pa_nil)))))
      (pss_one (ps_ret pe_bl))
      pss_nil))))))))
    (pss_one (ps_ret (pe_and (pe_cmpR (op_eqDK K hr.units) (pe_cal C_contents_of (hr.mono (by decide)) (by rfl) pass0 (pa_cons pe_int (pa_cons (pe_tup (pa_cons pe_str (pa_cons pe_int (pa_cons (pe_tup pa_nil) pa_nil)))) pa_nil))) (pe_lst pa_nil) (nomark _)) (pe_one (pe_cmpR op_eq (pe_callB (call_reprK K hr) (by rfl) B.repr (by decide +kernel) (pa_cons (pe_lst (pa_cons (pe_glob (by rfl) g_WIDE (rel_i _ _)) (pa_cons (pe_glob (by rfl) g_DIRECT (rel_i _ _)) (pa_cons (pe_glob (by rfl) g_PIECE (rel_i _ _)) pa_nil)))) pa_nil)) pe_str (nomark _))))))), ?_⟩
    refine ⟨_, rfl, _, ns.length, rfl, .inl ⟨_, hS, by simp⟩, _, _, rfl, _, _, rfl, ?_⟩
    generalize e : (if (if (12 : Int) < (ns.length : Int) then (12 : Int) else (ns.length : Int)) > 1 then _ else _ : Int) = n
    have hn0 : 0 ≤ n ∧ n ≤ 100 := by
      rw [← e]
      split <;> (try split) <;> omega
    refine ⟨n, rfl, by omega, by omega, for_range (lo := 0) (n := n.toNat) (fun i σ H' => ∃ v1 v2 v3 v4 v5, σ = [some (.ref a), v1, v2, v3, v4, v5] ∧ Same H H') ⟨none, none, none, none, none, rfl, Same.refl H⟩ ?_ ?_⟩
    · rintro i σ H0 hi ⟨v1, v2, v3, v4, v5, rfl, s1⟩
      refine ⟨_, rfl, _, congrArg (fun v => some (some v)) (congrArg V.int (Int.zero_add _)), a, ns, i, rfl, s1.seq hS, fun c => ?_⟩
      refine ⟨c, rfl, fun p H2 s2 f2 p2 => ?_⟩
      refine ⟨_, rfl, p, _, _, rfl, p2, fun m H3 a3 b3 s3 p3 m0 m1 => ?_⟩
      refine ⟨_, rfl, p, _, _, rfl, p3, fun w1 kd1 lk1 ds1 H4 a4 b4 s4 p4 k1 d1 l1 _ le1 t1 => ?_⟩
      refine ⟨_, rfl, p, _, _, rfl, p4, fun w2 kd2 lk2 ds2 H5 a5 b5 s5 p5 k2 d2 l2 _ le2 t2 => ⟨sz_of (by simp), fun q hq => ?_⟩⟩
      have st : Same H H5 := Same.but (s1.trans s2) ((s3.trans s4).trans s5) (s1.free f2)
      have d1' : Dt K (upd H5 q (.lst [w1, w2])) w1 (nodeD kd1 lk1 ds1) := (d1.m (TS.pot s5 p4)).m (TS.new hq)
      have d2' : Dt K (upd H5 q (.lst [w1, w2])) w2 (nodeD kd2 lk2 ds2) := d2.m (TS.new hq)
      -- some + some[:1]
      refine ⟨_, rfl, _, rfl, 1, rfl, q, _, rfl, SqL.of upd_same, fun q2 hq2 => ?_⟩
      have nq : q ≠ q2 := ne_of_none upd_same hq2
      refine ⟨q, q2, _, _, rfl, rfl, by rw [upd_ne nq]; exact upd_same, upd_same, sz_of (by simp [cutV, HT.sIx]), fun q3 hq3 => ?_⟩
      have sT : Same H (upd (upd (upd H5 q (.lst [w1, w2])) q2 (.lst (cutV [w1, w2] none (some 1)))) q3 (.lst ([w1, w2] ++ cutV [w1, w2] none (some 1)))) := ((st.trans (Same.new hq)).trans (Same.new hq2)).trans (Same.new hq3)
      have tT := (TS.new (o := .lst (cutV [w1, w2] none (some 1))) hq2).trans (TS.new (o := .lst ([w1, w2] ++ cutV [w1, w2] none (some 1))) hq3)
      have d1'' := d1'.m tT
      have d2'' := d2'.m tT
      refine ⟨q3, rfl, ⟨_, SqL.of upd_same⟩, for_list (K := K) (a := q3) (xs := [w1, w2] ++ cutV [w1, w2] none (some 1)) (fun j σ H6 => ∃ v, σ = [some (.ref a), some (.int (0 + (i : Int))), some (.ref p), some (.int m), some (.ref q), v] ∧ Same (upd (upd (upd H5 q (.lst [w1, w2])) q2 (.lst (cutV [w1, w2] none (some 1)))) q3 (.lst ([w1, w2] ++ cutV [w1, w2] none (some 1)))) H6) ⟨v5, rfl, Same.refl _⟩ (fun _ _ H6 _ ⟨_, _, s6⟩ => SqL.of (s6 q3 _ upd_same)) ?_ ?_⟩
      · rintro j x σ H6 hx ⟨v, rfl, s6⟩
        have hx' : x ∈ [w1, w2] ++ [w1] := List.mem_of_getElem? (show ([w1, w2] ++ [w1])[j]? = some x from hx)
        obtain ⟨kd, lk, ds, hk, hd, hle, hth⟩ : ∃ (kd : Str) (lk : Int) (ds : List PyData), (kd = "file" ∨ kd = "dir") ∧ Dt K H6 x (nodeD kd lk ds) ∧ ds.length ≤ 40 ∧ ∀ d ∈ ds, Thing d := by
          simp only [List.cons_append, List.nil_append, List.mem_cons, List.not_mem_nil, or_false] at hx'
          rcases hx' with rfl | rfl | rfl
          · exact ⟨_, _, _, k1, d1''.m (TS.of s6), le1, t1⟩
          · exact ⟨_, _, _, k2, d2''.m (TS.of s6), le2, t2⟩
          · exact ⟨_, _, _, k1, d1''.m (TS.of s6), le1, t1⟩
        refine ⟨_, rfl, _, rfl, m, x, kd, lk, ds, rfl, by omega, m1, hk, hle, hth, hd, fun H7 s7 => ⟨true, rfl, ?_⟩⟩
        refine iteF ?_
        exact ⟨_, rfl, s6.trans s7⟩
      · rintro σ H6 ⟨v, rfl, s6⟩
        exact ⟨_, _, _, _, _, rfl, sT.trans s6⟩
    · rintro σ H1 ⟨v1, v2, v3, v4, v5, rfl, s1⟩
      refine ⟨sz_of (by simp), fun t ht => ⟨by simp; decide, fun t2 ht2 => ?_⟩⟩
      refine ⟨1, .ref t2, "dir", 1, [], rfl, .inr rfl, by simp, ?_, fun l xs H2 s2 hl hx hxs => ?_⟩
      · exact Dt.new (.cons (.str _) (.cons (.int _) (.cons (Dt.new .nil ht) .nil))) ht2
      have hnil : xs = [] := by
        have := hxs.length
        simpa [blkD] using this
      subst hnil
      refine ⟨sz_of (by simp), fun l2 hl2 => ?_⟩
      have nl : l ≠ l2 := ne_of_none hx hl2
      refine ⟨.list [], .list [], .lst (SqL.of (by rw [upd_ne nl]; exact hx)) .nil, .lst (SqL.of upd_same) .nil, by decide, by decide, true, ?_, ?_⟩
      · decide
      · refine iteT ?_
        refine ⟨sz_of (by simp), fun l3 hl3 => ⟨l3, .list [.int 4, .int 3, .int 6], rfl, .lst (SqL.of upd_same) (.cons (.int _) (.cons (.int _) (.cons (.int _) .nil))), ⟨by decide +kernel, by decide +kernel, Nat.le_trans (by decide +kernel : _ ≤ 100) (by decide)⟩, rfl, ?_⟩⟩
        rw [show decide (V.str (PyData.shown (.list [.int 4, .int 3, .int 6])) = V.str (Str.ofString "[4, 3, 6]")) = true by decide +kernel]
        exact k _
end
theorem all_mk {P : Program} {w : World} {K : PySem.W.Frag} {h : Heap} {mg : Str → Option Value} {fa : Addr} (X : K.In h) (G : h.Ns mainGlobals mg) (hfa : mg "law" = some (.ref fa))
    {tk_WIDE : Tok}
    {tk_DIRECT : Tok}
    {tk_PIECE : Tok}
    {A_CONTENTS : Addr}
    {es_CONTENTS : Array DictEntry} {nn_CONTENTS : Nat}
    {tk_CONTENTS_0 : Tok}
    {tk_CONTENTS_1 : Tok}
    {f_many_blocks : Addr} {oc_many_blocks kV_many_blocks dc_many_blocks pm_many_blocks cd_many_blocks ct_many_blocks : Value} {od_many_blocks an_many_blocks : Option Addr} {sl_many_blocks : Array (Option Value)}
    {f_contents_of : Addr} {oc_contents_of kV_contents_of dc_contents_of pm_contents_of cd_contents_of ct_contents_of : Value} {od_contents_of an_contents_of : Option Addr} {sl_contents_of : Array (Option Value)}
    {f_l_cell : Addr} {oc_l_cell kV_l_cell dc_l_cell pm_l_cell cd_l_cell ct_l_cell : Value} {od_l_cell an_l_cell : Option Addr} {sl_l_cell : Array (Option Value)}
    {f_l_pot : Addr} {oc_l_pot kV_l_pot dc_l_pot pm_l_pot cd_l_pot ct_l_pot : Value} {od_l_pot an_l_pot : Option Addr} {sl_l_pot : Array (Option Value)}
    {f_l_take : Addr} {oc_l_take kV_l_take dc_l_take pm_l_take cd_l_take ct_l_take : Value} {od_l_take an_l_take : Option Addr} {sl_l_take : Array (Option Value)}
    {f_l_signs : Addr} {oc_l_signs kV_l_signs dc_l_signs pm_l_signs cd_l_signs ct_l_signs : Value} {od_l_signs an_l_signs : Option Addr} {sl_l_signs : Array (Option Value)}
    {f_l_name : Addr} {oc_l_name kV_l_name dc_l_name pm_l_name cd_l_name ct_l_name : Value} {od_l_name an_l_name : Option Addr} {sl_l_name : Array (Option Value)}
    {f_l_word : Addr} {oc_l_word kV_l_word dc_l_word pm_l_word cd_l_word ct_l_word : Value} {od_l_word an_l_word : Option Addr} {sl_l_word : Array (Option Value)}
    {f_l_number : Addr} {oc_l_number kV_l_number dc_l_number pm_l_number cd_l_number ct_l_number : Value} {od_l_number an_l_number : Option Addr} {sl_l_number : Array (Option Value)}
    {f_l_things : Addr} {oc_l_things kV_l_things dc_l_things pm_l_things cd_l_things ct_l_things : Value} {od_l_things an_l_things : Option Addr} {sl_l_things : Array (Option Value)}
    {f_l_node : Addr} {oc_l_node kV_l_node dc_l_node pm_l_node cd_l_node ct_l_node : Value} {od_l_node an_l_node : Option Addr} {sl_l_node : Array (Option Value)}
    {f_l_blocks : Addr} {oc_l_blocks kV_l_blocks dc_l_blocks pm_l_blocks cd_l_blocks ct_l_blocks : Value} {od_l_blocks an_l_blocks : Option Addr} {sl_l_blocks : Array (Option Value)}
    {f_l_right : Addr} {oc_l_right kV_l_right dc_l_right pm_l_right cd_l_right ct_l_right : Value} {od_l_right an_l_right : Option Addr} {sl_l_right : Array (Option Value)}
    {f_law : Addr} {oc_law kV_law dc_law pm_law cd_law ct_law : Value} {od_law an_law : Option Addr} {sl_law : Array (Option Value)}
    (z_len : PySem.W.nsIn K mainGlobals "len" = some none)
    (z_max : PySem.W.nsIn K mainGlobals "max" = some none)
    (z_min : PySem.W.nsIn K mainGlobals "min" = some none)
    (z_abs : PySem.W.nsIn K mainGlobals "abs" = some none)
    (z_divmod : PySem.W.nsIn K mainGlobals "divmod" = some none)
    (z_range : PySem.W.nsIn K mainGlobals "range" = some none)
    (z_ord : PySem.W.nsIn K mainGlobals "ord" = some none)
    (z_isinstance : PySem.W.nsIn K mainGlobals "isinstance" = some none)
    (z_int : PySem.W.nsIn K mainGlobals "int" = some none)
    (z_str : PySem.W.nsIn K mainGlobals "str" = some none)
    (z_bool : PySem.W.nsIn K mainGlobals "bool" = some none)
    (z_list : PySem.W.nsIn K mainGlobals "list" = some none)
    (z_tuple : PySem.W.nsIn K mainGlobals "tuple" = some none)
    (z_dict : PySem.W.nsIn K mainGlobals "dict" = some none)
    (z_set : PySem.W.nsIn K mainGlobals "set" = some none)
    (z_all : PySem.W.nsIn K mainGlobals "all" = some none)
    (z_any : PySem.W.nsIn K mainGlobals "any" = some none)
    (z_sorted : PySem.W.nsIn K mainGlobals "sorted" = some none)
    (z_enumerate : PySem.W.nsIn K mainGlobals "enumerate" = some none)
    (z_zip : PySem.W.nsIn K mainGlobals "zip" = some none)
    (z_repr : PySem.W.nsIn K mainGlobals "repr" = some none)
    (z_sum : PySem.W.nsIn K mainGlobals "sum" = some none)
    (a_WIDE : PySem.W.nsIn K mainGlobals "WIDE" = some (some (.int 4 tk_WIDE)))
    (a_DIRECT : PySem.W.nsIn K mainGlobals "DIRECT" = some (some (.int 3 tk_DIRECT)))
    (a_PIECE : PySem.W.nsIn K mainGlobals "PIECE" = some (some (.int 6 tk_PIECE)))
    (a_CONTENTS : PySem.W.nsIn K mainGlobals "CONTENTS" = some (some (.ref A_CONTENTS)))
    (l_CONTENTS : K.lookup A_CONTENTS = some ⟨.type "dict", none, .dict es_CONTENTS nn_CONTENTS, #[]⟩)
    (kl_CONTENTS : PySem.W.KeysLit w.params es_CONTENTS.toList)
    (n_CONTENTS_0 : PySem.W.nsIn K A_CONTENTS "file" = some (some (.str "words" tk_CONTENTS_0)))
    (n_CONTENTS_1 : PySem.W.nsIn K A_CONTENTS "dir" = some (some (.str "names" tk_CONTENTS_1)))
    (a_many_blocks : PySem.W.nsIn K mainGlobals "many_blocks" = some (some (.ref f_many_blocks)))
    (l_many_blocks : K.lookup f_many_blocks = some ⟨oc_many_blocks, od_many_blocks, .func (PySem.W.fnOf "many_blocks" "many_blocks" (defArgs s_many_blocks) (defBody s_many_blocks) (defScope s_many_blocks) .none kV_many_blocks dc_many_blocks pm_many_blocks an_many_blocks cd_many_blocks ct_many_blocks), sl_many_blocks⟩)
    (c_many_blocks : PySem.W.codeIn K cd_many_blocks "many_blocks" = true)
    (k_many_blocks : PySem.W.keepIn K (.ref f_many_blocks) = true)
    (a_contents_of : PySem.W.nsIn K mainGlobals "contents_of" = some (some (.ref f_contents_of)))
    (l_contents_of : K.lookup f_contents_of = some ⟨oc_contents_of, od_contents_of, .func (PySem.W.fnOf "contents_of" "contents_of" (defArgs s_contents_of) (defBody s_contents_of) (defScope s_contents_of) .none kV_contents_of dc_contents_of pm_contents_of an_contents_of cd_contents_of ct_contents_of), sl_contents_of⟩)
    (c_contents_of : PySem.W.codeIn K cd_contents_of "contents_of" = true)
    (k_contents_of : PySem.W.keepIn K (.ref f_contents_of) = true)
    (a_l_cell : PySem.W.nsIn K mainGlobals "_law_cell" = some (some (.ref f_l_cell)))
    (l_l_cell : K.lookup f_l_cell = some ⟨oc_l_cell, od_l_cell, .func (PySem.W.fnOf "_law_cell" "_law_cell" (defArgs s_l_cell) (defBody s_l_cell) (defScope s_l_cell) .none kV_l_cell dc_l_cell pm_l_cell an_l_cell cd_l_cell ct_l_cell), sl_l_cell⟩)
    (c_l_cell : PySem.W.codeIn K cd_l_cell "_law_cell" = true)
    (k_l_cell : PySem.W.keepIn K (.ref f_l_cell) = true)
    (a_l_pot : PySem.W.nsIn K mainGlobals "_law_pot" = some (some (.ref f_l_pot)))
    (l_l_pot : K.lookup f_l_pot = some ⟨oc_l_pot, od_l_pot, .func (PySem.W.fnOf "_law_pot" "_law_pot" (defArgs s_l_pot) (defBody s_l_pot) (defScope s_l_pot) .none kV_l_pot dc_l_pot pm_l_pot an_l_pot cd_l_pot ct_l_pot), sl_l_pot⟩)
    (c_l_pot : PySem.W.codeIn K cd_l_pot "_law_pot" = true)
    (k_l_pot : PySem.W.keepIn K (.ref f_l_pot) = true)
    (a_l_take : PySem.W.nsIn K mainGlobals "_law_take" = some (some (.ref f_l_take)))
    (l_l_take : K.lookup f_l_take = some ⟨oc_l_take, od_l_take, .func (PySem.W.fnOf "_law_take" "_law_take" (defArgs s_l_take) (defBody s_l_take) (defScope s_l_take) .none kV_l_take dc_l_take pm_l_take an_l_take cd_l_take ct_l_take), sl_l_take⟩)
    (c_l_take : PySem.W.codeIn K cd_l_take "_law_take" = true)
    (k_l_take : PySem.W.keepIn K (.ref f_l_take) = true)
    (a_l_signs : PySem.W.nsIn K mainGlobals "_law_signs" = some (some (.ref f_l_signs)))
    (l_l_signs : K.lookup f_l_signs = some ⟨oc_l_signs, od_l_signs, .func (PySem.W.fnOf "_law_signs" "_law_signs" (defArgs s_l_signs) (defBody s_l_signs) (defScope s_l_signs) .none kV_l_signs dc_l_signs pm_l_signs an_l_signs cd_l_signs ct_l_signs), sl_l_signs⟩)
    (c_l_signs : PySem.W.codeIn K cd_l_signs "_law_signs" = true)
    (k_l_signs : PySem.W.keepIn K (.ref f_l_signs) = true)
    (a_l_name : PySem.W.nsIn K mainGlobals "_law_name" = some (some (.ref f_l_name)))
    (l_l_name : K.lookup f_l_name = some ⟨oc_l_name, od_l_name, .func (PySem.W.fnOf "_law_name" "_law_name" (defArgs s_l_name) (defBody s_l_name) (defScope s_l_name) .none kV_l_name dc_l_name pm_l_name an_l_name cd_l_name ct_l_name), sl_l_name⟩)
    (c_l_name : PySem.W.codeIn K cd_l_name "_law_name" = true)
    (k_l_name : PySem.W.keepIn K (.ref f_l_name) = true)
    (a_l_word : PySem.W.nsIn K mainGlobals "_law_word" = some (some (.ref f_l_word)))
    (l_l_word : K.lookup f_l_word = some ⟨oc_l_word, od_l_word, .func (PySem.W.fnOf "_law_word" "_law_word" (defArgs s_l_word) (defBody s_l_word) (defScope s_l_word) .none kV_l_word dc_l_word pm_l_word an_l_word cd_l_word ct_l_word), sl_l_word⟩)
    (c_l_word : PySem.W.codeIn K cd_l_word "_law_word" = true)
    (k_l_word : PySem.W.keepIn K (.ref f_l_word) = true)
    (a_l_number : PySem.W.nsIn K mainGlobals "_law_number" = some (some (.ref f_l_number)))
    (l_l_number : K.lookup f_l_number = some ⟨oc_l_number, od_l_number, .func (PySem.W.fnOf "_law_number" "_law_number" (defArgs s_l_number) (defBody s_l_number) (defScope s_l_number) .none kV_l_number dc_l_number pm_l_number an_l_number cd_l_number ct_l_number), sl_l_number⟩)
    (c_l_number : PySem.W.codeIn K cd_l_number "_law_number" = true)
    (k_l_number : PySem.W.keepIn K (.ref f_l_number) = true)
    (a_l_things : PySem.W.nsIn K mainGlobals "_law_things" = some (some (.ref f_l_things)))
    (l_l_things : K.lookup f_l_things = some ⟨oc_l_things, od_l_things, .func (PySem.W.fnOf "_law_things" "_law_things" (defArgs s_l_things) (defBody s_l_things) (defScope s_l_things) .none kV_l_things dc_l_things pm_l_things an_l_things cd_l_things ct_l_things), sl_l_things⟩)
    (c_l_things : PySem.W.codeIn K cd_l_things "_law_things" = true)
    (k_l_things : PySem.W.keepIn K (.ref f_l_things) = true)
    (a_l_node : PySem.W.nsIn K mainGlobals "_law_node" = some (some (.ref f_l_node)))
    (l_l_node : K.lookup f_l_node = some ⟨oc_l_node, od_l_node, .func (PySem.W.fnOf "_law_node" "_law_node" (defArgs s_l_node) (defBody s_l_node) (defScope s_l_node) .none kV_l_node dc_l_node pm_l_node an_l_node cd_l_node ct_l_node), sl_l_node⟩)
    (c_l_node : PySem.W.codeIn K cd_l_node "_law_node" = true)
    (k_l_node : PySem.W.keepIn K (.ref f_l_node) = true)
    (a_l_blocks : PySem.W.nsIn K mainGlobals "_law_blocks" = some (some (.ref f_l_blocks)))
    (l_l_blocks : K.lookup f_l_blocks = some ⟨oc_l_blocks, od_l_blocks, .func (PySem.W.fnOf "_law_blocks" "_law_blocks" (defArgs s_l_blocks) (defBody s_l_blocks) (defScope s_l_blocks) .none kV_l_blocks dc_l_blocks pm_l_blocks an_l_blocks cd_l_blocks ct_l_blocks), sl_l_blocks⟩)
    (c_l_blocks : PySem.W.codeIn K cd_l_blocks "_law_blocks" = true)
    (k_l_blocks : PySem.W.keepIn K (.ref f_l_blocks) = true)
    (a_l_right : PySem.W.nsIn K mainGlobals "_law_right" = some (some (.ref f_l_right)))
    (l_l_right : K.lookup f_l_right = some ⟨oc_l_right, od_l_right, .func (PySem.W.fnOf "_law_right" "_law_right" (defArgs s_l_right) (defBody s_l_right) (defScope s_l_right) .none kV_l_right dc_l_right pm_l_right an_l_right cd_l_right ct_l_right), sl_l_right⟩)
    (c_l_right : PySem.W.codeIn K cd_l_right "_law_right" = true)
    (k_l_right : PySem.W.keepIn K (.ref f_l_right) = true)
    (a_law : PySem.W.nsIn K mainGlobals "law" = some (some (.ref f_law)))
    (l_law : K.lookup f_law = some ⟨oc_law, od_law, .func (PySem.W.fnOf "law" "law" (defArgs s_law) (defBody s_law) (defScope s_law) .none kV_law dc_law pm_law an_law cd_law ct_law), sl_law⟩)
    (c_law : PySem.W.codeIn K cd_law "law" = true)
    (k_law : PySem.W.keepIn K (.ref f_law) = true) :
    ∃ fd : FuncData, (∀ (s : Shared) (v : Value), BindsTo s fd ⟨[v], []⟩ [("script", v)]) ∧ ∀ base : Heap, K.In base → base.Ns mainGlobals mg → GnOk P w K mg base CX0 6 fa fd ["script"] (sp_law K) := by
  have e := hfa.symm.trans (PySem.W.mg_of X G a_law)
  cases e
  have F_law := fun_mk (st := s_law) l_law c_law k_law
  refine ⟨PySem.W.fnOf "law" "law" (defArgs s_law) (defBody s_law) (defScope s_law) .none kV_law dc_law pm_law an_law cd_law ct_law, fun s v => .of_eq rfl, fun base _ _ => ?_⟩
  have B : Bt mg := ⟨PySem.W.mg_none_of X G z_len, PySem.W.mg_none_of X G z_max, PySem.W.mg_none_of X G z_min, PySem.W.mg_none_of X G z_abs, PySem.W.mg_none_of X G z_divmod, PySem.W.mg_none_of X G z_range, PySem.W.mg_none_of X G z_ord, PySem.W.mg_none_of X G z_isinstance, PySem.W.mg_none_of X G z_int, PySem.W.mg_none_of X G z_str, PySem.W.mg_none_of X G z_bool, PySem.W.mg_none_of X G z_list, PySem.W.mg_none_of X G z_tuple, PySem.W.mg_none_of X G z_dict, PySem.W.mg_none_of X G z_set, PySem.W.mg_none_of X G z_all, PySem.W.mg_none_of X G z_any, PySem.W.mg_none_of X G z_sorted, PySem.W.mg_none_of X G z_enumerate, PySem.W.mg_none_of X G z_zip, PySem.W.mg_none_of X G z_repr, PySem.W.mg_none_of X G z_sum⟩
  have g_WIDE := PySem.W.mg_of X G a_WIDE
  have g_DIRECT := PySem.W.mg_of X G a_DIRECT
  have g_PIECE := PySem.W.mg_of X G a_PIECE
  have g_CONTENTS := PySem.W.mg_of X G a_CONTENTS
  have d_CONTENTS_0 : KDct K w A_CONTENTS "file" (.str "words") := ⟨_, _, _, l_CONTENTS, kl_CONTENTS, n_CONTENTS_0, ⟨_, rfl⟩⟩
  have d_CONTENTS_1 : KDct K w A_CONTENTS "dir" (.str "names") := ⟨_, _, _, l_CONTENTS, kl_CONTENTS, n_CONTENTS_1, ⟨_, rfl⟩⟩
  have C_many_blocks : Cal P w K mg base CX0 "many_blocks" 1 ["many"] sp_many_blocks := cal_mk X G a_many_blocks l_many_blocks c_many_blocks k_many_blocks (fun _ _ _ _ _ _ us hl => match us, hl with | [_], _ => rfl) (fun F => ok_many_blocks F B g_WIDE)
  have C_contents_of : Cal P w K mg base CX0 "contents_of" 2 ["number", "node"] (sp_contents K) := cal_mk X G a_contents_of l_contents_of c_contents_of k_contents_of (fun _ _ _ _ _ _ us hl => match us, hl with | [_, _], _ => rfl) (fun F => ok_contents_of F B C_many_blocks g_CONTENTS d_CONTENTS_0 d_CONTENTS_1 g_WIDE)
  have C_law_cell : Cal P w K mg base CX0 "_law_cell" 1 ["script", "k"] (sp_l_at K) := cal_mk X G a_l_cell l_l_cell c_l_cell k_l_cell (fun _ _ _ _ _ _ us hl => match us, hl with | [_, _], _ => rfl) (fun F => ok_l_cell F B)
  have C_law_pot : Cal P w K mg base CX0 "_law_pot" 1 ["cell"] sp_l_pot := cal_mk X G a_l_pot l_l_pot c_l_pot k_l_pot (fun _ _ _ _ _ _ us hl => match us, hl with | [_], _ => rfl) (fun F => ok_l_pot F B)
  have C_law_take : Cal P w K mg base CX0 "_law_take" 1 ["pot", "many"] sp_l_tk := cal_mk X G a_l_take l_l_take c_l_take k_l_take (fun _ _ _ _ _ _ us hl => match us, hl with | [_, _], _ => rfl) (fun F => ok_l_take F B)
  have C_law_signs : Cal P w K mg base CX0 "_law_signs" 2 ["pot", "signs"] sp_l_signs := cal_mk X G a_l_signs l_l_signs c_l_signs k_l_signs (fun _ _ _ _ _ _ us hl => match us, hl with | [_, _], _ => rfl) (fun F => ok_l_signs F B C_law_take)
  have C_law_name : Cal P w K mg base CX0 "_law_name" 3 ["pot", "used"] sp_l_name := cal_mk X G a_l_name l_l_name c_l_name k_l_name (fun _ _ _ _ _ _ us hl => match us, hl with | [_, _], _ => rfl) (fun F => ok_l_name F B C_law_signs C_law_take)
  have C_law_word : Cal P w K mg base CX0 "_law_word" 3 ["pot"] sp_l_word := cal_mk X G a_l_word l_l_word c_l_word k_l_word (fun _ _ _ _ _ _ us hl => match us, hl with | [_], _ => rfl) (fun F => ok_l_word F B C_law_signs C_law_take)
  have C_law_number : Cal P w K mg base CX0 "_law_number" 2 ["pot"] sp_l_number := cal_mk X G a_l_number l_l_number c_l_number k_l_number (fun _ _ _ _ _ _ us hl => match us, hl with | [_], _ => rfl) (fun F => ok_l_number F B C_law_take)
  have C_law_things : Cal P w K mg base CX0 "_law_things" 4 ["pot", "kind", "many"] (sp_l_things K) := cal_mk X G a_l_things l_l_things c_l_things k_l_things (fun _ _ _ _ _ _ us hl => match us, hl with | [_, _, _], _ => rfl) (fun F => ok_l_things F B C_law_name C_law_word C_law_number)
  have C_law_node : Cal P w K mg base CX0 "_law_node" 5 ["pot"] (sp_l_node K) := cal_mk X G a_l_node l_l_node c_l_node k_l_node (fun _ _ _ _ _ _ us hl => match us, hl with | [_], _ => rfl) (fun F => ok_l_node F B C_law_take C_law_things)
  have C_law_blocks : Cal P w K mg base CX0 "_law_blocks" 1 ["number", "node"] (sp_contents K) := cal_mk X G a_l_blocks l_l_blocks c_l_blocks k_l_blocks (fun _ _ _ _ _ _ us hl => match us, hl with | [_, _], _ => rfl) (fun F => ok_l_blocks F B)
  have C_law_right : Cal P w K mg base CX0 "_law_right" 3 ["number", "node"] (sp_l_right K) := cal_mk X G a_l_right l_l_right c_l_right k_l_right (fun _ _ _ _ _ _ us hl => match us, hl with | [_, _], _ => rfl) (fun F => ok_l_right F B C_contents_of C_law_blocks)
  exact ok_law F_law B C_law_pot C_law_number C_law_cell C_law_node C_contents_of C_law_right g_WIDE g_DIRECT g_PIECE
theorem walk {l : PySem.W.OpenLaw} {q : Program} {loose : List Str} {XP : (Str → Option Value) → Heap → Prop} {YP : World → Heap → Prop} {d : DefRec} {K : Params → PySem.W.Frag} (hn : l.most = some 63) (hdf : d.params.defaults = [])
    (hY : ∀ (w : World) (h : Heap), YP w h → (K w.params).In h)
    (F : ∀ (w : World) (mg : Str → Option Value) (fa : Addr) (h : Heap), (K w.params).In h → h.Ns mainGlobals mg → mg d.name = some (.ref fa) →
      ∃ fd : FuncData, (∀ (s : Shared) (u : Value), BindsTo s fd ⟨[u], []⟩ [("script", u)]) ∧ ∀ base : Heap, (K w.params).In base → base.Ns mainGlobals mg → GnOk l.prog w (K w.params) mg base CX0 6 fa fd ["script"] (sp_law (K w.params))) :
    PySem.W.WalkO q loose XP YP l.row.toRowW d [] (fun f vs => PySem.call f vs) :=
  gn_walk (n := 63) (k := 6) (x := "script") (CX := fun _ => CX0) (sp := sp_law) hn (by decide) hdf ⟨rfl, by decide, by decide⟩ hY F (fun _ _ a ns hl hS => ⟨a, ns, rfl, hS, hl, fun _ => rfl⟩) fun _ _ _ _ _ z => z
end Cl
open PySem PySem.W PyProof.Rows
set_option maxRecDepth 100000 in
set_option maxHeartbeats 0 in
theorem PySem.Challenge.cw_cleanedlog_k41_contents_holds : PySem.Challenge.rw_cleanedlog_k41_contents.Holds := by
  w_on; o_law; k_head; (case hw => w_witness2)
  k_fill
  refine Cl.walk (l := PySem.Challenge.rw_cleanedlog_k41_contents) rfl rfl (fun w h Y => PySem.W.kIn_of Y) ?F
  case F =>
    intro w mg fa h KX G hmg
    refine' Cl.all_mk KX G hmg ?z_len ?z_max ?z_min ?z_abs ?z_divmod ?z_range ?z_ord ?z_isinstance ?z_int ?z_str ?z_bool ?z_list ?z_tuple ?z_dict ?z_set ?z_all ?z_any ?z_sorted ?z_enumerate ?z_zip ?z_repr ?z_sum ?a_WIDE ?a_DIRECT ?a_PIECE ?a_CONTENTS ?l_CONTENTS ?kl_CONTENTS ?n_CONTENTS_0 ?n_CONTENTS_1 ?a_many_blocks ?l_many_blocks ?c_many_blocks ?k_many_blocks ?a_contents_of ?l_contents_of ?c_contents_of ?k_contents_of ?a_l_cell ?l_l_cell ?c_l_cell ?k_l_cell ?a_l_pot ?l_l_pot ?c_l_pot ?k_l_pot ?a_l_take ?l_l_take ?c_l_take ?k_l_take ?a_l_signs ?l_l_signs ?c_l_signs ?k_l_signs ?a_l_name ?l_l_name ?c_l_name ?k_l_name ?a_l_word ?l_l_word ?c_l_word ?k_l_word ?a_l_number ?l_l_number ?c_l_number ?k_l_number ?a_l_things ?l_l_things ?c_l_things ?k_l_things ?a_l_node ?l_l_node ?c_l_node ?k_l_node ?a_l_blocks ?l_l_blocks ?c_l_blocks ?k_l_blocks ?a_l_right ?l_l_right ?c_l_right ?k_l_right ?a_law ?l_law ?c_law ?k_law
    (case z_len => k_is); (case z_max => k_is); (case z_min => k_is); (case z_abs => k_is); (case z_divmod => k_is); (case z_range => k_is); (case z_ord => k_is); (case z_isinstance => k_is); (case z_int => k_is); (case z_str => k_is); (case z_bool => k_is); (case z_list => k_is); (case z_tuple => k_is); (case z_dict => k_is); (case z_set => k_is); (case z_all => k_is); (case z_any => k_is); (case z_sorted => k_is); (case z_enumerate => k_is); (case z_zip => k_is); (case z_repr => k_is); (case z_sum => k_is); (case a_WIDE => k_is); (case a_DIRECT => k_is); (case a_PIECE => k_is); (case a_CONTENTS => k_is); (case l_CONTENTS => k_is); (case kl_CONTENTS => exact ⟨⟨_, _, rfl, rfl⟩, ⟨_, _, rfl, rfl⟩, trivial⟩); (case n_CONTENTS_0 => k_is); (case n_CONTENTS_1 => k_is); (case a_many_blocks => k_is); (case l_many_blocks => k_is); (case c_many_blocks => k_is); (case k_many_blocks => k_is); (case a_contents_of => k_is); (case l_contents_of => k_is); (case c_contents_of => k_is); (case k_contents_of => k_is); (case a_l_cell => k_is); (case l_l_cell => k_is); (case c_l_cell => k_is); (case k_l_cell => k_is); (case a_l_pot => k_is); (case l_l_pot => k_is); (case c_l_pot => k_is); (case k_l_pot => k_is); (case a_l_take => k_is); (case l_l_take => k_is); (case c_l_take => k_is); (case k_l_take => k_is); (case a_l_signs => k_is); (case l_l_signs => k_is); (case c_l_signs => k_is); (case k_l_signs => k_is); (case a_l_name => k_is); (case l_l_name => k_is); (case c_l_name => k_is); (case k_l_name => k_is); (case a_l_word => k_is); (case l_l_word => k_is); (case c_l_word => k_is); (case k_l_word => k_is); (case a_l_number => k_is); (case l_l_number => k_is); (case c_l_number => k_is); (case k_l_number => k_is); (case a_l_things => k_is); (case l_l_things => k_is); (case c_l_things => k_is); (case k_l_things => k_is); (case a_l_node => k_is); (case l_l_node => k_is); (case c_l_node => k_is); (case k_l_node => k_is); (case a_l_blocks => k_is); (case l_l_blocks => k_is); (case c_l_blocks => k_is); (case k_l_blocks => k_is); (case a_l_right => k_is); (case l_l_right => k_is); (case c_l_right => k_is); (case k_l_right => k_is); (case a_law => k_is); (case l_law => k_is); (case c_law => k_is); (case k_law => k_is)
