import PyProof.Rows.All
import Wide.All
import OpenK.AllK
import Wide.FinOn
import HandS.ForMost
import HandS.ForExc
import HandS.WideBits
import HandS.StrMore
import HandS.Flow
import HandS.IsInst
import HandS.Defaults
import HandS.TupAny
import HandS.Walk
import HandS.More
import HandS.SortInts
import HandS.ListItems
import PySem.Challenge.RW_cleanedlog_k66_tables
set_option Elab.async false
set_option linter.all false
set_option maxRecDepth 100000
set_option maxHeartbeats 4000000
/-! ### ClG: defs that know that nothing is being shown (repr wants it): promises, calls, methods, makings, the law's own call -/
namespace Cl
open PySem PySem.Spec PyProof.Rows L2

/-- room for k calls, and no repr is running -/
structure Rm (k : Nat) (A : Around) : Prop where
  room : Room k A
  gd : A.guards = some []
theorem Rm.mono {j k : Nat} {A : Around} (r : Rm k A) (h : j ≤ k) : Rm j A := ⟨r.room.mono h, r.gd⟩
theorem Rm.deeper {k : Nat} {A : Around} (r : Rm (k + 1) A) (env : Env) : Rm k (A.deeper env) := ⟨r.room.deeper env, r.gd⟩
theorem Rm.make {k : Nat} {A : Around} (r : Rm (k + 1) A) (C : Addr) (us : List Value) (kw : List (Str × Value)) : Rm k (A.under (.builtin "type.__call__" ⟨.ref C :: us, kw⟩)) := by
  refine ⟨r.room.make C us kw, ?_⟩
  show pushGuards (Code.builtin "type.__call__" ⟨.ref C :: us, kw⟩).guards A.guards = some []
  rw [show (Code.builtin "type.__call__" ⟨.ref C :: us, kw⟩).guards = [] by simp [Code.guards, Code.isGuard, guardIds]]
  exact r.gd
theorem Rm.hu {A : Around} {k : Nat} (hr : Rm k A) : A.units + 1 < cLine := hu_of hr.room
theorem Rm.units {A : Around} {k : Nat} (hr : Rm k A) : A.units + 64 < cLine := hr.room.units

/-- a def that keeps its promise wherever there is such room -/
structure GnOk (P : Program) (w : World) (K : PySem.W.Frag) (mg : Str → Option Value) (base : Heap) (CX : CXT) (k : Nat) (f : Addr) (fd : FuncData) (ps : List Str) (sp : Sp) : Prop where
  len : ∀ vs H Q E, sp vs H Q E → vs.length = ps.length
  run : ∀ (A : Around) (out : List Env) (s : Shared) (H : Hp) (ar : Args) (us : List Value) (vs : List V) (Q : VK) (E : XK), Rm k A → Env0 P w K mg base A out s H →
    BindsTo s fd ar (ps.zip us) → Vals vs us → sp vs H Q E → codeAny (model P w) A (.call (.ref f) ar) (CR CX out P w H s Q E) s

section
variable {P : Program} {w : World} {K : PySem.W.Frag} {mg : Str → Option Value} {base : Heap}
theorem GnOk.mono {CX : CXT} {j k : Nat} {f : Addr} {fd : FuncData} {ps : List Str} {sp : Sp} (F : GnOk P w K mg base CX j f fd ps sp) (h : j ≤ k) : GnOk P w K mg base CX k f fd ps sp :=
  ⟨F.len, fun A out s H ar us vs Q E hr => F.run A out s H ar us vs Q E (hr.mono h)⟩
theorem GnOk.imp {CX : CXT} {k : Nat} {f : Addr} {fd : FuncData} {ps : List Str} {sp sp' : Sp} (F : GnOk P w K mg base CX k f fd ps sp) (h : ∀ vs H Q E, sp' vs H Q E → sp vs H Q E) : GnOk P w K mg base CX k f fd ps sp' :=
  ⟨fun vs H Q E q => F.len vs H Q E (h _ _ _ _ q), fun A out s H ar us vs Q E hr he hb hv hs => F.run A out s H ar us vs Q E hr he hb hv (h _ _ _ _ hs)⟩
/-- the end of a body is the end of the call -/
theorem body_end {CX : CXT} {N : List Str} {qual : Str} {sc : Scope} {f : Addr} {cd : Value} {A : Around} {out : List Env} {s : Shared} {H : Hp} {E : XK} {Q : VK} :
    ∀ {fl : Flow} {s' : Shared}, SP (cxOf CX P w K mg base N qual sc f cd A out s H E) [] { nx := fun _ H' => Q .non H', rt := Q } fl s' → CE out P w H s Q (match (generalizing := false) fl with | .ret v => v | _ => .none) s'
  | .ret _, _, ⟨v, _, H1, J, rv, q⟩ => ⟨v, H1, J.os, J.bare, J.base, J.hok, rv, q⟩
  | .next, _, ⟨_, H1, J, q⟩ => ⟨.non, H1, J.os, J.bare, J.base, J.hok, rfl, q⟩
  | .brk, _, ⟨_, _, _, q⟩ => q.elim
  | .cont, _, ⟨_, _, _, q⟩ => q.elim
theorem gn_of {CX : CXT} {k : Nat} {f : Addr} {nm qual : Str} {pars : Arguments} {body : List Stmt} {sc : Scope} {dV kV doc pm cdv ct oc : Value} {an od : Option Addr} {osl : Array (Option Value)} {N ps : List Str} {sp : Sp}
    (lk : K.lookup f = some ⟨oc, od, .func (PySem.W.fnOf nm qual pars body sc dV kV doc pm an cdv ct), osl⟩) (hc : PySem.W.codeIn K cdv qual = true) (S : FnScope N ps sc) (len : ∀ vs H Q E, sp vs H Q E → vs.length = ps.length)
    (hb : ∀ (A : Around) (out : List Env) (s : Shared) (H : Hp) (vs : List V) (Q : VK) (E : XK), Rm k (A.deeper (envOfC qual sc s.heap.objs.size f cdv)) → sp vs H Q E →
      ∃ t, PSs (cxOf CX P w K mg base N qual sc f cdv A out s H E) body t ∧ t { nx := fun _ H' => Q .non H', rt := Q } (start N vs) H) :
    GnOk P w K mg base CX (k + 1) f (PySem.W.fnOf nm qual pars body sc dV kV doc pm an cdv ct) ps sp := by
  constructor
  · exact len
  intro A out s H ar us vs Q E hr e0 hbd rv hs
  have lenv := len _ _ _ _ hs
  have inK : K.In s.heap := e0.mod.kin.keeps fun b o e => (e0.bs b o e).1
  have nolim : s.heap.NoLimit := e0.mod.nolimit.keeps fun b o e => (e0.bs b o e).1
  have kinds : ∀ y ∈ ps.zip us, sc.names.lookup y.1 = some .local ∨ (sc.names.lookup y.1 = some .cell ∧ ((cellsFrom (s.heap.objs.size + 1) sc.names []).lookup y.1).isSome = true) := by
    rintro ⟨n, v⟩ hy
    have hp := S.par n (List.of_mem_zip hy).1
    exact hp.imp id fun q => ⟨q, PySem.W.cellsFrom_some _ _ _ (.inl q)⟩
  refine codeAny_call_function hr.room.depth (inK _ _ lk) rfl S.co S.gen rfl (PySem.W.codeRec_of inK hc) (hbd _ _ _ _ (wpAny_newFunctionEnv_cells S.kind kinds ?_))
  rintro env rfl s1 x
  refine ⟨nolim.keeps x.toInCall.keep, codeAny_func ?_⟩
  obtain ⟨t, ht, hq⟩ := hb A out s H vs Q E (hr.deeper _) hs
  refine wpAny_mono (ht.run [] s1 (start N vs) H _ (inv_start S hr.room.hd e0 lenv rv x) hq) (fun fl s' z => ?_) fun e s' z => z
  have z' := body_end z
  cases fl <;> exact z'
/-- THE RULE for a def out of which nothing is raised -/
theorem gn_fun {x qual : Str} {st : Stmt} {f : Addr} {fd : FuncData} {N ps : List Str} {k : Nat} {sp : Sp} (F : Fun K x qual st f fd) (S : FnScope N ps (defScope st)) (len : ∀ vs H Q E, sp vs H Q E → vs.length = ps.length)
    (hb : ∀ (cdv : Value) (A : Around) (out : List Env) (s : Shared) (H : Hp) (vs : List V) (Q : VK) (E : XK), Rm k (A.deeper (envOfC qual (defScope st) s.heap.objs.size f cdv)) → sp vs H Q E →
      ∃ t, PSs (cxOf CX0 P w K mg base N qual (defScope st) f cdv A out s H E).nox (defBody st) t ∧ t { nx := fun _ H' => Q .non H', rt := Q } (start N vs) H) : GnOk P w K mg base CX0 (k + 1) f fd ps sp := by
  obtain ⟨oc, od, kV, doc, pm, an, cdv, ct, osl, rfl, lk, hc⟩ := F.ex
  refine gn_of lk hc S len fun A out s H vs Q E hr hs => ?_
  obtain ⟨t, h1, h2⟩ := hb cdv A out s H vs Q E hr hs
  exact ⟨t, h1.nox, h2⟩
/-- THE RULE for a def that may raise -/
theorem gn_funX {x qual : Str} {st : Stmt} {f : Addr} {fd : FuncData} {N ps : List Str} {k : Nat} {sp : Sp} (F : Fun K x qual st f fd) (S : FnScope N ps (defScope st)) (len : ∀ vs H Q E, sp vs H Q E → vs.length = ps.length)
    (hb : ∀ (cdv : Value) (A : Around) (out : List Env) (s : Shared) (H : Hp) (vs : List V) (Q : VK) (E : XK), Rm k (A.deeper (envOfC qual (defScope st) s.heap.objs.size f cdv)) → sp vs H Q E →
      ∃ t, PSs (cxOf (L2.CX P w) P w K mg base N qual (defScope st) f cdv A out s H E) (defBody st) t ∧ t { nx := fun _ H' => Q .non H', rt := Q } (start N vs) H) : GnOk P w K mg base (L2.CX P w) (k + 1) f fd ps sp := by
  obtain ⟨oc, od, kV, doc, pm, an, cdv, ct, osl, rfl, lk, hc⟩ := F.ex
  exact gn_of lk hc S len fun A out s H vs Q E hr hs => hb cdv A out s H vs Q E hr hs
end

/-! ### calls -/
section
variable {X : Cx} {CX : CXT} {k : Nat} {f C : Addr} {fd : FuncData} {ps : List Str} {sp : Sp} {E : XK} {pins : List (Addr × Obj)} {σ : L2.St} {H : Hp} {s : Shared} {Q : VK}
/-- the callee runs, its parameters bound to all -/
theorem gn_call {us : List Value} {kw : List (Str × Value)} {allU : List Value} {allV : List V} (F : GnOk X.prog X.w X.K X.mg X.base CX k f fd ps sp) (hr : Rm k X.A) (hb : BindsTo s fd ⟨us, kw⟩ (ps.zip allU)) (hx : Passes CX X E)
    (I : Inv X pins σ H s) (r : Vals allV allU) (h : sp allV H Q E) : wpAny (model X.prog X.w) X.A (call (.ref f) us kw) (EP X pins σ Q) X.xe s := by
  refine wpAny_call (codeAny_mono (F.run X.A X.stack s H ⟨us, kw⟩ allU allV Q E hr I.env0 hb r h) ?_)
  rintro (e | fl) s' hq
  · exact hx pins σ H s e s' I hq
  · cases fl with
    | ret u => exact I.after hq
    | next | brk | cont => exact hq.elim
/-- C(..): the instance and its dict are made, __init__ runs -/
theorem gn_make {us : List Value} {kw : List (Str × Value)} {allU : Addr → List Value} {allV : Addr → List V} (M : Mk X.K C f) (F : GnOk X.prog X.w X.K X.mg X.base CX k f fd ps sp) (hr : Rm (k + 1) X.A)
    (hb : ∀ (s' : Shared) (x : Addr), X.K.In s'.heap → BindsTo s' fd ⟨.ref x :: us, kw⟩ (ps.zip (allU x))) (hx : Passes CX X E)
    (I : Inv X pins σ H s) (r : ∀ x, Vals (allV x) (allU x)) (h : ∀ x dx, H x = none → H dx = none → dx ≠ x → sp (allV x) (upd (upd H dx (.own x)) x (.ins C dx [])) (fun v H2 => v = .non ∧ Q (.ref x) H2) E) :
    wpAny (model X.prog X.w) X.A (call (.ref C) us kw) (EP X pins σ Q) X.xe s := by
  have J := Inv.made (C := C) I
  have now := h (s.heap.objs.size + 1) s.heap.objs.size (I.hok.fresh (Nat.le_succ _)) (I.hok.fresh (Nat.le_refl _)) (Nat.ne_of_lt (Nat.lt_succ_self _))
  refine wpAny_call (make_map (f := f) I.kIn M.makes M.init (beq_iff_eq.mp M.fn) (codeAny_mono (F.run _ X.stack _ _ _ (allU (s.heap.objs.size + 1)) _ _ E (hr.make C us kw) (J.env0.make C us kw) (hb _ _ J.kIn) (r _) now) ?_))
  rintro (e | fl) s' hq
  · exact hx pins σ _ _ e s' J hq
  · cases fl with
    | ret u =>
      obtain ⟨v, H1, J1, rv, ev, q1⟩ := J.after hq
      subst ev
      exact ⟨rv, .ref (s.heap.objs.size + 1), H1, J1, rfl, q1⟩
    | next | brk | cont => exact hq.elim
end

/-! ### bundles: a def by its name; how it is bound -/
/-- n positional values and the keywords ks; gV puts the values in the parameters' order (defaults among them) -/
structure Cal (P : Program) (w : World) (K : PySem.W.Frag) (mg : Str → Option Value) (base : Heap) (CX : CXT) (x : Str) (k : Nat) (ps : List Str) (sp : Sp) : Prop where
  ex : ∃ (f : Addr) (fd : FuncData), GnOk P w K mg base CX k f fd ps sp ∧ mg x = some (.ref f) ∧ PySem.W.keepIn K (.ref f) = true ∧ Binds K fd ps []
structure CalK (P : Program) (w : World) (K : PySem.W.Frag) (mg : Str → Option Value) (base : Heap) (CX : CXT) (x : Str) (k : Nat) (ps : List Str) (n : Nat) (ks : List Str) (gV : List V → List V → List V) (sp : Sp) : Prop where
  ex : ∃ (f : Addr) (fd : FuncData) (g : List Value → List Value → List Value), GnOk P w K mg base CX k f fd ps sp ∧ mg x = some (.ref f) ∧ PySem.W.keepIn K (.ref f) = true ∧ KBn K fd ps n ks g gV
section
variable {X : Cx} {CX : CXT} {k n : Nat} {ps ks : List Str} {sp : Sp} {E : XK} {x : Str} {p pos : Pos} {e : Expr} {es : List Expr} {kws : List Keyword} {t tk : TA} {gV : List V → List V → List V}
theorem pe_cal (C : Cal X.prog X.w X.K X.mg X.base CX x k ps sp) (hr : Rm k X.A) (hg : Gl X x) (hx : Passes CX X E) (ha : PA X (e :: es) t) (hdb : (x == ("__debug__" : Str)) = false := by decide)
    (he : starEach (e :: es) X.env = (false, eval e X.env) :: starEach es X.env := by rfl) (hpl : (backTo pos (starEach es X.env)).any (·.1) = false := by rfl) :
    PE X (.Call (.Name x p) (e :: es) [] pos) (tCall sp [] E t) := by
  obtain ⟨f, fd, F, hm, hk, hb⟩ := C.ex
  constructor
  intro pins s σ H Q I h
  refine wpAny_Call_Name_kw (ld_glob I hg hm (PySem.W.callWith_K (h₀ := X.base) I.ok.mod.kin hk (thn (ha.run pos pins s σ H _ I h) ?_) he hpl) hdb)
  rintro us s1 ⟨vs, H1, I1, r, q⟩
  rw [List.append_nil] at q
  have hl := F.len _ _ _ _ q
  refine ⟨I1.kIn, gn_call F hr (?_ : BindsTo s1 fd ⟨us, []⟩ (ps.zip us)) hx I1 r q⟩
  have hb' := hb s1 us I1.kIn (by rw [List.append_nil, ← r.length]; exact hl)
  rwa [List.append_nil] at hb'
theorem pe_cal0 (C : Cal X.prog X.w X.K X.mg X.base CX x k ps sp) (hr : Rm k X.A) (hg : Gl X x) (hx : Passes CX X E) (hdb : (x == ("__debug__" : Str)) = false := by decide) :
    PE X (.Call (.Name x p) [] [] pos) (tCall sp [] E tNil) := by
  obtain ⟨f, fd, F, hm, hk, hb⟩ := C.ex
  constructor
  intro pins s σ H Q I h
  have hl := F.len _ _ _ _ (show sp ([] ++ []) H Q E from h)
  refine wpAny_Call_Name_kw (ld_glob I hg hm (PySem.W.callWith_K0 I.kIn hk (gn_call (us := []) (allU := []) F hr (hb s [] I.kIn hl) hx I .nil h)) hdb)
theorem pe_calk (C : CalK X.prog X.w X.K X.mg X.base CX x k ps n ks gV sp) (hr : Rm k X.A) (hg : Gl X x) (hx : Passes CX X E) (ha : PA X (e :: es) t) (hkw : PK X kws tk)
    (hall : (backToKw pos (keywordEach kws X.env)).all (·.1.isSome) = true := by rfl) (hks : (backToKw pos (keywordEach kws X.env)).filterMap (·.1) = ks := by rfl)
    (hdb : (x == ("__debug__" : Str)) = false := by decide) (he : starEach (e :: es) X.env = (false, eval e X.env) :: starEach es X.env := by rfl)
    (hpl : ((backTo pos (starEach (e :: es) X.env)).any (·.1) || (backToKw pos (keywordEach kws X.env)).any (·.1.isNone)) = false := by rfl) :
    PE X (.Call (.Name x p) (e :: es) kws pos) (tCallN n ks.length sp gV E t tk) := by
  obtain ⟨f, fd, g, F, hm, hk, hb⟩ := C.ex
  constructor
  intro pins s σ H Q I h
  refine wpAny_Call_Name_kw (ld_glob I hg hm (PySem.W.callWith_KW (h₀ := X.base) I.ok.mod.kin hk hall (thn (ha.run pos pins s σ H _ I h) ?_) hpl he) hdb)
  rintro us s1 ⟨vs, H1, I1, r, q⟩
  refine thn (hkw.run pos pins s1 σ H1 _ I1 q) ?_
  rintro ws s2 ⟨zs, H2, I2, rz, l1, l2, q2⟩
  rw [hks]
  exact ⟨I2.kIn, gn_call F hr (hb.to s2 us ws I2.kIn (r.length.symm.trans l1) (rz.length.symm.trans l2)) hx I2 (hb.rel r rz) q2⟩
theorem pe_calk0 (C : CalK X.prog X.w X.K X.mg X.base CX x k ps n ks gV sp) (hr : Rm k X.A) (hg : Gl X x) (hx : Passes CX X E) (hkw : PK X kws tk)
    (hall : (backToKw pos (keywordEach kws X.env)).all (·.1.isSome) = true := by rfl) (hks : (backToKw pos (keywordEach kws X.env)).filterMap (·.1) = ks := by rfl)
    (hdb : (x == ("__debug__" : Str)) = false := by decide)
    (hpl : ((backTo pos (starEach [] X.env)).any (·.1) || (backToKw pos (keywordEach kws X.env)).any (·.1.isNone)) = false := by rfl) :
    PE X (.Call (.Name x p) [] kws pos) (tCallN n ks.length sp gV E tNil tk) := by
  obtain ⟨f, fd, g, F, hm, hk, hb⟩ := C.ex
  constructor
  intro pins s σ H Q I h
  refine wpAny_Call_Name_kw (ld_glob I hg hm (PySem.W.callWith_KW0 (h₀ := X.base) I.ok.mod.kin hk hall (thn (hkw.run pos pins s σ H _ I h) ?_) hpl) hdb)
  rintro ws s2 ⟨zs, H2, I2, rz, l1, l2, q2⟩
  rw [hks]
  exact ⟨I2.kIn, gn_call (us := []) F hr (hb.to s2 [] ws I2.kIn l1 (rz.length.symm.trans l2)) hx I2 (hb.rel .nil rz) q2⟩
end
section
variable {P : Program} {w : World} {K : PySem.W.Frag} {mg : Str → Option Value} {base h : Heap} {CX : CXT} {x qual : Str} {k n : Nat} {ps ks : List Str} {sp : Sp} {st : Stmt} {f : Addr} {oc : Value} {od an : Option Addr} {osl : Array (Option Value)} {kV doc pm cdv ct : Value}
theorem cal_mk (KX : K.In h) (G : h.Ns mainGlobals mg) (a : PySem.W.nsIn K mainGlobals x = some (some (.ref f)))
    (l : K.lookup f = some ⟨oc, od, .func (PySem.W.fnOf x qual (defArgs st) (defBody st) (defScope st) .none kV doc pm an cdv ct), osl⟩) (c : PySem.W.codeIn K cdv qual = true) (kp : PySem.W.keepIn K (.ref f) = true)
    (hb : ∀ (kV doc pm : Value) (an : Option Addr) (cdv ct : Value) (us : List Value), us.length = ps.length → bindArgs (PySem.W.fnOf x qual (defArgs st) (defBody st) (defScope st) .none kV doc pm an cdv ct) ⟨us, []⟩ = pure (ps.zip us))
    (ok : ∀ {f : Addr} {fd : FuncData}, Fun K x qual st f fd → GnOk P w K mg base CX k f fd ps sp) : Cal P w K mg base CX x k ps sp :=
  have F := fun_mk (st := st) l c kp
  ⟨f, _, ok F, PySem.W.mg_of KX G a, kp, F.binds hb⟩
theorem calk_mk {g : List Value → List Value → List Value} {gV : List V → List V → List V} (KX : K.In h) (G : h.Ns mainGlobals mg) (a : PySem.W.nsIn K mainGlobals x = some (some (.ref f)))
    (l : K.lookup f = some ⟨oc, od, .func (PySem.W.fnOf x qual (defArgs st) (defBody st) (defScope st) .none kV doc pm an cdv ct), osl⟩) (c : PySem.W.codeIn K cdv qual = true) (kp : PySem.W.keepIn K (.ref f) = true)
    (hb : ∀ (kV doc pm : Value) (an : Option Addr) (cdv ct : Value) (us ws : List Value), us.length = n → ws.length = ks.length → bindArgs (PySem.W.fnOf x qual (defArgs st) (defBody st) (defScope st) .none kV doc pm an cdv ct) ⟨us, ks.zip ws⟩ = pure (ps.zip (g us ws)))
    (hrel : ∀ {vs : List V} {us : List Value} {zs : List V} {ws : List Value}, Vals vs us → Vals zs ws → Vals (gV vs zs) (g us ws))
    (ok : ∀ {f : Addr} {fd : FuncData}, Fun K x qual st f fd → GnOk P w K mg base CX k f fd ps sp) : CalK P w K mg base CX x k ps n ks gV sp :=
  have F := fun_mk (st := st) l c kp
  ⟨f, _, g, ok F, PySem.W.mg_of KX G a, kp, ⟨fun s us ws _ l1 l2 => BindsTo.of_eq (hb _ _ _ _ _ _ us ws l1 l2), hrel⟩⟩
end

/-! ### methods and makings by bundles -/
/-- a method of the class at C: n values behind the instance, the keywords ks -/
structure Mth (P : Program) (w : World) (K : PySem.W.Frag) (mg : Str → Option Value) (base : Heap) (CX : CXT) (C : Addr) (m : Str) (k : Nat) (ps : List Str) (sp : Sp) : Prop where
  ex : ∃ (f : Addr) (fd : FuncData), GnOk P w K mg base CX k f fd ps sp ∧ Meth K C m f ∧ Binds K fd ps []
structure MthK (P : Program) (w : World) (K : PySem.W.Frag) (mg : Str → Option Value) (base : Heap) (CX : CXT) (C : Addr) (m : Str) (k : Nat) (ps : List Str) (n : Nat) (ks : List Str) (gV : List V → List V → List V) (sp : Sp) : Prop where
  ex : ∃ (f : Addr) (fd : FuncData) (g : List Value → List Value → List Value), GnOk P w K mg base CX k f fd ps sp ∧ Meth K C m f ∧ KBn K fd ps (n + 1) ks g gV
/-- the class's __init__ -/
structure Mkr (P : Program) (w : World) (K : PySem.W.Frag) (mg : Str → Option Value) (base : Heap) (CX : CXT) (C : Addr) (k : Nat) (ps : List Str) (sp : Sp) : Prop where
  ex : ∃ (f : Addr) (fd : FuncData), GnOk P w K mg base CX k f fd ps sp ∧ Mk K C f ∧ Binds K fd ps []
structure MkrK (P : Program) (w : World) (K : PySem.W.Frag) (mg : Str → Option Value) (base : Heap) (CX : CXT) (C : Addr) (k : Nat) (ps : List Str) (n : Nat) (ks : List Str) (gV : List V → List V → List V) (sp : Sp) : Prop where
  ex : ∃ (f : Addr) (fd : FuncData) (g : List Value → List Value → List Value), GnOk P w K mg base CX k f fd ps sp ∧ Mk K C f ∧ KBn K fd ps (n + 1) ks g gV
/-- o.m(.., k = v, ..) -/
def tMthN (C : Addr) (m : Str) (n j : Nat) (sp : Sp) (gV : List V → List V → List V) (E : XK) (ta : TE) (t tk : TA) : TE := fun σ H Q => ta σ H fun x H1 => ∃ a dx fs, x = .ref a ∧ H1 a = some (.ins C dx fs) ∧ fs.lookup m = none ∧
  t σ H1 fun vs H2 => tk σ H2 fun zs H3 => vs.length = n ∧ zs.length = j ∧ sp (gV (x :: vs) zs) H3 Q E
/-- C(.., k = v, ..) -/
def tMkN (C : Addr) (n j : Nat) (sp : Sp) (gV : List V → List V → List V) (E : XK) (t tk : TA) : TE := fun σ H Q => t σ H fun vs H1 => tk σ H1 fun zs H2 => vs.length = n ∧ zs.length = j ∧ ∀ x dx, H2 x = none → H2 dx = none → dx ≠ x →
  sp (gV (.ref x :: vs) zs) (upd (upd H2 dx (.own x)) x (.ins C dx [])) (fun v H3 => v = .non ∧ Q (.ref x) H3) E
section
variable {X : Cx} {CX : CXT} {k n : Nat} {C : Addr} {m x : Str} {ps ks : List Str} {sp : Sp} {E : XK} {p pos apos : Pos} {o e : Expr} {es : List Expr} {kws : List Keyword} {ta : TE} {t tk : TA} {gV : List V → List V → List V} {pl : Sem Bool}
theorem pe_mth (M : Mth X.prog X.w X.K X.mg X.base CX C m k ps sp) (c : Cls X.K C) (hr : Rm k X.A) (hx : Passes CX X E) (ho : PE X o ta) (ha : PA X (e :: es) t)
    (hst : starEach (e :: es) X.env = (false, eval e X.env) :: starEach es X.env := by rfl) (hpl : (backTo pos (starEach es X.env)).any (·.1) = false := by rfl)
    (he : eval (.Call (.Attribute o m apos) (e :: es) [] pos) X.env = (do let ov ← eval o X.env; standAt apos.atName; let (f, first) ← holding [ov] (getMethod ov m pl); callWith pos f first (backTo pos (starEach (e :: es) X.env)) (backToKw pos (keywordEach [] X.env))) := by rfl) :
    PE X (.Call (.Attribute o m apos) (e :: es) [] pos) (tMeth C m sp [] E ta t) := by
  obtain ⟨f, fd, F, hm, hb⟩ := M.ex
  constructor
  intro pins s σ H Q I h
  refine PySem.W.methodCall_KW (pl := pl) (thn (ho.run pins s σ H _ I h) ?_) he
  rintro u s1 ⟨y, H1, I1, ry, a, dx, fs, rfl, ea, lk, q⟩
  obtain rfl : u = Value.ref a := ry
  refine getmeth_ok I1 ea c hm lk (PySem.W.callWith_K (first := [.ref a]) (h₀ := X.base) I.ok.mod.kin hm.kp (thn (ha.run pos pins s1 σ H1 _ I1 q) ?_) hst hpl)
  rintro us s2 ⟨vs, H2, I2, r, q2⟩
  rw [List.append_nil] at q2
  have r2 : Vals (V.ref a :: vs) (Value.ref a :: us) := .cons (show L2.RelV (V.ref a) (Value.ref a) from rfl) r
  have hl := F.len _ _ _ _ q2
  have hb' := hb s2 (Value.ref a :: us) I2.kIn (by rw [List.append_nil, ← r2.length]; exact hl)
  rw [List.append_nil] at hb'
  exact ⟨I2.kIn, gn_call F hr hb' hx I2 r2 q2⟩
theorem pe_mth0 (M : Mth X.prog X.w X.K X.mg X.base CX C m k ps sp) (c : Cls X.K C) (hr : Rm k X.A) (hx : Passes CX X E) (ho : PE X o ta)
    (he : eval (.Call (.Attribute o m apos) [] [] pos) X.env = (do let ov ← eval o X.env; standAt apos.atName; let (f, first) ← holding [ov] (getMethod ov m pl); callWith pos f first (backTo pos (starEach [] X.env)) (backToKw pos (keywordEach [] X.env))) := by rfl) :
    PE X (.Call (.Attribute o m apos) [] [] pos) (tMeth C m sp [] E ta tNil) := by
  obtain ⟨f, fd, F, hm, hb⟩ := M.ex
  constructor
  intro pins s σ H Q I h
  refine PySem.W.methodCall_KW (pl := pl) (thn (ho.run pins s σ H _ I h) ?_) he
  rintro u s1 ⟨y, H1, I1, ry, a, dx, fs, rfl, ea, lk, q⟩
  obtain rfl : u = Value.ref a := ry
  refine getmeth_ok I1 ea c hm lk ?_
  have q2 : sp [V.ref a] H1 Q E := q
  have r2 : Vals [V.ref a] [Value.ref a] := .cons (show L2.RelV (V.ref a) (Value.ref a) from rfl) .nil
  have hl := F.len _ _ _ _ q2
  have hb' := hb s1 [Value.ref a] I1.kIn (by rw [List.append_nil]; exact hl)
  rw [List.append_nil] at hb'
  exact PySem.W.callWith_K0 (first := [.ref a]) I1.kIn hm.kp (gn_call (us := [.ref a]) F hr hb' hx I1 r2 q2)
theorem pe_mthk (M : MthK X.prog X.w X.K X.mg X.base CX C m k ps n ks gV sp) (c : Cls X.K C) (hr : Rm k X.A) (hx : Passes CX X E) (ho : PE X o ta) (ha : PA X (e :: es) t) (hkw : PK X kws tk)
    (hall : (backToKw pos (keywordEach kws X.env)).all (·.1.isSome) = true := by rfl) (hks : (backToKw pos (keywordEach kws X.env)).filterMap (·.1) = ks := by rfl)
    (hst : starEach (e :: es) X.env = (false, eval e X.env) :: starEach es X.env := by rfl) (hpl : ((backTo pos (starEach (e :: es) X.env)).any (·.1) || (backToKw pos (keywordEach kws X.env)).any (·.1.isNone)) = false := by rfl)
    (he : eval (.Call (.Attribute o m apos) (e :: es) kws pos) X.env = (do let ov ← eval o X.env; standAt apos.atName; let (f, first) ← holding [ov] (getMethod ov m pl); callWith pos f first (backTo pos (starEach (e :: es) X.env)) (backToKw pos (keywordEach kws X.env))) := by rfl) :
    PE X (.Call (.Attribute o m apos) (e :: es) kws pos) (tMthN C m n ks.length sp gV E ta t tk) := by
  obtain ⟨f, fd, g, F, hm, hb⟩ := M.ex
  constructor
  intro pins s σ H Q I h
  refine PySem.W.methodCall_KW (pl := pl) (thn (ho.run pins s σ H _ I h) ?_) he
  rintro u s1 ⟨y, H1, I1, ry, a, dx, fs, rfl, ea, lk, q⟩
  obtain rfl : u = Value.ref a := ry
  refine getmeth_ok I1 ea c hm lk (PySem.W.callWith_KW (first := [.ref a]) (h₀ := X.base) I.ok.mod.kin hm.kp hall (thn (ha.run pos pins s1 σ H1 _ I1 q) ?_) hpl hst)
  rintro us s2 ⟨vs, H2, I2, r, q2⟩
  refine thn (hkw.run pos pins s2 σ H2 _ I2 q2) ?_
  rintro ws s3 ⟨zs, H3, I3, rz, l1, l2, q3⟩
  rw [hks]
  have r2 : Vals (V.ref a :: vs) (Value.ref a :: us) := .cons (show L2.RelV (V.ref a) (Value.ref a) from rfl) r
  exact ⟨I3.kIn, gn_call F hr (hb.to s3 (Value.ref a :: us) ws I3.kIn (by rw [← r2.length, List.length_cons, l1]) (rz.length.symm.trans l2)) hx I3 (hb.rel r2 rz) q3⟩
theorem pe_mthk0 (M : MthK X.prog X.w X.K X.mg X.base CX C m k ps n ks gV sp) (c : Cls X.K C) (hr : Rm k X.A) (hx : Passes CX X E) (ho : PE X o ta) (hkw : PK X kws tk)
    (hall : (backToKw pos (keywordEach kws X.env)).all (·.1.isSome) = true := by rfl) (hks : (backToKw pos (keywordEach kws X.env)).filterMap (·.1) = ks := by rfl)
    (hpl : ((backTo pos (starEach [] X.env)).any (·.1) || (backToKw pos (keywordEach kws X.env)).any (·.1.isNone)) = false := by rfl)
    (he : eval (.Call (.Attribute o m apos) [] kws pos) X.env = (do let ov ← eval o X.env; standAt apos.atName; let (f, first) ← holding [ov] (getMethod ov m pl); callWith pos f first (backTo pos (starEach [] X.env)) (backToKw pos (keywordEach kws X.env))) := by rfl) :
    PE X (.Call (.Attribute o m apos) [] kws pos) (tMthN C m n ks.length sp gV E ta tNil tk) := by
  obtain ⟨f, fd, g, F, hm, hb⟩ := M.ex
  constructor
  intro pins s σ H Q I h
  refine PySem.W.methodCall_KW (pl := pl) (thn (ho.run pins s σ H _ I h) ?_) he
  rintro u s1 ⟨y, H1, I1, ry, a, dx, fs, rfl, ea, lk, q⟩
  obtain rfl : u = Value.ref a := ry
  refine getmeth_ok I1 ea c hm lk (PySem.W.callWith_KW0 (first := [.ref a]) (h₀ := X.base) I.ok.mod.kin hm.kp hall (thn (hkw.run pos pins s1 σ H1 _ I1 q) ?_) hpl)
  rintro ws s3 ⟨zs, H3, I3, rz, l1, l2, q3⟩
  rw [hks]
  have r2 : Vals [V.ref a] [Value.ref a] := .cons (show L2.RelV (V.ref a) (Value.ref a) from rfl) .nil
  exact ⟨I3.kIn, gn_call (us := [.ref a]) F hr (hb.to s3 [Value.ref a] ws I3.kIn (by show 0 + 1 = n + 1; rw [← l1]; rfl) (rz.length.symm.trans l2)) hx I3 (hb.rel r2 rz) q3⟩
theorem pe_mk (M : Mkr X.prog X.w X.K X.mg X.base CX C k ps sp) (hr : Rm (k + 1) X.A) (hg : Gl X x) (hm : X.mg x = some (.ref C)) (hx : Passes CX X E) (ha : PA X (e :: es) t) (hdb : (x == ("__debug__" : Str)) = false := by decide)
    (he : starEach (e :: es) X.env = (false, eval e X.env) :: starEach es X.env := by rfl) (hpl : (backTo pos (starEach es X.env)).any (·.1) = false := by rfl) : PE X (.Call (.Name x p) (e :: es) [] pos) (tMake C sp [] E t) := by
  obtain ⟨f, fd, F, M, hb⟩ := M.ex
  constructor
  intro pins s σ H Q I h
  refine wpAny_Call_Name_kw (ld_glob I hg hm (PySem.W.callWith_K (h₀ := X.base) I.ok.mod.kin M.kp (thn (ha.run pos pins s σ H _ I h) ?_) he hpl) hdb)
  rintro us s1 ⟨vs, H1, I1, r, q⟩
  rw [List.append_nil] at q
  have hl := F.len _ _ _ _ (q (s1.heap.objs.size + 1) s1.heap.objs.size (I1.hok.fresh (Nat.le_succ _)) (I1.hok.fresh (Nat.le_refl _)) (Nat.ne_of_lt (Nat.lt_succ_self _)))
  refine ⟨I1.kIn, gn_make (allU := fun y => .ref y :: us) (allV := fun y => .ref y :: vs) M F hr (fun s' y hK => ?_) hx I1 (fun y => .cons (show L2.RelV (V.ref y) (Value.ref y) from rfl) r) q⟩
  have hb' := hb s' (Value.ref y :: us) hK (by rw [List.append_nil, List.length_cons, ← r.length]; exact hl)
  rwa [List.append_nil] at hb'
theorem pe_mkk (M : MkrK X.prog X.w X.K X.mg X.base CX C k ps n ks gV sp) (hr : Rm (k + 1) X.A) (hg : Gl X x) (hm : X.mg x = some (.ref C)) (hx : Passes CX X E) (ha : PA X (e :: es) t) (hkw : PK X kws tk)
    (hall : (backToKw pos (keywordEach kws X.env)).all (·.1.isSome) = true := by rfl) (hks : (backToKw pos (keywordEach kws X.env)).filterMap (·.1) = ks := by rfl)
    (hdb : (x == ("__debug__" : Str)) = false := by decide) (he : starEach (e :: es) X.env = (false, eval e X.env) :: starEach es X.env := by rfl)
    (hpl : ((backTo pos (starEach (e :: es) X.env)).any (·.1) || (backToKw pos (keywordEach kws X.env)).any (·.1.isNone)) = false := by rfl) :
    PE X (.Call (.Name x p) (e :: es) kws pos) (tMkN C n ks.length sp gV E t tk) := by
  obtain ⟨f, fd, g, F, M, hb⟩ := M.ex
  constructor
  intro pins s σ H Q I h
  refine wpAny_Call_Name_kw (ld_glob I hg hm (PySem.W.callWith_KW (h₀ := X.base) I.ok.mod.kin M.kp hall (thn (ha.run pos pins s σ H _ I h) ?_) hpl he) hdb)
  rintro us s1 ⟨vs, H1, I1, r, q⟩
  refine thn (hkw.run pos pins s1 σ H1 _ I1 q) ?_
  rintro ws s2 ⟨zs, H2, I2, rz, l1, l2, q2⟩
  rw [hks]
  have r2 : ∀ y, Vals (V.ref y :: vs) (Value.ref y :: us) := fun y => .cons (show L2.RelV (V.ref y) (Value.ref y) from rfl) r
  exact ⟨I2.kIn, gn_make (allU := fun y => g (.ref y :: us) ws) (allV := fun y => gV (.ref y :: vs) zs) M F hr (fun s' y hK => hb.to s' (.ref y :: us) ws hK (by rw [← (r2 y).length, List.length_cons, l1]) (rz.length.symm.trans l2)) hx I2 (fun y => hb.rel (r2 y) rz) q2⟩
theorem pe_mkk0 (M : MkrK X.prog X.w X.K X.mg X.base CX C k ps n ks gV sp) (hr : Rm (k + 1) X.A) (hg : Gl X x) (hm : X.mg x = some (.ref C)) (hx : Passes CX X E) (hkw : PK X kws tk)
    (hall : (backToKw pos (keywordEach kws X.env)).all (·.1.isSome) = true := by rfl) (hks : (backToKw pos (keywordEach kws X.env)).filterMap (·.1) = ks := by rfl) (hdb : (x == ("__debug__" : Str)) = false := by decide)
    (hpl : ((backTo pos (starEach [] X.env)).any (·.1) || (backToKw pos (keywordEach kws X.env)).any (·.1.isNone)) = false := by rfl) :
    PE X (.Call (.Name x p) [] kws pos) (tMkN C n ks.length sp gV E tNil tk) := by
  obtain ⟨f, fd, g, F, M, hb⟩ := M.ex
  constructor
  intro pins s σ H Q I h
  refine wpAny_Call_Name_kw (ld_glob I hg hm (PySem.W.callWith_KW0 (h₀ := X.base) I.ok.mod.kin M.kp hall (thn (hkw.run pos pins s σ H _ I h) ?_) hpl) hdb)
  rintro ws s2 ⟨zs, H2, I2, rz, l1, l2, q2⟩
  rw [hks]
  have r2 : ∀ y, Vals [V.ref y] [Value.ref y] := fun y => .cons (show L2.RelV (V.ref y) (Value.ref y) from rfl) .nil
  exact ⟨I2.kIn, gn_make (us := []) (allU := fun y => g [.ref y] ws) (allV := fun y => gV [.ref y] zs) M F hr (fun s' y hK => hb.to s' [.ref y] ws hK (by show 0 + 1 = n + 1; rw [← l1]; rfl) (rz.length.symm.trans l2)) hx I2 (fun y => hb.rel (r2 y) rz) q2⟩
theorem pe_mk0 (M : Mkr X.prog X.w X.K X.mg X.base CX C k ps sp) (hr : Rm (k + 1) X.A) (hg : Gl X x) (hm : X.mg x = some (.ref C)) (hx : Passes CX X E) (hdb : (x == ("__debug__" : Str)) = false := by decide) : PE X (.Call (.Name x p) [] [] pos) (tMake C sp [] E tNil) := by
  obtain ⟨f, fd, F, M, hb⟩ := M.ex
  constructor
  intro pins s σ H Q I h
  have hl := F.len _ _ _ _ (h (s.heap.objs.size + 1) s.heap.objs.size (I.hok.fresh (Nat.le_succ _)) (I.hok.fresh (Nat.le_refl _)) (Nat.ne_of_lt (Nat.lt_succ_self _)))
  refine wpAny_Call_Name_kw (ld_glob I hg hm (PySem.W.callWith_K0 I.kIn M.kp (gn_make (us := []) (allU := fun y => [.ref y]) (allV := fun y => [.ref y]) M F hr (fun s' y hK => ?_) hx I (fun y => .cons (show L2.RelV (V.ref y) (Value.ref y) from rfl) .nil) h)) hdb)
  have hb' := hb s' [Value.ref y] hK hl
  rwa [List.append_nil] at hb'
end

/-! ### the law's own call -/
theorem gn_law {P : Program} {w : World} {K : PySem.W.Frag} {mg mb : Str → Option Value} {CX : CXT} {k : Nat} {fa a : Addr} {fd : FuncData} {x : Str} {sp : Sp} {t : Shared} {vs : List Value} {ns : List Int}
    (inK : K.In t.heap) (gl : t.heap.Ns mainGlobals mg) (bl : t.heap.Ns builtinsNs mb) (bb : ∀ y : Str, y ≠ "__name__" → mb y = bootBuiltins y) (nolim : t.heap.NoLimit) (gens : t.gens = #[])
    (ha : t.heap.get? a = some { cls := .type "list", data := .seq vs.toArray }) (hin : IntsAre vs ns) (small : ns.length ≤ sizeLine) (hr : Room k callerA)
    (F : ∀ base : Heap, K.In base → base.Ns mainGlobals mg → GnOk P w K mg base CX k fa fd [x] sp) (bd : ∀ (s : Shared) (u : Value), BindsTo s fd ⟨[u], []⟩ [(x, u)])
    (hsp : ∀ H : Hp, SqL K H a (ns.map V.int) → sp [.ref a] H (fun v _ => v = .bl true) fun _ _ _ => False) (hx : ∀ H e s', CX [] H t (fun _ _ _ => False) e s' → False) :
    codeAny (model P w) callerA (.call (.ref fa) ⟨[.ref a], []⟩) (fun r s' => r = .ok (.ret (.bool true)) ∧ OldK t.heap s'.heap ∧ s'.os = t.os ∧ AllBare s'.gens) t := by
  have rel := vals_ints hin
  have same := hin.length
  -- the abstract heap: the script alone, where the top doesn't know it
  obtain ⟨H, hS, ok, only, apart⟩ : ∃ H : Hp, SqL K H a (ns.map V.int) ∧ HOk P w H t.heap ∧ (∀ b u, H b = some u → b = a ∧ ∃ o, u = .frz o (.lst (ns.map V.int))) ∧ (∀ u, H a = some u → K.lookup a = none) := by
    cases q : K.lookup a with
    | some o =>
      have e := inK a o q
      rw [ha] at e
      cases e
      exact ⟨fun _ => none, .inr ⟨_, vs.toArray, _, q, rfl, rfl, rfl, by rw [List.size_toArray, same]; exact small, by simpa using rel⟩, (fun b u z => by cases (show (none : Option HO) = some u from z)), (fun b u z => by cases (show (none : Option HO) = some u from z)), fun u z => by cases (show (none : Option HO) = some u from z)⟩
    | none =>
      refine ⟨upd (fun _ => none) a (.frz { cls := .type "list", data := .seq vs.toArray } (.lst (ns.map V.int))), .inl (.inr ⟨_, upd_same⟩), fun b u z => ?_, fun b u z => ?_, fun _ _ => rfl⟩
      · by_cases hb : b = a
        · subst hb
          rw [upd_same] at z
          cases z
          exact ⟨ha, by rw [List.length_map]; exact small, vs, _, rel, ha⟩
        · rw [upd_ne hb] at z
          cases z
      · by_cases hb : b = a
        · subst hb
          rw [upd_same] at z
          cases z
          exact ⟨rfl, _, rfl⟩
        · rw [upd_ne hb] at z
          cases z
  have dictNo : ∀ {b : Addr} {o : Obj} {es : Array DictEntry} {ep : Nat}, t.heap.get? b = some o → o.data = .dict es ep → H b = none := by
    intro b o es ep e d
    cases z : H b with
    | none => rfl
    | some u =>
      obtain ⟨rfl, _⟩ := only b u z
      rw [ha] at e
      cases e
      exact nomatch (show Data.seq vs.toArray _ = Data.dict es ep from d)
  have nsH : ∀ {b : Addr} {m : Str → Option Value}, t.heap.Ns b m → (hidT t.heap H).Ns b m := by
    rintro b m ⟨o, es, ep, e, d, r⟩
    exact ⟨o, es, ep, hidT_get e (dictNo e d), d, r⟩
  have inH : K.In (hidT t.heap H) := by
    intro b o e
    refine hidT_get (inK b o e) ?_
    cases z : H b with
    | none => rfl
    | some u =>
      obtain ⟨rfl, _⟩ := only b u z
      rw [apart u z] at e
      cases e
  obtain ⟨mc, c1, c2⟩ := nolim
  have md : Mod K mg (hidT t.heap H) := ⟨inH, nsH gl, ⟨mb, nsH bl, bb⟩, ⟨mc, nsH c1, c2⟩⟩
  have e0 : Env0 P w K mg (hidT t.heap H) callerA [] t H := ⟨rfl, md, fun b o e => of_hidT e, Nat.le_of_eq (hidT_size _ _), trivial, fun b hb => (List.not_mem_nil (show b ∈ ([] : List Addr) from hb)).elim, ok, .of_eq gens⟩
  refine codeAny_mono ((F _ inH (nsH gl)).run callerA [] t H ⟨[.ref a], []⟩ [.ref a] [.ref a] _ _ ⟨hr, rfl⟩ e0 (bd t (.ref a)) (.cons rfl .nil) (hsp H hS)) ?_
  rintro (e | fl) s' h
  · exact (hx H e s' h).elim
  · cases fl with
    | next | brk | cont => exact h.elim
    | ret u =>
      obtain ⟨v, H1, os, bare, un, ok1, r1, q⟩ := h
      obtain rfl : v = .bl true := q
      obtain rfl : u = Value.bool true := r1
      refine ⟨rfl, OldK.of_keep fun b o e => ?_, os, bare⟩
      cases z : H b with
      | none => exact un.keep b o e z (List.not_mem_nil (a := b)) (List.not_mem_nil (a := b))
      | some u =>
        obtain ⟨rfl, ob, rfl⟩ := only b u z
        have e1 := (ok b _ z).1
        have e2 := (ok1 b _ (un.frzs b ob _ z)).1
        rw [e] at e1
        cases e1
        exact e2
theorem gn_walk {l : PySem.W.OpenLaw} {n k : Nat} {q : Program} {loose : List Str} {XP : (Str → Option Value) → Heap → Prop} {YP : World → Heap → Prop} {d : DefRec} {K : Params → PySem.W.Frag} {CX : World → CXT} {sp : PySem.W.Frag → Sp} {x : Str}
    (hn : l.most = some n) (hn2 : n ≤ sizeLine) (hdf : d.params.defaults = []) (hr : Room k callerA) (hY : ∀ (w : World) (h : Heap), YP w h → (K w.params).In h)
    (F : ∀ (w : World) (mg : Str → Option Value) (fa : Addr) (h : Heap), (K w.params).In h → h.Ns mainGlobals mg → mg d.name = some (.ref fa) →
      ∃ fd : FuncData, (∀ (s : Shared) (u : Value), BindsTo s fd ⟨[u], []⟩ [(x, u)]) ∧ ∀ base : Heap, (K w.params).In base → base.Ns mainGlobals mg → GnOk l.prog w (K w.params) mg base (CX w) k fa fd [x] (sp (K w.params)))
    (hsp : ∀ (w : World) (H : Hp) (a : Addr) (ns : List Int), ns.length ≤ n → SqL (K w.params) H a (ns.map V.int) → sp (K w.params) [.ref a] H (fun v _ => v = .bl true) fun _ _ _ => False)
    (hx : ∀ (w : World) (H : Hp) (s : Shared) (e : Value) (s' : Shared), CX w [] H s (fun _ _ _ => False) e s' → False) : PySem.W.WalkO q loose XP YP l.row.toRowW d [] (fun f vs => PySem.call f vs) := by
  refine Att.attach_call hn hdf ?_
  intro w s₀ t mg mb fa o pm cd doc a vs ns G Y _ _ _ hmg hobj hints hlen hg
  obtain ⟨fd, hb, hF⟩ := F w mg fa _ (hY w _ Y) G.T.g hmg
  exact gn_law (hY w _ Y) G.T.g G.T.b G.T.builtins G.T.nolimit hg hobj hints (Nat.le_trans hlen hn2) hr hF hb (fun H hS => hsp w H a ns hlen hS) fun H e s' => hx w H t e s'
end Cl

/-! ### Cl0: words used by all laws: built-ins, calls of own defs by one bundle, heaps that grow, drawing from a pot -/
namespace Cl
open PySem L2

/-- the built-ins that the top leaves as they are -/
structure Bt (mg : Str → Option Value) : Prop where
  len : mg "len" = none
  max : mg "max" = none
  min : mg "min" = none
  abs : mg "abs" = none
  divmod : mg "divmod" = none
  range : mg "range" = none
  ord : mg "ord" = none
  isinstance : mg "isinstance" = none
  int : mg "int" = none
  str : mg "str" = none
  bool : mg "bool" = none
  list : mg "list" = none
  tuple : mg "tuple" = none
  dict : mg "dict" = none
  set : mg "set" = none
  all : mg "all" = none
  any : mg "any" = none
  sorted : mg "sorted" = none
  enumerate : mg "enumerate" = none
  zip : mg "zip" = none
  repr : mg "repr" = none
  sum : mg "sum" = none

theorem vget {xs : List V} {us : List Value} (h : Vals xs us) (i : Nat) : RelV (xs.getD i V.non) (us.getD i Value.none) := by
  rw [List.getD_eq_getElem?_getD, List.getD_eq_getElem?_getD]
  cases e : xs[i]? with
  | some x =>
    obtain ⟨u, h1, h2⟩ := h.get e
    rw [h1]
    exact h2
  | none =>
    rw [h.none_of e]
    exact (rfl : Value.none = Value.none)
/-! ### the attributes of an instance, written out -/
theorem lk0 {f : Str} {v : V} {r : List (Str × V)} : ((f, v) :: r).lookup f = some v := by
  rw [List.lookup_cons, beq_self_eq_true]
theorem lkS {f g : Str} {u : V} {r : List (Str × V)} {o : Option V} (h : decide (g = f) = false) (k : r.lookup g = o) : ((f, u) :: r).lookup g = o := by
  rw [List.lookup_cons, show (g == f) = false from h]
  exact k
theorem lk_no {m : Str} : ∀ {r : List (Str × V)}, (r.map (·.1)).all (fun f => !decide (m = f)) = true → r.lookup m = none
  | [], _ => rfl
  | (f, v) :: r, h => by
    rw [List.map_cons, List.all_cons, Bool.and_eq_true, Bool.not_eq_true'] at h
    exact lkS h.1 (lk_no h.2)
theorem put0 {f : Str} {u v : V} {r : List (Str × V)} : putF f v ((f, u) :: r) = (f, v) :: r := by
  show (if f = f then _ else _) = _
  rw [if_pos rfl]
theorem putS {f g : Str} {u v : V} {r q : List (Str × V)} (h : decide (f = g) = false) (k : putF g v r = q) : putF g v ((f, u) :: r) = (f, u) :: q := by
  show (if f = g then _ else _) = _
  rw [if_neg (of_decide_eq_false h), k]
theorem fewS {f : Str} {v : V} {n : Nat} : ∀ {r : List (Str × V)}, r.length < n → (putF f v r).length < n + 1
  | [], h => Nat.succ_lt_succ h
  | (g, u) :: r, h => by
    show (if g = f then (g, v) :: r else (g, u) :: putF f v r).length < n + 1
    split
    · exact Nat.lt_succ_of_lt h
    · rw [List.length_cons] at h ⊢
      exact Nat.succ_lt_succ (by
        cases n with
        | zero => cases h
        | succ n => exact fewS (Nat.lt_of_succ_lt_succ h))
/-- an own class as the top has made it -/
structure CF (K : PySem.W.Frag) (mg : Str → Option Value) (x : Str) (C : Addr) (fs : List Str) : Prop where
  cl : Cls K C
  mgC : mg x = some (.ref C)
  no : ∀ f ∈ fs, NoAttr K C f
  ic : PySem.W.findIn K (.ref C) "__class__" = some (some (.builtin "object.__class__"))
  ig : PySem.W.specialIn K (.builtin "object.__class__") "__get__" = some (some (.builtin "getset_descriptor.__get__"))
  it : PySem.W.takesIn K (.builtin "object.__class__") = some true
  im : PySem.W.mroIn K C (.type "object") = some true
theorem CF.ty {K : PySem.W.Frag} {mg : Str → Option Value} {x : Str} {C a dx : Addr} {fs : List Str} {gs : List (Str × V)} {H : Hp} (T : CF K mg x C fs) (h : H a = some (.ins C dx gs)) : TyX K H (.ref a) (.ref C) := .base (.ins h T.cl T.ic T.ig T.it T.im)
theorem kit_self {K : PySem.W.Frag} (C : Addr) : PySem.W.kitOne K (.ref C) (.ref C) = some true := by
  unfold PySem.W.kitOne
  rw [if_pos (by simp)]
theorem all_cons {α : Type} {P : α → Prop} {a : α} {l : List α} (h : P a) (r : ∀ x ∈ l, P x) : ∀ x ∈ a :: l, P x := fun x hx => by
  rcases List.mem_cons.mp hx with rfl | hx
  · exact h
  · exact r x hx

/-- all but the object at p stays -/
def SameBut (p : Addr) (H H' : Hp) : Prop := ∀ b o, H b = some o → b ≠ p → H' b = some o
theorem SameBut.of {p : Addr} {H H' : Hp} (h : Same H H') : SameBut p H H' := fun b o e _ => h b o e
theorem Same.new {H : Hp} {p : Addr} {o : HO} (h : H p = none) : Same H (upd H p o) := fun b u e => by
  rw [upd_ne (ne_of_none e h)]; exact e
theorem SameBut.upd {p : Addr} {H H' : Hp} {o : HO} (h : SameBut p H H') : SameBut p H (L2.upd H' p o) := fun b u e n => by
  rw [upd_ne n]; exact h b u e n
theorem SameBut.refl (p : Addr) (H : Hp) : SameBut p H H := fun _ _ e _ => e
theorem SameBut.trans {p : Addr} {H H1 H2 : Hp} (a : SameBut p H H1) (b : SameBut p H1 H2) : SameBut p H H2 := fun c o e n => b c o (a c o e n) n
theorem SameBut.same {p : Addr} {H H1 H2 : Hp} (a : SameBut p H H1) (b : Same H1 H2) : SameBut p H H2 := fun c o e n => b c o (a c o e n)
theorem SameBut.at {p : Addr} {H H' : Hp} (a : SameBut p H H') {b : Addr} {o : HO} (e : H b = some o) (n : b ≠ p) : H' b = some o := a b o e n
theorem SameBut.free {p : Addr} {H H' : Hp} (a : SameBut p H H') {q : Addr} (h : H' q = none) (n : q ≠ p) : H q = none := by
  cases e : H q with
  | none => rfl
  | some o => rw [a q o e n] at h; cases h
/-- q is new behind H: what then changes it, changes nothing of H -/
theorem SameBut.newer {p q : Addr} {H H1 : Hp} {o : HO} (a : SameBut p H H1) (h : H q = none) : SameBut p H (L2.upd H1 q o) := fun c u e n => by
  rw [upd_ne (ne_of_none e h)]; exact a c u e n
theorem Same.newer {q : Addr} {H H1 : Hp} {o : HO} (a : Same H H1) (h : H q = none) : Same H (L2.upd H1 q o) := fun c u e => by
  rw [upd_ne (ne_of_none e h)]; exact a c u e

/-! ### a list, a tuple, read -/
theorem SameBut.seq {K : PySem.W.Frag} {p : Addr} {H H' : Hp} {a : Addr} {xs : List V} (e : SameBut p H H') (h : SqL K H a xs) (n : a ≠ p) : SqL K H' a xs := by
  rcases h with (h | ⟨o, h⟩) | h
  · exact .inl (.inl (e _ _ h n))
  · exact .inl (.inr ⟨o, e _ _ h n⟩)
  · exact .inr h
/-- p is newer than H -/
theorem Same.but {p : Addr} {H H1 H2 : Hp} (s : Same H H1) (b : SameBut p H1 H2) (n : H p = none) : Same H H2 := fun c o e => b c o (s c o e) (ne_of_none e n)

theorem iteF' {b : Bool} {A B : Prop} (e : b = false) (h : B) : if b = true then A else B := by
  rw [e]
  exact iteF h
theorem iteT' {b : Bool} {A B : Prop} (e : b = true) (h : A) : if b = true then A else B := by
  rw [e]
  exact iteT h
/-! ### rules over a written part that is named -/
section
variable {X : Cx}
theorem ix_listK (K : PySem.W.Frag)  (hK : X.K = K := by rfl) : IxR X (rIxL K) := by subst hK; exact ix_list
theorem ix_tupK (K : PySem.W.Frag)  (hK : X.K = K := by rfl) : IxR X (rIxT K) := by subst hK; exact ix_tup
theorem ix_seqK (K : PySem.W.Frag)  (hK : X.K = K := by rfl) : IxR X (rIx K) := by subst hK; exact ix_seq
theorem ix_kdictK (K : PySem.W.Frag) (w : World) (hw : X.w = w := by rfl) (hK : X.K = K := by rfl) : IxR X (rIxD K w) := by subst hK; subst hw; exact ix_kdict
theorem sl_listK (K : PySem.W.Frag)  (hK : X.K = K := by rfl) : SlR X (rSlL K) := by subst hK; exact sl_list
theorem sl_tupAK (K : PySem.W.Frag)  (hK : X.K = K := by rfl) : SlR X (rSlA K) := by subst hK; exact sl_tupA
theorem op_in_seqK (K : PySem.W.Frag)  (hK : X.K = K := by rfl) : OpR X (compareOp .In) (rIn K false) := by subst hK; exact op_in_seq
theorem op_notIn_seqK (K : PySem.W.Frag)  (hK : X.K = K := by rfl) : OpR X (compareOp .NotIn) (rIn K true) := by subst hK; exact op_notIn_seq
theorem op_eqDK (K : PySem.W.Frag) (hu : X.A.units + 64 < cLine) (hK : X.K = K := by rfl) : OpR X (compareOp .Eq) (rEqD K) := by subst hK; exact op_eqD hu
theorem op_neDK (K : PySem.W.Frag) (hu : X.A.units + 64 < cLine) (hK : X.K = K := by rfl) : OpR X (compareOp .NotEq) (rNeD K) := by subst hK; exact op_neD hu
theorem op_catTK (K : PySem.W.Frag)  (hK : X.K = K := by rfl) : OpR X (binaryOp .Add) (rCatT K) := by subst hK; exact op_catT
def rLen (K : PySem.W.Frag) : List V → Hp → VK → Prop := fun xs H Q => ∃ x n, xs = [x] ∧ LenV K x H n ∧ Q (.int n) H
theorem call_lenK (K : PySem.W.Frag)  (hK : X.K = K := by rfl) : CallR X (.builtin "len") (rLen K) := by subst hK; exact call_len
theorem call_isiK (K : PySem.W.Frag)  (hK : X.K = K := by rfl) : CallR X (.builtin "isinstance") (rIsi K) := by subst hK; exact call_isi
theorem call_isiTK (K : PySem.W.Frag)  (hK : X.K = K := by rfl) : CallR X (.builtin "isinstance") (rIsiT K) := by subst hK; exact call_isiT
def rListOf (K : PySem.W.Frag) : List V → Hp → VK → Prop := fun xs H Q => ∃ p ys, xs = [.ref p] ∧ (SqL K H p ys ∨ SqT K H p ys) ∧ ∀ l, H l = none → Q (.ref l) (upd H l (.lst ys))
theorem call_list_ofK (K : PySem.W.Frag)  (hK : X.K = K := by rfl) : CallR X (.type "list") (rListOf K) := by subst hK; exact call_list_of
def rTupleOf (K : PySem.W.Frag) : List V → Hp → VK → Prop := fun xs H Q => ∃ p ys, xs = [.ref p] ∧ ((SqL K H p ys ∧ ∀ l, H l = none → Q (.ref l) (upd H l (.tup ys))) ∨ (SqT K H p ys ∧ Q (.ref p) H))
theorem call_tuple_ofK (K : PySem.W.Frag)  (hK : X.K = K := by rfl) : CallR X (.type "tuple") (rTupleOf K) := by subst hK; exact call_tuple_of
theorem cr_allK (K : PySem.W.Frag) (hc : X.calm = true) (hK : X.K = K := by rfl) : CallR X (.builtin "all") (rAll K) := by subst hK; exact cr_all hc
theorem cr_anyK (K : PySem.W.Frag) (hc : X.calm = true) (hK : X.K = K := by rfl) : CallR X (.builtin "any") (rAny K) := by subst hK; exact cr_any hc
theorem cr_sumK (K : PySem.W.Frag) (hc : X.calm = true) (hK : X.K = K := by rfl) : CallR X (.builtin "sum") (rSum K) := by subst hK; exact cr_sum hc
theorem cr_maxK (K : PySem.W.Frag) (hc : X.calm = true) (hK : X.K = K := by rfl) : CallR X (.builtin "max") (rMax K) := by subst hK; exact cr_max hc
theorem cr_minK (K : PySem.W.Frag) (hc : X.calm = true) (hK : X.K = K := by rfl) : CallR X (.builtin "min") (rMin K) := by subst hK; exact cr_min hc
theorem cr_sortedSK (K : PySem.W.Frag)  (hK : X.K = K := by rfl) : CallR X (.builtin "sorted") (rSortedS K) := by subst hK; exact cr_sortedS
theorem cr_sortedIK (K : PySem.W.Frag)  (hK : X.K = K := by rfl) : CallR X (.builtin "sorted") (rSortedI K) := by subst hK; exact cr_sortedI
theorem mt_indexK (K : PySem.W.Frag)  (hK : X.K = K := by rfl) : MtR X "list.index" (rIndex K) := by subst hK; exact mt_index
theorem pi_listK (K : PySem.W.Frag) {tg l : Expr} {tl : TE} (hl : PE X l tl) (hK : X.K = K := by rfl) : PI X tg l (iList K tl) := by subst hK; exact pi_list hl
theorem pi_tupK (K : PySem.W.Frag) {tg l : Expr} {tl : TE} (hl : PE X l tl) (hK : X.K = K := by rfl) : PI X tg l (iTup K tl) := by subst hK; exact pi_tup hl
variable {o e : Expr} {es : List Expr} {to : TE} {t : TA} {name : Str} {apos cpos : Pos} {T id : String} {r : V → List V → Hp → VK → Prop}
theorem pe_bmK (K : PySem.W.Frag) (pa : PlainAttrs T) (slot : Slot T name id) (hty : typeOf (.builtin id) = pure (.type "method_descriptor")) (hm : MtR X id r) (ho : PE X o to) (ha : PA X (e :: es) t)
    (hbase : attributeBase o name X.env (eval o X.env) = eval o X.env := by rfl)
    (hfew : ((backTo cpos (starEach (e :: es) X.env)).all (fun x => !x.1) && (backToKw cpos (keywordEach [] X.env)).all (fun x => x.1.isSome)
      && decide ((e :: es).length + ([] : List Keyword).length + (if ([] : List Keyword).isEmpty then 0 else 1) < 30)) = true := by rfl)
    (hline : (apos.endLine == cpos.line) = true := by rfl) (hs : starEach (e :: es) X.env = (false, eval e X.env) :: starEach es X.env := by rfl) (hplain : (backTo cpos (starEach es X.env)).any (·.1) = false := by rfl) (hK : X.K = K := by rfl) :
    PE X (.Call (.Attribute o name apos) (e :: es) [] cpos) (tBM K T r to t) := by subst hK; exact pe_bm pa slot hty hm ho ha hbase hfew hline hs hplain
theorem pe_bm0K (K : PySem.W.Frag) (pa : PlainAttrs T) (slot : Slot T name id) (hty : typeOf (.builtin id) = pure (.type "method_descriptor")) (hm : MtR X id r) (ho : PE X o to)
    (hbase : attributeBase o name X.env (eval o X.env) = eval o X.env := by rfl) (hline : (apos.endLine == cpos.line) = true := by rfl) (hK : X.K = K := by rfl) :
    PE X (.Call (.Attribute o name apos) [] [] cpos) (tBM0 K T r to) := by subst hK; exact pe_bm0 pa slot hty hm ho hbase hline
end
theorem rel_s (x : Str) (t : Tok) : RelV (.str x) (.str x t) := ⟨t, rfl⟩
theorem rel_i (x : Int) (t : Tok) : RelV (.int x) (.int x t) := ⟨t, rfl⟩
theorem rel_r (a : Addr) : RelV (.ref a) (.ref a) := rfl

/-! ### isinstance -/
theorem kSS {K : PySem.W.Frag} : PySem.W.kitOne K (.type "str") (.type "str") = some true := kit_ty (by decide +kernel)
/-! ### loops -/
theorem for_str {z : Str} {g : TG} {tb : TS} {D : Ends} {σ : St} {H : Hp} (Pv : Nat → St → Hp → Prop) (h0 : Pv 0 σ H)
    (hs : ∀ i c σ H, z.cps.toList[i]? = some c → Pv i σ H → g (.str ⟨#[c]⟩) σ H fun σ2 H2 => tb { D with nx := Pv (i + 1), ct := Pv (i + 1), bk := D.nx } σ2 H2) (hd : ∀ σ H, Pv z.cps.size σ H → D.nx σ H) :
    ∃ W : Nat → Nat → St → Hp → Prop, (∃ m, W 0 m σ H) ∧ ∀ i m σ H, W i m σ H →
      ((Its z).stop i H ∧ D.nx σ H) ∨ ((Its z).go i H ∧ ∃ N : St → Hp → Prop, (∀ σ' H', N σ' H' → ∃ m', m' < m ∧ W (i + 1) m' σ' H') ∧ ∀ x H', (Its z).yld i H x H' → g x σ H' fun σ2 H2 => tb { D with nx := N, ct := N, bk := D.nx } σ2 H2) := by
  refine ⟨fun i m σ H => m = z.cps.size - i ∧ i ≤ z.cps.size ∧ Pv i σ H, ⟨z.cps.size, by simp, Nat.zero_le _, h0⟩, ?_⟩
  rintro i m σ H ⟨rfl, hi, p⟩
  by_cases hlt : i < z.cps.size
  · refine .inr ⟨hlt, Pv (i + 1), fun σ' H' p' => ⟨z.cps.size - (i + 1), by omega, rfl, hlt, p'⟩, fun x H' y => ?_⟩
    obtain ⟨rfl, c, hc, rfl⟩ := y
    exact hs i c σ H' (by rw [Array.getElem?_toList]; exact hc) p
  · have : i = z.cps.size := by omega
    subst this
    exact .inl ⟨Nat.le_refl _, hd σ H p⟩

/-! ### drawing -/
def potA (c : Int) : Int := if c - 10 ^ 18 > 0 then c - 10 ^ 18 else 0
def potB (c : Int) : Int := ((if c < 0 then -c else c) % 2147483563 + 1) ^ 2 % 2147483549 + 17
def tkD (a b m : Int) : Int := if 0 < a then a % m else ((b * 48271 + 12347) % 2147483647) * ((b * 48271 + 12347) % 2147483647) % 2147483579 / 13 % m
def tkA (a b m : Int) : Int := if 0 < a then a / m else a
def tkB (a b m : Int) : Int := if 0 < a then b else (b * 48271 + 12347) % 2147483647
theorem tkD_nn {a b m : Int} (h : 0 < m) : 0 ≤ tkD a b m := by
  unfold tkD
  split <;> exact Int.emod_nonneg _ (by omega)
theorem tkD_lt {a b m : Int} (h : 0 < m) : tkD a b m < m := by
  unfold tkD
  split <;> exact Int.emod_lt_of_pos _ h
def PotOk (b : Int) : Prop := 0 ≤ b ∧ b < 4294967296
theorem tkB_ok {a b m : Int} (h : PotOk b) : PotOk (tkB a b m) := by
  unfold tkB PotOk at *
  split <;> omega
theorem potB_ok (c : Int) : PotOk (potB c) := by
  unfold potB PotOk
  omega
/-- a pot stands at p -/
def Pot (H : Hp) (p : Addr) (a b : Int) : Prop := H p = some (.lst [.int a, .int b]) ∧ PotOk b
def sp_l_pot : Sp := fun vs H Q _ => ∃ c : Int, vs = [.int c] ∧ ∀ p H', Same H H' → H p = none → Pot H' p (potA c) (potB c) → Q (.ref p) H'
def sp_l_take : Sp := fun vs H Q _ => ∃ (p : Addr) (a b m : Int), vs = [.ref p, .int m] ∧ Pot H p a b ∧ 0 < m ∧ m.natAbs.log2 < 9000 ∧
  ∀ H', SameBut p H H' → Pot H' p (tkA a b m) (tkB a b m) → Q (.int (tkD a b m)) H'
theorem atI_mem {α : Type} {xs : List α} {i : Int} (h0 : 0 ≤ i) (h1 : i < (xs.length : Int)) : ∃ v, atI xs i = some v ∧ v ∈ xs := by
  obtain ⟨j, rfl⟩ : ∃ j : Nat, i = (j : Int) := ⟨i.toNat, by omega⟩
  have hj : j < xs.length := by omega
  exact ⟨xs[j], atI_nat (by simp [hj]), List.getElem_mem hj⟩
theorem sz_of {n : Nat} (h : n ≤ 100000) : n ≤ sizeLine := Nat.le_trans h (by decide)
theorem sz_lt {n : Nat} (h : n < 100000) : n < sizeLine := Nat.lt_of_lt_of_le h (by decide)
theorem sum_ones {ys : List Str} (h : ∀ y ∈ ys, y.length = 1) : (ys.map (·.length)).sum = ys.length := by
  induction ys with
  | nil => rfl
  | cons y r ih =>
    rw [List.map_cons, List.sum_cons, ih fun z hz => h z (List.mem_cons_of_mem _ hz), h y List.mem_cons_self, List.length_cons]
    omega
theorem len_append (a b : Str) : (a ++ b).length = a.length + b.length := by
  show (a.cps ++ b.cps).size = _
  rw [Array.size_append]
  rfl
theorem len_toList (a : Str) : a.cps.toList.length = a.length := by
  rw [Array.length_toList]
  rfl
theorem Pot.ne {H : Hp} {p q : Addr} {a b : Int} (h : Pot H p a b) (n : H q = none) : q ≠ p := fun e => by
  subst e
  rw [h.1] at n
  cases n
theorem Pot.new {H : Hp} {p q : Addr} {a b : Int} {o : HO} (h : Pot H p a b) (n : H q = none) : Pot (L2.upd H q o) p a b := ⟨by rw [upd_ne (Ne.symm (h.ne n))]; exact h.1, h.2⟩
theorem Pot.other {H : Hp} {p q : Addr} {a b : Int} {o : HO} (h : Pot H p a b) (n : q ≠ p) : Pot (L2.upd H q o) p a b := ⟨by rw [upd_ne (Ne.symm n)]; exact h.1, h.2⟩
theorem SameBut.new {p q : Addr} {H H' : Hp} {o : HO} (h : SameBut p H H') (n : H' q = none) : SameBut p H (L2.upd H' q o) := h.same (Same.new n)
/-- a draw below m, small -/
theorem draw3 {m : Int} (h0 : 0 < m) (h : m < 2 ^ 60) : 0 < m ∧ m.natAbs.log2 < 9000 := ⟨h0, Nat.lt_of_lt_of_le (PySem.Flt.log2_lt_of (k := 60) (by decide) (by omega)) (by decide)⟩
/-- a cell of the script, or 0: some int -/
def sp_l_at (K : PySem.W.Frag) : Sp := fun vs H Q _ => ∃ (a : Addr) (ns : List Int) (i : Nat), vs = [.ref a, .int i] ∧ SqL K H a (ns.map V.int) ∧ ∀ c : Int, Q (.int c) H
/-- the law's own promise -/
def sp_law (K : PySem.W.Frag) : Sp := fun vs H Q _ => ∃ (a : Addr) (ns : List Int), vs = [.ref a] ∧ SqL K H a (ns.map V.int) ∧ ns.length ≤ 63 ∧ ∀ H', Q (.bl true) H'
/-- a draw, whatever comes -/
def sp_l_tk : Sp := fun vs H Q _ => ∃ (p : Addr) (a b m : Int), vs = [.ref p, .int m] ∧ Pot H p a b ∧ 0 < m ∧ m.natAbs.log2 < 9000 ∧
  ∀ (d a' b' : Int) (H' : Hp), SameBut p H H' → Pot H' p a' b' → 0 ≤ d → d < m → Q (.int d) H'
theorem take_any : ∀ vs H Q E, sp_l_tk vs H Q E → sp_l_take vs H Q E := by
  rintro vs H Q E ⟨p, a, b, m, rfl, hp, h0, h1, k⟩
  exact ⟨p, a, b, m, rfl, hp, h0, h1, fun H' s' p' => k _ _ _ H' s' p' (tkD_nn h0) (tkD_lt h0)⟩
theorem log2_small {m : Int} (h0 : 0 < m) (h : m < 2 ^ 60) : m.natAbs.log2 < 9000 :=
  Nat.lt_of_lt_of_le (PySem.Flt.log2_lt_of (k := 60) (by decide) (by omega)) (by decide)
end Cl

/-! ### ClHex: numbers in base sixteen, sums of texts -/
namespace Cl
open PySem L2
def hd (k : Nat) : Nat := if k < 10 then 48 + k else 87 + k
def hxR : Nat → Nat → List Nat → List Nat
  | 0, _, f => f
  | k + 1, r, f => if r = 0 then f else hxR k (r / 16) (hd (r % 16) :: f)
def hexL (n : Nat) : List Nat := hxR n (n / 16) [hd (n % 16)]
def sOf (l : List Nat) : Str := ⟨l.toArray⟩
def hexS (n : Nat) : Str := sOf (hexL n)
theorem hxR_fuel : ∀ (k r : Nat) (f : List Nat), r ≤ k → ∀ j, r ≤ j → hxR k r f = hxR j r f
  | 0, r, f, h, j, hj => by
    have : r = 0 := by omega
    subst this
    cases j with
    | zero => rfl
    | succ j => rfl
  | k + 1, r, f, h, j, hj => by
    cases j with
    | zero =>
      have : r = 0 := by omega
      subst this
      rfl
    | succ j =>
      show (if r = 0 then f else hxR k (r / 16) (hd (r % 16) :: f)) = if r = 0 then f else hxR j (r / 16) (hd (r % 16) :: f)
      split
      · rfl
      · exact hxR_fuel k (r / 16) _ (by omega) j (by omega)
theorem hxR_step {k r : Nat} (f : List Nat) (h : r ≤ k) (h0 : r ≠ 0) : hxR k r f = hxR k (r / 16) (hd (r % 16) :: f) := by
  cases k with
  | zero => omega
  | succ k =>
    show (if r = 0 then f else hxR k (r / 16) (hd (r % 16) :: f)) = _
    rw [if_neg h0]
    exact hxR_fuel _ _ _ (by omega) _ (by omega)
theorem hxR_zero (k : Nat) (f : List Nat) : hxR k 0 f = f := by
  cases k <;> rfl
def figs : Str := "0123456789abcdef"
theorem figs_at {k : Nat} (h : k < 16) : atI figs.cps.toList ((k : Nat) : Int) = some (hd k) := by
  have : ∀ k : Fin 16, atI figs.cps.toList ((k.val : Nat) : Int) = some (hd k.val) := by decide +kernel
  exact this ⟨k, h⟩
theorem figs_len : figs.length ≤ sizeLine := by decide +kernel
theorem sOf_app (a b : List Nat) : sOf a ++ sOf b = sOf (a ++ b) := by
  show (⟨a.toArray ++ b.toArray⟩ : Str) = ⟨(a ++ b).toArray⟩
  rw [List.append_toArray]
theorem sOf_len (l : List Nat) : (sOf l).length = l.length := by
  show l.toArray.size = _
  simp
theorem emod_nat (m k : Nat) : ((m : Int) % (k : Int)) = ((m % k : Nat) : Int) := by omega
theorem ediv_nat (m k : Nat) : ((m : Int) / (k : Int)) = ((m / k : Nat) : Int) := by omega
def sp_hex : Sp := fun vs H Q _ => ∃ n : Nat, vs = [.int n] ∧ n < 2 ^ 60 ∧ Q (.str (hexS n)) H
theorem hex_lt {i n j : Nat} (h : n < 2 ^ 60) (hj : j = n / 16 ^ i) (h0 : 0 < j) : i < 15 := by
  refine Nat.lt_of_not_le fun q => ?_
  have h1 : (16:Nat) ^ 15 ≤ 16 ^ i := Nat.pow_le_pow_right (by decide) q
  have h2 : (16:Nat) ^ 15 = 2 ^ 60 := by decide
  have h3 : n / 16 ^ i = 0 := Nat.div_eq_of_lt (by omega)
  omega
theorem hex_le {i n j : Nat} (hj : j = n / 16 ^ i) : j ≤ n := by
  rw [hj]
  exact Nat.div_le_self _ _
theorem str17 {l : List Nat} (h : l.length ≤ 100) : (sOf l).length ≤ sizeLine := by
  rw [sOf_len]
  exact Nat.le_trans h (by decide)

/-- the two numbers of a text's sum -/
def smA : List Nat → Nat → Nat
  | [], a => a
  | c :: r, a => smA r ((a + c) % 251)
def smB : List Nat → Nat → Nat → Nat
  | [], _, b => b
  | c :: r, a, b => smB r ((a + c) % 251) ((b + (a + c) % 251) % 241)
def smA' (l : List Nat) (n : Nat) : Nat := smA (l.take n) 0
def smB' (l : List Nat) (n : Nat) : Nat := smB (l.take n) 0 0
theorem smA_snoc : ∀ (l : List Nat) (c a : Nat), smA (l ++ [c]) a = (smA l a + c) % 251
  | [], _, _ => rfl
  | _ :: r, c, a => smA_snoc r c _
theorem smB_snoc : ∀ (l : List Nat) (c a b : Nat), smB (l ++ [c]) a b = (smB l a b + (smA l a + c) % 251) % 241
  | [], _, _, _ => rfl
  | _ :: r, c, a, b => smB_snoc r c _ _
theorem take_snoc {α : Type} {l : List α} {i : Nat} {c : α} (h : l[i]? = some c) : l.take (i + 1) = l.take i ++ [c] := by
  rw [List.take_add_one, h]
  rfl
theorem smA_lt : ∀ (l : List Nat) (a : Nat), a < 251 → smA l a < 251
  | [], _, h => h
  | _ :: r, _, _ => smA_lt r _ (Nat.mod_lt _ (by decide))
theorem smB_lt : ∀ (l : List Nat) (a b : Nat), b < 241 → smB l a b < 241
  | [], _, _, h => h
  | _ :: r, _, _, _ => smB_lt r _ _ (Nat.mod_lt _ (by decide))
def two (n : Nat) : Str := sOf [hd (n / 16), hd (n % 16)]
theorem two_zfill {n : Nat} (h : n < 256) : Txt.zfill (hexS n) 2 = two n := by
  have : ∀ n : Fin 256, Txt.zfill (hexS n.val) 2 = two n.val := by decide +kernel
  exact this ⟨n, h⟩
theorem two_cut {n : Nat} (h : n < 256) : cutS (hexS (256 + n)) (some 1) none = two n := by
  have : ∀ n : Fin 256, cutS (hexS (256 + n.val)) (some 1) none = two n.val := by decide +kernel
  exact this ⟨n, h⟩
theorem hex3 {n : Nat} (h : n < 256) : (hexS (256 + n)).length ≤ sizeLine := by
  have : ∀ n : Fin 256, (hexS (256 + n.val)).length = 3 := by decide +kernel
  exact Nat.le_trans (Nat.le_of_eq (this ⟨n, h⟩)) (by decide)
def sumS (z : Str) : Str := two (smA z.cps.toList 0) ++ two (smB z.cps.toList 0 0)
def sp_sum : Sp := fun vs H Q _ => ∃ z : Str, vs = [.str z] ∧ Q (.str (sumS z)) H
end Cl

/-! ### ClD: data made of tuples: how they stand, stay, are cut, compared and shown -/
namespace Cl
open PySem L2

/-- tuples, and what is read only, stay -/
structure TS (H H' : Hp) : Prop where
  tup : ∀ a xs, H a = some (.tup xs) → H' a = some (.tup xs)
  frz : ∀ a o u, H a = some (.frz o u) → H' a = some (.frz o u)
theorem TS.refl (H : Hp) : TS H H := ⟨fun _ _ h => h, fun _ _ _ h => h⟩
theorem TS.trans {H H1 H2 : Hp} (a : TS H H1) (b : TS H1 H2) : TS H H2 := ⟨fun x y h => b.tup x y (a.tup x y h), fun x y z h => b.frz x y z (a.frz x y z h)⟩
theorem TS.of {H H' : Hp} (s : Same H H') : TS H H' := ⟨fun a _ h => s a _ h, fun a _ _ h => s a _ h⟩
theorem TS.new {H : Hp} {p : Addr} {o : HO} (h : H p = none) : TS H (upd H p o) := TS.of (Same.new h)
theorem TS.lst {H : Hp} {p : Addr} {xs : List V} {o : HO} (h : H p = some (.lst xs)) : TS H (upd H p o) := by
  refine ⟨fun a ys e => ?_, fun a u v e => ?_⟩
  all_goals
    have n : a ≠ p := fun q => by
      subst q
      rw [h] at e
      cases e
    rw [upd_ne n]
    exact e
theorem TS.but {p : Addr} {H H' : Hp} {xs : List V} (s : SameBut p H H') (h : H p = some (.lst xs)) : TS H H' := by
  refine ⟨fun a ys e => ?_, fun a u v e => ?_⟩
  all_goals
    refine s a _ e fun q => ?_
    subst q
    rw [h] at e
    cases e
theorem TS.butI {p C dx : Addr} {H H' : Hp} {fs : List (Str × V)} (s : SameBut p H H') (h : H p = some (.ins C dx fs)) : TS H H' := by
  refine ⟨fun a ys e => ?_, fun a u v e => ?_⟩
  all_goals
    refine s a _ e fun q => ?_
    subst q
    rw [h] at e
    cases e
theorem SameBut.seqI {K : PySem.W.Frag} {p C dx a : Addr} {H H' : Hp} {fs : List (Str × V)} {xs : List V} (s : SameBut p H H') (h : H p = some (.ins C dx fs)) (q : SqL K H a xs) : SqL K H' a xs := by
  rcases q with (q | ⟨o, q⟩) | q
  · refine .inl (.inl (s _ _ q fun e => ?_))
    subst e
    rw [h] at q
    cases q
  · refine .inl (.inr ⟨o, s _ _ q fun e => ?_⟩)
    subst e
    rw [h] at q
    cases q
  · exact .inr q
theorem TS.dK {p : Addr} {H : Hp} {kvs : List (Key × V)} {o : HO} (h : H p = some (.dK kvs)) : TS H (upd H p o) := by
  refine ⟨fun a ys e => ?_, fun a u v e => ?_⟩
  all_goals
    have n : a ≠ p := fun q => by
      subst q
      rw [h] at e
      cases e
    rw [upd_ne n]
    exact e
theorem TS.pot {p : Addr} {H H' : Hp} {a b : Int} (s : SameBut p H H') (h : Pot H p a b) : TS H H' := TS.but s h.1
theorem TS.seq {K : PySem.W.Frag} {H H' : Hp} {a : Addr} {xs : List V} (e : TS H H') (h : SqT K H a xs) : SqT K H' a xs := by
  rcases h with (h | ⟨o, h⟩) | h
  · exact .inl (.inl (e.tup _ _ h))
  · exact .inl (.inr ⟨o, e.frz _ _ _ h⟩)
  · exact .inr h

mutual
/-- v stands for d in H; d has tuples alone within -/
inductive Dt (K : PySem.W.Frag) (H : Hp) : V → PyData → Prop
  | non : Dt K H .non .none
  | bl (b : Bool) : Dt K H (.bl b) (.bool b)
  | int (i : Int) : Dt K H (.int i) (.int i)
  | str (x : Str) : Dt K H (.str x) (.str x)
  | tup {a : Addr} {xs : List V} {ds : List PyData} : SqT K H a xs → DtAll K H xs ds → Dt K H (.ref a) (.tuple ds)
inductive DtAll (K : PySem.W.Frag) (H : Hp) : List V → List PyData → Prop
  | nil : DtAll K H [] []
  | cons {v : V} {vs : List V} {d : PyData} {ds : List PyData} : Dt K H v d → DtAll K H vs ds → DtAll K H (v :: vs) (d :: ds)
end
section
variable {K : PySem.W.Frag} {H H' : Hp}
mutual
theorem Dt.mono (e : TS H H') : ∀ (d : PyData) {v : V}, Dt K H v d → Dt K H' v d
  | .none, _, h => by cases h; exact .non
  | .bool b, _, h => by cases h; exact .bl b
  | .int i, _, h => by cases h; exact .int i
  | .str x, _, h => by cases h; exact .str x
  | .tuple ds, _, h => by
    cases h with
    | tup hs ha => exact .tup (e.seq hs) (DtAll.mono e ds ha)
  | .list _, _, h => by cases h
  | .dict _, _, h => by cases h
theorem DtAll.mono (e : TS H H') : ∀ (ds : List PyData) {vs : List V}, DtAll K H vs ds → DtAll K H' vs ds
  | [], _, h => by cases h; exact .nil
  | d :: ds, _, h => by
    cases h with
    | cons h1 h2 => exact .cons (Dt.mono e d h1) (DtAll.mono e ds h2)
end
mutual
theorem Dt.dp : ∀ (d : PyData) {v : V}, Dt K H v d → Dp K H v d
  | .none, _, h => by cases h; exact .non
  | .bool b, _, h => by cases h; exact .bl b
  | .int i, _, h => by cases h; exact .int i
  | .str x, _, h => by cases h; exact .str x
  | .tuple ds, _, h => by
    cases h with
    | tup hs ha => exact .tup hs (DtAll.dp ds ha)
  | .list _, _, h => by cases h
  | .dict _, _, h => by cases h
theorem DtAll.dp : ∀ (ds : List PyData) {vs : List V}, DtAll K H vs ds → DpAll K H vs ds
  | [], _, h => by cases h; exact .nil
  | d :: ds, _, h => by
    cases h with
    | cons h1 h2 => exact .cons (Dt.dp d h1) (DtAll.dp ds h2)
end
theorem Dt.m (e : TS H H') {d : PyData} {v : V} (h : Dt K H v d) : Dt K H' v d := Dt.mono e d h
theorem DtAll.m (e : TS H H') {ds : List PyData} {vs : List V} (h : DtAll K H vs ds) : DtAll K H' vs ds := DtAll.mono e ds h
theorem DtAll.length : ∀ {ds : List PyData} {vs : List V}, DtAll K H vs ds → vs.length = ds.length
  | [], _, h => by cases h; rfl
  | _ :: _, _, h => by
    cases h with
    | cons h1 h2 => rw [List.length_cons, List.length_cons, DtAll.length h2]
theorem DtAll.get : ∀ {ds : List PyData} {vs : List V} {i : Nat} {d : PyData}, DtAll K H vs ds → ds[i]? = some d → ∃ v, vs[i]? = some v ∧ Dt K H v d
  | [], _, _, _, _, e => by simp at e
  | _ :: _, _, 0, _, h, e => by
    cases h with
    | cons h1 h2 =>
      rw [List.getElem?_cons_zero] at e
      cases e
      exact ⟨_, rfl, h1⟩
  | _ :: _, _, i + 1, _, h, e => by
    cases h with
    | cons h1 h2 =>
      rw [List.getElem?_cons_succ] at e
      obtain ⟨v, q1, q2⟩ := DtAll.get h2 e
      exact ⟨v, by rw [List.getElem?_cons_succ]; exact q1, q2⟩
theorem DtAll.getV : ∀ {ds : List PyData} {vs : List V} {i : Nat} {v : V}, DtAll K H vs ds → vs[i]? = some v → ∃ d, ds[i]? = some d ∧ Dt K H v d
  | [], _, _, _, h, e => by cases h; simp at e
  | _ :: _, _, 0, _, h, e => by
    cases h with
    | cons h1 h2 =>
      rw [List.getElem?_cons_zero] at e
      cases e
      exact ⟨_, rfl, h1⟩
  | _ :: _, _, i + 1, _, h, e => by
    cases h with
    | cons h1 h2 =>
      rw [List.getElem?_cons_succ] at e
      obtain ⟨d, q1, q2⟩ := DtAll.getV h2 e
      exact ⟨d, by rw [List.getElem?_cons_succ]; exact q1, q2⟩
theorem DtAll.app : ∀ {ds es : List PyData} {vs us : List V}, DtAll K H vs ds → DtAll K H us es → DtAll K H (vs ++ us) (ds ++ es)
  | [], _, _, _, h, k => by cases h; exact k
  | _ :: _, _, _, _, h, k => by
    cases h with
    | cons h1 h2 => exact .cons h1 (DtAll.app h2 k)
theorem DtAll.take : ∀ {ds : List PyData} {vs : List V} (n : Nat), DtAll K H vs ds → DtAll K H (vs.take n) (ds.take n)
  | _, _, 0, _ => .nil
  | [], _, _ + 1, h => by cases h; exact .nil
  | _ :: _, _, n + 1, h => by
    cases h with
    | cons h1 h2 => exact .cons h1 (DtAll.take n h2)
theorem DtAll.drop : ∀ {ds : List PyData} {vs : List V} (n : Nat), DtAll K H vs ds → DtAll K H (vs.drop n) (ds.drop n)
  | _, _, 0, h => h
  | [], _, _ + 1, h => by cases h; exact .nil
  | _ :: _, _, n + 1, h => by
    cases h with
    | cons h1 h2 => exact DtAll.drop n h2
theorem DtAll.of : ∀ {ds : List PyData} {vs : List V}, vs.length = ds.length → (∀ (i : Nat) v d, vs[i]? = some v → ds[i]? = some d → Dt K H v d) → DtAll K H vs ds
  | [], [], _, _ => .nil
  | [], _ :: _, e, _ => by cases e
  | _ :: _, [], e, _ => by cases e
  | d :: ds, v :: vs, e, h => .cons (h 0 v d rfl rfl) (DtAll.of (by simpa using e) fun i w c h1 h2 => h (i + 1) w c (by simpa using h1) (by simpa using h2))
theorem DtAll.strs (ys : List Str) : DtAll K H (ys.map V.str) (ys.map PyData.str) := by
  induction ys with
  | nil => exact .nil
  | cons y r ih => exact .cons (.str y) ih
theorem DtAll.ints (ys : List Int) : DtAll K H (ys.map V.int) (ys.map PyData.int) := by
  induction ys with
  | nil => exact .nil
  | cons y r ih => exact .cons (.int y) ih
/-- a new tuple of such -/
theorem Dt.new {p : Addr} {xs : List V} {ds : List PyData} (h : DtAll K H xs ds) (hp : H p = none) : Dt K (upd H p (.tup xs)) (.ref p) (.tuple ds) := .tup (SqT.of upd_same) (h.m (TS.new hp))
theorem Dt.inv {v : V} {ds : List PyData} (h : Dt K H v (.tuple ds)) : ∃ a xs, v = .ref a ∧ SqT K H a xs ∧ DtAll K H xs ds := by
  cases h with
  | tup hs ha => exact ⟨_, _, rfl, hs, ha⟩
theorem Dt.two {v : V} {d1 d2 : PyData} (h : Dt K H v (.tuple [d1, d2])) : ∃ a v1 v2, v = .ref a ∧ SqT K H a [v1, v2] ∧ Dt K H v1 d1 ∧ Dt K H v2 d2 := by
  obtain ⟨a, xs, rfl, hs, ha⟩ := h.inv
  cases ha with
  | cons h1 ha => cases ha with
    | cons h2 ha => cases ha with
      | nil => exact ⟨_, _, _, rfl, hs, h1, h2⟩
theorem Dt.three {v : V} {d1 d2 d3 : PyData} (h : Dt K H v (.tuple [d1, d2, d3])) : ∃ a v1 v2 v3, v = .ref a ∧ SqT K H a [v1, v2, v3] ∧ Dt K H v1 d1 ∧ Dt K H v2 d2 ∧ Dt K H v3 d3 := by
  obtain ⟨a, xs, rfl, hs, ha⟩ := h.inv
  cases ha with
  | cons h1 ha => cases ha with
    | cons h2 ha => cases ha with
      | cons h3 ha => cases ha with
        | nil => exact ⟨_, _, _, _, rfl, hs, h1, h2, h3⟩
theorem Dt.strI {v : V} {x : Str} (h : Dt K H v (.str x)) : v = .str x := by cases h; rfl
theorem Dt.intI {v : V} {i : Int} (h : Dt K H v (.int i)) : v = .int i := by cases h; rfl
theorem Dt.nonI {v : V} (h : Dt K H v .none) : v = .non := by cases h; rfl

/-! ### slices -/
def cutG {α : Type} (xs : List α) (lo hi : Option Int) : List α := (xs.drop (HT.sIx xs.length 0 lo)).take (HT.sIx xs.length xs.length hi - HT.sIx xs.length 0 lo)
theorem cutG_V (xs : List V) (lo hi : Option Int) : cutG xs lo hi = cutV xs lo hi := rfl
theorem DtAll.cut {ds : List PyData} {vs : List V} (h : DtAll K H vs ds) (lo hi : Option Int) : DtAll K H (cutV vs lo hi) (cutG ds lo hi) := by
  unfold cutV cutG
  rw [h.length]
  exact (h.drop _).take _
theorem sl_dt {v : V} {ds : List PyData} {lo hi : Option Int} {Q : VK} (h : Dt K H v (.tuple ds)) (k : ∀ v' H', Same H H' → Dt K H' v' (.tuple (cutG ds lo hi)) → Q v' H') : rSlA K v lo hi H Q := by
  obtain ⟨a, xs, rfl, hs, ha⟩ := h.inv
  refine ⟨a, xs, rfl, hs, fun e => k _ H (Same.refl H) ?_, fun _ p hp => k _ _ (Same.new hp) (Dt.new (ha.cut lo hi) hp)⟩
  have : cutG ds lo hi = ds := by
    unfold cutG
    rw [← ha.length, e.1, e.2, ha.length]
    simp
  rw [this]
  exact h
theorem sIx_le {n k : Nat} (d : Nat) (h : k ≤ n) : HT.sIx n d (some (k : Int)) = k := by
  rw [HT.sIx_nat]
  omega
theorem sIx_big {n k : Nat} (d : Nat) (h : n ≤ k) : HT.sIx n d (some (k : Int)) = n := by
  rw [HT.sIx_nat]
  omega
theorem cutG_nat {α : Type} (xs : List α) (i j : Nat) : cutG xs (some (i : Int)) (some (j : Int)) = (xs.drop i).take (j - i) := by
  unfold cutG
  by_cases h1 : i ≤ xs.length
  · rw [sIx_le _ h1]
    by_cases h2 : j ≤ xs.length
    · rw [sIx_le _ h2]
    · rw [sIx_big _ (by omega), List.take_of_length_le (by simp), List.take_of_length_le (by simp; omega)]
  · rw [sIx_big _ (by omega : xs.length ≤ i), List.drop_of_length_le (by omega), List.drop_of_length_le (by omega)]
    simp
end

/-! ### ranges by fours, by sixes -/
theorem rgc4 {n : Nat} (hn : n < 1000000) : RgC 0 (n : Int) 4 ((n + 3) / 4) := by
  have e : Builtin.Range.rangeSize 0 (n : Int) 4 = (((n + 3) / 4 : Nat) : Int) := by
    unfold Builtin.Range.rangeSize
    rw [if_pos (by decide)]
    split <;> omega
  refine ⟨by decide, by decide, ?_, e⟩
  have fits : ∀ z : Int, -(2 ^ 62) ≤ z → z < 2 ^ 62 → Builtin.Range.rangeFitsLong z = true := fun z h1 h2 => by
    unfold Builtin.Range.rangeFitsLong
    rw [decide_eq_true (show -(2 ^ 63) ≤ z by omega), decide_eq_true (show z < 2 ^ 63 by omega)]
    rfl
  unfold Builtin.Range.small
  rw [e]
  repeat rw [fits _ (by omega) (by omega)]
  simp
theorem rgc6 {n : Nat} (hn : n < 1000000) : RgC 0 (n : Int) 6 ((n + 5) / 6) := by
  have e : Builtin.Range.rangeSize 0 (n : Int) 6 = (((n + 5) / 6 : Nat) : Int) := by
    unfold Builtin.Range.rangeSize
    rw [if_pos (by decide)]
    split <;> omega
  refine ⟨by decide, by decide, ?_, e⟩
  have fits : ∀ z : Int, -(2 ^ 62) ≤ z → z < 2 ^ 62 → Builtin.Range.rangeFitsLong z = true := fun z h1 h2 => by
    unfold Builtin.Range.rangeFitsLong
    rw [decide_eq_true (show -(2 ^ 63) ≤ z by omega), decide_eq_true (show z < 2 ^ 63 by omega)]
    rfl
  unfold Builtin.Range.small
  rw [e]
  repeat rw [fits _ (by omega) (by omega)]
  simp
/-! ### texts of signs -/
def chS (c : Nat) : Str := ⟨#[c]⟩
theorem join_ones0 : ∀ cs : List Nat, Str.join (Str.ofString "") (cs.map chS) = ⟨cs.toArray⟩
  | [] => by decide +kernel
  | [c] => rfl
  | c :: d :: r => by
    have ih := join_ones0 (d :: r)
    show chS c ++ Str.ofString "" ++ Str.join (Str.ofString "") (chS d :: r.map chS) = _
    rw [show Str.join (Str.ofString "") (chS d :: r.map chS) = ⟨(d :: r).toArray⟩ from ih]
    show (⟨(#[c] ++ (Str.ofString "").cps) ++ (d :: r).toArray⟩ : Str) = ⟨(c :: d :: r).toArray⟩
    rw [show (Str.ofString "").cps = #[] by decide +kernel]
    simp
theorem join_ones (cs : List Nat) : Txt.join (Str.ofString "") (cs.map chS) = ⟨cs.toArray⟩ := by
  rw [TL.join_eq]
  exact join_ones0 cs
/-! ### data compared -/
/-- what can be compared: depth at most k -/
structure Shp (k : Nat) (d : PyData) : Prop where
  lay : d.canLay0 = true
  dep : d.depth ≤ k
theorem Shp.mono {k k' : Nat} {d : PyData} (h : Shp k d) (hk : k ≤ k') : Shp k' d := ⟨h.lay, Nat.le_trans h.dep hk⟩
theorem Shp.none {k : Nat} : Shp k .none := ⟨by simp [PyData.canLay0], by simp [PyData.depth]⟩
theorem Shp.bool {k : Nat} (b : Bool) : Shp k (.bool b) := ⟨by simp [PyData.canLay0], by simp [PyData.depth]⟩
theorem Shp.int {k : Nat} (i : Int) : Shp k (.int i) := ⟨by simp [PyData.canLay0], by simp [PyData.depth]⟩
theorem Shp.str {k : Nat} {x : Str} (h : ∀ c ∈ x.cps.toList, c < 1114112) : Shp k (.str x) := by
  refine ⟨?_, by simp [PyData.depth]⟩
  simp only [PyData.canLay0]
  unfold PyData.strOk
  rw [Array.all_eq_true]
  intro i hi
  exact decide_eq_true (h _ (by simp))
theorem shpAll {k : Nat} : ∀ {ds : List PyData}, (∀ d ∈ ds, Shp k d) → PyData.canLayAll0 ds = true ∧ PyData.depthAll ds ≤ k
  | [], _ => ⟨by simp [PyData.canLayAll0], by simp [PyData.depthAll]⟩
  | d :: ds, h => by
    obtain ⟨a, b⟩ := shpAll (ds := ds) fun x hx => h x (List.mem_cons_of_mem _ hx)
    have hd := h d List.mem_cons_self
    exact ⟨by simp only [PyData.canLayAll0, hd.lay, a, Bool.and_self], by simp only [PyData.depthAll]; exact Nat.max_le.mpr ⟨hd.dep, b⟩⟩
theorem Shp.list {k : Nat} {ds : List PyData} (h : ∀ d ∈ ds, Shp k d) : Shp (k + 1) (.list ds) := by
  obtain ⟨a, b⟩ := shpAll h
  exact ⟨by simp only [PyData.canLay0]; exact a, by simp only [PyData.depth]; omega⟩
theorem Shp.tuple {k : Nat} {ds : List PyData} (h : ∀ d ∈ ds, Shp k d) : Shp (k + 1) (.tuple ds) := by
  obtain ⟨a, b⟩ := shpAll h
  exact ⟨by simp only [PyData.canLay0]; exact a, by simp only [PyData.depth]; omega⟩
theorem Shp.shaped {k : Nat} {d : PyData} (h : Shp k d) (hk : k ≤ 64) : SeqAt.shaped d = true := by
  unfold SeqAt.shaped
  rw [h.lay, decide_eq_true (Nat.le_trans h.dep hk)]
  rfl
theorem eq_same {K : PySem.W.Frag} {H : Hp} {x y : V} {d : PyData} {k : Nat} {Q : VK} (hx : Dp K H x d) (hy : Dp K H y d) (h : Shp k d) (q : Q (.bl true) H) (hk : k ≤ 64 := by decide) : rEqD K x y H Q := by
  refine ⟨d, d, hx, hy, h.shaped hk, h.shaped hk, ?_⟩
  rw [SeqAt.eqv_refl d h.lay]
  exact q
theorem ne_same {K : PySem.W.Frag} {H : Hp} {x y : V} {d : PyData} {k : Nat} {Q : VK} (hx : Dp K H x d) (hy : Dp K H y d) (h : Shp k d) (q : Q (.bl false) H) (hk : k ≤ 64 := by decide) : rNeD K x y H Q := by
  refine ⟨d, d, hx, hy, h.shaped hk, h.shaped hk, ?_⟩
  rw [SeqAt.eqv_refl d h.lay]
  exact q
theorem Dp.ofL {K : PySem.W.Frag} {H : Hp} {l : Addr} {xs : List V} {ds : List PyData} (h : H l = some (.lst xs)) (ha : DtAll K H xs ds) : Dp K H (.ref l) (.list ds) := .lst (SqL.of h) ha.dp
theorem Dp.ofLints {K : PySem.W.Frag} {H : Hp} {l : Addr} {ns : List Int} (h : H l = some (.lst (ns.map V.int))) : Dp K H (.ref l) (.list (ns.map PyData.int)) := Dp.ofL h (DtAll.ints ns)
theorem Shp.ints {k : Nat} (ns : List Int) : Shp (k + 1) (.list (ns.map PyData.int)) := Shp.list fun d hd => by
  obtain ⟨i, _, rfl⟩ := List.mem_map.mp hd
  exact Shp.int i
/-! ### repr -/
/-- what can be shown: depth at most k, at most n signs -/
structure Sz (k n : Nat) (d : PyData) : Prop where
  sh : d.showable = true
  dep : d.depth ≤ k
  len : d.shown.length ≤ n
theorem Sz.mono {k n k' n' : Nat} {d : PyData} (h : Sz k n d) (hk : k ≤ k') (hn : n ≤ n') : Sz k' n' d := ⟨h.sh, Nat.le_trans h.dep hk, Nat.le_trans h.len hn⟩
theorem Sz.none {k : Nat} : Sz k 4 .none := ⟨by simp [PyData.showable], by simp [PyData.depth], by decide +kernel⟩
theorem Sz.bool {k : Nat} (b : Bool) : Sz k 5 (.bool b) := ⟨by simp [PyData.showable], by simp [PyData.depth], by cases b <;> decide +kernel⟩
theorem ofString_len (s : String) : (Str.ofString s).length = s.length := by
  rw [Str.ofString_eq_toList]
  show (s.toList.map Char.toNat).toArray.size = _
  rw [List.size_toArray, List.length_map, String.length_toList]
theorem Sz.int {k m : Nat} {i : Int} (h0 : 0 < m) (h : i.natAbs < 2 ^ m) (hm : m < 1920) : Sz k (m + 1) (.int i) := by
  have hl := PySem.Flt.log2_lt_of h0 h
  refine ⟨by simp only [PyData.showable]; exact decide_eq_true (Nat.lt_trans hl hm), by simp [PyData.depth], ?_⟩
  simp only [PyData.shown]
  rw [ofString_len]
  exact PySem.int_text_length_le h0 hl
theorem Sz.str {k : Nat} {x : Str} (h : ∀ c ∈ x.cps.toList, c < 16 ^ 8) : Sz k (10 * x.length + 2) (.str x) :=
  ⟨by simp [PyData.showable], by simp [PyData.depth], by simp only [PyData.shown]; exact PySem.StrLaws.reprText_len x h⟩
theorem szAll {k n : Nat} : ∀ {ds : List PyData}, (∀ d ∈ ds, Sz k n d) → PyData.showableAll ds = true ∧ PyData.depthAll ds ≤ k ∧ PySem.piled (PyData.shownAll ds) ≤ (n + 2) * ds.length ∧ (PyData.shownAll ds).length = ds.length
  | [], _ => ⟨by simp [PyData.showableAll], by simp [PyData.depthAll], by simp [PyData.shownAll, PySem.piled], by simp [PyData.shownAll]⟩
  | d :: ds, h => by
    obtain ⟨a, b, c, e⟩ := szAll (ds := ds) fun x hx => h x (List.mem_cons_of_mem _ hx)
    have hd := h d List.mem_cons_self
    refine ⟨by simp only [PyData.showableAll, hd.sh, a, Bool.and_self], by simp only [PyData.depthAll]; exact Nat.max_le.mpr ⟨hd.dep, b⟩, ?_, by simp only [PyData.shownAll, List.length_cons, e]⟩
    simp only [PyData.shownAll]
    rw [PySem.piled_cons, List.length_cons, Nat.mul_succ]
    have := hd.len
    omega
theorem textFrom_le : ∀ (ts : List Str) (k : Nat) (acc : Str), (PySem.textFrom k acc ts).length ≤ acc.length + PySem.piled ts
  | [], _, acc => by
    show acc.length ≤ acc.length + _
    omega
  | t :: r, k, acc => by
    have h := textFrom_le r (k + 1) (acc ++ (if k > 0 then ", " else "" : String) ++ t)
    have e : (acc ++ (if k > 0 then ", " else "" : String) ++ t).length ≤ acc.length + 2 + t.length := by
      rw [len_append, len_append]
      have : ((if k > 0 then ", " else "" : String) : Str).length ≤ 2 := by split <;> decide +kernel
      omega
    show (PySem.textFrom (k + 1) _ r).length ≤ _
    rw [PySem.piled_cons]
    omega
theorem Sz.list {k n : Nat} {ds : List PyData} (h : ∀ d ∈ ds, Sz k n d) : Sz (k + 1) ((n + 2) * ds.length + 2) (.list ds) := by
  obtain ⟨a, b, c, e⟩ := szAll h
  refine ⟨by simp only [PyData.showable]; exact a, by simp only [PyData.depth]; omega, ?_⟩
  simp only [PyData.shown]
  unfold PySem.listText
  rw [len_append]
  have h1 := textFrom_le (PyData.shownAll ds) 0 "["
  have e1 : (("[" : String) : Str).length = 1 := by decide +kernel
  have e2 : (("]" : String) : Str).length = 1 := by decide +kernel
  omega
theorem Sz.tuple {k n : Nat} {ds : List PyData} (h : ∀ d ∈ ds, Sz k n d) : Sz (k + 1) ((n + 2) * ds.length + 3) (.tuple ds) := by
  obtain ⟨a, b, c, e⟩ := szAll h
  refine ⟨by simp only [PyData.showable]; exact a, by simp only [PyData.depth]; omega, ?_⟩
  simp only [PyData.shown]
  unfold PySem.tupleText
  rw [len_append, len_append]
  have e1 : (("(" : String) : Str).length = 1 := by decide +kernel
  have e2 : ((if (PyData.shownAll ds).length == 1 then ",)" else ")" : String) : Str).length ≤ 2 := by split <;> decide +kernel
  have h1 : (Str.join ", " (PyData.shownAll ds)).length ≤ PySem.piled (PyData.shownAll ds) := by
    cases hq : PyData.shownAll ds with
    | nil =>
      show 0 ≤ _
      omega
    | cons x r =>
      have := PySem.join_length_add (x :: r) (by simp)
      omega
  omega
section
variable {X : Cx}
def rRepr (K : PySem.W.Frag) : List V → Hp → VK → Prop := fun xs H Q => ∃ (a : Addr) (d : PyData), xs = [.ref a] ∧ Dp K H (.ref a) d ∧ Sz 60 sizeLine d ∧ Q (.str d.shown) H
theorem dp_noDict {K : PySem.W.Frag} {H : Hp} : ∀ (d : PyData) {v : V}, Dp K H v d → d.hasDict = false
  | .none, _, _ => by simp [PyData.hasDict]
  | .bool _, _, _ => by simp [PyData.hasDict]
  | .int _, _, _ => by simp [PyData.hasDict]
  | .str _, _, _ => by simp [PyData.hasDict]
  | .list ds, _, h => by
    cases h with
    | lst _ ha =>
      simp only [PyData.hasDict]
      exact go ds ha
  | .tuple ds, _, h => by
    cases h with
    | tup _ ha =>
      simp only [PyData.hasDict]
      exact go ds ha
  | .dict _, _, h => by cases h
where go : ∀ (ds : List PyData) {vs : List V}, DpAll K H vs ds → PyData.hasDictAll ds = false
  | [], _, _ => by simp [PyData.hasDictAll]
  | d :: ds, _, h => by
    cases h with
    | cons h1 h2 =>
      simp only [PyData.hasDictAll, dp_noDict d h1, go ds h2, Bool.or_self]
theorem call_repr {k : Nat} (hr : Rm k X.A) : CallR X (.builtin "repr") (rRepr X.K) := by
  intro pins s σ H xs us Q I r h
  obtain ⟨a, d, rfl, hd, sz, q⟩ := h
  obtain ⟨u, rfl, hu⟩ := vals1 r
  obtain ⟨as, hr1⟩ := Dp.reads I d _ u hd hu
  cases hu
  have hz := sz.dep
  have hun := hr.units
  exact PySem.repr_of_reads' (h₀ := s.heap) hr1 sz.sh (PyData.noDict_hsm (dp_noDict d hd)) hr.gd (by omega) (fun _ _ e => e)
    (fun h' u tk hk => ⟨.str d.shown, H, I.kept hk, ⟨_, rfl⟩, q⟩) sz.len
theorem call_reprK (K : PySem.W.Frag) {k : Nat} (hr : Rm k X.A) (hK : X.K = K := by rfl) : CallR X (.builtin "repr") (rRepr K) := by subst hK; exact call_repr hr
end
end Cl

/-! ### ClTab: tables of a disk, as an object -/
namespace Cl
open PySem L2
/-- v is an address: a tuple of two numbers -/
def AddrV (K : PySem.W.Frag) (H : Hp) (v : V) : Prop := ∃ i j : Int, Dt K H v (.tuple [.int i, .int j]) ∧ 0 ≤ i ∧ i < 10 ^ 12 ∧ 0 ≤ j ∧ j < 10 ^ 12
theorem AddrV.m {K : PySem.W.Frag} {H H' : Hp} {v : V} (t : TS H H') (h : AddrV K H v) : AddrV K H' v := by
  obtain ⟨i, j, h, r⟩ := h
  exact ⟨i, j, h.m t, r⟩
/-- a dict from numbers to addresses -/
structure Pl (K : PySem.W.Frag) (H : Hp) (kvs : List (Key × V)) : Prop where
  ks : ∃ ns : List Int, kvs.map (·.1) = ns.map Sum.inl ∧ ∀ n ∈ ns, 0 ≤ n ∧ n < 10 ^ 12
  nd : (kvs.map (·.1)).Nodup
  l0 : 0 < kvs.length
  l1 : kvs.length ≤ 24
  vs : ∀ p ∈ kvs, AddrV K H p.2
theorem Pl.m {K : PySem.W.Frag} {H H' : Hp} {kvs : List (Key × V)} (t : TS H H') (h : Pl K H kvs) : Pl K H' kvs := ⟨h.ks, h.nd, h.l0, h.l1, fun p hp => (h.vs p hp).m t⟩
def Ad (K : PySem.W.Frag) (H : Hp) (ws : List V) : Prop := ws.length ≤ 10 ∧ ∀ v ∈ ws, AddrV K H v
theorem Ad.m {K : PySem.W.Frag} {H H' : Hp} {ws : List V} (t : TS H H') (h : Ad K H ws) : Ad K H' ws := ⟨h.1, fun p hp => (h.2 p hp).m t⟩
/-- a list of addresses is data -/
theorem addr_data {K : PySem.W.Frag} {H : Hp} : ∀ {ws : List V}, (∀ v ∈ ws, AddrV K H v) → ∃ ds, DtAll K H ws ds ∧ (∀ d ∈ ds, Shp 1 d) ∧ (∀ d ∈ ds, Sz 1 89 d)
  | [], _ => ⟨[], .nil, (fun _ h => nomatch h), fun _ h => nomatch h⟩
  | v :: r, h => by
    obtain ⟨ds, a, b, c⟩ := addr_data (ws := r) fun x hx => h x (List.mem_cons_of_mem _ hx)
    obtain ⟨i, j, hd, i0, i1, j0, j1⟩ := h v List.mem_cons_self
    refine ⟨.tuple [.int i, .int j] :: ds, .cons hd a, fun d hd => ?_, fun d hd => ?_⟩
    · rcases List.mem_cons.mp hd with rfl | hd
      · refine Shp.tuple (k := 0) fun d hd => ?_
        rcases List.mem_cons.mp hd with rfl | hd
        · exact Shp.int _
        · rw [List.mem_singleton.mp hd]
          exact Shp.int _
      · exact b d hd
    · rcases List.mem_cons.mp hd with rfl | hd
      · refine (Sz.tuple (k := 0) (n := 41) (ds := [.int i, .int j]) fun d hd => ?_).mono (by decide) (by simp)
        rcases List.mem_cons.mp hd with rfl | hd
        · exact Sz.int (m := 40) (by decide) (by omega) (by decide)
        · rw [List.mem_singleton.mp hd]
          exact Sz.int (m := 40) (by decide) (by omega) (by decide)
      · exact c d hd
theorem valV_mem {kvs : List (Key × V)} {k : Key} {v : V} (h : valV kvs k = some v) : (k, v) ∈ kvs := by
  unfold valV at h
  cases e : kvs.find? (fun kv => decide (kv.1 = k)) with
  | none => rw [e] at h; cases h
  | some p =>
    rw [e] at h
    cases h
    have h1 : p.1 = k := of_decide_eq_true (List.find?_some (p := fun kv : Key × V => decide (kv.1 = k)) e)
    have h2 := List.mem_of_find?_eq_some e
    rw [← h1]
    exact h2
theorem valV_of_key {kvs : List (Key × V)} {k : Key} (h : k ∈ kvs.map (·.1)) : ∃ v, valV kvs k = some v := by
  obtain ⟨p, hp, rfl⟩ := List.mem_map.mp h
  have : (valV kvs p.1).isSome = true := by
    rw [← valV_any]
    exact List.any_eq_true.mpr ⟨p, hp, decide_eq_true rfl⟩
  exact Option.isSome_iff_exists.mp this
def tabF (d l : Addr) (nb dd lg : Int) : List (Str × V) := [("spots_by_number", V.ref d), ("number_behind", V.int nb), ("deeds_done", V.int dd), ("last_group", V.int lg), ("checkpoint_spots", V.ref l)]
theorem tab_1 (d l : Addr) (nb dd lg : Int) : (tabF d l nb dd lg).lookup ("spots_by_number" : Str) = some (.ref d) := lk0
theorem tab_2 (d l : Addr) (nb dd lg : Int) : (tabF d l nb dd lg).lookup ("number_behind" : Str) = some (.int nb) := lkS (by decide +kernel) lk0
theorem tab_3 (d l : Addr) (nb dd lg : Int) : (tabF d l nb dd lg).lookup ("deeds_done" : Str) = some (.int dd) := lkS (by decide +kernel) (lkS (by decide +kernel) lk0)
theorem tab_4 (d l : Addr) (nb dd lg : Int) : (tabF d l nb dd lg).lookup ("last_group" : Str) = some (.int lg) := lkS (by decide +kernel) (lkS (by decide +kernel) (lkS (by decide +kernel) lk0))
theorem tab_5 (d l : Addr) (nb dd lg : Int) : (tabF d l nb dd lg).lookup ("checkpoint_spots" : Str) = some (.ref l) := lkS (by decide +kernel) (lkS (by decide +kernel) (lkS (by decide +kernel) (lkS (by decide +kernel) lk0)))
theorem tab_no (d l : Addr) (nb dd lg : Int) {m : Str} (h : ([("spots_by_number" : Str), "number_behind", "deeds_done", "last_group", "checkpoint_spots"] : List Str).all (fun f => !decide (m = f)) = true) : (tabF d l nb dd lg).lookup m = none := lk_no h
/-- tables stand at x -/
structure Tab (C : Addr) (H : Hp) (x d l : Addr) (kvs : List (Key × V)) (nb dd lg : Int) (ws : List V) : Prop where
  ob : ∃ dx, H x = some (.ins C dx (tabF d l nb dd lg))
  dc : H d = some (.dK kvs)
  ls : H l = some (.lst ws)
theorem Tab.m {C : Addr} {H H' : Hp} {x d l : Addr} {kvs : List (Key × V)} {nb dd lg : Int} {ws : List V} (t : Same H H') (h : Tab C H x d l kvs nb dd lg ws) : Tab C H' x d l kvs nb dd lg ws := by
  obtain ⟨⟨dx, e⟩, h1, h2⟩ := h
  exact ⟨⟨dx, t _ _ e⟩, t _ _ h1, t _ _ h2⟩
end Cl

namespace Cl
open PySem L2
def topS (i : Nat) : Stmt := PySem.Challenge.pw_cleanedlog_k66_tables.main.body.getD i (.Pass ⟨0, 0, 0, 0⟩)
section
variable {P : Program} {w : World} {K : PySem.W.Frag} {mg : Str → Option Value} {base : Heap}
abbrev s_Tables_init : Stmt := inClass (topS 1) 0
abbrev N_Tables_init : List Str := ["self", "places", "next_number", "deeds", "last", "kept"]
theorem sc_Tables_init : FnScope N_Tables_init ["self", "places", "next_number", "deeds", "last", "kept"] (defScope s_Tables_init) := ⟨rfl, rfl, rfl, by decide +kernel, rfl, by decide +kernel, by decide +kernel⟩
def sp_Tables_init (K : PySem.W.Frag) (C : Addr) : Sp := fun vs H Q _ => ∃ (x d0 k0 : Addr) (kvs : List (Key × V)) (nb dd lg : Int) (ws : List V) (dx : Addr), vs = [.ref x, .ref d0, .int nb, .int dd, .int lg, .ref k0] ∧ H x = some (.ins C dx []) ∧ H d0 = some (.dK kvs) ∧ (SqL K H k0 ws ∨ SqT K H k0 ws) ∧
  ∀ (d l : Addr) (H' : Hp), SameBut x H H' → H d = none → H l = none → Tab C H' x d l kvs nb dd lg ws → Q .non H'
def tabF4 (d : Addr) (nb dd lg : Int) : List (Str × V) := [("spots_by_number", V.ref d), ("number_behind", V.int nb), ("deeds_done", V.int dd), ("last_group", V.int lg)]
theorem ok_Tables_init {f : Addr} {fd : FuncData} (F : Fun K "__init__" "Tables.__init__" s_Tables_init f fd) (B : Bt mg) {A_Tables : Addr} (T_Tables : CF K mg "Tables" A_Tables ["spots_by_number", "number_behind", "deeds_done", "last_group", "checkpoint_spots"]) : GnOk P w K mg base CX0 1 f fd ["self", "places", "next_number", "deeds", "last", "kept"] (sp_Tables_init K A_Tables) := by
  refine gn_fun F sc_Tables_init (fun vs H Q E h => ?_) (fun cdv A outer s H vs Q E hr h => ?_)
  · obtain ⟨x, d0, k0, kvs, nb, dd, lg, ws, dx, rfl, _⟩ := h
    rfl
  · obtain ⟨x, d0, k0, kvs, nb, dd, lg, ws, dx, rfl, hx, hd0, hk0, k⟩ := h
    refine ⟨_, (pss_cons (ps_fld (pv 0) (pe_callTy call_dictD (by rfl) B.dict (by decide +kernel) (pa_cons (pv 1) pa_nil)) rfl)
    (pss_cons (ps_fld (pv 0) (pv 2) rfl)
    (pss_cons (ps_fld (pv 0) (pv 3) rfl)
    (pss_cons (ps_fld (pv 0) (pv 4) rfl)
    (pss_one (ps_fld (pv 0) (pe_callTy (call_list_ofK K) (by rfl) B.list (by decide +kernel) (pa_cons (pv 5) pa_nil)) rfl)))))), ?_⟩
    refine ⟨_, rfl, d0, kvs, rfl, .inl hd0, fun d hd => ?_⟩
    have nxd : x ≠ d := ne_of_none hx hd
    refine ⟨_, rfl, x, A_Tables, dx, [], rfl, by rw [upd_ne nxd]; exact hx, T_Tables.cl, T_Tables.no _ (by simp), by decide, ?_⟩
    refine ⟨_, rfl, _, rfl, x, A_Tables, dx, _, rfl, upd_same, T_Tables.cl, T_Tables.no _ (by simp), fewS (by decide), ?_⟩
    refine ⟨_, rfl, _, rfl, x, A_Tables, dx, _, rfl, upd_same, T_Tables.cl, T_Tables.no _ (by simp), fewS (fewS (by decide)), ?_⟩
    refine ⟨_, rfl, _, rfl, x, A_Tables, dx, _, rfl, upd_same, T_Tables.cl, T_Tables.no _ (by simp), fewS (fewS (fewS (by decide))), ?_⟩
    rw [upd_upd, upd_upd, upd_upd]
    rw [show putF "last_group" (V.int lg) (putF "deeds_done" (V.int dd) (putF "number_behind" (V.int nb) (putF "spots_by_number" (V.ref d) []))) = tabF4 d nb dd lg from by
      unfold tabF4
      have e1 : putF "number_behind" (V.int nb) [(("spots_by_number" : Str), V.ref d)] = ([("spots_by_number", V.ref d), ("number_behind", V.int nb)] : List (Str × V)) := putS (by decide +kernel) rfl
      have e2 : putF "deeds_done" (V.int dd) [(("spots_by_number" : Str), V.ref d), ("number_behind", V.int nb)] = ([("spots_by_number", V.ref d), ("number_behind", V.int nb), ("deeds_done", V.int dd)] : List (Str × V)) := putS (by decide +kernel) (putS (by decide +kernel) rfl)
      rw [show putF "spots_by_number" (V.ref d) [] = [(("spots_by_number" : Str), V.ref d)] from rfl, e1, e2]
      exact putS (by decide +kernel) (putS (by decide +kernel) (putS (by decide +kernel) rfl))]
    have sb : SameBut x H (upd (upd H d (.dK kvs)) x (.ins A_Tables dx (tabF4 d nb dd lg))) := (SameBut.of (Same.new hd)).upd
    have hk1 := hk0.imp (fun q => sb.seqI hx q) fun q => (TS.butI sb hx).seq q
    refine ⟨_, rfl, k0, ws, rfl, hk1, fun l hl => ?_⟩
    have nxl : x ≠ l := ne_of_none upd_same hl
    have ndl : d ≠ l := ne_of_none (show (upd (upd H d (.dK kvs)) x _) d = some (.dK kvs) by rw [upd_ne nxd.symm]; exact upd_same) hl
    refine ⟨_, rfl, x, A_Tables, dx, _, rfl, by rw [upd_ne nxl]; exact upd_same, T_Tables.cl, T_Tables.no _ (by simp), by simp [tabF4], ?_⟩
    rw [show putF "checkpoint_spots" (V.ref l) (tabF4 d nb dd lg) = tabF d l nb dd lg from putS (by decide +kernel) (putS (by decide +kernel) (putS (by decide +kernel) (putS (by decide +kernel) rfl)))]
    exact k d l _ (sb.new hl).upd hd (sb.free hl nxl.symm) ⟨⟨dx, upd_same⟩, by rw [upd_ne nxd.symm, upd_ne ndl, upd_ne nxd.symm]; exact upd_same, by rw [upd_ne nxl.symm]; exact upd_same⟩
abbrev s_Tables_spot : Stmt := inClass (topS 1) 1
abbrev N_Tables_spot : List Str := ["self", "number"]
theorem sc_Tables_spot : FnScope N_Tables_spot ["self", "number"] (defScope s_Tables_spot) := ⟨rfl, rfl, rfl, by decide +kernel, rfl, by decide +kernel, by decide +kernel⟩
def sp_Tables_spot (C : Addr) : Sp := fun vs H Q _ => ∃ (x d l : Addr) (kvs : List (Key × V)) (nb dd lg : Int) (ws : List V) (n : Int), vs = [.ref x, .int n] ∧ Tab C H x d l kvs nb dd lg ws ∧ Q ((valV kvs (Sum.inl n : Key)).getD .non) H
theorem ok_Tables_spot {f : Addr} {fd : FuncData} (F : Fun K "spot" "Tables.spot" s_Tables_spot f fd) (B : Bt mg) {A_Tables : Addr} (T_Tables : CF K mg "Tables" A_Tables ["spots_by_number", "number_behind", "deeds_done", "last_group", "checkpoint_spots"]) : GnOk P w K mg base CX0 1 f fd ["self", "number"] (sp_Tables_spot A_Tables) := by
  refine gn_fun F sc_Tables_spot (fun vs H Q E h => ?_) (fun cdv A outer s H vs Q E hr h => ?_)
  · obtain ⟨x, d, l, kvs, nb, dd, lg, ws, n, rfl, _⟩ := h
    rfl
  · obtain ⟨x, d, l, kvs, nb, dd, lg, ws, n, rfl, ⟨⟨dx, ho⟩, hd, hl⟩, k⟩ := h
    refine ⟨_, (pss_one (ps_ret (pe_dget1 hr.hu (pe_fld (pv 0) rfl) (pv 1) ⟨by rfl, by rfl, by rfl, by rfl⟩))), ?_⟩
    exact ⟨_, rfl, x, A_Tables, dx, _, _, rfl, ho, T_Tables.cl, T_Tables.no _ (by simp), tab_1 _ _ _ _ _, d, rfl, .inl ⟨_, .inl hd⟩, _, rfl, _, DGet.k (k := Sum.inl n) hd, k⟩
abbrev s_Tables_numbers : Stmt := inClass (topS 1) 2
abbrev N_Tables_numbers : List Str := ["self"]
theorem sc_Tables_numbers : FnScope N_Tables_numbers ["self"] (defScope s_Tables_numbers) := ⟨rfl, rfl, rfl, by decide +kernel, rfl, by decide +kernel, by decide +kernel⟩
def sp_Tables_numbers (C : Addr) : Sp := fun vs H Q _ => ∃ (x d l : Addr) (kvs : List (Key × V)) (nb dd lg : Int) (ws : List V) (ks : List Int), vs = [.ref x] ∧ Tab C H x d l kvs nb dd lg ws ∧ kvs.map (·.1) = ks.map Sum.inl ∧ kvs.length ≤ 24 ∧
  ∀ (ys : List Int) (p : Addr), ys.Perm ks → ys.Pairwise (· ≤ ·) → H p = none → Q (.ref p) (upd H p (.lst (ys.map V.int)))
theorem ok_Tables_numbers {f : Addr} {fd : FuncData} (F : Fun K "numbers" "Tables.numbers" s_Tables_numbers f fd) (B : Bt mg) {A_Tables : Addr} (T_Tables : CF K mg "Tables" A_Tables ["spots_by_number", "number_behind", "deeds_done", "last_group", "checkpoint_spots"]) : GnOk P w K mg base CX0 1 f fd ["self"] (sp_Tables_numbers A_Tables) := by
  refine gn_fun F sc_Tables_numbers (fun vs H Q E h => ?_) (fun cdv A outer s H vs Q E hr h => ?_)
  · obtain ⟨x, d, l, kvs, nb, dd, lg, ws, ks, rfl, _⟩ := h
    rfl
  · obtain ⟨x, d, l, kvs, nb, dd, lg, ws, ks, rfl, ⟨⟨dx, ho⟩, hd, hl⟩, hk, h24, k⟩ := h
    refine ⟨_, (pss_one (ps_ret (pe_callB (call_sortedDI rfl) (by rfl) B.sorted (by decide +kernel) (pa_cons (pe_fld (pv 0) rfl) pa_nil)))), ?_⟩
    have hlen : ks.length = kvs.length := by
      have := congrArg List.length hk
      simpa using this.symm
    exact ⟨_, rfl, x, A_Tables, dx, _, _, rfl, ho, T_Tables.cl, T_Tables.no _ (by simp), tab_1 _ _ _ _ _, d, kvs, ks, rfl, .inl hd, hk, by omega, fun ys p h1 h2 h3 => k ys p h1 h2 h3⟩
abbrev s_Tables_next_number : Stmt := inClass (topS 1) 3
abbrev N_Tables_next_number : List Str := ["self"]
theorem sc_Tables_next_number : FnScope N_Tables_next_number ["self"] (defScope s_Tables_next_number) := ⟨rfl, rfl, rfl, by decide +kernel, rfl, by decide +kernel, by decide +kernel⟩
def sp_Tables_next (C : Addr) : Sp := fun vs H Q _ => ∃ (x d l : Addr) (kvs : List (Key × V)) (nb dd lg : Int) (ws : List V), vs = [.ref x] ∧ Tab C H x d l kvs nb dd lg ws ∧ Q (.int nb) H
theorem ok_Tables_next_number {f : Addr} {fd : FuncData} (F : Fun K "next_number" "Tables.next_number" s_Tables_next_number f fd) (B : Bt mg) {A_Tables : Addr} (T_Tables : CF K mg "Tables" A_Tables ["spots_by_number", "number_behind", "deeds_done", "last_group", "checkpoint_spots"]) : GnOk P w K mg base CX0 1 f fd ["self"] (sp_Tables_next A_Tables) := by
  refine gn_fun F sc_Tables_next_number (fun vs H Q E h => ?_) (fun cdv A outer s H vs Q E hr h => ?_)
  · obtain ⟨x, d, l, kvs, nb, dd, lg, ws, rfl, _⟩ := h
    rfl
  · obtain ⟨x, d, l, kvs, nb, dd, lg, ws, rfl, ⟨⟨dx, ho⟩, hd, hl⟩, k⟩ := h
    refine ⟨_, (pss_one (ps_ret (pe_fld (pv 0) rfl))), ?_⟩
    exact ⟨_, rfl, x, A_Tables, dx, _, _, rfl, ho, T_Tables.cl, T_Tables.no _ (by simp), tab_2 _ _ _ _ _, k⟩
abbrev s_Tables_deeds : Stmt := inClass (topS 1) 4
abbrev N_Tables_deeds : List Str := ["self"]
theorem sc_Tables_deeds : FnScope N_Tables_deeds ["self"] (defScope s_Tables_deeds) := ⟨rfl, rfl, rfl, by decide +kernel, rfl, by decide +kernel, by decide +kernel⟩
def sp_Tables_deeds (C : Addr) : Sp := fun vs H Q _ => ∃ (x d l : Addr) (kvs : List (Key × V)) (nb dd lg : Int) (ws : List V), vs = [.ref x] ∧ Tab C H x d l kvs nb dd lg ws ∧ Q (.int dd) H
theorem ok_Tables_deeds {f : Addr} {fd : FuncData} (F : Fun K "deeds" "Tables.deeds" s_Tables_deeds f fd) (B : Bt mg) {A_Tables : Addr} (T_Tables : CF K mg "Tables" A_Tables ["spots_by_number", "number_behind", "deeds_done", "last_group", "checkpoint_spots"]) : GnOk P w K mg base CX0 1 f fd ["self"] (sp_Tables_deeds A_Tables) := by
  refine gn_fun F sc_Tables_deeds (fun vs H Q E h => ?_) (fun cdv A outer s H vs Q E hr h => ?_)
  · obtain ⟨x, d, l, kvs, nb, dd, lg, ws, rfl, _⟩ := h
    rfl
  · obtain ⟨x, d, l, kvs, nb, dd, lg, ws, rfl, ⟨⟨dx, ho⟩, hd, hl⟩, k⟩ := h
    refine ⟨_, (pss_one (ps_ret (pe_fld (pv 0) rfl))), ?_⟩
    exact ⟨_, rfl, x, A_Tables, dx, _, _, rfl, ho, T_Tables.cl, T_Tables.no _ (by simp), tab_3 _ _ _ _ _, k⟩
abbrev s_Tables_last : Stmt := inClass (topS 1) 5
abbrev N_Tables_last : List Str := ["self"]
theorem sc_Tables_last : FnScope N_Tables_last ["self"] (defScope s_Tables_last) := ⟨rfl, rfl, rfl, by decide +kernel, rfl, by decide +kernel, by decide +kernel⟩
def sp_Tables_last (C : Addr) : Sp := fun vs H Q _ => ∃ (x d l : Addr) (kvs : List (Key × V)) (nb dd lg : Int) (ws : List V), vs = [.ref x] ∧ Tab C H x d l kvs nb dd lg ws ∧ Q (.int lg) H
theorem ok_Tables_last {f : Addr} {fd : FuncData} (F : Fun K "last" "Tables.last" s_Tables_last f fd) (B : Bt mg) {A_Tables : Addr} (T_Tables : CF K mg "Tables" A_Tables ["spots_by_number", "number_behind", "deeds_done", "last_group", "checkpoint_spots"]) : GnOk P w K mg base CX0 1 f fd ["self"] (sp_Tables_last A_Tables) := by
  refine gn_fun F sc_Tables_last (fun vs H Q E h => ?_) (fun cdv A outer s H vs Q E hr h => ?_)
  · obtain ⟨x, d, l, kvs, nb, dd, lg, ws, rfl, _⟩ := h
    rfl
  · obtain ⟨x, d, l, kvs, nb, dd, lg, ws, rfl, ⟨⟨dx, ho⟩, hd, hl⟩, k⟩ := h
    refine ⟨_, (pss_one (ps_ret (pe_fld (pv 0) rfl))), ?_⟩
    exact ⟨_, rfl, x, A_Tables, dx, _, _, rfl, ho, T_Tables.cl, T_Tables.no _ (by simp), tab_4 _ _ _ _ _, k⟩
abbrev s_Tables_kept : Stmt := inClass (topS 1) 6
abbrev N_Tables_kept : List Str := ["self"]
theorem sc_Tables_kept : FnScope N_Tables_kept ["self"] (defScope s_Tables_kept) := ⟨rfl, rfl, rfl, by decide +kernel, rfl, by decide +kernel, by decide +kernel⟩
def sp_Tables_kept (C : Addr) : Sp := fun vs H Q _ => ∃ (x d l : Addr) (kvs : List (Key × V)) (nb dd lg : Int) (ws : List V), vs = [.ref x] ∧ Tab C H x d l kvs nb dd lg ws ∧ ∀ p, H p = none → Q (.ref p) (upd H p (.lst ws))
theorem ok_Tables_kept {f : Addr} {fd : FuncData} (F : Fun K "kept" "Tables.kept" s_Tables_kept f fd) (B : Bt mg) {A_Tables : Addr} (T_Tables : CF K mg "Tables" A_Tables ["spots_by_number", "number_behind", "deeds_done", "last_group", "checkpoint_spots"]) : GnOk P w K mg base CX0 1 f fd ["self"] (sp_Tables_kept A_Tables) := by
  refine gn_fun F sc_Tables_kept (fun vs H Q E h => ?_) (fun cdv A outer s H vs Q E hr h => ?_)
  · obtain ⟨x, d, l, kvs, nb, dd, lg, ws, rfl, _⟩ := h
    rfl
  · obtain ⟨x, d, l, kvs, nb, dd, lg, ws, rfl, ⟨⟨dx, ho⟩, hd, hl⟩, k⟩ := h
    refine ⟨_, (pss_one (ps_ret (pe_callTy (call_list_ofK K) (by rfl) B.list (by decide +kernel) (pa_cons (pe_fld (pv 0) rfl) pa_nil)))), ?_⟩
    exact ⟨_, rfl, x, A_Tables, dx, _, _, rfl, ho, T_Tables.cl, T_Tables.no _ (by simp), tab_5 _ _ _ _ _, l, ws, rfl, .inl (SqL.of hl), fun p hp => k p hp⟩
abbrev s_l_at : Stmt := topS 3
abbrev N_l_at : List Str := ["script", "k"]
theorem sc_l_at : FnScope N_l_at ["script", "k"] (defScope s_l_at) := ⟨rfl, rfl, rfl, by decide +kernel, rfl, by decide +kernel, by decide +kernel⟩
theorem ok_l_at {f : Addr} {fd : FuncData} (F : Fun K "_law_at" "_law_at" s_l_at f fd) (B : Bt mg) : GnOk P w K mg base CX0 1 f fd ["script", "k"] (sp_l_at K) := by
  refine gn_fun F sc_l_at (fun vs H Q E h => ?_) (fun cdv A outer s H vs Q E hr h => ?_)
  · obtain ⟨a, ns, i, rfl, _⟩ := h
    rfl
  · obtain ⟨a, ns, i, rfl, hS, k⟩ := h
    refine ⟨_, (pss_cons (ps_if (pt_cmpR op_lt (pv 1) (pe_callB call_len (by rfl) B.len (by decide +kernel) (pa_cons (pv 0) pa_nil)) (nomark _))
      (pss_one (ps_ret (pe_ix ix_list (pv 0) (pv 1) (fun _ _ => rfl))))
      pss_nil)
    (pss_one (ps_ret pe_int))), ?_⟩
    refine ⟨_, rfl, _, rfl, _, ns.length, rfl, .inl ⟨_, hS, by simp⟩, _, _, rfl, rfl, _, rfl, ?_⟩
    refine ite2 (fun c => ?_) (fun c => ?_)
    · have c' : (i : Int) < ns.length := of_decide_eq_true c
      refine ⟨_, rfl, _, rfl, a, _, _, _, rfl, rfl, hS, atI_nat (v := V.int (ns[i]'(by omega))) (by simp [show i < ns.length by omega]), ?_⟩
      exact k _
    · exact k 0
abbrev s_l_pot : Stmt := topS 4
abbrev N_l_pot : List Str := ["cell"]
theorem sc_l_pot : FnScope N_l_pot ["cell"] (defScope s_l_pot) := ⟨rfl, rfl, rfl, by decide +kernel, rfl, by decide +kernel, by decide +kernel⟩
theorem ok_l_pot {f : Addr} {fd : FuncData} (F : Fun K "_law_pot" "_law_pot" s_l_pot f fd) (B : Bt mg) : GnOk P w K mg base CX0 1 f fd ["cell"] sp_l_pot := by
  refine gn_fun F sc_l_pot (fun vs H Q E h => ?_) (fun cdv A outer s H vs Q E hr h => ?_)
  · obtain ⟨c, rfl, _⟩ := h
    rfl
  · obtain ⟨c, rfl, k⟩ := h
    refine ⟨_, pss_one (ps_ret (pe_lst (pa_cons (pe_callB (call_max2 rfl) (by rfl) B.max (by decide +kernel) (pa_cons pe_int (pa_cons (pe_op op_sub (pv 0) (pe_op op_pow pe_int pe_int)) pa_nil)))
      (pa_cons (pe_op op_add (pe_op op_mod (pe_op op_pow (pe_op op_add (pe_op op_mod (pe_callB call_abs (by rfl) B.abs (by decide +kernel) (pa_cons (pv 0) pa_nil)) pe_int) pe_int) pe_int) pe_int) pe_int) pa_nil)))), ?_⟩
    refine ⟨_, rfl, _, _, rfl, rfl, ⟨by decide, by decide, by decide⟩, _, _, rfl, rfl, _, _, rfl, ?_⟩
    refine ⟨_, rfl, _, rfl, ?_⟩
    refine ⟨_, _, rfl, rfl, (by show (0:Int) < 2147483563; decide), _, _, rfl, rfl, _, _, rfl, rfl, ⟨by decide, by decide, ?_⟩, ?_⟩
    · show (((if c < 0 then -c else c) % 2147483563 + 1 : Int)).natAbs < 2 ^ 64
      omega
    refine ⟨_, _, rfl, rfl, (by show (0:Int) < 2147483549; decide), _, _, rfl, rfl, (by show 2 ≤ sizeLine; decide), fun p hp => ?_⟩
    exact k p _ (Same.new hp) hp ⟨upd_same, potB_ok c⟩
abbrev s_l_take : Stmt := topS 5
abbrev N_l_take : List Str := ["pot", "many", "digit"]
theorem sc_l_take : FnScope N_l_take ["pot", "many"] (defScope s_l_take) := ⟨rfl, rfl, rfl, by decide +kernel, rfl, by decide +kernel, by decide +kernel⟩
theorem ok_l_take0 {f : Addr} {fd : FuncData} (F : Fun K "_law_take" "_law_take" s_l_take f fd) (B : Bt mg) : GnOk P w K mg base CX0 1 f fd ["pot", "many"] sp_l_take := by
  refine gn_fun F sc_l_take (fun vs H Q E h => ?_) (fun cdv A outer s H vs Q E hr h => ?_)
  · obtain ⟨p, a, b, m, rfl, _⟩ := h
    rfl
  · obtain ⟨p, a, b, m, rfl, ⟨hp, hb⟩, hm, hm2, k⟩ := h
    refine ⟨_, pss_cons (ps_if (pt_cmpR op_gt (pe_ix ix_list (pv 0) pe_int (fun _ _ => rfl)) pe_int (nomark _))
        (pss_cons (ps_asg (pe_callB call_divmodW (by rfl) B.divmod (by decide +kernel) (pa_cons (pe_ix ix_list (pv 0) pe_int (fun _ _ => rfl)) (pa_cons (pv 1) pa_nil)))
            (pg_tup (by rfl) (pgs_cons (pg_sub (pv 0) pe_int set_list) (pgs_cons (pg_name (i := 2) sc_l_take.nd rfl (Or.inl rfl)) pgs_nil))))
          (pss_one (ps_ret (pv 2)))) pss_nil)
      (pss_cons (ps_asg (pe_op op_mod (pe_op op_add (pe_op op_mul (pe_ix ix_list (pv 0) pe_int (fun _ _ => rfl)) pe_int) pe_int) pe_int) (pg_sub (pv 0) pe_int set_list))
      (pss_one (ps_ret (pe_op op_mod (pe_op op_fdiv (pe_op op_mod (pe_op op_mul (pe_ix ix_list (pv 0) pe_int (fun _ _ => rfl)) (pe_ix ix_list (pv 0) pe_int (fun _ _ => rfl))) pe_int) pe_int) (pv 1))))), ?_⟩
    refine ⟨_, rfl, p, _, _, _, rfl, rfl, SqL.of hp, rfl, _, _, rfl, rfl, _, rfl, ?_⟩
    have hd : CDivP a m := ⟨hm, PyProof.noPylong_of_log2 hm2⟩
    refine ite2 (fun c => ?_) (fun c => ?_)
    · have c' : 0 < a := of_decide_eq_true c
      refine ⟨_, rfl, p, _, _, _, rfl, rfl, SqL.of hp, rfl, _, rfl, _, _, rfl, hd, fun t ht => ?_⟩
      have npt : p ≠ t := ne_of_none hp ht
      refine ⟨t, _, rfl, SqT.of upd_same, rfl, ?_⟩
      refine ⟨_, _, rfl, _, rfl, p, _, _, _, rfl, rfl, (by rw [upd_ne npt]; exact hp), rfl, ?_⟩
      refine ⟨_, _, rfl, rfl, _, rfl, ?_⟩
      have e1 : tkA a b m = a / m := if_pos c'
      have e2 : tkB a b m = b := if_pos c'
      have e3 : tkD a b m = a % m := if_pos c'
      have := k (upd (upd H t (.tup [.int (a / m), .int (a % m)])) p (.lst [.int (tkA a b m), .int (tkB a b m)])) (SameBut.of (Same.new ht)).upd ⟨upd_same, tkB_ok hb⟩
      rw [e1, e2, e3] at this
      exact this
    · have c' : ¬ 0 < a := fun z => c (decide_eq_true z)
      refine ⟨_, rfl, p, _, _, _, rfl, rfl, SqL.of hp, rfl, _, _, rfl, rfl, .inr (by decide), _, _, rfl, rfl, _, _, rfl, rfl, (by show (0:Int) < 2147483647; decide), ?_⟩
      refine ⟨_, rfl, p, _, _, _, rfl, rfl, hp, rfl, ?_⟩
      have e1 : tkA a b m = a := if_neg c'
      have e2 : tkB a b m = (b * 48271 + 12347) % 2147483647 := if_neg c'
      have e3 : tkD a b m = ((b * 48271 + 12347) % 2147483647) * ((b * 48271 + 12347) % 2147483647) % 2147483579 / 13 % m := if_neg c'
      refine ⟨_, rfl, p, _, _, _, rfl, rfl, SqL.of upd_same, rfl, _, rfl, p, _, _, _, rfl, rfl, SqL.of upd_same, rfl, _, _, rfl, rfl, .inr ?_, ?_⟩
      · show -(2 ^ 64) < (b * 48271 + 12347) % 2147483647 ∧ (b * 48271 + 12347) % 2147483647 < 2 ^ 64
        omega
      refine ⟨_, _, rfl, rfl, (by show (0:Int) < 2147483579; decide), _, _, rfl, rfl, ⟨by decide, by decide⟩, _, rfl, _, _, rfl, rfl, hm, ?_⟩
      have := k (upd H p (.lst [.int (tkA a b m), .int (tkB a b m)])) (SameBut.of (Same.refl H)).upd ⟨upd_same, tkB_ok hb⟩
      rw [e1, e2, e3] at this
      exact this
theorem ok_l_take {f : Addr} {fd : FuncData} (F : Fun K "_law_take" "_law_take" s_l_take f fd) (B : Bt mg) : GnOk P w K mg base CX0 1 f fd ["pot", "many"] sp_l_tk := (ok_l_take0 F B).imp take_any
abbrev s_l_number : Stmt := topS 6
abbrev N_l_number : List Str := ["pot"]
theorem sc_l_number : FnScope N_l_number ["pot"] (defScope s_l_number) := ⟨rfl, rfl, rfl, by decide +kernel, rfl, by decide +kernel, by decide +kernel⟩
def sp_l_number : Sp := fun vs H Q _ => ∃ (p : Addr) (a b : Int), vs = [.ref p] ∧ Pot H p a b ∧ ∀ (n : Int) (H' : Hp) (a' b' : Int), SameBut p H H' → Pot H' p a' b' → 0 ≤ n → n < 10 ^ 12 → Q (.int n) H'
theorem ok_l_number {f : Addr} {fd : FuncData} (F : Fun K "_law_number" "_law_number" s_l_number f fd) (B : Bt mg) (C_law_take : Cal P w K mg base CX0 "_law_take" 1 ["pot", "many"] sp_l_tk) : GnOk P w K mg base CX0 2 f fd ["pot"] sp_l_number := by
  refine gn_fun F sc_l_number (fun vs H Q E h => ?_) (fun cdv A outer s H vs Q E hr h => ?_)
  · obtain ⟨p, a, b, rfl, _⟩ := h
    rfl
  · obtain ⟨p, a, b, rfl, hp, k⟩ := h
    refine ⟨_, (pss_one (ps_ret (pe_ix (ix_listK K) (pe_lst (pa_cons (pe_cal C_law_take (hr.mono (by decide)) (by rfl) pass0 (pa_cons (pv 0) (pa_cons pe_int pa_nil))) (pa_cons (pe_cal C_law_take (hr.mono (by decide)) (by rfl) pass0 (pa_cons (pv 0) (pa_cons pe_int pa_nil))) (pa_cons (pe_cal C_law_take (hr.mono (by decide)) (by rfl) pass0 (pa_cons (pv 0) (pa_cons (pe_op op_pow pe_int pe_int) pa_nil))) pa_nil)))) (pe_cal C_law_take (hr.mono (by decide)) (by rfl) pass0 (pa_cons (pv 0) (pa_cons pe_int pa_nil))) (fun _ _ => rfl)))), ?_⟩
    refine ⟨_, rfl, p, _, _, _, rfl, hp, (by decide), (by decide), fun n1 a1 b1 H1 s1 p1 h10 h11 => ?_⟩
    refine ⟨_, rfl, p, _, _, _, rfl, p1, (by decide), (by decide), fun n2 a2 b2 H2 s2 p2 h20 h21 => ?_⟩
    refine ⟨_, rfl, _, _, rfl, rfl, ⟨by decide, by decide, by decide⟩, p, _, _, _, rfl, p2, (by decide), (by decide), fun n3 a3 b3 H3 s3 p3 h30 h31 => ?_⟩
    refine ⟨sz_of (by simp), fun l hl => ?_⟩
    have npl : l ≠ p := p3.ne hl
    refine ⟨_, rfl, p, _, _, _, rfl, p3.new hl, (by decide), (by decide), fun i a4 b4 H4 s4 p4 h40 h41 => ?_⟩
    have h32 : n3 < 10 ^ 12 := h31
    obtain ⟨v, hv, hm⟩ := atI_mem (xs := [V.int n1, V.int n2, V.int n3]) (i := i) h40 h41
    obtain ⟨n, rfl, h0, h1⟩ : ∃ n : Int, v = V.int n ∧ 0 ≤ n ∧ n < 10 ^ 12 := by
      simp only [List.mem_cons, List.not_mem_nil, or_false] at hm
      rcases hm with e | e | e <;> exact ⟨_, e, by omega, by omega⟩
    refine ⟨l, _, _, _, rfl, rfl, SqL.of (s4.at upd_same npl), hv, ?_⟩
    exact k _ H4 _ _ ((((s1.trans s2).trans s3).new hl).trans s4) p4 h0 h1
abbrev s_l_address : Stmt := topS 7
abbrev N_l_address : List Str := ["pot"]
theorem sc_l_address : FnScope N_l_address ["pot"] (defScope s_l_address) := ⟨rfl, rfl, rfl, by decide +kernel, rfl, by decide +kernel, by decide +kernel⟩
def sp_l_address (K : PySem.W.Frag) : Sp := fun vs H Q _ => ∃ (p : Addr) (a b : Int), vs = [.ref p] ∧ Pot H p a b ∧ ∀ (v : V) (H' : Hp) (a' b' : Int), SameBut p H H' → Pot H' p a' b' → AddrV K H' v → Q v H'
theorem ok_l_address {f : Addr} {fd : FuncData} (F : Fun K "_law_address" "_law_address" s_l_address f fd) (B : Bt mg) (C_law_number : Cal P w K mg base CX0 "_law_number" 2 ["pot"] sp_l_number) : GnOk P w K mg base CX0 3 f fd ["pot"] (sp_l_address K) := by
  refine gn_fun F sc_l_address (fun vs H Q E h => ?_) (fun cdv A outer s H vs Q E hr h => ?_)
  · obtain ⟨p, a, b, rfl, _⟩ := h
    rfl
  · obtain ⟨p, a, b, rfl, hp, k⟩ := h
    refine ⟨_, (pss_one (ps_ret (pe_tup (pa_cons (pe_cal C_law_number (hr.mono (by decide)) (by rfl) pass0 (pa_cons (pv 0) pa_nil)) (pa_cons (pe_cal C_law_number (hr.mono (by decide)) (by rfl) pass0 (pa_cons (pv 0) pa_nil)) pa_nil))))), ?_⟩
    refine ⟨_, rfl, p, _, _, rfl, hp, fun n1 H1 a1 b1 s1 p1 h10 h11 => ?_⟩
    refine ⟨_, rfl, p, _, _, rfl, p1, fun n2 H2 a2 b2 s2 p2 h20 h21 => ⟨sz_of (by simp), fun t ht => ?_⟩⟩
    exact k (.ref t) _ _ _ ((s1.trans s2).new ht) (p2.new ht) ⟨n1, n2, Dt.new (.cons (.int _) (.cons (.int _) .nil)) ht, h10, h11, h20, h21⟩
abbrev s_l_places : Stmt := topS 8
abbrev N_l_places : List Str := ["pot", "most", "found", "k"]
theorem sc_l_places : FnScope N_l_places ["pot", "most"] (defScope s_l_places) := ⟨rfl, rfl, rfl, by decide +kernel, rfl, by decide +kernel, by decide +kernel⟩
def sp_l_places (K : PySem.W.Frag) : Sp := fun vs H Q _ => ∃ (p : Addr) (a b m : Int), vs = [.ref p, .int m] ∧ Pot H p a b ∧ 0 < m ∧ m ≤ 24 ∧
  ∀ (d : Addr) (kvs : List (Key × V)) (H' : Hp) (a' b' : Int), SameBut p H H' → Pot H' p a' b' → H d = none → H' d = some (.dK kvs) → Pl K H' kvs → Q (.ref d) H'
/-- a dict that grows -/
structure Gr (K : PySem.W.Frag) (H : Hp) (kvs : List (Key × V)) (i : Nat) : Prop where
  ks : ∃ ns : List Int, kvs.map (·.1) = ns.map Sum.inl ∧ ∀ n ∈ ns, 0 ≤ n ∧ n < 10 ^ 12
  nd : (kvs.map (·.1)).Nodup
  l0 : 0 < i → 0 < kvs.length
  l1 : kvs.length ≤ i
  vs : ∀ p ∈ kvs, AddrV K H p.2
theorem putK_keys {kvs : List (Key × V)} {k : Key} {v : V} (h : (valV kvs k).isSome = true) : (putK kvs k v).map (·.1) = kvs.map (·.1) := by
  unfold putK
  rw [valV_any, if_pos h, List.map_map]
  refine List.map_congr_left fun p _ => ?_
  show (if p.1 = k then (p.1, v) else p).1 = p.1
  split <;> rfl
theorem mem_putK {kvs : List (Key × V)} {k : Key} {v : V} {p : Key × V} (h : p ∈ putK kvs k v) : p ∈ kvs ∨ p.2 = v := by
  unfold putK at h
  split at h
  · obtain ⟨q, hq, e⟩ := List.mem_map.mp h
    by_cases z : q.1 = k
    · rw [if_pos z] at e
      exact .inr (by rw [← e])
    · rw [if_neg z] at e
      exact .inl (e ▸ hq)
  · rcases List.mem_append.mp h with h | h
    · exact .inl h
    · rw [List.mem_singleton.mp h]
      exact .inr rfl
theorem Gr.put {K : PySem.W.Frag} {H : Hp} {kvs : List (Key × V)} {i : Nat} {n : Int} {v : V} (g : Gr K H kvs i) (hb : 0 ≤ n ∧ n < 10 ^ 12) (hv : AddrV K H v) : Gr K H (putK kvs (Sum.inl n) v) (i + 1) := by
  have hl := length_putK kvs (Sum.inl n : Key) v
  have hvs : ∀ p ∈ putK kvs (Sum.inl n) v, AddrV K H p.2 := fun p hp => (mem_putK hp).elim (g.vs p) fun e => e ▸ hv
  cases e : valV kvs (Sum.inl n : Key) with
  | some u =>
    have hs : (valV kvs (Sum.inl n : Key)).isSome = true := by rw [e]; rfl
    have hk := putK_keys (v := v) hs
    have he : (putK kvs (Sum.inl n : Key) v).length = kvs.length := by
      have := congrArg List.length hk
      simpa using this
    have h0 : 0 < kvs.length := List.length_pos_of_mem (valV_mem e)
    obtain ⟨ns, hns, hnb⟩ := g.ks
    exact ⟨⟨ns, hk.trans hns, hnb⟩, by rw [hk]; exact g.nd, fun _ => by omega, by have := g.l1; omega, hvs⟩
  | none =>
    have hn := putK_new v e
    rw [hn] at hl hvs ⊢
    obtain ⟨ns, hns, hnb⟩ := g.ks
    refine ⟨⟨ns ++ [n], by rw [List.map_append, List.map_append, hns]; rfl, fun m hm => (List.mem_append.mp hm).elim (hnb m) fun h => by rw [List.mem_singleton.mp h]; exact hb⟩, ?_, fun _ => by rw [List.length_append]; exact Nat.succ_pos _, by rw [List.length_append]; have := g.l1; exact Nat.succ_le_succ this, hvs⟩
    rw [List.map_append]
    refine List.nodup_append.mpr ⟨g.nd, by simp, fun x hx y hy q => ?_⟩
    have hy' : y = Sum.inl n := List.mem_singleton.mp hy
    obtain ⟨w, hw⟩ := valV_of_key (show (Sum.inl n : Key) ∈ kvs.map (·.1) from hy' ▸ q ▸ hx)
    rw [e] at hw
    cases hw
theorem ok_l_places {f : Addr} {fd : FuncData} (F : Fun K "_law_places" "_law_places" s_l_places f fd) (B : Bt mg) (C_law_address : Cal P w K mg base CX0 "_law_address" 3 ["pot"] (sp_l_address K)) (C_law_take : Cal P w K mg base CX0 "_law_take" 1 ["pot", "many"] sp_l_tk) (C_law_number : Cal P w K mg base CX0 "_law_number" 2 ["pot"] sp_l_number) : GnOk P w K mg base CX0 4 f fd ["pot", "most"] (sp_l_places K) := by
  refine gn_fun F sc_l_places (fun vs H Q E h => ?_) (fun cdv A outer s H vs Q E hr h => ?_)
  · obtain ⟨p, a, b, m, rfl, _⟩ := h
    rfl
  · obtain ⟨p, a, b, m, rfl, hp, hm0, hm1, k⟩ := h
    refine ⟨_, (pss_cons (ps_set (i := 2) sc_l_places.nd rfl (Or.inl rfl) pe_dnewK)
    (pss_cons (ps_for PassesOwn.never rfl (pi_range1 (by rfl) B.range (pa_cons (pe_op op_add pe_int (pe_cal C_law_take (hr.mono (by decide)) (by rfl) pass0 (pa_cons (pv 0) (pa_cons (pv 1) pa_nil)))) pa_nil)) (pg_name (i := 3) sc_l_places.nd rfl (Or.inl rfl))
      (pss_one (ps_dput hr.hu (pv 2) (pe_ix (ix_listK K) (pe_lst (pa_cons (pe_op op_add pe_int (pe_cal C_law_take (hr.mono (by decide)) (by rfl) pass0 (pa_cons (pv 0) (pa_cons pe_int pa_nil)))) (pa_cons (pe_cal C_law_number (hr.mono (by decide)) (by rfl) pass0 (pa_cons (pv 0) pa_nil)) pa_nil))) (pe_cal C_law_take (hr.mono (by decide)) (by rfl) pass0 (pa_cons (pv 0) (pa_cons pe_int pa_nil))) (fun _ _ => rfl)) (pe_cal C_law_address (hr.mono (by decide)) (by rfl) pass0 (pa_cons (pv 0) pa_nil)) rfl)))
    (pss_one (ps_ret (pv 2))))), ?_⟩
    intro d hd
    have ndp : d ≠ p := hp.ne hd
    refine ⟨_, rfl, _, rfl, p, _, _, _, rfl, hp.new hd, hm0, log2_small hm0 (by omega), fun n1 a1 b1 H1 s1 p1 h10 h11 => ?_⟩
    refine ⟨_, _, rfl, rfl, _, rfl, by omega, by omega, for_range (lo := 0) (n := (1 + n1).toNat) (fun i σ H2 => ∃ (kvs : List (Key × V)) (a' b' : Int) (v : Option V), σ = [some (.ref p), some (.int m), some (.ref d), v] ∧ H2 d = some (.dK kvs) ∧ Gr K H2 kvs i ∧ Pot H2 p a' b' ∧ SameBut p H H2)
      ⟨[], _, _, none, rfl, s1.at upd_same ndp, ⟨⟨[], rfl, fun _ h => nomatch h⟩, List.nodup_nil, (fun h => absurd h (by decide)), Nat.le_refl _, (fun _ h => nomatch h)⟩, p1, ((SameBut.refl p H).new hd).trans s1⟩ ?_ ?_⟩
    · rintro i σ H2 hi ⟨kvs, a', b', v, rfl, hkv, g, p2, s2⟩
      refine ⟨_, rfl, p, _, _, rfl, p2, fun w H3 a3 b3 s3 p3 hw => ?_⟩
      refine ⟨_, rfl, _, rfl, p, _, _, _, rfl, p3, by decide, by decide, fun n4 a4 b4 H4 s4 p4 h40 h41 => ?_⟩
      refine ⟨_, _, rfl, rfl, _, rfl, p, _, _, rfl, p4, fun n5 H5 a5 b5 s5 p5 h50 h51 => ⟨sz_of (by simp), fun l hl => ?_⟩⟩
      have npl : l ≠ p := p5.ne hl
      refine ⟨_, rfl, p, _, _, _, rfl, p5.new hl, by decide, by decide, fun n6 a6 b6 H6 s6 p6 h60 h61 => ?_⟩
      obtain ⟨u, hu, hm⟩ := atI_mem (xs := [V.int (1 + n4), V.int n5]) (i := n6) h60 h61
      obtain ⟨n, rfl, hnb⟩ : ∃ n : Int, u = V.int n ∧ 0 ≤ n ∧ n < 10 ^ 12 := by
        simp only [List.mem_cons, List.not_mem_nil, or_false] at hm
        rcases hm with e | e
        · exact ⟨_, e, by omega, by omega⟩
        · exact ⟨_, e, h50, h51⟩
      have s36 : SameBut p H3 H6 := ((s4.trans s5).new hl).trans s6
      have t26 : TS H2 H6 := (TS.pot s3 p2).trans (TS.pot s36 p3)
      have hkv6 : H6 d = some (.dK kvs) := s36.at (s3.at hkv ndp) ndp
      refine ⟨l, _, _, _, rfl, rfl, SqL.of (s6.at upd_same npl), hu, d, _, rfl, DPut.k (k := Sum.inl n) hkv6 (sz_lt (by have := g.l1; omega)), ?_⟩
      have g6 : Gr K H6 kvs i := ⟨g.ks, g.nd, g.l0, g.l1, fun q hq => (g.vs q hq).m t26⟩
      have g7 := g6.put (n := n) hnb (hw.m (TS.pot s36 p3))
      have t7 : TS H6 (upd H6 d (.dK (putK kvs (Sum.inl n) w))) := TS.dK hkv6
      refine ⟨_, _, _, _, rfl, upd_same, ⟨g7.ks, g7.nd, g7.l0, g7.l1, fun q hq => (g7.vs q hq).m t7⟩, p6.other ndp, ((s2.trans s3).trans s36).newer hd⟩
    · rintro σ H2 ⟨kvs, a', b', v, rfl, hkv, g, p2, s2⟩
      exact ⟨_, rfl, k d kvs H2 _ _ s2 p2 hd hkv ⟨g.ks, g.nd, g.l0 (by omega), by have := g.l1; omega, g.vs⟩⟩
abbrev s_l_whole : Stmt := topS 9
abbrev N_l_whole : List Str := ["thing"]
theorem sc_l_whole : FnScope N_l_whole ["thing"] (defScope s_l_whole) := ⟨rfl, rfl, rfl, by decide +kernel, rfl, by decide +kernel, by decide +kernel⟩
/-- of an int -/
def sp_l_whole : Sp := fun vs H Q _ => ∃ n : Int, vs = [.int n] ∧ Q (.bl true) H
theorem ok_l_whole {f : Addr} {fd : FuncData} (F : Fun K "_law_whole" "_law_whole" s_l_whole f fd) (B : Bt mg) : GnOk P w K mg base CX0 1 f fd ["thing"] sp_l_whole := by
  refine gn_fun F sc_l_whole (fun vs H Q E h => ?_) (fun cdv A outer s H vs Q E hr h => ?_)
  · obtain ⟨n, rfl, _⟩ := h
    rfl
  · obtain ⟨n, rfl, k⟩ := h
    refine ⟨_, (pss_one (ps_ret (pe_and (pe_callB (call_isiK K) (by rfl) B.isinstance (by decide +kernel) (pa_cons (pv 0) (pa_cons (pe_bltn (v := .ty "int") (by rfl) B.int (by decide +kernel) rfl) pa_nil))) (pe_one (pe_not (pe_callB (call_isiK K) (by rfl) B.isinstance (by decide +kernel) (pa_cons (pv 0) (pa_cons (pe_bltn (v := .ty "bool") (by rfl) B.bool (by decide +kernel) rfl) pa_nil)))))))), ?_⟩
    refine ⟨_, rfl, _, _, _, _, true, rfl, .ty _, .base (.int n), kit_ty (by decide +kernel), true, rfl, ?_⟩
    refine iteT ?_
    exact ⟨_, rfl, _, _, _, _, false, rfl, .ty _, .base (.int n), kit_ty (by decide +kernel), false, rfl, k⟩
abbrev s_l_is : Stmt := topS 10
abbrev N_l_is : List Str := ["tables", "due", "standing", "behind", "done", "final", "where", "numbers", "told", "other", "number", "one"]
theorem sc_l_is : FnScope N_l_is ["tables", "due"] (defScope s_l_is) := ⟨rfl, rfl, rfl, by decide +kernel, rfl, by decide +kernel, by decide +kernel⟩
/-- what is due, as a tuple with the law's own dict and list -/
structure Due (H : Hp) (t s w : Addr) (kvs : List (Key × V)) (nb dd lg : Int) (ws : List V) : Prop where
  tp : H t = some (.tup [.ref s, .int nb, .int dd, .int lg, .ref w])
  dc : H s = some (.dK kvs)
  ls : H w = some (.lst ws)
theorem Due.m {H H' : Hp} {t s w : Addr} {kvs : List (Key × V)} {nb dd lg : Int} {ws : List V} (e : Same H H') (h : Due H t s w kvs nb dd lg ws) : Due H' t s w kvs nb dd lg ws := ⟨e _ _ h.tp, e _ _ h.dc, e _ _ h.ls⟩
def sp_l_is (K : PySem.W.Frag) (C : Addr) : Sp := fun vs H Q _ => ∃ (x d l t s w : Addr) (kvs : List (Key × V)) (nb dd lg : Int) (ws : List V), vs = [.ref x, .ref t] ∧ Tab C H x d l kvs nb dd lg ws ∧ Due H t s w kvs nb dd lg ws ∧ Pl K H kvs ∧ Ad K H ws ∧
  ∀ H', Same H H' → Q (.bl true) H'
/-- not all of the first few numbers can be in -/
theorem some_out : ∀ (n : Nat) (ys : List Int), ys.length < n → ∃ i : Nat, i < n ∧ (i : Int) ∉ ys
  | 0, ys, h => by omega
  | n + 1, ys, h => by
    by_cases hm : ((n : Nat) : Int) ∈ ys
    · obtain ⟨i, hi, ho⟩ := some_out n (ys.erase (n : Int)) (by rw [List.length_erase_of_mem hm]; have := List.length_pos_of_mem hm; omega)
      refine ⟨i, by omega, fun q => ho ?_⟩
      exact (List.mem_erase_of_ne (by omega)).mpr q
    · exact ⟨n, by omega, hm⟩
theorem inV_ints (n : Int) (ys : List Int) : inV (.int n) (ys.map V.int) = decide (n ∈ ys) := by
  induction ys with
  | nil => simp [inV]
  | cons y r ih =>
    have : inV (.int n) ((y :: r).map V.int) = (eqV (.int y) (.int n) || inV (.int n) (r.map V.int)) := rfl
    rw [this, ih]
    have e : eqV (.int y) (.int n) = decide (n = y) := by
      show (y == n) = _
      by_cases q : n = y
      · simp [q]
      · simp [q, Ne.symm q]
    rw [e]
    simp
theorem flat_ints (us : List Int) : (us.map V.int).all flatV = true := by
  rw [List.all_map]
  exact List.all_eq_true.mpr fun _ _ => rfl
theorem ok_l_is {f : Addr} {fd : FuncData} (F : Fun K "_law_is" "_law_is" s_l_is f fd) (B : Bt mg) {A_Tables : Addr} (T_Tables : CF K mg "Tables" A_Tables ["spots_by_number", "number_behind", "deeds_done", "last_group", "checkpoint_spots"]) (M_Tables_numbers : Mth P w K mg base CX0 A_Tables "numbers" 1 ["self"] (sp_Tables_numbers A_Tables)) (M_Tables_spot : Mth P w K mg base CX0 A_Tables "spot" 1 ["self", "number"] (sp_Tables_spot A_Tables)) (M_Tables_next_number : Mth P w K mg base CX0 A_Tables "next_number" 1 ["self"] (sp_Tables_next A_Tables)) (M_Tables_deeds : Mth P w K mg base CX0 A_Tables "deeds" 1 ["self"] (sp_Tables_deeds A_Tables)) (M_Tables_last : Mth P w K mg base CX0 A_Tables "last" 1 ["self"] (sp_Tables_last A_Tables)) (M_Tables_kept : Mth P w K mg base CX0 A_Tables "kept" 1 ["self"] (sp_Tables_kept A_Tables)) (C_law_whole : Cal P w K mg base CX0 "_law_whole" 1 ["thing"] sp_l_whole) : GnOk P w K mg base CX0 2 f fd ["tables", "due"] (sp_l_is K A_Tables) := by
  refine gn_fun F sc_l_is (fun vs H Q E h => ?_) (fun cdv A outer s H vs Q E hr h => ?_)
  · obtain ⟨x, d, l, t, s0, w0, kvs, nb, dd, lg, ws, rfl, _⟩ := h
    rfl
  · obtain ⟨x, d, l, t, s0, w0, kvs, nb, dd, lg, ws, rfl, hT, hD, hP, hA, k⟩ := h
    obtain ⟨ks, hks, _⟩ := hP.ks
    refine ⟨_, (pss_cons (ps_asg (pv 1) (pg_tup (by rfl) (pgs_cons (pg_name (i := 2) sc_l_is.nd rfl (Or.inr rfl)) (pgs_cons (pg_name (i := 3) sc_l_is.nd rfl (Or.inl rfl)) (pgs_cons (pg_name (i := 4) sc_l_is.nd rfl (Or.inl rfl)) (pgs_cons (pg_name (i := 5) sc_l_is.nd rfl (Or.inl rfl)) (pgs_cons (pg_name (i := 6) sc_l_is.nd rfl (Or.inl rfl)) pgs_nil)))))))
    (pss_cons (ps_set (i := 7) sc_l_is.nd rfl (Or.inr rfl) (pe_callB (call_sortedDI rfl) (by rfl) B.sorted (by decide +kernel) (pa_cons (pv 2) pa_nil)))
    (pss_cons (ps_if (PW.pt (pw_or (pt_not (pt_val (pe_callB (call_isiK K) (by rfl) B.isinstance (by decide +kernel) (pa_cons (pv 0) (pa_cons (pe_glob (by rfl) T_Tables.mgC (rel_r _)) pa_nil))))) (pw_or (pt_cmpR (op_neDK K hr.units) (pe_mth0 M_Tables_numbers T_Tables.cl (hr.mono (by decide)) pass0 (pv 0)) (pv 7) (nomark _)) (pw_or1 (pt_not (pt_val (pe_callB (call_isiK K) (by rfl) B.isinstance (by decide +kernel) (pa_cons (pe_mth0 M_Tables_numbers T_Tables.cl (hr.mono (by decide)) pass0 (pv 0)) (pa_cons (pe_bltn (v := .ty "list") (by rfl) B.list (by decide +kernel) rfl) pa_nil)))))))))
      (pss_one (ps_ret pe_bl))
      pss_nil)
    (pss_cons (ps_if (pt_cmpR (op_neDK K hr.units) (pe_lc (own := [("number", 10)]) (g := gName 10) (tt := tYes) (by rfl) sc_l_is.nd (pi_listK K (pv 7)) (blkOk_by (N := N_l_is) (sc := defScope s_l_is) (by decide +kernel)) (fun _ _ _ _ _ => pg_name (i := 10) sc_l_is.nd rfl (Or.inl rfl)) (fun _ _ _ _ _ => pts_nil) (fun _ _ _ _ _ => (pe_mth M_Tables_spot T_Tables.cl (hr.mono (by decide)) pass0 (pv 0) (pa_cons (pv 10) pa_nil)))) (pe_lc (own := [("number", 10)]) (g := gName 10) (tt := tYes) (by rfl) sc_l_is.nd (pi_listK K (pv 7)) (blkOk_by (N := N_l_is) (sc := defScope s_l_is) (by decide +kernel)) (fun _ _ _ _ _ => pg_name (i := 10) sc_l_is.nd rfl (Or.inl rfl)) (fun _ _ _ _ _ => pts_nil) (fun _ _ _ _ _ => (pe_dget hr.hu (pv 2) (pv 10) (fun _ _ => rfl)))) (nomark _))
      (pss_one (ps_ret pe_bl))
      pss_nil)
    (pss_cons (ps_set (i := 8) sc_l_is.nd rfl (Or.inl rfl) (pe_lst (pa_cons (pe_mth0 M_Tables_next_number T_Tables.cl (hr.mono (by decide)) pass0 (pv 0)) (pa_cons (pe_mth0 M_Tables_deeds T_Tables.cl (hr.mono (by decide)) pass0 (pv 0)) (pa_cons (pe_mth0 M_Tables_last T_Tables.cl (hr.mono (by decide)) pass0 (pv 0)) pa_nil)))))
    (pss_cons (ps_if (PW.pt (pw_or (pt_cmpR (op_neDK K hr.units) (pv 8) (pe_lst (pa_cons (pv 3) (pa_cons (pv 4) (pa_cons (pv 5) pa_nil)))) (nomark _)) (pw_or1 (pt_not (pt_val (pe_callB (cr_allK K rfl) (by rfl) B.all (by decide +kernel) (pa_cons (pe_lc (own := [("one", 11)]) (g := gName 11) (tt := tYes) (by rfl) sc_l_is.nd (pi_listK K (pv 8)) (blkOk_by (N := N_l_is) (sc := defScope s_l_is) (by decide +kernel)) (fun _ _ _ _ _ => pg_name (i := 11) sc_l_is.nd rfl (Or.inl rfl)) (fun _ _ _ _ _ => pts_nil) (fun _ _ _ _ _ => (pe_cal C_law_whole (hr.mono (by decide)) (by rfl) pass0 (pa_cons (pv 11) pa_nil)))) pa_nil)))))))
      (pss_one (ps_ret pe_bl))
      pss_nil)
    (pss_cons (ps_set (i := 9) sc_l_is.nd rfl (Or.inl rfl) (pe_ix (ix_listK K) (pe_lc (own := [("number", 10)]) (g := gName 10) (by rfl) sc_l_is.nd (pi_range1 (by rfl) B.range (pa_cons (pe_op op_add (pe_callB (call_lenK K) (by rfl) B.len (by decide +kernel) (pa_cons (pv 7) pa_nil)) pe_int) pa_nil)) (blkOk_by (N := N_l_is) (sc := defScope s_l_is) (by decide +kernel)) (fun _ _ _ _ _ => pg_name (i := 10) sc_l_is.nd rfl (Or.inl rfl)) (fun _ _ _ _ _ => pts_one (pt_cmpR (op_notIn_seqK K) (pv 10) (pv 7) (by rfl))) (fun _ _ _ _ _ => (pv 10))) pe_int (fun _ _ => rfl)))
    (pss_one (ps_ret (pe_and (pe_cmpR op_isN (pe_mth M_Tables_spot T_Tables.cl (hr.mono (by decide)) pass0 (pv 0) (pa_cons (pv 9) pa_nil)) pe_non (nomark _)) (pe_and (pe_callB (call_isiK K) (by rfl) B.isinstance (by decide +kernel) (pa_cons (pe_mth0 M_Tables_kept T_Tables.cl (hr.mono (by decide)) pass0 (pv 0)) (pa_cons (pe_bltn (v := .ty "list") (by rfl) B.list (by decide +kernel) rfl) pa_nil))) (pe_one (pe_cmpR (op_eqDK K hr.units) (pe_mth0 M_Tables_kept T_Tables.cl (hr.mono (by decide)) pass0 (pv 0)) (pv 6) (nomark _)))))))))))))), ?_⟩
    refine ⟨_, rfl, t, _, rfl, SqT.of hD.tp, rfl, _, _, rfl, _, _, rfl, _, _, rfl, _, _, rfl, _, _, rfl, rfl, ?_⟩
    have hlen : ks.length = kvs.length := by simpa using (congrArg List.length hks).symm
    have h24 := hP.l1
    refine ⟨_, rfl, s0, kvs, ks, rfl, .inl hD.dc, hks, by omega, fun ys l1 hp1 ho1 hl1 => ?_⟩
    have hyl : ys.length = kvs.length := by rw [hp1.length_eq, hlen]
    have e1 : Same H (upd H l1 (.lst (ys.map V.int))) := Same.new hl1
    obtain ⟨dx, hox⟩ := (hT.m e1).ob
    -- isinstance(tables, Tables)
    refine ⟨_, rfl, _, _, _, _, true, rfl, .own _, T_Tables.ty hox, kit_self _, true, rfl, ?_⟩
    refine iteF ?_
    -- tables.numbers() != numbers
    refine ⟨_, rfl, x, dx, _, rfl, hox, tab_no _ _ _ _ _ (by decide +kernel), x, d, l, kvs, nb, dd, lg, ws, ks, rfl, hT.m e1, hks, h24, fun ys2 l2 hp2 ho2 hl2 => ?_⟩
    obtain rfl : ys2 = ys := List.Perm.eq_of_pairwise (fun _ _ _ _ a b => Int.le_antisymm a b) ho2 ho1 (hp2.trans hp1.symm)
    have n12 : l1 ≠ l2 := ne_of_none upd_same hl2
    have e2 := e1.trans (Same.new (o := .lst (ys2.map V.int)) hl2)
    have q1 : (upd (upd H l1 (.lst (ys2.map V.int))) l2 (.lst (ys2.map V.int))) l1 = some (.lst (ys2.map V.int)) := by rw [upd_ne n12]; exact upd_same
    refine ⟨_, rfl, ne_same (Dp.ofLints upd_same) (Dp.ofLints q1) (Shp.ints (k := 0) ys2) ⟨false, rfl, ?_⟩⟩
    refine iteF ?_
    obtain ⟨dx2, hox2⟩ := (hT.m e2).ob
    refine ⟨_, rfl, x, dx2, _, rfl, hox2, tab_no _ _ _ _ _ (by decide +kernel), x, d, l, kvs, nb, dd, lg, ws, ks, rfl, hT.m e2, hks, h24, fun ys3 l3 hp3 ho3 hl3 => ?_⟩
    refine ⟨_, _, _, _, true, rfl, .ty _, .base (.lst upd_same), kit_ty (by decide +kernel), true, rfl, ?_⟩
    refine iteF ?_
    have e3 := e2.trans (Same.new (o := .lst (ys3.map V.int)) hl3)
    have q3 : (upd (upd (upd H l1 (.lst (ys2.map V.int))) l2 (.lst (ys2.map V.int))) l3 (.lst (ys3.map V.int))) l1 = some (.lst (ys2.map V.int)) := by
      rw [upd_ne (ne_of_none q1 hl3)]
      exact q1
    generalize upd (upd (upd H l1 (.lst (ys2.map V.int))) l2 (.lst (ys2.map V.int))) l3 (.lst (ys3.map V.int)) = H3 at e3 q3 ⊢
    -- the two comprehensions
    have mem_of : ∀ n ∈ ys2, ∃ v, valV kvs (Sum.inl n : Key) = some v ∧ AddrV K H v := fun n hn => by
      have hm : (Sum.inl n : Key) ∈ kvs.map (·.1) := by
        rw [hks]
        exact List.mem_map.mpr ⟨n, hp1.mem_iff.mp hn, rfl⟩
      obtain ⟨v, hv⟩ := valV_of_key hm
      exact ⟨v, hv, hP.vs _ (valV_mem hv)⟩
    let at_ : Int → V := fun n => (valV kvs (Sum.inl n : Key)).getD .non
    refine ⟨_, rfl, l1, rfl, ⟨_, SqL.of q3⟩, fun D hD1 => lc_list (K := K) (a := l1) (xs := ys2.map V.int) (fun i H4 => H4 D = some (.lst ((ys2.take i).map at_)) ∧ Same H3 H4) ⟨upd_same, Same.new hD1⟩ (fun i H4 _ ⟨_, s4⟩ => SqL.of (s4 l1 _ q3)) ?_ ?_⟩
    · rintro i y H4 hy ⟨h4, s4⟩
      rw [List.getElem?_map] at hy
      cases hyi : ys2[i]? with
      | none => rw [hyi] at hy; cases hy
      | some n =>
        rw [hyi] at hy
        obtain rfl : V.int n = y := by simpa using hy
        obtain ⟨dx4, hox4⟩ := (hT.m (e3.trans s4)).ob
        refine ⟨rfl, ?_⟩
        refine ⟨_, rfl, x, dx4, _, rfl, hox4, tab_no _ _ _ _ _ (by decide +kernel), _, rfl, x, d, l, kvs, nb, dd, lg, ws, n, rfl, hT.m (e3.trans s4), _, h4, sz_lt (by rw [List.length_map, List.length_take]; omega), ?_, Same.newer s4 hD1⟩
        rw [upd_same, take_snoc hyi, List.map_append]
        rfl
    · rintro H4 ⟨h4, s4⟩
      rw [List.length_map, List.take_length] at h4
      refine ⟨_, rfl, l1, rfl, ⟨_, SqL.of (s4 l1 _ q3)⟩, fun D2 hD2 => lc_list (K := K) (a := l1) (xs := ys2.map V.int) (fun i H5 => H5 D2 = some (.lst ((ys2.take i).map at_)) ∧ Same H4 H5) ⟨upd_same, Same.new hD2⟩ (fun i H5 _ ⟨_, s5⟩ => SqL.of (s5 l1 _ (s4 l1 _ q3))) ?_ ?_⟩
      · rintro i y H5 hy ⟨h5, s5⟩
        rw [List.getElem?_map] at hy
        cases hyi : ys2[i]? with
        | none => rw [hyi] at hy; cases hy
        | some n =>
          rw [hyi] at hy
          obtain rfl : V.int n = y := by simpa using hy
          obtain ⟨v, hv, _⟩ := mem_of n (List.mem_of_getElem? hyi)
          have hdc : H5 s0 = some (.dK kvs) := (e3.trans (s4.trans s5)) _ _ hD.dc
          refine ⟨rfl, ?_⟩
          refine ⟨_, rfl, _, rfl, s0, v, rfl, by rw [← hv]; exact DGet.k (k := Sum.inl n) hdc, _, h5, sz_lt (by rw [List.length_map, List.length_take]; omega), ?_, Same.newer s5 hD2⟩
          rw [upd_same, take_snoc hyi, List.map_append]
          show some (HO.lst _) = some (HO.lst (_ ++ [at_ n]))
          rw [show at_ n = v from by show (valV kvs (Sum.inl n : Key)).getD .non = v; rw [hv]; rfl]
      · rintro H5 ⟨h5, s5⟩
        rw [List.length_map, List.take_length] at h5
        have e5 := e3.trans (s4.trans s5)
        obtain ⟨ds, hds, hsh, _⟩ := addr_data (K := K) (H := H) (ws := ys2.map at_) fun v hv => by
          obtain ⟨n, hn, rfl⟩ := List.mem_map.mp hv
          obtain ⟨u, hu, ha⟩ := mem_of n hn
          show AddrV K H ((valV kvs (Sum.inl n : Key)).getD .non)
          rw [hu]
          exact ha
        have hds5 := hds.m (TS.of e5)
        refine ne_same (k := 2) (Dp.ofL (s5 _ _ h4) hds5) (Dp.ofL h5 hds5) (Shp.list hsh) ⟨false, rfl, ?_⟩
        refine iteF ?_
        -- told
        have hT5 := hT.m e5
        obtain ⟨dx5, hox5⟩ := hT5.ob
        have noM : ∀ m : Str, ([("spots_by_number" : Str), "number_behind", "deeds_done", "last_group", "checkpoint_spots"] : List Str).all (fun f => !decide (m = f)) = true → (tabF d l nb dd lg).lookup m = none := fun m hm => tab_no _ _ _ _ _ hm
        refine ⟨_, rfl, x, dx5, _, rfl, hox5, noM _ (by decide +kernel), x, d, l, kvs, nb, dd, lg, ws, rfl, hT5, _, rfl, x, dx5, _, rfl, hox5, noM _ (by decide +kernel), x, d, l, kvs, nb, dd, lg, ws, rfl, hT5, _, rfl, x, dx5, _, rfl, hox5, noM _ (by decide +kernel), x, d, l, kvs, nb, dd, lg, ws, rfl, hT5, sz_of (by simp), fun l6 hl6 => ?_⟩
        refine ⟨_, rfl, _, rfl, _, rfl, _, rfl, sz_of (by simp), fun l7 hl7 => ?_⟩
        have n67 : l6 ≠ l7 := ne_of_none upd_same hl7
        refine ne_same (k := 1) (d := .list ([nb, dd, lg].map PyData.int)) (Dp.ofLints (ns := [nb, dd, lg]) (by rw [upd_ne n67]; exact upd_same)) (Dp.ofLints (ns := [nb, dd, lg]) upd_same) (Shp.ints _) ⟨false, rfl, ?_⟩
        refine iteF ?_
        have e7 := (e5.trans (Same.new (o := .lst [.int nb, .int dd, .int lg]) hl6)).trans (Same.new (o := .lst [.int nb, .int dd, .int lg]) hl7)
        have q6 : (upd (upd H5 l6 (.lst [.int nb, .int dd, .int lg])) l7 (.lst [.int nb, .int dd, .int lg])) l6 = some (.lst ([nb, dd, lg].map V.int)) := by
          rw [upd_ne n67]
          exact upd_same
        have q71 : (upd (upd H5 l6 (.lst [.int nb, .int dd, .int lg])) l7 (.lst [.int nb, .int dd, .int lg])) l1 = some (.lst (ys2.map V.int)) := (((s4.trans s5).trans (Same.new hl6)).trans (Same.new hl7)) _ _ q3
        generalize upd (upd H5 l6 (.lst [.int nb, .int dd, .int lg])) l7 (.lst [.int nb, .int dd, .int lg]) = H7 at e7 q6 q71 ⊢
        -- all([..])
        refine ⟨_, rfl, l6, rfl, ⟨_, SqL.of q6⟩, fun D8 hD8 => lc_list (K := K) (a := l6) (xs := [nb, dd, lg].map V.int) (fun i H8 => H8 D8 = some (.lst ((List.replicate i true).map V.bl)) ∧ Same H7 H8) ⟨upd_same, Same.new hD8⟩ (fun i H8 _ ⟨_, s8⟩ => SqL.of (s8 l6 _ q6)) ?_ ?_⟩
        · rintro i y H8 hy ⟨h8, s8⟩
          have hi : i < 3 := (List.getElem?_eq_some_iff.mp hy).1
          obtain ⟨n, rfl⟩ : ∃ n, y = V.int n := by
            obtain ⟨n, _, e⟩ := List.mem_map.mp (List.mem_of_getElem? hy)
            exact ⟨n, e.symm⟩
          refine ⟨rfl, ?_⟩
          refine ⟨_, rfl, n, rfl, _, h8, sz_lt (by rw [List.length_map, List.length_replicate]; omega), ?_, Same.newer s8 hD8⟩
          rw [upd_same, List.replicate_succ', List.map_append]
          rfl
        · rintro H8 ⟨h8, s8⟩
          refine ⟨D8, List.replicate 3 true, rfl, SqL.of h8, true, rfl, ?_⟩
          refine iteF ?_
          -- other
          have q81 := s8 _ _ q71
          refine ⟨_, rfl, _, ys2.length, rfl, .inl ⟨_, SqL.of q81, by simp⟩, _, _, rfl, rfl, _, rfl, by omega, by omega, fun D9 hD9 => lc_range (lo := 0) (n := ys2.length + 1) (fun i H9 => H9 D9 = some (.lst (((List.range i).filter fun n : Nat => !decide ((n : Int) ∈ ys2)).map fun (n : Nat) => V.int (n : Int))) ∧ Same H8 H9) ⟨upd_same, Same.new hD9⟩ ?_ ?_⟩
          · rintro i H9 hi ⟨h9, s9⟩
            refine ⟨rfl, ?_⟩
            refine ⟨_, rfl, _, rfl, l1, _, rfl, .inl (SqL.of (s9 _ _ q81)), rfl, flat_ints _, _, rfl, ?_⟩
            rw [show (0 : Int) + (i : Int) = (i : Int) from Int.zero_add _, inV_ints]
            refine ite2 (fun c0 => ?_) (fun c0 => ?_)
            · have c : (!decide ((i : Int) ∈ ys2)) = true := c0
              refine ⟨_, rfl, _, h9, sz_lt ?_, ?_, Same.newer s9 hD9⟩
              · rw [List.length_map]
                have := List.length_filter_le (fun n : Nat => !decide ((n : Int) ∈ ys2)) (List.range i)
                rw [List.length_range] at this
                omega
              · rw [upd_same, List.range_succ, List.filter_append, List.map_append, List.filter_cons, if_pos c]
                rfl
            · have c : ¬(!decide ((i : Int) ∈ ys2)) = true := c0
              refine ⟨?_, s9⟩
              rw [List.range_succ, List.filter_append, List.map_append, List.filter_cons, if_neg c]
              show _ = some (HO.lst (_ ++ []))
              rw [List.append_nil]
              exact h9
          · rintro H9 ⟨h9, s9⟩
            obtain ⟨o, ho, hout⟩ := some_out (ys2.length + 1) ys2 (Nat.lt_succ_self _)
            have hmem : o ∈ (List.range (ys2.length + 1)).filter fun n : Nat => !decide ((n : Int) ∈ ys2) := List.mem_filter.mpr ⟨List.mem_range.mpr ho, by simp [hout]⟩
            cases hF : (List.range (ys2.length + 1)).filter fun n : Nat => !decide ((n : Int) ∈ ys2) with
            | nil => rw [hF] at hmem; cases hmem
            | cons f rest =>
              have hf : (f : Int) ∉ ys2 := by
                have : f ∈ (List.range (ys2.length + 1)).filter fun n : Nat => !decide ((n : Int) ∈ ys2) := by rw [hF]; exact List.mem_cons_self
                simpa using (List.mem_filter.mp this).2
              have hnone : valV kvs (Sum.inl (f : Int) : Key) = none := by
                cases hv : valV kvs (Sum.inl (f : Int) : Key) with
                | none => rfl
                | some v =>
                  have : (Sum.inl (f : Int) : Key) ∈ kvs.map (·.1) := List.mem_map.mpr ⟨_, valV_mem hv, rfl⟩
                  rw [hks] at this
                  obtain ⟨m, hm, e⟩ := List.mem_map.mp this
                  cases e
                  exact absurd (hp1.mem_iff.mpr hm) hf
              rw [hF] at h9
              refine ⟨D9, _, _, _, rfl, rfl, SqL.of h9, atI_nat (j := 0) rfl, ?_⟩
              have e9 := e7.trans (s8.trans s9)
              have hT9 := hT.m e9
              obtain ⟨dx9, hox9⟩ := hT9.ob
              refine ⟨_, rfl, x, dx9, _, rfl, hox9, noM _ (by decide +kernel), _, rfl, x, d, l, kvs, nb, dd, lg, ws, (f : Int), rfl, hT9, rfl, true, ?_, ?_⟩
              · rw [hnone]
                rfl
              refine iteT ?_
              refine ⟨_, rfl, x, dx9, _, rfl, hox9, noM _ (by decide +kernel), x, d, l, kvs, nb, dd, lg, ws, rfl, hT9, fun l10 hl10 => ?_⟩
              refine ⟨_, _, _, _, true, rfl, .ty _, .base (.lst upd_same), kit_ty (by decide +kernel), true, rfl, ?_⟩
              refine iteT ?_
              have e10 := e9.trans (Same.new (o := .lst ws) hl10)
              have hT10 := hT.m e10
              obtain ⟨dx10, hox10⟩ := hT10.ob
              refine ⟨_, rfl, x, dx10, _, rfl, hox10, noM _ (by decide +kernel), x, d, l, kvs, nb, dd, lg, ws, rfl, hT10, fun l11 hl11 => ?_⟩
              obtain ⟨ds2, hds2, hsh2, _⟩ := addr_data hA.2
              have e11 := e10.trans (Same.new (o := .lst ws) hl11)
              refine ⟨_, rfl, eq_same (k := 2) (Dp.ofL upd_same (hds2.m (TS.of e11))) (Dp.ofL (e11 _ _ hD.ls) (hds2.m (TS.of e11))) (Shp.list hsh2) ?_⟩
              exact k _ e11
abbrev s_l_drawn : Stmt := topS 11
abbrev N_l_drawn : List Str := ["pot", "standing", "where", "k"]
theorem sc_l_drawn : FnScope N_l_drawn ["pot"] (defScope s_l_drawn) := ⟨rfl, rfl, rfl, by decide +kernel, rfl, by decide +kernel, by decide +kernel⟩
def sp_l_drawn (K : PySem.W.Frag) : Sp := fun vs H Q _ => ∃ (p : Addr) (a b : Int), vs = [.ref p] ∧ Pot H p a b ∧
  ∀ (t s w : Addr) (kvs : List (Key × V)) (nb dd lg : Int) (ws : List V) (H' : Hp) (a' b' : Int), SameBut p H H' → Pot H' p a' b' → Due H' t s w kvs nb dd lg ws → Pl K H' kvs → Ad K H' ws →
    t ≠ p → s ≠ p → w ≠ p → Q (.ref t) H'
theorem ok_l_drawn {f : Addr} {fd : FuncData} (F : Fun K "_law_drawn" "_law_drawn" s_l_drawn f fd) (B : Bt mg) (C_law_places : Cal P w K mg base CX0 "_law_places" 4 ["pot", "most"] (sp_l_places K)) (C_law_address : Cal P w K mg base CX0 "_law_address" 3 ["pot"] (sp_l_address K)) (C_law_number : Cal P w K mg base CX0 "_law_number" 2 ["pot"] sp_l_number) (C_law_take : Cal P w K mg base CX0 "_law_take" 1 ["pot", "many"] sp_l_tk) : GnOk P w K mg base CX0 5 f fd ["pot"] (sp_l_drawn K) := by
  refine gn_fun F sc_l_drawn (fun vs H Q E h => ?_) (fun cdv A outer s H vs Q E hr h => ?_)
  · obtain ⟨p, a, b, rfl, _⟩ := h
    rfl
  · obtain ⟨p, a, b, rfl, hp, k⟩ := h
    refine ⟨_, (pss_cons (ps_set (i := 1) sc_l_drawn.nd rfl (Or.inl rfl) (pe_cal C_law_places (hr.mono (by decide)) (by rfl) pass0 (pa_cons (pv 0) (pa_cons pe_int pa_nil))))
    (pss_cons (ps_setLc (i := 2) (own := [("k", 3)]) (g := gName 3) (tt := tYes) (by rfl) sc_l_drawn.nd rfl rfl (sw_true rfl rfl rfl (by decide +kernel)) (pi_range1 (by rfl) B.range (pa_cons (pe_op op_add pe_int (pe_cal C_law_take (hr.mono (by decide)) (by rfl) pass0 (pa_cons (pv 0) (pa_cons pe_int pa_nil)))) pa_nil)) (blkOk_by (N := N_l_drawn) (sc := defScope s_l_drawn) (by decide +kernel)) (fun _ _ _ _ _ => pg_name (i := 3) sc_l_drawn.nd rfl (Or.inl rfl)) (fun _ _ _ _ _ => pts_nil) (fun _ _ _ _ _ => (pe_cal C_law_address (hr.mono (by decide)) (by rfl) pass0 (pa_cons (pv 0) pa_nil))))
    (pss_one (ps_ret (pe_tup (pa_cons (pv 1) (pa_cons (pe_cal C_law_number (hr.mono (by decide)) (by rfl) pass0 (pa_cons (pv 0) pa_nil)) (pa_cons (pe_cal C_law_number (hr.mono (by decide)) (by rfl) pass0 (pa_cons (pv 0) pa_nil)) (pa_cons (pe_cal C_law_number (hr.mono (by decide)) (by rfl) pass0 (pa_cons (pv 0) pa_nil)) (pa_cons (pv 2) pa_nil)))))))))), ?_⟩
    refine ⟨_, rfl, p, _, _, _, rfl, hp, by decide, by decide, fun s kvs H1 a1 b1 s1 p1 hs hd hP => ?_⟩
    have nsp : s ≠ p := hp.ne hs
    refine ⟨_, rfl, p, _, _, _, rfl, p1, by decide, by decide, fun n2 a2 b2 H2 s2 p2 h20 h21 => ?_⟩
    refine ⟨_, _, rfl, rfl, _, rfl, by omega, by omega, fun D hD => ?_⟩
    have nDp : D ≠ p := p2.ne hD
    have s12 := s1.trans s2
    refine lc_range (lo := 0) (n := (1 + n2).toNat) (fun i H3 => ∃ ws a' b', H3 D = some (.lst ws) ∧ ws.length = i ∧ (∀ v ∈ ws, AddrV K H3 v) ∧ Pot H3 p a' b' ∧ SameBut p H2 H3) ⟨[], _, _, upd_same, rfl, (fun _ h => nomatch h), p2.new hD, SameBut.of (Same.new hD)⟩ ?_ ?_
    · rintro i H3 hi ⟨ws, a3, b3, h3, hl3, hv3, p3, s3⟩
      refine ⟨rfl, ?_⟩
      refine ⟨_, rfl, p, _, _, rfl, p3, fun v H4 a4 b4 s4 p4 hv => ?_⟩
      have h4 := s4.at h3 nDp
      refine ⟨_, h4, sz_lt (by omega), ws ++ [v], _, _, upd_same, by rw [List.length_append, hl3]; rfl, fun x hx => ?_, p4.other nDp, (s3.trans s4).newer hD⟩
      have t4 : TS H4 (upd H4 D (.lst (ws ++ [v]))) := TS.lst h4
      rcases List.mem_append.mp hx with hx | hx
      · exact ((hv3 x hx).m (TS.pot s4 p3)).m t4
      · rw [List.mem_singleton.mp hx]
        exact hv.m t4
    · rintro H3 ⟨ws, a3, b3, h3, hl3, hv3, p3, s3⟩
      have s123 := s12.trans s3
      refine ⟨_, rfl, _, rfl, p, _, _, rfl, p3, fun n4 H4 a4 b4 s4 p4 h40 h41 => ?_⟩
      refine ⟨_, rfl, p, _, _, rfl, p4, fun n5 H5 a5 b5 s5 p5 h50 h51 => ?_⟩
      refine ⟨_, rfl, p, _, _, rfl, p5, fun n6 H6 a6 b6 s6 p6 h60 h61 => ?_⟩
      refine ⟨_, rfl, sz_of (by simp), fun t ht => ?_⟩
      have s36 := (s4.trans s5).trans s6
      have t36 : TS H3 H6 := TS.pot s36 p3
      have t7 : TS H6 (upd H6 t (.tup [.ref s, .int n4, .int n5, .int n6, .ref D])) := TS.new ht
      have hd6 : H6 s = some (.dK kvs) := ((s2.trans s3).trans s36).at hd nsp
      have hw6 : H6 D = some (.lst ws) := s36.at h3 nDp
      have sa : SameBut p H H6 := s123.trans s36
      exact k t s D kvs n4 n5 n6 ws _ _ _ (sa.new ht) (p6.new ht) ⟨upd_same, (Same.new ht) _ _ hd6, (Same.new ht) _ _ hw6⟩
        (((hP.m (TS.pot (s2.trans s3) p1)).m t36).m t7) ⟨by rw [hl3]; omega, fun v hv => ((hv3 v hv).m t36).m t7⟩ (p6.ne ht) nsp nDp
abbrev s_l_made : Stmt := topS 12
abbrev N_l_made : List Str := ["pot", "one", "standing", "behind", "done", "number", "where", "handed", "row", "found"]
theorem sc_l_made : FnScope N_l_made ["pot", "one"] (defScope s_l_made) := ⟨rfl, rfl, rfl, by decide +kernel, rfl, by decide +kernel, by decide +kernel⟩
def sp_l_made (K : PySem.W.Frag) (C : Addr) : Sp := fun vs H Q _ => ∃ (p : Addr) (a b : Int) (t s0 w0 : Addr) (kvs : List (Key × V)) (nb dd lg : Int) (ws : List V), vs = [.ref p, .ref t] ∧ Pot H p a b ∧ Due H t s0 w0 kvs nb dd lg ws ∧ Pl K H kvs ∧ Ad K H ws ∧ s0 ≠ p ∧ w0 ≠ p ∧
  ∀ (x d l : Addr) (H' : Hp) (a' b' : Int), SameBut p H H' → Pot H' p a' b' → Tab C H' x d l kvs nb dd lg ws → x ≠ p → d ≠ p → l ≠ p → Q (.ref x) H'
/-- both ways end alike -/
theorem two_ends {α : Type} (R : α → Hp → Prop) {G : Prop} {F : α → Hp → Prop} (h : (∀ x H, R x H → F x H) → G) (hF : ∀ x H, R x H → F x H) : G := h hF
/-- the told pairs of a dict are data -/
theorem pair_data {K : PySem.W.Frag} {H : Hp} : ∀ {kvs : List (Key × V)}, (∃ ns : List Int, kvs.map (·.1) = ns.map Sum.inl) → (∀ p ∈ kvs, AddrV K H p.2) →
    ∃ ds : List PyData, (∀ (ts : List Addr) (H' : Hp), TS H H' → Paired (fun (t : Addr) (q : Key × V) => H' t = some (.tup [kV q.1, q.2])) ts kvs → DtAll K H' (ts.map V.ref) ds) ∧ ∀ d ∈ ds, Shp 2 d
  | [], _, _ => ⟨[], fun ts H' _ h => by cases h; exact .nil, fun _ h => nomatch h⟩
  | q :: r, ⟨ns, hns⟩, hv => by
    cases ns with
    | nil => cases hns
    | cons n ns =>
      have h1 : q.1 = Sum.inl n := (List.cons.inj hns).1
      obtain ⟨ds, a, b⟩ := pair_data (kvs := r) ⟨ns, (List.cons.inj hns).2⟩ fun p hp => hv p (List.mem_cons_of_mem _ hp)
      obtain ⟨i, j, hd, _⟩ := hv q List.mem_cons_self
      refine ⟨.tuple [.int n, .tuple [.int i, .int j]] :: ds, fun ts H' t h => ?_, fun d hd => ?_⟩
      · cases h with
        | cons e es =>
          refine .cons ?_ (a _ H' t es)
          rw [h1] at e
          exact Dt.tup (SqT.of e) (.cons (.int _) (.cons (hd.m t) .nil))
      · rcases List.mem_cons.mp hd with rfl | hd
        · refine Shp.tuple (k := 1) fun d hd => ?_
          rcases List.mem_cons.mp hd with rfl | hd
          · exact Shp.int _
          · rw [List.mem_singleton.mp hd]
            refine Shp.tuple (k := 0) fun d hd => ?_
            rcases List.mem_cons.mp hd with rfl | hd
            · exact Shp.int _
            · rw [List.mem_singleton.mp hd]
              exact Shp.int _
        · exact b d hd
theorem ok_l_made {f : Addr} {fd : FuncData} (F : Fun K "_law_made" "_law_made" s_l_made f fd) (B : Bt mg) {A_Tables : Addr} (T_Tables : CF K mg "Tables" A_Tables ["spots_by_number", "number_behind", "deeds_done", "last_group", "checkpoint_spots"]) (I_Tables : Mkr P w K mg base CX0 A_Tables 1 ["self", "places", "next_number", "deeds", "last", "kept"] (sp_Tables_init K A_Tables)) (I_Tables_kw0_kept_last_places_deeds_next_number : MkrK P w K mg base CX0 A_Tables 1 ["self", "places", "next_number", "deeds", "last", "kept"] 0 ["kept", "last", "places", "deeds", "next_number"] (fun us ws => [us.getD 0 V.non, ws.getD 2 V.non, ws.getD 4 V.non, ws.getD 3 V.non, ws.getD 1 V.non, ws.getD 0 V.non]) (sp_Tables_init K A_Tables)) (C_law_take : Cal P w K mg base CX0 "_law_take" 1 ["pot", "many"] sp_l_tk) : GnOk P w K mg base CX0 3 f fd ["pot", "one"] (sp_l_made K A_Tables) := by
  refine gn_fun F sc_l_made (fun vs H Q E h => ?_) (fun cdv A outer s H vs Q E hr h => ?_)
  · obtain ⟨p, a, b, t, s0, w0, kvs, nb, dd, lg, ws, rfl, _⟩ := h
    rfl
  · obtain ⟨p, a, b, t, s0, w0, kvs, nb, dd, lg, ws, rfl, hp, hD, hP, hA, nsp, nwp, k⟩ := h
    refine ⟨_, (pss_cons (ps_asg (pv 1) (pg_tup (by rfl) (pgs_cons (pg_name (i := 2) sc_l_made.nd rfl (Or.inl rfl)) (pgs_cons (pg_name (i := 3) sc_l_made.nd rfl (Or.inl rfl)) (pgs_cons (pg_name (i := 4) sc_l_made.nd rfl (Or.inl rfl)) (pgs_cons (pg_name (i := 5) sc_l_made.nd rfl (Or.inl rfl)) (pgs_cons (pg_name (i := 6) sc_l_made.nd rfl (Or.inl rfl)) pgs_nil)))))))
    (pss_cons (ps_par (i := 7) (j := 8) (by rfl) sc_l_made.nd rfl rfl (by decide) rfl rfl (pa_cons (pe_callTy call_dictD (by rfl) B.dict (by decide +kernel) (pa_cons (pv 2) pa_nil)) (pa_cons (pe_ix (ix_listK K) (pe_lst (pa_cons (pe_callTy (call_list_ofK K) (by rfl) B.list (by decide +kernel) (pa_cons (pv 6) pa_nil)) (pa_cons (pe_callTy (call_tuple_ofK K) (by rfl) B.tuple (by decide +kernel) (pa_cons (pv 6) pa_nil)) pa_nil))) (pe_cal C_law_take (hr.mono (by decide)) (by rfl) pass0 (pa_cons (pv 0) (pa_cons pe_int pa_nil))) (fun _ _ => rfl)) pa_nil)) (by rfl))
    (pss_cons (ps_if (pt_cmpR op_eq (pe_cal C_law_take (hr.mono (by decide)) (by rfl) pass0 (pa_cons (pv 0) (pa_cons pe_int pa_nil))) pe_int (nomark _))
      (pss_one (ps_set (i := 9) sc_l_made.nd rfl (Or.inl rfl) (pe_mk I_Tables (hr.mono (by decide)) (by rfl) T_Tables.mgC pass0 (pa_cons (pv 7) (pa_cons (pv 3) (pa_cons (pv 4) (pa_cons (pv 5) (pa_cons (pv 8) pa_nil))))))))
      (pss_one (ps_set (i := 9) sc_l_made.nd rfl (Or.inl rfl) (pe_mkk0 I_Tables_kw0_kept_last_places_deeds_next_number (hr.mono (by decide)) (by rfl) T_Tables.mgC pass0 (pk_cons (pv 8) (pk_cons (pv 5) (pk_cons (pv 7) (pk_cons (pv 4) (pk_cons (pv 3) pk_nil)))))))))
    (pss_cons (ps_if (PW.pt (pw_or (pt_cmpR (op_neDK K hr.units) (LiI.pe_listItems rfl (pv 7) (by rfl) B.list (by decide +kernel)) (LiI.pe_listItems rfl (pv 2) (by rfl) B.list (by decide +kernel)) (nomark _)) (pw_or1 (pt_cmpR (op_neDK K hr.units) (pe_callTy (call_list_ofK K) (by rfl) B.list (by decide +kernel) (pa_cons (pv 8) pa_nil)) (pv 6) (nomark _)))))
      (pss_one (ps_ret pe_non))
      pss_nil)
    (pss_cons (ps_dput hr.hu (pv 7) pe_int (pe_tup (pa_cons pe_int (pa_cons pe_int pa_nil))) rfl)
    (pss_cons (ps_expr (pe_dpop1 (pv 7) (pe_ix (ix_listK K) (pe_callB (call_sortedDI rfl) (by rfl) B.sorted (by decide +kernel) (pa_cons (pv 2) pa_nil)) pe_int (fun _ _ => rfl)) ⟨by rfl, by rfl, by rfl, by rfl⟩))
    (pss_cons (ps_if (pt_val (pe_callB (call_isiK K) (by rfl) B.isinstance (by decide +kernel) (pa_cons (pv 8) (pa_cons (pe_bltn (v := .ty "list") (by rfl) B.list (by decide +kernel) rfl) pa_nil))))
      (pss_one (ps_expr (pe_bmK K PySem.F.plainAttrs_list PySem.F.slot_list_append PySem.F.type_list_append mt_append (pv 8) (pa_cons (pe_tup (pa_cons pe_int (pa_cons pe_int pa_nil))) pa_nil))))
      pss_nil)
    (pss_one (ps_ret (pv 9)))))))))), ?_⟩
    refine ⟨_, rfl, t, _, rfl, SqT.of hD.tp, rfl, _, _, rfl, _, _, rfl, _, _, rfl, _, _, rfl, _, _, rfl, rfl, ?_⟩
    refine ⟨_, rfl, s0, kvs, rfl, .inl hD.dc, fun h1 hh1 => ?_⟩
    refine ⟨_, rfl, w0, ws, rfl, .inl (SqL.of ((Same.new hh1) _ _ hD.ls)), fun l1 hl1 => ?_⟩
    refine ⟨_, rfl, w0, ws, rfl, .inl ⟨SqL.of ((Same.new hl1) _ _ ((Same.new hh1) _ _ hD.ls)), fun t1 ht1 => ?_⟩⟩
    refine ⟨sz_of (by simp), fun q hq => ?_⟩
    have nqp : q ≠ p := (((hp.new hh1).new hl1).new ht1).ne hq
    refine ⟨_, rfl, p, _, _, _, rfl, (((hp.new hh1).new hl1).new ht1).new hq, by decide, by decide, fun i1 a1 b1 H1 s1 p1 h10 h11 => ?_⟩
    have e0 : Same H (upd (upd (upd (upd H h1 (.dK kvs)) l1 (.lst ws)) t1 (.tup ws)) q (.lst [.ref l1, .ref t1])) := (((Same.new hh1).trans (Same.new hl1)).trans (Same.new ht1)).trans (Same.new hq)
    have fl1 : H l1 = none := SameBut.free (p := p) (SameBut.of (Same.new hh1)) hl1 ((hp.new hh1).ne hl1)
    have ft1 : H t1 = none := SameBut.free (p := p) (SameBut.of ((Same.new hh1).trans (Same.new hl1))) ht1 (((hp.new hh1).new hl1).ne ht1)
    have nhp : h1 ≠ p := hp.ne hh1
    have hh : H1 h1 = some (.dK kvs) := s1.at ((((Same.new hl1).trans (Same.new ht1)).trans (Same.new hq)) _ _ upd_same) nhp
    have hs01 : SameBut p H H1 := (SameBut.of e0).trans s1
    -- the row handed in
    obtain ⟨rv, hrv, hrm⟩ := atI_mem (xs := [V.ref l1, V.ref t1]) (i := i1) h10 h11
    obtain ⟨r, rfl, fr, hr1⟩ : ∃ r, rv = V.ref r ∧ H r = none ∧ (H1 r = some (.lst ws) ∨ H1 r = some (.tup ws)) := by
      simp only [List.mem_cons, List.not_mem_nil, or_false] at hrm
      rcases hrm with e | e
      · exact ⟨l1, e, fl1, .inl (s1.at (((Same.new ht1).trans (Same.new hq)) _ _ upd_same) (hp.ne fl1))⟩
      · exact ⟨t1, e, ft1, .inr (s1.at ((Same.new hq) _ _ upd_same) (hp.ne ft1))⟩
    have nrp : r ≠ p := hp.ne fr
    have nhr : h1 ≠ r := fun e => by
      rw [← e, hh] at hr1
      rcases hr1 with h | h <;> cases h
    refine ⟨q, _, _, _, rfl, rfl, SqL.of (s1.at upd_same nqp), hrv, _, _, rfl, ?_⟩
    -- the two ways to make
    refine ⟨_, rfl, p, _, _, _, rfl, p1, by decide, by decide, fun i2 a2 b2 H2 s2 p2 h20 h21 => ?_⟩
    have hh2 := s2.at hh nhp
    have hr2 : H2 r = some (.lst ws) ∨ H2 r = some (.tup ws) := hr1.imp (fun h => s2.at h nrp) fun h => s2.at h nrp
    have hsq2 : SqL K H2 r ws ∨ SqT K H2 r ws := hr2.imp SqL.of SqT.of
    refine ⟨rfl, _, rfl, ?_⟩
    refine two_ends (F := ?F) (fun (x : Addr) H3 => ∃ d l, Same H2 H3 ∧ H2 x = none ∧ H2 d = none ∧ H2 l = none ∧ Tab A_Tables H3 x d l kvs nb dd lg ws) (fun kk => ite2 (fun c => ?w1) (fun c => ?w2)) ?rest
    case w1 =>
      refine ⟨_, rfl, _, rfl, _, rfl, _, rfl, _, rfl, fun x dx hx hdx nd => ?_⟩
      have e3 : Same H2 (upd (upd H2 dx (.own x)) x (.ins A_Tables dx [])) := (Same.new hdx).trans (Same.new (by rw [upd_ne nd.symm]; exact hx))
      refine ⟨x, h1, r, kvs, nb, dd, lg, ws, dx, rfl, upd_same, e3 _ _ hh2, hsq2.imp (fun q => e3.seq q) (fun q => (TS.of e3).seq q), fun d l H4 s4 fd4 fl4 hT => ⟨rfl, ?_⟩⟩
      exact kk x H4 ⟨d, l, Same.but e3 s4 hx, hx, e3.free fd4, e3.free fl4, hT⟩
    case w2 =>
      refine ⟨_, rfl, _, rfl, _, rfl, _, rfl, _, rfl, rfl, rfl, fun x dx hx hdx nd => ?_⟩
      have e3 : Same H2 (upd (upd H2 dx (.own x)) x (.ins A_Tables dx [])) := (Same.new hdx).trans (Same.new (by rw [upd_ne nd.symm]; exact hx))
      refine ⟨x, h1, r, kvs, nb, dd, lg, ws, dx, rfl, upd_same, e3 _ _ hh2, hsq2.imp (fun q => e3.seq q) (fun q => (TS.of e3).seq q), fun d l H4 s4 fd4 fl4 hT => ⟨rfl, ?_⟩⟩
      exact kk x H4 ⟨d, l, Same.but e3 s4 hx, hx, e3.free fd4, e3.free fl4, hT⟩
    case rest =>
      rintro x H3 ⟨d, l, e3, fx, fd, fl, hT⟩
      have sH2 : SameBut p H H2 := hs01.trans s2
      have sH3 : SameBut p H H3 := sH2.same e3
      have p3 : Pot H3 p a2 b2 := ⟨e3 _ _ p2.1, p2.2⟩
      have hh3 : H3 h1 = some (.dK kvs) := e3 _ _ hh2
      have hs3 : H3 s0 = some (.dK kvs) := sH3.at hD.dc nsp
      have hw3 : H3 w0 = some (.lst ws) := sH3.at hD.ls nwp
      obtain ⟨ds, hds, hsh⟩ := pair_data (H := H) (hP.ks.imp fun _ h => h.1) hP.vs
      have t03 : TS H H3 := TS.pot sH3 hp
      refine ⟨_, rfl, h1, kvs, rfl, hh3, fun H4 q4 ts4 e4 _ _ _ hq4 hp4 => ?_⟩
      have e4' : Same H3 H4 := e4
      refine ⟨_, rfl, s0, kvs, rfl, e4 _ _ hs3, fun H5 q5 ts5 e5 _ _ _ hq5 hp5 => ?_⟩
      have e5' : Same H4 H5 := e5
      refine ne_same (k := 3) (Dp.ofL (e5 _ _ hq4) ((hds ts4 H4 (t03.trans (TS.of e4')) hp4).m (TS.of e5'))) (Dp.ofL hq5 (hds ts5 H5 ((t03.trans (TS.of e4')).trans (TS.of e5')) hp5)) (Shp.list hsh) ⟨false, rfl, ?_⟩
      have hr5 : H5 r = some (.lst ws) ∨ H5 r = some (.tup ws) := hr2.imp (fun h => e5 _ _ (e4 _ _ (e3 _ _ h))) fun h => e5 _ _ (e4 _ _ (e3 _ _ h))
      refine ⟨_, rfl, r, ws, rfl, hr5.imp SqL.of SqT.of, fun l6 hl6 => ?_⟩
      obtain ⟨ds2, hds2, hsh2, _⟩ := addr_data hA.2
      have e6 : Same H5 (upd H5 l6 (.lst ws)) := Same.new hl6
      have t06 : TS H (upd H5 l6 (.lst ws)) := (t03.trans (TS.of (e4'.trans e5'))).trans (TS.of e6)
      refine ⟨_, rfl, ne_same (k := 2) (Dp.ofL upd_same (hds2.m t06)) (Dp.ofL (e6 _ _ (e5 _ _ (e4 _ _ hw3))) (hds2.m t06)) (Shp.list hsh2) ⟨false, rfl, ?_⟩⟩
      refine iteF ?_
      have e36 : Same H3 (upd H5 l6 (.lst ws)) := (e4'.trans e5').trans e6
      have hh6 := e36 _ _ hh3
      have hr6 : (upd H5 l6 (.lst ws)) r = some (.lst ws) ∨ (upd H5 l6 (.lst ws)) r = some (.tup ws) := hr5.imp (fun h => e6 _ _ h) fun h => e6 _ _ h
      have hT6 := hT.m e36
      have hs6 := e36 _ _ hs3
      have p6 : Pot (upd H5 l6 (.lst ws)) p a2 b2 := ⟨e36 _ _ p3.1, p3.2⟩
      have sH6 := sH3.same e36
      generalize (upd H5 l6 (.lst ws)) = H6 at hh6 hr6 hT6 hs6 p6 sH6 ⊢
      have ndh : d ≠ h1 := fun e => by rw [e, hh2] at fd; cases fd
      have nlh : l ≠ h1 := fun e => by rw [e, hh2] at fl; cases fl
      have nxh : x ≠ h1 := fun e => by rw [e, hh2] at fx; cases fx
      have ndr : d ≠ r := fun e => by rw [e] at fd; rcases hr2 with h | h <;> (rw [fd] at h; cases h)
      have nlr : l ≠ r := fun e => by rw [e] at fl; rcases hr2 with h | h <;> (rw [fl] at h; cases h)
      have nxr : x ≠ r := fun e => by rw [e] at fx; rcases hr2 with h | h <;> (rw [fx] at h; cases h)
      have nxp : x ≠ p := p2.ne fx
      have ndp : d ≠ p := p2.ne fd
      have nlp : l ≠ p := p2.ne fl
      have nsh : s0 ≠ h1 := ne_of_none hD.dc hh1
      have nsr : s0 ≠ r := ne_of_none hD.dc fr
      -- handed[7] = (1, 1)
      have h24 := hP.l1
      refine ⟨sz_of (by simp), fun tt htt => ?_⟩
      have e7 : Same H6 (upd H6 tt (.tup [.int 1, .int 1])) := Same.new htt
      refine ⟨_, rfl, h1, _, rfl, DPut.k (k := Sum.inl 7) (e7 _ _ hh6) (sz_lt (by omega)), ?_⟩
      have hs7 : (upd (upd H6 tt (.tup [.int 1, .int 1])) h1 (.dK (putK kvs (Sum.inl 7) (.ref tt)))) s0 = some (.dK kvs) := by rw [upd_ne nsh]; exact e7 _ _ hs6
      have hh7 : (upd (upd H6 tt (.tup [.int 1, .int 1])) h1 (.dK (putK kvs (Sum.inl 7) (.ref tt)))) h1 = some (.dK (putK kvs (Sum.inl 7) (.ref tt))) := upd_same
      have hr7 : (upd (upd H6 tt (.tup [.int 1, .int 1])) h1 (.dK (putK kvs (Sum.inl 7) (.ref tt)))) r = some (.lst ws) ∨ (upd (upd H6 tt (.tup [.int 1, .int 1])) h1 (.dK (putK kvs (Sum.inl 7) (.ref tt)))) r = some (.tup ws) := hr6.imp (fun h => by rw [upd_ne nhr.symm]; exact e7 _ _ h) fun h => by rw [upd_ne nhr.symm]; exact e7 _ _ h
      have hT7 : Tab A_Tables (upd (upd H6 tt (.tup [.int 1, .int 1])) h1 (.dK (putK kvs (Sum.inl 7) (.ref tt)))) x d l kvs nb dd lg ws := by
        have q := hT6.m e7
        exact ⟨q.ob.imp fun _ h => by rw [upd_ne nxh]; exact h, by rw [upd_ne ndh]; exact q.dc, by rw [upd_ne nlh]; exact q.ls⟩
      have p7 : Pot (upd (upd H6 tt (.tup [.int 1, .int 1])) h1 (.dK (putK kvs (Sum.inl 7) (.ref tt)))) p a2 b2 := (p6.new htt).other nhp
      have sH7 : SameBut p H (upd (upd H6 tt (.tup [.int 1, .int 1])) h1 (.dK (putK kvs (Sum.inl 7) (.ref tt)))) := (sH6.same e7).newer hh1
      generalize (upd (upd H6 tt (.tup [.int 1, .int 1])) h1 (.dK (putK kvs (Sum.inl 7) (.ref tt)))) = H7 at hs7 hh7 hr7 hT7 p7 sH7 ⊢
      -- handed.pop(sorted(standing)[0])
      obtain ⟨ks, hks, _⟩ := hP.ks
      have hlen : ks.length = kvs.length := by simpa using (congrArg List.length hks).symm
      have h0 := hP.l0
      refine ⟨_, rfl, h1, rfl, .inl ⟨_, .inl hh7⟩, _, rfl, s0, kvs, ks, rfl, .inl hs7, hks, by omega, fun ys l8 hp8 ho8 hl8 => ?_⟩
      have hyl : ys.length = kvs.length := by rw [hp8.length_eq, hlen]
      cases ys with
      | nil => exact absurd hyl (by simp; omega)
      | cons y ys' =>
        refine ⟨l8, _, _, _, rfl, rfl, SqL.of upd_same, atI_nat (j := 0) rfl, ?_⟩
        have e8 : Same H7 (upd H7 l8 (.lst ((y :: ys').map V.int))) := Same.new hl8
        have hin : (Sum.inl y : Key) ∈ kvs.map (·.1) := by
          rw [hks]
          exact List.mem_map.mpr ⟨y, hp8.mem_iff.mp List.mem_cons_self, rfl⟩
        obtain ⟨v, hv⟩ : ∃ v, valV (putK kvs (Sum.inl 7) (.ref tt)) (Sum.inl y : Key) = some v := by
          refine valV_of_key ?_
          cases hv : valV kvs (Sum.inl 7 : Key) with
          | some u =>
            rw [putK_keys (by rw [hv]; rfl)]
            exact hin
          | none =>
            rw [putK_new _ hv, List.map_append]
            exact List.mem_append_left _ hin
        refine ⟨_, Sum.inl y, v, e8 _ _ hh7, rfl, hv, ?_⟩
        have hr9 : (upd (upd H7 l8 (.lst ((y :: ys').map V.int))) h1 (.dK (dropK (putK kvs (Sum.inl 7) (.ref tt)) (Sum.inl y)))) r = some (.lst ws) ∨ (upd (upd H7 l8 (.lst ((y :: ys').map V.int))) h1 (.dK (dropK (putK kvs (Sum.inl 7) (.ref tt)) (Sum.inl y)))) r = some (.tup ws) := hr7.imp (fun h => by rw [upd_ne nhr.symm]; exact e8 _ _ h) fun h => by rw [upd_ne nhr.symm]; exact e8 _ _ h
        have hT9 : Tab A_Tables (upd (upd H7 l8 (.lst ((y :: ys').map V.int))) h1 (.dK (dropK (putK kvs (Sum.inl 7) (.ref tt)) (Sum.inl y)))) x d l kvs nb dd lg ws := by
          have q := hT7.m e8
          exact ⟨q.ob.imp fun _ h => by rw [upd_ne nxh]; exact h, by rw [upd_ne ndh]; exact q.dc, by rw [upd_ne nlh]; exact q.ls⟩
        have p9 : Pot (upd (upd H7 l8 (.lst ((y :: ys').map V.int))) h1 (.dK (dropK (putK kvs (Sum.inl 7) (.ref tt)) (Sum.inl y)))) p a2 b2 := (p7.new hl8).other nhp
        have sH9 : SameBut p H (upd (upd H7 l8 (.lst ((y :: ys').map V.int))) h1 (.dK (dropK (putK kvs (Sum.inl 7) (.ref tt)) (Sum.inl y)))) := (sH7.same e8).newer hh1
        generalize (upd (upd H7 l8 (.lst ((y :: ys').map V.int))) h1 (.dK (dropK (putK kvs (Sum.inl 7) (.ref tt)) (Sum.inl y)))) = H9 at hr9 hT9 p9 sH9 ⊢
        -- the row
        rcases hr9 with h9 | h9
        · refine ⟨_, rfl, _, _, _, _, true, rfl, .ty _, .base (.lst h9), kit_ty (by decide +kernel), true, rfl, ?_⟩
          refine iteT ?_
          have hl10 := hA.1
          refine ⟨_, rfl, .inl ⟨rfl, _, SqL.of h9⟩, sz_of (by simp), fun t10 ht10 => ?_⟩
          refine ⟨r, ws, _, rfl, rfl, (Same.new ht10) _ _ h9, sz_lt (by omega), ?_⟩
          have e10 : Same H9 (upd H9 t10 (.tup [.int 0, .int 0])) := Same.new ht10
          refine ⟨_, rfl, k x d l _ _ _ ((sH9.same e10).newer fr) ((p9.new ht10).other nrp) ?_ nxp ndp nlp⟩
          have q := hT9.m e10
          exact ⟨q.ob.imp fun _ h => by rw [upd_ne nxr]; exact h, by rw [upd_ne ndr]; exact q.dc, by rw [upd_ne nlr]; exact q.ls⟩
        · refine ⟨_, rfl, _, _, _, _, false, rfl, .ty _, .base (.tup h9), kit_ty (by decide +kernel), false, rfl, ?_⟩
          refine iteF ?_
          exact ⟨_, rfl, k x d l H9 _ _ sH9 p9 hT9 nxp ndp nlp⟩
abbrev s_l_stays : Stmt := topS 13
abbrev N_l_stays : List Str := ["tables", "one", "told", "rows", "stays"]
theorem sc_l_stays : FnScope N_l_stays ["tables", "one"] (defScope s_l_stays) := ⟨rfl, rfl, rfl, by decide +kernel, rfl, by decide +kernel, by decide +kernel⟩
def sp_l_stays (K : PySem.W.Frag) (C : Addr) : Sp := fun vs H Q _ => ∃ (x d l t s w : Addr) (kvs : List (Key × V)) (nb dd lg : Int) (ws : List V), vs = [.ref x, .ref t] ∧ Tab C H x d l kvs nb dd lg ws ∧ Due H t s w kvs nb dd lg ws ∧ Pl K H kvs ∧ Ad K H ws ∧
  ∀ H', Same H H' → Q (.bl true) H'
theorem DtAll.append {K : PySem.W.Frag} {H : Hp} {ys : List V} {es : List PyData} (g : DtAll K H ys es) : ∀ {xs : List V} {ds : List PyData}, DtAll K H xs ds → DtAll K H (xs ++ ys) (ds ++ es)
  | [], [], _ => g
  | _ :: _, _ :: _, .cons h t => .cons h (DtAll.append g t)
theorem ok_l_stays {f : Addr} {fd : FuncData} (F : Fun K "_law_stays" "_law_stays" s_l_stays f fd) (B : Bt mg) {A_Tables : Addr} (T_Tables : CF K mg "Tables" A_Tables ["spots_by_number", "number_behind", "deeds_done", "last_group", "checkpoint_spots"]) (M_Tables_numbers : Mth P w K mg base CX0 A_Tables "numbers" 1 ["self"] (sp_Tables_numbers A_Tables)) (M_Tables_kept : Mth P w K mg base CX0 A_Tables "kept" 1 ["self"] (sp_Tables_kept A_Tables)) (C_law_is : Cal P w K mg base CX0 "_law_is" 2 ["tables", "due"] (sp_l_is K A_Tables)) : GnOk P w K mg base CX0 3 f fd ["tables", "one"] (sp_l_stays K A_Tables) := by
  refine gn_fun F sc_l_stays (fun vs H Q E h => ?_) (fun cdv A outer s H vs Q E hr h => ?_)
  · obtain ⟨x, d, l, t, s0, w0, kvs, nb, dd, lg, ws, rfl, _⟩ := h
    rfl
  · obtain ⟨x, d, l, t, s0, w0, kvs, nb, dd, lg, ws, rfl, hT, hD, hP, hA, k⟩ := h
    refine ⟨_, (pss_cons (ps_par (i := 2) (j := 3) (by rfl) sc_l_stays.nd rfl rfl (by decide) rfl rfl (pa_cons (pe_mth0 M_Tables_numbers T_Tables.cl (hr.mono (by decide)) pass0 (pv 0)) (pa_cons (pe_mth0 M_Tables_kept T_Tables.cl (hr.mono (by decide)) pass0 (pv 0)) pa_nil)) (by rfl))
    (pss_cons (ps_expr (pe_bmK K PySem.F.plainAttrs_list PySem.F.slot_list_append PySem.F.type_list_append mt_append (pv 2) (pa_cons pe_int pa_nil)))
    (pss_cons (ps_expr (pe_bm0K K PySem.F.plainAttrs_list PySem.F.slot_list_reverse PySem.F.type_list_reverse mt_reverse (pv 3)))
    (pss_cons (ps_expr (pe_bmK K PySem.F.plainAttrs_list PySem.F.slot_list_append PySem.F.type_list_append mt_append (pv 3) (pa_cons pe_non pa_nil)))
    (pss_cons (ps_set (i := 4) sc_l_stays.nd rfl (Or.inl rfl) (pe_callB (call_reprK K hr) (by rfl) B.repr (by decide +kernel) (pa_cons (pe_lst (pa_cons (pv 2) (pa_cons (pv 3) pa_nil))) pa_nil)))
    (pss_one (ps_ret (pe_and (pe_cal C_law_is (hr.mono (by decide)) (by rfl) pass0 (pa_cons (pv 0) (pa_cons (pv 1) pa_nil))) (pe_one (pe_cmpR op_eq (pe_callB (call_reprK K hr) (by rfl) B.repr (by decide +kernel) (pa_cons (pe_lst (pa_cons (pv 2) (pa_cons (pv 3) pa_nil))) pa_nil)) (pv 4) (nomark _))))))))))), ?_⟩
    obtain ⟨ks, hks, hkb⟩ := hP.ks
    have h24 := hP.l1
    have h10 := hA.1
    have hlen : ks.length = kvs.length := by simpa using (congrArg List.length hks).symm
    have noM : ∀ m : Str, ([("spots_by_number" : Str), "number_behind", "deeds_done", "last_group", "checkpoint_spots"] : List Str).all (fun f => !decide (m = f)) = true → (tabF d l nb dd lg).lookup m = none := fun m hm => tab_no _ _ _ _ _ hm
    obtain ⟨dx, hox⟩ := hT.ob
    refine ⟨_, rfl, x, dx, _, rfl, hox, noM _ (by decide +kernel), x, d, l, kvs, nb, dd, lg, ws, ks, rfl, hT, hks, h24, fun ys l1 hp1 ho1 hl1 => ?_⟩
    have hyl : ys.length = kvs.length := by rw [hp1.length_eq, hlen]
    have e1 : Same H (upd H l1 (.lst (ys.map V.int))) := Same.new hl1
    refine ⟨_, rfl, x, dx, _, rfl, e1 _ _ hox, noM _ (by decide +kernel), x, d, l, kvs, nb, dd, lg, ws, rfl, hT.m e1, fun l2 hl2 => ?_⟩
    have n12 : l1 ≠ l2 := ne_of_none upd_same hl2
    have e2 : Same H (upd (upd H l1 (.lst (ys.map V.int))) l2 (.lst ws)) := e1.trans (Same.new hl2)
    have f2 : H l2 = none := e1.free hl2
    -- told.append(5)
    have q1 : (upd (upd H l1 (.lst (ys.map V.int))) l2 (.lst ws)) l1 = some (.lst (ys.map V.int)) := by rw [upd_ne n12]; exact upd_same
    refine ⟨_, _, rfl, _, rfl, .inl ⟨rfl, _, SqL.of q1⟩, l1, _, _, rfl, rfl, q1, sz_lt (by rw [List.length_map]; omega), ?_⟩
    have q2 : (upd (upd (upd H l1 (.lst (ys.map V.int))) l2 (.lst ws)) l1 (.lst (ys.map V.int ++ [.int 5]))) l2 = some (.lst ws) := by rw [upd_ne n12.symm]; exact upd_same
    -- rows.reverse(); rows.append(None)
    refine ⟨_, rfl, .inl ⟨rfl, _, SqL.of q2⟩, l2, ws, rfl, rfl, q2, ?_⟩
    refine ⟨_, rfl, .inl ⟨rfl, _, SqL.of upd_same⟩, l2, _, _, rfl, rfl, upd_same, sz_lt (by rw [List.length_reverse]; omega), ?_⟩
    rw [upd_upd]
    have e3 : Same H (upd (upd (upd (upd H l1 (.lst (ys.map V.int))) l2 (.lst ws)) l1 (.lst (ys.map V.int ++ [.int 5]))) l2 (.lst (ws.reverse ++ [.non]))) := Same.newer (Same.newer e2 hl1) f2
    have q3 : (upd (upd (upd (upd H l1 (.lst (ys.map V.int))) l2 (.lst ws)) l1 (.lst (ys.map V.int ++ [.int 5]))) l2 (.lst (ws.reverse ++ [.non]))) l1 = some (.lst ((ys ++ [5]).map V.int)) := by
      rw [upd_ne n12, upd_same, List.map_append]
      rfl
    have q4 : (upd (upd (upd (upd H l1 (.lst (ys.map V.int))) l2 (.lst ws)) l1 (.lst (ys.map V.int ++ [.int 5]))) l2 (.lst (ws.reverse ++ [.non]))) l2 = some (.lst (ws.reverse ++ [.non])) := upd_same
    generalize (upd (upd (upd (upd H l1 (.lst (ys.map V.int))) l2 (.lst ws)) l1 (.lst (ys.map V.int ++ [.int 5]))) l2 (.lst (ws.reverse ++ [.non]))) = H3 at e3 q3 q4 ⊢
    obtain ⟨ds, hds, hsh, hsz⟩ := addr_data (K := K) (H := H) (ws := ws.reverse) fun v hv => hA.2 v (List.mem_reverse.mp hv)
    have hdl : ds.length ≤ 10 := by
      rw [← hds.length, List.length_reverse]
      exact h10
    have z1 : Sz 2 1200 (PyData.list ((ys ++ [5]).map PyData.int)) := by
      refine (Sz.list (k := 1) (n := 41) fun d hd => ?_).mono (by decide) (by rw [List.length_map, List.length_append, hyl]; show (41 + 2) * (kvs.length + 1) + 2 ≤ 1200; omega)
      obtain ⟨n, hn, rfl⟩ := List.mem_map.mp hd
      have hb : 0 ≤ n ∧ n < 10 ^ 12 := by
        rcases List.mem_append.mp hn with h | h
        · exact hkb n (hp1.mem_iff.mp h)
        · rw [List.mem_singleton.mp h]
          decide
      exact Sz.int (m := 40) (by decide) (by omega) (by decide)
    have z2 : Sz 2 1200 (PyData.list (ds ++ [PyData.none])) := by
      refine (Sz.list (k := 1) (n := 89) fun d hd => ?_).mono (by decide) (by rw [List.length_append]; show (89 + 2) * (ds.length + 1) + 2 ≤ 1200; omega)
      rcases List.mem_append.mp hd with h | h
      · exact hsz d h
      · rw [List.mem_singleton.mp h]
        exact Sz.none.mono (Nat.le_refl _) (by decide)
    have zz : Sz 60 sizeLine (PyData.list [.list ((ys ++ [5]).map PyData.int), .list (ds ++ [PyData.none])]) := by
      refine (Sz.list (k := 2) (n := 1200) fun d hd => ?_).mono (by decide) (by show (1200 + 2) * 2 + 2 ≤ sizeLine; decide)
      rcases List.mem_cons.mp hd with rfl | hd
      · exact z1
      · rw [List.mem_singleton.mp hd]
        exact z2
    refine ⟨_, rfl, _, rfl, sz_of (by simp), fun l4 hl4 => ?_⟩
    have e4 : Same H3 (upd H3 l4 (.lst [.ref l1, .ref l2])) := Same.new hl4
    have dp : ∀ H' l, Same H3 H' → H' l = some (.lst [.ref l1, .ref l2]) → Dp K H' (.ref l) (.list [.list ((ys ++ [5]).map PyData.int), .list (ds ++ [PyData.none])]) := fun H' l e h =>
      .lst (SqL.of h) (.cons (Dp.ofLints (e _ _ q3)) (.cons (Dp.ofL (e _ _ q4) (DtAll.append (.cons .non .nil) (hds.m (TS.of (e3.trans e))))) .nil))
    refine ⟨l4, _, rfl, dp _ l4 e4 upd_same, zz, ?_⟩
    have e30 := e3.trans e4
    refine ⟨_, rfl, _, rfl, x, d, l, t, s0, w0, kvs, nb, dd, lg, ws, rfl, hT.m e30, hD.m e30, hP.m (TS.of e30), hA.m (TS.of e30), fun H5 e5 => ?_⟩
    refine ⟨true, rfl, ?_⟩
    refine iteT ?_
    refine ⟨_, rfl, _, rfl, sz_of (by simp), fun l6 hl6 => ?_⟩
    have e6 : Same H5 (upd H5 l6 (.lst [.ref l1, .ref l2])) := Same.new hl6
    refine ⟨l6, _, rfl, dp _ l6 ((e4.trans e5).trans e6) upd_same, zz, ?_⟩
    refine ⟨_, rfl, rfl, ?_⟩
    rw [decide_eq_true rfl]
    exact k _ ((e30.trans e5).trans e6)
abbrev s_law : Stmt := topS 14
abbrev N_law : List Str := ["script", "k", "pot", "one", "two", "first", "second", "tables", "due"]
theorem sc_law : FnScope N_law ["script"] (defScope s_law) := ⟨rfl, rfl, rfl, by decide +kernel, rfl, by decide +kernel, by decide +kernel⟩
theorem Due.mb {p : Addr} {H H' : Hp} {t s w : Addr} {kvs : List (Key × V)} {nb dd lg : Int} {ws : List V} (e : SameBut p H H') (h : Due H t s w kvs nb dd lg ws) (nt : t ≠ p) (ns : s ≠ p) (nw : w ≠ p) : Due H' t s w kvs nb dd lg ws := ⟨e.at h.tp nt, e.at h.dc ns, e.at h.ls nw⟩
theorem Tab.mb {p C : Addr} {H H' : Hp} {x d l : Addr} {kvs : List (Key × V)} {nb dd lg : Int} {ws : List V} (e : SameBut p H H') (h : Tab C H x d l kvs nb dd lg ws) (nt : x ≠ p) (ns : d ≠ p) (nw : l ≠ p) : Tab C H' x d l kvs nb dd lg ws := ⟨h.ob.imp fun _ q => e.at q nt, e.at h.dc ns, e.at h.ls nw⟩
/-- tables x with what is due of them, t -/
def Pr (K : PySem.W.Frag) (C : Addr) (H : Hp) (x t : Addr) : Prop := ∃ (d l s w : Addr) (kvs : List (Key × V)) (nb dd lg : Int) (ws : List V), Tab C H x d l kvs nb dd lg ws ∧ Due H t s w kvs nb dd lg ws ∧ Pl K H kvs ∧ Ad K H ws
theorem Pr.m {K : PySem.W.Frag} {C : Addr} {H H' : Hp} {x t : Addr} (e : Same H H') (h : Pr K C H x t) : Pr K C H' x t := by
  obtain ⟨d, l, s, w, kvs, nb, dd, lg, ws, a, b, c, g⟩ := h
  exact ⟨d, l, s, w, kvs, nb, dd, lg, ws, a.m e, b.m e, c.m (TS.of e), g.m (TS.of e)⟩
theorem ok_law {f : Addr} {fd : FuncData} (F : Fun K "law" "law" s_law f fd) (B : Bt mg) (C_law_pot : Cal P w K mg base CX0 "_law_pot" 1 ["cell"] sp_l_pot) (C_law_drawn : Cal P w K mg base CX0 "_law_drawn" 5 ["pot"] (sp_l_drawn K)) (C_law_made : Cal P w K mg base CX0 "_law_made" 3 ["pot", "one"] (sp_l_made K A_Tables)) (C_law_at : Cal P w K mg base CX0 "_law_at" 1 ["script", "k"] (sp_l_at K)) (C_law_is : Cal P w K mg base CX0 "_law_is" 2 ["tables", "due"] (sp_l_is K A_Tables)) (C_law_stays : Cal P w K mg base CX0 "_law_stays" 3 ["tables", "one"] (sp_l_stays K A_Tables)) : GnOk P w K mg base CX0 6 f fd ["script"] (sp_law K) := by
  refine gn_fun F sc_law (fun vs H Q E h => ?_) (fun cdv A outer s H vs Q E hr h => ?_)
  · obtain ⟨a, ns, rfl, _⟩ := h
    rfl
  · obtain ⟨a, ns, rfl, hS, hn, k⟩ := h
    refine ⟨_, (pss_cons (ps_for PassesOwn.never rfl (pi_range1 (by rfl) B.range (pa_cons (pe_callB (call_max2 rfl) (by rfl) B.max (by decide +kernel) (pa_cons pe_int (pa_cons (pe_callB (call_min2 rfl) (by rfl) B.min (by decide +kernel) (pa_cons (pe_callB (call_lenK K) (by rfl) B.len (by decide +kernel) (pa_cons (pv 0) pa_nil)) (pa_cons pe_int pa_nil))) pa_nil))) pa_nil)) (pg_name (i := 1) sc_law.nd rfl (Or.inl rfl))
      (pss_cons (ps_set (i := 2) sc_law.nd rfl (Or.inl rfl) (pe_cal C_law_pot (hr.mono (by decide)) (by rfl) pass0 (pa_cons (pe_op op_add (pe_cal C_law_at (hr.mono (by decide)) (by rfl) pass0 (pa_cons (pv 0) (pa_cons (pv 1) pa_nil))) (pe_op op_mul pe_int (pv 1))) pa_nil)))
    (pss_cons (ps_par (i := 3) (j := 4) (by rfl) sc_law.nd rfl rfl (by decide) rfl rfl (pa_cons (pe_cal C_law_drawn (hr.mono (by decide)) (by rfl) pass0 (pa_cons (pv 2) pa_nil)) (pa_cons (pe_cal C_law_drawn (hr.mono (by decide)) (by rfl) pass0 (pa_cons (pv 2) pa_nil)) pa_nil)) (by rfl))
    (pss_cons (ps_par (i := 5) (j := 6) (by rfl) sc_law.nd rfl rfl (by decide) rfl rfl (pa_cons (pe_cal C_law_made (hr.mono (by decide)) (by rfl) pass0 (pa_cons (pv 2) (pa_cons (pv 3) pa_nil))) (pa_cons (pe_cal C_law_made (hr.mono (by decide)) (by rfl) pass0 (pa_cons (pv 2) (pa_cons (pv 4) pa_nil))) pa_nil)) (by rfl))
    (pss_one (ps_for PassesOwn.never rfl (pi_listK K (pe_lst (pa_cons (pe_tup (pa_cons (pv 5) (pa_cons (pv 3) pa_nil))) (pa_cons (pe_tup (pa_cons (pv 6) (pa_cons (pv 4) pa_nil))) (pa_cons (pe_tup (pa_cons (pv 5) (pa_cons (pv 3) pa_nil))) pa_nil))))) (pg_tup (by rfl) (pgs_cons (pg_name (i := 7) sc_law.nd rfl (Or.inl rfl)) (pgs_cons (pg_name (i := 8) sc_law.nd rfl (Or.inl rfl)) pgs_nil)))
      (pss_one (ps_if (PW.pt (pw_or (pt_cmpR op_isN (pv 7) pe_non (nomark _)) (pw_or (pt_not (pt_val (pe_cal C_law_is (hr.mono (by decide)) (by rfl) pass0 (pa_cons (pv 7) (pa_cons (pv 8) pa_nil))))) (pw_or1 (pt_not (pt_val (pe_cal C_law_stays (hr.mono (by decide)) (by rfl) pass0 (pa_cons (pv 7) (pa_cons (pv 8) pa_nil)))))))))
      (pss_one (ps_ret pe_bl))
      pss_nil))))))))
    (pss_one (ps_ret pe_bl))), ?_⟩
    refine ⟨_, rfl, _, ns.length, rfl, .inl ⟨_, hS, by simp⟩, _, _, rfl, _, _, rfl, ?_⟩
    generalize e : (if (if (20 : Int) < (ns.length : Int) then (20 : Int) else (ns.length : Int)) > 3 then _ else _ : Int) = n
    have hn0 : 0 ≤ n ∧ n ≤ 100 := by
      rw [← e]
      split <;> (try split) <;> omega
    refine ⟨n, rfl, by omega, by omega, for_range (lo := 0) (n := n.toNat) (fun i σ H' => ∃ v1 v2 v3 v4 v5 v6 v7 v8, σ = [some (.ref a), v1, v2, v3, v4, v5, v6, v7, v8] ∧ Same H H') ⟨none, none, none, none, none, none, none, none, rfl, Same.refl H⟩ ?_ ?_⟩
    · rintro i σ H0 hi ⟨v1, v2, v3, v4, v5, v6, v7, v8, rfl, s1⟩
      refine ⟨_, rfl, _, congrArg (fun v => some (some v)) (congrArg V.int (Int.zero_add _)), a, ns, i, rfl, s1.seq hS, fun c => ?_⟩
      refine ⟨_, rfl, _, _, rfl, rfl, .inl (by decide), _, _, rfl, rfl, _, rfl, fun p H2 s2 f2 p2 => ?_⟩
      refine ⟨_, rfl, p, _, _, rfl, p2, fun t1 u1 w1 kvs1 nb1 dd1 lg1 ws1 H3 a3 b3 s3 p3 D3 P3 A3 nt1 nu1 nw1 => ?_⟩
      refine ⟨_, rfl, p, _, _, rfl, p3, fun t2 u2 w2 kvs2 nb2 dd2 lg2 ws2 H4 a4 b4 s4 p4 D4 P4 A4 nt2 nu2 nw2 => ⟨_, _, rfl, ?_⟩⟩
      have D3' := D3.mb s4 nt1 nu1 nw1
      have P3' := P3.m (TS.pot s4 p3)
      have A3' := A3.m (TS.pot s4 p3)
      refine ⟨_, rfl, _, rfl, p, _, _, t1, u1, w1, kvs1, nb1, dd1, lg1, ws1, rfl, p4, D3', P3', A3', nu1, nw1, fun x1 d1 l1 H5 a5 b5 s5 p5 T5 nx1 nd1 nl1 => ?_⟩
      have t45 := TS.pot s5 p4
      refine ⟨_, rfl, _, rfl, p, _, _, t2, u2, w2, kvs2, nb2, dd2, lg2, ws2, rfl, p5, D4.mb s5 nt2 nu2 nw2, P4.m t45, A4.m t45, nu2, nw2, fun x2 d2 l2 H6 a6 b6 s6 p6 T6 nx2 nd2 nl2 => ⟨_, _, rfl, ?_⟩⟩
      have t56 := TS.pot s6 p5
      have r1 : Pr K A_Tables H6 x1 t1 := ⟨d1, l1, u1, w1, kvs1, nb1, dd1, lg1, ws1, T5.mb s6 nx1 nd1 nl1, (D3'.mb s5 nt1 nu1 nw1).mb s6 nt1 nu1 nw1, (P3'.m t45).m t56, (A3'.m t45).m t56⟩
      have r2 : Pr K A_Tables H6 x2 t2 := ⟨d2, l2, u2, w2, kvs2, nb2, dd2, lg2, ws2, T6, (D4.mb s5 nt2 nu2 nw2).mb s6 nt2 nu2 nw2, (P4.m t45).m t56, (A4.m t45).m t56⟩
      have sH6 : Same H H6 := Same.but (s1.trans s2) (((s3.trans s4).trans s5).trans s6) (s1.free f2)
      clear e s1 s2 s3 s4 s5 s6
      refine ⟨_, rfl, _, rfl, sz_of (by simp), fun q1 hq1 => ?_⟩
      refine ⟨_, rfl, _, rfl, sz_of (by simp), fun q2 hq2 => ?_⟩
      refine ⟨_, rfl, _, rfl, sz_of (by simp), fun q3 hq3 => ⟨sz_of (by simp), fun q hq => ?_⟩⟩
      have e1 : Same H6 (upd H6 q1 (.tup [.ref x1, .ref t1])) := Same.new hq1
      have e2 : Same (upd H6 q1 (.tup [.ref x1, .ref t1])) (upd (upd H6 q1 (.tup [.ref x1, .ref t1])) q2 (.tup [.ref x2, .ref t2])) := Same.new hq2
      have e3 : Same (upd (upd H6 q1 (.tup [.ref x1, .ref t1])) q2 (.tup [.ref x2, .ref t2])) (upd (upd (upd H6 q1 (.tup [.ref x1, .ref t1])) q2 (.tup [.ref x2, .ref t2])) q3 (.tup [.ref x1, .ref t1])) := Same.new hq3
      have e4 : Same (upd (upd (upd H6 q1 (.tup [.ref x1, .ref t1])) q2 (.tup [.ref x2, .ref t2])) q3 (.tup [.ref x1, .ref t1])) (upd (upd (upd (upd H6 q1 (.tup [.ref x1, .ref t1])) q2 (.tup [.ref x2, .ref t2])) q3 (.tup [.ref x1, .ref t1])) q (.lst [.ref q1, .ref q2, .ref q3])) := Same.new hq
      have it : ∀ v ∈ [V.ref q1, .ref q2, .ref q3], ∃ (b x t : Addr), v = .ref b ∧ (upd (upd (upd (upd H6 q1 (.tup [.ref x1, .ref t1])) q2 (.tup [.ref x2, .ref t2])) q3 (.tup [.ref x1, .ref t1])) q (.lst [.ref q1, .ref q2, .ref q3])) b = some (.tup [.ref x, .ref t]) ∧ Pr K A_Tables (upd (upd (upd (upd H6 q1 (.tup [.ref x1, .ref t1])) q2 (.tup [.ref x2, .ref t2])) q3 (.tup [.ref x1, .ref t1])) q (.lst [.ref q1, .ref q2, .ref q3])) x t := by
        intro v hv
        have e := e1.trans (e2.trans (e3.trans e4))
        simp only [List.mem_cons, List.not_mem_nil, or_false] at hv
        rcases hv with rfl | rfl | rfl
        · exact ⟨q1, x1, t1, rfl, (e2.trans (e3.trans e4)) _ _ upd_same, r1.m e⟩
        · exact ⟨q2, x2, t2, rfl, (e3.trans e4) _ _ upd_same, r2.m e⟩
        · exact ⟨q3, x1, t1, rfl, e4 _ _ upd_same, r1.m e⟩
      have hqq : (upd (upd (upd (upd H6 q1 (.tup [.ref x1, .ref t1])) q2 (.tup [.ref x2, .ref t2])) q3 (.tup [.ref x1, .ref t1])) q (.lst [.ref q1, .ref q2, .ref q3])) q = some (.lst [.ref q1, .ref q2, .ref q3]) := upd_same
      have sH7 := sH6.trans (e1.trans (e2.trans (e3.trans e4)))
      generalize (upd (upd (upd (upd H6 q1 (.tup [.ref x1, .ref t1])) q2 (.tup [.ref x2, .ref t2])) q3 (.tup [.ref x1, .ref t1])) q (.lst [.ref q1, .ref q2, .ref q3])) = H7 at it hqq sH7 ⊢
      refine ⟨q, rfl, ⟨_, SqL.of hqq⟩, for_list (K := K) (a := q) (xs := [.ref q1, .ref q2, .ref q3]) (fun j σ H8 => ∃ v7 v8, σ = [some (.ref a), some (.int (0 + (i : Int))), some (.ref p), some (.ref t1), some (.ref t2), some (.ref x1), some (.ref x2), v7, v8] ∧ Same H7 H8) ⟨v7, v8, rfl, Same.refl _⟩ (fun _ _ H8 _ ⟨_, _, _, s8⟩ => SqL.of (s8 q _ hqq)) ?_ ?_⟩
      · rintro j y σ H8 hy ⟨v7, v8, rfl, s8⟩
        obtain ⟨b, x, t, rfl, hb, hp⟩ := it y (List.mem_of_getElem? hy)
        obtain ⟨d, l, s, w, kvs, nb, dd, lg, ws, hT, hD, hP, hA⟩ := hp.m s8
        refine ⟨b, _, rfl, SqT.of (s8 _ _ hb), rfl, _, _, rfl, _, _, rfl, rfl, ?_⟩
        refine ⟨_, rfl, rfl, false, rfl, ?_⟩
        refine ⟨_, rfl, _, rfl, x, d, l, t, s, w, kvs, nb, dd, lg, ws, rfl, hT, hD, hP, hA, fun H9 s9 => ⟨true, rfl, ?_⟩⟩
        refine ⟨_, rfl, _, rfl, x, d, l, t, s, w, kvs, nb, dd, lg, ws, rfl, hT.m s9, hD.m s9, hP.m (TS.of s9), hA.m (TS.of s9), fun H10 s10 => ⟨true, rfl, ?_⟩⟩
        refine iteF ?_
        exact ⟨_, _, rfl, (s8.trans s9).trans s10⟩
      · rintro σ H8 ⟨v7, v8, rfl, s8⟩
        exact ⟨_, _, _, _, _, _, _, _, rfl, sH7.trans s8⟩
    · rintro σ H1 ⟨v1, v2, v3, v4, v5, v6, v7, v8, rfl, s1⟩
      exact k _
end
theorem all_mk {P : Program} {w : World} {K : PySem.W.Frag} {h : Heap} {mg : Str → Option Value} {fa : Addr} (X : K.In h) (G : h.Ns mainGlobals mg) (hfa : mg "law" = some (.ref fa))
    {A_Tables : Addr}
    {f_Tables_init : Addr} {oc_Tables_init kV_Tables_init dc_Tables_init pm_Tables_init cd_Tables_init ct_Tables_init : Value} {od_Tables_init an_Tables_init : Option Addr} {sl_Tables_init : Array (Option Value)}
    {f_Tables_spot : Addr} {oc_Tables_spot kV_Tables_spot dc_Tables_spot pm_Tables_spot cd_Tables_spot ct_Tables_spot : Value} {od_Tables_spot an_Tables_spot : Option Addr} {sl_Tables_spot : Array (Option Value)}
    {f_Tables_numbers : Addr} {oc_Tables_numbers kV_Tables_numbers dc_Tables_numbers pm_Tables_numbers cd_Tables_numbers ct_Tables_numbers : Value} {od_Tables_numbers an_Tables_numbers : Option Addr} {sl_Tables_numbers : Array (Option Value)}
    {f_Tables_next_number : Addr} {oc_Tables_next_number kV_Tables_next_number dc_Tables_next_number pm_Tables_next_number cd_Tables_next_number ct_Tables_next_number : Value} {od_Tables_next_number an_Tables_next_number : Option Addr} {sl_Tables_next_number : Array (Option Value)}
    {f_Tables_deeds : Addr} {oc_Tables_deeds kV_Tables_deeds dc_Tables_deeds pm_Tables_deeds cd_Tables_deeds ct_Tables_deeds : Value} {od_Tables_deeds an_Tables_deeds : Option Addr} {sl_Tables_deeds : Array (Option Value)}
    {f_Tables_last : Addr} {oc_Tables_last kV_Tables_last dc_Tables_last pm_Tables_last cd_Tables_last ct_Tables_last : Value} {od_Tables_last an_Tables_last : Option Addr} {sl_Tables_last : Array (Option Value)}
    {f_Tables_kept : Addr} {oc_Tables_kept kV_Tables_kept dc_Tables_kept pm_Tables_kept cd_Tables_kept ct_Tables_kept : Value} {od_Tables_kept an_Tables_kept : Option Addr} {sl_Tables_kept : Array (Option Value)}
    {f_l_at : Addr} {oc_l_at kV_l_at dc_l_at pm_l_at cd_l_at ct_l_at : Value} {od_l_at an_l_at : Option Addr} {sl_l_at : Array (Option Value)}
    {f_l_pot : Addr} {oc_l_pot kV_l_pot dc_l_pot pm_l_pot cd_l_pot ct_l_pot : Value} {od_l_pot an_l_pot : Option Addr} {sl_l_pot : Array (Option Value)}
    {f_l_take : Addr} {oc_l_take kV_l_take dc_l_take pm_l_take cd_l_take ct_l_take : Value} {od_l_take an_l_take : Option Addr} {sl_l_take : Array (Option Value)}
    {f_l_number : Addr} {oc_l_number kV_l_number dc_l_number pm_l_number cd_l_number ct_l_number : Value} {od_l_number an_l_number : Option Addr} {sl_l_number : Array (Option Value)}
    {f_l_address : Addr} {oc_l_address kV_l_address dc_l_address pm_l_address cd_l_address ct_l_address : Value} {od_l_address an_l_address : Option Addr} {sl_l_address : Array (Option Value)}
    {f_l_places : Addr} {oc_l_places kV_l_places dc_l_places pm_l_places cd_l_places ct_l_places : Value} {od_l_places an_l_places : Option Addr} {sl_l_places : Array (Option Value)}
    {f_l_whole : Addr} {oc_l_whole kV_l_whole dc_l_whole pm_l_whole cd_l_whole ct_l_whole : Value} {od_l_whole an_l_whole : Option Addr} {sl_l_whole : Array (Option Value)}
    {f_l_is : Addr} {oc_l_is kV_l_is dc_l_is pm_l_is cd_l_is ct_l_is : Value} {od_l_is an_l_is : Option Addr} {sl_l_is : Array (Option Value)}
    {f_l_drawn : Addr} {oc_l_drawn kV_l_drawn dc_l_drawn pm_l_drawn cd_l_drawn ct_l_drawn : Value} {od_l_drawn an_l_drawn : Option Addr} {sl_l_drawn : Array (Option Value)}
    {f_l_made : Addr} {oc_l_made kV_l_made dc_l_made pm_l_made cd_l_made ct_l_made : Value} {od_l_made an_l_made : Option Addr} {sl_l_made : Array (Option Value)}
    {f_l_stays : Addr} {oc_l_stays kV_l_stays dc_l_stays pm_l_stays cd_l_stays ct_l_stays : Value} {od_l_stays an_l_stays : Option Addr} {sl_l_stays : Array (Option Value)}
    {f_law : Addr} {oc_law kV_law dc_law pm_law cd_law ct_law : Value} {od_law an_law : Option Addr} {sl_law : Array (Option Value)}
    (z_len : PySem.W.nsIn K mainGlobals "len" = some none)
    (z_max : PySem.W.nsIn K mainGlobals "max" = some none)
    (z_min : PySem.W.nsIn K mainGlobals "min" = some none)
    (z_abs : PySem.W.nsIn K mainGlobals "abs" = some none)
    (z_divmod : PySem.W.nsIn K mainGlobals "divmod" = some none)
    (z_range : PySem.W.nsIn K mainGlobals "range" = some none)
    (z_ord : PySem.W.nsIn K mainGlobals "ord" = some none)
    (z_isinstance : PySem.W.nsIn K mainGlobals "isinstance" = some none)
    (z_int : PySem.W.nsIn K mainGlobals "int" = some none)
    (z_str : PySem.W.nsIn K mainGlobals "str" = some none)
    (z_bool : PySem.W.nsIn K mainGlobals "bool" = some none)
    (z_list : PySem.W.nsIn K mainGlobals "list" = some none)
    (z_tuple : PySem.W.nsIn K mainGlobals "tuple" = some none)
    (z_dict : PySem.W.nsIn K mainGlobals "dict" = some none)
    (z_set : PySem.W.nsIn K mainGlobals "set" = some none)
    (z_all : PySem.W.nsIn K mainGlobals "all" = some none)
    (z_any : PySem.W.nsIn K mainGlobals "any" = some none)
    (z_sorted : PySem.W.nsIn K mainGlobals "sorted" = some none)
    (z_enumerate : PySem.W.nsIn K mainGlobals "enumerate" = some none)
    (z_zip : PySem.W.nsIn K mainGlobals "zip" = some none)
    (z_repr : PySem.W.nsIn K mainGlobals "repr" = some none)
    (z_sum : PySem.W.nsIn K mainGlobals "sum" = some none)
    (ig_ : PySem.W.specialIn K (.builtin "object.__class__") "__get__" = some (some (.builtin "getset_descriptor.__get__")))
    (it_ : PySem.W.takesIn K (.builtin "object.__class__") = some true)
    (ac_Tables : PySem.W.nsIn K mainGlobals "Tables" = some (some (.ref A_Tables)))
    (pg_Tables : PySem.W.plainGet K A_Tables Str.empty = true)
    (hd_Tables : PySem.W.hasDictIn K A_Tables = true)
    (po_Tables : PySem.W.plainOver K A_Tables = true)
    (sa_Tables : PySem.W.findIn K (.ref A_Tables) "__setattr__" = some (some (.builtin "object.__setattr__")))
    (mk_Tables : PySem.W.makesIn K A_Tables = true)
    (kc_Tables : PySem.W.keepIn K (.ref A_Tables) = true)
    (ic_Tables : PySem.W.findIn K (.ref A_Tables) "__class__" = some (some (.builtin "object.__class__")))
    (im_Tables : PySem.W.mroIn K A_Tables (.type "object") = some true)
    (n_Tables_spots_by_number : PySem.W.findIn K (.ref A_Tables) "spots_by_number" = some none)
    (n_Tables_number_behind : PySem.W.findIn K (.ref A_Tables) "number_behind" = some none)
    (n_Tables_deeds_done : PySem.W.findIn K (.ref A_Tables) "deeds_done" = some none)
    (n_Tables_last_group : PySem.W.findIn K (.ref A_Tables) "last_group" = some none)
    (n_Tables_checkpoint_spots : PySem.W.findIn K (.ref A_Tables) "checkpoint_spots" = some none)
    (a_Tables_init : PySem.W.findIn K (.ref A_Tables) "__init__" = some (some (.ref f_Tables_init)))
    (i_Tables_init : PySem.W.isFn K (.ref f_Tables_init) = true)
    (l_Tables_init : K.lookup f_Tables_init = some ⟨oc_Tables_init, od_Tables_init, .func (PySem.W.fnOf "__init__" "Tables.__init__" (defArgs s_Tables_init) (defBody s_Tables_init) (defScope s_Tables_init) .none kV_Tables_init dc_Tables_init pm_Tables_init an_Tables_init cd_Tables_init ct_Tables_init), sl_Tables_init⟩)
    (c_Tables_init : PySem.W.codeIn K cd_Tables_init "Tables.__init__" = true)
    (k_Tables_init : PySem.W.keepIn K (.ref f_Tables_init) = true)
    (a_Tables_spot : PySem.W.findIn K (.ref A_Tables) "spot" = some (some (.ref f_Tables_spot)))
    (i_Tables_spot : PySem.W.isFn K (.ref f_Tables_spot) = true)
    (l_Tables_spot : K.lookup f_Tables_spot = some ⟨oc_Tables_spot, od_Tables_spot, .func (PySem.W.fnOf "spot" "Tables.spot" (defArgs s_Tables_spot) (defBody s_Tables_spot) (defScope s_Tables_spot) .none kV_Tables_spot dc_Tables_spot pm_Tables_spot an_Tables_spot cd_Tables_spot ct_Tables_spot), sl_Tables_spot⟩)
    (c_Tables_spot : PySem.W.codeIn K cd_Tables_spot "Tables.spot" = true)
    (k_Tables_spot : PySem.W.keepIn K (.ref f_Tables_spot) = true)
    (a_Tables_numbers : PySem.W.findIn K (.ref A_Tables) "numbers" = some (some (.ref f_Tables_numbers)))
    (i_Tables_numbers : PySem.W.isFn K (.ref f_Tables_numbers) = true)
    (l_Tables_numbers : K.lookup f_Tables_numbers = some ⟨oc_Tables_numbers, od_Tables_numbers, .func (PySem.W.fnOf "numbers" "Tables.numbers" (defArgs s_Tables_numbers) (defBody s_Tables_numbers) (defScope s_Tables_numbers) .none kV_Tables_numbers dc_Tables_numbers pm_Tables_numbers an_Tables_numbers cd_Tables_numbers ct_Tables_numbers), sl_Tables_numbers⟩)
    (c_Tables_numbers : PySem.W.codeIn K cd_Tables_numbers "Tables.numbers" = true)
    (k_Tables_numbers : PySem.W.keepIn K (.ref f_Tables_numbers) = true)
    (a_Tables_next_number : PySem.W.findIn K (.ref A_Tables) "next_number" = some (some (.ref f_Tables_next_number)))
    (i_Tables_next_number : PySem.W.isFn K (.ref f_Tables_next_number) = true)
    (l_Tables_next_number : K.lookup f_Tables_next_number = some ⟨oc_Tables_next_number, od_Tables_next_number, .func (PySem.W.fnOf "next_number" "Tables.next_number" (defArgs s_Tables_next_number) (defBody s_Tables_next_number) (defScope s_Tables_next_number) .none kV_Tables_next_number dc_Tables_next_number pm_Tables_next_number an_Tables_next_number cd_Tables_next_number ct_Tables_next_number), sl_Tables_next_number⟩)
    (c_Tables_next_number : PySem.W.codeIn K cd_Tables_next_number "Tables.next_number" = true)
    (k_Tables_next_number : PySem.W.keepIn K (.ref f_Tables_next_number) = true)
    (a_Tables_deeds : PySem.W.findIn K (.ref A_Tables) "deeds" = some (some (.ref f_Tables_deeds)))
    (i_Tables_deeds : PySem.W.isFn K (.ref f_Tables_deeds) = true)
    (l_Tables_deeds : K.lookup f_Tables_deeds = some ⟨oc_Tables_deeds, od_Tables_deeds, .func (PySem.W.fnOf "deeds" "Tables.deeds" (defArgs s_Tables_deeds) (defBody s_Tables_deeds) (defScope s_Tables_deeds) .none kV_Tables_deeds dc_Tables_deeds pm_Tables_deeds an_Tables_deeds cd_Tables_deeds ct_Tables_deeds), sl_Tables_deeds⟩)
    (c_Tables_deeds : PySem.W.codeIn K cd_Tables_deeds "Tables.deeds" = true)
    (k_Tables_deeds : PySem.W.keepIn K (.ref f_Tables_deeds) = true)
    (a_Tables_last : PySem.W.findIn K (.ref A_Tables) "last" = some (some (.ref f_Tables_last)))
    (i_Tables_last : PySem.W.isFn K (.ref f_Tables_last) = true)
    (l_Tables_last : K.lookup f_Tables_last = some ⟨oc_Tables_last, od_Tables_last, .func (PySem.W.fnOf "last" "Tables.last" (defArgs s_Tables_last) (defBody s_Tables_last) (defScope s_Tables_last) .none kV_Tables_last dc_Tables_last pm_Tables_last an_Tables_last cd_Tables_last ct_Tables_last), sl_Tables_last⟩)
    (c_Tables_last : PySem.W.codeIn K cd_Tables_last "Tables.last" = true)
    (k_Tables_last : PySem.W.keepIn K (.ref f_Tables_last) = true)
    (a_Tables_kept : PySem.W.findIn K (.ref A_Tables) "kept" = some (some (.ref f_Tables_kept)))
    (i_Tables_kept : PySem.W.isFn K (.ref f_Tables_kept) = true)
    (l_Tables_kept : K.lookup f_Tables_kept = some ⟨oc_Tables_kept, od_Tables_kept, .func (PySem.W.fnOf "kept" "Tables.kept" (defArgs s_Tables_kept) (defBody s_Tables_kept) (defScope s_Tables_kept) .none kV_Tables_kept dc_Tables_kept pm_Tables_kept an_Tables_kept cd_Tables_kept ct_Tables_kept), sl_Tables_kept⟩)
    (c_Tables_kept : PySem.W.codeIn K cd_Tables_kept "Tables.kept" = true)
    (k_Tables_kept : PySem.W.keepIn K (.ref f_Tables_kept) = true)
    (a_l_at : PySem.W.nsIn K mainGlobals "_law_at" = some (some (.ref f_l_at)))
    (l_l_at : K.lookup f_l_at = some ⟨oc_l_at, od_l_at, .func (PySem.W.fnOf "_law_at" "_law_at" (defArgs s_l_at) (defBody s_l_at) (defScope s_l_at) .none kV_l_at dc_l_at pm_l_at an_l_at cd_l_at ct_l_at), sl_l_at⟩)
    (c_l_at : PySem.W.codeIn K cd_l_at "_law_at" = true)
    (k_l_at : PySem.W.keepIn K (.ref f_l_at) = true)
    (a_l_pot : PySem.W.nsIn K mainGlobals "_law_pot" = some (some (.ref f_l_pot)))
    (l_l_pot : K.lookup f_l_pot = some ⟨oc_l_pot, od_l_pot, .func (PySem.W.fnOf "_law_pot" "_law_pot" (defArgs s_l_pot) (defBody s_l_pot) (defScope s_l_pot) .none kV_l_pot dc_l_pot pm_l_pot an_l_pot cd_l_pot ct_l_pot), sl_l_pot⟩)
    (c_l_pot : PySem.W.codeIn K cd_l_pot "_law_pot" = true)
    (k_l_pot : PySem.W.keepIn K (.ref f_l_pot) = true)
    (a_l_take : PySem.W.nsIn K mainGlobals "_law_take" = some (some (.ref f_l_take)))
    (l_l_take : K.lookup f_l_take = some ⟨oc_l_take, od_l_take, .func (PySem.W.fnOf "_law_take" "_law_take" (defArgs s_l_take) (defBody s_l_take) (defScope s_l_take) .none kV_l_take dc_l_take pm_l_take an_l_take cd_l_take ct_l_take), sl_l_take⟩)
    (c_l_take : PySem.W.codeIn K cd_l_take "_law_take" = true)
    (k_l_take : PySem.W.keepIn K (.ref f_l_take) = true)
    (a_l_number : PySem.W.nsIn K mainGlobals "_law_number" = some (some (.ref f_l_number)))
    (l_l_number : K.lookup f_l_number = some ⟨oc_l_number, od_l_number, .func (PySem.W.fnOf "_law_number" "_law_number" (defArgs s_l_number) (defBody s_l_number) (defScope s_l_number) .none kV_l_number dc_l_number pm_l_number an_l_number cd_l_number ct_l_number), sl_l_number⟩)
    (c_l_number : PySem.W.codeIn K cd_l_number "_law_number" = true)
    (k_l_number : PySem.W.keepIn K (.ref f_l_number) = true)
    (a_l_address : PySem.W.nsIn K mainGlobals "_law_address" = some (some (.ref f_l_address)))
    (l_l_address : K.lookup f_l_address = some ⟨oc_l_address, od_l_address, .func (PySem.W.fnOf "_law_address" "_law_address" (defArgs s_l_address) (defBody s_l_address) (defScope s_l_address) .none kV_l_address dc_l_address pm_l_address an_l_address cd_l_address ct_l_address), sl_l_address⟩)
    (c_l_address : PySem.W.codeIn K cd_l_address "_law_address" = true)
    (k_l_address : PySem.W.keepIn K (.ref f_l_address) = true)
    (a_l_places : PySem.W.nsIn K mainGlobals "_law_places" = some (some (.ref f_l_places)))
    (l_l_places : K.lookup f_l_places = some ⟨oc_l_places, od_l_places, .func (PySem.W.fnOf "_law_places" "_law_places" (defArgs s_l_places) (defBody s_l_places) (defScope s_l_places) .none kV_l_places dc_l_places pm_l_places an_l_places cd_l_places ct_l_places), sl_l_places⟩)
    (c_l_places : PySem.W.codeIn K cd_l_places "_law_places" = true)
    (k_l_places : PySem.W.keepIn K (.ref f_l_places) = true)
    (a_l_whole : PySem.W.nsIn K mainGlobals "_law_whole" = some (some (.ref f_l_whole)))
    (l_l_whole : K.lookup f_l_whole = some ⟨oc_l_whole, od_l_whole, .func (PySem.W.fnOf "_law_whole" "_law_whole" (defArgs s_l_whole) (defBody s_l_whole) (defScope s_l_whole) .none kV_l_whole dc_l_whole pm_l_whole an_l_whole cd_l_whole ct_l_whole), sl_l_whole⟩)
    (c_l_whole : PySem.W.codeIn K cd_l_whole "_law_whole" = true)
    (k_l_whole : PySem.W.keepIn K (.ref f_l_whole) = true)
    (a_l_is : PySem.W.nsIn K mainGlobals "_law_is" = some (some (.ref f_l_is)))
    (l_l_is : K.lookup f_l_is = some ⟨oc_l_is, od_l_is, .func (PySem.W.fnOf "_law_is" "_law_is" (defArgs s_l_is) (defBody s_l_is) (defScope s_l_is) .none kV_l_is dc_l_is pm_l_is an_l_is cd_l_is ct_l_is), sl_l_is⟩)
    (c_l_is : PySem.W.codeIn K cd_l_is "_law_is" = true)
    (k_l_is : PySem.W.keepIn K (.ref f_l_is) = true)
    (a_l_drawn : PySem.W.nsIn K mainGlobals "_law_drawn" = some (some (.ref f_l_drawn)))
    (l_l_drawn : K.lookup f_l_drawn = some ⟨oc_l_drawn, od_l_drawn, .func (PySem.W.fnOf "_law_drawn" "_law_drawn" (defArgs s_l_drawn) (defBody s_l_drawn) (defScope s_l_drawn) .none kV_l_drawn dc_l_drawn pm_l_drawn an_l_drawn cd_l_drawn ct_l_drawn), sl_l_drawn⟩)
    (c_l_drawn : PySem.W.codeIn K cd_l_drawn "_law_drawn" = true)
    (k_l_drawn : PySem.W.keepIn K (.ref f_l_drawn) = true)
    (a_l_made : PySem.W.nsIn K mainGlobals "_law_made" = some (some (.ref f_l_made)))
    (l_l_made : K.lookup f_l_made = some ⟨oc_l_made, od_l_made, .func (PySem.W.fnOf "_law_made" "_law_made" (defArgs s_l_made) (defBody s_l_made) (defScope s_l_made) .none kV_l_made dc_l_made pm_l_made an_l_made cd_l_made ct_l_made), sl_l_made⟩)
    (c_l_made : PySem.W.codeIn K cd_l_made "_law_made" = true)
    (k_l_made : PySem.W.keepIn K (.ref f_l_made) = true)
    (a_l_stays : PySem.W.nsIn K mainGlobals "_law_stays" = some (some (.ref f_l_stays)))
    (l_l_stays : K.lookup f_l_stays = some ⟨oc_l_stays, od_l_stays, .func (PySem.W.fnOf "_law_stays" "_law_stays" (defArgs s_l_stays) (defBody s_l_stays) (defScope s_l_stays) .none kV_l_stays dc_l_stays pm_l_stays an_l_stays cd_l_stays ct_l_stays), sl_l_stays⟩)
    (c_l_stays : PySem.W.codeIn K cd_l_stays "_law_stays" = true)
    (k_l_stays : PySem.W.keepIn K (.ref f_l_stays) = true)
    (a_law : PySem.W.nsIn K mainGlobals "law" = some (some (.ref f_law)))
    (l_law : K.lookup f_law = some ⟨oc_law, od_law, .func (PySem.W.fnOf "law" "law" (defArgs s_law) (defBody s_law) (defScope s_law) .none kV_law dc_law pm_law an_law cd_law ct_law), sl_law⟩)
    (c_law : PySem.W.codeIn K cd_law "law" = true)
    (k_law : PySem.W.keepIn K (.ref f_law) = true) :
    ∃ fd : FuncData, (∀ (s : Shared) (v : Value), BindsTo s fd ⟨[v], []⟩ [("script", v)]) ∧ ∀ base : Heap, K.In base → base.Ns mainGlobals mg → GnOk P w K mg base CX0 6 fa fd ["script"] (sp_law K) := by
  have e := hfa.symm.trans (PySem.W.mg_of X G a_law)
  cases e
  have F_law := fun_mk (st := s_law) l_law c_law k_law
  refine ⟨PySem.W.fnOf "law" "law" (defArgs s_law) (defBody s_law) (defScope s_law) .none kV_law dc_law pm_law an_law cd_law ct_law, fun s v => .of_eq rfl, fun base _ _ => ?_⟩
  have B : Bt mg := ⟨PySem.W.mg_none_of X G z_len, PySem.W.mg_none_of X G z_max, PySem.W.mg_none_of X G z_min, PySem.W.mg_none_of X G z_abs, PySem.W.mg_none_of X G z_divmod, PySem.W.mg_none_of X G z_range, PySem.W.mg_none_of X G z_ord, PySem.W.mg_none_of X G z_isinstance, PySem.W.mg_none_of X G z_int, PySem.W.mg_none_of X G z_str, PySem.W.mg_none_of X G z_bool, PySem.W.mg_none_of X G z_list, PySem.W.mg_none_of X G z_tuple, PySem.W.mg_none_of X G z_dict, PySem.W.mg_none_of X G z_set, PySem.W.mg_none_of X G z_all, PySem.W.mg_none_of X G z_any, PySem.W.mg_none_of X G z_sorted, PySem.W.mg_none_of X G z_enumerate, PySem.W.mg_none_of X G z_zip, PySem.W.mg_none_of X G z_repr, PySem.W.mg_none_of X G z_sum⟩
  have T_Tables : CF K mg "Tables" A_Tables ["spots_by_number", "number_behind", "deeds_done", "last_group", "checkpoint_spots"] := ⟨⟨pg_Tables, hd_Tables, po_Tables, sa_Tables⟩, PySem.W.mg_of X G ac_Tables, (all_cons n_Tables_spots_by_number (all_cons n_Tables_number_behind (all_cons n_Tables_deeds_done (all_cons n_Tables_last_group (all_cons n_Tables_checkpoint_spots (fun _ h => nomatch h)))))), ic_Tables, ig_, it_, im_Tables⟩
  have F_Tables_init := fun_mk (st := s_Tables_init) l_Tables_init c_Tables_init k_Tables_init
  have I_Tables : Mkr P w K mg base CX0 A_Tables 1 ["self", "places", "next_number", "deeds", "last", "kept"] (sp_Tables_init K A_Tables) := ⟨_, _, ok_Tables_init F_Tables_init B T_Tables, ⟨mk_Tables, a_Tables_init, i_Tables_init, kc_Tables⟩, F_Tables_init.binds (ps := ["self", "places", "next_number", "deeds", "last", "kept"]) fun _ _ _ _ _ _ us hl => match us, hl with | [_, _, _, _, _, _], _ => rfl⟩
  have I_Tables_kw0_kept_last_places_deeds_next_number : MkrK P w K mg base CX0 A_Tables 1 ["self", "places", "next_number", "deeds", "last", "kept"] 0 ["kept", "last", "places", "deeds", "next_number"] (fun us ws => [us.getD 0 V.non, ws.getD 2 V.non, ws.getD 4 V.non, ws.getD 3 V.non, ws.getD 1 V.non, ws.getD 0 V.non]) (sp_Tables_init K A_Tables) := ⟨_, _, (fun us ws => [us.getD 0 Value.none, ws.getD 2 Value.none, ws.getD 4 Value.none, ws.getD 3 Value.none, ws.getD 1 Value.none, ws.getD 0 Value.none]), ok_Tables_init F_Tables_init B T_Tables, ⟨mk_Tables, a_Tables_init, i_Tables_init, kc_Tables⟩, ⟨fun s us ws _ h1 h2 => BindsTo.of_eq (match us, ws, h1, h2 with | [_], [_, _, _, _, _], _, _ => rfl), fun r1 r2 => (.cons (vget r1 0) (.cons (vget r2 2) (.cons (vget r2 4) (.cons (vget r2 3) (.cons (vget r2 1) (.cons (vget r2 0) .nil))))))⟩⟩
  have F_Tables_spot := fun_mk (st := s_Tables_spot) l_Tables_spot c_Tables_spot k_Tables_spot
  have M_Tables_spot : Mth P w K mg base CX0 A_Tables "spot" 1 ["self", "number"] (sp_Tables_spot A_Tables) := ⟨_, _, ok_Tables_spot F_Tables_spot B T_Tables, ⟨a_Tables_spot, i_Tables_spot, k_Tables_spot⟩, F_Tables_spot.binds (ps := ["self", "number"]) fun _ _ _ _ _ _ us hl => match us, hl with | [_, _], _ => rfl⟩
  have F_Tables_numbers := fun_mk (st := s_Tables_numbers) l_Tables_numbers c_Tables_numbers k_Tables_numbers
  have M_Tables_numbers : Mth P w K mg base CX0 A_Tables "numbers" 1 ["self"] (sp_Tables_numbers A_Tables) := ⟨_, _, ok_Tables_numbers F_Tables_numbers B T_Tables, ⟨a_Tables_numbers, i_Tables_numbers, k_Tables_numbers⟩, F_Tables_numbers.binds (ps := ["self"]) fun _ _ _ _ _ _ us hl => match us, hl with | [_], _ => rfl⟩
  have F_Tables_next_number := fun_mk (st := s_Tables_next_number) l_Tables_next_number c_Tables_next_number k_Tables_next_number
  have M_Tables_next_number : Mth P w K mg base CX0 A_Tables "next_number" 1 ["self"] (sp_Tables_next A_Tables) := ⟨_, _, ok_Tables_next_number F_Tables_next_number B T_Tables, ⟨a_Tables_next_number, i_Tables_next_number, k_Tables_next_number⟩, F_Tables_next_number.binds (ps := ["self"]) fun _ _ _ _ _ _ us hl => match us, hl with | [_], _ => rfl⟩
  have F_Tables_deeds := fun_mk (st := s_Tables_deeds) l_Tables_deeds c_Tables_deeds k_Tables_deeds
  have M_Tables_deeds : Mth P w K mg base CX0 A_Tables "deeds" 1 ["self"] (sp_Tables_deeds A_Tables) := ⟨_, _, ok_Tables_deeds F_Tables_deeds B T_Tables, ⟨a_Tables_deeds, i_Tables_deeds, k_Tables_deeds⟩, F_Tables_deeds.binds (ps := ["self"]) fun _ _ _ _ _ _ us hl => match us, hl with | [_], _ => rfl⟩
  have F_Tables_last := fun_mk (st := s_Tables_last) l_Tables_last c_Tables_last k_Tables_last
  have M_Tables_last : Mth P w K mg base CX0 A_Tables "last" 1 ["self"] (sp_Tables_last A_Tables) := ⟨_, _, ok_Tables_last F_Tables_last B T_Tables, ⟨a_Tables_last, i_Tables_last, k_Tables_last⟩, F_Tables_last.binds (ps := ["self"]) fun _ _ _ _ _ _ us hl => match us, hl with | [_], _ => rfl⟩
  have F_Tables_kept := fun_mk (st := s_Tables_kept) l_Tables_kept c_Tables_kept k_Tables_kept
  have M_Tables_kept : Mth P w K mg base CX0 A_Tables "kept" 1 ["self"] (sp_Tables_kept A_Tables) := ⟨_, _, ok_Tables_kept F_Tables_kept B T_Tables, ⟨a_Tables_kept, i_Tables_kept, k_Tables_kept⟩, F_Tables_kept.binds (ps := ["self"]) fun _ _ _ _ _ _ us hl => match us, hl with | [_], _ => rfl⟩
  have C_law_at : Cal P w K mg base CX0 "_law_at" 1 ["script", "k"] (sp_l_at K) := cal_mk X G a_l_at l_l_at c_l_at k_l_at (fun _ _ _ _ _ _ us hl => match us, hl with | [_, _], _ => rfl) (fun F => ok_l_at F B)
  have C_law_pot : Cal P w K mg base CX0 "_law_pot" 1 ["cell"] sp_l_pot := cal_mk X G a_l_pot l_l_pot c_l_pot k_l_pot (fun _ _ _ _ _ _ us hl => match us, hl with | [_], _ => rfl) (fun F => ok_l_pot F B)
  have C_law_take : Cal P w K mg base CX0 "_law_take" 1 ["pot", "many"] sp_l_tk := cal_mk X G a_l_take l_l_take c_l_take k_l_take (fun _ _ _ _ _ _ us hl => match us, hl with | [_, _], _ => rfl) (fun F => ok_l_take F B)
  have C_law_number : Cal P w K mg base CX0 "_law_number" 2 ["pot"] sp_l_number := cal_mk X G a_l_number l_l_number c_l_number k_l_number (fun _ _ _ _ _ _ us hl => match us, hl with | [_], _ => rfl) (fun F => ok_l_number F B C_law_take)
  have C_law_address : Cal P w K mg base CX0 "_law_address" 3 ["pot"] (sp_l_address K) := cal_mk X G a_l_address l_l_address c_l_address k_l_address (fun _ _ _ _ _ _ us hl => match us, hl with | [_], _ => rfl) (fun F => ok_l_address F B C_law_number)
  have C_law_places : Cal P w K mg base CX0 "_law_places" 4 ["pot", "most"] (sp_l_places K) := cal_mk X G a_l_places l_l_places c_l_places k_l_places (fun _ _ _ _ _ _ us hl => match us, hl with | [_, _], _ => rfl) (fun F => ok_l_places F B C_law_address C_law_take C_law_number)
  have C_law_whole : Cal P w K mg base CX0 "_law_whole" 1 ["thing"] sp_l_whole := cal_mk X G a_l_whole l_l_whole c_l_whole k_l_whole (fun _ _ _ _ _ _ us hl => match us, hl with | [_], _ => rfl) (fun F => ok_l_whole F B)
  have C_law_is : Cal P w K mg base CX0 "_law_is" 2 ["tables", "due"] (sp_l_is K A_Tables) := cal_mk X G a_l_is l_l_is c_l_is k_l_is (fun _ _ _ _ _ _ us hl => match us, hl with | [_, _], _ => rfl) (fun F => ok_l_is F B T_Tables M_Tables_numbers M_Tables_spot M_Tables_next_number M_Tables_deeds M_Tables_last M_Tables_kept C_law_whole)
  have C_law_drawn : Cal P w K mg base CX0 "_law_drawn" 5 ["pot"] (sp_l_drawn K) := cal_mk X G a_l_drawn l_l_drawn c_l_drawn k_l_drawn (fun _ _ _ _ _ _ us hl => match us, hl with | [_], _ => rfl) (fun F => ok_l_drawn F B C_law_places C_law_address C_law_number C_law_take)
  have C_law_made : Cal P w K mg base CX0 "_law_made" 3 ["pot", "one"] (sp_l_made K A_Tables) := cal_mk X G a_l_made l_l_made c_l_made k_l_made (fun _ _ _ _ _ _ us hl => match us, hl with | [_, _], _ => rfl) (fun F => ok_l_made F B T_Tables I_Tables I_Tables_kw0_kept_last_places_deeds_next_number C_law_take)
  have C_law_stays : Cal P w K mg base CX0 "_law_stays" 3 ["tables", "one"] (sp_l_stays K A_Tables) := cal_mk X G a_l_stays l_l_stays c_l_stays k_l_stays (fun _ _ _ _ _ _ us hl => match us, hl with | [_, _], _ => rfl) (fun F => ok_l_stays F B T_Tables M_Tables_numbers M_Tables_kept C_law_is)
  exact ok_law F_law B C_law_pot C_law_drawn C_law_made C_law_at C_law_is C_law_stays
theorem walk {l : PySem.W.OpenLaw} {q : Program} {loose : List Str} {XP : (Str → Option Value) → Heap → Prop} {YP : World → Heap → Prop} {d : DefRec} {K : Params → PySem.W.Frag} (hn : l.most = some 63) (hdf : d.params.defaults = [])
    (hY : ∀ (w : World) (h : Heap), YP w h → (K w.params).In h)
    (F : ∀ (w : World) (mg : Str → Option Value) (fa : Addr) (h : Heap), (K w.params).In h → h.Ns mainGlobals mg → mg d.name = some (.ref fa) →
      ∃ fd : FuncData, (∀ (s : Shared) (u : Value), BindsTo s fd ⟨[u], []⟩ [("script", u)]) ∧ ∀ base : Heap, (K w.params).In base → base.Ns mainGlobals mg → GnOk l.prog w (K w.params) mg base CX0 6 fa fd ["script"] (sp_law (K w.params))) :
    PySem.W.WalkO q loose XP YP l.row.toRowW d [] (fun f vs => PySem.call f vs) :=
  gn_walk (n := 63) (k := 6) (x := "script") (CX := fun _ => CX0) (sp := sp_law) hn (by decide) hdf ⟨rfl, by decide, by decide⟩ hY F (fun _ _ a ns hl hS => ⟨a, ns, rfl, hS, hl, fun _ => rfl⟩) fun _ _ _ _ _ z => z
end Cl
open PySem PySem.W PyProof.Rows
set_option maxRecDepth 100000 in
set_option maxHeartbeats 0 in
theorem PySem.Challenge.cw_cleanedlog_k66_tables_holds : PySem.Challenge.rw_cleanedlog_k66_tables.Holds := by
  w_on; o_law; k_head; (case hw => w_witness2)
  k_fill
  refine Cl.walk (l := PySem.Challenge.rw_cleanedlog_k66_tables) rfl rfl (fun w h Y => PySem.W.kIn_of Y) ?F
  case F =>
    intro w mg fa h KX G hmg
    refine' Cl.all_mk KX G hmg ?z_len ?z_max ?z_min ?z_abs ?z_divmod ?z_range ?z_ord ?z_isinstance ?z_int ?z_str ?z_bool ?z_list ?z_tuple ?z_dict ?z_set ?z_all ?z_any ?z_sorted ?z_enumerate ?z_zip ?z_repr ?z_sum ?ig_ ?it_ ?ac_Tables ?pg_Tables ?hd_Tables ?po_Tables ?sa_Tables ?mk_Tables ?kc_Tables ?ic_Tables ?im_Tables ?n_Tables_spots_by_number ?n_Tables_number_behind ?n_Tables_deeds_done ?n_Tables_last_group ?n_Tables_checkpoint_spots ?a_Tables_init ?i_Tables_init ?l_Tables_init ?c_Tables_init ?k_Tables_init ?a_Tables_spot ?i_Tables_spot ?l_Tables_spot ?c_Tables_spot ?k_Tables_spot ?a_Tables_numbers ?i_Tables_numbers ?l_Tables_numbers ?c_Tables_numbers ?k_Tables_numbers ?a_Tables_next_number ?i_Tables_next_number ?l_Tables_next_number ?c_Tables_next_number ?k_Tables_next_number ?a_Tables_deeds ?i_Tables_deeds ?l_Tables_deeds ?c_Tables_deeds ?k_Tables_deeds ?a_Tables_last ?i_Tables_last ?l_Tables_last ?c_Tables_last ?k_Tables_last ?a_Tables_kept ?i_Tables_kept ?l_Tables_kept ?c_Tables_kept ?k_Tables_kept ?a_l_at ?l_l_at ?c_l_at ?k_l_at ?a_l_pot ?l_l_pot ?c_l_pot ?k_l_pot ?a_l_take ?l_l_take ?c_l_take ?k_l_take ?a_l_number ?l_l_number ?c_l_number ?k_l_number ?a_l_address ?l_l_address ?c_l_address ?k_l_address ?a_l_places ?l_l_places ?c_l_places ?k_l_places ?a_l_whole ?l_l_whole ?c_l_whole ?k_l_whole ?a_l_is ?l_l_is ?c_l_is ?k_l_is ?a_l_drawn ?l_l_drawn ?c_l_drawn ?k_l_drawn ?a_l_made ?l_l_made ?c_l_made ?k_l_made ?a_l_stays ?l_l_stays ?c_l_stays ?k_l_stays ?a_law ?l_law ?c_law ?k_law
    (case z_len => k_is); (case z_max => k_is); (case z_min => k_is); (case z_abs => k_is); (case z_divmod => k_is); (case z_range => k_is); (case z_ord => k_is); (case z_isinstance => k_is); (case z_int => k_is); (case z_str => k_is); (case z_bool => k_is); (case z_list => k_is); (case z_tuple => k_is); (case z_dict => k_is); (case z_set => k_is); (case z_all => k_is); (case z_any => k_is); (case z_sorted => k_is); (case z_enumerate => k_is); (case z_zip => k_is); (case z_repr => k_is); (case z_sum => k_is); (case ig_ => k_is); (case it_ => k_is); (case ac_Tables => k_is); (case pg_Tables => k_is); (case hd_Tables => k_is); (case po_Tables => k_is); (case sa_Tables => k_is); (case mk_Tables => k_is); (case kc_Tables => k_is); (case ic_Tables => k_is); (case im_Tables => k_is); (case n_Tables_spots_by_number => k_is); (case n_Tables_number_behind => k_is); (case n_Tables_deeds_done => k_is); (case n_Tables_last_group => k_is); (case n_Tables_checkpoint_spots => k_is); (case a_Tables_init => k_is); (case i_Tables_init => k_is); (case l_Tables_init => k_is); (case c_Tables_init => k_is); (case k_Tables_init => k_is); (case a_Tables_spot => k_is); (case i_Tables_spot => k_is); (case l_Tables_spot => k_is); (case c_Tables_spot => k_is); (case k_Tables_spot => k_is); (case a_Tables_numbers => k_is); (case i_Tables_numbers => k_is); (case l_Tables_numbers => k_is); (case c_Tables_numbers => k_is); (case k_Tables_numbers => k_is); (case a_Tables_next_number => k_is); (case i_Tables_next_number => k_is); (case l_Tables_next_number => k_is); (case c_Tables_next_number => k_is); (case k_Tables_next_number => k_is); (case a_Tables_deeds => k_is); (case i_Tables_deeds => k_is); (case l_Tables_deeds => k_is); (case c_Tables_deeds => k_is); (case k_Tables_deeds => k_is); (case a_Tables_last => k_is); (case i_Tables_last => k_is); (case l_Tables_last => k_is); (case c_Tables_last => k_is); (case k_Tables_last => k_is); (case a_Tables_kept => k_is); (case i_Tables_kept => k_is); (case l_Tables_kept => k_is); (case c_Tables_kept => k_is); (case k_Tables_kept => k_is); (case a_l_at => k_is); (case l_l_at => k_is); (case c_l_at => k_is); (case k_l_at => k_is); (case a_l_pot => k_is); (case l_l_pot => k_is); (case c_l_pot => k_is); (case k_l_pot => k_is); (case a_l_take => k_is); (case l_l_take => k_is); (case c_l_take => k_is); (case k_l_take => k_is); (case a_l_number => k_is); (case l_l_number => k_is); (case c_l_number => k_is); (case k_l_number => k_is); (case a_l_address => k_is); (case l_l_address => k_is); (case c_l_address => k_is); (case k_l_address => k_is); (case a_l_places => k_is); (case l_l_places => k_is); (case c_l_places => k_is); (case k_l_places => k_is); (case a_l_whole => k_is); (case l_l_whole => k_is); (case c_l_whole => k_is); (case k_l_whole => k_is); (case a_l_is => k_is); (case l_l_is => k_is); (case c_l_is => k_is); (case k_l_is => k_is); (case a_l_drawn => k_is); (case l_l_drawn => k_is); (case c_l_drawn => k_is); (case k_l_drawn => k_is); (case a_l_made => k_is); (case l_l_made => k_is); (case c_l_made => k_is); (case k_l_made => k_is); (case a_l_stays => k_is); (case l_l_stays => k_is); (case c_l_stays => k_is); (case k_l_stays => k_is); (case a_law => k_is); (case l_law => k_is); (case c_law => k_is); (case k_law => k_is)
