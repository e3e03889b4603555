import PyProof.Rows.All
import Wide.All
import OpenK.AllK
import Wide.FinOn
import HandS.ForMost
import HandS.ForExc
import HandS.WideBits
import HandS.StrMore
import HandS.Flow
import HandS.IsInst
import HandS.Defaults
import HandS.TupAny
import HandS.Walk
import HandS.More
import HandS.SortInts
import HandS.ListItems
import HandS.ExcValue
import KE.KUnpackStar
import KE.GoesMore
import KE.GoesEnum
import HandS.ExcInit
import HandS.ExcOwn
import HandS.ExcIs
import HandS.ExcField
import HandS.TryOnly
import HandS.DeepEq
import PySem.Challenge.RW_cleanedlog_k31_paths
set_option Elab.async false
set_option linter.all false
set_option maxRecDepth 100000
set_option maxHeartbeats 1000000
/-! ### ClG: defs that know that nothing is being shown (repr wants it): promises, calls, methods, makings, the law's own call -/
namespace Cl
open PySem PySem.Spec PyProof.Rows L2

/-- room for k calls, and no repr is running -/
structure Rm (k : Nat) (A : Around) : Prop where
  room : Room k A
  gd : A.guards = some []
theorem Rm.mono {j k : Nat} {A : Around} (r : Rm k A) (h : j ≤ k) : Rm j A := ⟨r.room.mono h, r.gd⟩
theorem Rm.deeper {k : Nat} {A : Around} (r : Rm (k + 1) A) (env : Env) : Rm k (A.deeper env) := ⟨r.room.deeper env, r.gd⟩
theorem Rm.make {k : Nat} {A : Around} (r : Rm (k + 1) A) (C : Addr) (us : List Value) (kw : List (Str × Value)) : Rm k (A.under (.builtin "type.__call__" ⟨.ref C :: us, kw⟩)) := by
  refine ⟨r.room.make C us kw, ?_⟩
  show pushGuards (Code.builtin "type.__call__" ⟨.ref C :: us, kw⟩).guards A.guards = some []
  rw [show (Code.builtin "type.__call__" ⟨.ref C :: us, kw⟩).guards = [] by simp [Code.guards, Code.isGuard, guardIds]]
  exact r.gd
theorem Rm.hu {A : Around} {k : Nat} (hr : Rm k A) : A.units + 1 < cLine := hu_of hr.room
theorem Rm.units {A : Around} {k : Nat} (hr : Rm k A) : A.units + 64 < cLine := hr.room.units

/-- a def that keeps its promise wherever there is such room -/
structure GnOk (P : Program) (w : World) (K : PySem.W.Frag) (mg : Str → Option Value) (base : Heap) (CX : CXT) (k : Nat) (f : Addr) (fd : FuncData) (ps : List Str) (sp : Sp) : Prop where
  len : ∀ vs H Q E, sp vs H Q E → vs.length = ps.length
  run : ∀ (A : Around) (out : List Env) (s : Shared) (H : Hp) (ar : Args) (us : List Value) (vs : List V) (Q : VK) (E : XK), Rm k A → Env0 P w K mg base A out s H →
    BindsTo s fd ar (ps.zip us) → Vals vs us → sp vs H Q E → codeAny (model P w) A (.call (.ref f) ar) (CR CX out P w H s Q E) s

section
variable {P : Program} {w : World} {K : PySem.W.Frag} {mg : Str → Option Value} {base : Heap}
theorem GnOk.mono {CX : CXT} {j k : Nat} {f : Addr} {fd : FuncData} {ps : List Str} {sp : Sp} (F : GnOk P w K mg base CX j f fd ps sp) (h : j ≤ k) : GnOk P w K mg base CX k f fd ps sp :=
  ⟨F.len, fun A out s H ar us vs Q E hr => F.run A out s H ar us vs Q E (hr.mono h)⟩
theorem GnOk.imp {CX : CXT} {k : Nat} {f : Addr} {fd : FuncData} {ps : List Str} {sp sp' : Sp} (F : GnOk P w K mg base CX k f fd ps sp) (h : ∀ vs H Q E, sp' vs H Q E → sp vs H Q E) : GnOk P w K mg base CX k f fd ps sp' :=
  ⟨fun vs H Q E q => F.len vs H Q E (h _ _ _ _ q), fun A out s H ar us vs Q E hr he hb hv hs => F.run A out s H ar us vs Q E hr he hb hv (h _ _ _ _ hs)⟩
/-- the end of a body is the end of the call -/
theorem body_end {CX : CXT} {N : List Str} {qual : Str} {sc : Scope} {f : Addr} {cd : Value} {A : Around} {out : List Env} {s : Shared} {H : Hp} {E : XK} {Q : VK} :
    ∀ {fl : Flow} {s' : Shared}, SP (cxOf CX P w K mg base N qual sc f cd A out s H E) [] { nx := fun _ H' => Q .non H', rt := Q } fl s' → CE out P w H s Q (match (generalizing := false) fl with | .ret v => v | _ => .none) s'
  | .ret _, _, ⟨v, _, H1, J, rv, q⟩ => ⟨v, H1, J.os, J.bare, J.base, J.hok, rv, q⟩
  | .next, _, ⟨_, H1, J, q⟩ => ⟨.non, H1, J.os, J.bare, J.base, J.hok, rfl, q⟩
  | .brk, _, ⟨_, _, _, q⟩ => q.elim
  | .cont, _, ⟨_, _, _, q⟩ => q.elim
theorem gn_of {CX : CXT} {k : Nat} {f : Addr} {nm qual : Str} {pars : Arguments} {body : List Stmt} {sc : Scope} {dV kV doc pm cdv ct oc : Value} {an od : Option Addr} {osl : Array (Option Value)} {N ps : List Str} {sp : Sp}
    (lk : K.lookup f = some ⟨oc, od, .func (PySem.W.fnOf nm qual pars body sc dV kV doc pm an cdv ct), osl⟩) (hc : PySem.W.codeIn K cdv qual = true) (S : FnScope N ps sc) (len : ∀ vs H Q E, sp vs H Q E → vs.length = ps.length)
    (hb : ∀ (A : Around) (out : List Env) (s : Shared) (H : Hp) (vs : List V) (Q : VK) (E : XK), Rm k (A.deeper (envOfC qual sc s.heap.objs.size f cdv)) → sp vs H Q E →
      ∃ t, PSs (cxOf CX P w K mg base N qual sc f cdv A out s H E) body t ∧ t { nx := fun _ H' => Q .non H', rt := Q } (start N vs) H) :
    GnOk P w K mg base CX (k + 1) f (PySem.W.fnOf nm qual pars body sc dV kV doc pm an cdv ct) ps sp := by
  constructor
  · exact len
  intro A out s H ar us vs Q E hr e0 hbd rv hs
  have lenv := len _ _ _ _ hs
  have inK : K.In s.heap := e0.mod.kin.keeps fun b o e => (e0.bs b o e).1
  have nolim : s.heap.NoLimit := e0.mod.nolimit.keeps fun b o e => (e0.bs b o e).1
  have kinds : ∀ y ∈ ps.zip us, sc.names.lookup y.1 = some .local ∨ (sc.names.lookup y.1 = some .cell ∧ ((cellsFrom (s.heap.objs.size + 1) sc.names []).lookup y.1).isSome = true) := by
    rintro ⟨n, v⟩ hy
    have hp := S.par n (List.of_mem_zip hy).1
    exact hp.imp id fun q => ⟨q, PySem.W.cellsFrom_some _ _ _ (.inl q)⟩
  refine codeAny_call_function hr.room.depth (inK _ _ lk) rfl S.co S.gen rfl (PySem.W.codeRec_of inK hc) (hbd _ _ _ _ (wpAny_newFunctionEnv_cells S.kind kinds ?_))
  rintro env rfl s1 x
  refine ⟨nolim.keeps x.toInCall.keep, codeAny_func ?_⟩
  obtain ⟨t, ht, hq⟩ := hb A out s H vs Q E (hr.deeper _) hs
  refine wpAny_mono (ht.run [] s1 (start N vs) H _ (inv_start S hr.room.hd e0 lenv rv x) hq) (fun fl s' z => ?_) fun e s' z => z
  have z' := body_end z
  cases fl <;> exact z'
/-- THE RULE for a def out of which nothing is raised -/
theorem gn_fun {x qual : Str} {st : Stmt} {f : Addr} {fd : FuncData} {N ps : List Str} {k : Nat} {sp : Sp} (F : Fun K x qual st f fd) (S : FnScope N ps (defScope st)) (len : ∀ vs H Q E, sp vs H Q E → vs.length = ps.length)
    (hb : ∀ (cdv : Value) (A : Around) (out : List Env) (s : Shared) (H : Hp) (vs : List V) (Q : VK) (E : XK), Rm k (A.deeper (envOfC qual (defScope st) s.heap.objs.size f cdv)) → sp vs H Q E →
      ∃ t, PSs (cxOf CX0 P w K mg base N qual (defScope st) f cdv A out s H E).nox (defBody st) t ∧ t { nx := fun _ H' => Q .non H', rt := Q } (start N vs) H) : GnOk P w K mg base CX0 (k + 1) f fd ps sp := by
  obtain ⟨oc, od, kV, doc, pm, an, cdv, ct, osl, rfl, lk, hc⟩ := F.ex
  refine gn_of lk hc S len fun A out s H vs Q E hr hs => ?_
  obtain ⟨t, h1, h2⟩ := hb cdv A out s H vs Q E hr hs
  exact ⟨t, h1.nox, h2⟩
/-- THE RULE for a def that may raise -/
theorem gn_funX {x qual : Str} {st : Stmt} {f : Addr} {fd : FuncData} {N ps : List Str} {k : Nat} {sp : Sp} (F : Fun K x qual st f fd) (S : FnScope N ps (defScope st)) (len : ∀ vs H Q E, sp vs H Q E → vs.length = ps.length)
    (hb : ∀ (cdv : Value) (A : Around) (out : List Env) (s : Shared) (H : Hp) (vs : List V) (Q : VK) (E : XK), Rm k (A.deeper (envOfC qual (defScope st) s.heap.objs.size f cdv)) → sp vs H Q E →
      ∃ t, PSs (cxOf (L2.CX P w) P w K mg base N qual (defScope st) f cdv A out s H E) (defBody st) t ∧ t { nx := fun _ H' => Q .non H', rt := Q } (start N vs) H) : GnOk P w K mg base (L2.CX P w) (k + 1) f fd ps sp := by
  obtain ⟨oc, od, kV, doc, pm, an, cdv, ct, osl, rfl, lk, hc⟩ := F.ex
  exact gn_of lk hc S len fun A out s H vs Q E hr hs => hb cdv A out s H vs Q E hr hs
end

/-! ### calls -/
section
variable {X : Cx} {CX : CXT} {k : Nat} {f C : Addr} {fd : FuncData} {ps : List Str} {sp : Sp} {E : XK} {pins : List (Addr × Obj)} {σ : L2.St} {H : Hp} {s : Shared} {Q : VK}
/-- the callee runs, its parameters bound to all -/
theorem gn_call {us : List Value} {kw : List (Str × Value)} {allU : List Value} {allV : List V} (F : GnOk X.prog X.w X.K X.mg X.base CX k f fd ps sp) (hr : Rm k X.A) (hb : BindsTo s fd ⟨us, kw⟩ (ps.zip allU)) (hx : Passes CX X E)
    (I : Inv X pins σ H s) (r : Vals allV allU) (h : sp allV H Q E) : wpAny (model X.prog X.w) X.A (call (.ref f) us kw) (EP X pins σ Q) X.xe s := by
  refine wpAny_call (codeAny_mono (F.run X.A X.stack s H ⟨us, kw⟩ allU allV Q E hr I.env0 hb r h) ?_)
  rintro (e | fl) s' hq
  · exact hx pins σ H s e s' I hq
  · cases fl with
    | ret u => exact I.after hq
    | next | brk | cont => exact hq.elim
/-- C(..): the instance and its dict are made, __init__ runs -/
theorem gn_make {us : List Value} {kw : List (Str × Value)} {allU : Addr → List Value} {allV : Addr → List V} (M : Mk X.K C f) (F : GnOk X.prog X.w X.K X.mg X.base CX k f fd ps sp) (hr : Rm (k + 1) X.A)
    (hb : ∀ (s' : Shared) (x : Addr), X.K.In s'.heap → BindsTo s' fd ⟨.ref x :: us, kw⟩ (ps.zip (allU x))) (hx : Passes CX X E)
    (I : Inv X pins σ H s) (r : ∀ x, Vals (allV x) (allU x)) (h : ∀ x dx, H x = none → H dx = none → dx ≠ x → sp (allV x) (upd (upd H dx (.own x)) x (.ins C dx [])) (fun v H2 => v = .non ∧ Q (.ref x) H2) E) :
    wpAny (model X.prog X.w) X.A (call (.ref C) us kw) (EP X pins σ Q) X.xe s := by
  have J := Inv.made (C := C) I
  have now := h (s.heap.objs.size + 1) s.heap.objs.size (I.hok.fresh (Nat.le_succ _)) (I.hok.fresh (Nat.le_refl _)) (Nat.ne_of_lt (Nat.lt_succ_self _))
  refine wpAny_call (make_map (f := f) I.kIn M.makes M.init (beq_iff_eq.mp M.fn) (codeAny_mono (F.run _ X.stack _ _ _ (allU (s.heap.objs.size + 1)) _ _ E (hr.make C us kw) (J.env0.make C us kw) (hb _ _ J.kIn) (r _) now) ?_))
  rintro (e | fl) s' hq
  · exact hx pins σ _ _ e s' J hq
  · cases fl with
    | ret u =>
      obtain ⟨v, H1, J1, rv, ev, q1⟩ := J.after hq
      subst ev
      exact ⟨rv, .ref (s.heap.objs.size + 1), H1, J1, rfl, q1⟩
    | next | brk | cont => exact hq.elim
end

/-! ### bundles: a def by its name; how it is bound -/
/-- n positional values and the keywords ks; gV puts the values in the parameters' order (defaults among them) -/
structure Cal (P : Program) (w : World) (K : PySem.W.Frag) (mg : Str → Option Value) (base : Heap) (CX : CXT) (x : Str) (k : Nat) (ps : List Str) (sp : Sp) : Prop where
  ex : ∃ (f : Addr) (fd : FuncData), GnOk P w K mg base CX k f fd ps sp ∧ mg x = some (.ref f) ∧ PySem.W.keepIn K (.ref f) = true ∧ Binds K fd ps []
structure CalK (P : Program) (w : World) (K : PySem.W.Frag) (mg : Str → Option Value) (base : Heap) (CX : CXT) (x : Str) (k : Nat) (ps : List Str) (n : Nat) (ks : List Str) (gV : List V → List V → List V) (sp : Sp) : Prop where
  ex : ∃ (f : Addr) (fd : FuncData) (g : List Value → List Value → List Value), GnOk P w K mg base CX k f fd ps sp ∧ mg x = some (.ref f) ∧ PySem.W.keepIn K (.ref f) = true ∧ KBn K fd ps n ks g gV
section
variable {X : Cx} {CX : CXT} {k n : Nat} {ps ks : List Str} {sp : Sp} {E : XK} {x : Str} {p pos : Pos} {e : Expr} {es : List Expr} {kws : List Keyword} {t tk : TA} {gV : List V → List V → List V}
theorem pe_cal (C : Cal X.prog X.w X.K X.mg X.base CX x k ps sp) (hr : Rm k X.A) (hg : Gl X x) (hx : Passes CX X E) (ha : PA X (e :: es) t) (hdb : (x == ("__debug__" : Str)) = false := by decide)
    (he : starEach (e :: es) X.env = (false, eval e X.env) :: starEach es X.env := by rfl) (hpl : (backTo pos (starEach es X.env)).any (·.1) = false := by rfl) :
    PE X (.Call (.Name x p) (e :: es) [] pos) (tCall sp [] E t) := by
  obtain ⟨f, fd, F, hm, hk, hb⟩ := C.ex
  constructor
  intro pins s σ H Q I h
  refine wpAny_Call_Name_kw (ld_glob I hg hm (PySem.W.callWith_K (h₀ := X.base) I.ok.mod.kin hk (thn (ha.run pos pins s σ H _ I h) ?_) he hpl) hdb)
  rintro us s1 ⟨vs, H1, I1, r, q⟩
  rw [List.append_nil] at q
  have hl := F.len _ _ _ _ q
  refine ⟨I1.kIn, gn_call F hr (?_ : BindsTo s1 fd ⟨us, []⟩ (ps.zip us)) hx I1 r q⟩
  have hb' := hb s1 us I1.kIn (by rw [List.append_nil, ← r.length]; exact hl)
  rwa [List.append_nil] at hb'
theorem pe_cal0 (C : Cal X.prog X.w X.K X.mg X.base CX x k ps sp) (hr : Rm k X.A) (hg : Gl X x) (hx : Passes CX X E) (hdb : (x == ("__debug__" : Str)) = false := by decide) :
    PE X (.Call (.Name x p) [] [] pos) (tCall sp [] E tNil) := by
  obtain ⟨f, fd, F, hm, hk, hb⟩ := C.ex
  constructor
  intro pins s σ H Q I h
  have hl := F.len _ _ _ _ (show sp ([] ++ []) H Q E from h)
  refine wpAny_Call_Name_kw (ld_glob I hg hm (PySem.W.callWith_K0 I.kIn hk (gn_call (us := []) (allU := []) F hr (hb s [] I.kIn hl) hx I .nil h)) hdb)
theorem pe_calk (C : CalK X.prog X.w X.K X.mg X.base CX x k ps n ks gV sp) (hr : Rm k X.A) (hg : Gl X x) (hx : Passes CX X E) (ha : PA X (e :: es) t) (hkw : PK X kws tk)
    (hall : (backToKw pos (keywordEach kws X.env)).all (·.1.isSome) = true := by rfl) (hks : (backToKw pos (keywordEach kws X.env)).filterMap (·.1) = ks := by rfl)
    (hdb : (x == ("__debug__" : Str)) = false := by decide) (he : starEach (e :: es) X.env = (false, eval e X.env) :: starEach es X.env := by rfl)
    (hpl : ((backTo pos (starEach (e :: es) X.env)).any (·.1) || (backToKw pos (keywordEach kws X.env)).any (·.1.isNone)) = false := by rfl) :
    PE X (.Call (.Name x p) (e :: es) kws pos) (tCallN n ks.length sp gV E t tk) := by
  obtain ⟨f, fd, g, F, hm, hk, hb⟩ := C.ex
  constructor
  intro pins s σ H Q I h
  refine wpAny_Call_Name_kw (ld_glob I hg hm (PySem.W.callWith_KW (h₀ := X.base) I.ok.mod.kin hk hall (thn (ha.run pos pins s σ H _ I h) ?_) hpl he) hdb)
  rintro us s1 ⟨vs, H1, I1, r, q⟩
  refine thn (hkw.run pos pins s1 σ H1 _ I1 q) ?_
  rintro ws s2 ⟨zs, H2, I2, rz, l1, l2, q2⟩
  rw [hks]
  exact ⟨I2.kIn, gn_call F hr (hb.to s2 us ws I2.kIn (r.length.symm.trans l1) (rz.length.symm.trans l2)) hx I2 (hb.rel r rz) q2⟩
theorem pe_calk0 (C : CalK X.prog X.w X.K X.mg X.base CX x k ps n ks gV sp) (hr : Rm k X.A) (hg : Gl X x) (hx : Passes CX X E) (hkw : PK X kws tk)
    (hall : (backToKw pos (keywordEach kws X.env)).all (·.1.isSome) = true := by rfl) (hks : (backToKw pos (keywordEach kws X.env)).filterMap (·.1) = ks := by rfl)
    (hdb : (x == ("__debug__" : Str)) = false := by decide)
    (hpl : ((backTo pos (starEach [] X.env)).any (·.1) || (backToKw pos (keywordEach kws X.env)).any (·.1.isNone)) = false := by rfl) :
    PE X (.Call (.Name x p) [] kws pos) (tCallN n ks.length sp gV E tNil tk) := by
  obtain ⟨f, fd, g, F, hm, hk, hb⟩ := C.ex
  constructor
  intro pins s σ H Q I h
  refine wpAny_Call_Name_kw (ld_glob I hg hm (PySem.W.callWith_KW0 (h₀ := X.base) I.ok.mod.kin hk hall (thn (hkw.run pos pins s σ H _ I h) ?_) hpl) hdb)
  rintro ws s2 ⟨zs, H2, I2, rz, l1, l2, q2⟩
  rw [hks]
  exact ⟨I2.kIn, gn_call (us := []) F hr (hb.to s2 [] ws I2.kIn l1 (rz.length.symm.trans l2)) hx I2 (hb.rel .nil rz) q2⟩
end
section
variable {P : Program} {w : World} {K : PySem.W.Frag} {mg : Str → Option Value} {base h : Heap} {CX : CXT} {x qual : Str} {k n : Nat} {ps ks : List Str} {sp : Sp} {st : Stmt} {f : Addr} {oc : Value} {od an : Option Addr} {osl : Array (Option Value)} {kV doc pm cdv ct : Value}
theorem cal_mk (KX : K.In h) (G : h.Ns mainGlobals mg) (a : PySem.W.nsIn K mainGlobals x = some (some (.ref f)))
    (l : K.lookup f = some ⟨oc, od, .func (PySem.W.fnOf x qual (defArgs st) (defBody st) (defScope st) .none kV doc pm an cdv ct), osl⟩) (c : PySem.W.codeIn K cdv qual = true) (kp : PySem.W.keepIn K (.ref f) = true)
    (hb : ∀ (kV doc pm : Value) (an : Option Addr) (cdv ct : Value) (us : List Value), us.length = ps.length → bindArgs (PySem.W.fnOf x qual (defArgs st) (defBody st) (defScope st) .none kV doc pm an cdv ct) ⟨us, []⟩ = pure (ps.zip us))
    (ok : ∀ {f : Addr} {fd : FuncData}, Fun K x qual st f fd → GnOk P w K mg base CX k f fd ps sp) : Cal P w K mg base CX x k ps sp :=
  have F := fun_mk (st := st) l c kp
  ⟨f, _, ok F, PySem.W.mg_of KX G a, kp, F.binds hb⟩
theorem calk_mk {g : List Value → List Value → List Value} {gV : List V → List V → List V} (KX : K.In h) (G : h.Ns mainGlobals mg) (a : PySem.W.nsIn K mainGlobals x = some (some (.ref f)))
    (l : K.lookup f = some ⟨oc, od, .func (PySem.W.fnOf x qual (defArgs st) (defBody st) (defScope st) .none kV doc pm an cdv ct), osl⟩) (c : PySem.W.codeIn K cdv qual = true) (kp : PySem.W.keepIn K (.ref f) = true)
    (hb : ∀ (kV doc pm : Value) (an : Option Addr) (cdv ct : Value) (us ws : List Value), us.length = n → ws.length = ks.length → bindArgs (PySem.W.fnOf x qual (defArgs st) (defBody st) (defScope st) .none kV doc pm an cdv ct) ⟨us, ks.zip ws⟩ = pure (ps.zip (g us ws)))
    (hrel : ∀ {vs : List V} {us : List Value} {zs : List V} {ws : List Value}, Vals vs us → Vals zs ws → Vals (gV vs zs) (g us ws))
    (ok : ∀ {f : Addr} {fd : FuncData}, Fun K x qual st f fd → GnOk P w K mg base CX k f fd ps sp) : CalK P w K mg base CX x k ps n ks gV sp :=
  have F := fun_mk (st := st) l c kp
  ⟨f, _, g, ok F, PySem.W.mg_of KX G a, kp, ⟨fun s us ws _ l1 l2 => BindsTo.of_eq (hb _ _ _ _ _ _ us ws l1 l2), hrel⟩⟩
end

/-! ### methods and makings by bundles -/
/-- a method of the class at C: n values behind the instance, the keywords ks -/
structure Mth (P : Program) (w : World) (K : PySem.W.Frag) (mg : Str → Option Value) (base : Heap) (CX : CXT) (C : Addr) (m : Str) (k : Nat) (ps : List Str) (sp : Sp) : Prop where
  ex : ∃ (f : Addr) (fd : FuncData), GnOk P w K mg base CX k f fd ps sp ∧ Meth K C m f ∧ Binds K fd ps []
structure MthK (P : Program) (w : World) (K : PySem.W.Frag) (mg : Str → Option Value) (base : Heap) (CX : CXT) (C : Addr) (m : Str) (k : Nat) (ps : List Str) (n : Nat) (ks : List Str) (gV : List V → List V → List V) (sp : Sp) : Prop where
  ex : ∃ (f : Addr) (fd : FuncData) (g : List Value → List Value → List Value), GnOk P w K mg base CX k f fd ps sp ∧ Meth K C m f ∧ KBn K fd ps (n + 1) ks g gV
/-- the class's __init__ -/
structure Mkr (P : Program) (w : World) (K : PySem.W.Frag) (mg : Str → Option Value) (base : Heap) (CX : CXT) (C : Addr) (k : Nat) (ps : List Str) (sp : Sp) : Prop where
  ex : ∃ (f : Addr) (fd : FuncData), GnOk P w K mg base CX k f fd ps sp ∧ Mk K C f ∧ Binds K fd ps []
structure MkrK (P : Program) (w : World) (K : PySem.W.Frag) (mg : Str → Option Value) (base : Heap) (CX : CXT) (C : Addr) (k : Nat) (ps : List Str) (n : Nat) (ks : List Str) (gV : List V → List V → List V) (sp : Sp) : Prop where
  ex : ∃ (f : Addr) (fd : FuncData) (g : List Value → List Value → List Value), GnOk P w K mg base CX k f fd ps sp ∧ Mk K C f ∧ KBn K fd ps (n + 1) ks g gV
/-- o.m(.., k = v, ..) -/
def tMthN (C : Addr) (m : Str) (n j : Nat) (sp : Sp) (gV : List V → List V → List V) (E : XK) (ta : TE) (t tk : TA) : TE := fun σ H Q => ta σ H fun x H1 => ∃ a dx fs, x = .ref a ∧ H1 a = some (.ins C dx fs) ∧ fs.lookup m = none ∧
  t σ H1 fun vs H2 => tk σ H2 fun zs H3 => vs.length = n ∧ zs.length = j ∧ sp (gV (x :: vs) zs) H3 Q E
/-- C(.., k = v, ..) -/
def tMkN (C : Addr) (n j : Nat) (sp : Sp) (gV : List V → List V → List V) (E : XK) (t tk : TA) : TE := fun σ H Q => t σ H fun vs H1 => tk σ H1 fun zs H2 => vs.length = n ∧ zs.length = j ∧ ∀ x dx, H2 x = none → H2 dx = none → dx ≠ x →
  sp (gV (.ref x :: vs) zs) (upd (upd H2 dx (.own x)) x (.ins C dx [])) (fun v H3 => v = .non ∧ Q (.ref x) H3) E
section
variable {X : Cx} {CX : CXT} {k n : Nat} {C : Addr} {m x : Str} {ps ks : List Str} {sp : Sp} {E : XK} {p pos apos : Pos} {o e : Expr} {es : List Expr} {kws : List Keyword} {ta : TE} {t tk : TA} {gV : List V → List V → List V} {pl : Sem Bool}
theorem pe_mth (M : Mth X.prog X.w X.K X.mg X.base CX C m k ps sp) (c : Cls X.K C) (hr : Rm k X.A) (hx : Passes CX X E) (ho : PE X o ta) (ha : PA X (e :: es) t)
    (hst : starEach (e :: es) X.env = (false, eval e X.env) :: starEach es X.env := by rfl) (hpl : (backTo pos (starEach es X.env)).any (·.1) = false := by rfl)
    (he : eval (.Call (.Attribute o m apos) (e :: es) [] pos) X.env = (do let ov ← eval o X.env; standAt apos.atName; let (f, first) ← holding [ov] (getMethod ov m pl); callWith pos f first (backTo pos (starEach (e :: es) X.env)) (backToKw pos (keywordEach [] X.env))) := by rfl) :
    PE X (.Call (.Attribute o m apos) (e :: es) [] pos) (tMeth C m sp [] E ta t) := by
  obtain ⟨f, fd, F, hm, hb⟩ := M.ex
  constructor
  intro pins s σ H Q I h
  refine PySem.W.methodCall_KW (pl := pl) (thn (ho.run pins s σ H _ I h) ?_) he
  rintro u s1 ⟨y, H1, I1, ry, a, dx, fs, rfl, ea, lk, q⟩
  obtain rfl : u = Value.ref a := ry
  refine getmeth_ok I1 ea c hm lk (PySem.W.callWith_K (first := [.ref a]) (h₀ := X.base) I.ok.mod.kin hm.kp (thn (ha.run pos pins s1 σ H1 _ I1 q) ?_) hst hpl)
  rintro us s2 ⟨vs, H2, I2, r, q2⟩
  rw [List.append_nil] at q2
  have r2 : Vals (V.ref a :: vs) (Value.ref a :: us) := .cons (show L2.RelV (V.ref a) (Value.ref a) from rfl) r
  have hl := F.len _ _ _ _ q2
  have hb' := hb s2 (Value.ref a :: us) I2.kIn (by rw [List.append_nil, ← r2.length]; exact hl)
  rw [List.append_nil] at hb'
  exact ⟨I2.kIn, gn_call F hr hb' hx I2 r2 q2⟩
theorem pe_mth0 (M : Mth X.prog X.w X.K X.mg X.base CX C m k ps sp) (c : Cls X.K C) (hr : Rm k X.A) (hx : Passes CX X E) (ho : PE X o ta)
    (he : eval (.Call (.Attribute o m apos) [] [] pos) X.env = (do let ov ← eval o X.env; standAt apos.atName; let (f, first) ← holding [ov] (getMethod ov m pl); callWith pos f first (backTo pos (starEach [] X.env)) (backToKw pos (keywordEach [] X.env))) := by rfl) :
    PE X (.Call (.Attribute o m apos) [] [] pos) (tMeth C m sp [] E ta tNil) := by
  obtain ⟨f, fd, F, hm, hb⟩ := M.ex
  constructor
  intro pins s σ H Q I h
  refine PySem.W.methodCall_KW (pl := pl) (thn (ho.run pins s σ H _ I h) ?_) he
  rintro u s1 ⟨y, H1, I1, ry, a, dx, fs, rfl, ea, lk, q⟩
  obtain rfl : u = Value.ref a := ry
  refine getmeth_ok I1 ea c hm lk ?_
  have q2 : sp [V.ref a] H1 Q E := q
  have r2 : Vals [V.ref a] [Value.ref a] := .cons (show L2.RelV (V.ref a) (Value.ref a) from rfl) .nil
  have hl := F.len _ _ _ _ q2
  have hb' := hb s1 [Value.ref a] I1.kIn (by rw [List.append_nil]; exact hl)
  rw [List.append_nil] at hb'
  exact PySem.W.callWith_K0 (first := [.ref a]) I1.kIn hm.kp (gn_call (us := [.ref a]) F hr hb' hx I1 r2 q2)
theorem pe_mthk (M : MthK X.prog X.w X.K X.mg X.base CX C m k ps n ks gV sp) (c : Cls X.K C) (hr : Rm k X.A) (hx : Passes CX X E) (ho : PE X o ta) (ha : PA X (e :: es) t) (hkw : PK X kws tk)
    (hall : (backToKw pos (keywordEach kws X.env)).all (·.1.isSome) = true := by rfl) (hks : (backToKw pos (keywordEach kws X.env)).filterMap (·.1) = ks := by rfl)
    (hst : starEach (e :: es) X.env = (false, eval e X.env) :: starEach es X.env := by rfl) (hpl : ((backTo pos (starEach (e :: es) X.env)).any (·.1) || (backToKw pos (keywordEach kws X.env)).any (·.1.isNone)) = false := by rfl)
    (he : eval (.Call (.Attribute o m apos) (e :: es) kws pos) X.env = (do let ov ← eval o X.env; standAt apos.atName; let (f, first) ← holding [ov] (getMethod ov m pl); callWith pos f first (backTo pos (starEach (e :: es) X.env)) (backToKw pos (keywordEach kws X.env))) := by rfl) :
    PE X (.Call (.Attribute o m apos) (e :: es) kws pos) (tMthN C m n ks.length sp gV E ta t tk) := by
  obtain ⟨f, fd, g, F, hm, hb⟩ := M.ex
  constructor
  intro pins s σ H Q I h
  refine PySem.W.methodCall_KW (pl := pl) (thn (ho.run pins s σ H _ I h) ?_) he
  rintro u s1 ⟨y, H1, I1, ry, a, dx, fs, rfl, ea, lk, q⟩
  obtain rfl : u = Value.ref a := ry
  refine getmeth_ok I1 ea c hm lk (PySem.W.callWith_KW (first := [.ref a]) (h₀ := X.base) I.ok.mod.kin hm.kp hall (thn (ha.run pos pins s1 σ H1 _ I1 q) ?_) hpl hst)
  rintro us s2 ⟨vs, H2, I2, r, q2⟩
  refine thn (hkw.run pos pins s2 σ H2 _ I2 q2) ?_
  rintro ws s3 ⟨zs, H3, I3, rz, l1, l2, q3⟩
  rw [hks]
  have r2 : Vals (V.ref a :: vs) (Value.ref a :: us) := .cons (show L2.RelV (V.ref a) (Value.ref a) from rfl) r
  exact ⟨I3.kIn, gn_call F hr (hb.to s3 (Value.ref a :: us) ws I3.kIn (by rw [← r2.length, List.length_cons, l1]) (rz.length.symm.trans l2)) hx I3 (hb.rel r2 rz) q3⟩
theorem pe_mthk0 (M : MthK X.prog X.w X.K X.mg X.base CX C m k ps n ks gV sp) (c : Cls X.K C) (hr : Rm k X.A) (hx : Passes CX X E) (ho : PE X o ta) (hkw : PK X kws tk)
    (hall : (backToKw pos (keywordEach kws X.env)).all (·.1.isSome) = true := by rfl) (hks : (backToKw pos (keywordEach kws X.env)).filterMap (·.1) = ks := by rfl)
    (hpl : ((backTo pos (starEach [] X.env)).any (·.1) || (backToKw pos (keywordEach kws X.env)).any (·.1.isNone)) = false := by rfl)
    (he : eval (.Call (.Attribute o m apos) [] kws pos) X.env = (do let ov ← eval o X.env; standAt apos.atName; let (f, first) ← holding [ov] (getMethod ov m pl); callWith pos f first (backTo pos (starEach [] X.env)) (backToKw pos (keywordEach kws X.env))) := by rfl) :
    PE X (.Call (.Attribute o m apos) [] kws pos) (tMthN C m n ks.length sp gV E ta tNil tk) := by
  obtain ⟨f, fd, g, F, hm, hb⟩ := M.ex
  constructor
  intro pins s σ H Q I h
  refine PySem.W.methodCall_KW (pl := pl) (thn (ho.run pins s σ H _ I h) ?_) he
  rintro u s1 ⟨y, H1, I1, ry, a, dx, fs, rfl, ea, lk, q⟩
  obtain rfl : u = Value.ref a := ry
  refine getmeth_ok I1 ea c hm lk (PySem.W.callWith_KW0 (first := [.ref a]) (h₀ := X.base) I.ok.mod.kin hm.kp hall (thn (hkw.run pos pins s1 σ H1 _ I1 q) ?_) hpl)
  rintro ws s3 ⟨zs, H3, I3, rz, l1, l2, q3⟩
  rw [hks]
  have r2 : Vals [V.ref a] [Value.ref a] := .cons (show L2.RelV (V.ref a) (Value.ref a) from rfl) .nil
  exact ⟨I3.kIn, gn_call (us := [.ref a]) F hr (hb.to s3 [Value.ref a] ws I3.kIn (by show 0 + 1 = n + 1; rw [← l1]; rfl) (rz.length.symm.trans l2)) hx I3 (hb.rel r2 rz) q3⟩
theorem pe_mk (M : Mkr X.prog X.w X.K X.mg X.base CX C k ps sp) (hr : Rm (k + 1) X.A) (hg : Gl X x) (hm : X.mg x = some (.ref C)) (hx : Passes CX X E) (ha : PA X (e :: es) t) (hdb : (x == ("__debug__" : Str)) = false := by decide)
    (he : starEach (e :: es) X.env = (false, eval e X.env) :: starEach es X.env := by rfl) (hpl : (backTo pos (starEach es X.env)).any (·.1) = false := by rfl) : PE X (.Call (.Name x p) (e :: es) [] pos) (tMake C sp [] E t) := by
  obtain ⟨f, fd, F, M, hb⟩ := M.ex
  constructor
  intro pins s σ H Q I h
  refine wpAny_Call_Name_kw (ld_glob I hg hm (PySem.W.callWith_K (h₀ := X.base) I.ok.mod.kin M.kp (thn (ha.run pos pins s σ H _ I h) ?_) he hpl) hdb)
  rintro us s1 ⟨vs, H1, I1, r, q⟩
  rw [List.append_nil] at q
  have hl := F.len _ _ _ _ (q (s1.heap.objs.size + 1) s1.heap.objs.size (I1.hok.fresh (Nat.le_succ _)) (I1.hok.fresh (Nat.le_refl _)) (Nat.ne_of_lt (Nat.lt_succ_self _)))
  refine ⟨I1.kIn, gn_make (allU := fun y => .ref y :: us) (allV := fun y => .ref y :: vs) M F hr (fun s' y hK => ?_) hx I1 (fun y => .cons (show L2.RelV (V.ref y) (Value.ref y) from rfl) r) q⟩
  have hb' := hb s' (Value.ref y :: us) hK (by rw [List.append_nil, List.length_cons, ← r.length]; exact hl)
  rwa [List.append_nil] at hb'
theorem pe_mkk (M : MkrK X.prog X.w X.K X.mg X.base CX C k ps n ks gV sp) (hr : Rm (k + 1) X.A) (hg : Gl X x) (hm : X.mg x = some (.ref C)) (hx : Passes CX X E) (ha : PA X (e :: es) t) (hkw : PK X kws tk)
    (hall : (backToKw pos (keywordEach kws X.env)).all (·.1.isSome) = true := by rfl) (hks : (backToKw pos (keywordEach kws X.env)).filterMap (·.1) = ks := by rfl)
    (hdb : (x == ("__debug__" : Str)) = false := by decide) (he : starEach (e :: es) X.env = (false, eval e X.env) :: starEach es X.env := by rfl)
    (hpl : ((backTo pos (starEach (e :: es) X.env)).any (·.1) || (backToKw pos (keywordEach kws X.env)).any (·.1.isNone)) = false := by rfl) :
    PE X (.Call (.Name x p) (e :: es) kws pos) (tMkN C n ks.length sp gV E t tk) := by
  obtain ⟨f, fd, g, F, M, hb⟩ := M.ex
  constructor
  intro pins s σ H Q I h
  refine wpAny_Call_Name_kw (ld_glob I hg hm (PySem.W.callWith_KW (h₀ := X.base) I.ok.mod.kin M.kp hall (thn (ha.run pos pins s σ H _ I h) ?_) hpl he) hdb)
  rintro us s1 ⟨vs, H1, I1, r, q⟩
  refine thn (hkw.run pos pins s1 σ H1 _ I1 q) ?_
  rintro ws s2 ⟨zs, H2, I2, rz, l1, l2, q2⟩
  rw [hks]
  have r2 : ∀ y, Vals (V.ref y :: vs) (Value.ref y :: us) := fun y => .cons (show L2.RelV (V.ref y) (Value.ref y) from rfl) r
  exact ⟨I2.kIn, gn_make (allU := fun y => g (.ref y :: us) ws) (allV := fun y => gV (.ref y :: vs) zs) M F hr (fun s' y hK => hb.to s' (.ref y :: us) ws hK (by rw [← (r2 y).length, List.length_cons, l1]) (rz.length.symm.trans l2)) hx I2 (fun y => hb.rel (r2 y) rz) q2⟩
theorem pe_mkk0 (M : MkrK X.prog X.w X.K X.mg X.base CX C k ps n ks gV sp) (hr : Rm (k + 1) X.A) (hg : Gl X x) (hm : X.mg x = some (.ref C)) (hx : Passes CX X E) (hkw : PK X kws tk)
    (hall : (backToKw pos (keywordEach kws X.env)).all (·.1.isSome) = true := by rfl) (hks : (backToKw pos (keywordEach kws X.env)).filterMap (·.1) = ks := by rfl) (hdb : (x == ("__debug__" : Str)) = false := by decide)
    (hpl : ((backTo pos (starEach [] X.env)).any (·.1) || (backToKw pos (keywordEach kws X.env)).any (·.1.isNone)) = false := by rfl) :
    PE X (.Call (.Name x p) [] kws pos) (tMkN C n ks.length sp gV E tNil tk) := by
  obtain ⟨f, fd, g, F, M, hb⟩ := M.ex
  constructor
  intro pins s σ H Q I h
  refine wpAny_Call_Name_kw (ld_glob I hg hm (PySem.W.callWith_KW0 (h₀ := X.base) I.ok.mod.kin M.kp hall (thn (hkw.run pos pins s σ H _ I h) ?_) hpl) hdb)
  rintro ws s2 ⟨zs, H2, I2, rz, l1, l2, q2⟩
  rw [hks]
  have r2 : ∀ y, Vals [V.ref y] [Value.ref y] := fun y => .cons (show L2.RelV (V.ref y) (Value.ref y) from rfl) .nil
  exact ⟨I2.kIn, gn_make (us := []) (allU := fun y => g [.ref y] ws) (allV := fun y => gV [.ref y] zs) M F hr (fun s' y hK => hb.to s' [.ref y] ws hK (by show 0 + 1 = n + 1; rw [← l1]; rfl) (rz.length.symm.trans l2)) hx I2 (fun y => hb.rel (r2 y) rz) q2⟩
theorem pe_mk0 (M : Mkr X.prog X.w X.K X.mg X.base CX C k ps sp) (hr : Rm (k + 1) X.A) (hg : Gl X x) (hm : X.mg x = some (.ref C)) (hx : Passes CX X E) (hdb : (x == ("__debug__" : Str)) = false := by decide) : PE X (.Call (.Name x p) [] [] pos) (tMake C sp [] E tNil) := by
  obtain ⟨f, fd, F, M, hb⟩ := M.ex
  constructor
  intro pins s σ H Q I h
  have hl := F.len _ _ _ _ (h (s.heap.objs.size + 1) s.heap.objs.size (I.hok.fresh (Nat.le_succ _)) (I.hok.fresh (Nat.le_refl _)) (Nat.ne_of_lt (Nat.lt_succ_self _)))
  refine wpAny_Call_Name_kw (ld_glob I hg hm (PySem.W.callWith_K0 I.kIn M.kp (gn_make (us := []) (allU := fun y => [.ref y]) (allV := fun y => [.ref y]) M F hr (fun s' y hK => ?_) hx I (fun y => .cons (show L2.RelV (V.ref y) (Value.ref y) from rfl) .nil) h)) hdb)
  have hb' := hb s' [Value.ref y] hK hl
  rwa [List.append_nil] at hb'
end

/-! ### the law's own call -/
theorem gn_law {P : Program} {w : World} {K : PySem.W.Frag} {mg mb : Str → Option Value} {CX : CXT} {k : Nat} {fa a : Addr} {fd : FuncData} {x : Str} {sp : Sp} {t : Shared} {vs : List Value} {ns : List Int}
    (inK : K.In t.heap) (gl : t.heap.Ns mainGlobals mg) (bl : t.heap.Ns builtinsNs mb) (bb : ∀ y : Str, y ≠ "__name__" → mb y = bootBuiltins y) (nolim : t.heap.NoLimit) (gens : t.gens = #[])
    (ha : t.heap.get? a = some { cls := .type "list", data := .seq vs.toArray }) (hin : IntsAre vs ns) (small : ns.length ≤ sizeLine) (hr : Room k callerA)
    (F : ∀ base : Heap, K.In base → base.Ns mainGlobals mg → GnOk P w K mg base CX k fa fd [x] sp) (bd : ∀ (s : Shared) (u : Value), BindsTo s fd ⟨[u], []⟩ [(x, u)])
    (hsp : ∀ H : Hp, SqL K H a (ns.map V.int) → sp [.ref a] H (fun v _ => v = .bl true) fun _ _ _ => False) (hx : ∀ H e s', CX [] H t (fun _ _ _ => False) e s' → False) :
    codeAny (model P w) callerA (.call (.ref fa) ⟨[.ref a], []⟩) (fun r s' => r = .ok (.ret (.bool true)) ∧ OldK t.heap s'.heap ∧ s'.os = t.os ∧ AllBare s'.gens) t := by
  have rel := vals_ints hin
  have same := hin.length
  -- the abstract heap: the script alone, where the top doesn't know it
  obtain ⟨H, hS, ok, only, apart⟩ : ∃ H : Hp, SqL K H a (ns.map V.int) ∧ HOk P w H t.heap ∧ (∀ b u, H b = some u → b = a ∧ ∃ o, u = .frz o (.lst (ns.map V.int))) ∧ (∀ u, H a = some u → K.lookup a = none) := by
    cases q : K.lookup a with
    | some o =>
      have e := inK a o q
      rw [ha] at e
      cases e
      exact ⟨fun _ => none, .inr ⟨_, vs.toArray, _, q, rfl, rfl, rfl, by rw [List.size_toArray, same]; exact small, by simpa using rel⟩, (fun b u z => by cases (show (none : Option HO) = some u from z)), (fun b u z => by cases (show (none : Option HO) = some u from z)), fun u z => by cases (show (none : Option HO) = some u from z)⟩
    | none =>
      refine ⟨upd (fun _ => none) a (.frz { cls := .type "list", data := .seq vs.toArray } (.lst (ns.map V.int))), .inl (.inr ⟨_, upd_same⟩), fun b u z => ?_, fun b u z => ?_, fun _ _ => rfl⟩
      · by_cases hb : b = a
        · subst hb
          rw [upd_same] at z
          cases z
          exact ⟨ha, by rw [List.length_map]; exact small, vs, _, rel, ha⟩
        · rw [upd_ne hb] at z
          cases z
      · by_cases hb : b = a
        · subst hb
          rw [upd_same] at z
          cases z
          exact ⟨rfl, _, rfl⟩
        · rw [upd_ne hb] at z
          cases z
  have dictNo : ∀ {b : Addr} {o : Obj} {es : Array DictEntry} {ep : Nat}, t.heap.get? b = some o → o.data = .dict es ep → H b = none := by
    intro b o es ep e d
    cases z : H b with
    | none => rfl
    | some u =>
      obtain ⟨rfl, _⟩ := only b u z
      rw [ha] at e
      cases e
      exact nomatch (show Data.seq vs.toArray _ = Data.dict es ep from d)
  have nsH : ∀ {b : Addr} {m : Str → Option Value}, t.heap.Ns b m → (hidT t.heap H).Ns b m := by
    rintro b m ⟨o, es, ep, e, d, r⟩
    exact ⟨o, es, ep, hidT_get e (dictNo e d), d, r⟩
  have inH : K.In (hidT t.heap H) := by
    intro b o e
    refine hidT_get (inK b o e) ?_
    cases z : H b with
    | none => rfl
    | some u =>
      obtain ⟨rfl, _⟩ := only b u z
      rw [apart u z] at e
      cases e
  obtain ⟨mc, c1, c2⟩ := nolim
  have md : Mod K mg (hidT t.heap H) := ⟨inH, nsH gl, ⟨mb, nsH bl, bb⟩, ⟨mc, nsH c1, c2⟩⟩
  have e0 : Env0 P w K mg (hidT t.heap H) callerA [] t H := ⟨rfl, md, fun b o e => of_hidT e, Nat.le_of_eq (hidT_size _ _), trivial, fun b hb => (List.not_mem_nil (show b ∈ ([] : List Addr) from hb)).elim, ok, .of_eq gens⟩
  refine codeAny_mono ((F _ inH (nsH gl)).run callerA [] t H ⟨[.ref a], []⟩ [.ref a] [.ref a] _ _ ⟨hr, rfl⟩ e0 (bd t (.ref a)) (.cons rfl .nil) (hsp H hS)) ?_
  rintro (e | fl) s' h
  · exact (hx H e s' h).elim
  · cases fl with
    | next | brk | cont => exact h.elim
    | ret u =>
      obtain ⟨v, H1, os, bare, un, ok1, r1, q⟩ := h
      obtain rfl : v = .bl true := q
      obtain rfl : u = Value.bool true := r1
      refine ⟨rfl, OldK.of_keep fun b o e => ?_, os, bare⟩
      cases z : H b with
      | none => exact un.keep b o e z (List.not_mem_nil (a := b)) (List.not_mem_nil (a := b))
      | some u =>
        obtain ⟨rfl, ob, rfl⟩ := only b u z
        have e1 := (ok b _ z).1
        have e2 := (ok1 b _ (un.frzs b ob _ z)).1
        rw [e] at e1
        cases e1
        exact e2
theorem gn_walk {l : PySem.W.OpenLaw} {n k : Nat} {q : Program} {loose : List Str} {XP : (Str → Option Value) → Heap → Prop} {YP : World → Heap → Prop} {d : DefRec} {K : Params → PySem.W.Frag} {CX : World → CXT} {sp : PySem.W.Frag → Sp} {x : Str}
    (hn : l.most = some n) (hn2 : n ≤ sizeLine) (hdf : d.params.defaults = []) (hr : Room k callerA) (hY : ∀ (w : World) (h : Heap), YP w h → (K w.params).In h)
    (F : ∀ (w : World) (mg : Str → Option Value) (fa : Addr) (h : Heap), (K w.params).In h → h.Ns mainGlobals mg → mg d.name = some (.ref fa) →
      ∃ fd : FuncData, (∀ (s : Shared) (u : Value), BindsTo s fd ⟨[u], []⟩ [(x, u)]) ∧ ∀ base : Heap, (K w.params).In base → base.Ns mainGlobals mg → GnOk l.prog w (K w.params) mg base (CX w) k fa fd [x] (sp (K w.params)))
    (hsp : ∀ (w : World) (H : Hp) (a : Addr) (ns : List Int), ns.length ≤ n → SqL (K w.params) H a (ns.map V.int) → sp (K w.params) [.ref a] H (fun v _ => v = .bl true) fun _ _ _ => False)
    (hx : ∀ (w : World) (H : Hp) (s : Shared) (e : Value) (s' : Shared), CX w [] H s (fun _ _ _ => False) e s' → False) : PySem.W.WalkO q loose XP YP l.row.toRowW d [] (fun f vs => PySem.call f vs) := by
  refine Att.attach_call hn hdf ?_
  intro w s₀ t mg mb fa o pm cd doc a vs ns G Y _ _ _ hmg hobj hints hlen hg
  obtain ⟨fd, hb, hF⟩ := F w mg fa _ (hY w _ Y) G.T.g hmg
  exact gn_law (hY w _ Y) G.T.g G.T.b G.T.builtins G.T.nolimit hg hobj hints (Nat.le_trans hlen hn2) hr hF hb (fun H hS => hsp w H a ns hlen hS) fun H e s' => hx w H t e s'
end Cl

/-! ### Cl0: words used by all laws: built-ins, calls of own defs by one bundle, heaps that grow, drawing from a pot -/
namespace Cl
open PySem L2

/-- the built-ins that the top leaves as they are -/
structure Bt (mg : Str → Option Value) : Prop where
  len : mg "len" = none
  max : mg "max" = none
  min : mg "min" = none
  abs : mg "abs" = none
  divmod : mg "divmod" = none
  range : mg "range" = none
  ord : mg "ord" = none
  isinstance : mg "isinstance" = none
  int : mg "int" = none
  str : mg "str" = none
  bool : mg "bool" = none
  list : mg "list" = none
  tuple : mg "tuple" = none
  dict : mg "dict" = none
  set : mg "set" = none
  all : mg "all" = none
  any : mg "any" = none
  sorted : mg "sorted" = none
  enumerate : mg "enumerate" = none
  zip : mg "zip" = none
  repr : mg "repr" = none
  sum : mg "sum" = none

theorem vget {xs : List V} {us : List Value} (h : Vals xs us) (i : Nat) : RelV (xs.getD i V.non) (us.getD i Value.none) := by
  rw [List.getD_eq_getElem?_getD, List.getD_eq_getElem?_getD]
  cases e : xs[i]? with
  | some x =>
    obtain ⟨u, h1, h2⟩ := h.get e
    rw [h1]
    exact h2
  | none =>
    rw [h.none_of e]
    exact (rfl : Value.none = Value.none)
/-! ### the attributes of an instance, written out -/
theorem lk0 {f : Str} {v : V} {r : List (Str × V)} : ((f, v) :: r).lookup f = some v := by
  rw [List.lookup_cons, beq_self_eq_true]
theorem lkS {f g : Str} {u : V} {r : List (Str × V)} {o : Option V} (h : decide (g = f) = false) (k : r.lookup g = o) : ((f, u) :: r).lookup g = o := by
  rw [List.lookup_cons, show (g == f) = false from h]
  exact k
theorem lk_no {m : Str} : ∀ {r : List (Str × V)}, (r.map (·.1)).all (fun f => !decide (m = f)) = true → r.lookup m = none
  | [], _ => rfl
  | (f, v) :: r, h => by
    rw [List.map_cons, List.all_cons, Bool.and_eq_true, Bool.not_eq_true'] at h
    exact lkS h.1 (lk_no h.2)
theorem put0 {f : Str} {u v : V} {r : List (Str × V)} : putF f v ((f, u) :: r) = (f, v) :: r := by
  show (if f = f then _ else _) = _
  rw [if_pos rfl]
theorem putS {f g : Str} {u v : V} {r q : List (Str × V)} (h : decide (f = g) = false) (k : putF g v r = q) : putF g v ((f, u) :: r) = (f, u) :: q := by
  show (if f = g then _ else _) = _
  rw [if_neg (of_decide_eq_false h), k]
theorem fewS {f : Str} {v : V} {n : Nat} : ∀ {r : List (Str × V)}, r.length < n → (putF f v r).length < n + 1
  | [], h => Nat.succ_lt_succ h
  | (g, u) :: r, h => by
    show (if g = f then (g, v) :: r else (g, u) :: putF f v r).length < n + 1
    split
    · exact Nat.lt_succ_of_lt h
    · rw [List.length_cons] at h ⊢
      exact Nat.succ_lt_succ (by
        cases n with
        | zero => cases h
        | succ n => exact fewS (Nat.lt_of_succ_lt_succ h))
/-- an own class as the top has made it -/
structure CF (K : PySem.W.Frag) (mg : Str → Option Value) (x : Str) (C : Addr) (fs : List Str) : Prop where
  cl : Cls K C
  mgC : mg x = some (.ref C)
  no : ∀ f ∈ fs, NoAttr K C f
  ic : PySem.W.findIn K (.ref C) "__class__" = some (some (.builtin "object.__class__"))
  ig : PySem.W.specialIn K (.builtin "object.__class__") "__get__" = some (some (.builtin "getset_descriptor.__get__"))
  it : PySem.W.takesIn K (.builtin "object.__class__") = some true
  im : PySem.W.mroIn K C (.type "object") = some true
theorem CF.ty {K : PySem.W.Frag} {mg : Str → Option Value} {x : Str} {C a dx : Addr} {fs : List Str} {gs : List (Str × V)} {H : Hp} (T : CF K mg x C fs) (h : H a = some (.ins C dx gs)) : TyX K H (.ref a) (.ref C) := .base (.ins h T.cl T.ic T.ig T.it T.im)
theorem kit_self {K : PySem.W.Frag} (C : Addr) : PySem.W.kitOne K (.ref C) (.ref C) = some true := by
  unfold PySem.W.kitOne
  rw [if_pos (by simp)]
theorem all_cons {α : Type} {P : α → Prop} {a : α} {l : List α} (h : P a) (r : ∀ x ∈ l, P x) : ∀ x ∈ a :: l, P x := fun x hx => by
  rcases List.mem_cons.mp hx with rfl | hx
  · exact h
  · exact r x hx

/-- all but the object at p stays -/
def SameBut (p : Addr) (H H' : Hp) : Prop := ∀ b o, H b = some o → b ≠ p → H' b = some o
theorem SameBut.of {p : Addr} {H H' : Hp} (h : Same H H') : SameBut p H H' := fun b o e _ => h b o e
theorem Same.new {H : Hp} {p : Addr} {o : HO} (h : H p = none) : Same H (upd H p o) := fun b u e => by
  rw [upd_ne (ne_of_none e h)]; exact e
theorem SameBut.upd {p : Addr} {H H' : Hp} {o : HO} (h : SameBut p H H') : SameBut p H (L2.upd H' p o) := fun b u e n => by
  rw [upd_ne n]; exact h b u e n
theorem SameBut.refl (p : Addr) (H : Hp) : SameBut p H H := fun _ _ e _ => e
theorem SameBut.trans {p : Addr} {H H1 H2 : Hp} (a : SameBut p H H1) (b : SameBut p H1 H2) : SameBut p H H2 := fun c o e n => b c o (a c o e n) n
theorem SameBut.same {p : Addr} {H H1 H2 : Hp} (a : SameBut p H H1) (b : Same H1 H2) : SameBut p H H2 := fun c o e n => b c o (a c o e n)
theorem SameBut.at {p : Addr} {H H' : Hp} (a : SameBut p H H') {b : Addr} {o : HO} (e : H b = some o) (n : b ≠ p) : H' b = some o := a b o e n
theorem SameBut.free {p : Addr} {H H' : Hp} (a : SameBut p H H') {q : Addr} (h : H' q = none) (n : q ≠ p) : H q = none := by
  cases e : H q with
  | none => rfl
  | some o => rw [a q o e n] at h; cases h
/-- q is new behind H: what then changes it, changes nothing of H -/
theorem SameBut.newer {p q : Addr} {H H1 : Hp} {o : HO} (a : SameBut p H H1) (h : H q = none) : SameBut p H (L2.upd H1 q o) := fun c u e n => by
  rw [upd_ne (ne_of_none e h)]; exact a c u e n
theorem Same.newer {q : Addr} {H H1 : Hp} {o : HO} (a : Same H H1) (h : H q = none) : Same H (L2.upd H1 q o) := fun c u e => by
  rw [upd_ne (ne_of_none e h)]; exact a c u e

/-! ### a list, a tuple, read -/
theorem SameBut.seq {K : PySem.W.Frag} {p : Addr} {H H' : Hp} {a : Addr} {xs : List V} (e : SameBut p H H') (h : SqL K H a xs) (n : a ≠ p) : SqL K H' a xs := by
  rcases h with (h | ⟨o, h⟩) | h
  · exact .inl (.inl (e _ _ h n))
  · exact .inl (.inr ⟨o, e _ _ h n⟩)
  · exact .inr h
/-- p is newer than H -/
theorem Same.but {p : Addr} {H H1 H2 : Hp} (s : Same H H1) (b : SameBut p H1 H2) (n : H p = none) : Same H H2 := fun c o e => b c o (s c o e) (ne_of_none e n)

theorem iteF' {b : Bool} {A B : Prop} (e : b = false) (h : B) : if b = true then A else B := by
  rw [e]
  exact iteF h
theorem iteT' {b : Bool} {A B : Prop} (e : b = true) (h : A) : if b = true then A else B := by
  rw [e]
  exact iteT h
/-! ### rules over a written part that is named -/
section
variable {X : Cx}
theorem ix_listK (K : PySem.W.Frag)  (hK : X.K = K := by rfl) : IxR X (rIxL K) := by subst hK; exact ix_list
theorem ix_tupK (K : PySem.W.Frag)  (hK : X.K = K := by rfl) : IxR X (rIxT K) := by subst hK; exact ix_tup
theorem ix_seqK (K : PySem.W.Frag)  (hK : X.K = K := by rfl) : IxR X (rIx K) := by subst hK; exact ix_seq
theorem ix_kdictK (K : PySem.W.Frag) (w : World) (hw : X.w = w := by rfl) (hK : X.K = K := by rfl) : IxR X (rIxD K w) := by subst hK; subst hw; exact ix_kdict
theorem sl_listK (K : PySem.W.Frag)  (hK : X.K = K := by rfl) : SlR X (rSlL K) := by subst hK; exact sl_list
theorem sl_tupAK (K : PySem.W.Frag)  (hK : X.K = K := by rfl) : SlR X (rSlA K) := by subst hK; exact sl_tupA
theorem op_in_seqK (K : PySem.W.Frag)  (hK : X.K = K := by rfl) : OpR X (compareOp .In) (rIn K false) := by subst hK; exact op_in_seq
theorem op_notIn_seqK (K : PySem.W.Frag)  (hK : X.K = K := by rfl) : OpR X (compareOp .NotIn) (rIn K true) := by subst hK; exact op_notIn_seq
theorem op_eqDK (K : PySem.W.Frag) (hu : X.A.units + 64 < cLine) (hK : X.K = K := by rfl) : OpR X (compareOp .Eq) (rEqD K) := by subst hK; exact op_eqD hu
theorem op_neDK (K : PySem.W.Frag) (hu : X.A.units + 64 < cLine) (hK : X.K = K := by rfl) : OpR X (compareOp .NotEq) (rNeD K) := by subst hK; exact op_neD hu
theorem op_catTK (K : PySem.W.Frag)  (hK : X.K = K := by rfl) : OpR X (binaryOp .Add) (rCatT K) := by subst hK; exact op_catT
def rLen (K : PySem.W.Frag) : List V → Hp → VK → Prop := fun xs H Q => ∃ x n, xs = [x] ∧ LenV K x H n ∧ Q (.int n) H
theorem call_lenK (K : PySem.W.Frag)  (hK : X.K = K := by rfl) : CallR X (.builtin "len") (rLen K) := by subst hK; exact call_len
theorem call_isiK (K : PySem.W.Frag)  (hK : X.K = K := by rfl) : CallR X (.builtin "isinstance") (rIsi K) := by subst hK; exact call_isi
theorem call_isiTK (K : PySem.W.Frag)  (hK : X.K = K := by rfl) : CallR X (.builtin "isinstance") (rIsiT K) := by subst hK; exact call_isiT
def rListOf (K : PySem.W.Frag) : List V → Hp → VK → Prop := fun xs H Q => ∃ p ys, xs = [.ref p] ∧ (SqL K H p ys ∨ SqT K H p ys) ∧ ∀ l, H l = none → Q (.ref l) (upd H l (.lst ys))
theorem call_list_ofK (K : PySem.W.Frag)  (hK : X.K = K := by rfl) : CallR X (.type "list") (rListOf K) := by subst hK; exact call_list_of
def rTupleOf (K : PySem.W.Frag) : List V → Hp → VK → Prop := fun xs H Q => ∃ p ys, xs = [.ref p] ∧ ((SqL K H p ys ∧ ∀ l, H l = none → Q (.ref l) (upd H l (.tup ys))) ∨ (SqT K H p ys ∧ Q (.ref p) H))
theorem call_tuple_ofK (K : PySem.W.Frag)  (hK : X.K = K := by rfl) : CallR X (.type "tuple") (rTupleOf K) := by subst hK; exact call_tuple_of
theorem cr_allK (K : PySem.W.Frag) (hc : X.calm = true) (hK : X.K = K := by rfl) : CallR X (.builtin "all") (rAll K) := by subst hK; exact cr_all hc
theorem cr_anyK (K : PySem.W.Frag) (hc : X.calm = true) (hK : X.K = K := by rfl) : CallR X (.builtin "any") (rAny K) := by subst hK; exact cr_any hc
theorem cr_sumK (K : PySem.W.Frag) (hc : X.calm = true) (hK : X.K = K := by rfl) : CallR X (.builtin "sum") (rSum K) := by subst hK; exact cr_sum hc
theorem cr_maxK (K : PySem.W.Frag) (hc : X.calm = true) (hK : X.K = K := by rfl) : CallR X (.builtin "max") (rMax K) := by subst hK; exact cr_max hc
theorem cr_minK (K : PySem.W.Frag) (hc : X.calm = true) (hK : X.K = K := by rfl) : CallR X (.builtin "min") (rMin K) := by subst hK; exact cr_min hc
theorem cr_sortedSK (K : PySem.W.Frag)  (hK : X.K = K := by rfl) : CallR X (.builtin "sorted") (rSortedS K) := by subst hK; exact cr_sortedS
theorem cr_sortedIK (K : PySem.W.Frag)  (hK : X.K = K := by rfl) : CallR X (.builtin "sorted") (rSortedI K) := by subst hK; exact cr_sortedI
theorem mt_indexK (K : PySem.W.Frag)  (hK : X.K = K := by rfl) : MtR X "list.index" (rIndex K) := by subst hK; exact mt_index
theorem pi_listK (K : PySem.W.Frag) {tg l : Expr} {tl : TE} (hl : PE X l tl) (hK : X.K = K := by rfl) : PI X tg l (iList K tl) := by subst hK; exact pi_list hl
theorem pi_tupK (K : PySem.W.Frag) {tg l : Expr} {tl : TE} (hl : PE X l tl) (hK : X.K = K := by rfl) : PI X tg l (iTup K tl) := by subst hK; exact pi_tup hl
variable {o e : Expr} {es : List Expr} {to : TE} {t : TA} {name : Str} {apos cpos : Pos} {T id : String} {r : V → List V → Hp → VK → Prop}
theorem pe_bmK (K : PySem.W.Frag) (pa : PlainAttrs T) (slot : Slot T name id) (hty : typeOf (.builtin id) = pure (.type "method_descriptor")) (hm : MtR X id r) (ho : PE X o to) (ha : PA X (e :: es) t)
    (hbase : attributeBase o name X.env (eval o X.env) = eval o X.env := by rfl)
    (hfew : ((backTo cpos (starEach (e :: es) X.env)).all (fun x => !x.1) && (backToKw cpos (keywordEach [] X.env)).all (fun x => x.1.isSome)
      && decide ((e :: es).length + ([] : List Keyword).length + (if ([] : List Keyword).isEmpty then 0 else 1) < 30)) = true := by rfl)
    (hline : (apos.endLine == cpos.line) = true := by rfl) (hs : starEach (e :: es) X.env = (false, eval e X.env) :: starEach es X.env := by rfl) (hplain : (backTo cpos (starEach es X.env)).any (·.1) = false := by rfl) (hK : X.K = K := by rfl) :
    PE X (.Call (.Attribute o name apos) (e :: es) [] cpos) (tBM K T r to t) := by subst hK; exact pe_bm pa slot hty hm ho ha hbase hfew hline hs hplain
theorem pe_bm0K (K : PySem.W.Frag) (pa : PlainAttrs T) (slot : Slot T name id) (hty : typeOf (.builtin id) = pure (.type "method_descriptor")) (hm : MtR X id r) (ho : PE X o to)
    (hbase : attributeBase o name X.env (eval o X.env) = eval o X.env := by rfl) (hline : (apos.endLine == cpos.line) = true := by rfl) (hK : X.K = K := by rfl) :
    PE X (.Call (.Attribute o name apos) [] [] cpos) (tBM0 K T r to) := by subst hK; exact pe_bm0 pa slot hty hm ho hbase hline
end
theorem rel_s (x : Str) (t : Tok) : RelV (.str x) (.str x t) := ⟨t, rfl⟩
theorem rel_i (x : Int) (t : Tok) : RelV (.int x) (.int x t) := ⟨t, rfl⟩
theorem rel_r (a : Addr) : RelV (.ref a) (.ref a) := rfl

/-! ### isinstance -/
theorem kSS {K : PySem.W.Frag} : PySem.W.kitOne K (.type "str") (.type "str") = some true := kit_ty (by decide +kernel)
/-! ### loops -/
theorem for_str {z : Str} {g : TG} {tb : TS} {D : Ends} {σ : St} {H : Hp} (Pv : Nat → St → Hp → Prop) (h0 : Pv 0 σ H)
    (hs : ∀ i c σ H, z.cps.toList[i]? = some c → Pv i σ H → g (.str ⟨#[c]⟩) σ H fun σ2 H2 => tb { D with nx := Pv (i + 1), ct := Pv (i + 1), bk := D.nx } σ2 H2) (hd : ∀ σ H, Pv z.cps.size σ H → D.nx σ H) :
    ∃ W : Nat → Nat → St → Hp → Prop, (∃ m, W 0 m σ H) ∧ ∀ i m σ H, W i m σ H →
      ((Its z).stop i H ∧ D.nx σ H) ∨ ((Its z).go i H ∧ ∃ N : St → Hp → Prop, (∀ σ' H', N σ' H' → ∃ m', m' < m ∧ W (i + 1) m' σ' H') ∧ ∀ x H', (Its z).yld i H x H' → g x σ H' fun σ2 H2 => tb { D with nx := N, ct := N, bk := D.nx } σ2 H2) := by
  refine ⟨fun i m σ H => m = z.cps.size - i ∧ i ≤ z.cps.size ∧ Pv i σ H, ⟨z.cps.size, by simp, Nat.zero_le _, h0⟩, ?_⟩
  rintro i m σ H ⟨rfl, hi, p⟩
  by_cases hlt : i < z.cps.size
  · refine .inr ⟨hlt, Pv (i + 1), fun σ' H' p' => ⟨z.cps.size - (i + 1), by omega, rfl, hlt, p'⟩, fun x H' y => ?_⟩
    obtain ⟨rfl, c, hc, rfl⟩ := y
    exact hs i c σ H' (by rw [Array.getElem?_toList]; exact hc) p
  · have : i = z.cps.size := by omega
    subst this
    exact .inl ⟨Nat.le_refl _, hd σ H p⟩

/-! ### drawing -/
def potA (c : Int) : Int := if c - 10 ^ 18 > 0 then c - 10 ^ 18 else 0
def potB (c : Int) : Int := ((if c < 0 then -c else c) % 2147483563 + 1) ^ 2 % 2147483549 + 17
def tkD (a b m : Int) : Int := if 0 < a then a % m else ((b * 48271 + 12347) % 2147483647) * ((b * 48271 + 12347) % 2147483647) % 2147483579 / 13 % m
def tkA (a b m : Int) : Int := if 0 < a then a / m else a
def tkB (a b m : Int) : Int := if 0 < a then b else (b * 48271 + 12347) % 2147483647
theorem tkD_nn {a b m : Int} (h : 0 < m) : 0 ≤ tkD a b m := by
  unfold tkD
  split <;> exact Int.emod_nonneg _ (by omega)
theorem tkD_lt {a b m : Int} (h : 0 < m) : tkD a b m < m := by
  unfold tkD
  split <;> exact Int.emod_lt_of_pos _ h
def PotOk (b : Int) : Prop := 0 ≤ b ∧ b < 4294967296
theorem tkB_ok {a b m : Int} (h : PotOk b) : PotOk (tkB a b m) := by
  unfold tkB PotOk at *
  split <;> omega
theorem potB_ok (c : Int) : PotOk (potB c) := by
  unfold potB PotOk
  omega
/-- a pot stands at p -/
def Pot (H : Hp) (p : Addr) (a b : Int) : Prop := H p = some (.lst [.int a, .int b]) ∧ PotOk b
def sp_l_pot : Sp := fun vs H Q _ => ∃ c : Int, vs = [.int c] ∧ ∀ p H', Same H H' → H p = none → Pot H' p (potA c) (potB c) → Q (.ref p) H'
def sp_l_take : Sp := fun vs H Q _ => ∃ (p : Addr) (a b m : Int), vs = [.ref p, .int m] ∧ Pot H p a b ∧ 0 < m ∧ m.natAbs.log2 < 9000 ∧
  ∀ H', SameBut p H H' → Pot H' p (tkA a b m) (tkB a b m) → Q (.int (tkD a b m)) H'
theorem atI_mem {α : Type} {xs : List α} {i : Int} (h0 : 0 ≤ i) (h1 : i < (xs.length : Int)) : ∃ v, atI xs i = some v ∧ v ∈ xs := by
  obtain ⟨j, rfl⟩ : ∃ j : Nat, i = (j : Int) := ⟨i.toNat, by omega⟩
  have hj : j < xs.length := by omega
  exact ⟨xs[j], atI_nat (by simp [hj]), List.getElem_mem hj⟩
theorem sz_of {n : Nat} (h : n ≤ 100000) : n ≤ sizeLine := Nat.le_trans h (by decide)
theorem sz_lt {n : Nat} (h : n < 100000) : n < sizeLine := Nat.lt_of_lt_of_le h (by decide)
theorem sum_ones {ys : List Str} (h : ∀ y ∈ ys, y.length = 1) : (ys.map (·.length)).sum = ys.length := by
  induction ys with
  | nil => rfl
  | cons y r ih =>
    rw [List.map_cons, List.sum_cons, ih fun z hz => h z (List.mem_cons_of_mem _ hz), h y List.mem_cons_self, List.length_cons]
    omega
theorem len_append (a b : Str) : (a ++ b).length = a.length + b.length := by
  show (a.cps ++ b.cps).size = _
  rw [Array.size_append]
  rfl
theorem len_toList (a : Str) : a.cps.toList.length = a.length := by
  rw [Array.length_toList]
  rfl
theorem Pot.ne {H : Hp} {p q : Addr} {a b : Int} (h : Pot H p a b) (n : H q = none) : q ≠ p := fun e => by
  subst e
  rw [h.1] at n
  cases n
theorem Pot.new {H : Hp} {p q : Addr} {a b : Int} {o : HO} (h : Pot H p a b) (n : H q = none) : Pot (L2.upd H q o) p a b := ⟨by rw [upd_ne (Ne.symm (h.ne n))]; exact h.1, h.2⟩
theorem Pot.other {H : Hp} {p q : Addr} {a b : Int} {o : HO} (h : Pot H p a b) (n : q ≠ p) : Pot (L2.upd H q o) p a b := ⟨by rw [upd_ne (Ne.symm n)]; exact h.1, h.2⟩
theorem SameBut.new {p q : Addr} {H H' : Hp} {o : HO} (h : SameBut p H H') (n : H' q = none) : SameBut p H (L2.upd H' q o) := h.same (Same.new n)
/-- a draw below m, small -/
theorem draw3 {m : Int} (h0 : 0 < m) (h : m < 2 ^ 60) : 0 < m ∧ m.natAbs.log2 < 9000 := ⟨h0, Nat.lt_of_lt_of_le (PySem.Flt.log2_lt_of (k := 60) (by decide) (by omega)) (by decide)⟩
/-- a cell of the script, or 0: some int -/
def sp_l_at (K : PySem.W.Frag) : Sp := fun vs H Q _ => ∃ (a : Addr) (ns : List Int) (i : Nat), vs = [.ref a, .int i] ∧ SqL K H a (ns.map V.int) ∧ ∀ c : Int, Q (.int c) H
/-- the law's own promise -/
def sp_law (K : PySem.W.Frag) : Sp := fun vs H Q _ => ∃ (a : Addr) (ns : List Int), vs = [.ref a] ∧ SqL K H a (ns.map V.int) ∧ ns.length ≤ 63 ∧ ∀ H', Q (.bl true) H'
/-- a draw, whatever comes -/
def sp_l_tk : Sp := fun vs H Q _ => ∃ (p : Addr) (a b m : Int), vs = [.ref p, .int m] ∧ Pot H p a b ∧ 0 < m ∧ m.natAbs.log2 < 9000 ∧
  ∀ (d a' b' : Int) (H' : Hp), SameBut p H H' → Pot H' p a' b' → 0 ≤ d → d < m → Q (.int d) H'
theorem take_any : ∀ vs H Q E, sp_l_tk vs H Q E → sp_l_take vs H Q E := by
  rintro vs H Q E ⟨p, a, b, m, rfl, hp, h0, h1, k⟩
  exact ⟨p, a, b, m, rfl, hp, h0, h1, fun H' s' p' => k _ _ _ H' s' p' (tkD_nn h0) (tkD_lt h0)⟩
theorem log2_small {m : Int} (h0 : 0 < m) (h : m < 2 ^ 60) : m.natAbs.log2 < 9000 :=
  Nat.lt_of_lt_of_le (PySem.Flt.log2_lt_of (k := 60) (by decide) (by omega)) (by decide)
end Cl

/-! ### ClHex: numbers in base sixteen, sums of texts -/
namespace Cl
open PySem L2
def hd (k : Nat) : Nat := if k < 10 then 48 + k else 87 + k
def hxR : Nat → Nat → List Nat → List Nat
  | 0, _, f => f
  | k + 1, r, f => if r = 0 then f else hxR k (r / 16) (hd (r % 16) :: f)
def hexL (n : Nat) : List Nat := hxR n (n / 16) [hd (n % 16)]
def sOf (l : List Nat) : Str := ⟨l.toArray⟩
def hexS (n : Nat) : Str := sOf (hexL n)
theorem hxR_fuel : ∀ (k r : Nat) (f : List Nat), r ≤ k → ∀ j, r ≤ j → hxR k r f = hxR j r f
  | 0, r, f, h, j, hj => by
    have : r = 0 := by omega
    subst this
    cases j with
    | zero => rfl
    | succ j => rfl
  | k + 1, r, f, h, j, hj => by
    cases j with
    | zero =>
      have : r = 0 := by omega
      subst this
      rfl
    | succ j =>
      show (if r = 0 then f else hxR k (r / 16) (hd (r % 16) :: f)) = if r = 0 then f else hxR j (r / 16) (hd (r % 16) :: f)
      split
      · rfl
      · exact hxR_fuel k (r / 16) _ (by omega) j (by omega)
theorem hxR_step {k r : Nat} (f : List Nat) (h : r ≤ k) (h0 : r ≠ 0) : hxR k r f = hxR k (r / 16) (hd (r % 16) :: f) := by
  cases k with
  | zero => omega
  | succ k =>
    show (if r = 0 then f else hxR k (r / 16) (hd (r % 16) :: f)) = _
    rw [if_neg h0]
    exact hxR_fuel _ _ _ (by omega) _ (by omega)
theorem hxR_zero (k : Nat) (f : List Nat) : hxR k 0 f = f := by
  cases k <;> rfl
def figs : Str := "0123456789abcdef"
theorem figs_at {k : Nat} (h : k < 16) : atI figs.cps.toList ((k : Nat) : Int) = some (hd k) := by
  have : ∀ k : Fin 16, atI figs.cps.toList ((k.val : Nat) : Int) = some (hd k.val) := by decide +kernel
  exact this ⟨k, h⟩
theorem figs_len : figs.length ≤ sizeLine := by decide +kernel
theorem sOf_app (a b : List Nat) : sOf a ++ sOf b = sOf (a ++ b) := by
  show (⟨a.toArray ++ b.toArray⟩ : Str) = ⟨(a ++ b).toArray⟩
  rw [List.append_toArray]
theorem sOf_len (l : List Nat) : (sOf l).length = l.length := by
  show l.toArray.size = _
  simp
theorem emod_nat (m k : Nat) : ((m : Int) % (k : Int)) = ((m % k : Nat) : Int) := by omega
theorem ediv_nat (m k : Nat) : ((m : Int) / (k : Int)) = ((m / k : Nat) : Int) := by omega
def sp_hex : Sp := fun vs H Q _ => ∃ n : Nat, vs = [.int n] ∧ n < 2 ^ 60 ∧ Q (.str (hexS n)) H
theorem hex_lt {i n j : Nat} (h : n < 2 ^ 60) (hj : j = n / 16 ^ i) (h0 : 0 < j) : i < 15 := by
  refine Nat.lt_of_not_le fun q => ?_
  have h1 : (16:Nat) ^ 15 ≤ 16 ^ i := Nat.pow_le_pow_right (by decide) q
  have h2 : (16:Nat) ^ 15 = 2 ^ 60 := by decide
  have h3 : n / 16 ^ i = 0 := Nat.div_eq_of_lt (by omega)
  omega
theorem hex_le {i n j : Nat} (hj : j = n / 16 ^ i) : j ≤ n := by
  rw [hj]
  exact Nat.div_le_self _ _
theorem str17 {l : List Nat} (h : l.length ≤ 100) : (sOf l).length ≤ sizeLine := by
  rw [sOf_len]
  exact Nat.le_trans h (by decide)

/-- the two numbers of a text's sum -/
def smA : List Nat → Nat → Nat
  | [], a => a
  | c :: r, a => smA r ((a + c) % 251)
def smB : List Nat → Nat → Nat → Nat
  | [], _, b => b
  | c :: r, a, b => smB r ((a + c) % 251) ((b + (a + c) % 251) % 241)
def smA' (l : List Nat) (n : Nat) : Nat := smA (l.take n) 0
def smB' (l : List Nat) (n : Nat) : Nat := smB (l.take n) 0 0
theorem smA_snoc : ∀ (l : List Nat) (c a : Nat), smA (l ++ [c]) a = (smA l a + c) % 251
  | [], _, _ => rfl
  | _ :: r, c, a => smA_snoc r c _
theorem smB_snoc : ∀ (l : List Nat) (c a b : Nat), smB (l ++ [c]) a b = (smB l a b + (smA l a + c) % 251) % 241
  | [], _, _, _ => rfl
  | _ :: r, c, a, b => smB_snoc r c _ _
theorem take_snoc {α : Type} {l : List α} {i : Nat} {c : α} (h : l[i]? = some c) : l.take (i + 1) = l.take i ++ [c] := by
  rw [List.take_add_one, h]
  rfl
theorem smA_lt : ∀ (l : List Nat) (a : Nat), a < 251 → smA l a < 251
  | [], _, h => h
  | _ :: r, _, _ => smA_lt r _ (Nat.mod_lt _ (by decide))
theorem smB_lt : ∀ (l : List Nat) (a b : Nat), b < 241 → smB l a b < 241
  | [], _, _, h => h
  | _ :: r, _, _, _ => smB_lt r _ _ (Nat.mod_lt _ (by decide))
def two (n : Nat) : Str := sOf [hd (n / 16), hd (n % 16)]
theorem two_zfill {n : Nat} (h : n < 256) : Txt.zfill (hexS n) 2 = two n := by
  have : ∀ n : Fin 256, Txt.zfill (hexS n.val) 2 = two n.val := by decide +kernel
  exact this ⟨n, h⟩
theorem two_cut {n : Nat} (h : n < 256) : cutS (hexS (256 + n)) (some 1) none = two n := by
  have : ∀ n : Fin 256, cutS (hexS (256 + n.val)) (some 1) none = two n.val := by decide +kernel
  exact this ⟨n, h⟩
theorem hex3 {n : Nat} (h : n < 256) : (hexS (256 + n)).length ≤ sizeLine := by
  have : ∀ n : Fin 256, (hexS (256 + n.val)).length = 3 := by decide +kernel
  exact Nat.le_trans (Nat.le_of_eq (this ⟨n, h⟩)) (by decide)
def sumS (z : Str) : Str := two (smA z.cps.toList 0) ++ two (smB z.cps.toList 0 0)
def sp_sum : Sp := fun vs H Q _ => ∃ z : Str, vs = [.str z] ∧ Q (.str (sumS z)) H
end Cl

/-! ### ClD: data made of tuples: how they stand, stay, are cut, compared and shown -/
namespace Cl
open PySem L2

/-- tuples, and what is read only, stay -/
structure TS (H H' : Hp) : Prop where
  tup : ∀ a xs, H a = some (.tup xs) → H' a = some (.tup xs)
  frz : ∀ a o u, H a = some (.frz o u) → H' a = some (.frz o u)
theorem TS.refl (H : Hp) : TS H H := ⟨fun _ _ h => h, fun _ _ _ h => h⟩
theorem TS.trans {H H1 H2 : Hp} (a : TS H H1) (b : TS H1 H2) : TS H H2 := ⟨fun x y h => b.tup x y (a.tup x y h), fun x y z h => b.frz x y z (a.frz x y z h)⟩
theorem TS.of {H H' : Hp} (s : Same H H') : TS H H' := ⟨fun a _ h => s a _ h, fun a _ _ h => s a _ h⟩
theorem TS.new {H : Hp} {p : Addr} {o : HO} (h : H p = none) : TS H (upd H p o) := TS.of (Same.new h)
theorem TS.lst {H : Hp} {p : Addr} {xs : List V} {o : HO} (h : H p = some (.lst xs)) : TS H (upd H p o) := by
  refine ⟨fun a ys e => ?_, fun a u v e => ?_⟩
  all_goals
    have n : a ≠ p := fun q => by
      subst q
      rw [h] at e
      cases e
    rw [upd_ne n]
    exact e
theorem TS.but {p : Addr} {H H' : Hp} {xs : List V} (s : SameBut p H H') (h : H p = some (.lst xs)) : TS H H' := by
  refine ⟨fun a ys e => ?_, fun a u v e => ?_⟩
  all_goals
    refine s a _ e fun q => ?_
    subst q
    rw [h] at e
    cases e
theorem TS.butI {p C dx : Addr} {H H' : Hp} {fs : List (Str × V)} (s : SameBut p H H') (h : H p = some (.ins C dx fs)) : TS H H' := by
  refine ⟨fun a ys e => ?_, fun a u v e => ?_⟩
  all_goals
    refine s a _ e fun q => ?_
    subst q
    rw [h] at e
    cases e
theorem SameBut.seqI {K : PySem.W.Frag} {p C dx a : Addr} {H H' : Hp} {fs : List (Str × V)} {xs : List V} (s : SameBut p H H') (h : H p = some (.ins C dx fs)) (q : SqL K H a xs) : SqL K H' a xs := by
  rcases q with (q | ⟨o, q⟩) | q
  · refine .inl (.inl (s _ _ q fun e => ?_))
    subst e
    rw [h] at q
    cases q
  · refine .inl (.inr ⟨o, s _ _ q fun e => ?_⟩)
    subst e
    rw [h] at q
    cases q
  · exact .inr q
theorem TS.dK {p : Addr} {H : Hp} {kvs : List (Key × V)} {o : HO} (h : H p = some (.dK kvs)) : TS H (upd H p o) := by
  refine ⟨fun a ys e => ?_, fun a u v e => ?_⟩
  all_goals
    have n : a ≠ p := fun q => by
      subst q
      rw [h] at e
      cases e
    rw [upd_ne n]
    exact e
theorem TS.pot {p : Addr} {H H' : Hp} {a b : Int} (s : SameBut p H H') (h : Pot H p a b) : TS H H' := TS.but s h.1
theorem TS.seq {K : PySem.W.Frag} {H H' : Hp} {a : Addr} {xs : List V} (e : TS H H') (h : SqT K H a xs) : SqT K H' a xs := by
  rcases h with (h | ⟨o, h⟩) | h
  · exact .inl (.inl (e.tup _ _ h))
  · exact .inl (.inr ⟨o, e.frz _ _ _ h⟩)
  · exact .inr h

mutual
/-- v stands for d in H; d has tuples alone within -/
inductive Dt (K : PySem.W.Frag) (H : Hp) : V → PyData → Prop
  | non : Dt K H .non .none
  | bl (b : Bool) : Dt K H (.bl b) (.bool b)
  | int (i : Int) : Dt K H (.int i) (.int i)
  | str (x : Str) : Dt K H (.str x) (.str x)
  | tup {a : Addr} {xs : List V} {ds : List PyData} : SqT K H a xs → DtAll K H xs ds → Dt K H (.ref a) (.tuple ds)
inductive DtAll (K : PySem.W.Frag) (H : Hp) : List V → List PyData → Prop
  | nil : DtAll K H [] []
  | cons {v : V} {vs : List V} {d : PyData} {ds : List PyData} : Dt K H v d → DtAll K H vs ds → DtAll K H (v :: vs) (d :: ds)
end
section
variable {K : PySem.W.Frag} {H H' : Hp}
mutual
theorem Dt.mono (e : TS H H') : ∀ (d : PyData) {v : V}, Dt K H v d → Dt K H' v d
  | .none, _, h => by cases h; exact .non
  | .bool b, _, h => by cases h; exact .bl b
  | .int i, _, h => by cases h; exact .int i
  | .str x, _, h => by cases h; exact .str x
  | .tuple ds, _, h => by
    cases h with
    | tup hs ha => exact .tup (e.seq hs) (DtAll.mono e ds ha)
  | .list _, _, h => by cases h
  | .dict _, _, h => by cases h
theorem DtAll.mono (e : TS H H') : ∀ (ds : List PyData) {vs : List V}, DtAll K H vs ds → DtAll K H' vs ds
  | [], _, h => by cases h; exact .nil
  | d :: ds, _, h => by
    cases h with
    | cons h1 h2 => exact .cons (Dt.mono e d h1) (DtAll.mono e ds h2)
end
mutual
theorem Dt.dp : ∀ (d : PyData) {v : V}, Dt K H v d → Dp K H v d
  | .none, _, h => by cases h; exact .non
  | .bool b, _, h => by cases h; exact .bl b
  | .int i, _, h => by cases h; exact .int i
  | .str x, _, h => by cases h; exact .str x
  | .tuple ds, _, h => by
    cases h with
    | tup hs ha => exact .tup hs (DtAll.dp ds ha)
  | .list _, _, h => by cases h
  | .dict _, _, h => by cases h
theorem DtAll.dp : ∀ (ds : List PyData) {vs : List V}, DtAll K H vs ds → DpAll K H vs ds
  | [], _, h => by cases h; exact .nil
  | d :: ds, _, h => by
    cases h with
    | cons h1 h2 => exact .cons (Dt.dp d h1) (DtAll.dp ds h2)
end
theorem Dt.m (e : TS H H') {d : PyData} {v : V} (h : Dt K H v d) : Dt K H' v d := Dt.mono e d h
theorem DtAll.m (e : TS H H') {ds : List PyData} {vs : List V} (h : DtAll K H vs ds) : DtAll K H' vs ds := DtAll.mono e ds h
theorem DtAll.length : ∀ {ds : List PyData} {vs : List V}, DtAll K H vs ds → vs.length = ds.length
  | [], _, h => by cases h; rfl
  | _ :: _, _, h => by
    cases h with
    | cons h1 h2 => rw [List.length_cons, List.length_cons, DtAll.length h2]
theorem DtAll.get : ∀ {ds : List PyData} {vs : List V} {i : Nat} {d : PyData}, DtAll K H vs ds → ds[i]? = some d → ∃ v, vs[i]? = some v ∧ Dt K H v d
  | [], _, _, _, _, e => by simp at e
  | _ :: _, _, 0, _, h, e => by
    cases h with
    | cons h1 h2 =>
      rw [List.getElem?_cons_zero] at e
      cases e
      exact ⟨_, rfl, h1⟩
  | _ :: _, _, i + 1, _, h, e => by
    cases h with
    | cons h1 h2 =>
      rw [List.getElem?_cons_succ] at e
      obtain ⟨v, q1, q2⟩ := DtAll.get h2 e
      exact ⟨v, by rw [List.getElem?_cons_succ]; exact q1, q2⟩
theorem DtAll.getV : ∀ {ds : List PyData} {vs : List V} {i : Nat} {v : V}, DtAll K H vs ds → vs[i]? = some v → ∃ d, ds[i]? = some d ∧ Dt K H v d
  | [], _, _, _, h, e => by cases h; simp at e
  | _ :: _, _, 0, _, h, e => by
    cases h with
    | cons h1 h2 =>
      rw [List.getElem?_cons_zero] at e
      cases e
      exact ⟨_, rfl, h1⟩
  | _ :: _, _, i + 1, _, h, e => by
    cases h with
    | cons h1 h2 =>
      rw [List.getElem?_cons_succ] at e
      obtain ⟨d, q1, q2⟩ := DtAll.getV h2 e
      exact ⟨d, by rw [List.getElem?_cons_succ]; exact q1, q2⟩
theorem DtAll.app : ∀ {ds es : List PyData} {vs us : List V}, DtAll K H vs ds → DtAll K H us es → DtAll K H (vs ++ us) (ds ++ es)
  | [], _, _, _, h, k => by cases h; exact k
  | _ :: _, _, _, _, h, k => by
    cases h with
    | cons h1 h2 => exact .cons h1 (DtAll.app h2 k)
theorem DtAll.take : ∀ {ds : List PyData} {vs : List V} (n : Nat), DtAll K H vs ds → DtAll K H (vs.take n) (ds.take n)
  | _, _, 0, _ => .nil
  | [], _, _ + 1, h => by cases h; exact .nil
  | _ :: _, _, n + 1, h => by
    cases h with
    | cons h1 h2 => exact .cons h1 (DtAll.take n h2)
theorem DtAll.drop : ∀ {ds : List PyData} {vs : List V} (n : Nat), DtAll K H vs ds → DtAll K H (vs.drop n) (ds.drop n)
  | _, _, 0, h => h
  | [], _, _ + 1, h => by cases h; exact .nil
  | _ :: _, _, n + 1, h => by
    cases h with
    | cons h1 h2 => exact DtAll.drop n h2
theorem DtAll.of : ∀ {ds : List PyData} {vs : List V}, vs.length = ds.length → (∀ (i : Nat) v d, vs[i]? = some v → ds[i]? = some d → Dt K H v d) → DtAll K H vs ds
  | [], [], _, _ => .nil
  | [], _ :: _, e, _ => by cases e
  | _ :: _, [], e, _ => by cases e
  | d :: ds, v :: vs, e, h => .cons (h 0 v d rfl rfl) (DtAll.of (by simpa using e) fun i w c h1 h2 => h (i + 1) w c (by simpa using h1) (by simpa using h2))
theorem DtAll.strs (ys : List Str) : DtAll K H (ys.map V.str) (ys.map PyData.str) := by
  induction ys with
  | nil => exact .nil
  | cons y r ih => exact .cons (.str y) ih
theorem DtAll.ints (ys : List Int) : DtAll K H (ys.map V.int) (ys.map PyData.int) := by
  induction ys with
  | nil => exact .nil
  | cons y r ih => exact .cons (.int y) ih
/-- a new tuple of such -/
theorem Dt.new {p : Addr} {xs : List V} {ds : List PyData} (h : DtAll K H xs ds) (hp : H p = none) : Dt K (upd H p (.tup xs)) (.ref p) (.tuple ds) := .tup (SqT.of upd_same) (h.m (TS.new hp))
theorem Dt.inv {v : V} {ds : List PyData} (h : Dt K H v (.tuple ds)) : ∃ a xs, v = .ref a ∧ SqT K H a xs ∧ DtAll K H xs ds := by
  cases h with
  | tup hs ha => exact ⟨_, _, rfl, hs, ha⟩
theorem Dt.two {v : V} {d1 d2 : PyData} (h : Dt K H v (.tuple [d1, d2])) : ∃ a v1 v2, v = .ref a ∧ SqT K H a [v1, v2] ∧ Dt K H v1 d1 ∧ Dt K H v2 d2 := by
  obtain ⟨a, xs, rfl, hs, ha⟩ := h.inv
  cases ha with
  | cons h1 ha => cases ha with
    | cons h2 ha => cases ha with
      | nil => exact ⟨_, _, _, rfl, hs, h1, h2⟩
theorem Dt.three {v : V} {d1 d2 d3 : PyData} (h : Dt K H v (.tuple [d1, d2, d3])) : ∃ a v1 v2 v3, v = .ref a ∧ SqT K H a [v1, v2, v3] ∧ Dt K H v1 d1 ∧ Dt K H v2 d2 ∧ Dt K H v3 d3 := by
  obtain ⟨a, xs, rfl, hs, ha⟩ := h.inv
  cases ha with
  | cons h1 ha => cases ha with
    | cons h2 ha => cases ha with
      | cons h3 ha => cases ha with
        | nil => exact ⟨_, _, _, _, rfl, hs, h1, h2, h3⟩
theorem Dt.strI {v : V} {x : Str} (h : Dt K H v (.str x)) : v = .str x := by cases h; rfl
theorem Dt.intI {v : V} {i : Int} (h : Dt K H v (.int i)) : v = .int i := by cases h; rfl
theorem Dt.nonI {v : V} (h : Dt K H v .none) : v = .non := by cases h; rfl

/-! ### slices -/
def cutG {α : Type} (xs : List α) (lo hi : Option Int) : List α := (xs.drop (HT.sIx xs.length 0 lo)).take (HT.sIx xs.length xs.length hi - HT.sIx xs.length 0 lo)
theorem cutG_V (xs : List V) (lo hi : Option Int) : cutG xs lo hi = cutV xs lo hi := rfl
theorem DtAll.cut {ds : List PyData} {vs : List V} (h : DtAll K H vs ds) (lo hi : Option Int) : DtAll K H (cutV vs lo hi) (cutG ds lo hi) := by
  unfold cutV cutG
  rw [h.length]
  exact (h.drop _).take _
theorem sl_dt {v : V} {ds : List PyData} {lo hi : Option Int} {Q : VK} (h : Dt K H v (.tuple ds)) (k : ∀ v' H', Same H H' → Dt K H' v' (.tuple (cutG ds lo hi)) → Q v' H') : rSlA K v lo hi H Q := by
  obtain ⟨a, xs, rfl, hs, ha⟩ := h.inv
  refine ⟨a, xs, rfl, hs, fun e => k _ H (Same.refl H) ?_, fun _ p hp => k _ _ (Same.new hp) (Dt.new (ha.cut lo hi) hp)⟩
  have : cutG ds lo hi = ds := by
    unfold cutG
    rw [← ha.length, e.1, e.2, ha.length]
    simp
  rw [this]
  exact h
theorem sIx_le {n k : Nat} (d : Nat) (h : k ≤ n) : HT.sIx n d (some (k : Int)) = k := by
  rw [HT.sIx_nat]
  omega
theorem sIx_big {n k : Nat} (d : Nat) (h : n ≤ k) : HT.sIx n d (some (k : Int)) = n := by
  rw [HT.sIx_nat]
  omega
theorem cutG_nat {α : Type} (xs : List α) (i j : Nat) : cutG xs (some (i : Int)) (some (j : Int)) = (xs.drop i).take (j - i) := by
  unfold cutG
  by_cases h1 : i ≤ xs.length
  · rw [sIx_le _ h1]
    by_cases h2 : j ≤ xs.length
    · rw [sIx_le _ h2]
    · rw [sIx_big _ (by omega), List.take_of_length_le (by simp), List.take_of_length_le (by simp; omega)]
  · rw [sIx_big _ (by omega : xs.length ≤ i), List.drop_of_length_le (by omega), List.drop_of_length_le (by omega)]
    simp
end

/-! ### ranges by fours, by sixes -/
theorem rgc4 {n : Nat} (hn : n < 1000000) : RgC 0 (n : Int) 4 ((n + 3) / 4) := by
  have e : Builtin.Range.rangeSize 0 (n : Int) 4 = (((n + 3) / 4 : Nat) : Int) := by
    unfold Builtin.Range.rangeSize
    rw [if_pos (by decide)]
    split <;> omega
  refine ⟨by decide, by decide, ?_, e⟩
  have fits : ∀ z : Int, -(2 ^ 62) ≤ z → z < 2 ^ 62 → Builtin.Range.rangeFitsLong z = true := fun z h1 h2 => by
    unfold Builtin.Range.rangeFitsLong
    rw [decide_eq_true (show -(2 ^ 63) ≤ z by omega), decide_eq_true (show z < 2 ^ 63 by omega)]
    rfl
  unfold Builtin.Range.small
  rw [e]
  repeat rw [fits _ (by omega) (by omega)]
  simp
theorem rgc6 {n : Nat} (hn : n < 1000000) : RgC 0 (n : Int) 6 ((n + 5) / 6) := by
  have e : Builtin.Range.rangeSize 0 (n : Int) 6 = (((n + 5) / 6 : Nat) : Int) := by
    unfold Builtin.Range.rangeSize
    rw [if_pos (by decide)]
    split <;> omega
  refine ⟨by decide, by decide, ?_, e⟩
  have fits : ∀ z : Int, -(2 ^ 62) ≤ z → z < 2 ^ 62 → Builtin.Range.rangeFitsLong z = true := fun z h1 h2 => by
    unfold Builtin.Range.rangeFitsLong
    rw [decide_eq_true (show -(2 ^ 63) ≤ z by omega), decide_eq_true (show z < 2 ^ 63 by omega)]
    rfl
  unfold Builtin.Range.small
  rw [e]
  repeat rw [fits _ (by omega) (by omega)]
  simp
/-! ### texts of signs -/
def chS (c : Nat) : Str := ⟨#[c]⟩
theorem join_ones0 : ∀ cs : List Nat, Str.join (Str.ofString "") (cs.map chS) = ⟨cs.toArray⟩
  | [] => by decide +kernel
  | [c] => rfl
  | c :: d :: r => by
    have ih := join_ones0 (d :: r)
    show chS c ++ Str.ofString "" ++ Str.join (Str.ofString "") (chS d :: r.map chS) = _
    rw [show Str.join (Str.ofString "") (chS d :: r.map chS) = ⟨(d :: r).toArray⟩ from ih]
    show (⟨(#[c] ++ (Str.ofString "").cps) ++ (d :: r).toArray⟩ : Str) = ⟨(c :: d :: r).toArray⟩
    rw [show (Str.ofString "").cps = #[] by decide +kernel]
    simp
theorem join_ones (cs : List Nat) : Txt.join (Str.ofString "") (cs.map chS) = ⟨cs.toArray⟩ := by
  rw [TL.join_eq]
  exact join_ones0 cs
/-! ### data compared -/
/-- what can be compared: depth at most k -/
structure Shp (k : Nat) (d : PyData) : Prop where
  lay : d.canLay0 = true
  dep : d.depth ≤ k
theorem Shp.mono {k k' : Nat} {d : PyData} (h : Shp k d) (hk : k ≤ k') : Shp k' d := ⟨h.lay, Nat.le_trans h.dep hk⟩
theorem Shp.none {k : Nat} : Shp k .none := ⟨by simp [PyData.canLay0], by simp [PyData.depth]⟩
theorem Shp.bool {k : Nat} (b : Bool) : Shp k (.bool b) := ⟨by simp [PyData.canLay0], by simp [PyData.depth]⟩
theorem Shp.int {k : Nat} (i : Int) : Shp k (.int i) := ⟨by simp [PyData.canLay0], by simp [PyData.depth]⟩
theorem Shp.str {k : Nat} {x : Str} (h : ∀ c ∈ x.cps.toList, c < 1114112) : Shp k (.str x) := by
  refine ⟨?_, by simp [PyData.depth]⟩
  simp only [PyData.canLay0]
  unfold PyData.strOk
  rw [Array.all_eq_true]
  intro i hi
  exact decide_eq_true (h _ (by simp))
theorem shpAll {k : Nat} : ∀ {ds : List PyData}, (∀ d ∈ ds, Shp k d) → PyData.canLayAll0 ds = true ∧ PyData.depthAll ds ≤ k
  | [], _ => ⟨by simp [PyData.canLayAll0], by simp [PyData.depthAll]⟩
  | d :: ds, h => by
    obtain ⟨a, b⟩ := shpAll (ds := ds) fun x hx => h x (List.mem_cons_of_mem _ hx)
    have hd := h d List.mem_cons_self
    exact ⟨by simp only [PyData.canLayAll0, hd.lay, a, Bool.and_self], by simp only [PyData.depthAll]; exact Nat.max_le.mpr ⟨hd.dep, b⟩⟩
theorem Shp.list {k : Nat} {ds : List PyData} (h : ∀ d ∈ ds, Shp k d) : Shp (k + 1) (.list ds) := by
  obtain ⟨a, b⟩ := shpAll h
  exact ⟨by simp only [PyData.canLay0]; exact a, by simp only [PyData.depth]; omega⟩
theorem Shp.tuple {k : Nat} {ds : List PyData} (h : ∀ d ∈ ds, Shp k d) : Shp (k + 1) (.tuple ds) := by
  obtain ⟨a, b⟩ := shpAll h
  exact ⟨by simp only [PyData.canLay0]; exact a, by simp only [PyData.depth]; omega⟩
theorem Shp.shaped {k : Nat} {d : PyData} (h : Shp k d) (hk : k ≤ 64) : SeqAt.shaped d = true := by
  unfold SeqAt.shaped
  rw [h.lay, decide_eq_true (Nat.le_trans h.dep hk)]
  rfl
theorem eq_same {K : PySem.W.Frag} {H : Hp} {x y : V} {d : PyData} {k : Nat} {Q : VK} (hx : Dp K H x d) (hy : Dp K H y d) (h : Shp k d) (q : Q (.bl true) H) (hk : k ≤ 64 := by decide) : rEqD K x y H Q := by
  refine ⟨d, d, hx, hy, h.shaped hk, h.shaped hk, ?_⟩
  rw [SeqAt.eqv_refl d h.lay]
  exact q
theorem ne_same {K : PySem.W.Frag} {H : Hp} {x y : V} {d : PyData} {k : Nat} {Q : VK} (hx : Dp K H x d) (hy : Dp K H y d) (h : Shp k d) (q : Q (.bl false) H) (hk : k ≤ 64 := by decide) : rNeD K x y H Q := by
  refine ⟨d, d, hx, hy, h.shaped hk, h.shaped hk, ?_⟩
  rw [SeqAt.eqv_refl d h.lay]
  exact q
theorem Dp.ofL {K : PySem.W.Frag} {H : Hp} {l : Addr} {xs : List V} {ds : List PyData} (h : H l = some (.lst xs)) (ha : DtAll K H xs ds) : Dp K H (.ref l) (.list ds) := .lst (SqL.of h) ha.dp
theorem Dp.ofLints {K : PySem.W.Frag} {H : Hp} {l : Addr} {ns : List Int} (h : H l = some (.lst (ns.map V.int))) : Dp K H (.ref l) (.list (ns.map PyData.int)) := Dp.ofL h (DtAll.ints ns)
theorem Shp.ints {k : Nat} (ns : List Int) : Shp (k + 1) (.list (ns.map PyData.int)) := Shp.list fun d hd => by
  obtain ⟨i, _, rfl⟩ := List.mem_map.mp hd
  exact Shp.int i
/-! ### repr -/
/-- what can be shown: depth at most k, at most n signs -/
structure Sz (k n : Nat) (d : PyData) : Prop where
  sh : d.showable = true
  dep : d.depth ≤ k
  len : d.shown.length ≤ n
theorem Sz.mono {k n k' n' : Nat} {d : PyData} (h : Sz k n d) (hk : k ≤ k') (hn : n ≤ n') : Sz k' n' d := ⟨h.sh, Nat.le_trans h.dep hk, Nat.le_trans h.len hn⟩
theorem Sz.none {k : Nat} : Sz k 4 .none := ⟨by simp [PyData.showable], by simp [PyData.depth], by decide +kernel⟩
theorem Sz.bool {k : Nat} (b : Bool) : Sz k 5 (.bool b) := ⟨by simp [PyData.showable], by simp [PyData.depth], by cases b <;> decide +kernel⟩
theorem ofString_len (s : String) : (Str.ofString s).length = s.length := by
  rw [Str.ofString_eq_toList]
  show (s.toList.map Char.toNat).toArray.size = _
  rw [List.size_toArray, List.length_map, String.length_toList]
theorem Sz.int {k m : Nat} {i : Int} (h0 : 0 < m) (h : i.natAbs < 2 ^ m) (hm : m < 1920) : Sz k (m + 1) (.int i) := by
  have hl := PySem.Flt.log2_lt_of h0 h
  refine ⟨by simp only [PyData.showable]; exact decide_eq_true (Nat.lt_trans hl hm), by simp [PyData.depth], ?_⟩
  simp only [PyData.shown]
  rw [ofString_len]
  exact PySem.int_text_length_le h0 hl
theorem Sz.str {k : Nat} {x : Str} (h : ∀ c ∈ x.cps.toList, c < 16 ^ 8) : Sz k (10 * x.length + 2) (.str x) :=
  ⟨by simp [PyData.showable], by simp [PyData.depth], by simp only [PyData.shown]; exact PySem.StrLaws.reprText_len x h⟩
theorem szAll {k n : Nat} : ∀ {ds : List PyData}, (∀ d ∈ ds, Sz k n d) → PyData.showableAll ds = true ∧ PyData.depthAll ds ≤ k ∧ PySem.piled (PyData.shownAll ds) ≤ (n + 2) * ds.length ∧ (PyData.shownAll ds).length = ds.length
  | [], _ => ⟨by simp [PyData.showableAll], by simp [PyData.depthAll], by simp [PyData.shownAll, PySem.piled], by simp [PyData.shownAll]⟩
  | d :: ds, h => by
    obtain ⟨a, b, c, e⟩ := szAll (ds := ds) fun x hx => h x (List.mem_cons_of_mem _ hx)
    have hd := h d List.mem_cons_self
    refine ⟨by simp only [PyData.showableAll, hd.sh, a, Bool.and_self], by simp only [PyData.depthAll]; exact Nat.max_le.mpr ⟨hd.dep, b⟩, ?_, by simp only [PyData.shownAll, List.length_cons, e]⟩
    simp only [PyData.shownAll]
    rw [PySem.piled_cons, List.length_cons, Nat.mul_succ]
    have := hd.len
    omega
theorem textFrom_le : ∀ (ts : List Str) (k : Nat) (acc : Str), (PySem.textFrom k acc ts).length ≤ acc.length + PySem.piled ts
  | [], _, acc => by
    show acc.length ≤ acc.length + _
    omega
  | t :: r, k, acc => by
    have h := textFrom_le r (k + 1) (acc ++ (if k > 0 then ", " else "" : String) ++ t)
    have e : (acc ++ (if k > 0 then ", " else "" : String) ++ t).length ≤ acc.length + 2 + t.length := by
      rw [len_append, len_append]
      have : ((if k > 0 then ", " else "" : String) : Str).length ≤ 2 := by split <;> decide +kernel
      omega
    show (PySem.textFrom (k + 1) _ r).length ≤ _
    rw [PySem.piled_cons]
    omega
theorem Sz.list {k n : Nat} {ds : List PyData} (h : ∀ d ∈ ds, Sz k n d) : Sz (k + 1) ((n + 2) * ds.length + 2) (.list ds) := by
  obtain ⟨a, b, c, e⟩ := szAll h
  refine ⟨by simp only [PyData.showable]; exact a, by simp only [PyData.depth]; omega, ?_⟩
  simp only [PyData.shown]
  unfold PySem.listText
  rw [len_append]
  have h1 := textFrom_le (PyData.shownAll ds) 0 "["
  have e1 : (("[" : String) : Str).length = 1 := by decide +kernel
  have e2 : (("]" : String) : Str).length = 1 := by decide +kernel
  omega
theorem Sz.tuple {k n : Nat} {ds : List PyData} (h : ∀ d ∈ ds, Sz k n d) : Sz (k + 1) ((n + 2) * ds.length + 3) (.tuple ds) := by
  obtain ⟨a, b, c, e⟩ := szAll h
  refine ⟨by simp only [PyData.showable]; exact a, by simp only [PyData.depth]; omega, ?_⟩
  simp only [PyData.shown]
  unfold PySem.tupleText
  rw [len_append, len_append]
  have e1 : (("(" : String) : Str).length = 1 := by decide +kernel
  have e2 : ((if (PyData.shownAll ds).length == 1 then ",)" else ")" : String) : Str).length ≤ 2 := by split <;> decide +kernel
  have h1 : (Str.join ", " (PyData.shownAll ds)).length ≤ PySem.piled (PyData.shownAll ds) := by
    cases hq : PyData.shownAll ds with
    | nil =>
      show 0 ≤ _
      omega
    | cons x r =>
      have := PySem.join_length_add (x :: r) (by simp)
      omega
  omega
section
variable {X : Cx}
def rRepr (K : PySem.W.Frag) : List V → Hp → VK → Prop := fun xs H Q => ∃ (a : Addr) (d : PyData), xs = [.ref a] ∧ Dp K H (.ref a) d ∧ Sz 60 sizeLine d ∧ Q (.str d.shown) H
theorem dp_noDict {K : PySem.W.Frag} {H : Hp} : ∀ (d : PyData) {v : V}, Dp K H v d → d.hasDict = false
  | .none, _, _ => by simp [PyData.hasDict]
  | .bool _, _, _ => by simp [PyData.hasDict]
  | .int _, _, _ => by simp [PyData.hasDict]
  | .str _, _, _ => by simp [PyData.hasDict]
  | .list ds, _, h => by
    cases h with
    | lst _ ha =>
      simp only [PyData.hasDict]
      exact go ds ha
  | .tuple ds, _, h => by
    cases h with
    | tup _ ha =>
      simp only [PyData.hasDict]
      exact go ds ha
  | .dict _, _, h => by cases h
where go : ∀ (ds : List PyData) {vs : List V}, DpAll K H vs ds → PyData.hasDictAll ds = false
  | [], _, _ => by simp [PyData.hasDictAll]
  | d :: ds, _, h => by
    cases h with
    | cons h1 h2 =>
      simp only [PyData.hasDictAll, dp_noDict d h1, go ds h2, Bool.or_self]
theorem call_repr {k : Nat} (hr : Rm k X.A) : CallR X (.builtin "repr") (rRepr X.K) := by
  intro pins s σ H xs us Q I r h
  obtain ⟨a, d, rfl, hd, sz, q⟩ := h
  obtain ⟨u, rfl, hu⟩ := vals1 r
  obtain ⟨as, hr1⟩ := Dp.reads I d _ u hd hu
  cases hu
  have hz := sz.dep
  have hun := hr.units
  exact PySem.repr_of_reads' (h₀ := s.heap) hr1 sz.sh (PyData.noDict_hsm (dp_noDict d hd)) hr.gd (by omega) (fun _ _ e => e)
    (fun h' u tk hk => ⟨.str d.shown, H, I.kept hk, ⟨_, rfl⟩, q⟩) sz.len
theorem call_reprK (K : PySem.W.Frag) {k : Nat} (hr : Rm k X.A) (hK : X.K = K := by rfl) : CallR X (.builtin "repr") (rRepr K) := by subst hK; exact call_repr hr
end
end Cl

/-! ### ClTab: tables of a disk, as an object -/
namespace Cl
open PySem L2
/-- v is an address: a tuple of two numbers -/
def AddrV (K : PySem.W.Frag) (H : Hp) (v : V) : Prop := ∃ i j : Int, Dt K H v (.tuple [.int i, .int j]) ∧ 0 ≤ i ∧ i < 10 ^ 12 ∧ 0 ≤ j ∧ j < 10 ^ 12
theorem AddrV.m {K : PySem.W.Frag} {H H' : Hp} {v : V} (t : TS H H') (h : AddrV K H v) : AddrV K H' v := by
  obtain ⟨i, j, h, r⟩ := h
  exact ⟨i, j, h.m t, r⟩
/-- a dict from numbers to addresses -/
structure Pl (K : PySem.W.Frag) (H : Hp) (kvs : List (Key × V)) : Prop where
  ks : ∃ ns : List Int, kvs.map (·.1) = ns.map Sum.inl ∧ ∀ n ∈ ns, 0 ≤ n ∧ n < 10 ^ 12
  nd : (kvs.map (·.1)).Nodup
  l0 : 0 < kvs.length
  l1 : kvs.length ≤ 24
  vs : ∀ p ∈ kvs, AddrV K H p.2
theorem Pl.m {K : PySem.W.Frag} {H H' : Hp} {kvs : List (Key × V)} (t : TS H H') (h : Pl K H kvs) : Pl K H' kvs := ⟨h.ks, h.nd, h.l0, h.l1, fun p hp => (h.vs p hp).m t⟩
def Ad (K : PySem.W.Frag) (H : Hp) (ws : List V) : Prop := ws.length ≤ 10 ∧ ∀ v ∈ ws, AddrV K H v
theorem Ad.m {K : PySem.W.Frag} {H H' : Hp} {ws : List V} (t : TS H H') (h : Ad K H ws) : Ad K H' ws := ⟨h.1, fun p hp => (h.2 p hp).m t⟩
/-- a list of addresses is data -/
theorem addr_data {K : PySem.W.Frag} {H : Hp} : ∀ {ws : List V}, (∀ v ∈ ws, AddrV K H v) → ∃ ds, DtAll K H ws ds ∧ (∀ d ∈ ds, Shp 1 d) ∧ (∀ d ∈ ds, Sz 1 89 d)
  | [], _ => ⟨[], .nil, (fun _ h => nomatch h), fun _ h => nomatch h⟩
  | v :: r, h => by
    obtain ⟨ds, a, b, c⟩ := addr_data (ws := r) fun x hx => h x (List.mem_cons_of_mem _ hx)
    obtain ⟨i, j, hd, i0, i1, j0, j1⟩ := h v List.mem_cons_self
    refine ⟨.tuple [.int i, .int j] :: ds, .cons hd a, fun d hd => ?_, fun d hd => ?_⟩
    · rcases List.mem_cons.mp hd with rfl | hd
      · refine Shp.tuple (k := 0) fun d hd => ?_
        rcases List.mem_cons.mp hd with rfl | hd
        · exact Shp.int _
        · rw [List.mem_singleton.mp hd]
          exact Shp.int _
      · exact b d hd
    · rcases List.mem_cons.mp hd with rfl | hd
      · refine (Sz.tuple (k := 0) (n := 41) (ds := [.int i, .int j]) fun d hd => ?_).mono (by decide) (by simp)
        rcases List.mem_cons.mp hd with rfl | hd
        · exact Sz.int (m := 40) (by decide) (by omega) (by decide)
        · rw [List.mem_singleton.mp hd]
          exact Sz.int (m := 40) (by decide) (by omega) (by decide)
      · exact c d hd
theorem valV_mem {kvs : List (Key × V)} {k : Key} {v : V} (h : valV kvs k = some v) : (k, v) ∈ kvs := by
  unfold valV at h
  cases e : kvs.find? (fun kv => decide (kv.1 = k)) with
  | none => rw [e] at h; cases h
  | some p =>
    rw [e] at h
    cases h
    have h1 : p.1 = k := of_decide_eq_true (List.find?_some (p := fun kv : Key × V => decide (kv.1 = k)) e)
    have h2 := List.mem_of_find?_eq_some e
    rw [← h1]
    exact h2
theorem valV_of_key {kvs : List (Key × V)} {k : Key} (h : k ∈ kvs.map (·.1)) : ∃ v, valV kvs k = some v := by
  obtain ⟨p, hp, rfl⟩ := List.mem_map.mp h
  have : (valV kvs p.1).isSome = true := by
    rw [← valV_any]
    exact List.any_eq_true.mpr ⟨p, hp, decide_eq_true rfl⟩
  exact Option.isSome_iff_exists.mp this
def tabF (d l : Addr) (nb dd lg : Int) : List (Str × V) := [("spots_by_number", V.ref d), ("number_behind", V.int nb), ("deeds_done", V.int dd), ("last_group", V.int lg), ("checkpoint_spots", V.ref l)]
theorem tab_1 (d l : Addr) (nb dd lg : Int) : (tabF d l nb dd lg).lookup ("spots_by_number" : Str) = some (.ref d) := lk0
theorem tab_2 (d l : Addr) (nb dd lg : Int) : (tabF d l nb dd lg).lookup ("number_behind" : Str) = some (.int nb) := lkS (by decide +kernel) lk0
theorem tab_3 (d l : Addr) (nb dd lg : Int) : (tabF d l nb dd lg).lookup ("deeds_done" : Str) = some (.int dd) := lkS (by decide +kernel) (lkS (by decide +kernel) lk0)
theorem tab_4 (d l : Addr) (nb dd lg : Int) : (tabF d l nb dd lg).lookup ("last_group" : Str) = some (.int lg) := lkS (by decide +kernel) (lkS (by decide +kernel) (lkS (by decide +kernel) lk0))
theorem tab_5 (d l : Addr) (nb dd lg : Int) : (tabF d l nb dd lg).lookup ("checkpoint_spots" : Str) = some (.ref l) := lkS (by decide +kernel) (lkS (by decide +kernel) (lkS (by decide +kernel) (lkS (by decide +kernel) lk0)))
theorem tab_no (d l : Addr) (nb dd lg : Int) {m : Str} (h : ([("spots_by_number" : Str), "number_behind", "deeds_done", "last_group", "checkpoint_spots"] : List Str).all (fun f => !decide (m = f)) = true) : (tabF d l nb dd lg).lookup m = none := lk_no h
/-- tables stand at x -/
structure Tab (C : Addr) (H : Hp) (x d l : Addr) (kvs : List (Key × V)) (nb dd lg : Int) (ws : List V) : Prop where
  ob : ∃ dx, H x = some (.ins C dx (tabF d l nb dd lg))
  dc : H d = some (.dK kvs)
  ls : H l = some (.lst ws)
theorem Tab.m {C : Addr} {H H' : Hp} {x d l : Addr} {kvs : List (Key × V)} {nb dd lg : Int} {ws : List V} (t : Same H H') (h : Tab C H x d l kvs nb dd lg ws) : Tab C H' x d l kvs nb dd lg ws := by
  obtain ⟨⟨dx, e⟩, h1, h2⟩ := h
  exact ⟨⟨dx, t _ _ e⟩, t _ _ h1, t _ _ h2⟩
end Cl

/-! ### ClStar: targets with a star -/
namespace Cl
open PySem PySem.Spec PySem.Calls PySem.W PyProof.Rows L2
section
variable {prog : Program} {w : World} {A : Around} {E : Value → Shared → Prop} {s : Shared}
/-- what a target with a star takes of a list -/
theorem star_list {l : Addr} {items : Array Value} {n i : Nat} {Q : List Value → Shared → Prop} (hl : s.heap.IsList l items) (hh : A.handled = none) (hi : i < n) (hn : n ≤ items.size + 1) (hz : items.size ≤ 16384)
    (h : ∀ (h' : Heap) (tk : Nat), (∀ b o, s.heap.get? b = some o → h'.get? b = some o) → Q (items.toList.take i ++ [.ref h'.objs.size] ++ (items.toList.drop i).drop (items.size + 1 - n))
      { s with heap := h'.push { cls := .type "list", data := .seq ((items.toList.drop i).take (items.size + 1 - n)).toArray }, toks := tk }) : wpAny (model prog w) A (unpackItems (.ref l) n (some i)) Q E s := by
  have hlt : l ≠ s.heap.objs.size := by obtain ⟨o, ho, _⟩ := hl; exact Nat.ne_of_lt (Heap.lt_size ho)
  have hll : l < s.heap.objs.size := by obtain ⟨o, ho, _⟩ := hl; exact Heap.lt_size ho
  unfold unpackItems
  refine wpAny_bind ?_
  unfold notIterableAtAll
  refine wpAny_bind (wpAny_specialOf hl.typeIs slot_list_iter.lookup ?_)
  refine wpAny_pure ?_
  simp only [Bool.false_eq_true, if_false]
  refine wpAny_bind (wpAny_holding (wpAny_pyIter_list hl ?_))
  refine wpAny_bind (wpAny_holding (kun_draw hlt i 0 _ _ ⟨_, Heap.get?_push_size _ rfl, rfl, rfl⟩ (hl.push _) (by omega) fun h₁ hit₁ hs₁ => ?_))
  have hl₁ : h₁.IsList l items := (hl.push _).extBut hs₁.extBut hlt
  rw [Nat.zero_add] at hit₁
  have hit₁' := hit₁
  obtain ⟨oi, hoi, _⟩ := hit₁'
  have hl₁' := hl₁
  obtain ⟨ol, hol, _⟩ := hl₁'
  rw [List.drop_zero]
  have hfl : (items.toList.take i).length = i := by rw [List.length_take, Array.length_toList]; omega
  rw [if_neg (show ¬ ((items.toList.take i).length < i) by rw [hfl]; omega)]
  refine wpAny_bind (wpAny_holding (kun_collect (s := { s with heap := h₁ }) (T := "list_iterator") (.inr (.inr (.inl rfl))) (Walks.list (A := A.in1) hh s.heap.objs.size l hlt items) (fun j u st => st.1.typeIs) (k := i) (by omega) ⟨hit₁, hl₁⟩ (Heap.lt_size hoi) (Heap.lt_size hol) (fun h₂ tk hk => ?_) (by rw [sizeLine_eq]; omega)))
  have hrl : (items.toList.drop i).length = items.size - i := by rw [List.length_drop, Array.length_toList]
  have hmid : (items.toList.drop i).length - (n - 1 - i) = items.size + 1 - n := by rw [hrl]; omega
  show wpAny _ _ (if (items.toList.drop i).length < n - 1 - i then _ else _) _ _ _
  rw [if_neg (by rw [hrl]; omega)]
  show wpAny _ _ (newList ((items.toList.drop i).take ((items.toList.drop i).length - (n - 1 - i))) >>= fun d => pure (items.toList.take i ++ [d] ++ (items.toList.drop i).drop ((items.toList.drop i).length - (n - 1 - i)))) _ _ _
  rw [hmid]
  have he : ∀ b o, s.heap.get? b = some o → h₂.get? b = some o := fun b o e => hk b o (Nat.ne_of_lt (Heap.lt_size e)) (hs₁.extBut b o (Nat.ne_of_lt (Heap.lt_size e)) (Heap.get?_push_of_some _ e))
  exact wpAny_bind (wpAny_newList (s := { s with heap := h₂, toks := tk }) (wpAny_pure (h h₂ tk he)) (by rw [List.length_take, hrl, sizeLine_eq]; omega))
theorem star_tuple {l : Addr} {items : Array Value} {n i : Nat} {Q : List Value → Shared → Prop} (hl : IsTup s.heap l items) (hh : A.handled = none) (hi : i < n) (hn : n ≤ items.size + 1) (hz : items.size ≤ 16384)
    (h : ∀ (h' : Heap) (tk : Nat), (∀ b o, s.heap.get? b = some o → h'.get? b = some o) → Q (items.toList.take i ++ [.ref h'.objs.size] ++ (items.toList.drop i).drop (items.size + 1 - n))
      { s with heap := h'.push { cls := .type "list", data := .seq ((items.toList.drop i).take (items.size + 1 - n)).toArray }, toks := tk }) : wpAny (model prog w) A (unpackItems (.ref l) n (some i)) Q E s := by
  have hlt : l ≠ s.heap.objs.size := by obtain ⟨o, ho, _⟩ := hl; exact Nat.ne_of_lt (Heap.lt_size ho)
  have hll : l < s.heap.objs.size := by obtain ⟨o, ho, _⟩ := hl; exact Heap.lt_size ho
  unfold unpackItems
  refine wpAny_bind ?_
  unfold notIterableAtAll
  refine wpAny_bind (wpAny_specialOf hl.typeIs slot_tuple_iter.lookup ?_)
  refine wpAny_pure ?_
  simp only [Bool.false_eq_true, if_false]
  refine wpAny_bind (wpAny_holding (iter_tuple hl ?_))
  refine wpAny_bind (wpAny_holding (draw_tuple hlt i 0 _ _ ⟨_, Heap.get?_push_size _ rfl, rfl, rfl⟩ (hl.push _) (by omega) fun h₁ hit₁ hs₁ => ?_))
  have hl₁ : IsTup h₁ l items := (hl.push _).extBut hs₁.extBut hlt
  rw [Nat.zero_add] at hit₁
  have hit₁' := hit₁
  obtain ⟨oi, hoi, _⟩ := hit₁'
  have hl₁' := hl₁
  obtain ⟨ol, hol, _⟩ := hl₁'
  rw [List.drop_zero]
  have hfl : (items.toList.take i).length = i := by rw [List.length_take, Array.length_toList]; omega
  rw [if_neg (show ¬ ((items.toList.take i).length < i) by rw [hfl]; omega)]
  refine wpAny_bind (wpAny_holding (kun_collect (s := { s with heap := h₁ }) (T := "tuple_iterator") (.inr (.inr (.inr rfl))) (Walks.tuple (A := A.in1) hh s.heap.objs.size l hlt items) (fun j u st => st.1.typeIs) (k := i) (by omega) ⟨hit₁, hl₁⟩ (Heap.lt_size hoi) (Heap.lt_size hol) (fun h₂ tk hk => ?_) (by rw [sizeLine_eq]; omega)))
  have hrl : (items.toList.drop i).length = items.size - i := by rw [List.length_drop, Array.length_toList]
  have hmid : (items.toList.drop i).length - (n - 1 - i) = items.size + 1 - n := by rw [hrl]; omega
  show wpAny _ _ (if (items.toList.drop i).length < n - 1 - i then _ else _) _ _ _
  rw [if_neg (by rw [hrl]; omega)]
  show wpAny _ _ (newList ((items.toList.drop i).take ((items.toList.drop i).length - (n - 1 - i))) >>= fun d => pure (items.toList.take i ++ [d] ++ (items.toList.drop i).drop ((items.toList.drop i).length - (n - 1 - i)))) _ _ _
  rw [hmid]
  have he : ∀ b o, s.heap.get? b = some o → h₂.get? b = some o := fun b o e => hk b o (Nat.ne_of_lt (Heap.lt_size e)) (hs₁.extBut b o (Nat.ne_of_lt (Heap.lt_size e)) (Heap.get?_push_of_some _ e))
  exact wpAny_bind (wpAny_newList (s := { s with heap := h₂, toks := tk }) (wpAny_pure (h h₂ tk he)) (by rw [List.length_take, hrl, sizeLine_eq]; omega))
end
section
variable {X : Cx} {pos : Pos}
theorem objOk_get {P : Program} {w : World} {H : Hp} {h : Heap} {a : Addr} {o : HO} (x : ObjOk P w H h a o) : ∃ u, h.get? a = some u := by
  cases o with
  | lst xs => obtain ⟨_, _, _, _, e⟩ := x; exact ⟨_, e⟩
  | tup xs => obtain ⟨_, _, _, _, e, _⟩ := x; exact ⟨_, e⟩
  | dK kvs => obtain ⟨_, _, _, _, o, _, _, e, _⟩ := x; exact ⟨_, e⟩
  | dT kvs => obtain ⟨_, _, _, _, o, _, _, e, _⟩ := x; exact ⟨_, e⟩
  | set S n => obtain ⟨o, _, _, _, e, _⟩ := x; exact ⟨_, e⟩
  | ins C dx fs => obtain ⟨_, _, _, e, _⟩ := x; exact ⟨_, e⟩
  | own y => exact x
  | xd fs => obtain ⟨_, ⟨_, _, _, e, _⟩, _⟩ := x; exact ⟨_, e⟩
  | rng lo hi => obtain ⟨_, _, _, e⟩ := x; exact ⟨_, e⟩
  | frz ob u => exact ⟨_, x.1⟩
  | tbl ps => exact ⟨_, x⟩
  | met f x' => exact ⟨_, x⟩
  | ext φ => exact x.2.1
/-- a target among others that has a star -/
theorem pgs_star {e : Expr} {es : List Expr} {t : TG} {u : TGs} {p : Pos} (h1 : PG X e t) (h2 : PGs X es u)
    (hs : (assignEach (.Starred e p :: es) X.env).map (·.2) = assign e X.env :: (assignEach es X.env).map (·.2) := by rfl) : PGs X (.Starred e p :: es) (gCons t u) := by
  refine ⟨fun pins s σ H vs us Q I r h => ?_⟩
  obtain ⟨v, vr, e1, h⟩ := h
  subst e1
  cases r with
  | cons r rr =>
    rw [hs]
    refine assignInOrder_cons (thn (h1.run pins s σ H _ _ _ I r h) fun _ s1 ⟨σ1, H1, I1, q1⟩ => ?_)
    exact h2.run pins s1 σ1 H1 _ _ Q I1 rr q1
/-- the things of a list or a tuple to n targets, of which the i-th has a star -/
def gStar (K : PySem.W.Frag) (n i : Nat) (t : TGs) : TG := fun v σ H Q => ∃ a xs, v = .ref a ∧ (SqL K H a xs ∨ SqT K H a xs) ∧ n ≤ xs.length + 1 ∧ xs.length ≤ 16384 ∧
  ∀ D, H D = none → t (xs.take i ++ [.ref D] ++ (xs.drop i).drop (xs.length + 1 - n)) σ (upd H D (.lst ((xs.drop i).take (xs.length + 1 - n)))) Q
theorem pg_tupStar {es : List Expr} {k : Nat} {t : TGs} {n i : Nat} (hc : X.calm = true) (h : PGs X es t)
    (hn : (assignEach es X.env).length = n := by rfl) (hst : (assignEach es X.env).findIdx? (·.1) = some i := by rfl) (hi : i < n := by decide) : PG X (.Tuple es k pos) (gStar X.K n i t) := by
  refine ⟨fun pins s σ H v u Q I r hw => ?_⟩
  obtain ⟨a, xs, e1, hq, hl, hz, hw⟩ := hw
  subst e1
  cases r
  have fin : ∀ (its : List Value), Vals xs its → ∀ (h' : Heap) (tk : Nat), (∀ b o, s.heap.get? b = some o → h'.get? b = some o) →
      wpAny (model X.prog X.w) X.A (assignInOrder ((assignEach es X.env).map (·.2)) (its.toArray.toList.take i ++ [.ref h'.objs.size] ++ (its.toArray.toList.drop i).drop (its.toArray.size + 1 - n))) (fun _ s' => ∃ σ' H', Inv X pins σ' H' s' ∧ Q σ' H') X.xe
        { s with heap := h'.push { cls := .type "list", data := .seq ((its.toArray.toList.drop i).take (its.toArray.size + 1 - n)).toArray }, toks := tk } := by
    intro its rv h' tk hk
    have hlen := rv.length
    rw [show its.toArray.size = xs.length from by rw [List.size_toArray, ← hlen]]
    have hg : s.heap.get? h'.objs.size = none := by
      cases q : s.heap.get? h'.objs.size with
      | none => rfl
      | some o => exact absurd (Heap.lt_size (hk _ o q)) (Nat.lt_irrefl _)
    have hf : H h'.objs.size = none := by
      cases q : H h'.objs.size with
      | none => rfl
      | some u =>
        obtain ⟨o, e⟩ := objOk_get (I.hok _ u q)
        rw [hg] at e
        cases e
    refine h.run pins _ σ _ _ _ Q (I.laidN (t' := tk) (fun b u e => Heap.get?_push_of_some _ (hk b u e)) hg hf ?_) ?_ (hw _ hf)
    · exact ⟨by rw [sizeLine_eq, List.length_take, List.length_drop]; omega, _, 0, (rv.drop i).take _, Heap.get?_push_size _ rfl⟩
    · exact Vals.append (Vals.append (rv.take i) (.cons rfl .nil)) ((rv.drop i).drop _)
  rcases hq with hq | hq
  · obtain ⟨its, rv, ht, _⟩ := I.list hq
    rw [assign_Tuple]
    refine wpAny_bind (wpAny_standAt ?_)
    unfold unpack
    rw [hn, hst]
    exact wpAny_bind (wpAny_holding (star_list ht.isList (I.ok.hd hc) hi (by simpa [← rv.length] using hl) (by simpa [← rv.length] using hz) (fin its rv)))
  · obtain ⟨its, rv, ht, _⟩ := I.tuple hq
    rw [assign_Tuple]
    refine wpAny_bind (wpAny_standAt ?_)
    unfold unpack
    rw [hn, hst]
    exact wpAny_bind (wpAny_holding (star_tuple ht (I.ok.hd hc) hi (by simpa [← rv.length] using hl) (by simpa [← rv.length] using hz) (fin its rv)))
end
end Cl

/-! ### ClEnum: enumerate(tuple) -/
namespace Cl
open PySem PySem.Spec PySem.Calls PySem.W PyProof.Rows L2
theorem meets_enumerate_new1 {v : Value} {o : Obj} {H : Heap → Prop} (B : Begins v o H) :
    Meets (Builtin.«enumerate.__new__» ⟨[.type "enumerate", v], []⟩) (fun _ R s => H s.heap ∧
      R (.ok (.ret (.ref (s.heap.push o).objs.size)))
        { s with heap := (s.heap.push o).push { cls := .type "enumerate", data := .fields #[.none, .bool false, .ref s.heap.objs.size, rawInt 0, .none, .none] } }) :=
  .of_wp fun prog w A R s h => by
    obtain ⟨hp, g, d, tk, os⟩ := s; obtain ⟨h1, h⟩ := h
    have hsub := sub_enumerate
    have q1 : ∀ {A' : Around} {E : Value → Shared → Prop} {Q : Value → Shared → Prop}, Q (.ref hp.objs.size) ⟨hp.push o, g, d, tk, os⟩ → wpAny (model prog w) A' (pyIter v) Q E ⟨hp, g, d, tk, os⟩ :=
      fun q => B.iter prog w _ _ ⟨hp, g, d, tk, os⟩ _ h1 q
    wp_walk using q1
    refine wpAny_stack_any fun st => wpAny_pure ?_
    split
    · rename_i c _ _ _ _ _
      cases (c == Value.type "enumerate")
      · wp_walk using q1
        exact ⟨_, rfl, h⟩
      · wp_walk using q1
        exact ⟨_, rfl, h⟩
    · wp_walk using q1
      exact ⟨_, rfl, h⟩
section
variable {prog : Program} {w : World} {A : Around} {E : Value → Shared → Prop} {s : Shared}
theorem enum_begins1 {v : Value} {o : Obj} {H : Heap → Prop} {Q : Value → Shared → Prop} (B : Begins v o H) (h1 : H s.heap)
    (h : ∀ h', IsEnum h' (s.heap.objs.size + 1) s.heap.objs.size 0 .none → h'.get? s.heap.objs.size = some o → h'.objs.size = s.heap.objs.size + 2 →
      (∀ b o, s.heap.get? b = some o → h'.get? b = some o) → Q (.ref (s.heap.objs.size + 1)) { s with heap := h' }) :
    wpAny (model prog w) A (call (.type "enumerate") [v]) Q E s := by
  refine callType_new F.called_enumerate (by decide) (F.typeCall_enumerate_1 _) (F.newCall_enumerate_1 _) (fun obj => F.args_object_init_2 obj _) F.entry_enumerate_new
    (meets_enumerate_new1 B) ⟨h1, ?_⟩
  have hz : (s.heap.push o).objs.size = s.heap.objs.size + 1 := Heap.size_push ..
  show _ ∧ _
  rw [hz]
  have he : IsEnum ((s.heap.push o).push { cls := .type "enumerate", data := .fields #[.none, .bool false, .ref s.heap.objs.size, rawInt 0, .none, .none] }) (s.heap.objs.size + 1) s.heap.objs.size 0 .none := by
    have := Heap.get?_push_size (s.heap.push o) (o := { cls := .type "enumerate", data := .fields #[.none, .bool false, .ref s.heap.objs.size, rawInt 0, .none, .none] }) rfl
    rw [hz] at this; exact this
  refine ⟨⟨_, he, rfl⟩, h _ he (Heap.get?_push_of_some _ (Heap.get?_push_size _ B.free)) (by rw [Heap.size_push, hz]) fun b o x => Heap.get?_push_of_some _ (Heap.get?_push_of_some _ x)⟩
end
section
variable {prog : Program} {w : World} {A : Around} {E : Value → Shared → Prop} {s : Shared}
theorem enumT_end {e it l : Addr} {i : Nat} {items : Array Value} {old : Value} {Q : Option Value → Shared → Prop} (hh : A.handled = none)
    (he : IsEnum s.heap e it i old) (hit : s.heap.IsTupleIter it l i) (hl : s.heap.IsTuple l items) (hx : items[i]? = none)
    (hQ : ∀ h', Heap.ExtBut it s.heap h' → Q none { s with heap := h' }) : wpAny (model prog w) A (pyNext (.ref e)) Q E s := by
  have hT : s.TypeIs (.ref e) "enumerate" := ⟨_, he, rfl⟩
  unfold pyNext
  refine wpAny_bind (wpAny_attempt (wpAny_callSpecial?_slot (name := Str.ofString "__next__") hT F.slot_enumerate_next
    (wpAny_call_entry F.slot_enumerate_next hT F.entry_enumerate_next ?_ (F.args_enumerate_next_1 _))))
  show wpAny _ _ (field (.ref e) 2 >>= _) _ _ _
  refine wpAny_bind (wpAny_field he rfl (x := .ref it) rfl ?_)
  refine wpAny_bind (wpAny_nextOf_tuple_end hh hit hl hx fun h' x he' hx' => ?_)
  obtain ⟨o, ho, hc⟩ := hx'
  refine wpAny_bind (wpAny_isInstance (T := "StopIteration") (b := true) ⟨o, ho, hc⟩ isSubtype_stop ?_)
  exact wpAny_pure (hQ _ he')
end
/-- the tuple at a, each item in a new pair -/
def IteT (K : PySem.W.Frag) (a : Addr) : It :=
  ⟨fun i H => ∃ (xs : List V) (x : V), SqT K H a xs ∧ xs[i]? = some x, fun i H v H' => ∃ T x, v = .ref T ∧ H T = none ∧ H' = upd H T (.tup [.int (i : Nat), x]) ∧ ∀ xs, SqT K H a xs → xs[i]? = some x, fun i H => ∃ xs : List V, SqT K H a xs ∧ xs.length ≤ i⟩
theorem turn_enumT {P : Program} {w : World} {K : PySem.W.Frag} {elts : List Expr} {kk : Nat} {tpos : Pos} (a e it : Addr) (hai : a ≠ it) :
    Turn P w K (.Tuple elts kk tpos) (IteT K a) [e, it] e (fun i h => (∃ old, IsEnum h e it ((i : Nat) : Int) old) ∧ h.IsTupleIter it a i ∧ e ≠ it ∧ e ≠ a) where
  mem := by simp
  obj := fun i h st b hb => by
    obtain ⟨⟨old, he⟩, ⟨o, ho, hc, hd⟩, _⟩ := st
    have e' : b = e ∨ b = it := by simpa using hb
    rcases e' with z | z
    · rw [z]; exact ⟨_, he, fun v q => nomatch q⟩
    · rw [z]; exact ⟨o, ho, fun v q => by rw [hd] at q; cases q⟩
  keep := fun i h h' st k => let ⟨⟨old, he⟩, hi, hne⟩ := st; ⟨⟨old, k e (by simp) _ he⟩, hi.at fun o q => k it (by simp) o q, hne⟩
  item := by
    intro X hP hw hK hc i pins s σ H E I hf st hg
    subst hP hw hK
    obtain ⟨⟨old, he⟩, hit, hne, hea⟩ := st
    obtain ⟨xs, x, hq, hx⟩ := hg
    obtain ⟨its, rv, p, hz⟩ := I.tuple hq
    obtain ⟨u, hu, ru⟩ := rv.get hx
    have hel : e < s.heap.objs.size := Heap.lt_size he
    have hil : it < s.heap.objs.size := by obtain ⟨_, q, _⟩ := hit; exact Heap.lt_size q
    have hlt : i < its.toArray.size := by
      rw [List.size_toArray, ← rv.length]
      exact (List.getElem?_eq_some_iff.mp hx).1
    refine wpAny_pyNext_enum_itemD (Draws.tuple (A := X.A.in1) (I.ok.hd hc) it a hai its.toArray) he ⟨hit, p⟩ hlt hne (by simp [hne, hea]) fun u' h' tk hu' ho hst' hT hsz hk => ?_
    obtain ⟨hit', _⟩ := hst'
    obtain rfl : u' = u := by
      have : its[i]? = some u' := by simpa using hu'
      exact Option.some.inj (this.symm.trans hu)
    refine ⟨_, rfl, wpAny_letOwnedTupleGo_enum (s := { s with heap := h', toks := tk + 1 }) ho fun h'' he' sb => ?_⟩
    have hT2 : h''.get? s.heap.objs.size = some { cls := .type "tuple", data := .seq #[.int i tk, u'] } := (sb.2 _ (Nat.ne_of_gt hel)).trans hT
    have new : ObjOk X.prog X.w (upd H s.heap.objs.size (.tup [.int (i : Nat), x])) h'' s.heap.objs.size (.tup [.int (i : Nat), x]) :=
      ⟨by show 2 ≤ sizeLine; decide, [.int i tk, u'], .cons ⟨_, rfl⟩ (.cons ru .nil), ⟨_, hT2, rfl, _, rfl⟩⟩
    have I1 : L2.Inv X pins σ (upd H s.heap.objs.size (.tup [.int (i : Nat), x])) { s with heap := h'', toks := tk + 1 } :=
      I.turnedNew (ch := [e, it]) (fun b ob hb q => (sb.2 b (fun z => hb (by simp [z]))).trans (hk b ob (fun z => hb (by simp [z])) (fun z => hb (by simp [z])) q)) hf (Nat.le_refl _) new
    refine ⟨.ref s.heap.objs.size, _, I1, rfl, ⟨_, x, rfl, I.hok.fresh (Nat.le_refl _), rfl, fun ys hy => by rw [I.tuple_inj hy hq]; exact hx⟩, ⟨⟨u', ?_⟩, hit'.at fun o q => (sb.2 it (Ne.symm hne)).trans q, hne, hea⟩, fun b hb => ?_⟩
    · have e1 : ((i + 1 : Nat) : Int) = (i : Int) + 1 := by omega
      rw [e1]; exact he'
    · have hb' : b < s.heap.objs.size := by
        have e' : b = e ∨ b = it := by simpa using hb
        rcases e' with z | z
        · rw [z]; exact hel
        · rw [z]; exact hil
      rw [upd_ne (Nat.ne_of_lt hb')]
      exact (hf b hb).1
  done := by
    intro X hP hw hK hc i pins s σ H E I hf st hg
    subst hP hw hK
    obtain ⟨⟨old, he⟩, hit, hne, hea⟩ := st
    obtain ⟨xs, hq, hx⟩ := hg
    obtain ⟨its, rv, p, hz⟩ := I.tuple hq
    obtain ⟨f0, f1, f2, f3, f4, f5⟩ := hf it (by simp)
    have hl := rv.length
    exact enumT_end (I.ok.hd hc) he hit p (by simp; omega) fun h' eb => ⟨rfl, I.turned (t' := s.toks) (fun b o hb q => eb b o hb q) f0 f1 f3 f4 f5⟩
  self := fun A i s Q E st h => let ⟨⟨_, he⟩, _⟩ := st; wpAny_pyIter_enum he h
def iEnumT (K : PySem.W.Frag) (ta : TA) : TI := fun σ H R => ta σ H fun vs H1 => ∃ a xs, vs = [.ref a] ∧ SqT K H1 a xs ∧ R (IteT K a) H1
theorem pi_enumT {X : Cx} {e : Expr} {ta : TA} {p pos tpos : Pos} {elts : List Expr} {kk : Nat} (K : PySem.W.Frag) (hg : Gl X "enumerate") (hm : X.mg "enumerate" = none) (ha : PA X [e] ta) (hs : starEach [e] X.env = [(false, eval e X.env)] := by rfl) (hK : X.K = K := by rfl) :
    PI X (.Tuple elts kk tpos) (.Call (.Name "enumerate" p) [e] [] pos) (iEnumT K ta) := by
  subst hK
  refine ⟨fun pins s σ H R I h => ?_⟩
  refine Call_ (ld_blt I hg hm boot_enumerate (PyProof.Rows.callWith_type1 (thn (ha.run pos pins s σ H _ I h) fun us s1 ⟨vs, H1, I1, r1, q1⟩ => ?_) hs rfl))
  obtain ⟨a, xs, ex, hq, q⟩ := q1
  subst ex
  cases r1 with
  | cons r rr =>
    cases rr
    cases r
    obtain ⟨its, rv, p', hz⟩ := I1.tuple hq
    have hal : a < s1.heap.objs.size := p'.lt
    refine enum_begins1 (begins_tuple a its.toArray) p' fun h' he hit hsz hk => wpAny_pyIter_enum he ?_
    have I2 : L2.Inv X pins σ H1 { s1 with heap := h' } := I1.kept (t' := s1.toks) hk
    refine ⟨s1.heap.objs.size + 1, [s1.heap.objs.size + 1, s1.heap.objs.size], _, _, H1, rfl, I2, turn_enumT a (s1.heap.objs.size + 1) s1.heap.objs.size (Nat.ne_of_lt hal), ⟨⟨.none, he⟩, ⟨_, hit, rfl, rfl⟩, Nat.succ_ne_self _, Nat.ne_of_gt (Nat.lt_succ_of_lt hal)⟩, fun b hb => ?_, q⟩
    have e' : b = s1.heap.objs.size + 1 ∨ b = s1.heap.objs.size := by simpa using hb
    have hle : s1.heap.objs.size ≤ b := by
      rcases e' with z | z
      · rw [z]; exact Nat.le_add_right _ _
      · rw [z]; exact Nat.le_refl _
    exact I1.fpOk hle (I1.hok.fresh hle)
theorem walk_enumT {K : PySem.W.Frag} {a : Addr} {xs : List V} : Walk (IteT K a) xs.length (fun H => SqT K H a xs) (YPair (fun i => some (.int (i : Nat))) (fun i => xs[i]?)) := by
  refine ⟨fun i _ hi q => ⟨xs, xs[i], q, by simp [hi]⟩, fun _ q => ⟨xs, q, Nat.le_refl _⟩, fun i H v H' _ q y => ?_⟩
  obtain ⟨T, x, h1, h2, h3, h4⟩ := y
  exact ⟨T, .int (i : Nat), x, h1, h2, h3, rfl, h4 xs q⟩
end Cl

/-! ### ClFn: defs held in names and dicts; statements that are not reached; kinds of data -/
namespace Cl
open PySem PySem.Spec PyProof.Rows L2
/-- a def at an address that keeps a promise -/
structure CalF (P : Program) (w : World) (K : PySem.W.Frag) (mg : Str → Option Value) (base : Heap) (CX : CXT) (f : Addr) (k : Nat) (ps : List Str) (sp : Sp) : Prop where
  ex : ∃ fd : FuncData, GnOk P w K mg base CX k f fd ps sp ∧ PySem.W.keepIn K (.ref f) = true ∧ Binds K fd ps []
theorem CalF.mono {P : Program} {w : World} {K : PySem.W.Frag} {mg : Str → Option Value} {base : Heap} {CX : CXT} {f : Addr} {j k : Nat} {ps : List Str} {sp : Sp} (C : CalF P w K mg base CX f j ps sp) (h : j ≤ k) : CalF P w K mg base CX f k ps sp := by
  obtain ⟨fd, a, b⟩ := C.ex
  exact ⟨fd, a.mono h, b⟩
theorem calf_mk {P : Program} {w : World} {K : PySem.W.Frag} {mg : Str → Option Value} {base : Heap} {CX : CXT} {x qual : Str} {st : Stmt} {f : Addr} {oc : Value} {od an : Option Addr} {osl : Array (Option Value)} {kV doc pm cdv ct : Value} {ps : List Str} {k : Nat} {sp : Sp}
    (l : K.lookup f = some ⟨oc, od, .func (PySem.W.fnOf x qual (defArgs st) (defBody st) (defScope st) .none kV doc pm an cdv ct), osl⟩) (c : PySem.W.codeIn K cdv qual = true) (kp : PySem.W.keepIn K (.ref f) = true)
    (hb : ∀ (kV doc pm : Value) (an : Option Addr) (cdv ct : Value) (us : List Value), us.length = ps.length → bindArgs (PySem.W.fnOf x qual (defArgs st) (defBody st) (defScope st) .none kV doc pm an cdv ct) ⟨us, []⟩ = pure (ps.zip us))
    (ok : ∀ {f : Addr} {fd : FuncData}, Fun K x qual st f fd → GnOk P w K mg base CX k f fd ps sp) : CalF P w K mg base CX f k ps sp :=
  have F := fun_mk (st := st) l c kp
  ⟨_, ok F, kp, F.binds hb⟩
/-- x(e, ..), x a local name that holds a def -/
def tCallF (P : Program) (w : World) (K : PySem.W.Frag) (mg : Str → Option Value) (base : Heap) (CX : CXT) (k i : Nat) (E : XK) (t : TA) : TE := fun σ H Q => ∃ (f : Addr) (ps : List Str) (sp : Sp), σ[i]? = some (some (.ref f)) ∧ CalF P w K mg base CX f k ps sp ∧ t σ H fun vs H1 => sp vs H1 Q E
section
variable {X : Cx} {CX : CXT} {k i : Nat} {E : XK} {x : Str} {p pos : Pos} {e : Expr} {es : List Expr} {t : TA}
theorem pe_calF (P : Program) (w : World) (K : PySem.W.Frag) (mg : Str → Option Value) (base : Heap) (hr : Rm k X.A) (hx : Passes CX X E) (hN : X.N[i]? = some x) (hv : Vis X.env.scope x) (ha : PA X (e :: es) t)
    (hd : (x == ("__debug__" : Str)) = false := by decide) (hcd : (x == ("__classdict__" : Str)) = false := by decide)
    (he : starEach (e :: es) X.env = (false, eval e X.env) :: starEach es X.env := by rfl) (hpl : (backTo pos (starEach es X.env)).any (·.1) = false := by rfl)
    (hP : X.prog = P := by rfl) (hw : X.w = w := by rfl) (hK : X.K = K := by rfl) (hm : X.mg = mg := by rfl) (hb : X.base = base := by rfl) :
    PE X (.Call (.Name x p) (e :: es) [] pos) (tCallF P w K mg base CX k i E t) := by
  subst hP hw hK hm hb
  refine ⟨fun pins s σ H Q I h => ?_⟩
  obtain ⟨f, ps, sp, hs, C, h⟩ := h
  obtain ⟨fd, F, hk, hbd⟩ := C.ex
  refine wpAny_Call_Name_kw (thn ((pe_var (pos := p) (i := i) hN hv hd hcd).run pins s σ H (fun v H1 => v = .ref f ∧ H1 = H) I ⟨.ref f, hs, rfl, rfl⟩) fun u s1 ⟨v, H1, I1, r1, ev, eH⟩ => ?_)
  subst ev
  rw [eH] at I1
  cases r1
  refine PySem.W.callWith_K (h₀ := X.base) I.ok.mod.kin hk (thn (ha.run pos pins s1 σ H _ I1 h) ?_) he hpl
  rintro us s2 ⟨vs, H2, I2, r, q⟩
  have hl := F.len _ _ _ _ q
  refine ⟨I2.kIn, gn_call F hr (?_ : BindsTo s2 fd ⟨us, []⟩ (ps.zip us)) hx I2 r q⟩
  have hb' := hbd s2 us I2.kIn (by rw [List.append_nil, ← r.length]; exact hl)
  rwa [List.append_nil] at hb'
/-- a statement that is not reached -/
theorem ps_never {st : Stmt} : PS X st (fun _ _ _ => False) := ⟨fun _ _ _ _ _ _ h => h.elim⟩
/-- a key that stands in a dict of the module -/
def rInKD (K : PySem.W.Frag) (w : World) (neg : Bool) : R2 := fun x y H Q => ∃ p z v, x = .str z ∧ y = .ref p ∧ (p == sysModules) = false ∧ KDct K w p z v ∧ Q (.bl (!neg)) H
theorem op_in_kdK (K : PySem.W.Frag) (w : World) (hw : X.w = w := by rfl) (hK : X.K = K := by rfl) : OpR X (compareOp .In) (rInKD K w false) := by
  subst hw hK
  intro pins s σ H x y v u Q I rx ry h
  obtain ⟨p, z, v0, ex, ey, hs, ⟨es, n, u0, hl, hk, e, _⟩, q⟩ := h
  exact op_in_kd (d := p) ⟨hl, hk, hs⟩ pins s σ H x y v u Q I rx ry ⟨z, _, ex, ey, e, q⟩
theorem op_notIn_kdK (K : PySem.W.Frag) (w : World) (hw : X.w = w := by rfl) (hK : X.K = K := by rfl) : OpR X (compareOp .NotIn) (rInKD K w true) := by
  subst hw hK
  intro pins s σ H x y v u Q I rx ry h
  obtain ⟨p, z, v0, ex, ey, hs, ⟨es, n, u0, hl, hk, e, _⟩, q⟩ := h
  exact op_notIn_kd (d := p) ⟨hl, hk, hs⟩ pins s σ H x y v u Q I rx ry ⟨z, _, ex, ey, e, q⟩
end
theorem pg_tupK {X : Cx} {pos : Pos} {es : List Expr} {k : Nat} {t : TGs} (K : PySem.W.Frag) (n : Nat) (hc : X.calm = true) (h : PGs X es t)
    (hn : (assignEach es X.env).length = n := by rfl) (hst : (assignEach es X.env).findIdx? (·.1) = none := by rfl) (hK : X.K = K := by rfl) : PG X (.Tuple es k pos) (gTup K n t) := by
  subst hK
  exact pg_tup hc h hn hst
/-! two fors in a comprehension -/
section
variable {J J1 : It} {n n1 : Nat} {G G1 : Hp → Prop} {Y Y1 : Nat → Hp → V → Hp → Prop}
/-- the inner for -/
theorem in_it (w : Walk J1 n1 G1 Y1) {g1 : TG} {tt1 : TT} {te : TE} {vs1 : List Nat} {σ2 : L2.St} {H4 : Hp} {D : Addr} {Nx : Hp → Prop} (Pv : Nat → Hp → Prop) (h0 : Pv 0 H4) (hG : ∀ i H, i ≤ n1 → Pv i H → G1 H)
    (hs : ∀ i x H H', i < n1 → Pv i H → Y1 i H x H' → g1 x (wipe σ2 vs1) H' fun σ3 H5 => wipe σ3 vs1 = wipe σ2 vs1 ∧ tt1 σ3 H5 fun b H6 =>
      if b = true then te σ3 H6 fun y H7 => ∃ acc, H7 D = some (.lst acc) ∧ acc.length < sizeLine ∧ Pv (i + 1) (upd H7 D (.lst (acc ++ [y]))) else Pv (i + 1) H6) (hd : ∀ H, Pv n1 H → Nx H) :
    ∃ W1 : Nat → Nat → Hp → Prop, (∃ m, W1 0 m H4) ∧ ∀ j k H, W1 j k H →
      (J1.stop j H ∧ Nx H) ∨ (J1.go j H ∧ ∃ Nx1 : Hp → Prop, (∀ H', Nx1 H' → ∃ k', k' < k ∧ W1 (j + 1) k' H') ∧ ∀ x H', J1.yld j H x H' → g1 x (wipe σ2 vs1) H' fun σ3 H5 => wipe σ3 vs1 = wipe σ2 vs1 ∧ tt1 σ3 H5 fun b H6 =>
        if b = true then te σ3 H6 fun y H7 => ∃ acc, H7 D = some (.lst acc) ∧ acc.length < sizeLine ∧ Nx1 (upd H7 D (.lst (acc ++ [y]))) else Nx1 H6) := by
  refine ⟨fun i m H => m = n1 - i ∧ i ≤ n1 ∧ Pv i H, ⟨n1, by simp, Nat.zero_le _, h0⟩, ?_⟩
  rintro i m H ⟨rfl, hi, p⟩
  have q := hG i H hi p
  by_cases hlt : i < n1
  · exact .inr ⟨w.goes i H hlt q, Pv (i + 1), fun H' p' => ⟨n1 - (i + 1), by omega, rfl, hlt, p'⟩, fun x H' y => hs i x H H' hlt p (w.yields i H x H' hlt q y)⟩
  · have e : i = n1 := by omega
    subst e
    exact .inl ⟨w.stops H q, hd H p⟩
/-- the outer for -/
theorem out_it (w : Walk J n G Y) {g : TG} {tt : TT} {wi1 : TI} {g1 : TG} {tt1 : TT} {te : TE} {vs vs1 : List Nat} {σ : L2.St} {H1 : Hp} {D : Addr} {Qd : Hp → Prop} (Pv : Nat → Hp → Prop) (h0 : Pv 0 (upd H1 D (.lst []))) (hG : ∀ i H, i ≤ n → Pv i H → G H)
    (hs : ∀ i x H H', i < n → Pv i H → Y i H x H' → g x (wipe σ vs) H' fun σ2 H2 => wipe σ2 vs = wipe σ vs ∧ tt σ2 H2 fun b H3 =>
      if b = true then wi1 σ2 H3 fun J1 H4 => ∃ W1 : Nat → Nat → Hp → Prop, (∃ m, W1 0 m H4) ∧ ∀ j k H, W1 j k H →
        (J1.stop j H ∧ Pv (i + 1) H) ∨ (J1.go j H ∧ ∃ Nx1 : Hp → Prop, (∀ H', Nx1 H' → ∃ k', k' < k ∧ W1 (j + 1) k' H') ∧ ∀ x H', J1.yld j H x H' → g1 x (wipe σ2 vs1) H' fun σ3 H5 => wipe σ3 vs1 = wipe σ2 vs1 ∧ tt1 σ3 H5 fun b H6 =>
          if b = true then te σ3 H6 fun y H7 => ∃ acc, H7 D = some (.lst acc) ∧ acc.length < sizeLine ∧ Nx1 (upd H7 D (.lst (acc ++ [y]))) else Nx1 H6)
      else Pv (i + 1) H3) (hd : ∀ H, Pv n H → Qd H) :
    ∃ W : Nat → Nat → Hp → Prop, (∃ m, W 0 m (upd H1 D (.lst []))) ∧ ∀ i m H, W i m H →
      (J.stop i H ∧ Qd H) ∨ (J.go i H ∧ ∃ Nx : Hp → Prop, (∀ H', Nx H' → ∃ m', m' < m ∧ W (i + 1) m' H') ∧ ∀ x H', J.yld i H x H' → g x (wipe σ vs) H' fun σ2 H2 => wipe σ2 vs = wipe σ vs ∧ tt σ2 H2 fun b H3 =>
        if b = true then wi1 σ2 H3 fun J1 H4 => ∃ W1 : Nat → Nat → Hp → Prop, (∃ m, W1 0 m H4) ∧ ∀ j k H, W1 j k H →
          (J1.stop j H ∧ Nx H) ∨ (J1.go j H ∧ ∃ Nx1 : Hp → Prop, (∀ H', Nx1 H' → ∃ k', k' < k ∧ W1 (j + 1) k' H') ∧ ∀ x H', J1.yld j H x H' → g1 x (wipe σ2 vs1) H' fun σ3 H5 => wipe σ3 vs1 = wipe σ2 vs1 ∧ tt1 σ3 H5 fun b H6 =>
            if b = true then te σ3 H6 fun y H7 => ∃ acc, H7 D = some (.lst acc) ∧ acc.length < sizeLine ∧ Nx1 (upd H7 D (.lst (acc ++ [y]))) else Nx1 H6)
        else Nx H3) := by
  refine ⟨fun i m H => m = n - i ∧ i ≤ n ∧ Pv i H, ⟨n, by simp, Nat.zero_le _, h0⟩, ?_⟩
  rintro i m H ⟨rfl, hi, p⟩
  have q := hG i H hi p
  by_cases hlt : i < n
  · exact .inr ⟨w.goes i H hlt q, Pv (i + 1), fun H' p' => ⟨n - (i + 1), by omega, rfl, hlt, p'⟩, fun x H' y => hs i x H H' hlt p (w.yields i H x H' hlt q y)⟩
  · have e : i = n := by omega
    subst e
    exact .inl ⟨w.stops H q, hd H p⟩
end
/-! two rules, one or the other -/
def rOr (r r' : R2) : R2 := fun x y H Q => r x y H Q ∨ r' x y H Q
theorem ix_or {X : Cx} {r r' : R2} (h : IxR X r) (h' : IxR X r') : IxR X (rOr r r') := fun value slice pins s σ H x y v u Q I rx ry q hs =>
  q.elim (fun q => h value slice pins s σ H x y v u Q I rx ry q hs) fun q => h' value slice pins s σ H x y v u Q I rx ry q hs
theorem op_or {X : Cx} {f : Value → Value → Sem Value} {r r' : R2} (h : OpR X f r) (h' : OpR X f r') : OpR X f (rOr r r') := fun pins s σ H x y v u Q I rx ry q =>
  q.elim (fun q => h pins s σ H x y v u Q I rx ry q) fun q => h' pins s σ H x y v u Q I rx ry q
/-! what a thing is -/
def isIntD : PyData → Bool
  | .int _ => true
  | .bool _ => true
  | _ => false
def isBoolD : PyData → Bool
  | .bool _ => true
  | _ => false
def isStrD : PyData → Bool
  | .str _ => true
  | _ => false
def isTupD : PyData → Bool
  | .tuple _ => true
  | _ => false
section
variable {K : PySem.W.Frag} {H : Hp} {v : V} {d : PyData} {Q : VK}
theorem tup_ty {a : Addr} {xs : List V} (h : SqT K H a xs) : TyX K H (.ref a) (.type "tuple") := by
  rcases h with (h | ⟨o, h⟩) | ⟨o, its, n, h, c, _⟩
  · exact .base (.tup h)
  · exact .fTuple h
  · exact .kTuple h c
/-- a thing's type, and what isinstance says of it -/
theorem ty_of (h : Dt K H v d) : ∃ t : Value, TyX K H v t ∧ PySem.W.kitOne K t (.type "int") = some (isIntD d) ∧ PySem.W.kitOne K t (.type "bool") = some (isBoolD d) ∧ PySem.W.kitOne K t (.type "str") = some (isStrD d) ∧ PySem.W.kitOne K t (.type "tuple") = some (isTupD d) := by
  cases h with
  | non => exact ⟨_, .base .non, kit_ty (r := false) (by decide +kernel), kit_ty (r := false) (by decide +kernel), kit_ty (r := false) (by decide +kernel), kit_ty (r := false) (by decide +kernel)⟩
  | bl b => exact ⟨_, .base (.bl b), kit_ty (r := true) (by decide +kernel), kit_ty (r := true) (by decide +kernel), kit_ty (r := false) (by decide +kernel), kit_ty (r := false) (by decide +kernel)⟩
  | int b => exact ⟨_, .base (.int b), kit_ty (r := true) (by decide +kernel), kit_ty (r := false) (by decide +kernel), kit_ty (r := false) (by decide +kernel), kit_ty (r := false) (by decide +kernel)⟩
  | str b => exact ⟨_, .base (.str b), kit_ty (r := false) (by decide +kernel), kit_ty (r := false) (by decide +kernel), kit_ty (r := true) (by decide +kernel), kit_ty (r := false) (by decide +kernel)⟩
  | tup hs _ => exact ⟨_, tup_ty hs, kit_ty (r := false) (by decide +kernel), kit_ty (r := false) (by decide +kernel), kit_ty (r := false) (by decide +kernel), kit_ty (r := true) (by decide +kernel)⟩
end
end Cl

/-! ### ClRec: what is a record, and its text, over data -/
namespace Cl
open PySem L2
section
variable {K : PySem.W.Frag} {H : Hp}
theorem DtAll.two {xs : List V} {d1 d2 : PyData} (h : DtAll K H xs [d1, d2]) : ∃ v1 v2, xs = [v1, v2] ∧ Dt K H v1 d1 ∧ Dt K H v2 d2 := by
  cases h with
  | cons h1 h => cases h with
    | cons h2 h => cases h with
      | nil => exact ⟨_, _, rfl, h1, h2⟩
theorem DtAll.three {xs : List V} {d1 d2 d3 : PyData} (h : DtAll K H xs [d1, d2, d3]) : ∃ v1 v2 v3, xs = [v1, v2, v3] ∧ Dt K H v1 d1 ∧ Dt K H v2 d2 ∧ Dt K H v3 d3 := by
  cases h with
  | cons h1 h =>
    obtain ⟨v2, v3, rfl, h2, h3⟩ := h.two
    exact ⟨_, _, _, rfl, h1, h2, h3⟩
theorem DtAll.four {xs : List V} {d1 d2 d3 d4 : PyData} (h : DtAll K H xs [d1, d2, d3, d4]) : ∃ v1 v2 v3 v4, xs = [v1, v2, v3, v4] ∧ Dt K H v1 d1 ∧ Dt K H v2 d2 ∧ Dt K H v3 d3 ∧ Dt K H v4 d4 := by
  cases h with
  | cons h1 h =>
    obtain ⟨v2, v3, v4, rfl, h2⟩ := h.three
    exact ⟨_, _, _, _, rfl, h1, h2⟩
theorem DtAll.six {xs : List V} {d1 d2 d3 d4 d5 d6 : PyData} (h : DtAll K H xs [d1, d2, d3, d4, d5, d6]) : ∃ v1 v2 v3 v4 v5 v6, xs = [v1, v2, v3, v4, v5, v6] ∧ Dt K H v1 d1 ∧ Dt K H v2 d2 ∧ Dt K H v3 d3 ∧ Dt K H v4 d4 ∧ Dt K H v5 d5 ∧ Dt K H v6 d6 := by
  cases h with
  | cons h1 h => cases h with
    | cons h2 h =>
      obtain ⟨v3, v4, v5, v6, rfl, h3⟩ := h.four
      exact ⟨_, _, _, _, _, _, rfl, h1, h2, h3⟩
end
mutual
/-- no text and no tuple is long -/
def smallD : PyData → Bool
  | .str x => decide (x.length ≤ 5000)
  | .tuple ds => decide (ds.length ≤ 5000) && smallAll ds
  | _ => true
def smallAll : List PyData → Bool
  | [] => true
  | d :: ds => smallD d && smallAll ds
end
theorem smallAll_mem : ∀ {ds : List PyData}, smallAll ds = true → ∀ d ∈ ds, smallD d = true
  | [], _, _, h => nomatch h
  | e :: ds, h, d, hd => by
    unfold smallAll at h
    obtain ⟨h1, h2⟩ := Bool.and_eq_true_iff.mp h
    rcases List.mem_cons.mp hd with rfl | hd
    · exact h1
    · exact smallAll_mem h2 d hd
theorem small_tup {ds : List PyData} (h : smallD (.tuple ds) = true) : ds.length ≤ 5000 ∧ ∀ d ∈ ds, smallD d = true := by
  unfold smallD at h
  obtain ⟨h1, h2⟩ := Bool.and_eq_true_iff.mp h
  exact ⟨of_decide_eq_true h1, smallAll_mem h2⟩
theorem small_str {x : Str} (h : smallD (.str x) = true) : x.length ≤ 5000 := by
  unfold smallD at h
  exact of_decide_eq_true h
/-- each of a tuple's things -/
def allD (f : PyData → Bool) : PyData → Bool
  | .tuple ds => ds.all f
  | _ => false
def isNum : PyData → Bool
  | .int n => decide (0 ≤ n) && decide (n ≤ 999999999999)
  | _ => false
def isOf (signs : Str) : PyData → Bool
  | .str x => decide (1 ≤ x.length) && decide (x.length ≤ 8) && x.cps.toList.all fun c => decide (c ∈ signs.cps.toList)
  | _ => false
def lettersS : Str := "abcdefghijklmnopqrstuvwxyz"
def wordsS : Str := "abcdefghijklmnopqrstuvwxyz0123456789"
def isTupL (lo hi : Nat) : PyData → Bool
  | .tuple ds => decide (lo ≤ ds.length) && decide (ds.length ≤ hi)
  | _ => false
def isAddr : PyData → Bool
  | .tuple [a, b] => isNum a && isNum b
  | _ => false
def isKindOf (ks : List Str) : PyData → Bool
  | .str x => ks.any fun k => decide (x = k)
  | _ => false
def isZ : PyData → Bool
  | .int n => decide (n = 0)
  | _ => false
def isEntry : PyData → Bool
  | .tuple [k, n, a] => isKindOf ["words", "names", "more", "node", "piece", "seal", "root"] k && isNum n && isNum a &&
      (isKindOf ["words", "names", "more", "node"] k || isZ n) && (isKindOf ["words", "names", "piece"] k || isZ a)
  | _ => false
def ltD : PyData → PyData → Bool
  | .int i, .int j => decide (i < j)
  | .str i, .str j => decide (i.cps.toList < j.cps.toList)
  | _, _ => false
def rising (ds : List PyData) : Bool := (List.range (ds.length - 1)).all fun k => ltD (ds.getD k .none) (ds.getD (k + 1) .none)
def isRow : PyData → Bool
  | .tuple [a, b] => isOf lettersS a && isNum b
  | _ => false
def isStanding : PyData → Bool
  | .tuple [a, b] => isNum a && isAddr b
  | _ => false
def isNoneD : PyData → Bool
  | .none => true
  | _ => false
/-- the firsts of a tuple of tuples -/
def firstD : PyData → PyData
  | .tuple (a :: _) => a
  | _ => .none
def firsts : PyData → List PyData
  | .tuple ds => ds.map firstD
  | _ => []
def itemsD : PyData → List PyData
  | .tuple ds => ds
  | _ => []
def isHead (ds : List PyData) : Bool := decide (ds.length = 1) && ds.all isNum
def isPart : List PyData → Bool
  | [a, b, c] => isNum a && isNum b && (isTupL 1 20 c && allD isEntry c)
  | _ => false
def isWords : List PyData → Bool
  | [a, b, c] => isNum a && isNum b && (isTupL 1 4 c && allD (isOf wordsS) c)
  | _ => false
def isNames : List PyData → Bool
  | [a, b, c] => isNum a && isNum b && isTupL 1 4 c && (allD isRow c && rising (firsts c))
  | _ => false
def isMore : List PyData → Bool
  | [a, b] => isNum a && (isTupL 1 12 b && allD isAddr b)
  | _ => false
def isNode : List PyData → Bool
  | [a, b, c, d, e, f] => isNum a && isKindOf ["file", "dir"] b && (isNum c && isNum d) && (isTupL 0 3 e && allD isAddr e) && (isNoneD f || isAddr f)
  | _ => false
def isPiece : List PyData → Bool
  | [a, b] => isNum a && isTupL 1 6 b && (allD isStanding b && rising (firsts b))
  | _ => false
def isSeal : List PyData → Bool
  | [a, b, c, d] => isNum a && isNum b && isNum c && isTupL 0 30 d && (allD isNum d && rising (itemsD d))
  | _ => false
def isRoot : List PyData → Bool
  | [a, b, c, d] => isNum a && isNum b && isNum c && (isTupL 1 10 d && allD isAddr d)
  | _ => false
/-- what is a record -/
def isRec : PyData → Bool
  | .tuple (.str k :: ds) =>
    if k = "head" then isHead ds else if k = "part" then isPart ds else if k = "words" then isWords ds else if k = "names" then isNames ds else if k = "more" then isMore ds
    else if k = "node" then isNode ds else if k = "piece" then isPiece ds else if k = "seal" then isSeal ds else if k = "root" then isRoot ds else false
  | _ => false
mutual
/-- a thing within a record as texts -/
def flatL : PyData → List Str
  | .none => ["-"]
  | .str x => [x]
  | .int n => [hexS n.toNat]
  | .tuple ds => flatAll ds
  | _ => []
def flatAll : List PyData → List Str
  | [] => []
  | d :: ds => flatL d ++ flatAll ds
end
/-- None, texts, whole numbers from nought on, tuples of such, at most so deep -/
def okF : Nat → PyData → Bool
  | _, .none => true
  | _, .str _ => true
  | _, .int n => decide (0 ≤ n) && decide (n < 2 ^ 60)
  | k + 1, .tuple ds => ds.all (okF k)
  | _, _ => false
theorem flatAll_take : ∀ {ds : List PyData} {i : Nat} {d : PyData}, ds[i]? = some d → flatAll (ds.take (i + 1)) = flatAll (ds.take i) ++ flatL d
  | [], _, _, h => by simp at h
  | e :: ds, 0, d, h => by
    have h' : e = d := by simpa using h
    subst h'
    show flatL e ++ flatAll [] = [] ++ flatL e
    simp [flatAll]
  | e :: ds, i + 1, d, h => by
    have h' : ds[i]? = some d := by simpa using h
    show flatL e ++ flatAll (ds.take (i + 1)) = (flatL e ++ flatAll (ds.take i)) ++ flatL d
    rw [flatAll_take h', List.append_assoc]
theorem flatAll_len : ∀ (ds : List PyData) (i : Nat), (flatAll (ds.take i)).length ≤ (flatAll ds).length
  | [], i => by simp
  | d :: ds, 0 => Nat.zero_le _
  | d :: ds, i + 1 => by
    show (flatL d ++ flatAll (ds.take i)).length ≤ (flatL d ++ flatAll ds).length
    rw [List.length_append, List.length_append]
    have := flatAll_len ds i
    omega
end Cl

/-! ### ClExc: exceptions of own classes: their making by a base's __init__, isinstance of a caught one, calls within a try -/
namespace PySem.W
open PySem PyProof.Rows
section
variable {prog : Program} {w : World} {K : Frag} {D x : Addr} {ox : Obj} {od : Option Obj}
/-- what the class D must say, so that isinstance asks its instances rightly -/
structure ExcK (K : Frag) (D : Addr) : Prop where
  ga : findIn K (.ref D) "__getattribute__" = some (some (.builtin "BaseException.__getattribute__"))
  gg : findIn K (.ref D) "__getattr__" = some none
  be : subIn K (.ref D) (.type "BaseException") = some true
  hd : hasDictIn K D = true
  ca : findIn K (.ref D) "__class__" = some (some (.builtin "object.__class__"))
  gs : specialIn K (.builtin "object.__class__") "__get__" = some (some (.builtin "getset_descriptor.__get__"))
  tk : takesIn K (.builtin "object.__class__") = some true
  mo : mroIn K D (.type "object") = some true
theorem find_clsX (C : ExcK K D) (od : Option Obj) : findObj K D od "__class__" = some (.bind (.builtin "getset_descriptor.__get__") (.builtin "object.__class__")) := by
  obtain ⟨cd, hc, _⟩ := any_some C.hd
  unfold findObj
  rw [hc, Option.bind_some, C.ca, Option.bind_some]
  simp [C.gs, C.tk]
theorem cls_ofX {A : Around} {E : Value → Shared → Prop} {s : Shared} {Q : Option Value → Shared → Prop} (C : ExcK K D) (X : K.In s.heap) (I : InstAt s.heap x ox D od) (h : Q (some (.ref D)) { s with toks := s.toks + 1 }) : wpAny (model prog w) A (getAttr? (.ref x) "__class__") Q E s := by
  obtain ⟨hp, g, d, t, os⟩ := s
  have l0 := I.type (M := model prog w)
  have l1 := looks_findIn (M := model prog w) X C.ga
  have l2 := looks_findIn (M := model prog w) X C.gg
  have l3 := looks_find (M := model prog w) X I (find_clsX C od)
  have sub : Looks (model prog w) hp (isInstance (.ref x) (.type "BaseException")) true := l0.andThen (looks_subIn X C.be)
  have q0 : (false && onTheHeap (Value.builtin "BaseException.__getattribute__")) = false := rfl
  have q2 : (Value.builtin "BaseException.__getattribute__" == Value.builtin "object.__getattribute__") = false := by decide +kernel
  have q1 : (onTheHeap (Value.ref D) && Value.builtin "BaseException.__getattribute__" == Value.builtin "object.__getattribute__") = false := by rw [q2]; rfl
  unfold getAttr? getAttrBy? getAttrBy
  refine wpAny_bind (wpAny_mkText (wpAny_bind (wpAny_attempt (wpAny_holding (wpAny_bind (l0.at (wpAny_bind (l1.at ?_))))))))
  show wpAny _ _ (if (onTheHeap (Value.ref D) && Value.builtin "BaseException.__getattribute__" == Value.builtin "object.__getattribute__") = true then _ else _) _ _ _
  rw [q1, if_neg Bool.false_ne_true]
  unfold getAttrByItsOwn hookBefore
  refine wpAny_bind ?_
  rw [if_pos (show onTheHeap (Value.ref D) = true from rfl)]
  refine l2.at (wpAny_bind (wpAny_attempt (wpAny_holding ?_)))
  unfold callGetattribute
  rw [q0, if_neg Bool.false_ne_true]
  unfold boundAndCalled
  rw [PySem.F.excAttr_ValueError.ga.bind (.ref x)]
  refine wpAny_bind (wpAny_pure ?_)
  show wpAny _ _ (call (.builtin "BaseException.__getattribute__") [.ref x, .str "__class__" t]) _ _ _
  refine wpAny_call (codeAny_call_builtin PySem.F.excAttr_ValueError.ga.plain PySem.F.entry_bexc_ga ?_)
  refine @check_slot (model prog w) _ _ ⟨hp, g, d, t + 1, os⟩ "BaseException.__getattribute__" "BaseException" "__getattribute__" (.ref x) [.str "__class__" t] [] _ (by decide +kernel) (by decide +kernel) sub (PySem.F.args_bexc_ga (.ref x) (.str "__class__" t)) ?_
  unfold Builtin.«object.__getattribute__»
  refine wpAny_bind (wpAny_of_eq (a := ((Value.ref x : Value), [Value.str "__class__" t])) (by first | rfl | (simp only [slotArgs]; rfl)) ?_)
  refine wpAny_bind (wpAny_pure (wpAny_bind (l0.at (wpAny_bind (l3.at ?_)))))
  show wpAny _ _ (holding [Value.builtin "object.__class__"] (call (.builtin "getset_descriptor.__get__") [.builtin "object.__class__", .ref x, .ref D]) >>= ret) _ _ _
  refine wpAny_bind (wpAny_holding (wpAny_call (class_get (s := ⟨hp, g, d, t + 1, os⟩) (ox := ox) (od := od) X I C.mo ?_)))
  refine wpAny_pure ?_
  show wpAny _ _ (handedOut (.ref D)) _ _ _
  rw [handedOut_of (v := .ref D) rfl]
  first
    | exact wpAny_pure (wpAny_pure h)
    | exact wpAny_pure h
    | exact wpAny_pure (wpAny_bind (wpAny_pure (wpAny_pure h)))
theorem kit_exc (C : ExcK K D) : KitX K (.ref x) (.ref D) (fun h => ∃ ox od, InstAt h x ox D od) where
  ty := fun _ _ _ ⟨_, _, I⟩ => I.type
  it := fun _ _ X _ => by
    obtain ⟨cd, hc, _⟩ := any_some C.hd
    unfold clsIn at hc
    split at hc
    · rename_i c' d' cd' sl' ho
      intro A' Q' E' s' k q
      unfold isType loadHead
      exact wpAny_bind (wpAny_loadPart (k _ _ (X _ _ ho)) (wpAny_pure q))
    · cases hc
  ne := fun h tp dd its n sl X htp => by
    obtain ⟨cd, hc, _⟩ := any_some C.hd
    refine Bool.eq_false_iff.mpr fun q => ?_
    have e : D = tp := Value.ref.inj (beq_iff_eq.mp q)
    subst e
    unfold clsIn at hc
    split at hc
    · rename_i c' d' cd' sl' ho
      have z := (X _ _ ho).symm.trans htp
      cases z
    · cases hc
  ca := fun X I k => by
    obtain ⟨_, _, I⟩ := I
    exact cls_ofX C X I k
end
end PySem.W
namespace Cl
open PySem PySem.Spec PyProof.Rows L2
/-- the caught exception's dict, as it stands -/
def DctOk (d : Option Addr) (H : Hp) : Prop := d = none ∨ ∃ dd fs, d = some dd ∧ H dd = some (.xd fs)
section
variable {X : Cx} {a : Addr} {oe : Obj} {cls : Value} {d : Option Addr} {pn : List (Addr × Obj)}
theorem inst_caught {pins : List (Addr × Obj)} {σ : L2.St} {H : Hp} {s : Shared} {D : Addr} (I : Inv (X.suite a ((a, oe) :: pn)) pins σ H s) (hz : Zc (.ref D) d oe) (hf : ∃ vs, oe.data = .fields vs) (hd : DctOk d H) : ∃ ox od, PySem.W.InstAt s.heap a ox D od := by
  obtain ⟨hget, _⟩ := I.pin (a, oe) (List.mem_append.mpr (.inl List.mem_cons_self))
  obtain ⟨vs, hv⟩ := hf
  rcases hd with rfl | ⟨dd, fs, rfl, hx⟩
  · refine ⟨oe, none, hget, hz.1, ?_, ?_⟩
    · unfold PySem.W.notCls
      rw [hv]
    · rw [hz.2]
      trivial
  · have ob : ObjOk X.prog X.w H s.heap dd (.xd fs) := I.hok dd _ hx
    obtain ⟨mA, hns, _⟩ := ob
    obtain ⟨od, ho, _⟩ := lookIn_ns hns
    refine ⟨oe, some od, hget, hz.1, ?_, ?_⟩
    · unfold PySem.W.notCls
      rw [hv]
    · rw [hz.2]
      exact ho
/-- isinstance(e, c), e the exception that the suite holds -/
def rIsX (K : PySem.W.Frag) (a : Addr) (cls : Value) (d : Option Addr) : List V → Hp → VK → Prop := fun xs H Q => ∃ (c : V) (cv : Value) (D : Addr) (b : Bool), xs = [.ref a, c] ∧ cls = .ref D ∧ PySem.W.ExcK K D ∧ DctOk d H ∧ ClsV c cv ∧ PySem.W.kitOne K (.ref D) cv = some b ∧ Q (.bl b) H
def rIsXT (K : PySem.W.Frag) (a : Addr) (cls : Value) (d : Option Addr) : List V → Hp → VK → Prop := fun xs H Q => ∃ (tp : Addr) (cs : List V) (us : List Value) (D : Addr) (b : Bool), xs = [.ref a, .ref tp] ∧ cls = .ref D ∧ PySem.W.ExcK K D ∧ DctOk d H ∧ H tp = some (.tup cs) ∧ Paired ClsV cs us ∧ PySem.W.kitAny K (.ref D) us = some b ∧ Q (.bl b) H
theorem call_isX (hz : Zc cls d oe) (hf : ∃ vs, oe.data = .fields vs) (K : PySem.W.Frag) (hK : X.K = K := by rfl) : CallR (X.suite a ((a, oe) :: pn)) (.builtin "isinstance") (rIsX K a cls d) := by
  subst hK
  intro pins s σ H xs us Q I r h
  obtain ⟨c, cv, D, b, rfl, rfl, C, hd, k, e, q⟩ := h
  obtain ⟨u1, u2, rfl, r1, r2⟩ := vals2 r
  have e2 := k.eq r2
  subst e2
  cases (show u1 = Value.ref a from r1)
  exact PySem.W.kia_one (PySem.W.kit_exc C) I.kIn (inst_caught I hz hf hd) e (fun z => nomatch z) fun tk => ⟨.bl b, H, I.tok tk, rfl, q⟩
theorem call_isXT (hz : Zc cls d oe) (hf : ∃ vs, oe.data = .fields vs) (K : PySem.W.Frag) (hK : X.K = K := by rfl) : CallR (X.suite a ((a, oe) :: pn)) (.builtin "isinstance") (rIsXT K a cls d) := by
  subst hK
  intro pins s σ H xs us Q I r h
  obtain ⟨tp, cs, ws, D, b, rfl, rfl, C, hd, hT, k, e, q⟩ := h
  obtain ⟨u1, u2, rfl, r1, r2⟩ := vals2 r
  cases (show u1 = Value.ref a from r1)
  cases (show u2 = Value.ref tp from r2)
  obtain ⟨_, its, rv, o, h1, h2, n, h3⟩ := (show ObjOk X.prog X.w H s.heap tp (.tup cs) from I.hok tp _ hT)
  have e3 := ClsV.all k rv
  subst e3
  obtain ⟨oc, od, dt, sl⟩ := o
  simp only at h2 h3
  subst h2 h3
  exact PySem.W.kia_tup (PySem.W.kit_exc C) I.kIn (inst_caught I hz hf hd) h1 e (fun z => nomatch z) fun tk => ⟨.bl b, H, I.tok tk, rfl, q⟩
end
/-! calls of defs that may raise, in a try -/
section
variable {X : Cx} {k n : Nat} {ps ks : List Str} {sp : Sp} {E : L2.St → XK} {x : Str} {p pos : Pos} {e : Expr} {es : List Expr} {t tk : TA} {f : Addr} {fd : FuncData}
theorem gn_callS {CX : CXT} {pins : List (Addr × Obj)} {σ : L2.St} {H : Hp} {s : Shared} {Q : VK} {E : XK} {us : List Value} {kw : List (Str × Value)} {allU : List Value} {allV : List V} (F : GnOk X.prog X.w X.K X.mg X.base CX k f fd ps sp) (hr : Rm k X.A) (hb : BindsTo s fd ⟨us, kw⟩ (ps.zip allU)) (hx : PassesAt CX X σ E)
    (I : Inv X pins σ H s) (r : Vals allV allU) (h : sp allV H Q E) : wpAny (model X.prog X.w) X.A (call (.ref f) us kw) (EP X pins σ Q) X.xe s := by
  refine wpAny_call (codeAny_mono (F.run X.A X.stack s H ⟨us, kw⟩ allU allV Q E hr I.env0 hb r h) ?_)
  rintro (e | fl) s' hq
  · exact hx pins H s e s' I hq
  · cases fl with
    | ret u => exact I.after hq
    | next | brk | cont => exact hq.elim
theorem pe_calS {CX : CXT} (C : Cal X.prog X.w X.K X.mg X.base CX x k ps sp) (hr : Rm k X.A) (hg : Gl X x) (hx : ∀ σ, PassesAt CX X σ (E σ)) (ha : PA X (e :: es) t) (hdb : (x == ("__debug__" : Str)) = false := by decide)
    (he : starEach (e :: es) X.env = (false, eval e X.env) :: starEach es X.env := by rfl) (hpl : (backTo pos (starEach es X.env)).any (·.1) = false := by rfl) :
    PE X (.Call (.Name x p) (e :: es) [] pos) (tCallS sp E t) := by
  obtain ⟨f, fd, F, hm, hk, hb⟩ := C.ex
  constructor
  intro pins s σ H Q I h
  refine wpAny_Call_Name_kw (ld_glob I hg hm (PySem.W.callWith_K (h₀ := X.base) I.ok.mod.kin hk (thn (ha.run pos pins s σ H _ I h) ?_) he hpl) hdb)
  rintro us s1 ⟨vs, H1, I1, r, q⟩
  have hl := F.len _ _ _ _ q
  refine ⟨I1.kIn, gn_callS F hr (?_ : BindsTo s1 fd ⟨us, []⟩ (ps.zip us)) (hx σ) I1 r q⟩
  have hb' := hb s1 us I1.kIn (by rw [List.append_nil, ← r.length]; exact hl)
  rwa [List.append_nil] at hb'
/-! Base.__init__(self, ..) -/
structure OBase (K : PySem.W.Frag) (mg : Str → Option Value) (x : Str) (C : Addr) : Prop where
  mgC : mg x = some (.ref C)
  sp : PySem.W.specialIn K (.ref C) "__getattribute__" = some (some (.builtin "type.__getattribute__"))
  rd : PySem.W.readsIn K C (.type "type") = true
  fi : PySem.W.findCls K (.ref C) (.type "type") "__init__" = some (.val (.builtin "ValueError.__init__"))
theorem pe_oinit {C : Addr} {p1 p2 : Pos} {pl : Sem Bool} (hg : Gl X x) (T : OBase X.K X.mg x C) (ha : PA X (e :: es) t) (hdb : (x == ("__debug__" : Str)) = false := by decide)
    (hc : eval (.Call (.Attribute (.Name x p1) "__init__" p2) (e :: es) [] pos) X.env = (do
      let ov ← eval (.Name x p1) X.env
      standAt p2.atName
      let (f, first) ← holding [ov] (getMethod ov "__init__" pl)
      callWith pos f first (backTo pos (starEach (e :: es) X.env)) (backToKw pos (keywordEach [] X.env))) := by rfl)
    (he : starEach (e :: es) X.env = (false, eval e X.env) :: starEach es X.env := by rfl) (hpl : (backTo pos (starEach es X.env)).any (·.1) = false := by rfl) :
    PE X (.Call (.Attribute (.Name x p1) "__init__" p2) (e :: es) [] pos) (tVeI X.K t) := by
  refine ⟨fun pins s σ H Q I h => ?_⟩
  refine PySem.W.methodCall_KW (ld_glob I hg T.mgC ?_ hdb) hc
  refine PySem.W.method_cls I.kIn T.sp (PySem.W.cls_value I.kIn T.rd T.fi (by decide +kernel) ?_)
  show wpAny _ _ (callWith pos (Value.builtin "ValueError.__init__") [] (backTo pos (starEach (e :: es) X.env)) []) _ _ _
  refine PyProof.Rows.callWith_method1 (thn (ha.run pos pins _ σ H _ (I.tok _) h) fun us s1 ⟨vs, H1, I1, r1, a, C, ws, ev, hl, T, ea, q⟩ => ?_) he hpl
  subst ev
  cases r1 with
  | @cons _ u0 _ ur ra rw' =>
    obtain rfl : u0 = Value.ref a := ra
    have hlen : ur.length ≤ sizeLine := by
      rw [← Paired.length rw', sizeLine_eq]
      omega
    exact oinit_ok T I1 ea hlen fun s' J => ⟨.non, H1, J, rfl, q⟩
end
/-! an own exception with one field -/
def sp_exc1 (f : Str) (C : Addr) : Sp := fun vs H Q _ => ∃ (x : Addr) (v : V), vs = [.ref x, v] ∧ H x = some (exo x C none) ∧ ∀ dx, H dx = none → dx ≠ x → Q .non (upd (upd H dx (exd dx [(f, v)])) x (exo x C (some dx)))
/-- the class at C, whose __init__ keeps sp -/
structure ExI (P : Program) (w : World) (K : PySem.W.Frag) (mg : Str → Option Value) (base : Heap) (x : Str) (C : Addr) (ps : List Str) (sp : Sp) : Prop where
  mgC : mg x = some (.ref C)
  ox : OexC K C
  ex : ∃ (fI : Addr) (fd : FuncData), PySem.W.findIn K (.ref C) "__init__" = some (some (.ref fI)) ∧ PySem.W.typeIn K (.ref fI) = some (.type "function") ∧ FnOk P w K mg base CX0 1 fI fd ps sp ∧ Binds K fd ps []
/-- the reading of its making, from the field's value on -/
theorem exc1_way {C : Addr} {f : Str} {vs : List V} {H1 : Hp} {Q : XK} (h : ∃ v, vs = [v] ∧ ∀ (d : Addr) (H2 : Hp), Same H1 H2 → H1 d = none → H2 d = some (.xd [(f, v)]) → Q (.ref C) (some d) H2) :
    vs.length ≤ 1000 ∧ ∀ a, H1 a = none → sp_exc1 f C (.ref a :: (vs ++ [])) (upd H1 a (exo a C none))
      (fun v H2 => v = .non ∧ ∃ (d : Addr) (fs : List (Str × V)), H2 a = some (exo a C (some d)) ∧ H2 d = some (exd d fs) ∧ H1 d = none ∧ Q (.ref C) (some d) (upd (del H2 a) d (.xd fs))) (fun _ _ _ => False) := by
  obtain ⟨v, rfl, q⟩ := h
  refine ⟨by simp, fun a ha => ⟨a, v, rfl, upd_same, fun dx hdx nda => ?_⟩⟩
  have hdx' : H1 dx = none := by rw [upd_ne nda] at hdx; exact hdx
  refine ⟨rfl, dx, [(f, v)], upd_same, by rw [upd_ne nda]; exact upd_same, hdx', q dx _ (fun b o hb => ?_) hdx' upd_same⟩
  have nb1 : b ≠ a := ne_of_none hb ha
  have nb2 : b ≠ dx := ne_of_none hb hdx'
  rw [upd_ne nb2, del_ne nb1, upd_ne nb1, upd_ne nb2, upd_ne nb1]
  exact hb
section
variable {X : Cx} {C : Addr} {x f : Str} {p pos : Pos} {e : Expr} {t : TA} {k : Nat}
theorem pmk_ex1 (T : ExI X.prog X.w X.K X.mg X.base x C ["self", f] (sp_exc1 f C)) (hr : Rm (k + 2) X.A) (hg : Gl X x) (ha : PA X [e] t) (hdb : (x == ("__debug__" : Str)) = false := by decide)
    (he : starEach [e] X.env = (false, eval e X.env) :: starEach [] X.env := by rfl) (hpl : (backTo pos (starEach [] X.env)).any (·.1) = false := by rfl) : PMk X (.Call (.Name x p) [e] [] pos) (tMkO C (sp_exc1 f C) [] t) := by
  obtain ⟨fI, fd, hi, ht, F, hb⟩ := T.ex
  exact pmk_oex T.ox hi ht F (hr.room.mono (by omega)) hb .nil pass0 hg T.mgC ha hdb he hpl
end
/-! a def that may raise, seen as one in this layer -/
theorem passE {X : Cx} {W : WX} {E : XK} (tk : Takes X W) (hW : ∀ cls d σ H, E cls d H → W cls d σ H) : Passes (L2.CX X.prog X.w) X E := passes_call tk hW
end Cl

/-! ### ClPath: classes of exceptions by their bundle; paths -/
namespace Cl
open PySem PySem.Spec PyProof.Rows L2
/-- an own class of exceptions -/
structure XCls (K : PySem.W.Frag) (mg : Str → Option Value) (x : Str) (C : Addr) : Prop where
  mgC : mg x = some (.ref C)
  ox : OexC K C
  ek : PySem.W.ExcK K C
theorem _root_.PySem.W.ExcK.xf {K : PySem.W.Frag} {C : Addr} (h : PySem.W.ExcK K C) : XfC K C := ⟨h.ga, h.gg, h.be, h.hd⟩
theorem kitAny_f {K : PySem.W.Frag} {t c : Value} {r : List Value} {b : Option Bool} (h : PySem.W.kitOne K t c = some false) (k : PySem.W.kitAny K t r = b) : PySem.W.kitAny K t (c :: r) = b := by
  unfold PySem.W.kitAny
  rw [h]
  exact k
theorem kitAny_t {K : PySem.W.Frag} {t c : Value} {r : List Value} (h : PySem.W.kitOne K t c = some true) : PySem.W.kitAny K t (c :: r) = some true := by
  unfold PySem.W.kitAny
  rw [h]
/-- equal lists, dicts: by their things, or as they are one -/
theorem op_eqVK {X : Cx} (K : PySem.W.Frag) (hu : X.A.units + 64 < cLine) (hK : X.K = K := by rfl) : OpR X (compareOp .Eq) (rEqV K) := by subst hK; exact op_eqV hu
/-! ### a text cut at each stroke -/
theorem spl_facts (S : List Nat) : ∀ (l : List Nat) (k : Nat) (acc : List Nat), TL.spl S k acc l ≠ [] ∧ (TL.spl S k acc l).length ≤ l.length + 1 ∧ (∀ t ∈ TL.spl S k acc l, t.length ≤ acc.length + l.length) ∧ ∃ t r, TL.spl S k acc l = t :: r ∧ acc.length ≤ t.length
  | [], k, acc => by
    rw [TL.spl_nil]
    exact ⟨by simp, by simp, fun t ht => by rw [List.mem_singleton.mp ht]; omega, acc, [], rfl, Nat.le_refl _⟩
  | c :: r, 0, acc => by
    cases hp : TL.pre S (c :: r) with
    | true =>
      rw [TL.spl_hit hp]
      obtain ⟨h1, h2, h3, _⟩ := spl_facts S r (S.length - 1) []
      refine ⟨by simp, ?_, fun t ht => ?_, _, _, rfl, Nat.le_refl _⟩
      · rw [List.length_cons, List.length_cons]
        omega
      · rcases List.mem_cons.mp ht with rfl | ht
        · omega
        · have := h3 t ht
          rw [List.length_nil] at this
          rw [List.length_cons]
          omega
    | false =>
      rw [TL.spl_miss hp]
      obtain ⟨h1, h2, h3, t, q, e, h4⟩ := spl_facts S r 0 (acc ++ [c])
      refine ⟨h1, ?_, fun t ht => ?_, t, q, e, ?_⟩
      · rw [List.length_cons]
        omega
      · have := h3 t ht
        rw [List.length_append, List.length_singleton] at this
        rw [List.length_cons]
        omega
      · rw [List.length_append, List.length_singleton] at h4
        omega
  | c :: r, k + 1, acc => by
    obtain ⟨h1, h2, h3, t, q, e, h4⟩ := spl_facts S r k acc
    refine ⟨h1, ?_, fun t ht => ?_, t, q, e, h4⟩
    · rw [List.length_cons]
      exact Nat.le_succ_of_le h2
    · have := h3 t ht
      rw [List.length_cons]
      omega
theorem split_st (z : Str) : (Txt.split z "/").map TL.tl = TL.spl [47] 0 [] (TL.tl z) := TL.split_spl z "/" (by decide +kernel) (TL.kind_ok (by decide +kernel))
theorem split_len (z : Str) : (Txt.split z "/").length ≤ z.length + 1 ∧ ∀ t ∈ Txt.split z "/", t.length ≤ z.length := by
  obtain ⟨_, h2, h3, _⟩ := spl_facts [47] (TL.tl z) 0 []
  rw [← split_st, List.length_map, ← TL.len_tl] at h2
  refine ⟨h2, fun t ht => ?_⟩
  have := h3 (TL.tl t) (by rw [← split_st]; exact List.mem_map.mpr ⟨t, ht, rfl⟩)
  rw [← TL.len_tl, ← TL.len_tl, List.length_nil] at this
  omega
theorem split_ne (z : Str) : ∃ f r, Txt.split z "/" = f :: r := by
  obtain ⟨h1, _⟩ := spl_facts [47] (TL.tl z) 0 []
  rw [← split_st] at h1
  cases e : Txt.split z "/" with
  | nil => rw [e] at h1; exact absurd rfl h1
  | cons f r => exact ⟨f, r, rfl⟩
/-- a stroke ahead -/
theorem split_stroke {z y : Str} (h : TL.tl z = 47 :: TL.tl y) : Txt.split z "/" = Str.empty :: Txt.split y "/" := by
  refine TL.map_tl_inj ?_
  rw [split_st, h, TL.spl_hit (by show (List.take 1 (47 :: TL.tl y) == [47]) = true; simp), List.map_cons, split_st]
  rfl
/-- no stroke ahead: the first part is no empty one, or there is just it -/
theorem split_other {z : Str} (h : ∀ r, TL.tl z ≠ 47 :: r) : (∃ f r, Txt.split z "/" = f :: r ∧ 1 ≤ f.length) ∨ Txt.split z "/" = [Str.empty] := by
  cases e : TL.tl z with
  | nil =>
    right
    refine TL.map_tl_inj ?_
    rw [split_st, e]
    rfl
  | cons c r =>
    left
    have hc : c ≠ 47 := fun q => h r (by rw [e, q])
    obtain ⟨_, _, _, t, q, e2, h4⟩ := spl_facts [47] r 0 ([] ++ [c])
    have e3 : (Txt.split z "/").map TL.tl = t :: q := by rw [split_st, e, TL.spl_miss (TL.pre_of_head [] r hc), e2]
    cases e4 : Txt.split z "/" with
    | nil => rw [e4] at e3; cases e3
    | cons f s =>
      rw [e4] at e3
      refine ⟨f, s, rfl, ?_⟩
      rw [TL.len_tl, (List.cons.inj e3).1]
      exact h4
theorem ne_none2 {H : Hp} {p q : Addr} {o : HO} (h : upd H p o q = none) : H q = none := by
  by_cases e : q = p
  · rw [e, upd_same] at h; cases h
  · rwa [upd_ne e] at h
theorem same_none {H H' : Hp} {q : Addr} (s : Same H H') (h : H' q = none) : H q = none := by
  cases e : H q with
  | none => rfl
  | some o => rw [s q o e] at h; cases h
theorem joinL_len (S : List Nat) : ∀ ps : List (List Nat), (TL.joinL S ps).length ≤ (ps.map (·.length)).sum + ps.length * S.length
  | [] => by simp [TL.joinL]
  | [p] => by simp [TL.joinL]
  | p :: q :: r => by
    have ih := joinL_len S (q :: r)
    show (p ++ (S ++ TL.joinL S (q :: r))).length ≤ _
    rw [List.length_append, List.length_append, List.map_cons, List.sum_cons, List.length_cons, Nat.add_mul]
    omega
theorem join_len (y : Str) (ps : List Str) : (Txt.join y ps).length ≤ (ps.map (·.length)).sum + ps.length * y.length := by
  have h := joinL_len (TL.tl y) (ps.map TL.tl)
  rw [TL.len_tl, TL.join_eq, TL.tl_join]
  rw [List.map_map, List.length_map] at h
  have e : (List.map ((fun x => x.length) ∘ TL.tl) ps) = ps.map (·.length) := List.map_congr_left fun t _ => (TL.len_tl t).symm
  rw [e, ← TL.len_tl] at h
  exact h
theorem sum_le {l : List Str} {b : Nat} (h : ∀ t ∈ l, t.length ≤ b) : (l.map (·.length)).sum ≤ b * l.length := by
  induction l with
  | nil => simp
  | cons t r ih =>
    have h1 := h t List.mem_cons_self
    have h2 := ih fun x hx => h x (List.mem_cons_of_mem _ hx)
    rw [List.map_cons, List.sum_cons, List.length_cons, Nat.mul_add]
    omega
/-! ### a text, so many times -/
def repS (x : Str) (n : Nat) : Str := ⟨(List.replicate n x.cps).foldl (· ++ ·) #[]⟩
theorem repS_0 (x : Str) : repS x 0 = Str.empty := rfl
theorem repS_1 (x : Str) : repS x 1 = x := by
  unfold repS
  show (⟨#[] ++ x.cps⟩ : Str) = x
  rw [Array.empty_append]
theorem repS_tl (x : Str) : ∀ (n : Nat) (a : Array Nat), ((List.replicate n x.cps).foldl (· ++ ·) a).size = a.size + n * x.length
  | 0, a => by simp
  | n + 1, a => by
    rw [List.replicate_succ, List.foldl_cons, repS_tl x n, Array.size_append, Nat.add_mul, Nat.one_mul]
    show a.size + x.cps.size + n * x.cps.size = a.size + (n * x.cps.size + x.cps.size)
    omega
theorem repS_len (x : Str) (n : Nat) : (repS x n).length = n * x.length := by
  show ((List.replicate n x.cps).foldl (· ++ ·) #[]).size = _
  rw [repS_tl]
  simp
def rMulS : R2 := fun x y H Q => ∃ z n, x = .str z ∧ y = .int n ∧ -1000000 ≤ n ∧ n ≤ 1000000 ∧ z.length * n.toNat ≤ 1000000 ∧ Q (.str (repS z n.toNat)) H
theorem op_mul_s {X : Cx} : OpR X (binaryOp .Mult) rMulS := by
  intro pins s σ H x y v u Q I rx ry h
  obtain ⟨z, n, rfl, rfl, h0, h1, h2, q⟩ := h
  obtain ⟨t, rfl⟩ := rx
  obtain ⟨t', rfl⟩ := ry
  refine PySem.P.mul_str ?_ (fun a b => ?_) (fun a b => ?_) ?_
  · rw [decide_eq_false (by omega), decide_eq_false (by omega)]
    rfl
  · have hn : ((n.toNat : Nat) : Int) = n := Int.toNat_of_nonneg (by omega)
    have e : (z.length : Int) * n ≤ 1000000 := by
      rw [← hn, ← Int.natCast_mul]
      exact Int.ofNat_le.mpr h2
    have e2 : (z.length : Int) ≤ (2 ^ 63 - 1) / n := Int.le_ediv_of_mul_le (by omega) (by omega)
    omega
  · show decide (z.length * n.toNat > sizeLine) = false
    exact decide_eq_false (by rw [sizeLine_eq]; omega)
  · by_cases c : n < 1
    · rw [if_pos c]
      have e : n.toNat = 0 := by omega
      rw [e] at q
      exact ⟨by decide, ⟨.str Str.empty, H, I.tok _, ⟨_, rfl⟩, q⟩⟩
    · rw [if_neg c]
      by_cases d : (n == 1 || z.length == 0) = true
      · rw [if_pos d]
        have e : repS z n.toNat = z := by
          rcases Bool.or_eq_true_iff.mp d with d | d
          · have : n = 1 := eq_of_beq d
            subst this
            exact repS_1 z
          · have h0 : z.length = 0 := eq_of_beq d
            have z1 : (repS z n.toNat).length = 0 := by rw [repS_len, h0, Nat.mul_zero]
            refine TL.ext_tl ?_
            have e1 : TL.tl (repS z n.toNat) = [] := List.length_eq_zero_iff.mp (by rw [← TL.len_tl]; exact z1)
            have e2 : TL.tl z = [] := List.length_eq_zero_iff.mp (by rw [← TL.len_tl]; exact h0)
            rw [e1, e2]
        rw [e] at q
        exact ⟨.str z, H, I, ⟨_, rfl⟩, q⟩
      · rw [if_neg d]
        have l := repS_len z n.toNat
        refine ⟨?_, ⟨.str (repS z n.toNat), H, I.tok _, ⟨_, rfl⟩, q⟩⟩
        show (repS z n.toNat).length ≤ sizeLine
        rw [l, sizeLine_eq, Nat.mul_comm]
        omega
theorem callS1 {sp : Sp} {E : L2.St → XK} {σ : L2.St} {H : Hp} {Q : VK} {i : Nat} {v : V} (hi : σ[i]? = some (some v)) (h : sp [v] H Q (E σ)) : tCallS sp E (tCons (tVar i) tNil) σ H Q := ⟨v, hi, h⟩
theorem drop1 {te : TE} {D : Ends} {σ : L2.St} {H : Hp} (h : te σ H fun _ H1 => D.nx σ H1) : tDrop te D σ H := h
/-- a def that may raise, called where it doesn't -/
theorem passN {X : Cx} : Passes (L2.CX X.prog X.w) X (fun _ _ _ => False) := fun _ _ _ _ _ _ _ h => by
  obtain ⟨_, _, _, _, _, _, _, _, _, _, _, _, h⟩ := h
  exact h.elim
theorem cut_last (xs : List V) : cutV xs none (some (-1)) = xs.dropLast := by
  unfold cutV
  rw [List.dropLast_eq_take]
  show (List.take (HT.sIx xs.length xs.length (some (-1)) - 0) (List.drop 0 xs)) = _
  rw [List.drop_zero, Nat.sub_zero]
  have e3 : HT.sIx xs.length xs.length (some (-1)) = (-1 + (xs.length : Int)).toNat := by
    show (if (-1 : Int) < 0 then (-1 + (xs.length : Int)).toNat else min (-1 : Int).toNat xs.length) = _
    exact if_pos (by decide)
  rw [e3]
  refine congrFun (congrArg List.take ?_) _
  omega
/-- both ways go on alike -/
theorem two_ways {α : Type} (R : α → Hp → Prop) {G : Prop} {F : α → Hp → Prop} (h : (∀ x H, R x H → F x H) → G) (hF : ∀ x H, R x H → F x H) : G := h hF
theorem kit_own {K : PySem.W.Frag} {D C : Addr} {b : Bool} (hd : PySem.W.hasDictIn K C = true) (ht : PySem.W.typeIn K (.ref C) = some (.type "type")) (h : PySem.W.subIn K (.ref D) (.ref C) = some b) (hs : PySem.W.subIn K (.ref D) (.ref D) = some true) : PySem.W.kitOne K (.ref D) (.ref C) = some b := by
  unfold PySem.W.kitOne
  by_cases e : D = C
  · subst e
    rw [if_pos (by simp)]
    exact hs.symm.trans h
  · rw [if_neg (by simpa using e)]
    obtain ⟨cd, hc, _⟩ := PySem.W.any_some hd
    have e2 : ((PySem.W.clsIn K C).isSome && PySem.W.typeIn K (.ref C) == some (.type "type")) = true := by rw [hc, ht] <;> rfl
    show (if ((PySem.W.clsIn K C).isSome && PySem.W.typeIn K (.ref C) == some (.type "type")) = true then PySem.W.subIn K (.ref D) (.ref C) else none) = some b
    rw [if_pos e2]
    exact h
theorem kit_bi {K : PySem.W.Frag} {D : Addr} {b : Bool} (h : PySem.W.subIn K (.ref D) (.type "ValueError") = some b) : PySem.W.kitOne K (.ref D) (.type "ValueError") = some b := by
  unfold PySem.W.kitOne
  rw [if_neg (by simp)]
  show (if PySem.W.kitMeta "ValueError" = true then PySem.W.subIn K (.ref D) (.type "ValueError") else none) = some b
  rw [if_pos (by decide +kernel)]
  exact h
end Cl

namespace Cl
open PySem L2
def topS (i : Nat) : Stmt := PySem.Challenge.pw_cleanedlog_k31_paths.main.body.getD i (.Pass ⟨0, 0, 0, 0⟩)
section
variable {P : Program} {w : World} {K : PySem.W.Frag} {mg : Str → Option Value} {base : Heap}
abbrev s_BadPath_init : Stmt := inClass (topS 4) 0
abbrev N_BadPath_init : List Str := ["self", "path"]
theorem sc_BadPath_init : FnScope N_BadPath_init ["self", "path"] (defScope s_BadPath_init) := ⟨rfl, rfl, rfl, by decide +kernel, rfl, by decide +kernel, by decide +kernel⟩
theorem ok_BadPath_init {f : Addr} {fd : FuncData} (F : Fun K "__init__" "BadPath.__init__" s_BadPath_init f fd) {A_BadPath A_TreeError : Addr} (XC_BadPath : XCls K mg "BadPath" A_BadPath) (XO_TreeError : OBase K mg "TreeError" A_TreeError) (XF : PySem.W.findIn K (.ref A_BadPath) "path" = some none) : FnOk P w K mg base CX0 1 f fd ["self", "path"] (sp_exc1 "path" A_BadPath) := by
  refine F.ok sc_BadPath_init (fun vs H Q E h => ?_) (fun cdv A outer s H vs Q E hr h => ⟨_, pss_cons (ps_expr (pe_oinit (by rfl) XO_TreeError (pa_cons (pv 0) (pa_cons pe_str pa_nil)))) (pss_one (ps_ost (pv 0) (pv 1))), ?_⟩)
  · obtain ⟨x, v, rfl, _⟩ := h
    rfl
  · obtain ⟨x, v, rfl, hx, k⟩ := h
    refine ⟨_, rfl, x, A_BadPath, _, rfl, by decide, XC_BadPath.ox, hx, ?_⟩
    exact ⟨_, rfl, _, rfl, x, A_BadPath, rfl, XC_BadPath.ox, XF, .inl ⟨hx, fun dx h1 h2 => k dx h1 h2⟩⟩

abbrev s_is_of : Stmt := topS 13
abbrev N_is_of : List Str := ["thing", "signs", "sign"]
theorem sc_is_of : FnScope N_is_of ["thing", "signs"] (defScope s_is_of) := ⟨rfl, rfl, rfl, by decide +kernel, rfl, by decide +kernel, by decide +kernel⟩
def sp_is_of (K : PySem.W.Frag) : Sp := fun vs H Q _ => ∃ v d z, vs = [v, .str z] ∧ Dt K H v d ∧ smallD d = true ∧ ∀ H', Same H H' → Q (.bl (isOf z d)) H'
theorem all_bl (bs : List Bool) : ((bs.all id) : Bool) = bs.all id := rfl
theorem ok_is_of {f : Addr} {fd : FuncData} (F : Fun K "is_of" "is_of" s_is_of f fd) (B : Bt mg) {tk_MOST_SIGNS : Tok} (g_MOST_SIGNS : mg "MOST_SIGNS" = some (.int 8 tk_MOST_SIGNS)) : GnOk P w K mg base CX0 1 f fd ["thing", "signs"] (sp_is_of K) := by
  refine gn_fun F sc_is_of (fun vs H Q E h => ?_) (fun cdv A outer s H vs Q E hr h => ?_)
  · obtain ⟨v, d, z, rfl, _⟩ := h
    rfl
  · obtain ⟨v, d, z, rfl, hd, hsm, k⟩ := h
    refine ⟨_, (pss_cons (ps_if (PW.pt (pw_or (pt_not (pt_val (pe_callB (call_isiK K) (by rfl) B.isinstance (by decide +kernel) (pa_cons (pv 0) (pa_cons (pe_bltn (v := .ty "str") (by rfl) B.str (by decide +kernel) rfl) pa_nil))))) (pw_or1 (pt_not (pt_chain op_le op_le pe_int (pe_callB call_len_str (by rfl) B.len (by decide +kernel) (pa_cons (pv 0) pa_nil)) (pe_glob (by rfl) g_MOST_SIGNS (rel_i _ _)))))))
      (pss_one (ps_ret pe_bl))
      pss_nil)
    (pss_one (ps_ret (pe_callB (cr_allK K rfl) (by rfl) B.all (by decide +kernel) (pa_cons (pe_lc (own := [("sign", 2)]) (g := gName 2) (tt := tYes) (by rfl) sc_is_of.nd (pi_str (pv 0)) (blkOk_by (N := N_is_of) (sc := defScope s_is_of) (by decide +kernel)) (fun _ _ _ _ _ => pg_name (i := 2) sc_is_of.nd rfl (Or.inl rfl)) (fun _ _ _ _ _ => pts_nil) (fun _ _ _ _ _ => (pe_cmpR op_in_sign (pv 2) (pv 1) (by rfl)))) pa_nil))))), ?_⟩
    obtain ⟨t, ht, _, _, h3, _⟩ := ty_of hd
    refine ⟨_, rfl, _, _, t, _, _, rfl, .ty _, ht, h3, _, rfl, ?_⟩
    cases hd with
    | str x =>
      refine iteF ?_
      have hx5 := small_str hsm
      refine ⟨_, rfl, x, rfl, sz_of (by omega), _, _, rfl, rfl, _, rfl, ?_⟩
      by_cases c1 : (1 : Int) ≤ (x.length : Int)
      · refine iteT' (decide_eq_true c1) ?_
        refine ⟨_, _, rfl, rfl, _, rfl, ?_⟩
        by_cases c2 : (x.length : Int) ≤ 8
        · refine iteF' (by rw [decide_eq_true c2]; rfl) ?_
          refine ⟨_, rfl, x, rfl, fun D hD => ?_⟩
          have hxl : x.cps.size = x.length := rfl
          refine lc_it (walk_str (z := x)) (fun i H1 => H1 D = some (.lst (((x.cps.toList.take i).map fun c => decide (c ∈ z.cps.toList)).map V.bl)) ∧ Same H H1) ⟨upd_same, Same.new hD⟩ (fun _ _ _ _ => trivial) ?_ ?_
          · rintro i y H0 H1 hi ⟨h1, s1⟩ ⟨rfl, c, hc, rfl⟩
            refine ⟨rfl, ?_⟩
            have hc' : x.cps.toList[i]? = some c := by rw [Array.getElem?_toList]; exact hc
            refine ⟨_, rfl, _, rfl, c, z, rfl, rfl, _, h1, sz_lt (by rw [List.length_map, List.length_map, List.length_take]; omega), ?_, Same.newer s1 hD⟩
            rw [upd_same, take_snoc hc', List.map_append, List.map_append]
            rfl
          · rintro H1 ⟨h1, s1⟩
            rw [List.take_of_length_le (by simp)] at h1
            refine ⟨D, _, rfl, SqL.of h1, ?_⟩
            have e : isOf z (.str x) = ((x.cps.toList.map fun c => decide (c ∈ z.cps.toList)).all id) := by
              show (decide (1 ≤ x.length) && decide (x.length ≤ 8) && _) = _
              rw [decide_eq_true (by omega : 1 ≤ x.length), decide_eq_true (by omega : x.length ≤ 8), List.all_map]
              rfl
            rw [← e]
            exact k _ s1
        · refine iteT' (by rw [decide_eq_false c2]; rfl) ?_
          have e : isOf z (.str x) = false := by
            show (decide (1 ≤ x.length) && decide (x.length ≤ 8) && _) = _
            rw [decide_eq_false (by omega : ¬ x.length ≤ 8), Bool.and_false, Bool.false_and]
          have k' := k _ (Same.refl H)
          rw [e] at k'
          exact k'
      · refine iteF' (decide_eq_false c1) ⟨_, rfl, ?_⟩
        refine iteT ?_
        have e : isOf z (.str x) = false := by
          show (decide (1 ≤ x.length) && decide (x.length ≤ 8) && _) = _
          rw [decide_eq_false (by omega : ¬ 1 ≤ x.length), Bool.false_and, Bool.false_and]
        have k' := k _ (Same.refl H)
        rw [e] at k'
        exact k'
    | _ => exact iteT (k _ (Same.refl H))
abbrev s_is_name : Stmt := topS 14
abbrev N_is_name : List Str := ["thing"]
theorem sc_is_name : FnScope N_is_name ["thing"] (defScope s_is_name) := ⟨rfl, rfl, rfl, by decide +kernel, rfl, by decide +kernel, by decide +kernel⟩
def sp_is_name (K : PySem.W.Frag) : Sp := fun vs H Q _ => ∃ v d, vs = [v] ∧ Dt K H v d ∧ smallD d = true ∧ ∀ H', Same H H' → Q (.bl (isOf lettersS d)) H'
theorem ok_is_name {f : Addr} {fd : FuncData} (F : Fun K "is_name" "is_name" s_is_name f fd) (B : Bt mg) (C_is_of : Cal P w K mg base CX0 "is_of" 1 ["thing", "signs"] (sp_is_of K)) {tk_LETTERS : Tok} (g_LETTERS : mg "LETTERS" = some (.str "abcdefghijklmnopqrstuvwxyz" tk_LETTERS)) : GnOk P w K mg base CX0 2 f fd ["thing"] (sp_is_name K) := by
  refine gn_fun F sc_is_name (fun vs H Q E h => ?_) (fun cdv A outer s H vs Q E hr h => ?_)
  · obtain ⟨v, d, rfl, _⟩ := h
    rfl
  · obtain ⟨v, d, rfl, hd, hsm, k⟩ := h
    refine ⟨_, (pss_one (ps_ret (pe_cal C_is_of (hr.mono (by decide)) (by rfl) pass0 (pa_cons (pv 0) (pa_cons (pe_glob (by rfl) g_LETTERS (rel_s _ _)) pa_nil))))), ?_⟩
    exact ⟨_, rfl, v, d, lettersS, rfl, hd, hsm, k⟩
abbrev s_names_of : Stmt := topS 18
abbrev N_names_of : List Str := ["path", "first", "names", "name"]
theorem sc_names_of : FnScope N_names_of ["path"] (defScope s_names_of) := ⟨rfl, rfl, rfl, by decide +kernel, rfl, by decide +kernel, by decide +kernel⟩
/-- what a text's names are, or none -/
def pathNames (z : Str) : Option (List Str) :=
  if z = "/" then some [] else match Txt.split z "/" with
  | [] => none
  | f :: r => if f = "" ∧ 1 ≤ r.length ∧ r.length ≤ 8 ∧ (r.all fun t => isOf lettersS (.str t)) = true then some r else none
def sp_names_of (K : PySem.W.Frag) (C : Addr) : Sp := fun vs H Q E => ∃ v, vs = [v] ∧
  ((∃ z, v = .str z ∧ z.length ≤ 4000 ∧ (∀ ns, pathNames z = some ns → ∀ l H', Same H H' → H l = none → H' l = some (.lst (ns.map V.str)) → Q (.ref l) H') ∧
      (pathNames z = none → ∀ d H', Same H H' → H d = none → H' d = some (.xd [("path", v)]) → E (.ref C) (some d) H')) ∨
    (∃ t, TyX K H v t ∧ PySem.W.kitOne K t (.type "str") = some false ∧ ∀ d H', Same H H' → H d = none → H' d = some (.xd [("path", v)]) → E (.ref C) (some d) H'))
theorem path_bd {z : Str} {ns : List Str} (h : pathNames z = some ns) : ns.length ≤ 8 ∧ ∀ t ∈ ns, t.length ≤ 8 := by
  unfold pathNames at h
  split at h
  · cases h
    exact ⟨by simp, fun t ht => nomatch ht⟩
  · split at h
    · cases h
    · split at h
      · rename_i c
        cases h
        refine ⟨c.2.2.1, fun t ht => ?_⟩
        have q := List.all_eq_true.mp c.2.2.2 t ht
        have q' : (decide (1 ≤ t.length) && decide (t.length ≤ 8) && t.cps.toList.all fun s => decide (s ∈ lettersS.cps.toList)) = true := q
        exact of_decide_eq_true (Bool.and_eq_true_iff.mp (Bool.and_eq_true_iff.mp q').1).2
      · cases h
theorem ok_names_of {f : Addr} {fd : FuncData} (F : Fun K "names_of" "names_of" s_names_of f fd) (B : Bt mg) {A_BadPath : Addr} (XI_BadPath : ExI P w K mg base "BadPath" A_BadPath ["self", "path"] (sp_exc1 "path" A_BadPath)) (C_is_name : Cal P w K mg base CX0 "is_name" 2 ["thing"] (sp_is_name K)) {tk_STROKE : Tok} (g_STROKE : mg "STROKE" = some (.str "/" tk_STROKE)) {tk_MOST_DEEP : Tok} (g_MOST_DEEP : mg "MOST_DEEP" = some (.int 8 tk_MOST_DEEP)) : GnOk P w K mg base (L2.CX P w) 3 f fd ["path"] (sp_names_of K A_BadPath) := by
  refine gn_funX F sc_names_of (fun vs H Q E h => ?_) (fun cdv A outer s H vs Q E hr h => ?_)
  · obtain ⟨v, rfl, _⟩ := h
    rfl
  · obtain ⟨v, rfl, h⟩ := h
    refine ⟨_, (pss_cons (ps_if (pt_not (pt_val (pe_callB (call_isiK K) (by rfl) B.isinstance (by decide +kernel) (pa_cons (pv 0) (pa_cons (pe_bltn (v := .ty "str") (by rfl) B.str (by decide +kernel) rfl) pa_nil)))))
      (pss_one (ps_raise rfl (takes_of rfl rfl rfl rfl) (pmk_ex1 (k := 0) XI_BadPath (hr.mono (by decide)) (by rfl) (pa_cons (pv 0) pa_nil))))
      pss_nil)
    (pss_cons (ps_if (pt_cmpR op_eq (pv 0) (pe_glob (by rfl) g_STROKE (rel_s _ _)) (nomark _))
      (pss_one (ps_ret (pe_lst pa_nil)))
      pss_nil)
    (pss_cons (ps_asg (pe_split (pv 0) (pe_glob (by rfl) g_STROKE (rel_s _ _))) (pg_tupStar (n := 2) (i := 1) (by rfl) (pgs_cons (pg_name (i := 1) sc_names_of.nd rfl (Or.inl rfl)) (pgs_star (pg_name (i := 2) sc_names_of.nd rfl (Or.inl rfl)) pgs_nil))))
    (pss_cons (ps_if (PW.pt (pw_or (pt_cmpR op_ne (pv 1) pe_str (nomark _)) (pw_or (pt_not (pt_chain op_le op_le pe_int (pe_callB (call_lenK K) (by rfl) B.len (by decide +kernel) (pa_cons (pv 2) pa_nil)) (pe_glob (by rfl) g_MOST_DEEP (rel_i _ _)))) (pw_or1 (pt_not (pt_val (pe_callB (cr_allK K rfl) (by rfl) B.all (by decide +kernel) (pa_cons (pe_lc (own := [("name", 3)]) (g := gName 3) (tt := tYes) (by rfl) sc_names_of.nd (pi_listK K (pv 2)) (blkOk_by (N := N_names_of) (sc := defScope s_names_of) (by decide +kernel)) (fun _ _ _ _ _ => pg_name (i := 3) sc_names_of.nd rfl (Or.inl rfl)) (fun _ _ _ _ _ => pts_nil) (fun _ _ _ _ _ => (pe_cal C_is_name (hr.mono (by decide)) (by rfl) pass0 (pa_cons (pv 3) pa_nil)))) pa_nil))))))))
      (pss_one (ps_raise rfl (takes_of rfl rfl rfl rfl) (pmk_ex1 (k := 0) XI_BadPath (hr.mono (by decide)) (by rfl) (pa_cons (pv 0) pa_nil))))
      pss_nil)
    (pss_one (ps_ret (pv 2))))))), ?_⟩
    rcases h with ⟨z, rfl, hz, hok, hbad⟩ | ⟨t, ht, hk, hbad⟩
    · refine ⟨_, rfl, _, _, _, _, _, rfl, .ty _, .base (.str z), kSS, _, rfl, ?_⟩
      refine iteF ?_
      refine ⟨_, rfl, rfl, _, rfl, ?_⟩
      refine ite2 (fun c => ?_) (fun c => ?_)
      · have c' : z = "/" := by
          have := of_decide_eq_true c
          exact V.str.inj this
        refine ⟨by decide, fun l hl => hok [] ?_ l _ (Same.new hl) hl upd_same⟩
        rw [c']
        unfold pathNames
        rw [if_pos rfl]
      · have c' : z ≠ "/" := fun e => c (by rw [e]; exact decide_eq_true rfl)
        obtain ⟨sl, se⟩ := split_len z
        refine ⟨_, rfl, ⟨z, rfl⟩, z, _, rfl, rfl, rfl, sz_of (by omega), fun p hp => ?_⟩
        obtain ⟨f, r, hfr⟩ : ∃ f r, Txt.split z "/" = f :: r := split_ne z
        rw [hfr] at sl se
        have hrl : r.length ≤ 4000 := by
          have : (f :: r).length = r.length + 1 := rfl
          omega
        have hrs : ∀ t ∈ r, t.length ≤ 4000 := fun t ht => Nat.le_trans (se t (List.mem_cons_of_mem _ ht)) hz
        have hpn : pathNames z = if f = "" ∧ 1 ≤ r.length ∧ r.length ≤ 8 ∧ (r.all fun t => isOf lettersS (.str t)) = true then some r else none := by
          unfold pathNames
          rw [if_neg c', hfr]
        refine ⟨p, (f :: r).map V.str, rfl, .inl (by rw [hfr]; exact SqL.of upd_same), by rw [List.length_map]; show 2 ≤ r.length + 1 + 1; omega, by rw [List.length_map]; show r.length + 1 ≤ 16384; omega, fun D hD => ?_⟩
        rw [hfr] at hD ⊢
        obtain ⟨H2, eH2⟩ : ∃ H2, H2 = upd (upd H p (.lst ((f :: r).map V.str))) D (.lst (r.map V.str)) := ⟨_, rfl⟩
        have s2 : Same H H2 := by rw [eH2]; exact Same.newer (Same.new hp) (ne_none2 hD)
        have hl2 : H2 D = some (.lst (r.map V.str)) := by rw [eH2]; exact upd_same
        have hDn : H D = none := ne_none2 hD
        have e1 : List.take ((List.map V.str (f :: r)).length + 1 - 2) (List.drop 1 (List.map V.str (f :: r))) = r.map V.str := by
          exact List.take_of_length_le (by simp)
        have e2 : List.take 1 (List.map V.str (f :: r)) ++ [V.ref D] ++ List.drop ((List.map V.str (f :: r)).length + 1 - 2) (List.drop 1 (List.map V.str (f :: r))) = [.str f, .ref D] := by
          simp
        rw [e1, e2, ← eH2]
        have bad : ∀ H3, Same H2 H3 → pathNames z = none → tMkO A_BadPath (sp_exc1 (Str.ofString "path") A_BadPath) [] (tCons (tVar 0) tNil) [some (.str z), some (.str f), some (.ref D), none] H3 fun cls d H' => E cls d H' := fun H3 s3 hn => ⟨_, rfl, exc1_way ⟨_, rfl, fun d H4 s n h => hbad hn d H4 ((s2.trans s3).trans s) (same_none (s2.trans s3) n) h⟩⟩
        refine ⟨_, _, rfl, _, _, rfl, rfl, ?_⟩
        refine ⟨_, rfl, rfl, _, rfl, ?_⟩
        by_cases cf : f = ""
        · subst cf
          refine iteF' (by rw [decide_eq_true rfl]; rfl) ?_
          refine ⟨_, rfl, _, r.length, rfl, .inl ⟨_, SqL.of hl2, by simp⟩, _, _, rfl, rfl, _, rfl, ?_⟩
          by_cases c1 : (1 : Int) ≤ (r.length : Int)
          · refine iteT' (decide_eq_true c1) ?_
            refine ⟨_, _, rfl, rfl, _, rfl, ?_⟩
            by_cases c2 : (r.length : Int) ≤ 8
            · refine iteF' (by rw [decide_eq_true c2]; rfl) ?_
              refine ⟨_, rfl, D, rfl, ⟨_, SqL.of hl2⟩, fun G hG => ?_⟩
              refine lc_list (K := K) (a := D) (xs := r.map V.str) (fun i H1 => H1 G = some (.lst (((r.take i).map fun t => isOf lettersS (.str t)).map V.bl)) ∧ Same H2 H1) ⟨upd_same, Same.new hG⟩ (fun _ _ _ ⟨_, s1⟩ => SqL.of (s1 _ _ hl2)) ?_ ?_
              · rintro i x H3 hi ⟨h3, s3⟩
                obtain ⟨t, ht, rfl⟩ : ∃ t, r[i]? = some t ∧ x = V.str t := by
                  rw [List.getElem?_map] at hi
                  obtain ⟨t, ht, e⟩ := Option.map_eq_some_iff.mp hi
                  exact ⟨t, ht, e.symm⟩
                refine ⟨rfl, ?_⟩
                refine ⟨_, rfl, _, _, rfl, .str t, ?_, fun H4 s4 => ⟨_, s4 _ _ h3, sz_lt (by rw [List.length_map, List.length_map, List.length_take]; omega), ?_, Same.newer (s3.trans s4) hG⟩⟩
                · show decide (t.length ≤ 5000) = true
                  exact decide_eq_true (Nat.le_trans (hrs t (List.mem_of_getElem? ht)) (by decide))
                · rw [upd_same, take_snoc ht, List.map_append, List.map_append]
                  rfl
              · rintro H3 ⟨h3, s3⟩
                rw [List.length_map, List.take_length] at h3
                refine ⟨G, _, rfl, SqL.of h3, _, rfl, ?_⟩
                have eall : (r.all fun t => isOf lettersS (.str t)) = ((r.map fun t => isOf lettersS (.str t)).all id) := by
                  rw [List.all_map]
                  rfl
                by_cases c3 : (r.all fun t => isOf lettersS (.str t)) = true
                · refine iteF' (by rw [← eall, c3]; rfl) ?_
                  refine ⟨_, rfl, hok r (by rw [hpn]; exact if_pos ⟨rfl, by omega, by omega, c3⟩) D H3 (s2.trans s3) hDn (s3 _ _ hl2)⟩
                · refine iteT' (by rw [← eall, Bool.eq_false_iff.mpr c3]; rfl) (bad _ s3 ?_)
                  rw [hpn, if_neg (fun z => c3 z.2.2.2)]
            · refine iteT' (by rw [decide_eq_false c2]; rfl) (iteT (bad _ (Same.refl _) ?_))
              rw [hpn, if_neg (fun z => by omega)]
          · refine iteF' (decide_eq_false c1) ?_
            refine ⟨_, rfl, ?_⟩
            refine iteT (iteT (bad _ (Same.refl _) ?_))
            rw [hpn, if_neg (fun z => by omega)]
        · refine iteT' (by rw [decide_eq_false (fun e => cf (V.str.inj e))]; rfl) (iteT (bad _ (Same.refl _) ?_))
          rw [hpn, if_neg (fun z => cf z.1)]
    · refine ⟨_, rfl, _, _, t, _, _, rfl, .ty _, ht, hk, _, rfl, ?_⟩
      refine iteT ?_
      exact ⟨_, rfl, exc1_way ⟨v, rfl, fun d H2 s n h => hbad d H2 s n h⟩⟩
abbrev s_path_of : Stmt := topS 19
abbrev N_path_of : List Str := ["names"]
theorem sc_path_of : FnScope N_path_of ["names"] (defScope s_path_of) := ⟨rfl, rfl, rfl, by decide +kernel, rfl, by decide +kernel, by decide +kernel⟩
def pathOf (ys : List Str) : Str := ("/" : Str) ++ Txt.join "/" ys
def sp_path_of (K : PySem.W.Frag) : Sp := fun vs H Q _ => ∃ (p : Addr) (ys : List Str), vs = [.ref p] ∧ (SqL K H p (ys.map V.str) ∨ SqT K H p (ys.map V.str)) ∧ (ys.map (·.length)).sum + ys.length ≤ 10000 ∧ Q (.str (pathOf ys)) H
theorem ok_path_of {f : Addr} {fd : FuncData} (F : Fun K "path_of" "path_of" s_path_of f fd) (B : Bt mg) {tk_STROKE : Tok} (g_STROKE : mg "STROKE" = some (.str "/" tk_STROKE)) : GnOk P w K mg base CX0 1 f fd ["names"] (sp_path_of K) := by
  refine gn_fun F sc_path_of (fun vs H Q E h => ?_) (fun cdv A outer s H vs Q E hr h => ?_)
  · obtain ⟨p, ys, rfl, _⟩ := h
    rfl
  · obtain ⟨p, ys, rfl, hs, hl, k⟩ := h
    refine ⟨_, (pss_one (ps_ret (pe_op op_add_str (pe_glob (by rfl) g_STROKE (rel_s _ _)) (pe_join (pe_glob (by rfl) g_STROKE (rel_s _ _)) (pv 0))))), ?_⟩
    refine ⟨⟨_, rfl⟩, _, rfl, _, p, ys, rfl, rfl, hs, ?_, _, _, rfl, rfl, ?_, k⟩
    · show _ + ys.length * 1 ≤ _
      omega
    · have := join_len "/" ys
      have e : (("/" : Str)).length = 1 := rfl
      rw [e] at this ⊢
      rw [sizeLine_eq]
      omega
abbrev s_above : Stmt := topS 20
abbrev N_above : List Str := ["path"]
theorem sc_above : FnScope N_above ["path"] (defScope s_above) := ⟨rfl, rfl, rfl, by decide +kernel, rfl, by decide +kernel, by decide +kernel⟩
def sp_above (K : PySem.W.Frag) (C : Addr) : Sp := fun vs H Q E => ∃ v, vs = [v] ∧
  ((∃ z, v = .str z ∧ z.length ≤ 4000 ∧ (∀ ns, pathNames z = some ns → ∀ H', Same H H' → Q (.str (pathOf ns.dropLast)) H') ∧
      (pathNames z = none → ∀ d H', Same H H' → H d = none → H' d = some (.xd [("path", v)]) → E (.ref C) (some d) H')) ∨
    (∃ t, TyX K H v t ∧ PySem.W.kitOne K t (.type "str") = some false ∧ ∀ d H', Same H H' → H d = none → H' d = some (.xd [("path", v)]) → E (.ref C) (some d) H'))
theorem ok_above {f : Addr} {fd : FuncData} (F : Fun K "above" "above" s_above f fd) (B : Bt mg) (C_path_of : Cal P w K mg base CX0 "path_of" 1 ["names"] (sp_path_of K)) (C_names_of : Cal P w K mg base (L2.CX P w) "names_of" 3 ["path"] (sp_names_of K A_BadPath)) : GnOk P w K mg base (L2.CX P w) 4 f fd ["path"] (sp_above K A_BadPath) := by
  refine gn_funX F sc_above (fun vs H Q E h => ?_) (fun cdv A outer s H vs Q E hr h => ?_)
  · obtain ⟨v, rfl, _⟩ := h
    rfl
  · obtain ⟨v, rfl, h⟩ := h
    refine ⟨_, (pss_one (ps_ret (pe_cal C_path_of (hr.mono (by decide)) (by rfl) pass0 (pa_cons (pe_slice (sl_listK K) (pe_cal C_names_of (hr.mono (by decide)) (by rfl) (passE (takes_of rfl rfl rfl rfl) (fun _ _ _ _ h => h)) (pa_cons (pv 0) pa_nil)) po_none (po_some (pe_un un_neg pe_int))) pa_nil)))), ?_⟩
    refine ⟨_, rfl, v, rfl, ?_⟩
    rcases h with ⟨z, rfl, hz, hok, hbad⟩ | ⟨t, ht, hk, hbad⟩
    · refine .inl ⟨z, rfl, hz, fun ns hn l H1 s1 hl h1 => ?_, hbad⟩
      refine ⟨_, rfl, _, rfl, l, _, rfl, SqL.of h1, fun p hp => ?_⟩
      have e : cutV (ns.map V.str) none (some (-1)) = ns.dropLast.map V.str := by
        unfold cutV
        rw [List.map_dropLast, List.dropLast_eq_take]
        show (List.take (HT.sIx (ns.map V.str).length (ns.map V.str).length (some (-1)) - 0) (List.drop 0 (ns.map V.str))) = _
        rw [List.drop_zero, Nat.sub_zero]
        refine congrFun (congrArg List.take ?_) _
        have e3 : HT.sIx (ns.map V.str).length (ns.map V.str).length (some (-1)) = (-1 + ((ns.map V.str).length : Int)).toNat := by
          show (if (-1 : Int) < 0 then (-1 + ((ns.map V.str).length : Int)).toNat else min (-1 : Int).toNat (ns.map V.str).length) = _
          exact if_pos (by decide)
        rw [e3]
        omega
      obtain ⟨b1, b2⟩ := path_bd hn
      refine ⟨p, ns.dropLast, rfl, .inl ?_, ?_, hok ns hn _ (Same.newer s1 ?_)⟩
      · have e2 : upd H1 p (.lst (cutV (ns.map V.str) none (some (-1)))) p = some (.lst (ns.dropLast.map V.str)) := by rw [upd_same, e]
        exact SqL.of e2
      · have q1 : ns.dropLast.length ≤ ns.length := by rw [List.length_dropLast]; omega
        have q2 := sum_le (b := 8) (l := ns.dropLast) fun t ht => b2 t (List.dropLast_subset _ ht)
        omega
      · exact same_none s1 hp
    · exact .inr ⟨t, ht, hk, hbad⟩
abbrev s_l_pot : Stmt := topS 22
abbrev N_l_pot : List Str := ["script", "k", "cell"]
theorem sc_l_pot : FnScope N_l_pot ["script", "k"] (defScope s_l_pot) := ⟨rfl, rfl, rfl, by decide +kernel, rfl, by decide +kernel, by decide +kernel⟩
def sp_l_pot_k31 (K : PySem.W.Frag) : Sp := fun vs H Q _ => ∃ (a : Addr) (ns : List Int) (i : Nat), vs = [.ref a, .int i] ∧ SqL K H a (ns.map V.int) ∧ i ≤ 100 ∧
  ∀ (p : Addr) (H' : Hp) (A B : Int), Same H H' → H p = none → Pot H' p A B → Q (.ref p) H'
theorem ok_l_pot {f : Addr} {fd : FuncData} (F : Fun K "_law_pot" "_law_pot" s_l_pot f fd) (B : Bt mg) : GnOk P w K mg base CX0 1 f fd ["script", "k"] (sp_l_pot_k31 K) := by
  refine gn_fun F sc_l_pot (fun vs H Q E h => ?_) (fun cdv A outer s H vs Q E hr h => ?_)
  · obtain ⟨a, ns, i, rfl, _⟩ := h
    rfl
  · obtain ⟨a, ns, i, rfl, hS, hi, k⟩ := h
    refine ⟨_, (pss_cons (ps_set (i := 2) sc_l_pot.nd rfl (Or.inl rfl) (pe_ifExp (pt_cmpR op_lt (pv 1) (pe_callB (call_lenK K) (by rfl) B.len (by decide +kernel) (pa_cons (pv 0) pa_nil)) (nomark _)) (pe_ix (ix_listK K) (pv 0) (pv 1) (fun _ _ => rfl)) pe_int))
    (pss_one (ps_ret (pe_lst (pa_cons (pe_callB (call_max2 rfl) (by rfl) B.max (by decide +kernel) (pa_cons pe_int (pa_cons (pe_op op_sub (pv 2) (pe_op op_pow pe_int pe_int)) pa_nil))) (pa_cons (pe_op op_mod (pe_op op_add (pe_op op_add (pe_op op_mul (pe_op op_mod (pv 2) pe_int) pe_int) (pe_op op_mul pe_int (pv 1))) pe_int) pe_int) pa_nil)))))), ?_⟩
    refine ⟨_, rfl, _, rfl, _, ns.length, rfl, .inl ⟨_, hS, by simp⟩, _, _, rfl, rfl, _, rfl, ?_⟩
    refine ite2 (fun c => ⟨_, rfl, _, rfl, a, _, _, _, rfl, rfl, hS, atI_nat (v := V.int (ns[i]'(by have := of_decide_eq_true c; omega))) (by have := of_decide_eq_true c; simp [show i < ns.length by omega]), ?_⟩) (fun c => ?_)
    all_goals
      refine ⟨_, rfl, _, _, rfl, rfl, ⟨by decide, by decide, by decide⟩, _, _, rfl, rfl, _, _, rfl, ?_⟩
      refine ⟨_, rfl, _, _, rfl, rfl, (by show (0:Int) < 2147483629; decide), _, _, rfl, rfl, .inr (by decide), _, rfl, _, _, rfl, rfl, .inl (by decide), _, _, rfl, rfl, _, _, rfl, rfl, _, _, rfl, rfl, (by show (0:Int) < 2147483629; decide), (by show 2 ≤ sizeLine; decide), fun p hp => ?_⟩
      refine k p _ _ _ (Same.new hp) hp ⟨upd_same, ?_⟩
      unfold PotOk
      omega
abbrev s_l_take : Stmt := topS 23
abbrev N_l_take : List Str := ["pot", "many", "digit"]
theorem sc_l_take : FnScope N_l_take ["pot", "many"] (defScope s_l_take) := ⟨rfl, rfl, rfl, by decide +kernel, rfl, by decide +kernel, by decide +kernel⟩
theorem ok_l_take {f : Addr} {fd : FuncData} (F : Fun K "_law_take" "_law_take" s_l_take f fd) (B : Bt mg) : GnOk P w K mg base CX0 1 f fd ["pot", "many"] sp_l_tk := by
  refine gn_fun F sc_l_take (fun vs H Q E h => ?_) (fun cdv A outer s H vs Q E hr h => ?_)
  · obtain ⟨p, a, b, m, rfl, _⟩ := h
    rfl
  · obtain ⟨p, a, b, m, rfl, ⟨hp, hb⟩, hm, hm2, k⟩ := h
    refine ⟨_, (pss_cons (ps_if (pt_cmpR op_gt (pe_ix (ix_listK K) (pv 0) pe_int (fun _ _ => rfl)) pe_int (nomark _))
      (pss_cons (ps_asg (pe_callB call_divmodW (by rfl) B.divmod (by decide +kernel) (pa_cons (pe_ix (ix_listK K) (pv 0) pe_int (fun _ _ => rfl)) (pa_cons (pv 1) pa_nil))) (pg_tup (by rfl) (pgs_cons (pg_sub (pv 0) pe_int set_list) (pgs_cons (pg_name (i := 2) sc_l_take.nd rfl (Or.inl rfl)) pgs_nil))))
    (pss_one (ps_ret (pv 2))))
      pss_nil)
    (pss_cons (ps_asg (pe_op op_mod (pe_op op_add (pe_op op_mul (pe_ix (ix_listK K) (pv 0) pe_int (fun _ _ => rfl)) pe_int) pe_int) pe_int) (pg_sub (pv 0) pe_int set_list))
    (pss_one (ps_ret (pe_op op_mod (pe_op op_fdiv (pe_op op_mod (pe_op op_mul (pe_ix (ix_listK K) (pv 0) pe_int (fun _ _ => rfl)) (pe_ix (ix_listK K) (pv 0) pe_int (fun _ _ => rfl))) pe_int) pe_int) (pv 1)))))), ?_⟩
    refine ⟨_, rfl, p, _, _, _, rfl, rfl, SqL.of hp, rfl, _, _, rfl, rfl, _, rfl, ?_⟩
    have hd : CDivP a m := ⟨hm, PyProof.noPylong_of_log2 hm2⟩
    refine ite2 (fun c => ?_) (fun c => ?_)
    · have c' : 0 < a := of_decide_eq_true c
      refine ⟨_, rfl, p, _, _, _, rfl, rfl, SqL.of hp, rfl, _, rfl, _, _, rfl, hd, fun t ht => ?_⟩
      have npt : p ≠ t := ne_of_none hp ht
      refine ⟨t, _, rfl, SqT.of upd_same, rfl, ?_⟩
      refine ⟨_, _, rfl, _, rfl, p, _, _, _, rfl, rfl, (by rw [upd_ne npt]; exact hp), rfl, ?_⟩
      refine ⟨_, _, rfl, rfl, _, rfl, ?_⟩
      exact k (a % m) (a / m) b _ (SameBut.of (Same.new ht)).upd ⟨upd_same, hb⟩ (Int.emod_nonneg _ (by omega)) (Int.emod_lt_of_pos _ hm)
    · refine ⟨_, rfl, p, _, _, _, rfl, rfl, SqL.of hp, rfl, _, _, rfl, rfl, .inr (by decide), _, _, rfl, rfl, _, _, rfl, rfl, (by show (0:Int) < 2147483587; decide), ?_⟩
      refine ⟨_, rfl, p, _, _, _, rfl, rfl, hp, rfl, ?_⟩
      refine ⟨_, rfl, p, _, _, _, rfl, rfl, SqL.of upd_same, rfl, _, rfl, p, _, _, _, rfl, rfl, SqL.of upd_same, rfl, _, _, rfl, rfl, .inr ?_, ?_⟩
      · show -(2 ^ 64) < (b * 39373 + 8191) % 2147483587 ∧ (b * 39373 + 8191) % 2147483587 < 2 ^ 64
        omega
      refine ⟨_, _, rfl, rfl, (by show (0:Int) < 2147483543; decide), _, _, rfl, rfl, ⟨by decide, by decide⟩, _, rfl, _, _, rfl, rfl, hm, ?_⟩
      refine k _ a ((b * 39373 + 8191) % 2147483587) (upd H p (.lst [.int a, .int ((b * 39373 + 8191) % 2147483587)])) (SameBut.of (Same.refl H)).upd ⟨upd_same, ?_⟩ (Int.emod_nonneg _ (by omega)) (Int.emod_lt_of_pos _ hm)
      unfold PotOk
      omega
abbrev s_l_name : Stmt := topS 24
abbrev N_l_name : List Str := ["pot", "some", "letters", "way", "name", "at", "size", "k"]
theorem sc_l_name : FnScope N_l_name ["pot", "some"] (defScope s_l_name) := ⟨rfl, rfl, rfl, by decide +kernel, rfl, by decide +kernel, by decide +kernel⟩
/-- a text of at most n signs, all below 128 -/
def TxO (n : Nat) (z : Str) : Prop := z.length ≤ n ∧ ∀ c ∈ z.cps.toList, c < 128
def NmO (z : Str) : Prop := 1 ≤ z.length ∧ TxO 8 z
theorem TxO.mono {n m : Nat} {z : Str} (h : TxO n z) (k : n ≤ m) : TxO m z := ⟨Nat.le_trans h.1 k, h.2⟩
theorem TxO.app {n m : Nat} {a b : Str} (h : TxO n a) (k : TxO m b) : TxO (n + m) (a ++ b) := by
  refine ⟨by rw [len_append]; exact Nat.add_le_add h.1 k.1, fun c hc => ?_⟩
  have e : (a ++ b).cps.toList = a.cps.toList ++ b.cps.toList := TL.tl_append a b
  rw [e] at hc
  exact (List.mem_append.mp hc).elim (h.2 c) (k.2 c)
theorem TxO.cut {n : Nat} {a : Str} {lo hi : Option Int} (h : TxO n a) : TxO n (cutS a lo hi) := by
  have e : (cutS a lo hi).cps.toList = (a.cps.toList.drop (HT.sIx a.length 0 lo)).take (HT.sIx a.length a.length hi - HT.sIx a.length 0 lo) := rfl
  refine ⟨?_, fun c hc => h.2 c (List.mem_of_mem_drop (List.mem_of_mem_take (e ▸ hc)))⟩
  rw [← len_toList, e, List.length_take, List.length_drop, len_toList]
  have := h.1
  omega
theorem TxO.sign {y : Str} {c : Nat} (hy : y.cps.toList.all (· < 128) = true) (h : c ∈ y.cps.toList) : TxO 1 (chS c) := by
  refine ⟨Nat.le_refl _, fun d hd => ?_⟩
  have e : d = c := List.mem_singleton.mp hd
  rw [e]
  exact of_decide_eq_true (List.all_eq_true.mp hy c h)
/-- a text, the sign at i otherwise -/
theorem nm_turn {z : Str} {c : Nat} {i : Int} (h : NmO z) (h0 : 0 ≤ i) (h1 : i < (z.length : Int)) (hc : TxO 1 (chS c)) : NmO (cutS z none (some i) ++ chS c ++ cutS z (some (i + 1)) none) := by
  obtain ⟨h2, h3⟩ := h
  have l1 : (cutS z none (some i)).length = i.toNat := by
    rw [← len_toList]
    show ((z.cps.toList.drop 0).take (HT.sIx z.length z.length (some i) - 0)).length = _
    have e : HT.sIx z.length z.length (some i) = i.toNat := by
      show (if i < 0 then _ else min i.toNat z.length) = _
      rw [if_neg (by omega)]
      omega
    rw [e, List.drop_zero, List.length_take, len_toList]
    omega
  have l2 : (cutS z (some (i + 1)) none).length = z.length - (i.toNat + 1) := by
    rw [← len_toList]
    show ((z.cps.toList.drop (HT.sIx z.length 0 (some (i + 1)))).take (z.length - HT.sIx z.length 0 (some (i + 1)))).length = _
    have e : HT.sIx z.length 0 (some (i + 1)) = i.toNat + 1 := by
      show (if i + 1 < 0 then _ else min (i + 1).toNat z.length) = _
      rw [if_neg (by omega)]
      omega
    rw [e, List.length_take, List.length_drop, len_toList]
    omega
  have l3 : (chS c).length = 1 := rfl
  have q := (((TxO.cut (lo := none) (hi := some i) h3).app hc).app (TxO.cut (lo := some (i + 1)) (hi := none) h3)).2
  exact ⟨by rw [len_append, len_append]; omega, by rw [len_append, len_append]; have := h3.1; omega, q⟩
def sp_l_name_k31 (K : PySem.W.Frag) : Sp := fun vs H Q _ => ∃ (p : Addr) (a b : Int) (u : Addr) (us : List Str), vs = [.ref p, .ref u] ∧ Pot H p a b ∧ H u = some (.lst (us.map V.str)) ∧ u ≠ p ∧ us.length ≤ 20 ∧ (∀ z ∈ us, NmO z) ∧
  ∀ (z : Str) (H' : Hp) (a' b' : Int), SameBut p H H' → Pot H' p a' b' → NmO z → Q (.str z) H'
theorem ok_l_name {f : Addr} {fd : FuncData} (F : Fun K "_law_name" "_law_name" s_l_name f fd) (B : Bt mg) (C_law_take : Cal P w K mg base CX0 "_law_take" 1 ["pot", "many"] sp_l_tk) : GnOk P w K mg base CX0 2 f fd ["pot", "some"] (sp_l_name_k31 K) := by
  refine gn_fun F sc_l_name (fun vs H Q E h => ?_) (fun cdv A outer s H vs Q E hr h => ?_)
  · obtain ⟨p, a, b, u, us, rfl, _⟩ := h
    rfl
  · obtain ⟨p, a, b, u, us, rfl, hp, hu, nup, hul, hun, k⟩ := h
    refine ⟨_, (pss_cons (ps_set (i := 2) sc_l_name.nd rfl (Or.inr rfl) pe_str)
    (pss_cons (ps_set (i := 3) sc_l_name.nd rfl (Or.inl rfl) (pe_cal C_law_take (hr.mono (by decide)) (by rfl) pass0 (pa_cons (pv 0) (pa_cons pe_int pa_nil))))
    (pss_cons (ps_if (PW.pt (pw_and (pt_cmpR (op_neDK K hr.units) (pv 1) (pe_lst pa_nil) (nomark _)) (pw_and1 (pt_cmpR op_gt (pv 3) pe_int (nomark _)))))
      (pss_cons (ps_set (i := 4) sc_l_name.nd rfl (Or.inl rfl) (pe_ix (ix_listK K) (pv 1) (pe_cal C_law_take (hr.mono (by decide)) (by rfl) pass0 (pa_cons (pv 0) (pa_cons (pe_callB (call_lenK K) (by rfl) B.len (by decide +kernel) (pa_cons (pv 1) pa_nil)) pa_nil))) (fun _ _ => rfl)))
    (pss_cons (ps_set (i := 5) sc_l_name.nd rfl (Or.inl rfl) (pe_cal C_law_take (hr.mono (by decide)) (by rfl) pass0 (pa_cons (pv 0) (pa_cons (pe_callB call_len_str (by rfl) B.len (by decide +kernel) (pa_cons (pv 4) pa_nil)) pa_nil))))
    (pss_one (ps_ret (pe_ix (ix_listK K) (pe_lst (pa_cons (pv 4) (pa_cons (pv 4) (pa_cons (pe_op op_add_str (pe_op op_add_str (pe_slice sl_str (pv 4) po_none (po_some (pv 5))) (pe_ix ix_str (pv 2) (pe_cal C_law_take (hr.mono (by decide)) (by rfl) pass0 (pa_cons (pv 0) (pa_cons pe_int pa_nil))) (fun _ _ => rfl))) (pe_slice sl_str (pv 4) (po_some (pe_op op_add (pv 5) pe_int)) po_none)) pa_nil)))) (pe_op op_sub (pv 3) pe_int) (fun _ _ => rfl))))))
      pss_nil)
    (pss_cons (ps_set (i := 6) sc_l_name.nd rfl (Or.inl rfl) (pe_ix (ix_listK K) (pe_lst (pa_cons pe_int (pa_cons pe_int (pa_cons pe_int (pa_cons (pe_op op_add pe_int (pe_cal C_law_take (hr.mono (by decide)) (by rfl) pass0 (pa_cons (pv 0) (pa_cons pe_int pa_nil)))) pa_nil))))) (pe_cal C_law_take (hr.mono (by decide)) (by rfl) pass0 (pa_cons (pv 0) (pa_cons pe_int pa_nil))) (fun _ _ => rfl)))
    (pss_one (ps_ret (pe_join pe_str (pe_lc (own := [("k", 7)]) (g := gName 7) (tt := tYes) (by rfl) sc_l_name.nd (pi_range1 (by rfl) B.range (pa_cons (pv 6) pa_nil)) (blkOk_by (N := N_l_name) (sc := defScope s_l_name) (by decide +kernel)) (fun _ _ _ _ _ => pg_name (i := 7) sc_l_name.nd rfl (Or.inl rfl)) (fun _ _ _ _ _ => pts_nil) (fun _ _ _ _ _ => (pe_ix ix_str (pv 2) (pe_cal C_law_take (hr.mono (by decide)) (by rfl) pass0 (pa_cons (pv 0) (pa_cons pe_int pa_nil))) (fun _ _ => rfl))))))))))), ?_⟩
    have nm4 : ∀ {n : Int} {lt : Str}, lt = "abcdefghijklmnopqrstuvwxyz" → 0 ≤ n → n < 26 → ∃ c, atI lt.cps.toList n = some c ∧ TxO 1 (chS c) := fun {n lt} e h0 h1 => by
      subst e
      obtain ⟨c, hc, hm⟩ := atI_mem (xs := (Str.ofString "abcdefghijklmnopqrstuvwxyz").cps.toList) (i := n) h0 (by rw [show (Str.ofString "abcdefghijklmnopqrstuvwxyz").cps.toList.length = 26 by decide +kernel]; exact h1)
      exact ⟨c, hc, TxO.sign (by decide +kernel) hm⟩
    refine ⟨_, rfl, p, a, b, 4, rfl, hp, by decide, by decide, fun way a1 b1 H1 s1 p1 w0 w1 => ?_⟩
    have hu1 := s1.at hu nup
    have hsu : ∀ d ∈ us.map PyData.str, Shp 0 d := fun d hd => by
      obtain ⟨t, ht, rfl⟩ := List.mem_map.mp hd
      exact Shp.str fun c hc => Nat.lt_trans ((hun t ht).2.2 c hc) (by decide)
    refine ⟨_, rfl, by decide, fun l hl => ?_⟩
    have nlp : l ≠ p := p1.ne hl
    have hu2 : upd H1 l (.lst []) u = some (.lst (us.map V.str)) := by rw [upd_ne (ne_of_none hu1 hl)]; exact hu1
    refine ⟨.list (us.map PyData.str), .list [], .lst (SqL.of hu2) (DtAll.strs us).dp, .lst (SqL.of upd_same) .nil, (Shp.list hsu).shaped (by decide), by decide +kernel, _, rfl, ?_⟩
    have s2 : SameBut p H H1 := s1
    have hu3 := hu1
    rcases Classical.em (us = [] ∨ ¬ 0 < way) with cc | cc
    rotate_left
    · have c1 : us ≠ [] := fun e => cc (.inl e)
      have c2 : 0 < way := Classical.byContradiction fun e => cc (.inr e)
      have ul : 0 < us.length := List.length_pos_iff.mpr c1
      refine iteT' (by cases us with | nil => exact absurd rfl c1 | cons _ _ => rfl) ?_
      refine ⟨_, rfl, _, _, rfl, rfl, _, rfl, ?_⟩
      refine iteT' (decide_eq_true c2) ?_
      have hu5 := hu2
      have p5 : Pot (upd H1 l (.lst [])) p a1 b1 := p1.new hl
      have s5 : SameBut p H (upd H1 l (.lst [])) := s1.new hl
      generalize (upd H1 l (.lst [])) = H5 at hu5 p5 s5 ⊢
      refine ⟨_, rfl, _, rfl, _, rfl, _, us.length, rfl, .inl ⟨_, SqL.of hu5, by simp⟩, p, a1, b1, us.length, rfl, p5, by omega, log2_small (by omega) (by omega), fun n6 a6 b6 H6 s6 p6 h60 h61 => ?_⟩
      obtain ⟨vz, hz, hzm⟩ := atI_mem (xs := us.map V.str) (i := n6) h60 (by rw [List.length_map]; exact h61)
      obtain ⟨z, hzu, rfl⟩ := List.mem_map.mp hzm
      have hu6 := s6.at hu5 nup
      have hzn := hun z hzu
      refine ⟨u, _, _, _, rfl, rfl, SqL.of hu6, hz, ?_⟩
      have zl : z.length ≤ 8 := hzn.2.1
      refine ⟨_, rfl, _, rfl, z, rfl, sz_of (by omega), p, a6, b6, z.length, rfl, p6, by have := hzn.1; omega, log2_small (by have := hzn.1; omega) (by omega), fun n7 a7 b7 H7 s7 p7 h70 h71 => ?_⟩
      refine ⟨_, rfl, _, rfl, _, rfl, _, rfl, _, rfl, z, rfl, sz_of (by omega), ?_⟩
      refine ⟨_, rfl, _, rfl, p, a7, b7, 26, rfl, p7, by decide, by decide, fun n8 a8 b8 H8 s8 p8 h80 h81 => ?_⟩
      obtain ⟨c8, hc8, tc8⟩ := nm4 rfl h80 h81
      refine ⟨_, _, c8, rfl, rfl, by decide +kernel, hc8, ?_⟩
      have q1 : TxO 8 (cutS z none (some n7)) := TxO.cut hzn.2
      have q2 : TxO 8 (cutS z (some (n7 + 1)) none) := TxO.cut hzn.2
      refine ⟨_, _, rfl, rfl, sz_of (Nat.le_trans (Nat.add_le_add q1.1 tc8.1) (by decide)), ?_⟩
      refine ⟨_, rfl, _, rfl, _, _, rfl, rfl, _, rfl, z, rfl, sz_of (by omega), ?_⟩
      refine ⟨_, _, rfl, rfl, sz_of (Nat.le_trans (Nat.add_le_add (q1.app tc8).1 q2.1) (by decide)), ?_⟩
      have nm := nm_turn hzn h70 h71 tc8
      refine ⟨sz_of (Nat.le_trans (Nat.le_refl 3) (by decide)), fun L hL => ?_⟩
      have nLp : L ≠ p := p8.ne hL
      obtain ⟨v, hv, hvm⟩ := atI_mem (xs := [V.str z, V.str z, V.str (cutS z none (some n7) ++ chS c8 ++ cutS z (some (n7 + 1)) none)]) (i := way - 1) (by omega) (by show way - 1 < 3; omega)
      refine ⟨_, rfl, _, _, rfl, rfl, L, _, _, _, rfl, rfl, SqL.of upd_same, hv, ?_⟩
      have sF : SameBut p H (upd H8 L (.lst [V.str z, V.str z, V.str (cutS z none (some n7) ++ chS c8 ++ cutS z (some (n7 + 1)) none)])) := (((s5.trans s6).trans s7).trans s8).new hL
      have vz : ∃ y, v = V.str y ∧ NmO y := by
        rcases List.mem_cons.mp hvm with rfl | hvm
        · exact ⟨_, rfl, hzn⟩
        rcases List.mem_cons.mp hvm with rfl | hvm
        · exact ⟨_, rfl, hzn⟩
        rw [List.mem_singleton.mp hvm]
        exact ⟨_, rfl, nm⟩
      obtain ⟨y, rfl, hy⟩ := vz
      exact k y _ _ _ sF (p8.new hL) hy
    have way2 : (!PyData.eqv (.list (us.map PyData.str)) (.list [])) = false ∨ ((!PyData.eqv (.list (us.map PyData.str)) (.list [])) = true ∧ ¬ 0 < way) := by
      rcases cc with e | e
      · left
        rw [e]
        rfl
      · cases us with
        | nil => exact .inl rfl
        | cons _ _ => exact .inr ⟨rfl, e⟩
    have p5 : Pot (upd H1 l (.lst [])) p a1 b1 := p1.new hl
    have s5 : SameBut p H (upd H1 l (.lst [])) := s1.new hl
    generalize (upd H1 l (.lst [])) = H5 at p5 s5 ⊢
    rcases way2 with e | ⟨e, e2⟩
    · refine iteF' e (iteF ?_)
      refine ⟨_, rfl, p, a1, b1, 8, rfl, p5, by decide, by decide, fun n6 a6 b6 H6 s6 p6 h60 h61 => ⟨_, _, rfl, rfl, (by show 4 ≤ sizeLine; decide), fun L hL => ?_⟩⟩
      have nLp : L ≠ p := p6.ne hL
      refine ⟨_, rfl, p, a6, b6, 4, rfl, p6.new hL, by decide, by decide, fun n7 a7 b7 H7 s7 p7 h70 h71 => ?_⟩
      obtain ⟨v, hv, hvm⟩ := atI_mem (xs := [V.int 1, V.int 1, V.int 8, V.int (1 + n6)]) (i := n7) h70 (by show n7 < 4; exact h71)
      have vn : ∃ m : Int, v = V.int m ∧ 1 ≤ m ∧ m ≤ 8 := by
        rcases List.mem_cons.mp hvm with rfl | hvm
        · exact ⟨1, rfl, by decide, by decide⟩
        rcases List.mem_cons.mp hvm with rfl | hvm
        · exact ⟨1, rfl, by decide, by decide⟩
        rcases List.mem_cons.mp hvm with rfl | hvm
        · exact ⟨8, rfl, by decide, by decide⟩
        rw [List.mem_singleton.mp hvm]
        exact ⟨_, rfl, by omega, by omega⟩
      obtain ⟨m, rfl, hm1, hm8⟩ := vn
      refine ⟨L, _, _, _, rfl, rfl, SqL.of (s7.at upd_same nLp), hv, ?_⟩
      have s7' : SameBut p H H7 := ((s5.trans s6).new hL).trans s7
      refine ⟨⟨_, rfl⟩, _, rfl, m, rfl, by omega, by omega, fun D hD => lc_range (lo := 0) (n := m.toNat) (fun i H8 => ∃ (cs : List Nat) (a' b' : Int), H8 D = some (.lst ((cs.map chS).map V.str)) ∧ cs.length = i ∧ (∀ c ∈ cs, c < 128) ∧ Pot H8 p a' b' ∧ SameBut p H H8) ⟨[], _, _, upd_same, rfl, (fun _ h => nomatch h), p7.new hD, s7'.new hD⟩ ?_ ?_⟩
      · rintro i H8 hi ⟨cs, a8, b8, hl8, hcs, hc8, p8, t8⟩
        have nDp : D ≠ p := p7.ne hD
        refine ⟨rfl, ?_⟩
        refine ⟨_, rfl, _, rfl, p, _, _, 26, rfl, p8, by decide, by decide, fun n9 a9 b9 H9 s9 p9 h90 h91 => ?_⟩
        obtain ⟨c9, hc9, tc9⟩ := nm4 rfl h90 h91
        refine ⟨_, _, c9, rfl, rfl, by decide +kernel, hc9, _, s9.at hl8 nDp, sz_lt (by rw [List.length_map, List.length_map]; omega), cs ++ [c9], _, _, ?_, ?_, ?_, p9.other nDp, (t8.trans s9).newer ?_⟩
        · rw [upd_same, List.map_append, List.map_append]
          rfl
        · rw [List.length_append, hcs]
          rfl
        · intro y hy
          rcases List.mem_append.mp hy with h | h
          · exact hc8 y h
          · rw [List.mem_singleton.mp h]
            exact tc9.2 c9 (List.mem_singleton.mpr rfl)
        · exact SameBut.free s7' hD nDp
      · rintro H8 ⟨cs, a8, b8, hl8, hcs, hc8, p8, t8⟩
        have ones : ∀ z ∈ cs.map chS, z.length = 1 := by
          intro z hz
          obtain ⟨c, _, rfl⟩ := List.mem_map.mp hz
          rfl
        refine ⟨_, D, cs.map chS, rfl, rfl, .inl (SqL.of hl8), ?_, ?_⟩
        · rw [sum_ones ones]
          show _ + _ * 0 ≤ _
          rw [List.length_map]
          omega
        · rw [join_ones]
          exact k _ _ _ _ t8 p8 ⟨by show 1 ≤ cs.toArray.size; rw [List.size_toArray]; omega, by show cs.toArray.size ≤ 8; rw [List.size_toArray]; omega, by simpa using hc8⟩
    · refine iteT' e ⟨_, rfl, _, _, rfl, rfl, _, rfl, iteF' (decide_eq_false e2) ?_⟩
      refine ⟨_, rfl, p, a1, b1, 8, rfl, p5, by decide, by decide, fun n6 a6 b6 H6 s6 p6 h60 h61 => ⟨_, _, rfl, rfl, (by show 4 ≤ sizeLine; decide), fun L hL => ?_⟩⟩
      have nLp : L ≠ p := p6.ne hL
      refine ⟨_, rfl, p, a6, b6, 4, rfl, p6.new hL, by decide, by decide, fun n7 a7 b7 H7 s7 p7 h70 h71 => ?_⟩
      obtain ⟨v, hv, hvm⟩ := atI_mem (xs := [V.int 1, V.int 1, V.int 8, V.int (1 + n6)]) (i := n7) h70 (by show n7 < 4; exact h71)
      have vn : ∃ m : Int, v = V.int m ∧ 1 ≤ m ∧ m ≤ 8 := by
        rcases List.mem_cons.mp hvm with rfl | hvm
        · exact ⟨1, rfl, by decide, by decide⟩
        rcases List.mem_cons.mp hvm with rfl | hvm
        · exact ⟨1, rfl, by decide, by decide⟩
        rcases List.mem_cons.mp hvm with rfl | hvm
        · exact ⟨8, rfl, by decide, by decide⟩
        rw [List.mem_singleton.mp hvm]
        exact ⟨_, rfl, by omega, by omega⟩
      obtain ⟨m, rfl, hm1, hm8⟩ := vn
      refine ⟨L, _, _, _, rfl, rfl, SqL.of (s7.at upd_same nLp), hv, ?_⟩
      have s7' : SameBut p H H7 := ((s5.trans s6).new hL).trans s7
      refine ⟨⟨_, rfl⟩, _, rfl, m, rfl, by omega, by omega, fun D hD => lc_range (lo := 0) (n := m.toNat) (fun i H8 => ∃ (cs : List Nat) (a' b' : Int), H8 D = some (.lst ((cs.map chS).map V.str)) ∧ cs.length = i ∧ (∀ c ∈ cs, c < 128) ∧ Pot H8 p a' b' ∧ SameBut p H H8) ⟨[], _, _, upd_same, rfl, (fun _ h => nomatch h), p7.new hD, s7'.new hD⟩ ?_ ?_⟩
      · rintro i H8 hi ⟨cs, a8, b8, hl8, hcs, hc8, p8, t8⟩
        have nDp : D ≠ p := p7.ne hD
        refine ⟨rfl, ?_⟩
        refine ⟨_, rfl, _, rfl, p, _, _, 26, rfl, p8, by decide, by decide, fun n9 a9 b9 H9 s9 p9 h90 h91 => ?_⟩
        obtain ⟨c9, hc9, tc9⟩ := nm4 rfl h90 h91
        refine ⟨_, _, c9, rfl, rfl, by decide +kernel, hc9, _, s9.at hl8 nDp, sz_lt (by rw [List.length_map, List.length_map]; omega), cs ++ [c9], _, _, ?_, ?_, ?_, p9.other nDp, (t8.trans s9).newer ?_⟩
        · rw [upd_same, List.map_append, List.map_append]
          rfl
        · rw [List.length_append, hcs]
          rfl
        · intro y hy
          rcases List.mem_append.mp hy with h | h
          · exact hc8 y h
          · rw [List.mem_singleton.mp h]
            exact tc9.2 c9 (List.mem_singleton.mpr rfl)
        · exact SameBut.free s7' hD nDp
      · rintro H8 ⟨cs, a8, b8, hl8, hcs, hc8, p8, t8⟩
        have ones : ∀ z ∈ cs.map chS, z.length = 1 := by
          intro z hz
          obtain ⟨c, _, rfl⟩ := List.mem_map.mp hz
          rfl
        refine ⟨_, D, cs.map chS, rfl, rfl, .inl (SqL.of hl8), ?_, ?_⟩
        · rw [sum_ones ones]
          show _ + _ * 0 ≤ _
          rw [List.length_map]
          omega
        · rw [join_ones]
          exact k _ _ _ _ t8 p8 ⟨by show 1 ≤ cs.toArray.size; rw [List.size_toArray]; omega, by show cs.toArray.size ≤ 8; rw [List.size_toArray]; omega, by simpa using hc8⟩
abbrev s_l_names : Stmt := topS 25
abbrev N_l_names : List Str := ["pot", "found", "k"]
theorem sc_l_names : FnScope N_l_names ["pot"] (defScope s_l_names) := ⟨rfl, rfl, rfl, by decide +kernel, rfl, by decide +kernel, by decide +kernel⟩
def sp_l_names_k31 (K : PySem.W.Frag) : Sp := fun vs H Q _ => ∃ (p : Addr) (a b : Int), vs = [.ref p] ∧ Pot H p a b ∧
  ∀ (q : Addr) (ns : List Str) (H' : Hp) (a' b' : Int), SameBut p H H' → H q = none → Pot H' p a' b' → H' q = some (.lst (ns.map V.str)) → ns.length ≤ 10 → (∀ z ∈ ns, NmO z) → q ≠ p → Q (.ref q) H'
theorem ok_l_names {f : Addr} {fd : FuncData} (F : Fun K "_law_names" "_law_names" s_l_names f fd) (B : Bt mg) (C_law_take : Cal P w K mg base CX0 "_law_take" 1 ["pot", "many"] sp_l_tk) (C_law_name : Cal P w K mg base CX0 "_law_name" 2 ["pot", "some"] (sp_l_name_k31 K)) : GnOk P w K mg base CX0 3 f fd ["pot"] (sp_l_names_k31 K) := by
  refine gn_fun F sc_l_names (fun vs H Q E h => ?_) (fun cdv A outer s H vs Q E hr h => ?_)
  · obtain ⟨p, a, b, rfl, _⟩ := h
    rfl
  · obtain ⟨p, a, b, rfl, hp, k⟩ := h
    refine ⟨_, (pss_cons (ps_set (i := 1) sc_l_names.nd rfl (Or.inl rfl) (pe_lst pa_nil))
    (pss_cons (ps_for PassesOwn.never rfl (pi_range1 (by rfl) B.range (pa_cons (pe_cal C_law_take (hr.mono (by decide)) (by rfl) pass0 (pa_cons (pv 0) (pa_cons pe_int pa_nil))) pa_nil)) (pg_name (i := 2) sc_l_names.nd rfl (Or.inl rfl))
      (pss_one (ps_expr (pe_bmK K PySem.F.plainAttrs_list PySem.F.slot_list_append PySem.F.type_list_append mt_append (pv 1) (pa_cons (pe_cal C_law_name (hr.mono (by decide)) (by rfl) pass0 (pa_cons (pv 0) (pa_cons (pv 1) pa_nil))) pa_nil)))))
    (pss_one (ps_ret (pv 1))))), ?_⟩
    refine ⟨by decide, fun D hD => ?_⟩
    have nDp : D ≠ p := hp.ne hD
    refine ⟨_, rfl, p, a, b, 11, rfl, hp.new hD, by decide, by decide, fun n a1 b1 H1 s1 p1 h0 h1 => ?_⟩
    refine ⟨n, rfl, by omega, by omega, for_range (lo := 0) (n := n.toNat) (fun i σ H5 => ∃ (zs : List Str) (a' b' : Int) (v1 : Option V), σ = [some (.ref p), some (.ref D), v1] ∧ H5 D = some (.lst (zs.map V.str)) ∧ zs.length = i ∧ (∀ z ∈ zs, NmO z) ∧ Pot H5 p a' b' ∧ SameBut p H H5) ⟨[], _, _, none, rfl, s1.at upd_same nDp, rfl, (fun _ h => nomatch h), p1, ((SameBut.refl p H).new hD).trans s1⟩ ?_ ?_⟩
    · rintro i σ H5 hi ⟨zs, a', b', v1, rfl, hl5, hz, hf, p5, t5⟩
      refine ⟨_, rfl, .inl ⟨rfl, _, SqL.of hl5⟩, _, rfl, _, rfl, p, _, _, D, zs, rfl, p5, hl5, nDp, by omega, hf, fun z H6 a6 b6 s6 p6 fz => ?_⟩
      refine ⟨D, _, _, rfl, rfl, s6.at hl5 nDp, sz_lt (by rw [List.length_map]; omega), zs ++ [z], _, _, _, rfl, ?_, ?_, ?_, p6.other nDp, (t5.trans s6).newer hD⟩
      · rw [upd_same, List.map_append]
        rfl
      · rw [List.length_append, hz]
        rfl
      · intro y hy
        rcases List.mem_append.mp hy with h | h
        · exact hf y h
        · rw [List.mem_singleton.mp h]
          exact fz
    · rintro σ H5 ⟨zs, a', b', v1, rfl, hl5, hz, hf, p5, t5⟩
      exact ⟨_, rfl, k D zs H5 _ _ t5 hD p5 hl5 (by omega) hf nDp⟩
abbrev s_l_path : Stmt := topS 26
abbrev N_l_path : List Str := ["names", "text", "k", "name"]
theorem sc_l_path : FnScope N_l_path ["names"] (defScope s_l_path) := ⟨rfl, rfl, rfl, by decide +kernel, rfl, by decide +kernel, by decide +kernel⟩
def sp_l_path_k31 (K : PySem.W.Frag) : Sp := fun vs H Q _ => ∃ (q : Addr) (ns : List Str), vs = [.ref q] ∧ H q = some (.lst (ns.map V.str)) ∧ ns.length ≤ 20 ∧ (∀ z ∈ ns, z.length ≤ 8) ∧ ∀ H', Same H H' → Q (.str (pathOf ns)) H'
/-- the path of the first i names, as the law writes it -/
theorem pathOf_len {ns : List Str} (h1 : ns.length ≤ 20) (h2 : ∀ z ∈ ns, z.length ≤ 8) : (pathOf ns).length ≤ 400 := by
  have e := join_len "/" ns
  have e1 : (("/" : Str)).length = 1 := rfl
  have e2 := sum_le (b := 8) h2
  have e3 : (pathOf ns).length = 1 + (Txt.join "/" ns).length := len_append _ _
  rw [e1] at e
  omega
theorem join_snoc (ns : List Str) (z : Str) (h : ns ≠ []) : Txt.join "/" (ns ++ [z]) = Txt.join "/" ns ++ "/" ++ z := by
  rw [TL.join_eq, TL.join_eq]
  refine TL.ext_tl ?_
  rw [TL.tl_append, TL.tl_append, TL.tl_join, TL.tl_join, List.map_append]
  have g : ∀ (l : List (List Nat)) (y : List Nat), l ≠ [] → TL.joinL (TL.tl "/") (l ++ [y]) = TL.joinL (TL.tl "/") l ++ TL.tl "/" ++ y := by
    intro l
    induction l with
    | nil => intro y h; exact absurd rfl h
    | cons p r ih =>
      intro y _
      cases r with
      | nil =>
        show p ++ (TL.tl "/" ++ y) = p ++ TL.tl "/" ++ y
        rw [List.append_assoc]
      | cons q r =>
        have e := ih y (by simp)
        show p ++ (TL.tl "/" ++ TL.joinL (TL.tl "/") ((q :: r) ++ [y])) = p ++ (TL.tl "/" ++ TL.joinL (TL.tl "/") (q :: r)) ++ TL.tl "/" ++ y
        rw [e]
        simp only [List.append_assoc]
  exact g (ns.map TL.tl) (TL.tl z) (by simpa using h)
theorem pathOf_snoc (ns : List Str) (z : Str) : pathOf (ns ++ [z]) = pathOf ns ++ (if ns = [] then Str.empty else "/") ++ z := by
  unfold pathOf
  by_cases h : ns = []
  · subst h
    rw [if_pos rfl]
    refine TL.ext_tl ?_
    show TL.tl (("/" : Str) ++ Txt.join "/" [z]) = _
    rw [TL.tl_append, TL.tl_append, TL.tl_append, TL.tl_append]
    rfl
  · rw [if_neg h, join_snoc ns z h]
    refine TL.ext_tl ?_
    rw [TL.tl_append, TL.tl_append, TL.tl_append, TL.tl_append, TL.tl_append, TL.tl_append]
    simp only [List.append_assoc]
theorem ok_l_path {f : Addr} {fd : FuncData} (F : Fun K "_law_path" "_law_path" s_l_path f fd) (B : Bt mg) : GnOk P w K mg base CX0 1 f fd ["names"] (sp_l_path_k31 K) := by
  refine gn_fun F sc_l_path (fun vs H Q E h => ?_) (fun cdv A outer s H vs Q E hr h => ?_)
  · obtain ⟨q, ns, rfl, _⟩ := h
    rfl
  · obtain ⟨q, ns, rfl, hq, hl, hz, k⟩ := h
    refine ⟨_, (pss_cons (ps_set (i := 1) sc_l_path.nd rfl (Or.inl rfl) pe_str)
    (pss_cons (ps_for PassesOwn.never rfl (pi_enum (by rfl) B.enumerate (pa_cons (pv 0) pa_nil)) (pg_tup (by rfl) (pgs_cons (pg_name (i := 2) sc_l_path.nd rfl (Or.inl rfl)) (pgs_cons (pg_name (i := 3) sc_l_path.nd rfl (Or.inl rfl)) pgs_nil)))
      (pss_one (ps_set (i := 1) sc_l_path.nd rfl (Or.inl rfl) (pe_op op_add_str (pe_op op_add_str (pv 1) (pe_op op_mul_s pe_str (pe_callTy call_int1 (by rfl) B.int (by decide +kernel) (pa_cons (pe_cmpR op_gt (pv 2) pe_int (nomark _)) pa_nil)))) (pv 3)))))
    (pss_one (ps_ret (pv 1))))), ?_⟩
    have e0 : pathOf ([] : List Str) = "/" := by
      unfold pathOf
      refine TL.ext_tl ?_
      rw [TL.tl_append]
      rfl
    refine ⟨_, rfl, q, _, rfl, SqL.of hq, ?_⟩
    refine for_it (walk_enum (K := K) (a := q) (xs := ns.map V.str)) (fun i σ H2 => ∃ v2 v3, σ = [some (.ref q), some (.str (pathOf (ns.take i))), v2, v3] ∧ Same H H2) ⟨none, none, by rw [List.take_zero, e0]; rfl, Same.refl H⟩ (fun _ _ H2 _ ⟨_, _, _, e⟩ => SqL.of (e _ _ hq)) ?_ ?_
    · rintro i y σ H2 H3 hi ⟨v2, v3, rfl, e2⟩ ⟨T, x0, y0, rfl, hT, rfl, hx0, hy0⟩
      obtain rfl : V.int (i : Nat) = x0 := by simpa using hx0
      obtain ⟨z, hzi, rfl⟩ : ∃ z, ns[i]? = some z ∧ y0 = V.str z := by
        have hy0' : (ns.map V.str)[i]? = some y0 := hy0
        rw [List.getElem?_map] at hy0'
        obtain ⟨t, ht, e⟩ := Option.map_eq_some_iff.mp hy0'
        exact ⟨t, ht, e.symm⟩
      have e3 : Same H (upd H2 T (.tup [.int (i : Nat), .str z])) := e2.trans (Same.new hT)
      have hTT : (upd H2 T (.tup [.int (i : Nat), .str z])) T = some (.tup [.int (i : Nat), .str z]) := upd_same
      generalize (upd H2 T (.tup [.int (i : Nat), .str z])) = H3 at e3 hTT ⊢
      have hin : i < ns.length := by rw [List.length_map] at hi; exact hi
      have b1 : (pathOf (ns.take i)).length ≤ 400 := pathOf_len (by rw [List.length_take]; omega) fun t ht => hz t (List.mem_of_mem_take ht)
      have b2 : z.length ≤ 8 := hz z (List.mem_of_getElem? hzi)
      refine ⟨T, _, rfl, SqT.of hTT, rfl, _, _, rfl, _, _, rfl, rfl, ?_⟩
      refine ⟨_, rfl, _, rfl, _, _, rfl, rfl, .inr ⟨_, rfl, ?_⟩⟩
      have b3 : ∀ n : Int, n = (if decide ((0 : Int) < (i : Nat)) = true then 1 else 0) → 0 ≤ n ∧ n ≤ 1 := by
        intro n hn
        rw [hn]
        split <;> decide
      have er : repS "/" (if decide ((0 : Int) < (i : Nat)) = true then (1 : Int) else 0).toNat = (if ns.take i = [] then Str.empty else "/") := by
        by_cases c : i = 0
        · subst c
          rw [List.take_zero, if_pos rfl]
          rfl
        · rw [if_pos (decide_eq_true (by omega)), if_neg]
          · exact repS_1 _
          · intro e
            have := congrArg List.length e
            rw [List.length_take, List.length_nil] at this
            omega
      obtain ⟨n0, n1⟩ := b3 _ rfl
      have l1 : ((if ns.take i = [] then Str.empty else "/" : Str)).length ≤ 1 := by
        split <;> decide
      refine ⟨"/", _, rfl, rfl, by omega, by omega, ?_, ?_⟩
      · show 1 * _ ≤ 1000000
        omega
      · rw [er]
        refine ⟨_, _, rfl, rfl, sz_of (by omega), _, rfl, _, _, rfl, rfl, sz_of (by rw [len_append]; omega), ?_⟩
        refine ⟨some (.int (i : Nat)), some (.str z), ?_, e3⟩
        rw [take_snoc hzi, pathOf_snoc]
        rfl
    · rintro σ H2 ⟨v2, v3, rfl, e2⟩
      rw [List.length_map, List.take_length]
      exact ⟨_, rfl, k _ e2⟩
abbrev s_l_spoilt : Stmt := topS 27
abbrev N_l_spoilt : List Str := ["pot", "text", "signs", "at", "sign", "way"]
theorem sc_l_spoilt : FnScope N_l_spoilt ["pot", "text"] (defScope s_l_spoilt) := ⟨rfl, rfl, rfl, by decide +kernel, rfl, by decide +kernel, by decide +kernel⟩
def sp_l_spoilt_k31 : Sp := fun vs H Q _ => ∃ (p : Addr) (a b : Int) (z : Str) (n : Nat), vs = [.ref p, .str z] ∧ Pot H p a b ∧ TxO n z ∧ n ≤ 4000 ∧
  ∀ (y : Str) (H' : Hp) (a' b' : Int), SameBut p H H' → Pot H' p a' b' → TxO (n + 1) y → Q (.str y) H'
theorem cut_lo {z : Str} {i : Int} (h0 : 0 ≤ i) : (cutS z none (some i)).length = min i.toNat z.length := by
  rw [← len_toList]
  show ((z.cps.toList.drop 0).take (HT.sIx z.length z.length (some i) - 0)).length = _
  have e : HT.sIx z.length z.length (some i) = min i.toNat z.length := by
    show (if i < 0 then _ else min i.toNat z.length) = _
    rw [if_neg (by omega)]
  rw [e, List.drop_zero, List.length_take, len_toList]
  omega
theorem cut_hi {z : Str} {i : Int} (h0 : 0 ≤ i) : (cutS z (some i) none).length = z.length - min i.toNat z.length := by
  rw [← len_toList]
  show ((z.cps.toList.drop (HT.sIx z.length 0 (some i))).take (z.length - HT.sIx z.length 0 (some i))).length = _
  have e : HT.sIx z.length 0 (some i) = min i.toNat z.length := by
    show (if i < 0 then _ else min i.toNat z.length) = _
    rw [if_neg (by omega)]
  rw [e, List.length_take, List.length_drop, len_toList]
  omega
abbrev spSigns : Str := "/abcxyz !\"#$&'()*+,-.0123456789:;<=>?\x40ABCDEFGHIJKLMNOPQRSTUVWXYZ[\\]^_`{|}~\n"
theorem ok_l_spoilt {f : Addr} {fd : FuncData} (F : Fun K "_law_spoilt" "_law_spoilt" s_l_spoilt f fd) (B : Bt mg) (C_law_take : Cal P w K mg base CX0 "_law_take" 1 ["pot", "many"] sp_l_tk) : GnOk P w K mg base CX0 2 f fd ["pot", "text"] sp_l_spoilt_k31 := by
  refine gn_fun F sc_l_spoilt (fun vs H Q E h => ?_) (fun cdv A outer s H vs Q E hr h => ?_)
  · obtain ⟨p, a, b, z, n, rfl, _⟩ := h
    rfl
  · obtain ⟨p, a, b, z, n, rfl, hp, hz, hn, k⟩ := h
    refine ⟨_, (pss_cons (ps_set (i := 2) sc_l_spoilt.nd rfl (Or.inl rfl) pe_str)
    (pss_cons (ps_set (i := 3) sc_l_spoilt.nd rfl (Or.inl rfl) (pe_cal C_law_take (hr.mono (by decide)) (by rfl) pass0 (pa_cons (pv 0) (pa_cons (pe_op op_add (pe_callB call_len_str (by rfl) B.len (by decide +kernel) (pa_cons (pv 1) pa_nil)) pe_int) pa_nil))))
    (pss_cons (ps_set (i := 4) sc_l_spoilt.nd rfl (Or.inl rfl) (pe_ix (ix_listK K) (pe_lst (pa_cons pe_str (pa_cons pe_str (pa_cons (pe_ix ix_str (pv 2) (pe_cal C_law_take (hr.mono (by decide)) (by rfl) pass0 (pa_cons (pv 0) (pa_cons (pe_callB call_len_str (by rfl) B.len (by decide +kernel) (pa_cons (pv 2) pa_nil)) pa_nil))) (fun _ _ => rfl)) pa_nil)))) (pe_cal C_law_take (hr.mono (by decide)) (by rfl) pass0 (pa_cons (pv 0) (pa_cons pe_int pa_nil))) (fun _ _ => rfl)))
    (pss_cons (ps_set (i := 5) sc_l_spoilt.nd rfl (Or.inl rfl) (pe_cal C_law_take (hr.mono (by decide)) (by rfl) pass0 (pa_cons (pv 0) (pa_cons pe_int pa_nil))))
    (pss_cons (ps_if (pt_cmpR op_lt (pv 5) pe_int (nomark _))
      (pss_one (ps_ret (pe_op op_add_str (pe_op op_add_str (pe_slice sl_str (pv 1) po_none (po_some (pv 3))) (pv 4)) (pe_slice sl_str (pv 1) (po_some (pv 3)) po_none))))
      pss_nil)
    (pss_one (ps_ret (pe_op op_add_str (pe_op op_add_str (pe_slice sl_str (pv 1) po_none (po_some (pv 3))) (pe_ix (ix_listK K) (pe_lst (pa_cons pe_str (pa_cons (pv 4) pa_nil))) (pe_op op_sub (pv 5) pe_int) (fun _ _ => rfl))) (pe_slice sl_str (pv 1) (po_some (pe_op op_add (pv 3) pe_int)) po_none))))))))), ?_⟩
    have zl := hz.1
    refine ⟨_, rfl, _, rfl, z, rfl, sz_of (by omega), _, _, rfl, rfl, p, a, b, _, rfl, hp, by omega, log2_small (by omega) (by omega), fun at_ a1 b1 H1 s1 p1 h10 h11 => ?_⟩
    refine ⟨_, rfl, _, rfl, _, rfl, spSigns, rfl, by decide +kernel, p, a1, b1, (spSigns.length : Int), rfl, p1, by decide +kernel, log2_small (by decide +kernel) (by decide +kernel), fun n2 a2 b2 H2 s2 p2 h20 h21 => ?_⟩
    obtain ⟨c2, hc2, hm2⟩ := atI_mem (xs := spSigns.cps.toList) (i := n2) h20 (by rw [len_toList]; exact h21)
    have tc2 : TxO 1 (chS c2) := TxO.sign (by decide +kernel) hm2
    refine ⟨spSigns, _, c2, rfl, rfl, by decide +kernel, hc2, (by show 3 ≤ sizeLine; decide), fun L hL => ?_⟩
    have nLp : L ≠ p := p2.ne hL
    refine ⟨_, rfl, p, a2, b2, 3, rfl, p2.new hL, by decide, by decide, fun n3 a3 b3 H3 s3 p3 h30 h31 => ?_⟩
    obtain ⟨v, hv, hvm⟩ := atI_mem (xs := [V.str "/", V.str "a", V.str (chS c2)]) (i := n3) h30 (by show n3 < 3; exact h31)
    have vz : ∃ y, v = V.str y ∧ TxO 1 y := by
      rcases List.mem_cons.mp hvm with rfl | hvm
      · exact ⟨_, rfl, by decide +kernel, by decide +kernel⟩
      rcases List.mem_cons.mp hvm with rfl | hvm
      · exact ⟨_, rfl, by decide +kernel, by decide +kernel⟩
      rw [List.mem_singleton.mp hvm]
      exact ⟨_, rfl, tc2⟩
    obtain ⟨y, rfl, hy⟩ := vz
    refine ⟨L, _, _, _, rfl, rfl, SqL.of (s3.at upd_same nLp), hv, ?_⟩
    have t3 : SameBut p H H3 := ((s1.trans s2).new hL).trans s3
    refine ⟨_, rfl, p, a3, b3, 4, rfl, p3, by decide, by decide, fun way a4 b4 H4 s4 p4 h40 h41 => ?_⟩
    have t4 := t3.trans s4
    have q1 : TxO n (cutS z none (some at_)) := TxO.cut hz
    have l1 := cut_lo (z := z) h10
    refine ⟨_, rfl, _, _, rfl, rfl, _, rfl, ?_⟩
    refine ite2 (fun c => ?_) (fun c => ?_)
    · have q2 : TxO n (cutS z (some at_) none) := TxO.cut hz
      have l2 := cut_hi (z := z) h10
      have l3 := hy.1
      refine ⟨_, rfl, _, rfl, _, rfl, z, rfl, sz_of (by omega), _, rfl, _, _, rfl, rfl, sz_of (by omega), _, rfl, _, rfl, _, rfl, z, rfl, sz_of (by omega), _, _, rfl, rfl, sz_of (by rw [len_append]; omega), ?_⟩
      exact k _ _ _ _ t4 p4 ⟨by rw [len_append, len_append]; omega, ((q1.app hy).app q2).2⟩
    · have c' : ¬ way < 2 := fun e => c (decide_eq_true e)
      have q2 : TxO n (cutS z (some (at_ + 1)) none) := TxO.cut hz
      have l2 := cut_hi (z := z) (i := at_ + 1) (by omega)
      refine ⟨_, rfl, _, rfl, _, rfl, z, rfl, sz_of (by omega), _, rfl, (by show 2 ≤ sizeLine; decide), fun M hM => ?_⟩
      obtain ⟨v, hv, hvm⟩ := atI_mem (xs := [V.str "", V.str y]) (i := way - 2) (by omega) (by show way - 2 < 2; omega)
      have vz : ∃ x, v = V.str x ∧ TxO 1 x := by
        rcases List.mem_cons.mp hvm with rfl | hvm
        · exact ⟨_, rfl, by decide +kernel, by decide +kernel⟩
        rw [List.mem_singleton.mp hvm]
        exact ⟨_, rfl, hy⟩
      obtain ⟨x, rfl, hx⟩ := vz
      have l3 := hx.1
      refine ⟨_, rfl, _, _, rfl, rfl, M, _, _, _, rfl, rfl, SqL.of upd_same, hv, _, _, rfl, rfl, sz_of (by omega), _, rfl, _, rfl, _, _, rfl, rfl, _, rfl, z, rfl, sz_of (by omega), _, _, rfl, rfl, sz_of (by rw [len_append]; omega), ?_⟩
      exact k _ _ _ _ (t4.new hM) (p4.new hM) ⟨by rw [len_append, len_append]; omega, ((q1.app hx).app q2).2⟩
abbrev s_l_due : Stmt := topS 28
abbrev N_l_due : List Str := ["text", "letters", "names", "name", "sign"]
theorem sc_l_due : FnScope N_l_due ["text"] (defScope s_l_due) := ⟨rfl, rfl, rfl, by decide +kernel, rfl, by decide +kernel, by decide +kernel⟩
def sp_l_due_k31 : Sp := fun vs H Q _ => ∃ z, vs = [.str z] ∧ z.length ≤ 4000 ∧ (pathNames z = none → ∀ H', Same H H' → Q .non H') ∧
  (∀ ns, pathNames z = some ns → ∀ l H', Same H H' → H l = none → H' l = some (.lst (ns.map V.str)) → Q (.ref l) H')
theorem cut1 (z : Str) : TL.tl (cutS z none (some 1)) = (TL.tl z).take 1 := by
  show (z.cps.toList.drop 0).take (min 1 z.length - 0) = z.cps.toList.take 1
  rw [List.drop_zero, Nat.sub_zero]
  have e : z.cps.toList.length = z.length := len_toList z
  by_cases h : 1 ≤ z.length
  · rw [Nat.min_eq_left h]
  · rw [Nat.min_eq_right (by omega), List.take_of_length_le (by omega), List.take_of_length_le (by omega)]
theorem cut1r (z : Str) : TL.tl (cutS z (some 1) none) = (TL.tl z).drop 1 := by
  show (z.cps.toList.drop (min 1 z.length)).take (z.length - min 1 z.length) = z.cps.toList.drop 1
  have e : z.cps.toList.length = z.length := len_toList z
  by_cases h : 1 ≤ z.length
  · rw [Nat.min_eq_left h, List.take_of_length_le (by rw [List.length_drop]; omega)]
  · rw [Nat.min_eq_right (by omega), List.take_of_length_le (by rw [List.length_drop]; omega), List.drop_of_length_le (by omega), List.drop_of_length_le (by omega)]
def okLen (t : Str) : Bool := decide (1 ≤ t.length) && decide (t.length ≤ 8)
def okSigns (t : Str) : Bool := (t.cps.toList.map fun c => decide (c ∈ lettersS.cps.toList)).all id
theorem isOf_two (t : Str) : isOf lettersS (.str t) = (okLen t && okSigns t) := by
  show (decide (1 ≤ t.length) && decide (t.length ≤ 8) && _) = _
  unfold okLen okSigns
  rw [List.all_map]
  rfl
theorem all_two (r : List Str) : (r.all fun t => isOf lettersS (.str t)) = (r.all okLen && r.all okSigns) := by
  induction r with
  | nil => rfl
  | cons t r ih =>
    rw [List.all_cons, List.all_cons, List.all_cons, ih, isOf_two]
    cases okLen t <;> cases okSigns t <;> cases r.all okLen <;> cases r.all okSigns <;> rfl
theorem names_no {z : Str} (h1 : z ≠ "/") (h2 : cutS z none (some 1) ≠ "/") : pathNames z = none := by
  unfold pathNames
  rw [if_neg h1]
  have h3 : ∀ r, TL.tl z ≠ 47 :: r := fun r e => h2 (TL.ext_tl (by rw [cut1, e]; rfl))
  rcases split_other h3 with ⟨f, r, e, hf⟩ | e
  · rw [e]
    show (if _ then _ else _) = _
    rw [if_neg fun q => by rw [q.1] at hf; exact absurd hf (by decide)]
  · rw [e]
    show (if _ then _ else _) = _
    rw [if_neg fun q => by have := q.2.1; simp at this]
theorem names_yes {z : Str} (h1 : z ≠ "/") (h2 : cutS z none (some 1) = "/") : pathNames z = if (1 ≤ (Txt.split (cutS z (some 1) none) "/").length ∧ (Txt.split (cutS z (some 1) none) "/").length ≤ 8 ∧ ((Txt.split (cutS z (some 1) none) "/").all okLen && (Txt.split (cutS z (some 1) none) "/").all okSigns) = true) then some (Txt.split (cutS z (some 1) none) "/") else none := by
  have e1 : (TL.tl z).take 1 = [47] := by rw [← cut1, h2]; rfl
  have e2 : TL.tl z = 47 :: TL.tl (cutS z (some 1) none) := by
    rw [cut1r]
    cases e : TL.tl z with
    | nil => rw [e] at e1; cases e1
    | cons c r =>
      rw [e] at e1
      have : c = 47 := (List.cons.inj e1).1
      rw [this]
      rfl
  unfold pathNames
  rw [if_neg h1, split_stroke e2]
  show (if _ then _ else _) = _
  rw [all_two]
  refine ite_congr (propext ⟨fun q => q.2, fun q => ⟨rfl, q⟩⟩) (fun _ => rfl) (fun _ => rfl)
theorem ok_l_due {f : Addr} {fd : FuncData} (F : Fun K "_law_due" "_law_due" s_l_due f fd) (B : Bt mg) : GnOk P w K mg base CX0 1 f fd ["text"] sp_l_due_k31 := by
  refine gn_fun F sc_l_due (fun vs H Q E h => ?_) (fun cdv A outer s H vs Q E hr h => ?_)
  · obtain ⟨z, rfl, _⟩ := h
    rfl
  · obtain ⟨z, rfl, hz, knone, ksome⟩ := h
    refine ⟨_, (pss_cons (ps_set (i := 1) sc_l_due.nd rfl (Or.inr rfl) pe_str)
    (pss_cons (ps_if (pt_cmpR op_eq (pv 0) pe_str (nomark _))
      (pss_one (ps_ret (pe_lst pa_nil)))
      pss_nil)
    (pss_cons (ps_if (pt_cmpR op_ne (pe_slice sl_str (pv 0) po_none (po_some pe_int)) pe_str (nomark _))
      (pss_one (ps_ret pe_non))
      pss_nil)
    (pss_cons (ps_set (i := 2) sc_l_due.nd rfl (Or.inl rfl) (pe_split (pe_slice sl_str (pv 0) (po_some pe_int) po_none) pe_str))
    (pss_cons (ps_if (PW.pt (pw_or (pt_cmpR op_gt (pe_callB (call_lenK K) (by rfl) B.len (by decide +kernel) (pa_cons (pv 2) pa_nil)) pe_int (nomark _)) (pw_or1 (pt_not (pt_val (pe_callB (cr_allK K rfl) (by rfl) B.all (by decide +kernel) (pa_cons (pe_lc (own := [("name", 3)]) (g := gName 3) (tt := tYes) (by rfl) sc_l_due.nd (pi_listK K (pv 2)) (blkOk_by (N := N_l_due) (sc := defScope s_l_due) (by decide +kernel)) (fun _ _ _ _ _ => pg_name (i := 3) sc_l_due.nd rfl (Or.inl rfl)) (fun _ _ _ _ _ => pts_nil) (fun _ _ _ _ _ => (pe_chain op_le op_le pe_int (pe_callB call_len_str (by rfl) B.len (by decide +kernel) (pa_cons (pv 3) pa_nil)) pe_int))) pa_nil)))))))
      (pss_one (ps_ret pe_non))
      pss_nil)
    (pss_cons (ps_if (pt_not (pt_val (pe_callB (cr_allK K rfl) (by rfl) B.all (by decide +kernel) (pa_cons (pe_lc (own := [("name", 3)]) (g := gName 3) (tt := tYes) (by rfl) sc_l_due.nd (pi_listK K (pv 2)) (blkOk_by (N := N_l_due) (sc := defScope s_l_due) (by decide +kernel)) (fun _ _ _ _ _ => pg_name (i := 3) sc_l_due.nd rfl (Or.inl rfl)) (fun _ _ _ _ _ => pts_nil) (fun _ _ _ _ _ => (pe_callB (cr_allK K rfl) (by rfl) B.all (by decide +kernel) (pa_cons (pe_lc (own := [("sign", 4)]) (g := gName 4) (tt := tYes) (by rfl) sc_l_due.nd (pi_str (pv 3)) (blkOk_by (by kernel_rfl)) (fun _ _ _ _ _ => pg_name (i := 4) sc_l_due.nd rfl (Or.inl rfl)) (fun _ _ _ _ _ => pts_nil) (fun _ _ _ _ _ => (pe_cmpR op_in_sign (pv 4) (pv 1) (by rfl)))) pa_nil)))) pa_nil))))
      (pss_one (ps_ret pe_non))
      pss_nil)
    (pss_one (ps_ret (pv 2))))))))), ?_⟩
    refine ⟨_, rfl, rfl, _, rfl, ?_⟩
    refine ite2 (fun c => ?_) (fun c => ?_)
    · have c' : z = "/" := V.str.inj (of_decide_eq_true c)
      refine ⟨by decide, fun l hl => ksome [] ?_ l _ (Same.new hl) hl upd_same⟩
      rw [c']
      unfold pathNames
      rw [if_pos rfl]
    · have c' : z ≠ "/" := fun e => c (by rw [e]; exact decide_eq_true rfl)
      refine ⟨_, rfl, _, rfl, z, rfl, sz_of (by omega), rfl, _, rfl, ?_⟩
      by_cases c2 : cutS z none (some 1) = "/"
      · refine iteF' (by rw [c2]; rfl) ?_
        have hy := names_yes c' c2
        have yl : (cutS z (some 1) none).length ≤ 4000 := by
          rw [← len_toList]
          have e : (cutS z (some 1) none).cps.toList = (TL.tl z).drop 1 := cut1r z
          rw [e, List.length_drop, ← TL.len_tl]
          omega
        obtain ⟨sl, se⟩ := split_len (cutS z (some 1) none)
        refine ⟨_, rfl, _, rfl, z, rfl, sz_of (by omega), ⟨_, rfl⟩, _, _, rfl, rfl, rfl, sz_of (by omega), fun p hp => ?_⟩
        generalize cutS z (some 1) none = y at hy yl sl se ⊢
        obtain ⟨r, hr⟩ : ∃ r, r = Txt.split y "/" := ⟨_, rfl⟩
        rw [← hr] at hy sl se ⊢
        have s1 : Same H (upd H p (.lst (r.map V.str))) := Same.new hp
        have h1 : upd H p (.lst (r.map V.str)) p = some (.lst (r.map V.str)) := upd_same
        generalize upd H p (.lst (r.map V.str)) = H1 at s1 h1 ⊢
        refine ⟨_, rfl, _, r.length, rfl, .inl ⟨_, SqL.of h1, by simp⟩, _, _, rfl, rfl, _, rfl, ?_⟩
        by_cases c3 : (8 : Int) < (r.length : Int)
        · refine iteT' (decide_eq_true c3) ?_
          refine iteT (knone ?_ _ s1)
          rw [hy, if_neg (fun q => by omega)]
        · refine iteF' (decide_eq_false c3) ?_
          refine ⟨_, rfl, p, rfl, ⟨_, SqL.of h1⟩, fun D hD => ?_⟩
          have nDp : D ≠ p := ne_of_none h1 hD |>.symm
          refine lc_list (K := K) (a := p) (xs := r.map V.str) (fun i H2 => H2 D = some (.lst (((r.take i).map okLen).map V.bl)) ∧ Same H1 H2) ⟨upd_same, Same.new hD⟩ (fun _ _ _ ⟨_, s2⟩ => SqL.of (s2 _ _ h1)) ?_ ?_
          · rintro i x H2 hi ⟨h2, s2⟩
            obtain ⟨t, ht, rfl⟩ : ∃ t, r[i]? = some t ∧ x = V.str t := by
              rw [List.getElem?_map] at hi
              obtain ⟨t, ht, e⟩ := Option.map_eq_some_iff.mp hi
              exact ⟨t, ht, e.symm⟩
            have tl := se t (List.mem_of_getElem? ht)
            refine ⟨rfl, ?_⟩
            refine ⟨_, rfl, t, rfl, sz_of (by omega), _, _, rfl, rfl, _, rfl, ?_⟩
            have ac : ∀ b : Bool, okLen t = b → ∃ acc, H2 D = some (.lst acc) ∧ acc.length < sizeLine ∧ (upd H2 D (.lst (acc ++ [V.bl b]))) D = some (.lst (((r.take (i + 1)).map okLen).map V.bl)) ∧ Same H1 (upd H2 D (.lst (acc ++ [V.bl b]))) := fun b hb => by
              refine ⟨_, h2, sz_lt (by rw [List.length_map, List.length_map, List.length_take]; omega), ?_, Same.newer s2 hD⟩
              rw [upd_same, take_snoc ht, List.map_append, List.map_append, ← hb]
              rfl
            by_cases c4 : (1 : Int) ≤ (t.length : Int)
            · refine iteT' (decide_eq_true c4) ?_
              refine ⟨_, _, rfl, rfl, ac _ ?_⟩
              unfold okLen
              rw [decide_eq_true (by omega : 1 ≤ t.length), Bool.true_and]
              exact decide_eq_decide.mpr ⟨fun q => by omega, fun q => by omega⟩
            · refine iteF' (decide_eq_false c4) (ac _ ?_)
              unfold okLen
              rw [decide_eq_false (by omega : ¬ 1 ≤ t.length), Bool.false_and]
          · rintro H2 ⟨h2, s2⟩
            rw [List.length_map, List.take_length] at h2
            refine ⟨D, _, rfl, SqL.of h2, _, rfl, ?_⟩
            have e2 : (r.map okLen).all id = r.all okLen := by
              rw [List.all_map]
              try rfl
            have sz2 := s1.trans s2
            have h12 := s2 _ _ h1
            by_cases c5 : r.all okLen = true
            · refine iteF' (by rw [e2, c5]; rfl) ?_
              refine ⟨_, rfl, p, rfl, ⟨_, SqL.of h12⟩, fun G hG => ?_⟩
              refine lc_list (K := K) (a := p) (xs := r.map V.str) (fun i H3 => H3 G = some (.lst (((r.take i).map okSigns).map V.bl)) ∧ Same H2 H3) ⟨upd_same, Same.new hG⟩ (fun _ _ _ ⟨_, s3⟩ => SqL.of (s3 _ _ h12)) ?_ ?_
              · rintro i x H3 hi ⟨h3, s3⟩
                obtain ⟨t, ht, rfl⟩ : ∃ t, r[i]? = some t ∧ x = V.str t := by
                  rw [List.getElem?_map] at hi
                  obtain ⟨t, ht, e⟩ := Option.map_eq_some_iff.mp hi
                  exact ⟨t, ht, e.symm⟩
                have tl := se t (List.mem_of_getElem? ht)
                refine ⟨rfl, ?_⟩
                refine ⟨_, rfl, t, rfl, fun F hF => ?_⟩
                have hxl : t.cps.size = t.length := rfl
                have nFG : G ≠ F := ne_of_none h3 hF
                refine lc_it (walk_str (z := t)) (fun i H4 => H4 F = some (.lst (((t.cps.toList.take i).map fun c => decide (c ∈ lettersS.cps.toList)).map V.bl)) ∧ Same H3 H4) ⟨upd_same, Same.new hF⟩ (fun _ _ _ _ => trivial) ?_ ?_
                · rintro j y4 H4 H5 hj ⟨h4, s4⟩ ⟨rfl, c, hc, rfl⟩
                  refine ⟨rfl, ?_⟩
                  have hc' : t.cps.toList[j]? = some c := by rw [Array.getElem?_toList]; exact hc
                  refine ⟨_, rfl, _, rfl, c, _, rfl, rfl, _, h4, sz_lt (by rw [List.length_map, List.length_map, List.length_take]; omega), ?_, Same.newer s4 hF⟩
                  rw [upd_same, take_snoc hc', List.map_append, List.map_append]
                  try rfl
                · rintro H4 ⟨h4, s4⟩
                  rw [List.take_of_length_le (by simp)] at h4
                  refine ⟨F, _, rfl, SqL.of h4, _, s4 _ _ h3, sz_lt (by rw [List.length_map, List.length_map, List.length_take]; omega), ?_, Same.newer (s3.trans s4) hG⟩
                  rw [upd_same, take_snoc ht, List.map_append, List.map_append]
                  try rfl
              · rintro H3 ⟨h3, s3⟩
                rw [List.length_map, List.take_length] at h3
                refine ⟨G, _, rfl, SqL.of h3, _, rfl, ?_⟩
                have e3 : (r.map okSigns).all id = r.all okSigns := by
                  rw [List.all_map]
                  try rfl
                by_cases c6 : r.all okSigns = true
                · refine iteF' (by rw [e3, c6]; rfl) ?_
                  refine ⟨_, rfl, ksome r ?_ p _ (sz2.trans s3) hp (s3 _ _ h12)⟩
                  have e4 : r ≠ [] := by
                    obtain ⟨f, q, e⟩ := split_ne y
                    rw [hr, e]
                    simp
                  have e5 := List.length_pos_iff.mpr e4
                  rw [hy, if_pos ⟨by omega, by omega, by rw [c5, c6]; rfl⟩]
                · refine iteT' (by rw [e3, Bool.eq_false_iff.mpr c6]; rfl) (knone ?_ _ (sz2.trans s3))
                  rw [hy, if_neg (fun q => by
                    have := q.2.2
                    rw [Bool.eq_false_iff.mpr c6, Bool.and_false] at this
                    cases this)]
            · refine iteT' (by rw [e2, Bool.eq_false_iff.mpr c5]; rfl) (knone ?_ _ sz2)
              rw [hy, if_neg (fun q => by
                have := q.2.2
                rw [Bool.eq_false_iff.mpr c5, Bool.false_and] at this
                cases this)]
      · refine iteT' (by rw [decide_eq_false (fun e => c2 (V.str.inj e))]; rfl) ?_
        exact knone (names_no c' c2) _ (Same.refl _)
abbrev s_l_is_bad : Stmt := topS 29
abbrev N_l_is_bad : List Str := ["way", "thing", "others", "told", "e"]
theorem sc_l_is_bad : FnScope N_l_is_bad ["way", "thing"] (defScope s_l_is_bad) := ⟨rfl, rfl, rfl, by decide +kernel, rfl, by decide +kernel, by decide +kernel⟩
-- xm: XM_BadPath_CleanedError XK_BadPath_BadWord XK_BadPath_DiskError XK_BadPath_Exists XK_BadPath_Fixed XK_BadPath_NoSuch XK_BadPath_NotDir XK_BadPath_BadPath XK_BadPath_TreeError XK_BadPath_ValueError
def sp_l_is_bad_k31 (K : PySem.W.Frag) : Sp := fun vs H Q _ => ∃ (way : Int) (v : V), vs = [.int way, v] ∧
  ((∃ z, v = .str z ∧ z.length ≤ 4000 ∧ pathNames z = none) ∨ ∃ t, TyX K H v t ∧ PySem.W.kitOne K t (.type "str") = some false ∧ ((∃ a, v = .ref a) ∨ flatB v = true)) ∧ ∀ H', Same H H' → Q (.bl true) H'
theorem ok_l_is_bad {f : Addr} {fd : FuncData} (F : Fun K "_law_is_bad" "_law_is_bad" s_l_is_bad f fd) (B : Bt mg) {A_CleanedError : Addr} {A_BadWord : Addr} {A_DiskError : Addr} {A_Exists : Addr} {A_Fixed : Addr} {A_NoSuch : Addr} {A_NotDir : Addr} {A_BadPath : Addr} {A_TreeError : Addr} (XC_CleanedError : XCls K mg "CleanedError" A_CleanedError) (XC_BadWord : XCls K mg "BadWord" A_BadWord) (XC_DiskError : XCls K mg "DiskError" A_DiskError) (XC_Exists : XCls K mg "Exists" A_Exists) (XC_Fixed : XCls K mg "Fixed" A_Fixed) (XC_NoSuch : XCls K mg "NoSuch" A_NoSuch) (XC_NotDir : XCls K mg "NotDir" A_NotDir) (XC_BadPath : XCls K mg "BadPath" A_BadPath) (XC_TreeError : XCls K mg "TreeError" A_TreeError) (XF_BadPath_path : PySem.W.findIn K (.ref A_BadPath) "path" = some none) (XM_BadPath_CleanedError : PySem.W.exmOne K (.ref A_BadPath) (.ref A_CleanedError) = some true) (XK_BadPath_BadWord : PySem.W.kitOne K (.ref A_BadPath) (.ref A_BadWord) = some false) (XK_BadPath_DiskError : PySem.W.kitOne K (.ref A_BadPath) (.ref A_DiskError) = some false) (XK_BadPath_Exists : PySem.W.kitOne K (.ref A_BadPath) (.ref A_Exists) = some false) (XK_BadPath_Fixed : PySem.W.kitOne K (.ref A_BadPath) (.ref A_Fixed) = some false) (XK_BadPath_NoSuch : PySem.W.kitOne K (.ref A_BadPath) (.ref A_NoSuch) = some false) (XK_BadPath_NotDir : PySem.W.kitOne K (.ref A_BadPath) (.ref A_NotDir) = some false) (XK_BadPath_BadPath : PySem.W.kitOne K (.ref A_BadPath) (.ref A_BadPath) = some true) (XK_BadPath_TreeError : PySem.W.kitOne K (.ref A_BadPath) (.ref A_TreeError) = some true) (XK_BadPath_ValueError : PySem.W.kitOne K (.ref A_BadPath) (.type "ValueError") = some true) (BV : mg "ValueError" = none) (C_names_of : Cal P w K mg base (L2.CX P w) "names_of" 3 ["path"] (sp_names_of K A_BadPath)) (C_above : Cal P w K mg base (L2.CX P w) "above" 4 ["path"] (sp_above K A_BadPath)) : GnOk P w K mg base CX0 5 f fd ["way", "thing"] (sp_l_is_bad_k31 K) := by
  refine gn_fun F sc_l_is_bad (fun vs H Q E h => ?_) (fun cdv A outer s H vs Q E hr h => ?_)
  · obtain ⟨way, v, rfl, _⟩ := h
    rfl
  · have xm := XM_BadPath_CleanedError
    have k1 := XK_BadPath_BadWord
    have k2 := XK_BadPath_DiskError
    have k3 := XK_BadPath_Exists
    have k4 := XK_BadPath_Fixed
    have k5 := XK_BadPath_NoSuch
    have k6 := XK_BadPath_NotDir
    have k7 := XK_BadPath_BadPath
    have k8 := XK_BadPath_TreeError
    have k9 := XK_BadPath_ValueError
    obtain ⟨way, v, rfl, hv, k⟩ := h
    refine ⟨_, (pss_cons (ps_set (i := 2) sc_l_is_bad.nd rfl (Or.inl rfl) pe_bl)
    (pss_cons (ps_set (i := 3) sc_l_is_bad.nd rfl (Or.inl rfl) pe_non)
    (pss_cons (ps_try_as (i := 4) rfl rfl sc_l_is_bad.nd rfl rfl ⟨by rfl, by decide, .inl XC_CleanedError.mgC⟩ takes0
      (fun W pn xe tk _ => (pss_one (ps_if (pt_cmpR op_eq (pv 0) pe_int (nomark _))
      (pss_one (ps_expr (pe_calS C_names_of (hr.mono (by decide)) (by rfl) (fun σ => passAt tk σ) (pa_cons (pv 1) pa_nil))))
      (pss_one (ps_expr (pe_calS C_above (hr.mono (by decide)) (by rfl) (fun σ => passAt tk σ) (pa_cons (pv 1) pa_nil)))))))
      (fun a oe cls d pn hz hf => (pss_cons (ps_set (i := 2) sc_l_is_bad.nd rfl (Or.inl rfl) (pe_callB (call_isXT hz hf K) (by rfl) B.isinstance (by decide +kernel) (pa_cons (pv 4) (pa_cons (pe_tup (pa_cons (pe_glob (by rfl) XC_BadWord.mgC (rel_r _)) (pa_cons (pe_glob (by rfl) XC_DiskError.mgC (rel_r _)) (pa_cons (pe_glob (by rfl) XC_Exists.mgC (rel_r _)) (pa_cons (pe_glob (by rfl) XC_Fixed.mgC (rel_r _)) (pa_cons (pe_glob (by rfl) XC_NoSuch.mgC (rel_r _)) (pa_cons (pe_glob (by rfl) XC_NotDir.mgC (rel_r _)) pa_nil))))))) pa_nil))))
    (pss_one (ps_if (PW.pt (pw_and (pt_val (pe_callB (call_isX hz hf K) (by rfl) B.isinstance (by decide +kernel) (pa_cons (pv 4) (pa_cons (pe_glob (by rfl) XC_BadPath.mgC (rel_r _)) pa_nil)))) (pw_and (pt_val (pe_callB (call_isX hz hf K) (by rfl) B.isinstance (by decide +kernel) (pa_cons (pv 4) (pa_cons (pe_glob (by rfl) XC_TreeError.mgC (rel_r _)) pa_nil)))) (pw_and1 (pt_val (pe_callB (call_isX hz hf K) (by rfl) B.isinstance (by decide +kernel) (pa_cons (pv 4) (pa_cons (pe_bltn (v := .ty "ValueError") (by rfl) BV (by decide +kernel) rfl) pa_nil))))))))
      (pss_one (ps_set (i := 3) sc_l_is_bad.nd rfl (Or.inl rfl) (pe_lst (pa_cons (pe_xf XC_BadPath.ek.xf XF_BadPath_path hz hf (pv 4)) pa_nil))))
      pss_nil)))))
    (pss_one (ps_ret (pe_and (pe_not (pv 2)) (pe_one (pe_cmpR (op_eqVK K hr.units) (pv 3) (pe_lst (pa_cons (pv 1) pa_nil)) (nomark _))))))))), ?_⟩
    have hfl : (∃ a, v = .ref a) ∨ flatB v = true := by
      rcases hv with ⟨z, rfl, _⟩ | ⟨_, _, _, h⟩
      · exact .inr rfl
      · exact h
    refine ⟨_, rfl, rfl, _, rfl, ?_⟩
    have hv' : ∀ (E : XK), (∀ d H', Same H H' → H d = none → H' d = some (.xd [("path", v)]) → E (.ref A_BadPath) (some d) H') → ∀ Q, sp_names_of K A_BadPath [v] H Q E ∧ sp_above K A_BadPath [v] H Q E := fun E hE Q => by
      rcases hv with ⟨z, rfl, hz, hn⟩ | ⟨t, ht, hk, _⟩
      · exact ⟨⟨_, rfl, .inl ⟨z, rfl, hz, (fun ns h => by rw [hn] at h; cases h), fun _ => hE⟩⟩, ⟨_, rfl, .inl ⟨z, rfl, hz, (fun ns h => by rw [hn] at h; cases h), fun _ => hE⟩⟩⟩
      · exact ⟨⟨_, rfl, .inr ⟨t, ht, hk, hE⟩⟩, ⟨_, rfl, .inr ⟨t, ht, hk, hE⟩⟩⟩
    refine ite2 (fun c => drop1 (callS1 (v := v) rfl ?_)) (fun c => drop1 (callS1 (v := v) rfl ?_))
    all_goals
      first
      | refine (hv' _ ?_ _).1
      | refine (hv' _ ?_ _).2
      intro d H1 s1 hd hx
      refine ⟨true, xm, fun _ a ha => ?_, fun q => Bool.noConfusion q⟩
      refine ⟨_, rfl, (by show 6 ≤ sizeLine; decide), fun T hT => ?_⟩
      have hxT : (upd H1 T (.tup [.ref A_BadWord, .ref A_DiskError, .ref A_Exists, .ref A_Fixed, .ref A_NoSuch, .ref A_NotDir])) d = some (.xd [("path", v)]) := Same.new hT _ _ hx
      have hTT : (upd H1 T (.tup [.ref A_BadWord, .ref A_DiskError, .ref A_Exists, .ref A_Fixed, .ref A_NoSuch, .ref A_NotDir])) T = some (.tup [.ref A_BadWord, .ref A_DiskError, .ref A_Exists, .ref A_Fixed, .ref A_NoSuch, .ref A_NotDir]) := upd_same
      have sT := s1.trans (Same.new (o := .tup [.ref A_BadWord, .ref A_DiskError, .ref A_Exists, .ref A_Fixed, .ref A_NoSuch, .ref A_NotDir]) hT)
      generalize (upd H1 T (.tup [.ref A_BadWord, .ref A_DiskError, .ref A_Exists, .ref A_Fixed, .ref A_NoSuch, .ref A_NotDir])) = H2 at hxT hTT sT ⊢
      have dk : DctOk (some d) H2 := .inr ⟨d, _, rfl, hxT⟩
      refine ⟨T, _, _, A_BadPath, false, rfl, rfl, XC_BadPath.ek, dk, hTT, .cons (.own _) (.cons (.own _) (.cons (.own _) (.cons (.own _) (.cons (.own _) (.cons (.own _) .nil))))), kitAny_f k1 (kitAny_f k2 (kitAny_f k3 (kitAny_f k4 (kitAny_f k5 (kitAny_f k6 rfl))))), ?_⟩
      refine ⟨_, rfl, _, _, A_BadPath, true, rfl, rfl, XC_BadPath.ek, dk, .own _, k7, _, rfl, ?_⟩
      refine iteT ?_
      refine ⟨_, rfl, _, _, A_BadPath, true, rfl, rfl, XC_BadPath.ek, dk, .own _, k8, _, rfl, ?_⟩
      refine iteT ?_
      refine ⟨_, rfl, _, _, A_BadPath, true, rfl, rfl, XC_BadPath.ek, dk, .ty _, k9, _, rfl, ?_⟩
      refine iteT ?_
      refine ⟨_, rfl, rfl, rfl, d, _, v, rfl, hxT, rfl, (by show 1 ≤ sizeLine; decide), fun L hL => ?_⟩
      refine ⟨_, rfl, _, rfl, _, rfl, ?_⟩
      refine iteT ?_
      refine ⟨_, rfl, _, rfl, (by show 1 ≤ sizeLine; decide), fun M hM => ?_⟩
      have hLM : (upd (upd H2 L (.lst [v])) M (.lst [v])) L = some (.lst [v]) := Same.new hM _ _ upd_same
      refine ⟨1, by decide, .inl ⟨L, M, [v], [v], rfl, rfl, SqL.of hLM, SqL.of upd_same, .cons ?_ .nil⟩, ?_⟩
      · rcases hfl with ⟨b, rfl⟩ | hf
        · exact .inr (.inl ⟨b, rfl, rfl⟩)
        · exact .inl ⟨rfl, hf⟩
      · exact k _ ((sT.trans (Same.new hL)).trans (Same.new hM))
abbrev s_l_text_right : Stmt := topS 30
abbrev N_l_text_right : List Str := ["text", "due", "found"]
theorem sc_l_text_right : FnScope N_l_text_right ["text"] (defScope s_l_text_right) := ⟨rfl, rfl, rfl, by decide +kernel, rfl, by decide +kernel, by decide +kernel⟩
def sp_l_text_right_k31 (K : PySem.W.Frag) : Sp := fun vs H Q _ => ∃ z, vs = [.str z] ∧ TxO 4000 z ∧ ∀ H', Same H H' → Q (.bl true) H'
theorem path_chars {z : Str} {ns : List Str} (h : pathNames z = some ns) : ∀ t ∈ ns, ∀ c ∈ t.cps.toList, c < 128 := by
  unfold pathNames at h
  split at h
  · cases h
    exact fun t ht => nomatch ht
  · split at h
    · cases h
    · split at h
      · rename_i c
        cases h
        intro t ht c' hc
        have q := List.all_eq_true.mp c.2.2.2 t ht
        have q' : (decide (1 ≤ t.length) && decide (t.length ≤ 8) && t.cps.toList.all fun s => decide (s ∈ lettersS.cps.toList)) = true := q
        have q2 := of_decide_eq_true (List.all_eq_true.mp (Bool.and_eq_true_iff.mp q').2 c' hc)
        exact of_decide_eq_true (List.all_eq_true.mp (show lettersS.cps.toList.all (· < 128) = true by decide +kernel) c' q2)
      · cases h
theorem ok_l_text_right {f : Addr} {fd : FuncData} (F : Fun K "_law_text_right" "_law_text_right" s_l_text_right f fd) (B : Bt mg) (C_law_due : Cal P w K mg base CX0 "_law_due" 1 ["text"] sp_l_due_k31) (C_names_of : Cal P w K mg base (L2.CX P w) "names_of" 3 ["path"] (sp_names_of K A_BadPath)) (C_law_is_bad : Cal P w K mg base CX0 "_law_is_bad" 5 ["way", "thing"] (sp_l_is_bad_k31 K)) (C_above : Cal P w K mg base (L2.CX P w) "above" 4 ["path"] (sp_above K A_BadPath)) (C_law_path : Cal P w K mg base CX0 "_law_path" 1 ["names"] (sp_l_path_k31 K)) : GnOk P w K mg base CX0 6 f fd ["text"] (sp_l_text_right_k31 K) := by
  refine gn_fun F sc_l_text_right (fun vs H Q E h => ?_) (fun cdv A outer s H vs Q E hr h => ?_)
  · obtain ⟨z, rfl, _⟩ := h
    rfl
  · obtain ⟨z, rfl, hz, k⟩ := h
    refine ⟨_, (pss_cons (ps_set (i := 1) sc_l_text_right.nd rfl (Or.inl rfl) (pe_cal C_law_due (hr.mono (by decide)) (by rfl) pass0 (pa_cons (pv 0) pa_nil)))
    (pss_cons (ps_if (pt_cmpR op_isN (pv 1) pe_non (nomark _))
      (pss_one (ps_ret (pe_and (pe_cal C_law_is_bad (hr.mono (by decide)) (by rfl) pass0 (pa_cons pe_int (pa_cons (pv 0) pa_nil))) (pe_one (pe_cal C_law_is_bad (hr.mono (by decide)) (by rfl) pass0 (pa_cons pe_int (pa_cons (pv 0) pa_nil)))))))
      pss_nil)
    (pss_cons (ps_set (i := 2) sc_l_text_right.nd rfl (Or.inl rfl) (pe_cal C_names_of (hr.mono (by decide)) (by rfl) passN (pa_cons (pv 0) pa_nil)))
    (pss_cons (ps_if (PW.pt (pw_or (pt_not (pt_val (pe_callB (call_isiK K) (by rfl) B.isinstance (by decide +kernel) (pa_cons (pv 2) (pa_cons (pe_bltn (v := .ty "list") (by rfl) B.list (by decide +kernel) rfl) pa_nil))))) (pw_or1 (pt_cmpR (op_neDK K hr.units) (pv 2) (pv 1) (nomark _)))))
      (pss_one (ps_ret pe_bl))
      pss_nil)
    (pss_cons (ps_expr (pe_bmK K PySem.F.plainAttrs_list PySem.F.slot_list_append PySem.F.type_list_append mt_append (pv 2) (pa_cons pe_str pa_nil)))
    (pss_one (ps_ret (pe_and (pe_cmpR (op_eqDK K hr.units) (pe_cal C_names_of (hr.mono (by decide)) (by rfl) passN (pa_cons (pv 0) pa_nil)) (pv 1) (nomark _)) (pe_one (pe_cmpR op_eq (pe_cal C_above (hr.mono (by decide)) (by rfl) passN (pa_cons (pv 0) pa_nil)) (pe_cal C_law_path (hr.mono (by decide)) (by rfl) pass0 (pa_cons (pe_slice (sl_listK K) (pv 1) po_none (po_some (pe_un un_neg pe_int))) pa_nil)) (nomark _))))))))))), ?_⟩
    refine ⟨_, rfl, z, rfl, hz.1, fun hn H1 s1 => ?_, fun ns hn l H1 s1 hl h1 => ?_⟩
    · refine ⟨_, rfl, rfl, _, rfl, ?_⟩
      refine iteT' (by rfl) ?_
      refine ⟨_, rfl, 0, .str z, rfl, .inl ⟨z, rfl, hz.1, hn⟩, fun H2 s2 => ⟨_, rfl, iteT ?_⟩⟩
      exact ⟨_, rfl, 1, .str z, rfl, .inl ⟨z, rfl, hz.1, hn⟩, fun H3 s3 => k H3 ((s1.trans s2).trans s3)⟩
    · have hno : ∀ {P : Prop}, pathNames z = none → P := fun h => by rw [hn] at h; cases h
      obtain ⟨b1, b2⟩ := path_bd hn
      have b3 := path_chars hn
      have shp : Shp 1 (.list (ns.map PyData.str)) := Shp.list fun d hd => by
        obtain ⟨t, ht, rfl⟩ := List.mem_map.mp hd
        exact Shp.str fun c hc => Nat.lt_trans (b3 t ht c hc) (by decide)
      refine ⟨_, rfl, rfl, _, rfl, ?_⟩
      refine iteF' (decide_eq_false (fun e => by cases e)) ?_
      refine ⟨_, rfl, _, rfl, .inl ⟨z, rfl, hz.1, fun ns' hn' l2 H2 s2 hl2 h2 => ?_, fun h => hno h⟩⟩
      have e : ns' = ns := by rw [hn] at hn'; exact (Option.some.inj hn').symm
      subst e
      have h12 := s2 _ _ h1
      have n12 : l ≠ l2 := ne_of_none h1 hl2
      refine ⟨_, rfl, _, _, _, _, _, rfl, .ty _, .base (.lst h2), kit_ty (r := true) (by decide +kernel), _, rfl, ?_⟩
      refine iteF ?_
      refine ⟨_, rfl, _, rfl, ne_same (k := 1) (Dp.ofL h2 (DtAll.strs _)) (Dp.ofL h12 (DtAll.strs _)) shp ⟨false, rfl, ?_⟩⟩
      refine iteF ?_
      refine ⟨_, rfl, .inl ⟨rfl, _, SqL.of h2⟩, l2, _, _, rfl, rfl, h2, sz_lt (by rw [List.length_map]; omega), ?_⟩
      have s3 : Same H (upd H2 l2 (.lst (ns'.map V.str ++ [.str "z"]))) := Same.newer (s1.trans s2) (same_none s1 hl2)
      have h3 : (upd H2 l2 (.lst (ns'.map V.str ++ [.str "z"]))) l = some (.lst (ns'.map V.str)) := by rw [upd_ne n12]; exact h12
      generalize upd H2 l2 (.lst (ns'.map V.str ++ [.str "z"])) = H3 at s3 h3 ⊢
      refine ⟨_, rfl, _, rfl, .inl ⟨z, rfl, hz.1, fun ns2 hn2 l3 H4 s4 hl3 h4 => ?_, fun h => hno h⟩⟩
      have e : ns2 = ns' := by rw [hn] at hn2; exact (Option.some.inj hn2).symm
      subst e
      have h34 := s4 _ _ h3
      refine ⟨_, rfl, eq_same (k := 1) (Dp.ofL h4 (DtAll.strs _)) (Dp.ofL h34 (DtAll.strs _)) shp ⟨true, rfl, ?_⟩⟩
      refine iteT ?_
      refine ⟨_, rfl, _, rfl, .inl ⟨z, rfl, hz.1, fun ns3 hn3 H5 s5 => ?_, fun h => hno h⟩⟩
      have e : ns3 = ns2 := by rw [hn] at hn3; exact (Option.some.inj hn3).symm
      subst e
      refine ⟨_, rfl, _, rfl, _, rfl, l, _, rfl, SqL.of (s5 _ _ h34), fun p hp => ?_⟩
      have hc : upd H5 p (.lst (cutV (ns3.map V.str) none (some (-1)))) p = some (.lst (ns3.dropLast.map V.str)) := by rw [upd_same, cut_last, List.map_dropLast]
      refine ⟨p, ns3.dropLast, rfl, hc, by rw [List.length_dropLast]; omega, fun t ht => b2 t (List.dropLast_subset _ ht), fun H6 s6 => ⟨rfl, ?_⟩⟩
      rw [decide_eq_true rfl]
      exact k H6 (((s3.trans s4).trans s5).trans ((Same.new hp).trans s6))
abbrev s_law : Stmt := topS 31
abbrev N_law : List Str := ["script", "k", "pot", "names", "text", "handed", "turn", "thing"]
theorem sc_law : FnScope N_law ["script"] (defScope s_law) := ⟨rfl, rfl, rfl, by decide +kernel, rfl, by decide +kernel, by decide +kernel⟩
theorem path_ascii {ns : List Str} (h : ∀ z ∈ ns, ∀ c ∈ z.cps.toList, c < 128) : ∀ c ∈ (pathOf ns).cps.toList, c < 128 := by
  have g : ∀ l : List (List Nat), (∀ z ∈ l, ∀ c ∈ z, c < 128) → ∀ c ∈ TL.joinL (TL.tl "/") l, c < 128 := by
    intro l
    induction l with
    | nil => intro _ c hc; cases hc
    | cons p r ih =>
      intro hl c hc
      cases r with
      | nil => exact hl p List.mem_cons_self c hc
      | cons q r =>
        rcases List.mem_append.mp (show c ∈ p ++ (TL.tl "/" ++ TL.joinL (TL.tl "/") (q :: r)) from hc) with hc | hc
        · exact hl p List.mem_cons_self c hc
        · rcases List.mem_append.mp hc with hc | hc
          · exact of_decide_eq_true (List.all_eq_true.mp (show (TL.tl "/").all (· < 128) = true by decide +kernel) c hc)
          · exact ih (fun z hz => hl z (List.mem_cons_of_mem _ hz)) c hc
  intro c hc
  have e : (pathOf ns).cps.toList = TL.tl "/" ++ TL.joinL (TL.tl "/") (ns.map TL.tl) := by
    show TL.tl (("/" : Str) ++ Txt.join "/" ns) = _
    rw [TL.tl_append, TL.join_eq, TL.tl_join]
  rw [e] at hc
  rcases List.mem_append.mp hc with hc | hc
  · exact of_decide_eq_true (List.all_eq_true.mp (show (TL.tl "/").all (· < 128) = true by decide +kernel) c hc)
  · refine g _ (fun z hz => ?_) c hc
    obtain ⟨t, ht, rfl⟩ := List.mem_map.mp hz
    exact h t ht
theorem ok_law {f : Addr} {fd : FuncData} (F : Fun K "law" "law" s_law f fd) (B : Bt mg) (C_law_pot : Cal P w K mg base CX0 "_law_pot" 1 ["script", "k"] (sp_l_pot_k31 K)) (C_law_names : Cal P w K mg base CX0 "_law_names" 3 ["pot"] (sp_l_names_k31 K)) (C_law_path : Cal P w K mg base CX0 "_law_path" 1 ["names"] (sp_l_path_k31 K)) (C_law_spoilt : Cal P w K mg base CX0 "_law_spoilt" 2 ["pot", "text"] sp_l_spoilt_k31) (C_law_take : Cal P w K mg base CX0 "_law_take" 1 ["pot", "many"] sp_l_tk) (C_path_of : Cal P w K mg base CX0 "path_of" 1 ["names"] (sp_path_of K)) (C_names_of : Cal P w K mg base (L2.CX P w) "names_of" 3 ["path"] (sp_names_of K A_BadPath)) (C_above : Cal P w K mg base (L2.CX P w) "above" 4 ["path"] (sp_above K A_BadPath)) (C_law_text_right : Cal P w K mg base CX0 "_law_text_right" 6 ["text"] (sp_l_text_right_k31 K)) (C_law_is_bad : Cal P w K mg base CX0 "_law_is_bad" 5 ["way", "thing"] (sp_l_is_bad_k31 K)) : GnOk P w K mg base CX0 7 f fd ["script"] (sp_law K) := by
  refine gn_fun F sc_law (fun vs H Q E h => ?_) (fun cdv A outer s H vs Q E hr h => ?_)
  · obtain ⟨a, ns, rfl, _⟩ := h
    rfl
  · obtain ⟨a, ns, rfl, hS, hn, k⟩ := h
    refine ⟨_, (pss_cons (ps_for PassesOwn.never rfl (pi_range1 (by rfl) B.range (pa_cons (pe_callB (call_max2 rfl) (by rfl) B.max (by decide +kernel) (pa_cons pe_int (pa_cons (pe_callB (call_min2 rfl) (by rfl) B.min (by decide +kernel) (pa_cons pe_int (pa_cons (pe_callB (call_lenK K) (by rfl) B.len (by decide +kernel) (pa_cons (pv 0) pa_nil)) pa_nil))) pa_nil))) pa_nil)) (pg_name (i := 1) sc_law.nd rfl (Or.inl rfl))
      (pss_cons (ps_set (i := 2) sc_law.nd rfl (Or.inl rfl) (pe_cal C_law_pot (hr.mono (by decide)) (by rfl) pass0 (pa_cons (pv 0) (pa_cons (pv 1) pa_nil))))
    (pss_cons (ps_set (i := 3) sc_law.nd rfl (Or.inl rfl) (pe_cal C_law_names (hr.mono (by decide)) (by rfl) pass0 (pa_cons (pv 2) pa_nil)))
    (pss_cons (ps_set (i := 4) sc_law.nd rfl (Or.inl rfl) (pe_cal C_law_path (hr.mono (by decide)) (by rfl) pass0 (pa_cons (pv 3) pa_nil)))
    (pss_cons (ps_if (pt_cmpR op_le (pe_callB (call_lenK K) (by rfl) B.len (by decide +kernel) (pa_cons (pv 3) pa_nil)) pe_int (nomark _))
      (pss_cons (ps_set (i := 5) sc_law.nd rfl (Or.inl rfl) (pe_callTy (call_list_ofK K) (by rfl) B.list (by decide +kernel) (pa_cons (pv 3) pa_nil)))
    (pss_one (ps_if (PW.pt (pw_or (pt_cmpR op_ne (pe_cal C_path_of (hr.mono (by decide)) (by rfl) pass0 (pa_cons (pv 5) pa_nil)) (pv 4) (nomark _)) (pw_or (pt_cmpR op_ne (pe_cal C_path_of (hr.mono (by decide)) (by rfl) pass0 (pa_cons (pe_callTy (call_tuple_ofK K) (by rfl) B.tuple (by decide +kernel) (pa_cons (pv 3) pa_nil)) pa_nil)) (pv 4) (nomark _)) (pw_or1 (pt_cmpR (op_neDK K hr.units) (pv 5) (pv 3) (nomark _))))))
      (pss_one (ps_ret pe_bl))
      pss_nil)))
      pss_nil)
    (pss_cons (ps_for PassesOwn.never rfl (pi_range1 (by rfl) B.range (pa_cons pe_int pa_nil)) (pg_name (i := 6) sc_law.nd rfl (Or.inl rfl))
      (pss_cons (ps_if (pt_not (pt_val (pe_cal C_law_text_right (hr.mono (by decide)) (by rfl) pass0 (pa_cons (pv 4) pa_nil))))
      (pss_one (ps_ret pe_bl))
      pss_nil)
    (pss_one (ps_set (i := 4) sc_law.nd rfl (Or.inl rfl) (pe_cal C_law_spoilt (hr.mono (by decide)) (by rfl) pass0 (pa_cons (pv 2) (pa_cons (pv 4) pa_nil)))))))
    (pss_cons (ps_set (i := 7) sc_law.nd rfl (Or.inl rfl) (pe_ix (ix_listK K) (pe_lst (pa_cons pe_non (pa_cons pe_int (pa_cons pe_bl (pa_cons (pe_lst pa_nil) (pa_cons (pe_lst (pa_cons pe_str pa_nil)) (pa_cons (pe_tup (pa_cons pe_str pa_nil)) (pa_cons pe_dnewK (pa_cons (pe_lst (pa_cons pe_str (pa_cons pe_str pa_nil))) (pa_cons (pe_disp (pps_cons pe_str pe_int pps_nil) (by rfl) (by rfl) (fun z => by cases z) (by decide)) (pa_cons pe_int pa_nil))))))))))) (pe_cal C_law_take (hr.mono (by decide)) (by rfl) pass0 (pa_cons (pv 2) (pa_cons pe_int pa_nil))) (fun _ _ => rfl)))
    (pss_one (ps_if (PW.pt (pw_or (pt_not (pt_val (pe_cal C_law_is_bad (hr.mono (by decide)) (by rfl) pass0 (pa_cons pe_int (pa_cons (pv 7) pa_nil))))) (pw_or1 (pt_not (pt_val (pe_cal C_law_is_bad (hr.mono (by decide)) (by rfl) pass0 (pa_cons pe_int (pa_cons (pv 7) pa_nil))))))))
      (pss_one (ps_ret pe_bl))
      pss_nil)))))))))
    (pss_one (ps_ret (pe_and (pe_cmpR op_eq (pe_cal C_path_of (hr.mono (by decide)) (by rfl) pass0 (pa_cons (pe_lst pa_nil) pa_nil)) pe_str (nomark _)) (pe_and (pe_cmpR (op_eqDK K hr.units) (pe_cal C_names_of (hr.mono (by decide)) (by rfl) passN (pa_cons pe_str pa_nil)) (pe_lst pa_nil) (nomark _)) (pe_one (pe_cmpR op_eq (pe_cal C_above (hr.mono (by decide)) (by rfl) passN (pa_cons pe_str pa_nil)) pe_str (nomark _)))))))), ?_⟩
    refine ⟨_, rfl, _, ns.length, rfl, .inl ⟨_, hS, by simp⟩, _, _, rfl, _, _, rfl, ?_⟩
    generalize e : (if (if (ns.length : Int) < (12 : Int) then (ns.length : Int) else (12 : Int)) > 1 then _ else _ : Int) = n
    have hn0 : 0 ≤ n ∧ n ≤ 100 := by
      rw [← e]
      split <;> (try split) <;> omega
    refine ⟨n, rfl, by omega, by omega, for_range (lo := 0) (n := n.toNat) (fun i σ H' => ∃ v1 v2 v3 v4 v5 v6 v7, σ = [some (.ref a), v1, v2, v3, v4, v5, v6, v7] ∧ Same H H') ⟨_, _, _, _, _, _, _, rfl, Same.refl H⟩ ?_ ?_⟩
    rotate_left
    · rintro σ H1 ⟨v1, v2, v3, v4, v5, v6, v7, rfl, s1⟩
      have e0 : pathOf ([] : List Str) = "/" := by
        unfold pathOf
        refine TL.ext_tl ?_
        rw [TL.tl_append]
        rfl
      have p0 : pathNames "/" = some [] := by
        unfold pathNames
        rw [if_pos rfl]
      refine ⟨by decide, fun l hl => ⟨l, [], rfl, .inl (SqL.of upd_same), by decide, rfl, _, rfl, ?_⟩⟩
      rw [e0]
      refine iteT' (by rfl) ?_
      refine ⟨_, rfl, .inl ⟨"/", rfl, by decide, fun ns2 hn2 l2 H2 s2 hl2 h2 => ?_, fun h => by rw [p0] at h; cases h⟩⟩
      have e2 : ns2 = [] := by rw [p0] at hn2; exact (Option.some.inj hn2).symm
      subst e2
      refine ⟨by decide, fun l3 hl3 => ?_⟩
      refine eq_same (k := 1) (Dp.ofL (xs := []) (ds := []) (Same.new hl3 _ _ h2) .nil) (Dp.ofL (xs := []) (ds := []) upd_same .nil) (Shp.list (fun _ h => nomatch h)) ⟨true, rfl, ?_⟩
      refine iteT ?_
      refine ⟨_, rfl, .inl ⟨"/", rfl, by decide, fun ns3 hn3 H3 s3 => ?_, fun h => by rw [p0] at h; cases h⟩⟩
      have e3 : ns3 = [] := by rw [p0] at hn3; exact (Option.some.inj hn3).symm
      subst e3
      refine ⟨rfl, ?_⟩
      rw [show pathOf ([] : List Str).dropLast = "/" from e0, decide_eq_true rfl]
      exact k _
    · rintro i σ H1 hi ⟨v1, v2, v3, v4, v5, v6, v7, rfl, s1⟩
      refine ⟨_, rfl, _, congrArg (fun v => some (some v)) (congrArg V.int (Int.zero_add _)), a, ns, i, rfl, s1.seq hS, by omega, fun p H2 A B s2 f2 p2 => ?_⟩
      refine ⟨_, rfl, p, A, B, rfl, p2, fun q nms H3 a3 b3 s3 f3 p3 h3 l3 nm3 nqp => ?_⟩
      refine ⟨_, rfl, q, nms, rfl, h3, by omega, fun z hz => (nm3 z hz).2.1, fun H4 s4 => ?_⟩
      have h4 := s4 _ _ h3
      have nl8 : ∀ z ∈ nms, z.length ≤ 8 := fun z hz => (nm3 z hz).2.1
      have tl4 : (pathOf nms).length ≤ 400 := pathOf_len (by omega) nl8
      have bd4 : (nms.map (·.length)).sum + nms.length ≤ 10000 := by
        have := sum_le nl8
        omega
      have shp : Shp 1 (.list (nms.map PyData.str)) := Shp.list fun d hd => by
        obtain ⟨t, ht, rfl⟩ := List.mem_map.mp hd
        exact Shp.str fun c hc => Nat.lt_trans ((nm3 t ht).2.2 c hc) (by decide)
      have tx4 : TxO 400 (pathOf nms) := ⟨tl4, path_ascii fun z hz => (nm3 z hz).2.2⟩
      have p4 : Pot H4 p a3 b3 := ⟨s4 _ _ p3.1, p3.2⟩
      have t4 : SameBut p H2 H4 := s3.same s4
      refine ⟨_, rfl, _, nms.length, rfl, .inl ⟨_, SqL.of h4, by simp⟩, _, _, rfl, rfl, _, rfl, ?_⟩
      refine two_ways (F := ?F) (fun (v5 : Option V) H5 => Same H4 H5) (fun kk => ite2 (fun c => ?w1) (fun c => ?w2)) ?rest
      case w1 =>
        refine ⟨_, rfl, q, _, rfl, .inl (SqL.of h4), fun h hh => ?_⟩
        have h5 : upd H4 h (.lst (nms.map V.str)) q = some (.lst (nms.map V.str)) := Same.new hh _ _ h4
        have g5 : upd H4 h (.lst (nms.map V.str)) h = some (.lst (nms.map V.str)) := upd_same
        have s5 : Same H4 (upd H4 h (.lst (nms.map V.str))) := Same.new hh
        generalize upd H4 h (.lst (nms.map V.str)) = H5 at h5 g5 s5 ⊢
        refine ⟨_, rfl, h, nms, rfl, .inl (SqL.of g5), bd4, _, rfl, rfl, _, rfl, ?_⟩
        refine iteF' (by rw [decide_eq_true rfl]; rfl) ?_
        refine ⟨_, rfl, q, _, rfl, .inl ⟨SqL.of h5, fun t ht => ?_⟩⟩
        refine ⟨t, nms, rfl, .inr (SqT.of upd_same), bd4, _, rfl, rfl, _, rfl, ?_⟩
        refine iteF' (by rw [decide_eq_true rfl]; rfl) ?_
        have s6 : Same H5 (upd H5 t (.tup (nms.map V.str))) := Same.new ht
        generalize upd H5 t (.tup (nms.map V.str)) = H6 at s6 ⊢
        refine ⟨_, rfl, _, rfl, ne_same (k := 1) (Dp.ofL (s6 _ _ g5) (DtAll.strs _)) (Dp.ofL (s6 _ _ h5) (DtAll.strs _)) shp ⟨false, rfl, ?_⟩⟩
        refine iteF ?_
        generalize hv5 : some (V.ref h) = w5
        exact kk w5 H6 (s5.trans s6)
      case w2 => exact kk v5 H4 (Same.refl _)
      case rest =>
        rintro w5 H5 s5
        have p5 : Pot H5 p a3 b3 := ⟨s5 _ _ p4.1, p4.2⟩
        have t5 : SameBut p H2 H5 := t4.same s5
        refine ⟨3, rfl, by decide, by decide, for_range (lo := 0) (n := 3) (fun j σ H6 => ∃ T w6 a' b', σ = [some (.ref a), some (.int (0 + (i : Int))), some (.ref p), some (.ref q), some (.str T), w5, w6, v7] ∧ TxO (400 + j) T ∧ Pot H6 p a' b' ∧ SameBut p H2 H6) ⟨_, v6, _, _, rfl, tx4, p5, t5⟩ ?_ ?_⟩
        · rintro j σ H6 hj ⟨T, w6, a6, b6, rfl, tx6, p6, t6⟩
          refine ⟨_, rfl, T, rfl, tx6.mono (by omega), fun H7 s7 => ⟨_, rfl, iteF' rfl ?_⟩⟩
          refine ⟨_, rfl, _, rfl, p, a6, b6, T, 400 + j, rfl, ⟨s7 _ _ p6.1, p6.2⟩, tx6, by omega, fun y H8 a8 b8 s8 p8 ty => ?_⟩
          exact ⟨y, _, a8, b8, rfl, ty, p8, (t6.same s7).trans s8⟩
        · rintro σ H6 ⟨T, w6, a6, b6, rfl, tx6, p6, t6⟩
          have T0 : SameBut p H2 H6 := t6
          refine ⟨by decide, fun l1 f1 => ?_⟩
          have q1 := p6.new (o := .lst []) f1
          have u1 := t6.new (o := .lst []) f1
          have g1 : upd H6 l1 (.lst []) l1 = some (.lst []) := upd_same
          have n1 : l1 ≠ p := p6.ne f1
          generalize upd H6 l1 (.lst []) = Ha at q1 u1 g1 ⊢
          refine ⟨(by show 1 ≤ sizeLine; decide), fun l2 f2' => ?_⟩
          have q2 := q1.new (o := .lst [.str "a"]) f2'
          have u2 := u1.new (o := .lst [.str "a"]) f2'
          have g2 : upd Ha l2 (.lst [.str "a"]) l2 = some (.lst [.str "a"]) := upd_same
          have e2 : Same Ha (upd Ha l2 (.lst [.str "a"])) := Same.new f2'
          have n2 : l2 ≠ p := q1.ne f2'
          generalize upd Ha l2 (.lst [.str "a"]) = Hb at q2 u2 g2 e2 ⊢
          refine ⟨(by show 1 ≤ sizeLine; decide), fun l3' f3' => ?_⟩
          have q3 := q2.new (o := .tup [.str "a"]) f3'
          have u3 := u2.new (o := .tup [.str "a"]) f3'
          have g3 : upd Hb l3' (.tup [.str "a"]) l3' = some (.tup [.str "a"]) := upd_same
          have e3 : Same Hb (upd Hb l3' (.tup [.str "a"])) := Same.new f3'
          have n3 : l3' ≠ p := q2.ne f3'
          generalize upd Hb l3' (.tup [.str "a"]) = Hc at q3 u3 g3 e3 ⊢
          intro l4 f4
          have q4 := q3.new (o := .dK []) f4
          have u4 := u3.new (o := .dK []) f4
          have g4 : upd Hc l4 (.dK []) l4 = some (.dK []) := upd_same
          have e4 : Same Hc (upd Hc l4 (.dK [])) := Same.new f4
          have n4 : l4 ≠ p := q3.ne f4
          generalize upd Hc l4 (.dK []) = Hd at q4 u4 g4 e4 ⊢
          refine ⟨(by show 2 ≤ sizeLine; decide), fun l5 f5 => ?_⟩
          have q5 := q4.new (o := .lst [.str "/", .str "a"]) f5
          have u5 := u4.new (o := .lst [.str "/", .str "a"]) f5
          have g5 : upd Hd l5 (.lst [.str "/", .str "a"]) l5 = some (.lst [.str "/", .str "a"]) := upd_same
          have e5 : Same Hd (upd Hd l5 (.lst [.str "/", .str "a"])) := Same.new f5
          have n5 : l5 ≠ p := q4.ne f5
          generalize upd Hd l5 (.lst [.str "/", .str "a"]) = He at q5 u5 g5 e5 ⊢
          intro l6 f6
          refine ⟨upd_same, [(.inr "/", .int 1)], rfl, by decide, ?_⟩
          have q6 := (q5.new (o := .dK []) f6).other (o := .dK (mergeK [] [(.inr "/", .int 1)])) (q5.ne f6)
          have n6 : l6 ≠ p := q5.ne f6
          have e6 : Same He (upd (upd He l6 (.dK [])) l6 (.dK (mergeK [] [(.inr "/", .int 1)]))) := Same.newer (Same.new f6) f6
          have u6 := u5.same e6
          have g6 : (upd (upd He l6 (.dK [])) l6 (.dK (mergeK [] [(.inr "/", .int 1)]))) l6 = some (.dK (mergeK [] [(.inr "/", .int 1)])) := upd_same
          generalize (upd (upd He l6 (.dK [])) l6 (.dK (mergeK [] [(.inr "/", .int 1)]))) = Hf at q6 u6 g6 e6 ⊢
          refine ⟨(by show 10 ≤ sizeLine; decide), fun L fL => ?_⟩
          have nL : L ≠ p := q6.ne fL
          refine ⟨_, rfl, p, _, _, 10, rfl, q6.new fL, by decide, by decide, fun nn a7 b7 H7 s7 p7 h70 h71 => ?_⟩
          have gL := s7.at upd_same nL
          obtain ⟨v, hv, hvm⟩ := atI_mem (xs := [V.non, V.int 7, V.bl true, V.ref l1, V.ref l2, V.ref l3', V.ref l4, V.ref l5, V.ref l6, V.int 0]) (i := nn) h70 (by show nn < 10; exact h71)
          refine ⟨L, _, _, _, rfl, rfl, SqL.of gL, hv, ?_⟩
          have kp : ∀ {l : Addr} {o : HO}, Hf l = some o → l ≠ p → H7 l = some o := fun g n => s7.at (Same.new fL _ _ g) n
          have k1 := kp (e6 _ _ (e5 _ _ (e4 _ _ (e3 _ _ (e2 _ _ g1))))) n1
          have k2 := kp (e6 _ _ (e5 _ _ (e4 _ _ (e3 _ _ g2)))) n2
          have k3 := kp (e6 _ _ (e5 _ _ (e4 _ _ g3))) n3
          have k4 := kp (e6 _ _ (e5 _ _ g4)) n4
          have k5 := kp (e6 _ _ g5) n5
          have k6 := kp g6 n6
          have vok : ∀ H8, Same H7 H8 → ∃ t, TyX K H8 v t ∧ PySem.W.kitOne K t (.type "str") = some false ∧ ((∃ a, v = .ref a) ∨ flatB v = true) := fun H8 s8 => by
            rcases List.mem_cons.mp hvm with rfl | hvm
            · exact ⟨_, .base .non, kit_ty (r := false) (by decide +kernel), .inr rfl⟩
            rcases List.mem_cons.mp hvm with rfl | hvm
            · exact ⟨_, .base (.int _), kit_ty (r := false) (by decide +kernel), .inr rfl⟩
            rcases List.mem_cons.mp hvm with rfl | hvm
            · exact ⟨_, .base (.bl _), kit_ty (r := false) (by decide +kernel), .inr rfl⟩
            rcases List.mem_cons.mp hvm with rfl | hvm
            · exact ⟨_, .base (.lst (s8 _ _ k1)), kit_ty (r := false) (by decide +kernel), .inl ⟨_, rfl⟩⟩
            rcases List.mem_cons.mp hvm with rfl | hvm
            · exact ⟨_, .base (.lst (s8 _ _ k2)), kit_ty (r := false) (by decide +kernel), .inl ⟨_, rfl⟩⟩
            rcases List.mem_cons.mp hvm with rfl | hvm
            · exact ⟨_, .base (.tup (s8 _ _ k3)), kit_ty (r := false) (by decide +kernel), .inl ⟨_, rfl⟩⟩
            rcases List.mem_cons.mp hvm with rfl | hvm
            · exact ⟨_, .base (.dK (s8 _ _ k4)), kit_ty (r := false) (by decide +kernel), .inl ⟨_, rfl⟩⟩
            rcases List.mem_cons.mp hvm with rfl | hvm
            · exact ⟨_, .base (.lst (s8 _ _ k5)), kit_ty (r := false) (by decide +kernel), .inl ⟨_, rfl⟩⟩
            rcases List.mem_cons.mp hvm with rfl | hvm
            · exact ⟨_, .base (.dK (s8 _ _ k6)), kit_ty (r := false) (by decide +kernel), .inl ⟨_, rfl⟩⟩
            rw [List.mem_singleton.mp hvm]
            exact ⟨_, .base (.int _), kit_ty (r := false) (by decide +kernel), .inr rfl⟩
          obtain ⟨t, ht, hk, hfl⟩ := vok H7 (Same.refl _)
          refine ⟨_, rfl, 0, v, rfl, .inr ⟨t, ht, hk, hfl⟩, fun H8 s8 => ⟨_, rfl, iteF' rfl ?_⟩⟩
          obtain ⟨t', ht', hk', hfl'⟩ := vok H8 s8
          refine ⟨_, rfl, 1, v, rfl, .inr ⟨t', ht', hk', hfl'⟩, fun H9 s9 => ⟨_, rfl, iteF' rfl ?_⟩⟩
          exact ⟨_, _, _, _, _, _, _, rfl, s1.trans (Same.but s2 ((u6.new fL).trans s7 |>.same (s8.trans s9)) f2)⟩
end
theorem all_mk {P : Program} {w : World} {K : PySem.W.Frag} {h : Heap} {mg : Str → Option Value} {fa : Addr} (X : K.In h) (G : h.Ns mainGlobals mg) (hfa : mg "law" = some (.ref fa))
    {tk_MOST_SIGNS : Tok}
    {tk_LETTERS : Tok}
    {tk_STROKE : Tok}
    {tk_MOST_DEEP : Tok}
    {A_CleanedError : Addr} {nm_CleanedError q_CleanedError : Str} {N_CleanedError : Addr} {bs_CleanedError : List Value} {sn_CleanedError : List Str} {sub_CleanedError : List Value} {ab_CleanedError : Bool} {col_CleanedError : Option Bool} {dd_CleanedError : Option Addr} {m0_CleanedError m1_CleanedError m2_CleanedError m3_CleanedError m5_CleanedError : Option Value}
    {A_TreeError : Addr} {nm_TreeError q_TreeError : Str} {N_TreeError : Addr} {bs_TreeError : List Value} {sn_TreeError : List Str} {sub_TreeError : List Value} {ab_TreeError : Bool} {col_TreeError : Option Bool} {dd_TreeError : Option Addr} {m0_TreeError m1_TreeError m2_TreeError m3_TreeError m5_TreeError : Option Value}
    {A_BadPath : Addr} {nm_BadPath q_BadPath : Str} {N_BadPath : Addr} {bs_BadPath : List Value} {sn_BadPath : List Str} {sub_BadPath : List Value} {ab_BadPath : Bool} {col_BadPath : Option Bool} {dd_BadPath : Option Addr} {m0_BadPath m1_BadPath m2_BadPath m3_BadPath m5_BadPath : Option Value}
    {A_BadWord : Addr} {nm_BadWord q_BadWord : Str} {N_BadWord : Addr} {bs_BadWord : List Value} {sn_BadWord : List Str} {sub_BadWord : List Value} {ab_BadWord : Bool} {col_BadWord : Option Bool} {dd_BadWord : Option Addr} {m0_BadWord m1_BadWord m2_BadWord m3_BadWord m5_BadWord : Option Value}
    {A_DiskError : Addr} {nm_DiskError q_DiskError : Str} {N_DiskError : Addr} {bs_DiskError : List Value} {sn_DiskError : List Str} {sub_DiskError : List Value} {ab_DiskError : Bool} {col_DiskError : Option Bool} {dd_DiskError : Option Addr} {m0_DiskError m1_DiskError m2_DiskError m3_DiskError m5_DiskError : Option Value}
    {A_Exists : Addr} {nm_Exists q_Exists : Str} {N_Exists : Addr} {bs_Exists : List Value} {sn_Exists : List Str} {sub_Exists : List Value} {ab_Exists : Bool} {col_Exists : Option Bool} {dd_Exists : Option Addr} {m0_Exists m1_Exists m2_Exists m3_Exists m5_Exists : Option Value}
    {A_Fixed : Addr} {nm_Fixed q_Fixed : Str} {N_Fixed : Addr} {bs_Fixed : List Value} {sn_Fixed : List Str} {sub_Fixed : List Value} {ab_Fixed : Bool} {col_Fixed : Option Bool} {dd_Fixed : Option Addr} {m0_Fixed m1_Fixed m2_Fixed m3_Fixed m5_Fixed : Option Value}
    {A_NoSuch : Addr} {nm_NoSuch q_NoSuch : Str} {N_NoSuch : Addr} {bs_NoSuch : List Value} {sn_NoSuch : List Str} {sub_NoSuch : List Value} {ab_NoSuch : Bool} {col_NoSuch : Option Bool} {dd_NoSuch : Option Addr} {m0_NoSuch m1_NoSuch m2_NoSuch m3_NoSuch m5_NoSuch : Option Value}
    {A_NotDir : Addr} {nm_NotDir q_NotDir : Str} {N_NotDir : Addr} {bs_NotDir : List Value} {sn_NotDir : List Str} {sub_NotDir : List Value} {ab_NotDir : Bool} {col_NotDir : Option Bool} {dd_NotDir : Option Addr} {m0_NotDir m1_NotDir m2_NotDir m3_NotDir m5_NotDir : Option Value}
    {f_BadPath_init : Addr} {oc_BadPath_init kV_BadPath_init dc_BadPath_init pm_BadPath_init cd_BadPath_init ct_BadPath_init : Value} {od_BadPath_init an_BadPath_init : Option Addr} {sl_BadPath_init : Array (Option Value)}
    {f_is_of : Addr} {oc_is_of kV_is_of dc_is_of pm_is_of cd_is_of ct_is_of : Value} {od_is_of an_is_of : Option Addr} {sl_is_of : Array (Option Value)}
    {f_is_name : Addr} {oc_is_name kV_is_name dc_is_name pm_is_name cd_is_name ct_is_name : Value} {od_is_name an_is_name : Option Addr} {sl_is_name : Array (Option Value)}
    {f_names_of : Addr} {oc_names_of kV_names_of dc_names_of pm_names_of cd_names_of ct_names_of : Value} {od_names_of an_names_of : Option Addr} {sl_names_of : Array (Option Value)}
    {f_path_of : Addr} {oc_path_of kV_path_of dc_path_of pm_path_of cd_path_of ct_path_of : Value} {od_path_of an_path_of : Option Addr} {sl_path_of : Array (Option Value)}
    {f_above : Addr} {oc_above kV_above dc_above pm_above cd_above ct_above : Value} {od_above an_above : Option Addr} {sl_above : Array (Option Value)}
    {f_l_pot : Addr} {oc_l_pot kV_l_pot dc_l_pot pm_l_pot cd_l_pot ct_l_pot : Value} {od_l_pot an_l_pot : Option Addr} {sl_l_pot : Array (Option Value)}
    {f_l_take : Addr} {oc_l_take kV_l_take dc_l_take pm_l_take cd_l_take ct_l_take : Value} {od_l_take an_l_take : Option Addr} {sl_l_take : Array (Option Value)}
    {f_l_name : Addr} {oc_l_name kV_l_name dc_l_name pm_l_name cd_l_name ct_l_name : Value} {od_l_name an_l_name : Option Addr} {sl_l_name : Array (Option Value)}
    {f_l_names : Addr} {oc_l_names kV_l_names dc_l_names pm_l_names cd_l_names ct_l_names : Value} {od_l_names an_l_names : Option Addr} {sl_l_names : Array (Option Value)}
    {f_l_path : Addr} {oc_l_path kV_l_path dc_l_path pm_l_path cd_l_path ct_l_path : Value} {od_l_path an_l_path : Option Addr} {sl_l_path : Array (Option Value)}
    {f_l_spoilt : Addr} {oc_l_spoilt kV_l_spoilt dc_l_spoilt pm_l_spoilt cd_l_spoilt ct_l_spoilt : Value} {od_l_spoilt an_l_spoilt : Option Addr} {sl_l_spoilt : Array (Option Value)}
    {f_l_due : Addr} {oc_l_due kV_l_due dc_l_due pm_l_due cd_l_due ct_l_due : Value} {od_l_due an_l_due : Option Addr} {sl_l_due : Array (Option Value)}
    {f_l_is_bad : Addr} {oc_l_is_bad kV_l_is_bad dc_l_is_bad pm_l_is_bad cd_l_is_bad ct_l_is_bad : Value} {od_l_is_bad an_l_is_bad : Option Addr} {sl_l_is_bad : Array (Option Value)}
    {f_l_text_right : Addr} {oc_l_text_right kV_l_text_right dc_l_text_right pm_l_text_right cd_l_text_right ct_l_text_right : Value} {od_l_text_right an_l_text_right : Option Addr} {sl_l_text_right : Array (Option Value)}
    {f_law : Addr} {oc_law kV_law dc_law pm_law cd_law ct_law : Value} {od_law an_law : Option Addr} {sl_law : Array (Option Value)}
    (z_len : PySem.W.nsIn K mainGlobals "len" = some none)
    (z_max : PySem.W.nsIn K mainGlobals "max" = some none)
    (z_min : PySem.W.nsIn K mainGlobals "min" = some none)
    (z_abs : PySem.W.nsIn K mainGlobals "abs" = some none)
    (z_divmod : PySem.W.nsIn K mainGlobals "divmod" = some none)
    (z_range : PySem.W.nsIn K mainGlobals "range" = some none)
    (z_ord : PySem.W.nsIn K mainGlobals "ord" = some none)
    (z_isinstance : PySem.W.nsIn K mainGlobals "isinstance" = some none)
    (z_int : PySem.W.nsIn K mainGlobals "int" = some none)
    (z_str : PySem.W.nsIn K mainGlobals "str" = some none)
    (z_bool : PySem.W.nsIn K mainGlobals "bool" = some none)
    (z_list : PySem.W.nsIn K mainGlobals "list" = some none)
    (z_tuple : PySem.W.nsIn K mainGlobals "tuple" = some none)
    (z_dict : PySem.W.nsIn K mainGlobals "dict" = some none)
    (z_set : PySem.W.nsIn K mainGlobals "set" = some none)
    (z_all : PySem.W.nsIn K mainGlobals "all" = some none)
    (z_any : PySem.W.nsIn K mainGlobals "any" = some none)
    (z_sorted : PySem.W.nsIn K mainGlobals "sorted" = some none)
    (z_enumerate : PySem.W.nsIn K mainGlobals "enumerate" = some none)
    (z_zip : PySem.W.nsIn K mainGlobals "zip" = some none)
    (z_repr : PySem.W.nsIn K mainGlobals "repr" = some none)
    (z_sum : PySem.W.nsIn K mainGlobals "sum" = some none)
    (a_MOST_SIGNS : PySem.W.nsIn K mainGlobals "MOST_SIGNS" = some (some (.int 8 tk_MOST_SIGNS)))
    (a_LETTERS : PySem.W.nsIn K mainGlobals "LETTERS" = some (some (.str "abcdefghijklmnopqrstuvwxyz" tk_LETTERS)))
    (a_STROKE : PySem.W.nsIn K mainGlobals "STROKE" = some (some (.str "/" tk_STROKE)))
    (a_MOST_DEEP : PySem.W.nsIn K mainGlobals "MOST_DEEP" = some (some (.int 8 tk_MOST_DEEP)))
    (z_ValueError : PySem.W.nsIn K mainGlobals "ValueError" = some none)
    (ig_ : PySem.W.specialIn K (.builtin "object.__class__") "__get__" = some (some (.builtin "getset_descriptor.__get__")))
    (it_ : PySem.W.takesIn K (.builtin "object.__class__") = some true)
    (xa_CleanedError : PySem.W.nsIn K mainGlobals "CleanedError" = some (some (.ref A_CleanedError)))
    (xl_CleanedError : K.lookup A_CleanedError = some (excClassObj nm_CleanedError q_CleanedError A_CleanedError N_CleanedError bs_CleanedError [.type "ValueError", .type "Exception", .type "BaseException", .type "object"] true sn_CleanedError sub_CleanedError ab_CleanedError col_CleanedError dd_CleanedError m0_CleanedError m1_CleanedError m2_CleanedError m3_CleanedError m5_CleanedError "ValueError.__new__"))
    (xs_CleanedError : PySem.W.findIn K (.ref A_CleanedError) "__setattr__" = some (some (.builtin "object.__setattr__")))
    (xg_CleanedError : PySem.W.findIn K (.ref A_CleanedError) "__getattribute__" = some (some (.builtin "BaseException.__getattribute__")))
    (xh_CleanedError : PySem.W.findIn K (.ref A_CleanedError) "__getattr__" = some none)
    (xe_CleanedError : PySem.W.subIn K (.ref A_CleanedError) (.type "BaseException") = some true)
    (xt_CleanedError : PySem.W.typeIn K (.ref A_CleanedError) = some (.type "type"))
    (xk_CleanedError : PySem.W.keepIn K (.ref A_CleanedError) = true)
    (xd_CleanedError : PySem.W.hasDictIn K A_CleanedError = true)
    (xc_CleanedError : PySem.W.findIn K (.ref A_CleanedError) "__class__" = some (some (.builtin "object.__class__")))
    (xo_CleanedError : PySem.W.mroIn K A_CleanedError (.type "object") = some true)
    (xa_TreeError : PySem.W.nsIn K mainGlobals "TreeError" = some (some (.ref A_TreeError)))
    (xl_TreeError : K.lookup A_TreeError = some (excClassObj nm_TreeError q_TreeError A_TreeError N_TreeError bs_TreeError [.ref A_CleanedError, .type "ValueError", .type "Exception", .type "BaseException", .type "object"] true sn_TreeError sub_TreeError ab_TreeError col_TreeError dd_TreeError m0_TreeError m1_TreeError m2_TreeError m3_TreeError m5_TreeError "ValueError.__new__"))
    (xs_TreeError : PySem.W.findIn K (.ref A_TreeError) "__setattr__" = some (some (.builtin "object.__setattr__")))
    (xg_TreeError : PySem.W.findIn K (.ref A_TreeError) "__getattribute__" = some (some (.builtin "BaseException.__getattribute__")))
    (xh_TreeError : PySem.W.findIn K (.ref A_TreeError) "__getattr__" = some none)
    (xe_TreeError : PySem.W.subIn K (.ref A_TreeError) (.type "BaseException") = some true)
    (xt_TreeError : PySem.W.typeIn K (.ref A_TreeError) = some (.type "type"))
    (xk_TreeError : PySem.W.keepIn K (.ref A_TreeError) = true)
    (xd_TreeError : PySem.W.hasDictIn K A_TreeError = true)
    (xc_TreeError : PySem.W.findIn K (.ref A_TreeError) "__class__" = some (some (.builtin "object.__class__")))
    (xo_TreeError : PySem.W.mroIn K A_TreeError (.type "object") = some true)
    (xp_TreeError : PySem.W.specialIn K (.ref A_TreeError) "__getattribute__" = some (some (.builtin "type.__getattribute__")))
    (xr_TreeError : PySem.W.readsIn K A_TreeError (.type "type") = true)
    (xn_TreeError : PySem.W.findCls K (.ref A_TreeError) (.type "type") "__init__" = some (.val (.builtin "ValueError.__init__")))
    (xa_BadPath : PySem.W.nsIn K mainGlobals "BadPath" = some (some (.ref A_BadPath)))
    (xl_BadPath : K.lookup A_BadPath = some (excClassObj nm_BadPath q_BadPath A_BadPath N_BadPath bs_BadPath [.ref A_TreeError, .ref A_CleanedError, .type "ValueError", .type "Exception", .type "BaseException", .type "object"] true sn_BadPath sub_BadPath ab_BadPath col_BadPath dd_BadPath m0_BadPath m1_BadPath m2_BadPath m3_BadPath m5_BadPath "ValueError.__new__"))
    (xs_BadPath : PySem.W.findIn K (.ref A_BadPath) "__setattr__" = some (some (.builtin "object.__setattr__")))
    (xg_BadPath : PySem.W.findIn K (.ref A_BadPath) "__getattribute__" = some (some (.builtin "BaseException.__getattribute__")))
    (xh_BadPath : PySem.W.findIn K (.ref A_BadPath) "__getattr__" = some none)
    (xe_BadPath : PySem.W.subIn K (.ref A_BadPath) (.type "BaseException") = some true)
    (xt_BadPath : PySem.W.typeIn K (.ref A_BadPath) = some (.type "type"))
    (xk_BadPath : PySem.W.keepIn K (.ref A_BadPath) = true)
    (xd_BadPath : PySem.W.hasDictIn K A_BadPath = true)
    (xc_BadPath : PySem.W.findIn K (.ref A_BadPath) "__class__" = some (some (.builtin "object.__class__")))
    (xo_BadPath : PySem.W.mroIn K A_BadPath (.type "object") = some true)
    (xa_BadWord : PySem.W.nsIn K mainGlobals "BadWord" = some (some (.ref A_BadWord)))
    (xl_BadWord : K.lookup A_BadWord = some (excClassObj nm_BadWord q_BadWord A_BadWord N_BadWord bs_BadWord [.ref A_TreeError, .ref A_CleanedError, .type "ValueError", .type "Exception", .type "BaseException", .type "object"] true sn_BadWord sub_BadWord ab_BadWord col_BadWord dd_BadWord m0_BadWord m1_BadWord m2_BadWord m3_BadWord m5_BadWord "ValueError.__new__"))
    (xs_BadWord : PySem.W.findIn K (.ref A_BadWord) "__setattr__" = some (some (.builtin "object.__setattr__")))
    (xg_BadWord : PySem.W.findIn K (.ref A_BadWord) "__getattribute__" = some (some (.builtin "BaseException.__getattribute__")))
    (xh_BadWord : PySem.W.findIn K (.ref A_BadWord) "__getattr__" = some none)
    (xe_BadWord : PySem.W.subIn K (.ref A_BadWord) (.type "BaseException") = some true)
    (xt_BadWord : PySem.W.typeIn K (.ref A_BadWord) = some (.type "type"))
    (xk_BadWord : PySem.W.keepIn K (.ref A_BadWord) = true)
    (xd_BadWord : PySem.W.hasDictIn K A_BadWord = true)
    (xc_BadWord : PySem.W.findIn K (.ref A_BadWord) "__class__" = some (some (.builtin "object.__class__")))
    (xo_BadWord : PySem.W.mroIn K A_BadWord (.type "object") = some true)
    (xa_DiskError : PySem.W.nsIn K mainGlobals "DiskError" = some (some (.ref A_DiskError)))
    (xl_DiskError : K.lookup A_DiskError = some (excClassObj nm_DiskError q_DiskError A_DiskError N_DiskError bs_DiskError [.ref A_CleanedError, .type "ValueError", .type "Exception", .type "BaseException", .type "object"] true sn_DiskError sub_DiskError ab_DiskError col_DiskError dd_DiskError m0_DiskError m1_DiskError m2_DiskError m3_DiskError m5_DiskError "ValueError.__new__"))
    (xs_DiskError : PySem.W.findIn K (.ref A_DiskError) "__setattr__" = some (some (.builtin "object.__setattr__")))
    (xg_DiskError : PySem.W.findIn K (.ref A_DiskError) "__getattribute__" = some (some (.builtin "BaseException.__getattribute__")))
    (xh_DiskError : PySem.W.findIn K (.ref A_DiskError) "__getattr__" = some none)
    (xe_DiskError : PySem.W.subIn K (.ref A_DiskError) (.type "BaseException") = some true)
    (xt_DiskError : PySem.W.typeIn K (.ref A_DiskError) = some (.type "type"))
    (xk_DiskError : PySem.W.keepIn K (.ref A_DiskError) = true)
    (xd_DiskError : PySem.W.hasDictIn K A_DiskError = true)
    (xc_DiskError : PySem.W.findIn K (.ref A_DiskError) "__class__" = some (some (.builtin "object.__class__")))
    (xo_DiskError : PySem.W.mroIn K A_DiskError (.type "object") = some true)
    (xa_Exists : PySem.W.nsIn K mainGlobals "Exists" = some (some (.ref A_Exists)))
    (xl_Exists : K.lookup A_Exists = some (excClassObj nm_Exists q_Exists A_Exists N_Exists bs_Exists [.ref A_TreeError, .ref A_CleanedError, .type "ValueError", .type "Exception", .type "BaseException", .type "object"] true sn_Exists sub_Exists ab_Exists col_Exists dd_Exists m0_Exists m1_Exists m2_Exists m3_Exists m5_Exists "ValueError.__new__"))
    (xs_Exists : PySem.W.findIn K (.ref A_Exists) "__setattr__" = some (some (.builtin "object.__setattr__")))
    (xg_Exists : PySem.W.findIn K (.ref A_Exists) "__getattribute__" = some (some (.builtin "BaseException.__getattribute__")))
    (xh_Exists : PySem.W.findIn K (.ref A_Exists) "__getattr__" = some none)
    (xe_Exists : PySem.W.subIn K (.ref A_Exists) (.type "BaseException") = some true)
    (xt_Exists : PySem.W.typeIn K (.ref A_Exists) = some (.type "type"))
    (xk_Exists : PySem.W.keepIn K (.ref A_Exists) = true)
    (xd_Exists : PySem.W.hasDictIn K A_Exists = true)
    (xc_Exists : PySem.W.findIn K (.ref A_Exists) "__class__" = some (some (.builtin "object.__class__")))
    (xo_Exists : PySem.W.mroIn K A_Exists (.type "object") = some true)
    (xa_Fixed : PySem.W.nsIn K mainGlobals "Fixed" = some (some (.ref A_Fixed)))
    (xl_Fixed : K.lookup A_Fixed = some (excClassObj nm_Fixed q_Fixed A_Fixed N_Fixed bs_Fixed [.ref A_TreeError, .ref A_CleanedError, .type "ValueError", .type "Exception", .type "BaseException", .type "object"] true sn_Fixed sub_Fixed ab_Fixed col_Fixed dd_Fixed m0_Fixed m1_Fixed m2_Fixed m3_Fixed m5_Fixed "ValueError.__new__"))
    (xs_Fixed : PySem.W.findIn K (.ref A_Fixed) "__setattr__" = some (some (.builtin "object.__setattr__")))
    (xg_Fixed : PySem.W.findIn K (.ref A_Fixed) "__getattribute__" = some (some (.builtin "BaseException.__getattribute__")))
    (xh_Fixed : PySem.W.findIn K (.ref A_Fixed) "__getattr__" = some none)
    (xe_Fixed : PySem.W.subIn K (.ref A_Fixed) (.type "BaseException") = some true)
    (xt_Fixed : PySem.W.typeIn K (.ref A_Fixed) = some (.type "type"))
    (xk_Fixed : PySem.W.keepIn K (.ref A_Fixed) = true)
    (xd_Fixed : PySem.W.hasDictIn K A_Fixed = true)
    (xc_Fixed : PySem.W.findIn K (.ref A_Fixed) "__class__" = some (some (.builtin "object.__class__")))
    (xo_Fixed : PySem.W.mroIn K A_Fixed (.type "object") = some true)
    (xa_NoSuch : PySem.W.nsIn K mainGlobals "NoSuch" = some (some (.ref A_NoSuch)))
    (xl_NoSuch : K.lookup A_NoSuch = some (excClassObj nm_NoSuch q_NoSuch A_NoSuch N_NoSuch bs_NoSuch [.ref A_TreeError, .ref A_CleanedError, .type "ValueError", .type "Exception", .type "BaseException", .type "object"] true sn_NoSuch sub_NoSuch ab_NoSuch col_NoSuch dd_NoSuch m0_NoSuch m1_NoSuch m2_NoSuch m3_NoSuch m5_NoSuch "ValueError.__new__"))
    (xs_NoSuch : PySem.W.findIn K (.ref A_NoSuch) "__setattr__" = some (some (.builtin "object.__setattr__")))
    (xg_NoSuch : PySem.W.findIn K (.ref A_NoSuch) "__getattribute__" = some (some (.builtin "BaseException.__getattribute__")))
    (xh_NoSuch : PySem.W.findIn K (.ref A_NoSuch) "__getattr__" = some none)
    (xe_NoSuch : PySem.W.subIn K (.ref A_NoSuch) (.type "BaseException") = some true)
    (xt_NoSuch : PySem.W.typeIn K (.ref A_NoSuch) = some (.type "type"))
    (xk_NoSuch : PySem.W.keepIn K (.ref A_NoSuch) = true)
    (xd_NoSuch : PySem.W.hasDictIn K A_NoSuch = true)
    (xc_NoSuch : PySem.W.findIn K (.ref A_NoSuch) "__class__" = some (some (.builtin "object.__class__")))
    (xo_NoSuch : PySem.W.mroIn K A_NoSuch (.type "object") = some true)
    (xa_NotDir : PySem.W.nsIn K mainGlobals "NotDir" = some (some (.ref A_NotDir)))
    (xl_NotDir : K.lookup A_NotDir = some (excClassObj nm_NotDir q_NotDir A_NotDir N_NotDir bs_NotDir [.ref A_TreeError, .ref A_CleanedError, .type "ValueError", .type "Exception", .type "BaseException", .type "object"] true sn_NotDir sub_NotDir ab_NotDir col_NotDir dd_NotDir m0_NotDir m1_NotDir m2_NotDir m3_NotDir m5_NotDir "ValueError.__new__"))
    (xs_NotDir : PySem.W.findIn K (.ref A_NotDir) "__setattr__" = some (some (.builtin "object.__setattr__")))
    (xg_NotDir : PySem.W.findIn K (.ref A_NotDir) "__getattribute__" = some (some (.builtin "BaseException.__getattribute__")))
    (xh_NotDir : PySem.W.findIn K (.ref A_NotDir) "__getattr__" = some none)
    (xe_NotDir : PySem.W.subIn K (.ref A_NotDir) (.type "BaseException") = some true)
    (xt_NotDir : PySem.W.typeIn K (.ref A_NotDir) = some (.type "type"))
    (xk_NotDir : PySem.W.keepIn K (.ref A_NotDir) = true)
    (xd_NotDir : PySem.W.hasDictIn K A_NotDir = true)
    (xc_NotDir : PySem.W.findIn K (.ref A_NotDir) "__class__" = some (some (.builtin "object.__class__")))
    (xo_NotDir : PySem.W.mroIn K A_NotDir (.type "object") = some true)
    (xf_BadPath : PySem.W.findIn K (.ref A_BadPath) "__init__" = some (some (.ref f_BadPath_init)))
    (xy_BadPath : PySem.W.typeIn K (.ref f_BadPath_init) = some (.type "function"))
    (l_BadPath_init : K.lookup f_BadPath_init = some ⟨oc_BadPath_init, od_BadPath_init, .func (PySem.W.fnOf "__init__" "BadPath.__init__" (defArgs s_BadPath_init) (defBody s_BadPath_init) (defScope s_BadPath_init) .none kV_BadPath_init dc_BadPath_init pm_BadPath_init an_BadPath_init cd_BadPath_init ct_BadPath_init), sl_BadPath_init⟩)
    (c_BadPath_init : PySem.W.codeIn K cd_BadPath_init "BadPath.__init__" = true)
    (k_BadPath_init : PySem.W.keepIn K (.ref f_BadPath_init) = true)
    (xq_BadPath : PySem.W.findIn K (.ref A_BadPath) "path" = some none)
    (hXM_BadPath_CleanedError : PySem.W.subIn K (.ref A_BadPath) (.ref A_CleanedError) = some true)
    (hXK_BadPath_BadWord : PySem.W.subIn K (.ref A_BadPath) (.ref A_BadWord) = some false)
    (hXS_BadPath : PySem.W.subIn K (.ref A_BadPath) (.ref A_BadPath) = some true)
    (hXK_BadPath_DiskError : PySem.W.subIn K (.ref A_BadPath) (.ref A_DiskError) = some false)
    (hXK_BadPath_Exists : PySem.W.subIn K (.ref A_BadPath) (.ref A_Exists) = some false)
    (hXK_BadPath_Fixed : PySem.W.subIn K (.ref A_BadPath) (.ref A_Fixed) = some false)
    (hXK_BadPath_NoSuch : PySem.W.subIn K (.ref A_BadPath) (.ref A_NoSuch) = some false)
    (hXK_BadPath_NotDir : PySem.W.subIn K (.ref A_BadPath) (.ref A_NotDir) = some false)
    (hXK_BadPath_BadPath : PySem.W.subIn K (.ref A_BadPath) (.ref A_BadPath) = some true)
    (hXK_BadPath_TreeError : PySem.W.subIn K (.ref A_BadPath) (.ref A_TreeError) = some true)
    (hXK_BadPath_ValueError : PySem.W.subIn K (.ref A_BadPath) (.type "ValueError") = some true)
    (a_is_of : PySem.W.nsIn K mainGlobals "is_of" = some (some (.ref f_is_of)))
    (l_is_of : K.lookup f_is_of = some ⟨oc_is_of, od_is_of, .func (PySem.W.fnOf "is_of" "is_of" (defArgs s_is_of) (defBody s_is_of) (defScope s_is_of) .none kV_is_of dc_is_of pm_is_of an_is_of cd_is_of ct_is_of), sl_is_of⟩)
    (c_is_of : PySem.W.codeIn K cd_is_of "is_of" = true)
    (k_is_of : PySem.W.keepIn K (.ref f_is_of) = true)
    (a_is_name : PySem.W.nsIn K mainGlobals "is_name" = some (some (.ref f_is_name)))
    (l_is_name : K.lookup f_is_name = some ⟨oc_is_name, od_is_name, .func (PySem.W.fnOf "is_name" "is_name" (defArgs s_is_name) (defBody s_is_name) (defScope s_is_name) .none kV_is_name dc_is_name pm_is_name an_is_name cd_is_name ct_is_name), sl_is_name⟩)
    (c_is_name : PySem.W.codeIn K cd_is_name "is_name" = true)
    (k_is_name : PySem.W.keepIn K (.ref f_is_name) = true)
    (a_names_of : PySem.W.nsIn K mainGlobals "names_of" = some (some (.ref f_names_of)))
    (l_names_of : K.lookup f_names_of = some ⟨oc_names_of, od_names_of, .func (PySem.W.fnOf "names_of" "names_of" (defArgs s_names_of) (defBody s_names_of) (defScope s_names_of) .none kV_names_of dc_names_of pm_names_of an_names_of cd_names_of ct_names_of), sl_names_of⟩)
    (c_names_of : PySem.W.codeIn K cd_names_of "names_of" = true)
    (k_names_of : PySem.W.keepIn K (.ref f_names_of) = true)
    (a_path_of : PySem.W.nsIn K mainGlobals "path_of" = some (some (.ref f_path_of)))
    (l_path_of : K.lookup f_path_of = some ⟨oc_path_of, od_path_of, .func (PySem.W.fnOf "path_of" "path_of" (defArgs s_path_of) (defBody s_path_of) (defScope s_path_of) .none kV_path_of dc_path_of pm_path_of an_path_of cd_path_of ct_path_of), sl_path_of⟩)
    (c_path_of : PySem.W.codeIn K cd_path_of "path_of" = true)
    (k_path_of : PySem.W.keepIn K (.ref f_path_of) = true)
    (a_above : PySem.W.nsIn K mainGlobals "above" = some (some (.ref f_above)))
    (l_above : K.lookup f_above = some ⟨oc_above, od_above, .func (PySem.W.fnOf "above" "above" (defArgs s_above) (defBody s_above) (defScope s_above) .none kV_above dc_above pm_above an_above cd_above ct_above), sl_above⟩)
    (c_above : PySem.W.codeIn K cd_above "above" = true)
    (k_above : PySem.W.keepIn K (.ref f_above) = true)
    (a_l_pot : PySem.W.nsIn K mainGlobals "_law_pot" = some (some (.ref f_l_pot)))
    (l_l_pot : K.lookup f_l_pot = some ⟨oc_l_pot, od_l_pot, .func (PySem.W.fnOf "_law_pot" "_law_pot" (defArgs s_l_pot) (defBody s_l_pot) (defScope s_l_pot) .none kV_l_pot dc_l_pot pm_l_pot an_l_pot cd_l_pot ct_l_pot), sl_l_pot⟩)
    (c_l_pot : PySem.W.codeIn K cd_l_pot "_law_pot" = true)
    (k_l_pot : PySem.W.keepIn K (.ref f_l_pot) = true)
    (a_l_take : PySem.W.nsIn K mainGlobals "_law_take" = some (some (.ref f_l_take)))
    (l_l_take : K.lookup f_l_take = some ⟨oc_l_take, od_l_take, .func (PySem.W.fnOf "_law_take" "_law_take" (defArgs s_l_take) (defBody s_l_take) (defScope s_l_take) .none kV_l_take dc_l_take pm_l_take an_l_take cd_l_take ct_l_take), sl_l_take⟩)
    (c_l_take : PySem.W.codeIn K cd_l_take "_law_take" = true)
    (k_l_take : PySem.W.keepIn K (.ref f_l_take) = true)
    (a_l_name : PySem.W.nsIn K mainGlobals "_law_name" = some (some (.ref f_l_name)))
    (l_l_name : K.lookup f_l_name = some ⟨oc_l_name, od_l_name, .func (PySem.W.fnOf "_law_name" "_law_name" (defArgs s_l_name) (defBody s_l_name) (defScope s_l_name) .none kV_l_name dc_l_name pm_l_name an_l_name cd_l_name ct_l_name), sl_l_name⟩)
    (c_l_name : PySem.W.codeIn K cd_l_name "_law_name" = true)
    (k_l_name : PySem.W.keepIn K (.ref f_l_name) = true)
    (a_l_names : PySem.W.nsIn K mainGlobals "_law_names" = some (some (.ref f_l_names)))
    (l_l_names : K.lookup f_l_names = some ⟨oc_l_names, od_l_names, .func (PySem.W.fnOf "_law_names" "_law_names" (defArgs s_l_names) (defBody s_l_names) (defScope s_l_names) .none kV_l_names dc_l_names pm_l_names an_l_names cd_l_names ct_l_names), sl_l_names⟩)
    (c_l_names : PySem.W.codeIn K cd_l_names "_law_names" = true)
    (k_l_names : PySem.W.keepIn K (.ref f_l_names) = true)
    (a_l_path : PySem.W.nsIn K mainGlobals "_law_path" = some (some (.ref f_l_path)))
    (l_l_path : K.lookup f_l_path = some ⟨oc_l_path, od_l_path, .func (PySem.W.fnOf "_law_path" "_law_path" (defArgs s_l_path) (defBody s_l_path) (defScope s_l_path) .none kV_l_path dc_l_path pm_l_path an_l_path cd_l_path ct_l_path), sl_l_path⟩)
    (c_l_path : PySem.W.codeIn K cd_l_path "_law_path" = true)
    (k_l_path : PySem.W.keepIn K (.ref f_l_path) = true)
    (a_l_spoilt : PySem.W.nsIn K mainGlobals "_law_spoilt" = some (some (.ref f_l_spoilt)))
    (l_l_spoilt : K.lookup f_l_spoilt = some ⟨oc_l_spoilt, od_l_spoilt, .func (PySem.W.fnOf "_law_spoilt" "_law_spoilt" (defArgs s_l_spoilt) (defBody s_l_spoilt) (defScope s_l_spoilt) .none kV_l_spoilt dc_l_spoilt pm_l_spoilt an_l_spoilt cd_l_spoilt ct_l_spoilt), sl_l_spoilt⟩)
    (c_l_spoilt : PySem.W.codeIn K cd_l_spoilt "_law_spoilt" = true)
    (k_l_spoilt : PySem.W.keepIn K (.ref f_l_spoilt) = true)
    (a_l_due : PySem.W.nsIn K mainGlobals "_law_due" = some (some (.ref f_l_due)))
    (l_l_due : K.lookup f_l_due = some ⟨oc_l_due, od_l_due, .func (PySem.W.fnOf "_law_due" "_law_due" (defArgs s_l_due) (defBody s_l_due) (defScope s_l_due) .none kV_l_due dc_l_due pm_l_due an_l_due cd_l_due ct_l_due), sl_l_due⟩)
    (c_l_due : PySem.W.codeIn K cd_l_due "_law_due" = true)
    (k_l_due : PySem.W.keepIn K (.ref f_l_due) = true)
    (a_l_is_bad : PySem.W.nsIn K mainGlobals "_law_is_bad" = some (some (.ref f_l_is_bad)))
    (l_l_is_bad : K.lookup f_l_is_bad = some ⟨oc_l_is_bad, od_l_is_bad, .func (PySem.W.fnOf "_law_is_bad" "_law_is_bad" (defArgs s_l_is_bad) (defBody s_l_is_bad) (defScope s_l_is_bad) .none kV_l_is_bad dc_l_is_bad pm_l_is_bad an_l_is_bad cd_l_is_bad ct_l_is_bad), sl_l_is_bad⟩)
    (c_l_is_bad : PySem.W.codeIn K cd_l_is_bad "_law_is_bad" = true)
    (k_l_is_bad : PySem.W.keepIn K (.ref f_l_is_bad) = true)
    (a_l_text_right : PySem.W.nsIn K mainGlobals "_law_text_right" = some (some (.ref f_l_text_right)))
    (l_l_text_right : K.lookup f_l_text_right = some ⟨oc_l_text_right, od_l_text_right, .func (PySem.W.fnOf "_law_text_right" "_law_text_right" (defArgs s_l_text_right) (defBody s_l_text_right) (defScope s_l_text_right) .none kV_l_text_right dc_l_text_right pm_l_text_right an_l_text_right cd_l_text_right ct_l_text_right), sl_l_text_right⟩)
    (c_l_text_right : PySem.W.codeIn K cd_l_text_right "_law_text_right" = true)
    (k_l_text_right : PySem.W.keepIn K (.ref f_l_text_right) = true)
    (a_law : PySem.W.nsIn K mainGlobals "law" = some (some (.ref f_law)))
    (l_law : K.lookup f_law = some ⟨oc_law, od_law, .func (PySem.W.fnOf "law" "law" (defArgs s_law) (defBody s_law) (defScope s_law) .none kV_law dc_law pm_law an_law cd_law ct_law), sl_law⟩)
    (c_law : PySem.W.codeIn K cd_law "law" = true)
    (k_law : PySem.W.keepIn K (.ref f_law) = true) :
    ∃ fd : FuncData, (∀ (s : Shared) (v : Value), BindsTo s fd ⟨[v], []⟩ [("script", v)]) ∧ ∀ base : Heap, K.In base → base.Ns mainGlobals mg → GnOk P w K mg base CX0 7 fa fd ["script"] (sp_law K) := by
  have e := hfa.symm.trans (PySem.W.mg_of X G a_law)
  cases e
  have F_law := fun_mk (st := s_law) l_law c_law k_law
  refine ⟨PySem.W.fnOf "law" "law" (defArgs s_law) (defBody s_law) (defScope s_law) .none kV_law dc_law pm_law an_law cd_law ct_law, fun s v => .of_eq rfl, fun base _ _ => ?_⟩
  have B : Bt mg := ⟨PySem.W.mg_none_of X G z_len, PySem.W.mg_none_of X G z_max, PySem.W.mg_none_of X G z_min, PySem.W.mg_none_of X G z_abs, PySem.W.mg_none_of X G z_divmod, PySem.W.mg_none_of X G z_range, PySem.W.mg_none_of X G z_ord, PySem.W.mg_none_of X G z_isinstance, PySem.W.mg_none_of X G z_int, PySem.W.mg_none_of X G z_str, PySem.W.mg_none_of X G z_bool, PySem.W.mg_none_of X G z_list, PySem.W.mg_none_of X G z_tuple, PySem.W.mg_none_of X G z_dict, PySem.W.mg_none_of X G z_set, PySem.W.mg_none_of X G z_all, PySem.W.mg_none_of X G z_any, PySem.W.mg_none_of X G z_sorted, PySem.W.mg_none_of X G z_enumerate, PySem.W.mg_none_of X G z_zip, PySem.W.mg_none_of X G z_repr, PySem.W.mg_none_of X G z_sum⟩
  have g_MOST_SIGNS := PySem.W.mg_of X G a_MOST_SIGNS
  have g_LETTERS := PySem.W.mg_of X G a_LETTERS
  have g_STROKE := PySem.W.mg_of X G a_STROKE
  have g_MOST_DEEP := PySem.W.mg_of X G a_MOST_DEEP
  have BV := PySem.W.mg_none_of X G z_ValueError
  have XC_CleanedError : XCls K mg "CleanedError" A_CleanedError := ⟨PySem.W.mg_of X G xa_CleanedError, ⟨⟨_, _, _, _, _, _, _, _, _, _, _, _, _, _, _, xl_CleanedError, by kernel_rfl⟩, xs_CleanedError, xe_CleanedError, xt_CleanedError, xk_CleanedError⟩, ⟨xg_CleanedError, xh_CleanedError, xe_CleanedError, xd_CleanedError, xc_CleanedError, ig_, it_, xo_CleanedError⟩⟩
  have XC_TreeError : XCls K mg "TreeError" A_TreeError := ⟨PySem.W.mg_of X G xa_TreeError, ⟨⟨_, _, _, _, _, _, _, _, _, _, _, _, _, _, _, xl_TreeError, by kernel_rfl⟩, xs_TreeError, xe_TreeError, xt_TreeError, xk_TreeError⟩, ⟨xg_TreeError, xh_TreeError, xe_TreeError, xd_TreeError, xc_TreeError, ig_, it_, xo_TreeError⟩⟩
  have XC_BadPath : XCls K mg "BadPath" A_BadPath := ⟨PySem.W.mg_of X G xa_BadPath, ⟨⟨_, _, _, _, _, _, _, _, _, _, _, _, _, _, _, xl_BadPath, by kernel_rfl⟩, xs_BadPath, xe_BadPath, xt_BadPath, xk_BadPath⟩, ⟨xg_BadPath, xh_BadPath, xe_BadPath, xd_BadPath, xc_BadPath, ig_, it_, xo_BadPath⟩⟩
  have XC_BadWord : XCls K mg "BadWord" A_BadWord := ⟨PySem.W.mg_of X G xa_BadWord, ⟨⟨_, _, _, _, _, _, _, _, _, _, _, _, _, _, _, xl_BadWord, by kernel_rfl⟩, xs_BadWord, xe_BadWord, xt_BadWord, xk_BadWord⟩, ⟨xg_BadWord, xh_BadWord, xe_BadWord, xd_BadWord, xc_BadWord, ig_, it_, xo_BadWord⟩⟩
  have XC_DiskError : XCls K mg "DiskError" A_DiskError := ⟨PySem.W.mg_of X G xa_DiskError, ⟨⟨_, _, _, _, _, _, _, _, _, _, _, _, _, _, _, xl_DiskError, by kernel_rfl⟩, xs_DiskError, xe_DiskError, xt_DiskError, xk_DiskError⟩, ⟨xg_DiskError, xh_DiskError, xe_DiskError, xd_DiskError, xc_DiskError, ig_, it_, xo_DiskError⟩⟩
  have XC_Exists : XCls K mg "Exists" A_Exists := ⟨PySem.W.mg_of X G xa_Exists, ⟨⟨_, _, _, _, _, _, _, _, _, _, _, _, _, _, _, xl_Exists, by kernel_rfl⟩, xs_Exists, xe_Exists, xt_Exists, xk_Exists⟩, ⟨xg_Exists, xh_Exists, xe_Exists, xd_Exists, xc_Exists, ig_, it_, xo_Exists⟩⟩
  have XC_Fixed : XCls K mg "Fixed" A_Fixed := ⟨PySem.W.mg_of X G xa_Fixed, ⟨⟨_, _, _, _, _, _, _, _, _, _, _, _, _, _, _, xl_Fixed, by kernel_rfl⟩, xs_Fixed, xe_Fixed, xt_Fixed, xk_Fixed⟩, ⟨xg_Fixed, xh_Fixed, xe_Fixed, xd_Fixed, xc_Fixed, ig_, it_, xo_Fixed⟩⟩
  have XC_NoSuch : XCls K mg "NoSuch" A_NoSuch := ⟨PySem.W.mg_of X G xa_NoSuch, ⟨⟨_, _, _, _, _, _, _, _, _, _, _, _, _, _, _, xl_NoSuch, by kernel_rfl⟩, xs_NoSuch, xe_NoSuch, xt_NoSuch, xk_NoSuch⟩, ⟨xg_NoSuch, xh_NoSuch, xe_NoSuch, xd_NoSuch, xc_NoSuch, ig_, it_, xo_NoSuch⟩⟩
  have XC_NotDir : XCls K mg "NotDir" A_NotDir := ⟨PySem.W.mg_of X G xa_NotDir, ⟨⟨_, _, _, _, _, _, _, _, _, _, _, _, _, _, _, xl_NotDir, by kernel_rfl⟩, xs_NotDir, xe_NotDir, xt_NotDir, xk_NotDir⟩, ⟨xg_NotDir, xh_NotDir, xe_NotDir, xd_NotDir, xc_NotDir, ig_, it_, xo_NotDir⟩⟩
  have XO_TreeError : OBase K mg "TreeError" A_TreeError := ⟨XC_TreeError.mgC, xp_TreeError, xr_TreeError, xn_TreeError⟩
  have F_BadPath_init := fun_mk (st := s_BadPath_init) l_BadPath_init c_BadPath_init k_BadPath_init
  have XI_BadPath : ExI P w K mg base "BadPath" A_BadPath ["self", "path"] (sp_exc1 "path" A_BadPath) := ⟨XC_BadPath.mgC, XC_BadPath.ox, f_BadPath_init, _, xf_BadPath, xy_BadPath, ok_BadPath_init F_BadPath_init XC_BadPath XO_TreeError xq_BadPath, F_BadPath_init.binds (ps := ["self", "path"]) fun _ _ _ _ _ _ us hl => match us, hl with | [_, _], _ => rfl⟩
  have XF_BadPath_path := xq_BadPath
  have XM_BadPath_CleanedError := PySem.W.exm_ref xe_CleanedError xd_CleanedError xt_CleanedError hXM_BadPath_CleanedError
  have XK_BadPath_BadWord := kit_own xd_BadWord xt_BadWord hXK_BadPath_BadWord hXS_BadPath
  have XK_BadPath_DiskError := kit_own xd_DiskError xt_DiskError hXK_BadPath_DiskError hXS_BadPath
  have XK_BadPath_Exists := kit_own xd_Exists xt_Exists hXK_BadPath_Exists hXS_BadPath
  have XK_BadPath_Fixed := kit_own xd_Fixed xt_Fixed hXK_BadPath_Fixed hXS_BadPath
  have XK_BadPath_NoSuch := kit_own xd_NoSuch xt_NoSuch hXK_BadPath_NoSuch hXS_BadPath
  have XK_BadPath_NotDir := kit_own xd_NotDir xt_NotDir hXK_BadPath_NotDir hXS_BadPath
  have XK_BadPath_BadPath := kit_own xd_BadPath xt_BadPath hXK_BadPath_BadPath hXS_BadPath
  have XK_BadPath_TreeError := kit_own xd_TreeError xt_TreeError hXK_BadPath_TreeError hXS_BadPath
  have XK_BadPath_ValueError := kit_bi hXK_BadPath_ValueError
  have C_is_of : Cal P w K mg base CX0 "is_of" 1 ["thing", "signs"] (sp_is_of K) := cal_mk X G a_is_of l_is_of c_is_of k_is_of (fun _ _ _ _ _ _ us hl => match us, hl with | [_, _], _ => rfl) (fun F => ok_is_of F B g_MOST_SIGNS)
  have C_is_name : Cal P w K mg base CX0 "is_name" 2 ["thing"] (sp_is_name K) := cal_mk X G a_is_name l_is_name c_is_name k_is_name (fun _ _ _ _ _ _ us hl => match us, hl with | [_], _ => rfl) (fun F => ok_is_name F B C_is_of g_LETTERS)
  have C_names_of : Cal P w K mg base (L2.CX P w) "names_of" 3 ["path"] (sp_names_of K A_BadPath) := cal_mk X G a_names_of l_names_of c_names_of k_names_of (fun _ _ _ _ _ _ us hl => match us, hl with | [_], _ => rfl) (fun F => ok_names_of F B XI_BadPath C_is_name g_STROKE g_MOST_DEEP)
  have C_path_of : Cal P w K mg base CX0 "path_of" 1 ["names"] (sp_path_of K) := cal_mk X G a_path_of l_path_of c_path_of k_path_of (fun _ _ _ _ _ _ us hl => match us, hl with | [_], _ => rfl) (fun F => ok_path_of F B g_STROKE)
  have C_above : Cal P w K mg base (L2.CX P w) "above" 4 ["path"] (sp_above K A_BadPath) := cal_mk X G a_above l_above c_above k_above (fun _ _ _ _ _ _ us hl => match us, hl with | [_], _ => rfl) (fun F => ok_above F B C_path_of C_names_of)
  have C_law_pot : Cal P w K mg base CX0 "_law_pot" 1 ["script", "k"] (sp_l_pot_k31 K) := cal_mk X G a_l_pot l_l_pot c_l_pot k_l_pot (fun _ _ _ _ _ _ us hl => match us, hl with | [_, _], _ => rfl) (fun F => ok_l_pot F B)
  have C_law_take : Cal P w K mg base CX0 "_law_take" 1 ["pot", "many"] sp_l_tk := cal_mk X G a_l_take l_l_take c_l_take k_l_take (fun _ _ _ _ _ _ us hl => match us, hl with | [_, _], _ => rfl) (fun F => ok_l_take F B)
  have C_law_name : Cal P w K mg base CX0 "_law_name" 2 ["pot", "some"] (sp_l_name_k31 K) := cal_mk X G a_l_name l_l_name c_l_name k_l_name (fun _ _ _ _ _ _ us hl => match us, hl with | [_, _], _ => rfl) (fun F => ok_l_name F B C_law_take)
  have C_law_names : Cal P w K mg base CX0 "_law_names" 3 ["pot"] (sp_l_names_k31 K) := cal_mk X G a_l_names l_l_names c_l_names k_l_names (fun _ _ _ _ _ _ us hl => match us, hl with | [_], _ => rfl) (fun F => ok_l_names F B C_law_take C_law_name)
  have C_law_path : Cal P w K mg base CX0 "_law_path" 1 ["names"] (sp_l_path_k31 K) := cal_mk X G a_l_path l_l_path c_l_path k_l_path (fun _ _ _ _ _ _ us hl => match us, hl with | [_], _ => rfl) (fun F => ok_l_path F B)
  have C_law_spoilt : Cal P w K mg base CX0 "_law_spoilt" 2 ["pot", "text"] sp_l_spoilt_k31 := cal_mk X G a_l_spoilt l_l_spoilt c_l_spoilt k_l_spoilt (fun _ _ _ _ _ _ us hl => match us, hl with | [_, _], _ => rfl) (fun F => ok_l_spoilt F B C_law_take)
  have C_law_due : Cal P w K mg base CX0 "_law_due" 1 ["text"] sp_l_due_k31 := cal_mk X G a_l_due l_l_due c_l_due k_l_due (fun _ _ _ _ _ _ us hl => match us, hl with | [_], _ => rfl) (fun F => ok_l_due F B)
  have C_law_is_bad : Cal P w K mg base CX0 "_law_is_bad" 5 ["way", "thing"] (sp_l_is_bad_k31 K) := cal_mk X G a_l_is_bad l_l_is_bad c_l_is_bad k_l_is_bad (fun _ _ _ _ _ _ us hl => match us, hl with | [_, _], _ => rfl) (fun F => ok_l_is_bad F B XC_CleanedError XC_BadWord XC_DiskError XC_Exists XC_Fixed XC_NoSuch XC_NotDir XC_BadPath XC_TreeError XF_BadPath_path XM_BadPath_CleanedError XK_BadPath_BadWord XK_BadPath_DiskError XK_BadPath_Exists XK_BadPath_Fixed XK_BadPath_NoSuch XK_BadPath_NotDir XK_BadPath_BadPath XK_BadPath_TreeError XK_BadPath_ValueError BV C_names_of C_above)
  have C_law_text_right : Cal P w K mg base CX0 "_law_text_right" 6 ["text"] (sp_l_text_right_k31 K) := cal_mk X G a_l_text_right l_l_text_right c_l_text_right k_l_text_right (fun _ _ _ _ _ _ us hl => match us, hl with | [_], _ => rfl) (fun F => ok_l_text_right F B C_law_due C_names_of C_law_is_bad C_above C_law_path)
  exact ok_law F_law B C_law_pot C_law_names C_law_path C_law_spoilt C_law_take C_path_of C_names_of C_above C_law_text_right C_law_is_bad
theorem walk {l : PySem.W.OpenLaw} {q : Program} {loose : List Str} {XP : (Str → Option Value) → Heap → Prop} {YP : World → Heap → Prop} {d : DefRec} {K : Params → PySem.W.Frag} (hn : l.most = some 63) (hdf : d.params.defaults = [])
    (hY : ∀ (w : World) (h : Heap), YP w h → (K w.params).In h)
    (F : ∀ (w : World) (mg : Str → Option Value) (fa : Addr) (h : Heap), (K w.params).In h → h.Ns mainGlobals mg → mg d.name = some (.ref fa) →
      ∃ fd : FuncData, (∀ (s : Shared) (u : Value), BindsTo s fd ⟨[u], []⟩ [("script", u)]) ∧ ∀ base : Heap, (K w.params).In base → base.Ns mainGlobals mg → GnOk l.prog w (K w.params) mg base CX0 7 fa fd ["script"] (sp_law (K w.params))) :
    PySem.W.WalkO q loose XP YP l.row.toRowW d [] (fun f vs => PySem.call f vs) :=
  gn_walk (n := 63) (k := 7) (x := "script") (CX := fun _ => CX0) (sp := sp_law) hn (by decide) hdf ⟨rfl, by decide, by decide⟩ hY F (fun _ _ a ns hl hS => ⟨a, ns, rfl, hS, hl, fun _ => rfl⟩) fun _ _ _ _ _ z => z
end Cl
open PySem PySem.W PyProof.Rows
set_option maxRecDepth 100000 in
set_option maxHeartbeats 0 in
theorem PySem.Challenge.cw_cleanedlog_k31_paths_holds : PySem.Challenge.rw_cleanedlog_k31_paths.Holds := by
  w_on; o_law; k_head; (case hw => w_witness2)
  k_fill
  refine Cl.walk (l := PySem.Challenge.rw_cleanedlog_k31_paths) rfl rfl (fun w h Y => PySem.W.kIn_of Y) ?F
  case F =>
    intro w mg fa h KX G hmg
    refine' Cl.all_mk KX G hmg ?z_len ?z_max ?z_min ?z_abs ?z_divmod ?z_range ?z_ord ?z_isinstance ?z_int ?z_str ?z_bool ?z_list ?z_tuple ?z_dict ?z_set ?z_all ?z_any ?z_sorted ?z_enumerate ?z_zip ?z_repr ?z_sum ?a_MOST_SIGNS ?a_LETTERS ?a_STROKE ?a_MOST_DEEP ?z_ValueError ?ig_ ?it_ ?xa_CleanedError ?xl_CleanedError ?xs_CleanedError ?xg_CleanedError ?xh_CleanedError ?xe_CleanedError ?xt_CleanedError ?xk_CleanedError ?xd_CleanedError ?xc_CleanedError ?xo_CleanedError ?xa_TreeError ?xl_TreeError ?xs_TreeError ?xg_TreeError ?xh_TreeError ?xe_TreeError ?xt_TreeError ?xk_TreeError ?xd_TreeError ?xc_TreeError ?xo_TreeError ?xp_TreeError ?xr_TreeError ?xn_TreeError ?xa_BadPath ?xl_BadPath ?xs_BadPath ?xg_BadPath ?xh_BadPath ?xe_BadPath ?xt_BadPath ?xk_BadPath ?xd_BadPath ?xc_BadPath ?xo_BadPath ?xa_BadWord ?xl_BadWord ?xs_BadWord ?xg_BadWord ?xh_BadWord ?xe_BadWord ?xt_BadWord ?xk_BadWord ?xd_BadWord ?xc_BadWord ?xo_BadWord ?xa_DiskError ?xl_DiskError ?xs_DiskError ?xg_DiskError ?xh_DiskError ?xe_DiskError ?xt_DiskError ?xk_DiskError ?xd_DiskError ?xc_DiskError ?xo_DiskError ?xa_Exists ?xl_Exists ?xs_Exists ?xg_Exists ?xh_Exists ?xe_Exists ?xt_Exists ?xk_Exists ?xd_Exists ?xc_Exists ?xo_Exists ?xa_Fixed ?xl_Fixed ?xs_Fixed ?xg_Fixed ?xh_Fixed ?xe_Fixed ?xt_Fixed ?xk_Fixed ?xd_Fixed ?xc_Fixed ?xo_Fixed ?xa_NoSuch ?xl_NoSuch ?xs_NoSuch ?xg_NoSuch ?xh_NoSuch ?xe_NoSuch ?xt_NoSuch ?xk_NoSuch ?xd_NoSuch ?xc_NoSuch ?xo_NoSuch ?xa_NotDir ?xl_NotDir ?xs_NotDir ?xg_NotDir ?xh_NotDir ?xe_NotDir ?xt_NotDir ?xk_NotDir ?xd_NotDir ?xc_NotDir ?xo_NotDir ?xf_BadPath ?xy_BadPath ?l_BadPath_init ?c_BadPath_init ?k_BadPath_init ?xq_BadPath ?hXM_BadPath_CleanedError ?hXK_BadPath_BadWord ?hXS_BadPath ?hXK_BadPath_DiskError ?hXK_BadPath_Exists ?hXK_BadPath_Fixed ?hXK_BadPath_NoSuch ?hXK_BadPath_NotDir ?hXK_BadPath_BadPath ?hXK_BadPath_TreeError ?hXK_BadPath_ValueError ?a_is_of ?l_is_of ?c_is_of ?k_is_of ?a_is_name ?l_is_name ?c_is_name ?k_is_name ?a_names_of ?l_names_of ?c_names_of ?k_names_of ?a_path_of ?l_path_of ?c_path_of ?k_path_of ?a_above ?l_above ?c_above ?k_above ?a_l_pot ?l_l_pot ?c_l_pot ?k_l_pot ?a_l_take ?l_l_take ?c_l_take ?k_l_take ?a_l_name ?l_l_name ?c_l_name ?k_l_name ?a_l_names ?l_l_names ?c_l_names ?k_l_names ?a_l_path ?l_l_path ?c_l_path ?k_l_path ?a_l_spoilt ?l_l_spoilt ?c_l_spoilt ?k_l_spoilt ?a_l_due ?l_l_due ?c_l_due ?k_l_due ?a_l_is_bad ?l_l_is_bad ?c_l_is_bad ?k_l_is_bad ?a_l_text_right ?l_l_text_right ?c_l_text_right ?k_l_text_right ?a_law ?l_law ?c_law ?k_law
    (case z_len => k_is); (case z_max => k_is); (case z_min => k_is); (case z_abs => k_is); (case z_divmod => k_is); (case z_range => k_is); (case z_ord => k_is); (case z_isinstance => k_is); (case z_int => k_is); (case z_str => k_is); (case z_bool => k_is); (case z_list => k_is); (case z_tuple => k_is); (case z_dict => k_is); (case z_set => k_is); (case z_all => k_is); (case z_any => k_is); (case z_sorted => k_is); (case z_enumerate => k_is); (case z_zip => k_is); (case z_repr => k_is); (case z_sum => k_is); (case a_MOST_SIGNS => k_is); (case a_LETTERS => k_is); (case a_STROKE => k_is); (case a_MOST_DEEP => k_is); (case z_ValueError => k_is); (case ig_ => k_is); (case it_ => k_is); (case xa_CleanedError => k_is); (case xl_CleanedError => k_is); (case xs_CleanedError => k_is); (case xg_CleanedError => k_is); (case xh_CleanedError => k_is); (case xe_CleanedError => k_is); (case xt_CleanedError => k_is); (case xk_CleanedError => k_is); (case xd_CleanedError => k_is); (case xc_CleanedError => k_is); (case xo_CleanedError => k_is); (case xa_TreeError => k_is); (case xl_TreeError => k_is); (case xs_TreeError => k_is); (case xg_TreeError => k_is); (case xh_TreeError => k_is); (case xe_TreeError => k_is); (case xt_TreeError => k_is); (case xk_TreeError => k_is); (case xd_TreeError => k_is); (case xc_TreeError => k_is); (case xo_TreeError => k_is); (case xp_TreeError => k_is); (case xr_TreeError => k_is); (case xn_TreeError => k_is); (case xa_BadPath => k_is); (case xl_BadPath => k_is); (case xs_BadPath => k_is); (case xg_BadPath => k_is); (case xh_BadPath => k_is); (case xe_BadPath => k_is); (case xt_BadPath => k_is); (case xk_BadPath => k_is); (case xd_BadPath => k_is); (case xc_BadPath => k_is); (case xo_BadPath => k_is); (case xa_BadWord => k_is); (case xl_BadWord => k_is); (case xs_BadWord => k_is); (case xg_BadWord => k_is); (case xh_BadWord => k_is); (case xe_BadWord => k_is); (case xt_BadWord => k_is); (case xk_BadWord => k_is); (case xd_BadWord => k_is); (case xc_BadWord => k_is); (case xo_BadWord => k_is); (case xa_DiskError => k_is); (case xl_DiskError => k_is); (case xs_DiskError => k_is); (case xg_DiskError => k_is); (case xh_DiskError => k_is); (case xe_DiskError => k_is); (case xt_DiskError => k_is); (case xk_DiskError => k_is); (case xd_DiskError => k_is); (case xc_DiskError => k_is); (case xo_DiskError => k_is); (case xa_Exists => k_is); (case xl_Exists => k_is); (case xs_Exists => k_is); (case xg_Exists => k_is); (case xh_Exists => k_is); (case xe_Exists => k_is); (case xt_Exists => k_is); (case xk_Exists => k_is); (case xd_Exists => k_is); (case xc_Exists => k_is); (case xo_Exists => k_is); (case xa_Fixed => k_is); (case xl_Fixed => k_is); (case xs_Fixed => k_is); (case xg_Fixed => k_is); (case xh_Fixed => k_is); (case xe_Fixed => k_is); (case xt_Fixed => k_is); (case xk_Fixed => k_is); (case xd_Fixed => k_is); (case xc_Fixed => k_is); (case xo_Fixed => k_is); (case xa_NoSuch => k_is); (case xl_NoSuch => k_is); (case xs_NoSuch => k_is); (case xg_NoSuch => k_is); (case xh_NoSuch => k_is); (case xe_NoSuch => k_is); (case xt_NoSuch => k_is); (case xk_NoSuch => k_is); (case xd_NoSuch => k_is); (case xc_NoSuch => k_is); (case xo_NoSuch => k_is); (case xa_NotDir => k_is); (case xl_NotDir => k_is); (case xs_NotDir => k_is); (case xg_NotDir => k_is); (case xh_NotDir => k_is); (case xe_NotDir => k_is); (case xt_NotDir => k_is); (case xk_NotDir => k_is); (case xd_NotDir => k_is); (case xc_NotDir => k_is); (case xo_NotDir => k_is); (case xf_BadPath => k_is); (case xy_BadPath => k_is); (case l_BadPath_init => k_is); (case c_BadPath_init => k_is); (case k_BadPath_init => k_is); (case xq_BadPath => k_is); (case hXM_BadPath_CleanedError => k_is); (case hXK_BadPath_BadWord => k_is); (case hXS_BadPath => k_is); (case hXK_BadPath_DiskError => k_is); (case hXK_BadPath_Exists => k_is); (case hXK_BadPath_Fixed => k_is); (case hXK_BadPath_NoSuch => k_is); (case hXK_BadPath_NotDir => k_is); (case hXK_BadPath_BadPath => k_is); (case hXK_BadPath_TreeError => k_is); (case hXK_BadPath_ValueError => k_is); (case a_is_of => k_is); (case l_is_of => k_is); (case c_is_of => k_is); (case k_is_of => k_is); (case a_is_name => k_is); (case l_is_name => k_is); (case c_is_name => k_is); (case k_is_name => k_is); (case a_names_of => k_is); (case l_names_of => k_is); (case c_names_of => k_is); (case k_names_of => k_is); (case a_path_of => k_is); (case l_path_of => k_is); (case c_path_of => k_is); (case k_path_of => k_is); (case a_above => k_is); (case l_above => k_is); (case c_above => k_is); (case k_above => k_is); (case a_l_pot => k_is); (case l_l_pot => k_is); (case c_l_pot => k_is); (case k_l_pot => k_is); (case a_l_take => k_is); (case l_l_take => k_is); (case c_l_take => k_is); (case k_l_take => k_is); (case a_l_name => k_is); (case l_l_name => k_is); (case c_l_name => k_is); (case k_l_name => k_is); (case a_l_names => k_is); (case l_l_names => k_is); (case c_l_names => k_is); (case k_l_names => k_is); (case a_l_path => k_is); (case l_l_path => k_is); (case c_l_path => k_is); (case k_l_path => k_is); (case a_l_spoilt => k_is); (case l_l_spoilt => k_is); (case c_l_spoilt => k_is); (case k_l_spoilt => k_is); (case a_l_due => k_is); (case l_l_due => k_is); (case c_l_due => k_is); (case k_l_due => k_is); (case a_l_is_bad => k_is); (case l_l_is_bad => k_is); (case c_l_is_bad => k_is); (case k_l_is_bad => k_is); (case a_l_text_right => k_is); (case l_l_text_right => k_is); (case c_l_text_right => k_is); (case k_l_text_right => k_is); (case a_law => k_is); (case l_law => k_is); (case c_law => k_is); (case k_law => k_is)
