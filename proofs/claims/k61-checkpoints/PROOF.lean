import PyProof.Rows.All
import Wide.All
import OpenK.AllK
import Wide.FinOn
import HandS.ForMost
import HandS.ForExc
import HandS.WideBits
import HandS.StrMore
import HandS.Flow
import HandS.IsInst
import HandS.Defaults
import HandS.TupAny
import HandS.Walk
import HandS.More
import HandS.SortInts
import HandS.ListItems
import HandS.ExcValue
import KE.KUnpackStar
import HandS.DictTup
import KE.KSortTup
import HandS.Finally
import PySem.Challenge.RW_cleanedlog_k61_checkpoints
set_option Elab.async false
set_option linter.all false
set_option maxRecDepth 100000
set_option maxHeartbeats 4000000
/-! ### ClG: defs that know that nothing is being shown (repr wants it): promises, calls, methods, makings, the law's own call -/
namespace Cl
open PySem PySem.Spec PyProof.Rows L2

/-- room for k calls, and no repr is running -/
structure Rm (k : Nat) (A : Around) : Prop where
  room : Room k A
  gd : A.guards = some []
theorem Rm.mono {j k : Nat} {A : Around} (r : Rm k A) (h : j ≤ k) : Rm j A := ⟨r.room.mono h, r.gd⟩
theorem Rm.deeper {k : Nat} {A : Around} (r : Rm (k + 1) A) (env : Env) : Rm k (A.deeper env) := ⟨r.room.deeper env, r.gd⟩
theorem Rm.make {k : Nat} {A : Around} (r : Rm (k + 1) A) (C : Addr) (us : List Value) (kw : List (Str × Value)) : Rm k (A.under (.builtin "type.__call__" ⟨.ref C :: us, kw⟩)) := by
  refine ⟨r.room.make C us kw, ?_⟩
  show pushGuards (Code.builtin "type.__call__" ⟨.ref C :: us, kw⟩).guards A.guards = some []
  rw [show (Code.builtin "type.__call__" ⟨.ref C :: us, kw⟩).guards = [] by simp [Code.guards, Code.isGuard, guardIds]]
  exact r.gd
theorem Rm.hu {A : Around} {k : Nat} (hr : Rm k A) : A.units + 1 < cLine := hu_of hr.room
theorem Rm.units {A : Around} {k : Nat} (hr : Rm k A) : A.units + 64 < cLine := hr.room.units

/-- a def that keeps its promise wherever there is such room -/
structure GnOk (P : Program) (w : World) (K : PySem.W.Frag) (mg : Str → Option Value) (base : Heap) (CX : CXT) (k : Nat) (f : Addr) (fd : FuncData) (ps : List Str) (sp : Sp) : Prop where
  len : ∀ vs H Q E, sp vs H Q E → vs.length = ps.length
  run : ∀ (A : Around) (out : List Env) (s : Shared) (H : Hp) (ar : Args) (us : List Value) (vs : List V) (Q : VK) (E : XK), Rm k A → Env0 P w K mg base A out s H →
    BindsTo s fd ar (ps.zip us) → Vals vs us → sp vs H Q E → codeAny (model P w) A (.call (.ref f) ar) (CR CX out P w H s Q E) s

section
variable {P : Program} {w : World} {K : PySem.W.Frag} {mg : Str → Option Value} {base : Heap}
theorem GnOk.mono {CX : CXT} {j k : Nat} {f : Addr} {fd : FuncData} {ps : List Str} {sp : Sp} (F : GnOk P w K mg base CX j f fd ps sp) (h : j ≤ k) : GnOk P w K mg base CX k f fd ps sp :=
  ⟨F.len, fun A out s H ar us vs Q E hr => F.run A out s H ar us vs Q E (hr.mono h)⟩
theorem GnOk.imp {CX : CXT} {k : Nat} {f : Addr} {fd : FuncData} {ps : List Str} {sp sp' : Sp} (F : GnOk P w K mg base CX k f fd ps sp) (h : ∀ vs H Q E, sp' vs H Q E → sp vs H Q E) : GnOk P w K mg base CX k f fd ps sp' :=
  ⟨fun vs H Q E q => F.len vs H Q E (h _ _ _ _ q), fun A out s H ar us vs Q E hr he hb hv hs => F.run A out s H ar us vs Q E hr he hb hv (h _ _ _ _ hs)⟩
/-- the end of a body is the end of the call -/
theorem body_end {CX : CXT} {N : List Str} {qual : Str} {sc : Scope} {f : Addr} {cd : Value} {A : Around} {out : List Env} {s : Shared} {H : Hp} {E : XK} {Q : VK} :
    ∀ {fl : Flow} {s' : Shared}, SP (cxOf CX P w K mg base N qual sc f cd A out s H E) [] { nx := fun _ H' => Q .non H', rt := Q } fl s' → CE out P w H s Q (match (generalizing := false) fl with | .ret v => v | _ => .none) s'
  | .ret _, _, ⟨v, _, H1, J, rv, q⟩ => ⟨v, H1, J.os, J.bare, J.base, J.hok, rv, q⟩
  | .next, _, ⟨_, H1, J, q⟩ => ⟨.non, H1, J.os, J.bare, J.base, J.hok, rfl, q⟩
  | .brk, _, ⟨_, _, _, q⟩ => q.elim
  | .cont, _, ⟨_, _, _, q⟩ => q.elim
theorem gn_of {CX : CXT} {k : Nat} {f : Addr} {nm qual : Str} {pars : Arguments} {body : List Stmt} {sc : Scope} {dV kV doc pm cdv ct oc : Value} {an od : Option Addr} {osl : Array (Option Value)} {N ps : List Str} {sp : Sp}
    (lk : K.lookup f = some ⟨oc, od, .func (PySem.W.fnOf nm qual pars body sc dV kV doc pm an cdv ct), osl⟩) (hc : PySem.W.codeIn K cdv qual = true) (S : FnScope N ps sc) (len : ∀ vs H Q E, sp vs H Q E → vs.length = ps.length)
    (hb : ∀ (A : Around) (out : List Env) (s : Shared) (H : Hp) (vs : List V) (Q : VK) (E : XK), Rm k (A.deeper (envOfC qual sc s.heap.objs.size f cdv)) → sp vs H Q E →
      ∃ t, PSs (cxOf CX P w K mg base N qual sc f cdv A out s H E) body t ∧ t { nx := fun _ H' => Q .non H', rt := Q } (start N vs) H) :
    GnOk P w K mg base CX (k + 1) f (PySem.W.fnOf nm qual pars body sc dV kV doc pm an cdv ct) ps sp := by
  constructor
  · exact len
  intro A out s H ar us vs Q E hr e0 hbd rv hs
  have lenv := len _ _ _ _ hs
  have inK : K.In s.heap := e0.mod.kin.keeps fun b o e => (e0.bs b o e).1
  have nolim : s.heap.NoLimit := e0.mod.nolimit.keeps fun b o e => (e0.bs b o e).1
  have kinds : ∀ y ∈ ps.zip us, sc.names.lookup y.1 = some .local ∨ (sc.names.lookup y.1 = some .cell ∧ ((cellsFrom (s.heap.objs.size + 1) sc.names []).lookup y.1).isSome = true) := by
    rintro ⟨n, v⟩ hy
    have hp := S.par n (List.of_mem_zip hy).1
    exact hp.imp id fun q => ⟨q, PySem.W.cellsFrom_some _ _ _ (.inl q)⟩
  refine codeAny_call_function hr.room.depth (inK _ _ lk) rfl S.co S.gen rfl (PySem.W.codeRec_of inK hc) (hbd _ _ _ _ (wpAny_newFunctionEnv_cells S.kind kinds ?_))
  rintro env rfl s1 x
  refine ⟨nolim.keeps x.toInCall.keep, codeAny_func ?_⟩
  obtain ⟨t, ht, hq⟩ := hb A out s H vs Q E (hr.deeper _) hs
  refine wpAny_mono (ht.run [] s1 (start N vs) H _ (inv_start S hr.room.hd e0 lenv rv x) hq) (fun fl s' z => ?_) fun e s' z => z
  have z' := body_end z
  cases fl <;> exact z'
/-- THE RULE for a def out of which nothing is raised -/
theorem gn_fun {x qual : Str} {st : Stmt} {f : Addr} {fd : FuncData} {N ps : List Str} {k : Nat} {sp : Sp} (F : Fun K x qual st f fd) (S : FnScope N ps (defScope st)) (len : ∀ vs H Q E, sp vs H Q E → vs.length = ps.length)
    (hb : ∀ (cdv : Value) (A : Around) (out : List Env) (s : Shared) (H : Hp) (vs : List V) (Q : VK) (E : XK), Rm k (A.deeper (envOfC qual (defScope st) s.heap.objs.size f cdv)) → sp vs H Q E →
      ∃ t, PSs (cxOf CX0 P w K mg base N qual (defScope st) f cdv A out s H E).nox (defBody st) t ∧ t { nx := fun _ H' => Q .non H', rt := Q } (start N vs) H) : GnOk P w K mg base CX0 (k + 1) f fd ps sp := by
  obtain ⟨oc, od, kV, doc, pm, an, cdv, ct, osl, rfl, lk, hc⟩ := F.ex
  refine gn_of lk hc S len fun A out s H vs Q E hr hs => ?_
  obtain ⟨t, h1, h2⟩ := hb cdv A out s H vs Q E hr hs
  exact ⟨t, h1.nox, h2⟩
/-- THE RULE for a def that may raise -/
theorem gn_funX {x qual : Str} {st : Stmt} {f : Addr} {fd : FuncData} {N ps : List Str} {k : Nat} {sp : Sp} (F : Fun K x qual st f fd) (S : FnScope N ps (defScope st)) (len : ∀ vs H Q E, sp vs H Q E → vs.length = ps.length)
    (hb : ∀ (cdv : Value) (A : Around) (out : List Env) (s : Shared) (H : Hp) (vs : List V) (Q : VK) (E : XK), Rm k (A.deeper (envOfC qual (defScope st) s.heap.objs.size f cdv)) → sp vs H Q E →
      ∃ t, PSs (cxOf (L2.CX P w) P w K mg base N qual (defScope st) f cdv A out s H E) (defBody st) t ∧ t { nx := fun _ H' => Q .non H', rt := Q } (start N vs) H) : GnOk P w K mg base (L2.CX P w) (k + 1) f fd ps sp := by
  obtain ⟨oc, od, kV, doc, pm, an, cdv, ct, osl, rfl, lk, hc⟩ := F.ex
  exact gn_of lk hc S len fun A out s H vs Q E hr hs => hb cdv A out s H vs Q E hr hs
end

/-! ### calls -/
section
variable {X : Cx} {CX : CXT} {k : Nat} {f C : Addr} {fd : FuncData} {ps : List Str} {sp : Sp} {E : XK} {pins : List (Addr × Obj)} {σ : L2.St} {H : Hp} {s : Shared} {Q : VK}
/-- the callee runs, its parameters bound to all -/
theorem gn_call {us : List Value} {kw : List (Str × Value)} {allU : List Value} {allV : List V} (F : GnOk X.prog X.w X.K X.mg X.base CX k f fd ps sp) (hr : Rm k X.A) (hb : BindsTo s fd ⟨us, kw⟩ (ps.zip allU)) (hx : Passes CX X E)
    (I : Inv X pins σ H s) (r : Vals allV allU) (h : sp allV H Q E) : wpAny (model X.prog X.w) X.A (call (.ref f) us kw) (EP X pins σ Q) X.xe s := by
  refine wpAny_call (codeAny_mono (F.run X.A X.stack s H ⟨us, kw⟩ allU allV Q E hr I.env0 hb r h) ?_)
  rintro (e | fl) s' hq
  · exact hx pins σ H s e s' I hq
  · cases fl with
    | ret u => exact I.after hq
    | next | brk | cont => exact hq.elim
/-- C(..): the instance and its dict are made, __init__ runs -/
theorem gn_make {us : List Value} {kw : List (Str × Value)} {allU : Addr → List Value} {allV : Addr → List V} (M : Mk X.K C f) (F : GnOk X.prog X.w X.K X.mg X.base CX k f fd ps sp) (hr : Rm (k + 1) X.A)
    (hb : ∀ (s' : Shared) (x : Addr), X.K.In s'.heap → BindsTo s' fd ⟨.ref x :: us, kw⟩ (ps.zip (allU x))) (hx : Passes CX X E)
    (I : Inv X pins σ H s) (r : ∀ x, Vals (allV x) (allU x)) (h : ∀ x dx, H x = none → H dx = none → dx ≠ x → sp (allV x) (upd (upd H dx (.own x)) x (.ins C dx [])) (fun v H2 => v = .non ∧ Q (.ref x) H2) E) :
    wpAny (model X.prog X.w) X.A (call (.ref C) us kw) (EP X pins σ Q) X.xe s := by
  have J := Inv.made (C := C) I
  have now := h (s.heap.objs.size + 1) s.heap.objs.size (I.hok.fresh (Nat.le_succ _)) (I.hok.fresh (Nat.le_refl _)) (Nat.ne_of_lt (Nat.lt_succ_self _))
  refine wpAny_call (make_map (f := f) I.kIn M.makes M.init (beq_iff_eq.mp M.fn) (codeAny_mono (F.run _ X.stack _ _ _ (allU (s.heap.objs.size + 1)) _ _ E (hr.make C us kw) (J.env0.make C us kw) (hb _ _ J.kIn) (r _) now) ?_))
  rintro (e | fl) s' hq
  · exact hx pins σ _ _ e s' J hq
  · cases fl with
    | ret u =>
      obtain ⟨v, H1, J1, rv, ev, q1⟩ := J.after hq
      subst ev
      exact ⟨rv, .ref (s.heap.objs.size + 1), H1, J1, rfl, q1⟩
    | next | brk | cont => exact hq.elim
end

/-! ### bundles: a def by its name; how it is bound -/
/-- n positional values and the keywords ks; gV puts the values in the parameters' order (defaults among them) -/
structure Cal (P : Program) (w : World) (K : PySem.W.Frag) (mg : Str → Option Value) (base : Heap) (CX : CXT) (x : Str) (k : Nat) (ps : List Str) (sp : Sp) : Prop where
  ex : ∃ (f : Addr) (fd : FuncData), GnOk P w K mg base CX k f fd ps sp ∧ mg x = some (.ref f) ∧ PySem.W.keepIn K (.ref f) = true ∧ Binds K fd ps []
structure CalK (P : Program) (w : World) (K : PySem.W.Frag) (mg : Str → Option Value) (base : Heap) (CX : CXT) (x : Str) (k : Nat) (ps : List Str) (n : Nat) (ks : List Str) (gV : List V → List V → List V) (sp : Sp) : Prop where
  ex : ∃ (f : Addr) (fd : FuncData) (g : List Value → List Value → List Value), GnOk P w K mg base CX k f fd ps sp ∧ mg x = some (.ref f) ∧ PySem.W.keepIn K (.ref f) = true ∧ KBn K fd ps n ks g gV
section
variable {X : Cx} {CX : CXT} {k n : Nat} {ps ks : List Str} {sp : Sp} {E : XK} {x : Str} {p pos : Pos} {e : Expr} {es : List Expr} {kws : List Keyword} {t tk : TA} {gV : List V → List V → List V}
theorem pe_cal (C : Cal X.prog X.w X.K X.mg X.base CX x k ps sp) (hr : Rm k X.A) (hg : Gl X x) (hx : Passes CX X E) (ha : PA X (e :: es) t) (hdb : (x == ("__debug__" : Str)) = false := by decide)
    (he : starEach (e :: es) X.env = (false, eval e X.env) :: starEach es X.env := by rfl) (hpl : (backTo pos (starEach es X.env)).any (·.1) = false := by rfl) :
    PE X (.Call (.Name x p) (e :: es) [] pos) (tCall sp [] E t) := by
  obtain ⟨f, fd, F, hm, hk, hb⟩ := C.ex
  constructor
  intro pins s σ H Q I h
  refine wpAny_Call_Name_kw (ld_glob I hg hm (PySem.W.callWith_K (h₀ := X.base) I.ok.mod.kin hk (thn (ha.run pos pins s σ H _ I h) ?_) he hpl) hdb)
  rintro us s1 ⟨vs, H1, I1, r, q⟩
  rw [List.append_nil] at q
  have hl := F.len _ _ _ _ q
  refine ⟨I1.kIn, gn_call F hr (?_ : BindsTo s1 fd ⟨us, []⟩ (ps.zip us)) hx I1 r q⟩
  have hb' := hb s1 us I1.kIn (by rw [List.append_nil, ← r.length]; exact hl)
  rwa [List.append_nil] at hb'
theorem pe_cal0 (C : Cal X.prog X.w X.K X.mg X.base CX x k ps sp) (hr : Rm k X.A) (hg : Gl X x) (hx : Passes CX X E) (hdb : (x == ("__debug__" : Str)) = false := by decide) :
    PE X (.Call (.Name x p) [] [] pos) (tCall sp [] E tNil) := by
  obtain ⟨f, fd, F, hm, hk, hb⟩ := C.ex
  constructor
  intro pins s σ H Q I h
  have hl := F.len _ _ _ _ (show sp ([] ++ []) H Q E from h)
  refine wpAny_Call_Name_kw (ld_glob I hg hm (PySem.W.callWith_K0 I.kIn hk (gn_call (us := []) (allU := []) F hr (hb s [] I.kIn hl) hx I .nil h)) hdb)
theorem pe_calk (C : CalK X.prog X.w X.K X.mg X.base CX x k ps n ks gV sp) (hr : Rm k X.A) (hg : Gl X x) (hx : Passes CX X E) (ha : PA X (e :: es) t) (hkw : PK X kws tk)
    (hall : (backToKw pos (keywordEach kws X.env)).all (·.1.isSome) = true := by rfl) (hks : (backToKw pos (keywordEach kws X.env)).filterMap (·.1) = ks := by rfl)
    (hdb : (x == ("__debug__" : Str)) = false := by decide) (he : starEach (e :: es) X.env = (false, eval e X.env) :: starEach es X.env := by rfl)
    (hpl : ((backTo pos (starEach (e :: es) X.env)).any (·.1) || (backToKw pos (keywordEach kws X.env)).any (·.1.isNone)) = false := by rfl) :
    PE X (.Call (.Name x p) (e :: es) kws pos) (tCallN n ks.length sp gV E t tk) := by
  obtain ⟨f, fd, g, F, hm, hk, hb⟩ := C.ex
  constructor
  intro pins s σ H Q I h
  refine wpAny_Call_Name_kw (ld_glob I hg hm (PySem.W.callWith_KW (h₀ := X.base) I.ok.mod.kin hk hall (thn (ha.run pos pins s σ H _ I h) ?_) hpl he) hdb)
  rintro us s1 ⟨vs, H1, I1, r, q⟩
  refine thn (hkw.run pos pins s1 σ H1 _ I1 q) ?_
  rintro ws s2 ⟨zs, H2, I2, rz, l1, l2, q2⟩
  rw [hks]
  exact ⟨I2.kIn, gn_call F hr (hb.to s2 us ws I2.kIn (r.length.symm.trans l1) (rz.length.symm.trans l2)) hx I2 (hb.rel r rz) q2⟩
theorem pe_calk0 (C : CalK X.prog X.w X.K X.mg X.base CX x k ps n ks gV sp) (hr : Rm k X.A) (hg : Gl X x) (hx : Passes CX X E) (hkw : PK X kws tk)
    (hall : (backToKw pos (keywordEach kws X.env)).all (·.1.isSome) = true := by rfl) (hks : (backToKw pos (keywordEach kws X.env)).filterMap (·.1) = ks := by rfl)
    (hdb : (x == ("__debug__" : Str)) = false := by decide)
    (hpl : ((backTo pos (starEach [] X.env)).any (·.1) || (backToKw pos (keywordEach kws X.env)).any (·.1.isNone)) = false := by rfl) :
    PE X (.Call (.Name x p) [] kws pos) (tCallN n ks.length sp gV E tNil tk) := by
  obtain ⟨f, fd, g, F, hm, hk, hb⟩ := C.ex
  constructor
  intro pins s σ H Q I h
  refine wpAny_Call_Name_kw (ld_glob I hg hm (PySem.W.callWith_KW0 (h₀ := X.base) I.ok.mod.kin hk hall (thn (hkw.run pos pins s σ H _ I h) ?_) hpl) hdb)
  rintro ws s2 ⟨zs, H2, I2, rz, l1, l2, q2⟩
  rw [hks]
  exact ⟨I2.kIn, gn_call (us := []) F hr (hb.to s2 [] ws I2.kIn l1 (rz.length.symm.trans l2)) hx I2 (hb.rel .nil rz) q2⟩
end
section
variable {P : Program} {w : World} {K : PySem.W.Frag} {mg : Str → Option Value} {base h : Heap} {CX : CXT} {x qual : Str} {k n : Nat} {ps ks : List Str} {sp : Sp} {st : Stmt} {f : Addr} {oc : Value} {od an : Option Addr} {osl : Array (Option Value)} {kV doc pm cdv ct : Value}
theorem cal_mk (KX : K.In h) (G : h.Ns mainGlobals mg) (a : PySem.W.nsIn K mainGlobals x = some (some (.ref f)))
    (l : K.lookup f = some ⟨oc, od, .func (PySem.W.fnOf x qual (defArgs st) (defBody st) (defScope st) .none kV doc pm an cdv ct), osl⟩) (c : PySem.W.codeIn K cdv qual = true) (kp : PySem.W.keepIn K (.ref f) = true)
    (hb : ∀ (kV doc pm : Value) (an : Option Addr) (cdv ct : Value) (us : List Value), us.length = ps.length → bindArgs (PySem.W.fnOf x qual (defArgs st) (defBody st) (defScope st) .none kV doc pm an cdv ct) ⟨us, []⟩ = pure (ps.zip us))
    (ok : ∀ {f : Addr} {fd : FuncData}, Fun K x qual st f fd → GnOk P w K mg base CX k f fd ps sp) : Cal P w K mg base CX x k ps sp :=
  have F := fun_mk (st := st) l c kp
  ⟨f, _, ok F, PySem.W.mg_of KX G a, kp, F.binds hb⟩
theorem calk_mk {g : List Value → List Value → List Value} {gV : List V → List V → List V} (KX : K.In h) (G : h.Ns mainGlobals mg) (a : PySem.W.nsIn K mainGlobals x = some (some (.ref f)))
    (l : K.lookup f = some ⟨oc, od, .func (PySem.W.fnOf x qual (defArgs st) (defBody st) (defScope st) .none kV doc pm an cdv ct), osl⟩) (c : PySem.W.codeIn K cdv qual = true) (kp : PySem.W.keepIn K (.ref f) = true)
    (hb : ∀ (kV doc pm : Value) (an : Option Addr) (cdv ct : Value) (us ws : List Value), us.length = n → ws.length = ks.length → bindArgs (PySem.W.fnOf x qual (defArgs st) (defBody st) (defScope st) .none kV doc pm an cdv ct) ⟨us, ks.zip ws⟩ = pure (ps.zip (g us ws)))
    (hrel : ∀ {vs : List V} {us : List Value} {zs : List V} {ws : List Value}, Vals vs us → Vals zs ws → Vals (gV vs zs) (g us ws))
    (ok : ∀ {f : Addr} {fd : FuncData}, Fun K x qual st f fd → GnOk P w K mg base CX k f fd ps sp) : CalK P w K mg base CX x k ps n ks gV sp :=
  have F := fun_mk (st := st) l c kp
  ⟨f, _, g, ok F, PySem.W.mg_of KX G a, kp, ⟨fun s us ws _ l1 l2 => BindsTo.of_eq (hb _ _ _ _ _ _ us ws l1 l2), hrel⟩⟩
end

/-! ### methods and makings by bundles -/
/-- a method of the class at C: n values behind the instance, the keywords ks -/
structure Mth (P : Program) (w : World) (K : PySem.W.Frag) (mg : Str → Option Value) (base : Heap) (CX : CXT) (C : Addr) (m : Str) (k : Nat) (ps : List Str) (sp : Sp) : Prop where
  ex : ∃ (f : Addr) (fd : FuncData), GnOk P w K mg base CX k f fd ps sp ∧ Meth K C m f ∧ Binds K fd ps []
structure MthK (P : Program) (w : World) (K : PySem.W.Frag) (mg : Str → Option Value) (base : Heap) (CX : CXT) (C : Addr) (m : Str) (k : Nat) (ps : List Str) (n : Nat) (ks : List Str) (gV : List V → List V → List V) (sp : Sp) : Prop where
  ex : ∃ (f : Addr) (fd : FuncData) (g : List Value → List Value → List Value), GnOk P w K mg base CX k f fd ps sp ∧ Meth K C m f ∧ KBn K fd ps (n + 1) ks g gV
/-- the class's __init__ -/
structure Mkr (P : Program) (w : World) (K : PySem.W.Frag) (mg : Str → Option Value) (base : Heap) (CX : CXT) (C : Addr) (k : Nat) (ps : List Str) (sp : Sp) : Prop where
  ex : ∃ (f : Addr) (fd : FuncData), GnOk P w K mg base CX k f fd ps sp ∧ Mk K C f ∧ Binds K fd ps []
structure MkrK (P : Program) (w : World) (K : PySem.W.Frag) (mg : Str → Option Value) (base : Heap) (CX : CXT) (C : Addr) (k : Nat) (ps : List Str) (n : Nat) (ks : List Str) (gV : List V → List V → List V) (sp : Sp) : Prop where
  ex : ∃ (f : Addr) (fd : FuncData) (g : List Value → List Value → List Value), GnOk P w K mg base CX k f fd ps sp ∧ Mk K C f ∧ KBn K fd ps (n + 1) ks g gV
/-- o.m(.., k = v, ..) -/
def tMthN (C : Addr) (m : Str) (n j : Nat) (sp : Sp) (gV : List V → List V → List V) (E : XK) (ta : TE) (t tk : TA) : TE := fun σ H Q => ta σ H fun x H1 => ∃ a dx fs, x = .ref a ∧ H1 a = some (.ins C dx fs) ∧ fs.lookup m = none ∧
  t σ H1 fun vs H2 => tk σ H2 fun zs H3 => vs.length = n ∧ zs.length = j ∧ sp (gV (x :: vs) zs) H3 Q E
/-- C(.., k = v, ..) -/
def tMkN (C : Addr) (n j : Nat) (sp : Sp) (gV : List V → List V → List V) (E : XK) (t tk : TA) : TE := fun σ H Q => t σ H fun vs H1 => tk σ H1 fun zs H2 => vs.length = n ∧ zs.length = j ∧ ∀ x dx, H2 x = none → H2 dx = none → dx ≠ x →
  sp (gV (.ref x :: vs) zs) (upd (upd H2 dx (.own x)) x (.ins C dx [])) (fun v H3 => v = .non ∧ Q (.ref x) H3) E
section
variable {X : Cx} {CX : CXT} {k n : Nat} {C : Addr} {m x : Str} {ps ks : List Str} {sp : Sp} {E : XK} {p pos apos : Pos} {o e : Expr} {es : List Expr} {kws : List Keyword} {ta : TE} {t tk : TA} {gV : List V → List V → List V} {pl : Sem Bool}
theorem pe_mth (M : Mth X.prog X.w X.K X.mg X.base CX C m k ps sp) (c : Cls X.K C) (hr : Rm k X.A) (hx : Passes CX X E) (ho : PE X o ta) (ha : PA X (e :: es) t)
    (hst : starEach (e :: es) X.env = (false, eval e X.env) :: starEach es X.env := by rfl) (hpl : (backTo pos (starEach es X.env)).any (·.1) = false := by rfl)
    (he : eval (.Call (.Attribute o m apos) (e :: es) [] pos) X.env = (do let ov ← eval o X.env; standAt apos.atName; let (f, first) ← holding [ov] (getMethod ov m pl); callWith pos f first (backTo pos (starEach (e :: es) X.env)) (backToKw pos (keywordEach [] X.env))) := by rfl) :
    PE X (.Call (.Attribute o m apos) (e :: es) [] pos) (tMeth C m sp [] E ta t) := by
  obtain ⟨f, fd, F, hm, hb⟩ := M.ex
  constructor
  intro pins s σ H Q I h
  refine PySem.W.methodCall_KW (pl := pl) (thn (ho.run pins s σ H _ I h) ?_) he
  rintro u s1 ⟨y, H1, I1, ry, a, dx, fs, rfl, ea, lk, q⟩
  obtain rfl : u = Value.ref a := ry
  refine getmeth_ok I1 ea c hm lk (PySem.W.callWith_K (first := [.ref a]) (h₀ := X.base) I.ok.mod.kin hm.kp (thn (ha.run pos pins s1 σ H1 _ I1 q) ?_) hst hpl)
  rintro us s2 ⟨vs, H2, I2, r, q2⟩
  rw [List.append_nil] at q2
  have r2 : Vals (V.ref a :: vs) (Value.ref a :: us) := .cons (show L2.RelV (V.ref a) (Value.ref a) from rfl) r
  have hl := F.len _ _ _ _ q2
  have hb' := hb s2 (Value.ref a :: us) I2.kIn (by rw [List.append_nil, ← r2.length]; exact hl)
  rw [List.append_nil] at hb'
  exact ⟨I2.kIn, gn_call F hr hb' hx I2 r2 q2⟩
theorem pe_mth0 (M : Mth X.prog X.w X.K X.mg X.base CX C m k ps sp) (c : Cls X.K C) (hr : Rm k X.A) (hx : Passes CX X E) (ho : PE X o ta)
    (he : eval (.Call (.Attribute o m apos) [] [] pos) X.env = (do let ov ← eval o X.env; standAt apos.atName; let (f, first) ← holding [ov] (getMethod ov m pl); callWith pos f first (backTo pos (starEach [] X.env)) (backToKw pos (keywordEach [] X.env))) := by rfl) :
    PE X (.Call (.Attribute o m apos) [] [] pos) (tMeth C m sp [] E ta tNil) := by
  obtain ⟨f, fd, F, hm, hb⟩ := M.ex
  constructor
  intro pins s σ H Q I h
  refine PySem.W.methodCall_KW (pl := pl) (thn (ho.run pins s σ H _ I h) ?_) he
  rintro u s1 ⟨y, H1, I1, ry, a, dx, fs, rfl, ea, lk, q⟩
  obtain rfl : u = Value.ref a := ry
  refine getmeth_ok I1 ea c hm lk ?_
  have q2 : sp [V.ref a] H1 Q E := q
  have r2 : Vals [V.ref a] [Value.ref a] := .cons (show L2.RelV (V.ref a) (Value.ref a) from rfl) .nil
  have hl := F.len _ _ _ _ q2
  have hb' := hb s1 [Value.ref a] I1.kIn (by rw [List.append_nil]; exact hl)
  rw [List.append_nil] at hb'
  exact PySem.W.callWith_K0 (first := [.ref a]) I1.kIn hm.kp (gn_call (us := [.ref a]) F hr hb' hx I1 r2 q2)
theorem pe_mthk (M : MthK X.prog X.w X.K X.mg X.base CX C m k ps n ks gV sp) (c : Cls X.K C) (hr : Rm k X.A) (hx : Passes CX X E) (ho : PE X o ta) (ha : PA X (e :: es) t) (hkw : PK X kws tk)
    (hall : (backToKw pos (keywordEach kws X.env)).all (·.1.isSome) = true := by rfl) (hks : (backToKw pos (keywordEach kws X.env)).filterMap (·.1) = ks := by rfl)
    (hst : starEach (e :: es) X.env = (false, eval e X.env) :: starEach es X.env := by rfl) (hpl : ((backTo pos (starEach (e :: es) X.env)).any (·.1) || (backToKw pos (keywordEach kws X.env)).any (·.1.isNone)) = false := by rfl)
    (he : eval (.Call (.Attribute o m apos) (e :: es) kws pos) X.env = (do let ov ← eval o X.env; standAt apos.atName; let (f, first) ← holding [ov] (getMethod ov m pl); callWith pos f first (backTo pos (starEach (e :: es) X.env)) (backToKw pos (keywordEach kws X.env))) := by rfl) :
    PE X (.Call (.Attribute o m apos) (e :: es) kws pos) (tMthN C m n ks.length sp gV E ta t tk) := by
  obtain ⟨f, fd, g, F, hm, hb⟩ := M.ex
  constructor
  intro pins s σ H Q I h
  refine PySem.W.methodCall_KW (pl := pl) (thn (ho.run pins s σ H _ I h) ?_) he
  rintro u s1 ⟨y, H1, I1, ry, a, dx, fs, rfl, ea, lk, q⟩
  obtain rfl : u = Value.ref a := ry
  refine getmeth_ok I1 ea c hm lk (PySem.W.callWith_KW (first := [.ref a]) (h₀ := X.base) I.ok.mod.kin hm.kp hall (thn (ha.run pos pins s1 σ H1 _ I1 q) ?_) hpl hst)
  rintro us s2 ⟨vs, H2, I2, r, q2⟩
  refine thn (hkw.run pos pins s2 σ H2 _ I2 q2) ?_
  rintro ws s3 ⟨zs, H3, I3, rz, l1, l2, q3⟩
  rw [hks]
  have r2 : Vals (V.ref a :: vs) (Value.ref a :: us) := .cons (show L2.RelV (V.ref a) (Value.ref a) from rfl) r
  exact ⟨I3.kIn, gn_call F hr (hb.to s3 (Value.ref a :: us) ws I3.kIn (by rw [← r2.length, List.length_cons, l1]) (rz.length.symm.trans l2)) hx I3 (hb.rel r2 rz) q3⟩
theorem pe_mthk0 (M : MthK X.prog X.w X.K X.mg X.base CX C m k ps n ks gV sp) (c : Cls X.K C) (hr : Rm k X.A) (hx : Passes CX X E) (ho : PE X o ta) (hkw : PK X kws tk)
    (hall : (backToKw pos (keywordEach kws X.env)).all (·.1.isSome) = true := by rfl) (hks : (backToKw pos (keywordEach kws X.env)).filterMap (·.1) = ks := by rfl)
    (hpl : ((backTo pos (starEach [] X.env)).any (·.1) || (backToKw pos (keywordEach kws X.env)).any (·.1.isNone)) = false := by rfl)
    (he : eval (.Call (.Attribute o m apos) [] kws pos) X.env = (do let ov ← eval o X.env; standAt apos.atName; let (f, first) ← holding [ov] (getMethod ov m pl); callWith pos f first (backTo pos (starEach [] X.env)) (backToKw pos (keywordEach kws X.env))) := by rfl) :
    PE X (.Call (.Attribute o m apos) [] kws pos) (tMthN C m n ks.length sp gV E ta tNil tk) := by
  obtain ⟨f, fd, g, F, hm, hb⟩ := M.ex
  constructor
  intro pins s σ H Q I h
  refine PySem.W.methodCall_KW (pl := pl) (thn (ho.run pins s σ H _ I h) ?_) he
  rintro u s1 ⟨y, H1, I1, ry, a, dx, fs, rfl, ea, lk, q⟩
  obtain rfl : u = Value.ref a := ry
  refine getmeth_ok I1 ea c hm lk (PySem.W.callWith_KW0 (first := [.ref a]) (h₀ := X.base) I.ok.mod.kin hm.kp hall (thn (hkw.run pos pins s1 σ H1 _ I1 q) ?_) hpl)
  rintro ws s3 ⟨zs, H3, I3, rz, l1, l2, q3⟩
  rw [hks]
  have r2 : Vals [V.ref a] [Value.ref a] := .cons (show L2.RelV (V.ref a) (Value.ref a) from rfl) .nil
  exact ⟨I3.kIn, gn_call (us := [.ref a]) F hr (hb.to s3 [Value.ref a] ws I3.kIn (by show 0 + 1 = n + 1; rw [← l1]; rfl) (rz.length.symm.trans l2)) hx I3 (hb.rel r2 rz) q3⟩
theorem pe_mk (M : Mkr X.prog X.w X.K X.mg X.base CX C k ps sp) (hr : Rm (k + 1) X.A) (hg : Gl X x) (hm : X.mg x = some (.ref C)) (hx : Passes CX X E) (ha : PA X (e :: es) t) (hdb : (x == ("__debug__" : Str)) = false := by decide)
    (he : starEach (e :: es) X.env = (false, eval e X.env) :: starEach es X.env := by rfl) (hpl : (backTo pos (starEach es X.env)).any (·.1) = false := by rfl) : PE X (.Call (.Name x p) (e :: es) [] pos) (tMake C sp [] E t) := by
  obtain ⟨f, fd, F, M, hb⟩ := M.ex
  constructor
  intro pins s σ H Q I h
  refine wpAny_Call_Name_kw (ld_glob I hg hm (PySem.W.callWith_K (h₀ := X.base) I.ok.mod.kin M.kp (thn (ha.run pos pins s σ H _ I h) ?_) he hpl) hdb)
  rintro us s1 ⟨vs, H1, I1, r, q⟩
  rw [List.append_nil] at q
  have hl := F.len _ _ _ _ (q (s1.heap.objs.size + 1) s1.heap.objs.size (I1.hok.fresh (Nat.le_succ _)) (I1.hok.fresh (Nat.le_refl _)) (Nat.ne_of_lt (Nat.lt_succ_self _)))
  refine ⟨I1.kIn, gn_make (allU := fun y => .ref y :: us) (allV := fun y => .ref y :: vs) M F hr (fun s' y hK => ?_) hx I1 (fun y => .cons (show L2.RelV (V.ref y) (Value.ref y) from rfl) r) q⟩
  have hb' := hb s' (Value.ref y :: us) hK (by rw [List.append_nil, List.length_cons, ← r.length]; exact hl)
  rwa [List.append_nil] at hb'
theorem pe_mkk (M : MkrK X.prog X.w X.K X.mg X.base CX C k ps n ks gV sp) (hr : Rm (k + 1) X.A) (hg : Gl X x) (hm : X.mg x = some (.ref C)) (hx : Passes CX X E) (ha : PA X (e :: es) t) (hkw : PK X kws tk)
    (hall : (backToKw pos (keywordEach kws X.env)).all (·.1.isSome) = true := by rfl) (hks : (backToKw pos (keywordEach kws X.env)).filterMap (·.1) = ks := by rfl)
    (hdb : (x == ("__debug__" : Str)) = false := by decide) (he : starEach (e :: es) X.env = (false, eval e X.env) :: starEach es X.env := by rfl)
    (hpl : ((backTo pos (starEach (e :: es) X.env)).any (·.1) || (backToKw pos (keywordEach kws X.env)).any (·.1.isNone)) = false := by rfl) :
    PE X (.Call (.Name x p) (e :: es) kws pos) (tMkN C n ks.length sp gV E t tk) := by
  obtain ⟨f, fd, g, F, M, hb⟩ := M.ex
  constructor
  intro pins s σ H Q I h
  refine wpAny_Call_Name_kw (ld_glob I hg hm (PySem.W.callWith_KW (h₀ := X.base) I.ok.mod.kin M.kp hall (thn (ha.run pos pins s σ H _ I h) ?_) hpl he) hdb)
  rintro us s1 ⟨vs, H1, I1, r, q⟩
  refine thn (hkw.run pos pins s1 σ H1 _ I1 q) ?_
  rintro ws s2 ⟨zs, H2, I2, rz, l1, l2, q2⟩
  rw [hks]
  have r2 : ∀ y, Vals (V.ref y :: vs) (Value.ref y :: us) := fun y => .cons (show L2.RelV (V.ref y) (Value.ref y) from rfl) r
  exact ⟨I2.kIn, gn_make (allU := fun y => g (.ref y :: us) ws) (allV := fun y => gV (.ref y :: vs) zs) M F hr (fun s' y hK => hb.to s' (.ref y :: us) ws hK (by rw [← (r2 y).length, List.length_cons, l1]) (rz.length.symm.trans l2)) hx I2 (fun y => hb.rel (r2 y) rz) q2⟩
theorem pe_mkk0 (M : MkrK X.prog X.w X.K X.mg X.base CX C k ps n ks gV sp) (hr : Rm (k + 1) X.A) (hg : Gl X x) (hm : X.mg x = some (.ref C)) (hx : Passes CX X E) (hkw : PK X kws tk)
    (hall : (backToKw pos (keywordEach kws X.env)).all (·.1.isSome) = true := by rfl) (hks : (backToKw pos (keywordEach kws X.env)).filterMap (·.1) = ks := by rfl) (hdb : (x == ("__debug__" : Str)) = false := by decide)
    (hpl : ((backTo pos (starEach [] X.env)).any (·.1) || (backToKw pos (keywordEach kws X.env)).any (·.1.isNone)) = false := by rfl) :
    PE X (.Call (.Name x p) [] kws pos) (tMkN C n ks.length sp gV E tNil tk) := by
  obtain ⟨f, fd, g, F, M, hb⟩ := M.ex
  constructor
  intro pins s σ H Q I h
  refine wpAny_Call_Name_kw (ld_glob I hg hm (PySem.W.callWith_KW0 (h₀ := X.base) I.ok.mod.kin M.kp hall (thn (hkw.run pos pins s σ H _ I h) ?_) hpl) hdb)
  rintro ws s2 ⟨zs, H2, I2, rz, l1, l2, q2⟩
  rw [hks]
  have r2 : ∀ y, Vals [V.ref y] [Value.ref y] := fun y => .cons (show L2.RelV (V.ref y) (Value.ref y) from rfl) .nil
  exact ⟨I2.kIn, gn_make (us := []) (allU := fun y => g [.ref y] ws) (allV := fun y => gV [.ref y] zs) M F hr (fun s' y hK => hb.to s' [.ref y] ws hK (by show 0 + 1 = n + 1; rw [← l1]; rfl) (rz.length.symm.trans l2)) hx I2 (fun y => hb.rel (r2 y) rz) q2⟩
theorem pe_mk0 (M : Mkr X.prog X.w X.K X.mg X.base CX C k ps sp) (hr : Rm (k + 1) X.A) (hg : Gl X x) (hm : X.mg x = some (.ref C)) (hx : Passes CX X E) (hdb : (x == ("__debug__" : Str)) = false := by decide) : PE X (.Call (.Name x p) [] [] pos) (tMake C sp [] E tNil) := by
  obtain ⟨f, fd, F, M, hb⟩ := M.ex
  constructor
  intro pins s σ H Q I h
  have hl := F.len _ _ _ _ (h (s.heap.objs.size + 1) s.heap.objs.size (I.hok.fresh (Nat.le_succ _)) (I.hok.fresh (Nat.le_refl _)) (Nat.ne_of_lt (Nat.lt_succ_self _)))
  refine wpAny_Call_Name_kw (ld_glob I hg hm (PySem.W.callWith_K0 I.kIn M.kp (gn_make (us := []) (allU := fun y => [.ref y]) (allV := fun y => [.ref y]) M F hr (fun s' y hK => ?_) hx I (fun y => .cons (show L2.RelV (V.ref y) (Value.ref y) from rfl) .nil) h)) hdb)
  have hb' := hb s' [Value.ref y] hK hl
  rwa [List.append_nil] at hb'
end

/-! ### the law's own call -/
theorem gn_law {P : Program} {w : World} {K : PySem.W.Frag} {mg mb : Str → Option Value} {CX : CXT} {k : Nat} {fa a : Addr} {fd : FuncData} {x : Str} {sp : Sp} {t : Shared} {vs : List Value} {ns : List Int}
    (inK : K.In t.heap) (gl : t.heap.Ns mainGlobals mg) (bl : t.heap.Ns builtinsNs mb) (bb : ∀ y : Str, y ≠ "__name__" → mb y = bootBuiltins y) (nolim : t.heap.NoLimit) (gens : t.gens = #[])
    (ha : t.heap.get? a = some { cls := .type "list", data := .seq vs.toArray }) (hin : IntsAre vs ns) (small : ns.length ≤ sizeLine) (hr : Room k callerA)
    (F : ∀ base : Heap, K.In base → base.Ns mainGlobals mg → GnOk P w K mg base CX k fa fd [x] sp) (bd : ∀ (s : Shared) (u : Value), BindsTo s fd ⟨[u], []⟩ [(x, u)])
    (hsp : ∀ H : Hp, SqL K H a (ns.map V.int) → sp [.ref a] H (fun v _ => v = .bl true) fun _ _ _ => False) (hx : ∀ H e s', CX [] H t (fun _ _ _ => False) e s' → False) :
    codeAny (model P w) callerA (.call (.ref fa) ⟨[.ref a], []⟩) (fun r s' => r = .ok (.ret (.bool true)) ∧ OldK t.heap s'.heap ∧ s'.os = t.os ∧ AllBare s'.gens) t := by
  have rel := vals_ints hin
  have same := hin.length
  -- the abstract heap: the script alone, where the top doesn't know it
  obtain ⟨H, hS, ok, only, apart⟩ : ∃ H : Hp, SqL K H a (ns.map V.int) ∧ HOk P w H t.heap ∧ (∀ b u, H b = some u → b = a ∧ ∃ o, u = .frz o (.lst (ns.map V.int))) ∧ (∀ u, H a = some u → K.lookup a = none) := by
    cases q : K.lookup a with
    | some o =>
      have e := inK a o q
      rw [ha] at e
      cases e
      exact ⟨fun _ => none, .inr ⟨_, vs.toArray, _, q, rfl, rfl, rfl, by rw [List.size_toArray, same]; exact small, by simpa using rel⟩, (fun b u z => by cases (show (none : Option HO) = some u from z)), (fun b u z => by cases (show (none : Option HO) = some u from z)), fun u z => by cases (show (none : Option HO) = some u from z)⟩
    | none =>
      refine ⟨upd (fun _ => none) a (.frz { cls := .type "list", data := .seq vs.toArray } (.lst (ns.map V.int))), .inl (.inr ⟨_, upd_same⟩), fun b u z => ?_, fun b u z => ?_, fun _ _ => rfl⟩
      · by_cases hb : b = a
        · subst hb
          rw [upd_same] at z
          cases z
          exact ⟨ha, by rw [List.length_map]; exact small, vs, _, rel, ha⟩
        · rw [upd_ne hb] at z
          cases z
      · by_cases hb : b = a
        · subst hb
          rw [upd_same] at z
          cases z
          exact ⟨rfl, _, rfl⟩
        · rw [upd_ne hb] at z
          cases z
  have dictNo : ∀ {b : Addr} {o : Obj} {es : Array DictEntry} {ep : Nat}, t.heap.get? b = some o → o.data = .dict es ep → H b = none := by
    intro b o es ep e d
    cases z : H b with
    | none => rfl
    | some u =>
      obtain ⟨rfl, _⟩ := only b u z
      rw [ha] at e
      cases e
      exact nomatch (show Data.seq vs.toArray _ = Data.dict es ep from d)
  have nsH : ∀ {b : Addr} {m : Str → Option Value}, t.heap.Ns b m → (hidT t.heap H).Ns b m := by
    rintro b m ⟨o, es, ep, e, d, r⟩
    exact ⟨o, es, ep, hidT_get e (dictNo e d), d, r⟩
  have inH : K.In (hidT t.heap H) := by
    intro b o e
    refine hidT_get (inK b o e) ?_
    cases z : H b with
    | none => rfl
    | some u =>
      obtain ⟨rfl, _⟩ := only b u z
      rw [apart u z] at e
      cases e
  obtain ⟨mc, c1, c2⟩ := nolim
  have md : Mod K mg (hidT t.heap H) := ⟨inH, nsH gl, ⟨mb, nsH bl, bb⟩, ⟨mc, nsH c1, c2⟩⟩
  have e0 : Env0 P w K mg (hidT t.heap H) callerA [] t H := ⟨rfl, md, fun b o e => of_hidT e, Nat.le_of_eq (hidT_size _ _), trivial, fun b hb => (List.not_mem_nil (show b ∈ ([] : List Addr) from hb)).elim, ok, .of_eq gens⟩
  refine codeAny_mono ((F _ inH (nsH gl)).run callerA [] t H ⟨[.ref a], []⟩ [.ref a] [.ref a] _ _ ⟨hr, rfl⟩ e0 (bd t (.ref a)) (.cons rfl .nil) (hsp H hS)) ?_
  rintro (e | fl) s' h
  · exact (hx H e s' h).elim
  · cases fl with
    | next | brk | cont => exact h.elim
    | ret u =>
      obtain ⟨v, H1, os, bare, un, ok1, r1, q⟩ := h
      obtain rfl : v = .bl true := q
      obtain rfl : u = Value.bool true := r1
      refine ⟨rfl, OldK.of_keep fun b o e => ?_, os, bare⟩
      cases z : H b with
      | none => exact un.keep b o e z (List.not_mem_nil (a := b)) (List.not_mem_nil (a := b))
      | some u =>
        obtain ⟨rfl, ob, rfl⟩ := only b u z
        have e1 := (ok b _ z).1
        have e2 := (ok1 b _ (un.frzs b ob _ z)).1
        rw [e] at e1
        cases e1
        exact e2
theorem gn_walk {l : PySem.W.OpenLaw} {n k : Nat} {q : Program} {loose : List Str} {XP : (Str → Option Value) → Heap → Prop} {YP : World → Heap → Prop} {d : DefRec} {K : Params → PySem.W.Frag} {CX : World → CXT} {sp : PySem.W.Frag → Sp} {x : Str}
    (hn : l.most = some n) (hn2 : n ≤ sizeLine) (hdf : d.params.defaults = []) (hr : Room k callerA) (hY : ∀ (w : World) (h : Heap), YP w h → (K w.params).In h)
    (F : ∀ (w : World) (mg : Str → Option Value) (fa : Addr) (h : Heap), (K w.params).In h → h.Ns mainGlobals mg → mg d.name = some (.ref fa) →
      ∃ fd : FuncData, (∀ (s : Shared) (u : Value), BindsTo s fd ⟨[u], []⟩ [(x, u)]) ∧ ∀ base : Heap, (K w.params).In base → base.Ns mainGlobals mg → GnOk l.prog w (K w.params) mg base (CX w) k fa fd [x] (sp (K w.params)))
    (hsp : ∀ (w : World) (H : Hp) (a : Addr) (ns : List Int), ns.length ≤ n → SqL (K w.params) H a (ns.map V.int) → sp (K w.params) [.ref a] H (fun v _ => v = .bl true) fun _ _ _ => False)
    (hx : ∀ (w : World) (H : Hp) (s : Shared) (e : Value) (s' : Shared), CX w [] H s (fun _ _ _ => False) e s' → False) : PySem.W.WalkO q loose XP YP l.row.toRowW d [] (fun f vs => PySem.call f vs) := by
  refine Att.attach_call hn hdf ?_
  intro w s₀ t mg mb fa o pm cd doc a vs ns G Y _ _ _ hmg hobj hints hlen hg
  obtain ⟨fd, hb, hF⟩ := F w mg fa _ (hY w _ Y) G.T.g hmg
  exact gn_law (hY w _ Y) G.T.g G.T.b G.T.builtins G.T.nolimit hg hobj hints (Nat.le_trans hlen hn2) hr hF hb (fun H hS => hsp w H a ns hlen hS) fun H e s' => hx w H t e s'
end Cl

/-! ### Cl0: words used by all laws: built-ins, calls of own defs by one bundle, heaps that grow, drawing from a pot -/
namespace Cl
open PySem L2

/-- the built-ins that the top leaves as they are -/
structure Bt (mg : Str → Option Value) : Prop where
  len : mg "len" = none
  max : mg "max" = none
  min : mg "min" = none
  abs : mg "abs" = none
  divmod : mg "divmod" = none
  range : mg "range" = none
  ord : mg "ord" = none
  isinstance : mg "isinstance" = none
  int : mg "int" = none
  str : mg "str" = none
  bool : mg "bool" = none
  list : mg "list" = none
  tuple : mg "tuple" = none
  dict : mg "dict" = none
  set : mg "set" = none
  all : mg "all" = none
  any : mg "any" = none
  sorted : mg "sorted" = none
  enumerate : mg "enumerate" = none
  zip : mg "zip" = none
  repr : mg "repr" = none
  sum : mg "sum" = none

theorem vget {xs : List V} {us : List Value} (h : Vals xs us) (i : Nat) : RelV (xs.getD i V.non) (us.getD i Value.none) := by
  rw [List.getD_eq_getElem?_getD, List.getD_eq_getElem?_getD]
  cases e : xs[i]? with
  | some x =>
    obtain ⟨u, h1, h2⟩ := h.get e
    rw [h1]
    exact h2
  | none =>
    rw [h.none_of e]
    exact (rfl : Value.none = Value.none)
/-! ### the attributes of an instance, written out -/
theorem lk0 {f : Str} {v : V} {r : List (Str × V)} : ((f, v) :: r).lookup f = some v := by
  rw [List.lookup_cons, beq_self_eq_true]
theorem lkS {f g : Str} {u : V} {r : List (Str × V)} {o : Option V} (h : decide (g = f) = false) (k : r.lookup g = o) : ((f, u) :: r).lookup g = o := by
  rw [List.lookup_cons, show (g == f) = false from h]
  exact k
theorem lk_no {m : Str} : ∀ {r : List (Str × V)}, (r.map (·.1)).all (fun f => !decide (m = f)) = true → r.lookup m = none
  | [], _ => rfl
  | (f, v) :: r, h => by
    rw [List.map_cons, List.all_cons, Bool.and_eq_true, Bool.not_eq_true'] at h
    exact lkS h.1 (lk_no h.2)
theorem put0 {f : Str} {u v : V} {r : List (Str × V)} : putF f v ((f, u) :: r) = (f, v) :: r := by
  show (if f = f then _ else _) = _
  rw [if_pos rfl]
theorem putS {f g : Str} {u v : V} {r q : List (Str × V)} (h : decide (f = g) = false) (k : putF g v r = q) : putF g v ((f, u) :: r) = (f, u) :: q := by
  show (if f = g then _ else _) = _
  rw [if_neg (of_decide_eq_false h), k]
theorem fewS {f : Str} {v : V} {n : Nat} : ∀ {r : List (Str × V)}, r.length < n → (putF f v r).length < n + 1
  | [], h => Nat.succ_lt_succ h
  | (g, u) :: r, h => by
    show (if g = f then (g, v) :: r else (g, u) :: putF f v r).length < n + 1
    split
    · exact Nat.lt_succ_of_lt h
    · rw [List.length_cons] at h ⊢
      exact Nat.succ_lt_succ (by
        cases n with
        | zero => cases h
        | succ n => exact fewS (Nat.lt_of_succ_lt_succ h))
/-- an own class as the top has made it -/
structure CF (K : PySem.W.Frag) (mg : Str → Option Value) (x : Str) (C : Addr) (fs : List Str) : Prop where
  cl : Cls K C
  mgC : mg x = some (.ref C)
  no : ∀ f ∈ fs, NoAttr K C f
  ic : PySem.W.findIn K (.ref C) "__class__" = some (some (.builtin "object.__class__"))
  ig : PySem.W.specialIn K (.builtin "object.__class__") "__get__" = some (some (.builtin "getset_descriptor.__get__"))
  it : PySem.W.takesIn K (.builtin "object.__class__") = some true
  im : PySem.W.mroIn K C (.type "object") = some true
theorem CF.ty {K : PySem.W.Frag} {mg : Str → Option Value} {x : Str} {C a dx : Addr} {fs : List Str} {gs : List (Str × V)} {H : Hp} (T : CF K mg x C fs) (h : H a = some (.ins C dx gs)) : TyX K H (.ref a) (.ref C) := .base (.ins h T.cl T.ic T.ig T.it T.im)
theorem kit_self {K : PySem.W.Frag} (C : Addr) : PySem.W.kitOne K (.ref C) (.ref C) = some true := by
  unfold PySem.W.kitOne
  rw [if_pos (by simp)]
theorem all_cons {α : Type} {P : α → Prop} {a : α} {l : List α} (h : P a) (r : ∀ x ∈ l, P x) : ∀ x ∈ a :: l, P x := fun x hx => by
  rcases List.mem_cons.mp hx with rfl | hx
  · exact h
  · exact r x hx

/-- all but the object at p stays -/
def SameBut (p : Addr) (H H' : Hp) : Prop := ∀ b o, H b = some o → b ≠ p → H' b = some o
theorem SameBut.of {p : Addr} {H H' : Hp} (h : Same H H') : SameBut p H H' := fun b o e _ => h b o e
theorem Same.new {H : Hp} {p : Addr} {o : HO} (h : H p = none) : Same H (upd H p o) := fun b u e => by
  rw [upd_ne (ne_of_none e h)]; exact e
theorem SameBut.upd {p : Addr} {H H' : Hp} {o : HO} (h : SameBut p H H') : SameBut p H (L2.upd H' p o) := fun b u e n => by
  rw [upd_ne n]; exact h b u e n
theorem SameBut.refl (p : Addr) (H : Hp) : SameBut p H H := fun _ _ e _ => e
theorem SameBut.trans {p : Addr} {H H1 H2 : Hp} (a : SameBut p H H1) (b : SameBut p H1 H2) : SameBut p H H2 := fun c o e n => b c o (a c o e n) n
theorem SameBut.same {p : Addr} {H H1 H2 : Hp} (a : SameBut p H H1) (b : Same H1 H2) : SameBut p H H2 := fun c o e n => b c o (a c o e n)
theorem SameBut.at {p : Addr} {H H' : Hp} (a : SameBut p H H') {b : Addr} {o : HO} (e : H b = some o) (n : b ≠ p) : H' b = some o := a b o e n
theorem SameBut.free {p : Addr} {H H' : Hp} (a : SameBut p H H') {q : Addr} (h : H' q = none) (n : q ≠ p) : H q = none := by
  cases e : H q with
  | none => rfl
  | some o => rw [a q o e n] at h; cases h
/-- q is new behind H: what then changes it, changes nothing of H -/
theorem SameBut.newer {p q : Addr} {H H1 : Hp} {o : HO} (a : SameBut p H H1) (h : H q = none) : SameBut p H (L2.upd H1 q o) := fun c u e n => by
  rw [upd_ne (ne_of_none e h)]; exact a c u e n
theorem Same.newer {q : Addr} {H H1 : Hp} {o : HO} (a : Same H H1) (h : H q = none) : Same H (L2.upd H1 q o) := fun c u e => by
  rw [upd_ne (ne_of_none e h)]; exact a c u e

/-! ### a list, a tuple, read -/
theorem SameBut.seq {K : PySem.W.Frag} {p : Addr} {H H' : Hp} {a : Addr} {xs : List V} (e : SameBut p H H') (h : SqL K H a xs) (n : a ≠ p) : SqL K H' a xs := by
  rcases h with (h | ⟨o, h⟩) | h
  · exact .inl (.inl (e _ _ h n))
  · exact .inl (.inr ⟨o, e _ _ h n⟩)
  · exact .inr h
/-- p is newer than H -/
theorem Same.but {p : Addr} {H H1 H2 : Hp} (s : Same H H1) (b : SameBut p H1 H2) (n : H p = none) : Same H H2 := fun c o e => b c o (s c o e) (ne_of_none e n)

theorem iteF' {b : Bool} {A B : Prop} (e : b = false) (h : B) : if b = true then A else B := by
  rw [e]
  exact iteF h
theorem iteT' {b : Bool} {A B : Prop} (e : b = true) (h : A) : if b = true then A else B := by
  rw [e]
  exact iteT h
/-! ### rules over a written part that is named -/
section
variable {X : Cx}
theorem ix_listK (K : PySem.W.Frag)  (hK : X.K = K := by rfl) : IxR X (rIxL K) := by subst hK; exact ix_list
theorem ix_tupK (K : PySem.W.Frag)  (hK : X.K = K := by rfl) : IxR X (rIxT K) := by subst hK; exact ix_tup
theorem ix_seqK (K : PySem.W.Frag)  (hK : X.K = K := by rfl) : IxR X (rIx K) := by subst hK; exact ix_seq
theorem ix_kdictK (K : PySem.W.Frag) (w : World) (hw : X.w = w := by rfl) (hK : X.K = K := by rfl) : IxR X (rIxD K w) := by subst hK; subst hw; exact ix_kdict
theorem sl_listK (K : PySem.W.Frag)  (hK : X.K = K := by rfl) : SlR X (rSlL K) := by subst hK; exact sl_list
theorem sl_tupAK (K : PySem.W.Frag)  (hK : X.K = K := by rfl) : SlR X (rSlA K) := by subst hK; exact sl_tupA
theorem op_in_seqK (K : PySem.W.Frag)  (hK : X.K = K := by rfl) : OpR X (compareOp .In) (rIn K false) := by subst hK; exact op_in_seq
theorem op_notIn_seqK (K : PySem.W.Frag)  (hK : X.K = K := by rfl) : OpR X (compareOp .NotIn) (rIn K true) := by subst hK; exact op_notIn_seq
theorem op_eqDK (K : PySem.W.Frag) (hu : X.A.units + 64 < cLine) (hK : X.K = K := by rfl) : OpR X (compareOp .Eq) (rEqD K) := by subst hK; exact op_eqD hu
theorem op_neDK (K : PySem.W.Frag) (hu : X.A.units + 64 < cLine) (hK : X.K = K := by rfl) : OpR X (compareOp .NotEq) (rNeD K) := by subst hK; exact op_neD hu
theorem op_catTK (K : PySem.W.Frag)  (hK : X.K = K := by rfl) : OpR X (binaryOp .Add) (rCatT K) := by subst hK; exact op_catT
def rLen (K : PySem.W.Frag) : List V → Hp → VK → Prop := fun xs H Q => ∃ x n, xs = [x] ∧ LenV K x H n ∧ Q (.int n) H
theorem call_lenK (K : PySem.W.Frag)  (hK : X.K = K := by rfl) : CallR X (.builtin "len") (rLen K) := by subst hK; exact call_len
theorem call_isiK (K : PySem.W.Frag)  (hK : X.K = K := by rfl) : CallR X (.builtin "isinstance") (rIsi K) := by subst hK; exact call_isi
theorem call_isiTK (K : PySem.W.Frag)  (hK : X.K = K := by rfl) : CallR X (.builtin "isinstance") (rIsiT K) := by subst hK; exact call_isiT
def rListOf (K : PySem.W.Frag) : List V → Hp → VK → Prop := fun xs H Q => ∃ p ys, xs = [.ref p] ∧ (SqL K H p ys ∨ SqT K H p ys) ∧ ∀ l, H l = none → Q (.ref l) (upd H l (.lst ys))
theorem call_list_ofK (K : PySem.W.Frag)  (hK : X.K = K := by rfl) : CallR X (.type "list") (rListOf K) := by subst hK; exact call_list_of
def rTupleOf (K : PySem.W.Frag) : List V → Hp → VK → Prop := fun xs H Q => ∃ p ys, xs = [.ref p] ∧ ((SqL K H p ys ∧ ∀ l, H l = none → Q (.ref l) (upd H l (.tup ys))) ∨ (SqT K H p ys ∧ Q (.ref p) H))
theorem call_tuple_ofK (K : PySem.W.Frag)  (hK : X.K = K := by rfl) : CallR X (.type "tuple") (rTupleOf K) := by subst hK; exact call_tuple_of
theorem cr_allK (K : PySem.W.Frag) (hc : X.calm = true) (hK : X.K = K := by rfl) : CallR X (.builtin "all") (rAll K) := by subst hK; exact cr_all hc
theorem cr_anyK (K : PySem.W.Frag) (hc : X.calm = true) (hK : X.K = K := by rfl) : CallR X (.builtin "any") (rAny K) := by subst hK; exact cr_any hc
theorem cr_sumK (K : PySem.W.Frag) (hc : X.calm = true) (hK : X.K = K := by rfl) : CallR X (.builtin "sum") (rSum K) := by subst hK; exact cr_sum hc
theorem cr_maxK (K : PySem.W.Frag) (hc : X.calm = true) (hK : X.K = K := by rfl) : CallR X (.builtin "max") (rMax K) := by subst hK; exact cr_max hc
theorem cr_minK (K : PySem.W.Frag) (hc : X.calm = true) (hK : X.K = K := by rfl) : CallR X (.builtin "min") (rMin K) := by subst hK; exact cr_min hc
theorem cr_sortedSK (K : PySem.W.Frag)  (hK : X.K = K := by rfl) : CallR X (.builtin "sorted") (rSortedS K) := by subst hK; exact cr_sortedS
theorem cr_sortedIK (K : PySem.W.Frag)  (hK : X.K = K := by rfl) : CallR X (.builtin "sorted") (rSortedI K) := by subst hK; exact cr_sortedI
theorem mt_indexK (K : PySem.W.Frag)  (hK : X.K = K := by rfl) : MtR X "list.index" (rIndex K) := by subst hK; exact mt_index
theorem pi_listK (K : PySem.W.Frag) {tg l : Expr} {tl : TE} (hl : PE X l tl) (hK : X.K = K := by rfl) : PI X tg l (iList K tl) := by subst hK; exact pi_list hl
theorem pi_tupK (K : PySem.W.Frag) {tg l : Expr} {tl : TE} (hl : PE X l tl) (hK : X.K = K := by rfl) : PI X tg l (iTup K tl) := by subst hK; exact pi_tup hl
variable {o e : Expr} {es : List Expr} {to : TE} {t : TA} {name : Str} {apos cpos : Pos} {T id : String} {r : V → List V → Hp → VK → Prop}
theorem pe_bmK (K : PySem.W.Frag) (pa : PlainAttrs T) (slot : Slot T name id) (hty : typeOf (.builtin id) = pure (.type "method_descriptor")) (hm : MtR X id r) (ho : PE X o to) (ha : PA X (e :: es) t)
    (hbase : attributeBase o name X.env (eval o X.env) = eval o X.env := by rfl)
    (hfew : ((backTo cpos (starEach (e :: es) X.env)).all (fun x => !x.1) && (backToKw cpos (keywordEach [] X.env)).all (fun x => x.1.isSome)
      && decide ((e :: es).length + ([] : List Keyword).length + (if ([] : List Keyword).isEmpty then 0 else 1) < 30)) = true := by rfl)
    (hline : (apos.endLine == cpos.line) = true := by rfl) (hs : starEach (e :: es) X.env = (false, eval e X.env) :: starEach es X.env := by rfl) (hplain : (backTo cpos (starEach es X.env)).any (·.1) = false := by rfl) (hK : X.K = K := by rfl) :
    PE X (.Call (.Attribute o name apos) (e :: es) [] cpos) (tBM K T r to t) := by subst hK; exact pe_bm pa slot hty hm ho ha hbase hfew hline hs hplain
theorem pe_bm0K (K : PySem.W.Frag) (pa : PlainAttrs T) (slot : Slot T name id) (hty : typeOf (.builtin id) = pure (.type "method_descriptor")) (hm : MtR X id r) (ho : PE X o to)
    (hbase : attributeBase o name X.env (eval o X.env) = eval o X.env := by rfl) (hline : (apos.endLine == cpos.line) = true := by rfl) (hK : X.K = K := by rfl) :
    PE X (.Call (.Attribute o name apos) [] [] cpos) (tBM0 K T r to) := by subst hK; exact pe_bm0 pa slot hty hm ho hbase hline
end
theorem rel_s (x : Str) (t : Tok) : RelV (.str x) (.str x t) := ⟨t, rfl⟩
theorem rel_i (x : Int) (t : Tok) : RelV (.int x) (.int x t) := ⟨t, rfl⟩
theorem rel_r (a : Addr) : RelV (.ref a) (.ref a) := rfl

/-! ### isinstance -/
theorem kSS {K : PySem.W.Frag} : PySem.W.kitOne K (.type "str") (.type "str") = some true := kit_ty (by decide +kernel)
/-! ### loops -/
theorem for_str {z : Str} {g : TG} {tb : TS} {D : Ends} {σ : St} {H : Hp} (Pv : Nat → St → Hp → Prop) (h0 : Pv 0 σ H)
    (hs : ∀ i c σ H, z.cps.toList[i]? = some c → Pv i σ H → g (.str ⟨#[c]⟩) σ H fun σ2 H2 => tb { D with nx := Pv (i + 1), ct := Pv (i + 1), bk := D.nx } σ2 H2) (hd : ∀ σ H, Pv z.cps.size σ H → D.nx σ H) :
    ∃ W : Nat → Nat → St → Hp → Prop, (∃ m, W 0 m σ H) ∧ ∀ i m σ H, W i m σ H →
      ((Its z).stop i H ∧ D.nx σ H) ∨ ((Its z).go i H ∧ ∃ N : St → Hp → Prop, (∀ σ' H', N σ' H' → ∃ m', m' < m ∧ W (i + 1) m' σ' H') ∧ ∀ x H', (Its z).yld i H x H' → g x σ H' fun σ2 H2 => tb { D with nx := N, ct := N, bk := D.nx } σ2 H2) := by
  refine ⟨fun i m σ H => m = z.cps.size - i ∧ i ≤ z.cps.size ∧ Pv i σ H, ⟨z.cps.size, by simp, Nat.zero_le _, h0⟩, ?_⟩
  rintro i m σ H ⟨rfl, hi, p⟩
  by_cases hlt : i < z.cps.size
  · refine .inr ⟨hlt, Pv (i + 1), fun σ' H' p' => ⟨z.cps.size - (i + 1), by omega, rfl, hlt, p'⟩, fun x H' y => ?_⟩
    obtain ⟨rfl, c, hc, rfl⟩ := y
    exact hs i c σ H' (by rw [Array.getElem?_toList]; exact hc) p
  · have : i = z.cps.size := by omega
    subst this
    exact .inl ⟨Nat.le_refl _, hd σ H p⟩

/-! ### drawing -/
def potA (c : Int) : Int := if c - 10 ^ 18 > 0 then c - 10 ^ 18 else 0
def potB (c : Int) : Int := ((if c < 0 then -c else c) % 2147483563 + 1) ^ 2 % 2147483549 + 17
def tkD (a b m : Int) : Int := if 0 < a then a % m else ((b * 48271 + 12347) % 2147483647) * ((b * 48271 + 12347) % 2147483647) % 2147483579 / 13 % m
def tkA (a b m : Int) : Int := if 0 < a then a / m else a
def tkB (a b m : Int) : Int := if 0 < a then b else (b * 48271 + 12347) % 2147483647
theorem tkD_nn {a b m : Int} (h : 0 < m) : 0 ≤ tkD a b m := by
  unfold tkD
  split <;> exact Int.emod_nonneg _ (by omega)
theorem tkD_lt {a b m : Int} (h : 0 < m) : tkD a b m < m := by
  unfold tkD
  split <;> exact Int.emod_lt_of_pos _ h
def PotOk (b : Int) : Prop := 0 ≤ b ∧ b < 4294967296
theorem tkB_ok {a b m : Int} (h : PotOk b) : PotOk (tkB a b m) := by
  unfold tkB PotOk at *
  split <;> omega
theorem potB_ok (c : Int) : PotOk (potB c) := by
  unfold potB PotOk
  omega
/-- a pot stands at p -/
def Pot (H : Hp) (p : Addr) (a b : Int) : Prop := H p = some (.lst [.int a, .int b]) ∧ PotOk b
def sp_l_pot : Sp := fun vs H Q _ => ∃ c : Int, vs = [.int c] ∧ ∀ p H', Same H H' → H p = none → Pot H' p (potA c) (potB c) → Q (.ref p) H'
def sp_l_take : Sp := fun vs H Q _ => ∃ (p : Addr) (a b m : Int), vs = [.ref p, .int m] ∧ Pot H p a b ∧ 0 < m ∧ m.natAbs.log2 < 9000 ∧
  ∀ H', SameBut p H H' → Pot H' p (tkA a b m) (tkB a b m) → Q (.int (tkD a b m)) H'
theorem atI_mem {α : Type} {xs : List α} {i : Int} (h0 : 0 ≤ i) (h1 : i < (xs.length : Int)) : ∃ v, atI xs i = some v ∧ v ∈ xs := by
  obtain ⟨j, rfl⟩ : ∃ j : Nat, i = (j : Int) := ⟨i.toNat, by omega⟩
  have hj : j < xs.length := by omega
  exact ⟨xs[j], atI_nat (by simp [hj]), List.getElem_mem hj⟩
theorem sz_of {n : Nat} (h : n ≤ 100000) : n ≤ sizeLine := Nat.le_trans h (by decide)
theorem sz_lt {n : Nat} (h : n < 100000) : n < sizeLine := Nat.lt_of_lt_of_le h (by decide)
theorem sum_ones {ys : List Str} (h : ∀ y ∈ ys, y.length = 1) : (ys.map (·.length)).sum = ys.length := by
  induction ys with
  | nil => rfl
  | cons y r ih =>
    rw [List.map_cons, List.sum_cons, ih fun z hz => h z (List.mem_cons_of_mem _ hz), h y List.mem_cons_self, List.length_cons]
    omega
theorem len_append (a b : Str) : (a ++ b).length = a.length + b.length := by
  show (a.cps ++ b.cps).size = _
  rw [Array.size_append]
  rfl
theorem len_toList (a : Str) : a.cps.toList.length = a.length := by
  rw [Array.length_toList]
  rfl
theorem Pot.ne {H : Hp} {p q : Addr} {a b : Int} (h : Pot H p a b) (n : H q = none) : q ≠ p := fun e => by
  subst e
  rw [h.1] at n
  cases n
theorem Pot.new {H : Hp} {p q : Addr} {a b : Int} {o : HO} (h : Pot H p a b) (n : H q = none) : Pot (L2.upd H q o) p a b := ⟨by rw [upd_ne (Ne.symm (h.ne n))]; exact h.1, h.2⟩
theorem Pot.other {H : Hp} {p q : Addr} {a b : Int} {o : HO} (h : Pot H p a b) (n : q ≠ p) : Pot (L2.upd H q o) p a b := ⟨by rw [upd_ne (Ne.symm n)]; exact h.1, h.2⟩
theorem SameBut.new {p q : Addr} {H H' : Hp} {o : HO} (h : SameBut p H H') (n : H' q = none) : SameBut p H (L2.upd H' q o) := h.same (Same.new n)
/-- a draw below m, small -/
theorem draw3 {m : Int} (h0 : 0 < m) (h : m < 2 ^ 60) : 0 < m ∧ m.natAbs.log2 < 9000 := ⟨h0, Nat.lt_of_lt_of_le (PySem.Flt.log2_lt_of (k := 60) (by decide) (by omega)) (by decide)⟩
/-- a cell of the script, or 0: some int -/
def sp_l_at (K : PySem.W.Frag) : Sp := fun vs H Q _ => ∃ (a : Addr) (ns : List Int) (i : Nat), vs = [.ref a, .int i] ∧ SqL K H a (ns.map V.int) ∧ ∀ c : Int, Q (.int c) H
/-- the law's own promise -/
def sp_law (K : PySem.W.Frag) : Sp := fun vs H Q _ => ∃ (a : Addr) (ns : List Int), vs = [.ref a] ∧ SqL K H a (ns.map V.int) ∧ ns.length ≤ 63 ∧ ∀ H', Q (.bl true) H'
/-- a draw, whatever comes -/
def sp_l_tk : Sp := fun vs H Q _ => ∃ (p : Addr) (a b m : Int), vs = [.ref p, .int m] ∧ Pot H p a b ∧ 0 < m ∧ m.natAbs.log2 < 9000 ∧
  ∀ (d a' b' : Int) (H' : Hp), SameBut p H H' → Pot H' p a' b' → 0 ≤ d → d < m → Q (.int d) H'
theorem take_any : ∀ vs H Q E, sp_l_tk vs H Q E → sp_l_take vs H Q E := by
  rintro vs H Q E ⟨p, a, b, m, rfl, hp, h0, h1, k⟩
  exact ⟨p, a, b, m, rfl, hp, h0, h1, fun H' s' p' => k _ _ _ H' s' p' (tkD_nn h0) (tkD_lt h0)⟩
theorem log2_small {m : Int} (h0 : 0 < m) (h : m < 2 ^ 60) : m.natAbs.log2 < 9000 :=
  Nat.lt_of_lt_of_le (PySem.Flt.log2_lt_of (k := 60) (by decide) (by omega)) (by decide)
end Cl

/-! ### ClHex: numbers in base sixteen, sums of texts -/
namespace Cl
open PySem L2
def hd (k : Nat) : Nat := if k < 10 then 48 + k else 87 + k
def hxR : Nat → Nat → List Nat → List Nat
  | 0, _, f => f
  | k + 1, r, f => if r = 0 then f else hxR k (r / 16) (hd (r % 16) :: f)
def hexL (n : Nat) : List Nat := hxR n (n / 16) [hd (n % 16)]
def sOf (l : List Nat) : Str := ⟨l.toArray⟩
def hexS (n : Nat) : Str := sOf (hexL n)
theorem hxR_fuel : ∀ (k r : Nat) (f : List Nat), r ≤ k → ∀ j, r ≤ j → hxR k r f = hxR j r f
  | 0, r, f, h, j, hj => by
    have : r = 0 := by omega
    subst this
    cases j with
    | zero => rfl
    | succ j => rfl
  | k + 1, r, f, h, j, hj => by
    cases j with
    | zero =>
      have : r = 0 := by omega
      subst this
      rfl
    | succ j =>
      show (if r = 0 then f else hxR k (r / 16) (hd (r % 16) :: f)) = if r = 0 then f else hxR j (r / 16) (hd (r % 16) :: f)
      split
      · rfl
      · exact hxR_fuel k (r / 16) _ (by omega) j (by omega)
theorem hxR_step {k r : Nat} (f : List Nat) (h : r ≤ k) (h0 : r ≠ 0) : hxR k r f = hxR k (r / 16) (hd (r % 16) :: f) := by
  cases k with
  | zero => omega
  | succ k =>
    show (if r = 0 then f else hxR k (r / 16) (hd (r % 16) :: f)) = _
    rw [if_neg h0]
    exact hxR_fuel _ _ _ (by omega) _ (by omega)
theorem hxR_zero (k : Nat) (f : List Nat) : hxR k 0 f = f := by
  cases k <;> rfl
def figs : Str := "0123456789abcdef"
theorem figs_at {k : Nat} (h : k < 16) : atI figs.cps.toList ((k : Nat) : Int) = some (hd k) := by
  have : ∀ k : Fin 16, atI figs.cps.toList ((k.val : Nat) : Int) = some (hd k.val) := by decide +kernel
  exact this ⟨k, h⟩
theorem figs_len : figs.length ≤ sizeLine := by decide +kernel
theorem sOf_app (a b : List Nat) : sOf a ++ sOf b = sOf (a ++ b) := by
  show (⟨a.toArray ++ b.toArray⟩ : Str) = ⟨(a ++ b).toArray⟩
  rw [List.append_toArray]
theorem sOf_len (l : List Nat) : (sOf l).length = l.length := by
  show l.toArray.size = _
  simp
theorem emod_nat (m k : Nat) : ((m : Int) % (k : Int)) = ((m % k : Nat) : Int) := by omega
theorem ediv_nat (m k : Nat) : ((m : Int) / (k : Int)) = ((m / k : Nat) : Int) := by omega
def sp_hex : Sp := fun vs H Q _ => ∃ n : Nat, vs = [.int n] ∧ n < 2 ^ 60 ∧ Q (.str (hexS n)) H
theorem hex_lt {i n j : Nat} (h : n < 2 ^ 60) (hj : j = n / 16 ^ i) (h0 : 0 < j) : i < 15 := by
  refine Nat.lt_of_not_le fun q => ?_
  have h1 : (16:Nat) ^ 15 ≤ 16 ^ i := Nat.pow_le_pow_right (by decide) q
  have h2 : (16:Nat) ^ 15 = 2 ^ 60 := by decide
  have h3 : n / 16 ^ i = 0 := Nat.div_eq_of_lt (by omega)
  omega
theorem hex_le {i n j : Nat} (hj : j = n / 16 ^ i) : j ≤ n := by
  rw [hj]
  exact Nat.div_le_self _ _
theorem str17 {l : List Nat} (h : l.length ≤ 100) : (sOf l).length ≤ sizeLine := by
  rw [sOf_len]
  exact Nat.le_trans h (by decide)

/-- the two numbers of a text's sum -/
def smA : List Nat → Nat → Nat
  | [], a => a
  | c :: r, a => smA r ((a + c) % 251)
def smB : List Nat → Nat → Nat → Nat
  | [], _, b => b
  | c :: r, a, b => smB r ((a + c) % 251) ((b + (a + c) % 251) % 241)
def smA' (l : List Nat) (n : Nat) : Nat := smA (l.take n) 0
def smB' (l : List Nat) (n : Nat) : Nat := smB (l.take n) 0 0
theorem smA_snoc : ∀ (l : List Nat) (c a : Nat), smA (l ++ [c]) a = (smA l a + c) % 251
  | [], _, _ => rfl
  | _ :: r, c, a => smA_snoc r c _
theorem smB_snoc : ∀ (l : List Nat) (c a b : Nat), smB (l ++ [c]) a b = (smB l a b + (smA l a + c) % 251) % 241
  | [], _, _, _ => rfl
  | _ :: r, c, a, b => smB_snoc r c _ _
theorem take_snoc {α : Type} {l : List α} {i : Nat} {c : α} (h : l[i]? = some c) : l.take (i + 1) = l.take i ++ [c] := by
  rw [List.take_add_one, h]
  rfl
theorem smA_lt : ∀ (l : List Nat) (a : Nat), a < 251 → smA l a < 251
  | [], _, h => h
  | _ :: r, _, _ => smA_lt r _ (Nat.mod_lt _ (by decide))
theorem smB_lt : ∀ (l : List Nat) (a b : Nat), b < 241 → smB l a b < 241
  | [], _, _, h => h
  | _ :: r, _, _, _ => smB_lt r _ _ (Nat.mod_lt _ (by decide))
def two (n : Nat) : Str := sOf [hd (n / 16), hd (n % 16)]
theorem two_zfill {n : Nat} (h : n < 256) : Txt.zfill (hexS n) 2 = two n := by
  have : ∀ n : Fin 256, Txt.zfill (hexS n.val) 2 = two n.val := by decide +kernel
  exact this ⟨n, h⟩
theorem two_cut {n : Nat} (h : n < 256) : cutS (hexS (256 + n)) (some 1) none = two n := by
  have : ∀ n : Fin 256, cutS (hexS (256 + n.val)) (some 1) none = two n.val := by decide +kernel
  exact this ⟨n, h⟩
theorem hex3 {n : Nat} (h : n < 256) : (hexS (256 + n)).length ≤ sizeLine := by
  have : ∀ n : Fin 256, (hexS (256 + n.val)).length = 3 := by decide +kernel
  exact Nat.le_trans (Nat.le_of_eq (this ⟨n, h⟩)) (by decide)
def sumS (z : Str) : Str := two (smA z.cps.toList 0) ++ two (smB z.cps.toList 0 0)
def sp_sum : Sp := fun vs H Q _ => ∃ z : Str, vs = [.str z] ∧ Q (.str (sumS z)) H
end Cl

/-! ### ClD: data made of tuples: how they stand, stay, are cut, compared and shown -/
namespace Cl
open PySem L2

/-- tuples, and what is read only, stay -/
structure TS (H H' : Hp) : Prop where
  tup : ∀ a xs, H a = some (.tup xs) → H' a = some (.tup xs)
  frz : ∀ a o u, H a = some (.frz o u) → H' a = some (.frz o u)
theorem TS.refl (H : Hp) : TS H H := ⟨fun _ _ h => h, fun _ _ _ h => h⟩
theorem TS.trans {H H1 H2 : Hp} (a : TS H H1) (b : TS H1 H2) : TS H H2 := ⟨fun x y h => b.tup x y (a.tup x y h), fun x y z h => b.frz x y z (a.frz x y z h)⟩
theorem TS.of {H H' : Hp} (s : Same H H') : TS H H' := ⟨fun a _ h => s a _ h, fun a _ _ h => s a _ h⟩
theorem TS.new {H : Hp} {p : Addr} {o : HO} (h : H p = none) : TS H (upd H p o) := TS.of (Same.new h)
theorem TS.lst {H : Hp} {p : Addr} {xs : List V} {o : HO} (h : H p = some (.lst xs)) : TS H (upd H p o) := by
  refine ⟨fun a ys e => ?_, fun a u v e => ?_⟩
  all_goals
    have n : a ≠ p := fun q => by
      subst q
      rw [h] at e
      cases e
    rw [upd_ne n]
    exact e
theorem TS.but {p : Addr} {H H' : Hp} {xs : List V} (s : SameBut p H H') (h : H p = some (.lst xs)) : TS H H' := by
  refine ⟨fun a ys e => ?_, fun a u v e => ?_⟩
  all_goals
    refine s a _ e fun q => ?_
    subst q
    rw [h] at e
    cases e
theorem TS.butI {p C dx : Addr} {H H' : Hp} {fs : List (Str × V)} (s : SameBut p H H') (h : H p = some (.ins C dx fs)) : TS H H' := by
  refine ⟨fun a ys e => ?_, fun a u v e => ?_⟩
  all_goals
    refine s a _ e fun q => ?_
    subst q
    rw [h] at e
    cases e
theorem SameBut.seqI {K : PySem.W.Frag} {p C dx a : Addr} {H H' : Hp} {fs : List (Str × V)} {xs : List V} (s : SameBut p H H') (h : H p = some (.ins C dx fs)) (q : SqL K H a xs) : SqL K H' a xs := by
  rcases q with (q | ⟨o, q⟩) | q
  · refine .inl (.inl (s _ _ q fun e => ?_))
    subst e
    rw [h] at q
    cases q
  · refine .inl (.inr ⟨o, s _ _ q fun e => ?_⟩)
    subst e
    rw [h] at q
    cases q
  · exact .inr q
theorem TS.dK {p : Addr} {H : Hp} {kvs : List (Key × V)} {o : HO} (h : H p = some (.dK kvs)) : TS H (upd H p o) := by
  refine ⟨fun a ys e => ?_, fun a u v e => ?_⟩
  all_goals
    have n : a ≠ p := fun q => by
      subst q
      rw [h] at e
      cases e
    rw [upd_ne n]
    exact e
theorem TS.pot {p : Addr} {H H' : Hp} {a b : Int} (s : SameBut p H H') (h : Pot H p a b) : TS H H' := TS.but s h.1
theorem TS.seq {K : PySem.W.Frag} {H H' : Hp} {a : Addr} {xs : List V} (e : TS H H') (h : SqT K H a xs) : SqT K H' a xs := by
  rcases h with (h | ⟨o, h⟩) | h
  · exact .inl (.inl (e.tup _ _ h))
  · exact .inl (.inr ⟨o, e.frz _ _ _ h⟩)
  · exact .inr h

mutual
/-- v stands for d in H; d has tuples alone within -/
inductive Dt (K : PySem.W.Frag) (H : Hp) : V → PyData → Prop
  | non : Dt K H .non .none
  | bl (b : Bool) : Dt K H (.bl b) (.bool b)
  | int (i : Int) : Dt K H (.int i) (.int i)
  | str (x : Str) : Dt K H (.str x) (.str x)
  | tup {a : Addr} {xs : List V} {ds : List PyData} : SqT K H a xs → DtAll K H xs ds → Dt K H (.ref a) (.tuple ds)
inductive DtAll (K : PySem.W.Frag) (H : Hp) : List V → List PyData → Prop
  | nil : DtAll K H [] []
  | cons {v : V} {vs : List V} {d : PyData} {ds : List PyData} : Dt K H v d → DtAll K H vs ds → DtAll K H (v :: vs) (d :: ds)
end
section
variable {K : PySem.W.Frag} {H H' : Hp}
mutual
theorem Dt.mono (e : TS H H') : ∀ (d : PyData) {v : V}, Dt K H v d → Dt K H' v d
  | .none, _, h => by cases h; exact .non
  | .bool b, _, h => by cases h; exact .bl b
  | .int i, _, h => by cases h; exact .int i
  | .str x, _, h => by cases h; exact .str x
  | .tuple ds, _, h => by
    cases h with
    | tup hs ha => exact .tup (e.seq hs) (DtAll.mono e ds ha)
  | .list _, _, h => by cases h
  | .dict _, _, h => by cases h
theorem DtAll.mono (e : TS H H') : ∀ (ds : List PyData) {vs : List V}, DtAll K H vs ds → DtAll K H' vs ds
  | [], _, h => by cases h; exact .nil
  | d :: ds, _, h => by
    cases h with
    | cons h1 h2 => exact .cons (Dt.mono e d h1) (DtAll.mono e ds h2)
end
mutual
theorem Dt.dp : ∀ (d : PyData) {v : V}, Dt K H v d → Dp K H v d
  | .none, _, h => by cases h; exact .non
  | .bool b, _, h => by cases h; exact .bl b
  | .int i, _, h => by cases h; exact .int i
  | .str x, _, h => by cases h; exact .str x
  | .tuple ds, _, h => by
    cases h with
    | tup hs ha => exact .tup hs (DtAll.dp ds ha)
  | .list _, _, h => by cases h
  | .dict _, _, h => by cases h
theorem DtAll.dp : ∀ (ds : List PyData) {vs : List V}, DtAll K H vs ds → DpAll K H vs ds
  | [], _, h => by cases h; exact .nil
  | d :: ds, _, h => by
    cases h with
    | cons h1 h2 => exact .cons (Dt.dp d h1) (DtAll.dp ds h2)
end
theorem Dt.m (e : TS H H') {d : PyData} {v : V} (h : Dt K H v d) : Dt K H' v d := Dt.mono e d h
theorem DtAll.m (e : TS H H') {ds : List PyData} {vs : List V} (h : DtAll K H vs ds) : DtAll K H' vs ds := DtAll.mono e ds h
theorem DtAll.length : ∀ {ds : List PyData} {vs : List V}, DtAll K H vs ds → vs.length = ds.length
  | [], _, h => by cases h; rfl
  | _ :: _, _, h => by
    cases h with
    | cons h1 h2 => rw [List.length_cons, List.length_cons, DtAll.length h2]
theorem DtAll.get : ∀ {ds : List PyData} {vs : List V} {i : Nat} {d : PyData}, DtAll K H vs ds → ds[i]? = some d → ∃ v, vs[i]? = some v ∧ Dt K H v d
  | [], _, _, _, _, e => by simp at e
  | _ :: _, _, 0, _, h, e => by
    cases h with
    | cons h1 h2 =>
      rw [List.getElem?_cons_zero] at e
      cases e
      exact ⟨_, rfl, h1⟩
  | _ :: _, _, i + 1, _, h, e => by
    cases h with
    | cons h1 h2 =>
      rw [List.getElem?_cons_succ] at e
      obtain ⟨v, q1, q2⟩ := DtAll.get h2 e
      exact ⟨v, by rw [List.getElem?_cons_succ]; exact q1, q2⟩
theorem DtAll.getV : ∀ {ds : List PyData} {vs : List V} {i : Nat} {v : V}, DtAll K H vs ds → vs[i]? = some v → ∃ d, ds[i]? = some d ∧ Dt K H v d
  | [], _, _, _, h, e => by cases h; simp at e
  | _ :: _, _, 0, _, h, e => by
    cases h with
    | cons h1 h2 =>
      rw [List.getElem?_cons_zero] at e
      cases e
      exact ⟨_, rfl, h1⟩
  | _ :: _, _, i + 1, _, h, e => by
    cases h with
    | cons h1 h2 =>
      rw [List.getElem?_cons_succ] at e
      obtain ⟨d, q1, q2⟩ := DtAll.getV h2 e
      exact ⟨d, by rw [List.getElem?_cons_succ]; exact q1, q2⟩
theorem DtAll.app : ∀ {ds es : List PyData} {vs us : List V}, DtAll K H vs ds → DtAll K H us es → DtAll K H (vs ++ us) (ds ++ es)
  | [], _, _, _, h, k => by cases h; exact k
  | _ :: _, _, _, _, h, k => by
    cases h with
    | cons h1 h2 => exact .cons h1 (DtAll.app h2 k)
theorem DtAll.take : ∀ {ds : List PyData} {vs : List V} (n : Nat), DtAll K H vs ds → DtAll K H (vs.take n) (ds.take n)
  | _, _, 0, _ => .nil
  | [], _, _ + 1, h => by cases h; exact .nil
  | _ :: _, _, n + 1, h => by
    cases h with
    | cons h1 h2 => exact .cons h1 (DtAll.take n h2)
theorem DtAll.drop : ∀ {ds : List PyData} {vs : List V} (n : Nat), DtAll K H vs ds → DtAll K H (vs.drop n) (ds.drop n)
  | _, _, 0, h => h
  | [], _, _ + 1, h => by cases h; exact .nil
  | _ :: _, _, n + 1, h => by
    cases h with
    | cons h1 h2 => exact DtAll.drop n h2
theorem DtAll.of : ∀ {ds : List PyData} {vs : List V}, vs.length = ds.length → (∀ (i : Nat) v d, vs[i]? = some v → ds[i]? = some d → Dt K H v d) → DtAll K H vs ds
  | [], [], _, _ => .nil
  | [], _ :: _, e, _ => by cases e
  | _ :: _, [], e, _ => by cases e
  | d :: ds, v :: vs, e, h => .cons (h 0 v d rfl rfl) (DtAll.of (by simpa using e) fun i w c h1 h2 => h (i + 1) w c (by simpa using h1) (by simpa using h2))
theorem DtAll.strs (ys : List Str) : DtAll K H (ys.map V.str) (ys.map PyData.str) := by
  induction ys with
  | nil => exact .nil
  | cons y r ih => exact .cons (.str y) ih
theorem DtAll.ints (ys : List Int) : DtAll K H (ys.map V.int) (ys.map PyData.int) := by
  induction ys with
  | nil => exact .nil
  | cons y r ih => exact .cons (.int y) ih
/-- a new tuple of such -/
theorem Dt.new {p : Addr} {xs : List V} {ds : List PyData} (h : DtAll K H xs ds) (hp : H p = none) : Dt K (upd H p (.tup xs)) (.ref p) (.tuple ds) := .tup (SqT.of upd_same) (h.m (TS.new hp))
theorem Dt.inv {v : V} {ds : List PyData} (h : Dt K H v (.tuple ds)) : ∃ a xs, v = .ref a ∧ SqT K H a xs ∧ DtAll K H xs ds := by
  cases h with
  | tup hs ha => exact ⟨_, _, rfl, hs, ha⟩
theorem Dt.two {v : V} {d1 d2 : PyData} (h : Dt K H v (.tuple [d1, d2])) : ∃ a v1 v2, v = .ref a ∧ SqT K H a [v1, v2] ∧ Dt K H v1 d1 ∧ Dt K H v2 d2 := by
  obtain ⟨a, xs, rfl, hs, ha⟩ := h.inv
  cases ha with
  | cons h1 ha => cases ha with
    | cons h2 ha => cases ha with
      | nil => exact ⟨_, _, _, rfl, hs, h1, h2⟩
theorem Dt.three {v : V} {d1 d2 d3 : PyData} (h : Dt K H v (.tuple [d1, d2, d3])) : ∃ a v1 v2 v3, v = .ref a ∧ SqT K H a [v1, v2, v3] ∧ Dt K H v1 d1 ∧ Dt K H v2 d2 ∧ Dt K H v3 d3 := by
  obtain ⟨a, xs, rfl, hs, ha⟩ := h.inv
  cases ha with
  | cons h1 ha => cases ha with
    | cons h2 ha => cases ha with
      | cons h3 ha => cases ha with
        | nil => exact ⟨_, _, _, _, rfl, hs, h1, h2, h3⟩
theorem Dt.strI {v : V} {x : Str} (h : Dt K H v (.str x)) : v = .str x := by cases h; rfl
theorem Dt.intI {v : V} {i : Int} (h : Dt K H v (.int i)) : v = .int i := by cases h; rfl
theorem Dt.nonI {v : V} (h : Dt K H v .none) : v = .non := by cases h; rfl

/-! ### slices -/
def cutG {α : Type} (xs : List α) (lo hi : Option Int) : List α := (xs.drop (HT.sIx xs.length 0 lo)).take (HT.sIx xs.length xs.length hi - HT.sIx xs.length 0 lo)
theorem cutG_V (xs : List V) (lo hi : Option Int) : cutG xs lo hi = cutV xs lo hi := rfl
theorem DtAll.cut {ds : List PyData} {vs : List V} (h : DtAll K H vs ds) (lo hi : Option Int) : DtAll K H (cutV vs lo hi) (cutG ds lo hi) := by
  unfold cutV cutG
  rw [h.length]
  exact (h.drop _).take _
theorem sl_dt {v : V} {ds : List PyData} {lo hi : Option Int} {Q : VK} (h : Dt K H v (.tuple ds)) (k : ∀ v' H', Same H H' → Dt K H' v' (.tuple (cutG ds lo hi)) → Q v' H') : rSlA K v lo hi H Q := by
  obtain ⟨a, xs, rfl, hs, ha⟩ := h.inv
  refine ⟨a, xs, rfl, hs, fun e => k _ H (Same.refl H) ?_, fun _ p hp => k _ _ (Same.new hp) (Dt.new (ha.cut lo hi) hp)⟩
  have : cutG ds lo hi = ds := by
    unfold cutG
    rw [← ha.length, e.1, e.2, ha.length]
    simp
  rw [this]
  exact h
theorem sIx_le {n k : Nat} (d : Nat) (h : k ≤ n) : HT.sIx n d (some (k : Int)) = k := by
  rw [HT.sIx_nat]
  omega
theorem sIx_big {n k : Nat} (d : Nat) (h : n ≤ k) : HT.sIx n d (some (k : Int)) = n := by
  rw [HT.sIx_nat]
  omega
theorem cutG_nat {α : Type} (xs : List α) (i j : Nat) : cutG xs (some (i : Int)) (some (j : Int)) = (xs.drop i).take (j - i) := by
  unfold cutG
  by_cases h1 : i ≤ xs.length
  · rw [sIx_le _ h1]
    by_cases h2 : j ≤ xs.length
    · rw [sIx_le _ h2]
    · rw [sIx_big _ (by omega), List.take_of_length_le (by simp), List.take_of_length_le (by simp; omega)]
  · rw [sIx_big _ (by omega : xs.length ≤ i), List.drop_of_length_le (by omega), List.drop_of_length_le (by omega)]
    simp
end

/-! ### ranges by fours, by sixes -/
theorem rgc4 {n : Nat} (hn : n < 1000000) : RgC 0 (n : Int) 4 ((n + 3) / 4) := by
  have e : Builtin.Range.rangeSize 0 (n : Int) 4 = (((n + 3) / 4 : Nat) : Int) := by
    unfold Builtin.Range.rangeSize
    rw [if_pos (by decide)]
    split <;> omega
  refine ⟨by decide, by decide, ?_, e⟩
  have fits : ∀ z : Int, -(2 ^ 62) ≤ z → z < 2 ^ 62 → Builtin.Range.rangeFitsLong z = true := fun z h1 h2 => by
    unfold Builtin.Range.rangeFitsLong
    rw [decide_eq_true (show -(2 ^ 63) ≤ z by omega), decide_eq_true (show z < 2 ^ 63 by omega)]
    rfl
  unfold Builtin.Range.small
  rw [e]
  repeat rw [fits _ (by omega) (by omega)]
  simp
theorem rgc6 {n : Nat} (hn : n < 1000000) : RgC 0 (n : Int) 6 ((n + 5) / 6) := by
  have e : Builtin.Range.rangeSize 0 (n : Int) 6 = (((n + 5) / 6 : Nat) : Int) := by
    unfold Builtin.Range.rangeSize
    rw [if_pos (by decide)]
    split <;> omega
  refine ⟨by decide, by decide, ?_, e⟩
  have fits : ∀ z : Int, -(2 ^ 62) ≤ z → z < 2 ^ 62 → Builtin.Range.rangeFitsLong z = true := fun z h1 h2 => by
    unfold Builtin.Range.rangeFitsLong
    rw [decide_eq_true (show -(2 ^ 63) ≤ z by omega), decide_eq_true (show z < 2 ^ 63 by omega)]
    rfl
  unfold Builtin.Range.small
  rw [e]
  repeat rw [fits _ (by omega) (by omega)]
  simp
/-! ### texts of signs -/
def chS (c : Nat) : Str := ⟨#[c]⟩
theorem join_ones0 : ∀ cs : List Nat, Str.join (Str.ofString "") (cs.map chS) = ⟨cs.toArray⟩
  | [] => by decide +kernel
  | [c] => rfl
  | c :: d :: r => by
    have ih := join_ones0 (d :: r)
    show chS c ++ Str.ofString "" ++ Str.join (Str.ofString "") (chS d :: r.map chS) = _
    rw [show Str.join (Str.ofString "") (chS d :: r.map chS) = ⟨(d :: r).toArray⟩ from ih]
    show (⟨(#[c] ++ (Str.ofString "").cps) ++ (d :: r).toArray⟩ : Str) = ⟨(c :: d :: r).toArray⟩
    rw [show (Str.ofString "").cps = #[] by decide +kernel]
    simp
theorem join_ones (cs : List Nat) : Txt.join (Str.ofString "") (cs.map chS) = ⟨cs.toArray⟩ := by
  rw [TL.join_eq]
  exact join_ones0 cs
/-! ### data compared -/
/-- what can be compared: depth at most k -/
structure Shp (k : Nat) (d : PyData) : Prop where
  lay : d.canLay0 = true
  dep : d.depth ≤ k
theorem Shp.mono {k k' : Nat} {d : PyData} (h : Shp k d) (hk : k ≤ k') : Shp k' d := ⟨h.lay, Nat.le_trans h.dep hk⟩
theorem Shp.none {k : Nat} : Shp k .none := ⟨by simp [PyData.canLay0], by simp [PyData.depth]⟩
theorem Shp.bool {k : Nat} (b : Bool) : Shp k (.bool b) := ⟨by simp [PyData.canLay0], by simp [PyData.depth]⟩
theorem Shp.int {k : Nat} (i : Int) : Shp k (.int i) := ⟨by simp [PyData.canLay0], by simp [PyData.depth]⟩
theorem Shp.str {k : Nat} {x : Str} (h : ∀ c ∈ x.cps.toList, c < 1114112) : Shp k (.str x) := by
  refine ⟨?_, by simp [PyData.depth]⟩
  simp only [PyData.canLay0]
  unfold PyData.strOk
  rw [Array.all_eq_true]
  intro i hi
  exact decide_eq_true (h _ (by simp))
theorem shpAll {k : Nat} : ∀ {ds : List PyData}, (∀ d ∈ ds, Shp k d) → PyData.canLayAll0 ds = true ∧ PyData.depthAll ds ≤ k
  | [], _ => ⟨by simp [PyData.canLayAll0], by simp [PyData.depthAll]⟩
  | d :: ds, h => by
    obtain ⟨a, b⟩ := shpAll (ds := ds) fun x hx => h x (List.mem_cons_of_mem _ hx)
    have hd := h d List.mem_cons_self
    exact ⟨by simp only [PyData.canLayAll0, hd.lay, a, Bool.and_self], by simp only [PyData.depthAll]; exact Nat.max_le.mpr ⟨hd.dep, b⟩⟩
theorem Shp.list {k : Nat} {ds : List PyData} (h : ∀ d ∈ ds, Shp k d) : Shp (k + 1) (.list ds) := by
  obtain ⟨a, b⟩ := shpAll h
  exact ⟨by simp only [PyData.canLay0]; exact a, by simp only [PyData.depth]; omega⟩
theorem Shp.tuple {k : Nat} {ds : List PyData} (h : ∀ d ∈ ds, Shp k d) : Shp (k + 1) (.tuple ds) := by
  obtain ⟨a, b⟩ := shpAll h
  exact ⟨by simp only [PyData.canLay0]; exact a, by simp only [PyData.depth]; omega⟩
theorem Shp.shaped {k : Nat} {d : PyData} (h : Shp k d) (hk : k ≤ 64) : SeqAt.shaped d = true := by
  unfold SeqAt.shaped
  rw [h.lay, decide_eq_true (Nat.le_trans h.dep hk)]
  rfl
theorem eq_same {K : PySem.W.Frag} {H : Hp} {x y : V} {d : PyData} {k : Nat} {Q : VK} (hx : Dp K H x d) (hy : Dp K H y d) (h : Shp k d) (q : Q (.bl true) H) (hk : k ≤ 64 := by decide) : rEqD K x y H Q := by
  refine ⟨d, d, hx, hy, h.shaped hk, h.shaped hk, ?_⟩
  rw [SeqAt.eqv_refl d h.lay]
  exact q
theorem ne_same {K : PySem.W.Frag} {H : Hp} {x y : V} {d : PyData} {k : Nat} {Q : VK} (hx : Dp K H x d) (hy : Dp K H y d) (h : Shp k d) (q : Q (.bl false) H) (hk : k ≤ 64 := by decide) : rNeD K x y H Q := by
  refine ⟨d, d, hx, hy, h.shaped hk, h.shaped hk, ?_⟩
  rw [SeqAt.eqv_refl d h.lay]
  exact q
theorem Dp.ofL {K : PySem.W.Frag} {H : Hp} {l : Addr} {xs : List V} {ds : List PyData} (h : H l = some (.lst xs)) (ha : DtAll K H xs ds) : Dp K H (.ref l) (.list ds) := .lst (SqL.of h) ha.dp
theorem Dp.ofLints {K : PySem.W.Frag} {H : Hp} {l : Addr} {ns : List Int} (h : H l = some (.lst (ns.map V.int))) : Dp K H (.ref l) (.list (ns.map PyData.int)) := Dp.ofL h (DtAll.ints ns)
theorem Shp.ints {k : Nat} (ns : List Int) : Shp (k + 1) (.list (ns.map PyData.int)) := Shp.list fun d hd => by
  obtain ⟨i, _, rfl⟩ := List.mem_map.mp hd
  exact Shp.int i
/-! ### repr -/
/-- what can be shown: depth at most k, at most n signs -/
structure Sz (k n : Nat) (d : PyData) : Prop where
  sh : d.showable = true
  dep : d.depth ≤ k
  len : d.shown.length ≤ n
theorem Sz.mono {k n k' n' : Nat} {d : PyData} (h : Sz k n d) (hk : k ≤ k') (hn : n ≤ n') : Sz k' n' d := ⟨h.sh, Nat.le_trans h.dep hk, Nat.le_trans h.len hn⟩
theorem Sz.none {k : Nat} : Sz k 4 .none := ⟨by simp [PyData.showable], by simp [PyData.depth], by decide +kernel⟩
theorem Sz.bool {k : Nat} (b : Bool) : Sz k 5 (.bool b) := ⟨by simp [PyData.showable], by simp [PyData.depth], by cases b <;> decide +kernel⟩
theorem ofString_len (s : String) : (Str.ofString s).length = s.length := by
  rw [Str.ofString_eq_toList]
  show (s.toList.map Char.toNat).toArray.size = _
  rw [List.size_toArray, List.length_map, String.length_toList]
theorem Sz.int {k m : Nat} {i : Int} (h0 : 0 < m) (h : i.natAbs < 2 ^ m) (hm : m < 1920) : Sz k (m + 1) (.int i) := by
  have hl := PySem.Flt.log2_lt_of h0 h
  refine ⟨by simp only [PyData.showable]; exact decide_eq_true (Nat.lt_trans hl hm), by simp [PyData.depth], ?_⟩
  simp only [PyData.shown]
  rw [ofString_len]
  exact PySem.int_text_length_le h0 hl
theorem Sz.str {k : Nat} {x : Str} (h : ∀ c ∈ x.cps.toList, c < 16 ^ 8) : Sz k (10 * x.length + 2) (.str x) :=
  ⟨by simp [PyData.showable], by simp [PyData.depth], by simp only [PyData.shown]; exact PySem.StrLaws.reprText_len x h⟩
theorem szAll {k n : Nat} : ∀ {ds : List PyData}, (∀ d ∈ ds, Sz k n d) → PyData.showableAll ds = true ∧ PyData.depthAll ds ≤ k ∧ PySem.piled (PyData.shownAll ds) ≤ (n + 2) * ds.length ∧ (PyData.shownAll ds).length = ds.length
  | [], _ => ⟨by simp [PyData.showableAll], by simp [PyData.depthAll], by simp [PyData.shownAll, PySem.piled], by simp [PyData.shownAll]⟩
  | d :: ds, h => by
    obtain ⟨a, b, c, e⟩ := szAll (ds := ds) fun x hx => h x (List.mem_cons_of_mem _ hx)
    have hd := h d List.mem_cons_self
    refine ⟨by simp only [PyData.showableAll, hd.sh, a, Bool.and_self], by simp only [PyData.depthAll]; exact Nat.max_le.mpr ⟨hd.dep, b⟩, ?_, by simp only [PyData.shownAll, List.length_cons, e]⟩
    simp only [PyData.shownAll]
    rw [PySem.piled_cons, List.length_cons, Nat.mul_succ]
    have := hd.len
    omega
theorem textFrom_le : ∀ (ts : List Str) (k : Nat) (acc : Str), (PySem.textFrom k acc ts).length ≤ acc.length + PySem.piled ts
  | [], _, acc => by
    show acc.length ≤ acc.length + _
    omega
  | t :: r, k, acc => by
    have h := textFrom_le r (k + 1) (acc ++ (if k > 0 then ", " else "" : String) ++ t)
    have e : (acc ++ (if k > 0 then ", " else "" : String) ++ t).length ≤ acc.length + 2 + t.length := by
      rw [len_append, len_append]
      have : ((if k > 0 then ", " else "" : String) : Str).length ≤ 2 := by split <;> decide +kernel
      omega
    show (PySem.textFrom (k + 1) _ r).length ≤ _
    rw [PySem.piled_cons]
    omega
theorem Sz.list {k n : Nat} {ds : List PyData} (h : ∀ d ∈ ds, Sz k n d) : Sz (k + 1) ((n + 2) * ds.length + 2) (.list ds) := by
  obtain ⟨a, b, c, e⟩ := szAll h
  refine ⟨by simp only [PyData.showable]; exact a, by simp only [PyData.depth]; omega, ?_⟩
  simp only [PyData.shown]
  unfold PySem.listText
  rw [len_append]
  have h1 := textFrom_le (PyData.shownAll ds) 0 "["
  have e1 : (("[" : String) : Str).length = 1 := by decide +kernel
  have e2 : (("]" : String) : Str).length = 1 := by decide +kernel
  omega
theorem Sz.tuple {k n : Nat} {ds : List PyData} (h : ∀ d ∈ ds, Sz k n d) : Sz (k + 1) ((n + 2) * ds.length + 3) (.tuple ds) := by
  obtain ⟨a, b, c, e⟩ := szAll h
  refine ⟨by simp only [PyData.showable]; exact a, by simp only [PyData.depth]; omega, ?_⟩
  simp only [PyData.shown]
  unfold PySem.tupleText
  rw [len_append, len_append]
  have e1 : (("(" : String) : Str).length = 1 := by decide +kernel
  have e2 : ((if (PyData.shownAll ds).length == 1 then ",)" else ")" : String) : Str).length ≤ 2 := by split <;> decide +kernel
  have h1 : (Str.join ", " (PyData.shownAll ds)).length ≤ PySem.piled (PyData.shownAll ds) := by
    cases hq : PyData.shownAll ds with
    | nil =>
      show 0 ≤ _
      omega
    | cons x r =>
      have := PySem.join_length_add (x :: r) (by simp)
      omega
  omega
section
variable {X : Cx}
def rRepr (K : PySem.W.Frag) : List V → Hp → VK → Prop := fun xs H Q => ∃ (a : Addr) (d : PyData), xs = [.ref a] ∧ Dp K H (.ref a) d ∧ Sz 60 sizeLine d ∧ Q (.str d.shown) H
theorem dp_noDict {K : PySem.W.Frag} {H : Hp} : ∀ (d : PyData) {v : V}, Dp K H v d → d.hasDict = false
  | .none, _, _ => by simp [PyData.hasDict]
  | .bool _, _, _ => by simp [PyData.hasDict]
  | .int _, _, _ => by simp [PyData.hasDict]
  | .str _, _, _ => by simp [PyData.hasDict]
  | .list ds, _, h => by
    cases h with
    | lst _ ha =>
      simp only [PyData.hasDict]
      exact go ds ha
  | .tuple ds, _, h => by
    cases h with
    | tup _ ha =>
      simp only [PyData.hasDict]
      exact go ds ha
  | .dict _, _, h => by cases h
where go : ∀ (ds : List PyData) {vs : List V}, DpAll K H vs ds → PyData.hasDictAll ds = false
  | [], _, _ => by simp [PyData.hasDictAll]
  | d :: ds, _, h => by
    cases h with
    | cons h1 h2 =>
      simp only [PyData.hasDictAll, dp_noDict d h1, go ds h2, Bool.or_self]
theorem call_repr {k : Nat} (hr : Rm k X.A) : CallR X (.builtin "repr") (rRepr X.K) := by
  intro pins s σ H xs us Q I r h
  obtain ⟨a, d, rfl, hd, sz, q⟩ := h
  obtain ⟨u, rfl, hu⟩ := vals1 r
  obtain ⟨as, hr1⟩ := Dp.reads I d _ u hd hu
  cases hu
  have hz := sz.dep
  have hun := hr.units
  exact PySem.repr_of_reads' (h₀ := s.heap) hr1 sz.sh (PyData.noDict_hsm (dp_noDict d hd)) hr.gd (by omega) (fun _ _ e => e)
    (fun h' u tk hk => ⟨.str d.shown, H, I.kept hk, ⟨_, rfl⟩, q⟩) sz.len
theorem call_reprK (K : PySem.W.Frag) {k : Nat} (hr : Rm k X.A) (hK : X.K = K := by rfl) : CallR X (.builtin "repr") (rRepr K) := by subst hK; exact call_repr hr
end
end Cl

/-! ### ClTab: tables of a disk, as an object -/
namespace Cl
open PySem L2
/-- v is an address: a tuple of two numbers -/
def AddrV (K : PySem.W.Frag) (H : Hp) (v : V) : Prop := ∃ i j : Int, Dt K H v (.tuple [.int i, .int j]) ∧ 0 ≤ i ∧ i < 10 ^ 12 ∧ 0 ≤ j ∧ j < 10 ^ 12
theorem AddrV.m {K : PySem.W.Frag} {H H' : Hp} {v : V} (t : TS H H') (h : AddrV K H v) : AddrV K H' v := by
  obtain ⟨i, j, h, r⟩ := h
  exact ⟨i, j, h.m t, r⟩
/-- a dict from numbers to addresses -/
structure Pl (K : PySem.W.Frag) (H : Hp) (kvs : List (Key × V)) : Prop where
  ks : ∃ ns : List Int, kvs.map (·.1) = ns.map Sum.inl ∧ ∀ n ∈ ns, 0 ≤ n ∧ n < 10 ^ 12
  nd : (kvs.map (·.1)).Nodup
  l0 : 0 < kvs.length
  l1 : kvs.length ≤ 24
  vs : ∀ p ∈ kvs, AddrV K H p.2
theorem Pl.m {K : PySem.W.Frag} {H H' : Hp} {kvs : List (Key × V)} (t : TS H H') (h : Pl K H kvs) : Pl K H' kvs := ⟨h.ks, h.nd, h.l0, h.l1, fun p hp => (h.vs p hp).m t⟩
def Ad (K : PySem.W.Frag) (H : Hp) (ws : List V) : Prop := ws.length ≤ 10 ∧ ∀ v ∈ ws, AddrV K H v
theorem Ad.m {K : PySem.W.Frag} {H H' : Hp} {ws : List V} (t : TS H H') (h : Ad K H ws) : Ad K H' ws := ⟨h.1, fun p hp => (h.2 p hp).m t⟩
/-- a list of addresses is data -/
theorem addr_data {K : PySem.W.Frag} {H : Hp} : ∀ {ws : List V}, (∀ v ∈ ws, AddrV K H v) → ∃ ds, DtAll K H ws ds ∧ (∀ d ∈ ds, Shp 1 d) ∧ (∀ d ∈ ds, Sz 1 89 d)
  | [], _ => ⟨[], .nil, (fun _ h => nomatch h), fun _ h => nomatch h⟩
  | v :: r, h => by
    obtain ⟨ds, a, b, c⟩ := addr_data (ws := r) fun x hx => h x (List.mem_cons_of_mem _ hx)
    obtain ⟨i, j, hd, i0, i1, j0, j1⟩ := h v List.mem_cons_self
    refine ⟨.tuple [.int i, .int j] :: ds, .cons hd a, fun d hd => ?_, fun d hd => ?_⟩
    · rcases List.mem_cons.mp hd with rfl | hd
      · refine Shp.tuple (k := 0) fun d hd => ?_
        rcases List.mem_cons.mp hd with rfl | hd
        · exact Shp.int _
        · rw [List.mem_singleton.mp hd]
          exact Shp.int _
      · exact b d hd
    · rcases List.mem_cons.mp hd with rfl | hd
      · refine (Sz.tuple (k := 0) (n := 41) (ds := [.int i, .int j]) fun d hd => ?_).mono (by decide) (by simp)
        rcases List.mem_cons.mp hd with rfl | hd
        · exact Sz.int (m := 40) (by decide) (by omega) (by decide)
        · rw [List.mem_singleton.mp hd]
          exact Sz.int (m := 40) (by decide) (by omega) (by decide)
      · exact c d hd
theorem valV_mem {kvs : List (Key × V)} {k : Key} {v : V} (h : valV kvs k = some v) : (k, v) ∈ kvs := by
  unfold valV at h
  cases e : kvs.find? (fun kv => decide (kv.1 = k)) with
  | none => rw [e] at h; cases h
  | some p =>
    rw [e] at h
    cases h
    have h1 : p.1 = k := of_decide_eq_true (List.find?_some (p := fun kv : Key × V => decide (kv.1 = k)) e)
    have h2 := List.mem_of_find?_eq_some e
    rw [← h1]
    exact h2
theorem valV_of_key {kvs : List (Key × V)} {k : Key} (h : k ∈ kvs.map (·.1)) : ∃ v, valV kvs k = some v := by
  obtain ⟨p, hp, rfl⟩ := List.mem_map.mp h
  have : (valV kvs p.1).isSome = true := by
    rw [← valV_any]
    exact List.any_eq_true.mpr ⟨p, hp, decide_eq_true rfl⟩
  exact Option.isSome_iff_exists.mp this
def tabF (d l : Addr) (nb dd lg : Int) : List (Str × V) := [("spots_by_number", V.ref d), ("number_behind", V.int nb), ("deeds_done", V.int dd), ("last_group", V.int lg), ("checkpoint_spots", V.ref l)]
theorem tab_1 (d l : Addr) (nb dd lg : Int) : (tabF d l nb dd lg).lookup ("spots_by_number" : Str) = some (.ref d) := lk0
theorem tab_2 (d l : Addr) (nb dd lg : Int) : (tabF d l nb dd lg).lookup ("number_behind" : Str) = some (.int nb) := lkS (by decide +kernel) lk0
theorem tab_3 (d l : Addr) (nb dd lg : Int) : (tabF d l nb dd lg).lookup ("deeds_done" : Str) = some (.int dd) := lkS (by decide +kernel) (lkS (by decide +kernel) lk0)
theorem tab_4 (d l : Addr) (nb dd lg : Int) : (tabF d l nb dd lg).lookup ("last_group" : Str) = some (.int lg) := lkS (by decide +kernel) (lkS (by decide +kernel) (lkS (by decide +kernel) lk0))
theorem tab_5 (d l : Addr) (nb dd lg : Int) : (tabF d l nb dd lg).lookup ("checkpoint_spots" : Str) = some (.ref l) := lkS (by decide +kernel) (lkS (by decide +kernel) (lkS (by decide +kernel) (lkS (by decide +kernel) lk0)))
theorem tab_no (d l : Addr) (nb dd lg : Int) {m : Str} (h : ([("spots_by_number" : Str), "number_behind", "deeds_done", "last_group", "checkpoint_spots"] : List Str).all (fun f => !decide (m = f)) = true) : (tabF d l nb dd lg).lookup m = none := lk_no h
/-- tables stand at x -/
structure Tab (C : Addr) (H : Hp) (x d l : Addr) (kvs : List (Key × V)) (nb dd lg : Int) (ws : List V) : Prop where
  ob : ∃ dx, H x = some (.ins C dx (tabF d l nb dd lg))
  dc : H d = some (.dK kvs)
  ls : H l = some (.lst ws)
theorem Tab.m {C : Addr} {H H' : Hp} {x d l : Addr} {kvs : List (Key × V)} {nb dd lg : Int} {ws : List V} (t : Same H H') (h : Tab C H x d l kvs nb dd lg ws) : Tab C H' x d l kvs nb dd lg ws := by
  obtain ⟨⟨dx, e⟩, h1, h2⟩ := h
  exact ⟨⟨dx, t _ _ e⟩, t _ _ h1, t _ _ h2⟩
end Cl

/-! ### ClStar: targets with a star -/
namespace Cl
open PySem PySem.Spec PySem.Calls PySem.W PyProof.Rows L2
section
variable {prog : Program} {w : World} {A : Around} {E : Value → Shared → Prop} {s : Shared}
/-- what a target with a star takes of a list -/
theorem star_list {l : Addr} {items : Array Value} {n i : Nat} {Q : List Value → Shared → Prop} (hl : s.heap.IsList l items) (hh : A.handled = none) (hi : i < n) (hn : n ≤ items.size + 1) (hz : items.size ≤ 16384)
    (h : ∀ (h' : Heap) (tk : Nat), (∀ b o, s.heap.get? b = some o → h'.get? b = some o) → Q (items.toList.take i ++ [.ref h'.objs.size] ++ (items.toList.drop i).drop (items.size + 1 - n))
      { s with heap := h'.push { cls := .type "list", data := .seq ((items.toList.drop i).take (items.size + 1 - n)).toArray }, toks := tk }) : wpAny (model prog w) A (unpackItems (.ref l) n (some i)) Q E s := by
  have hlt : l ≠ s.heap.objs.size := by obtain ⟨o, ho, _⟩ := hl; exact Nat.ne_of_lt (Heap.lt_size ho)
  have hll : l < s.heap.objs.size := by obtain ⟨o, ho, _⟩ := hl; exact Heap.lt_size ho
  unfold unpackItems
  refine wpAny_bind ?_
  unfold notIterableAtAll
  refine wpAny_bind (wpAny_specialOf hl.typeIs slot_list_iter.lookup ?_)
  refine wpAny_pure ?_
  simp only [Bool.false_eq_true, if_false]
  refine wpAny_bind (wpAny_holding (wpAny_pyIter_list hl ?_))
  refine wpAny_bind (wpAny_holding (kun_draw hlt i 0 _ _ ⟨_, Heap.get?_push_size _ rfl, rfl, rfl⟩ (hl.push _) (by omega) fun h₁ hit₁ hs₁ => ?_))
  have hl₁ : h₁.IsList l items := (hl.push _).extBut hs₁.extBut hlt
  rw [Nat.zero_add] at hit₁
  have hit₁' := hit₁
  obtain ⟨oi, hoi, _⟩ := hit₁'
  have hl₁' := hl₁
  obtain ⟨ol, hol, _⟩ := hl₁'
  rw [List.drop_zero]
  have hfl : (items.toList.take i).length = i := by rw [List.length_take, Array.length_toList]; omega
  rw [if_neg (show ¬ ((items.toList.take i).length < i) by rw [hfl]; omega)]
  refine wpAny_bind (wpAny_holding (kun_collect (s := { s with heap := h₁ }) (T := "list_iterator") (.inr (.inr (.inl rfl))) (Walks.list (A := A.in1) hh s.heap.objs.size l hlt items) (fun j u st => st.1.typeIs) (k := i) (by omega) ⟨hit₁, hl₁⟩ (Heap.lt_size hoi) (Heap.lt_size hol) (fun h₂ tk hk => ?_) (by rw [sizeLine_eq]; omega)))
  have hrl : (items.toList.drop i).length = items.size - i := by rw [List.length_drop, Array.length_toList]
  have hmid : (items.toList.drop i).length - (n - 1 - i) = items.size + 1 - n := by rw [hrl]; omega
  show wpAny _ _ (if (items.toList.drop i).length < n - 1 - i then _ else _) _ _ _
  rw [if_neg (by rw [hrl]; omega)]
  show wpAny _ _ (newList ((items.toList.drop i).take ((items.toList.drop i).length - (n - 1 - i))) >>= fun d => pure (items.toList.take i ++ [d] ++ (items.toList.drop i).drop ((items.toList.drop i).length - (n - 1 - i)))) _ _ _
  rw [hmid]
  have he : ∀ b o, s.heap.get? b = some o → h₂.get? b = some o := fun b o e => hk b o (Nat.ne_of_lt (Heap.lt_size e)) (hs₁.extBut b o (Nat.ne_of_lt (Heap.lt_size e)) (Heap.get?_push_of_some _ e))
  exact wpAny_bind (wpAny_newList (s := { s with heap := h₂, toks := tk }) (wpAny_pure (h h₂ tk he)) (by rw [List.length_take, hrl, sizeLine_eq]; omega))
theorem star_tuple {l : Addr} {items : Array Value} {n i : Nat} {Q : List Value → Shared → Prop} (hl : IsTup s.heap l items) (hh : A.handled = none) (hi : i < n) (hn : n ≤ items.size + 1) (hz : items.size ≤ 16384)
    (h : ∀ (h' : Heap) (tk : Nat), (∀ b o, s.heap.get? b = some o → h'.get? b = some o) → Q (items.toList.take i ++ [.ref h'.objs.size] ++ (items.toList.drop i).drop (items.size + 1 - n))
      { s with heap := h'.push { cls := .type "list", data := .seq ((items.toList.drop i).take (items.size + 1 - n)).toArray }, toks := tk }) : wpAny (model prog w) A (unpackItems (.ref l) n (some i)) Q E s := by
  have hlt : l ≠ s.heap.objs.size := by obtain ⟨o, ho, _⟩ := hl; exact Nat.ne_of_lt (Heap.lt_size ho)
  have hll : l < s.heap.objs.size := by obtain ⟨o, ho, _⟩ := hl; exact Heap.lt_size ho
  unfold unpackItems
  refine wpAny_bind ?_
  unfold notIterableAtAll
  refine wpAny_bind (wpAny_specialOf hl.typeIs slot_tuple_iter.lookup ?_)
  refine wpAny_pure ?_
  simp only [Bool.false_eq_true, if_false]
  refine wpAny_bind (wpAny_holding (iter_tuple hl ?_))
  refine wpAny_bind (wpAny_holding (draw_tuple hlt i 0 _ _ ⟨_, Heap.get?_push_size _ rfl, rfl, rfl⟩ (hl.push _) (by omega) fun h₁ hit₁ hs₁ => ?_))
  have hl₁ : IsTup h₁ l items := (hl.push _).extBut hs₁.extBut hlt
  rw [Nat.zero_add] at hit₁
  have hit₁' := hit₁
  obtain ⟨oi, hoi, _⟩ := hit₁'
  have hl₁' := hl₁
  obtain ⟨ol, hol, _⟩ := hl₁'
  rw [List.drop_zero]
  have hfl : (items.toList.take i).length = i := by rw [List.length_take, Array.length_toList]; omega
  rw [if_neg (show ¬ ((items.toList.take i).length < i) by rw [hfl]; omega)]
  refine wpAny_bind (wpAny_holding (kun_collect (s := { s with heap := h₁ }) (T := "tuple_iterator") (.inr (.inr (.inr rfl))) (Walks.tuple (A := A.in1) hh s.heap.objs.size l hlt items) (fun j u st => st.1.typeIs) (k := i) (by omega) ⟨hit₁, hl₁⟩ (Heap.lt_size hoi) (Heap.lt_size hol) (fun h₂ tk hk => ?_) (by rw [sizeLine_eq]; omega)))
  have hrl : (items.toList.drop i).length = items.size - i := by rw [List.length_drop, Array.length_toList]
  have hmid : (items.toList.drop i).length - (n - 1 - i) = items.size + 1 - n := by rw [hrl]; omega
  show wpAny _ _ (if (items.toList.drop i).length < n - 1 - i then _ else _) _ _ _
  rw [if_neg (by rw [hrl]; omega)]
  show wpAny _ _ (newList ((items.toList.drop i).take ((items.toList.drop i).length - (n - 1 - i))) >>= fun d => pure (items.toList.take i ++ [d] ++ (items.toList.drop i).drop ((items.toList.drop i).length - (n - 1 - i)))) _ _ _
  rw [hmid]
  have he : ∀ b o, s.heap.get? b = some o → h₂.get? b = some o := fun b o e => hk b o (Nat.ne_of_lt (Heap.lt_size e)) (hs₁.extBut b o (Nat.ne_of_lt (Heap.lt_size e)) (Heap.get?_push_of_some _ e))
  exact wpAny_bind (wpAny_newList (s := { s with heap := h₂, toks := tk }) (wpAny_pure (h h₂ tk he)) (by rw [List.length_take, hrl, sizeLine_eq]; omega))
end
section
variable {X : Cx} {pos : Pos}
theorem objOk_get {P : Program} {w : World} {H : Hp} {h : Heap} {a : Addr} {o : HO} (x : ObjOk P w H h a o) : ∃ u, h.get? a = some u := by
  cases o with
  | lst xs => obtain ⟨_, _, _, _, e⟩ := x; exact ⟨_, e⟩
  | tup xs => obtain ⟨_, _, _, _, e, _⟩ := x; exact ⟨_, e⟩
  | dK kvs => obtain ⟨_, _, _, _, o, _, _, e, _⟩ := x; exact ⟨_, e⟩
  | dT kvs => obtain ⟨_, _, _, _, o, _, _, e, _⟩ := x; exact ⟨_, e⟩
  | set S n => obtain ⟨o, _, _, _, e, _⟩ := x; exact ⟨_, e⟩
  | ins C dx fs => obtain ⟨_, _, _, e, _⟩ := x; exact ⟨_, e⟩
  | own y => exact x
  | xd fs => obtain ⟨_, ⟨_, _, _, e, _⟩, _⟩ := x; exact ⟨_, e⟩
  | rng lo hi => obtain ⟨_, _, _, e⟩ := x; exact ⟨_, e⟩
  | frz ob u => exact ⟨_, x.1⟩
  | tbl ps => exact ⟨_, x⟩
  | met f x' => exact ⟨_, x⟩
  | ext φ => exact x.2.1
/-- a target among others that has a star -/
theorem pgs_star {e : Expr} {es : List Expr} {t : TG} {u : TGs} {p : Pos} (h1 : PG X e t) (h2 : PGs X es u)
    (hs : (assignEach (.Starred e p :: es) X.env).map (·.2) = assign e X.env :: (assignEach es X.env).map (·.2) := by rfl) : PGs X (.Starred e p :: es) (gCons t u) := by
  refine ⟨fun pins s σ H vs us Q I r h => ?_⟩
  obtain ⟨v, vr, e1, h⟩ := h
  subst e1
  cases r with
  | cons r rr =>
    rw [hs]
    refine assignInOrder_cons (thn (h1.run pins s σ H _ _ _ I r h) fun _ s1 ⟨σ1, H1, I1, q1⟩ => ?_)
    exact h2.run pins s1 σ1 H1 _ _ Q I1 rr q1
/-- the things of a list or a tuple to n targets, of which the i-th has a star -/
def gStar (K : PySem.W.Frag) (n i : Nat) (t : TGs) : TG := fun v σ H Q => ∃ a xs, v = .ref a ∧ (SqL K H a xs ∨ SqT K H a xs) ∧ n ≤ xs.length + 1 ∧ xs.length ≤ 16384 ∧
  ∀ D, H D = none → t (xs.take i ++ [.ref D] ++ (xs.drop i).drop (xs.length + 1 - n)) σ (upd H D (.lst ((xs.drop i).take (xs.length + 1 - n)))) Q
theorem pg_tupStar {es : List Expr} {k : Nat} {t : TGs} {n i : Nat} (hc : X.calm = true) (h : PGs X es t)
    (hn : (assignEach es X.env).length = n := by rfl) (hst : (assignEach es X.env).findIdx? (·.1) = some i := by rfl) (hi : i < n := by decide) : PG X (.Tuple es k pos) (gStar X.K n i t) := by
  refine ⟨fun pins s σ H v u Q I r hw => ?_⟩
  obtain ⟨a, xs, e1, hq, hl, hz, hw⟩ := hw
  subst e1
  cases r
  have fin : ∀ (its : List Value), Vals xs its → ∀ (h' : Heap) (tk : Nat), (∀ b o, s.heap.get? b = some o → h'.get? b = some o) →
      wpAny (model X.prog X.w) X.A (assignInOrder ((assignEach es X.env).map (·.2)) (its.toArray.toList.take i ++ [.ref h'.objs.size] ++ (its.toArray.toList.drop i).drop (its.toArray.size + 1 - n))) (fun _ s' => ∃ σ' H', Inv X pins σ' H' s' ∧ Q σ' H') X.xe
        { s with heap := h'.push { cls := .type "list", data := .seq ((its.toArray.toList.drop i).take (its.toArray.size + 1 - n)).toArray }, toks := tk } := by
    intro its rv h' tk hk
    have hlen := rv.length
    rw [show its.toArray.size = xs.length from by rw [List.size_toArray, ← hlen]]
    have hg : s.heap.get? h'.objs.size = none := by
      cases q : s.heap.get? h'.objs.size with
      | none => rfl
      | some o => exact absurd (Heap.lt_size (hk _ o q)) (Nat.lt_irrefl _)
    have hf : H h'.objs.size = none := by
      cases q : H h'.objs.size with
      | none => rfl
      | some u =>
        obtain ⟨o, e⟩ := objOk_get (I.hok _ u q)
        rw [hg] at e
        cases e
    refine h.run pins _ σ _ _ _ Q (I.laidN (t' := tk) (fun b u e => Heap.get?_push_of_some _ (hk b u e)) hg hf ?_) ?_ (hw _ hf)
    · exact ⟨by rw [sizeLine_eq, List.length_take, List.length_drop]; omega, _, 0, (rv.drop i).take _, Heap.get?_push_size _ rfl⟩
    · exact Vals.append (Vals.append (rv.take i) (.cons rfl .nil)) ((rv.drop i).drop _)
  rcases hq with hq | hq
  · obtain ⟨its, rv, ht, _⟩ := I.list hq
    rw [assign_Tuple]
    refine wpAny_bind (wpAny_standAt ?_)
    unfold unpack
    rw [hn, hst]
    exact wpAny_bind (wpAny_holding (star_list ht.isList (I.ok.hd hc) hi (by simpa [← rv.length] using hl) (by simpa [← rv.length] using hz) (fin its rv)))
  · obtain ⟨its, rv, ht, _⟩ := I.tuple hq
    rw [assign_Tuple]
    refine wpAny_bind (wpAny_standAt ?_)
    unfold unpack
    rw [hn, hst]
    exact wpAny_bind (wpAny_holding (star_tuple ht (I.ok.hd hc) hi (by simpa [← rv.length] using hl) (by simpa [← rv.length] using hz) (fin its rv)))
end
end Cl

/-! ### ClSortIt: sorted(d.items()) of a dict from ints to objects -/
namespace Cl
open PySem PySem.Spec PySem.Calls PySem.W PyProof.Rows L2 L2.DX
section
variable {X : Cx}
def rItemsK : V → List V → Hp → VK → Prop := fun x xs H Q => ∃ (a : Addr) (kvs : List (Key × V)), x = .ref a ∧ xs = [] ∧ H a = some (.dK kvs) ∧ ∀ p, H p = none → Q (.ref p) (upd H p (itemsO p a))
theorem dk_raw {P : Program} {w : World} {H : Hp} {h : Heap} {a : Addr} {kvs : List (Key × V)} (x : ObjOk P w H h a (.dK kvs)) :
    kvs.length ≤ sizeLine ∧ (a == sysModules) = false ∧ ∃ (vs : List (Key × Value)) (es : Array DictEntry) (ep : Nat), KV kvs vs ∧ DT.Raw h a es ep ∧ Pairs (mixKind P w) es.toList vs ∧ (vs.map (·.1)).Nodup := by
  obtain ⟨z, hd, vs, kv, o, es, ep, ho, hx, hdat, _, hp, hn⟩ := x
  exact ⟨z, hd, vs, es, ep, kv, ⟨o, ho, hx, hdat⟩, hp, hn⟩
theorem mt_itemsK : MtR X "dict.items" rItemsK := by
  intro pins s σ H x xs v us Q I rx rxs h
  obtain ⟨a, kvs, rfl, rfl, ha, q⟩ := h
  cases rx
  cases rxs
  obtain ⟨z, hd, vs, es, ep, kv, raw, _⟩ := dk_raw (I.hok a _ ha)
  refine DT.callItems (es := es) (ep := ep) hd raw ?_
  have hf : H s.heap.objs.size = none := I.hok.fresh (Nat.le_refl _)
  exact ⟨.ref s.heap.objs.size, upd H s.heap.objs.size (itemsO s.heap.objs.size a), I.laid (t' := s.toks) (fun b u e => Heap.get?_push_of_some _ e) (Nat.le_refl _) (itemsO_ok (Heap.get?_push_size _ rfl)), rfl, q _ hf⟩
end
theorem pairs_get {P : Program} {w : World} : ∀ {es : List DictEntry} {vs : List (Key × Value)}, Pairs (mixKind P w) es vs → ∀ {j : Nat} {e : DictEntry}, es[j]? = some e → ∃ kv, vs[j]? = some kv ∧ keyIs kv.1 e.key = true ∧ e.val = kv.2
  | _, _, .nil, j, e, h => by cases h
  | _, _, .cons a b t, 0, e, h => by
    cases h
    exact ⟨_, rfl, a, b⟩
  | _, _, .cons a b t, j + 1, e, h => pairs_get t h
theorem pairs_len {P : Program} {w : World} : ∀ {es : List DictEntry} {vs : List (Key × Value)}, Pairs (mixKind P w) es vs → es.length = vs.length
  | _, _, .nil => rfl
  | _, _, .cons _ _ t => congrArg (· + 1) (pairs_len t)
/-- the value is a pair of an int and an object -/
def PairI (h : Heap) (v : Value) (n : Int) (c : Addr) : Prop := ∃ (a : Addr) (t : Tok), v = .ref a ∧ IsTup h a #[.int n t, .ref c]
def fstI (h : Heap) (v : Value) : Int := match DT.seqAt0 h (DT.refOf (some v)) with
  | some (.int n _) => n
  | _ => 0
theorem PairI.fst {h : Heap} {v : Value} {n : Int} {c : Addr} (x : PairI h v n c) : fstI h v = n := by
  obtain ⟨a, t, rfl, h1⟩ := x
  unfold fstI
  show (match DT.seqAt0 h a with | some (.int n _) => n | _ => 0) = n
  rw [DT.seqAt0_of h1]
  rfl
theorem firsts_pi {h : Heap} : ∀ vs : List Value, (∀ v ∈ vs, ∃ n c, PairI h v n c) → ∃ fs : List Value, KatTups h vs fs ∧ fs.length = vs.length ∧ ∀ f ∈ fs, ∃ n t, f = Value.int n t
  | [], _ => ⟨[], KatTups.nil, rfl, fun f hf => by simp at hf⟩
  | v :: vs, x => by
    obtain ⟨fs, k, hl, hi⟩ := firsts_pi vs fun u hu => x u (List.mem_cons_of_mem _ hu)
    obtain ⟨m, c, a, t, rfl, ⟨o, ho, hc, n, hd⟩⟩ := x v (List.mem_cons_self ..)
    refine ⟨.int m t :: fs, KatTups.cons ho hc hd rfl k, by rw [List.length_cons, List.length_cons, hl], fun f hf => ?_⟩
    rcases List.mem_cons.mp hf with rfl | hf
    · exact ⟨m, t, rfl⟩
    · exact hi f hf
section
variable {prog : Program} {w : World} {A : Around} {E : Value → Shared → Prop} {s : Shared}
theorem eqBool_same {a : Addr} {Q : Bool → Shared → Prop} (h : Q true s) : wpAny (model prog w) A (eqBool (.ref a) (.ref a)) Q E s := by
  unfold eqBool
  refine wpAny_holding ?_
  refine wpAny_ite_split (fun _ => ?_) (fun hab => absurd (beq_self_eq_true _) hab)
  exact wpAny_bind (wpAny_rule (wpAny_pure h))
theorem kind_pi {vs : List Value} (h2 : 2 ≤ vs.length) (x : ∀ v ∈ vs, ∃ n c, PairI s.heap v n c) (inj : ∀ v ∈ vs, ∀ u ∈ vs, ∀ n c d, PairI s.heap v n c → PairI s.heap u n d → c = d) (Q : SortKind → Shared → Prop)
    (h : ∀ κ, TS.Cmp prog w A s κ (pairsOf vs) (fstI s.heap) → Q κ s) : wpAny (model prog w) A (keyKind' vs.toArray) Q E s := by
  obtain ⟨fs, k, hl, hi⟩ := firsts_pi vs x
  refine kat_kind (T := Value.type "int") k (by omega) (fun f hf => ?_) rfl (h _ ?_)
  · obtain ⟨n, t, rfl⟩ := hi f hf
    exact PySem.W.Looks.of_pure rfl
  · intro p q hp hq Q' E' hQ
    rw [pairsOf_toList] at hp hq
    have mp := (mem_zip_self hp).2
    have mq := (mem_zip_self hq).2
    obtain ⟨n, c, py⟩ := x _ mp
    obtain ⟨m, d, pz⟩ := x _ mq
    have hQ' : Q' (decide (n < m)) s := by
      have hQ2 : Q' (decide (fstI s.heap p.1 < fstI s.heap q.1)) s := hQ
      rw [py.fst, pz.fst] at hQ2
      exact hQ2
    have ij : n = m → c = d := fun e => inj _ mp _ mq n c d py (e ▸ pz)
    obtain ⟨a, t, e1, ⟨o, ho, hc, k1, hd⟩⟩ := py
    obtain ⟨b, u, e2, ⟨o', ho', hc', k2, hd'⟩⟩ := pz
    rw [e1, e2]
    refine kat_lt ho hd ho' hd' ?_
    show KatLex prog w A _ false Q' [(Value.int n t, Value.int m u), (Value.ref c, Value.ref d)] 0 s
    refine kat_cons (wpAny_eqBool_int ?_)
    by_cases e : n = m
    · have ec := ij e
      subst e
      subst ec
      rw [beq_self_eq_true]
      rw [decide_eq_false (Int.lt_irrefl _)] at hQ'
      exact kat_yes (kat_cons (eqBool_same (kat_yes (kat_nil hQ'))))
    · rw [show (n == m) = false from beq_eq_false_iff_ne.mpr e]
      exact kat_no (TS.oneLt_ints _ hQ')
end
/-- the number of an entry -/
def keyN (q : Key × V) : Int := match q.1 with
  | .inl n => n
  | .inr _ => 0
def rSortItI : List V → Hp → VK → Prop := fun vs H Q => ∃ (p a : Addr) (kvs : List (Key × V)), vs = [.ref p] ∧ H p = some (itemsO p a) ∧ H a = some (.dK kvs) ∧ kvs.length < 64 ∧ (∀ q ∈ kvs, ∃ (n : Int) (c : Addr), q = (Sum.inl n, V.ref c)) ∧
  ∀ (H' : Hp) (l : Addr) (ts : List Addr) (rows : List (Key × V)), Same H H' → H l = none → rows.Perm kvs → rows.Pairwise (fun e f => keyN e ≤ keyN f) → H' l = some (.lst (ts.map V.ref)) →
    Paired (fun (t : Addr) (q : Key × V) => H' t = some (.tup [kV q.1, q.2])) ts rows → (∀ t ∈ ts, H t = none) → Q (.ref l) H'
theorem paired_of {α β : Type} {F : α → β → Prop} : ∀ (zs : List (α × β)), (∀ z ∈ zs, F z.1 z.2) → Paired F (zs.map (·.1)) (zs.map (·.2))
  | [], _ => .nil
  | z :: zs, h => .cons (h z List.mem_cons_self) (paired_of zs fun y hy => h y (List.mem_cons_of_mem _ hy))
theorem cr_sortedItI {X : Cx} (hc : X.calm = true) : CallR X (.builtin "sorted") rSortItI := by
  intro pins s σ H xs us Q I r h
  obtain ⟨p, a, kvs, rfl, hp, ha, h64, hv, q⟩ := h
  obtain rfl := Vals.ref1 r
  have view : s.heap.IsItemsView p a := (show ObjOk X.prog X.w H s.heap p (itemsO p a) from I.hok p _ hp).1
  obtain ⟨z, hd, vs, es, ep, kv, raw, hprs, hnd⟩ := dk_raw (I.hok a _ ha)
  have l1 : kvs.length = vs.length := Paired.length kv
  have l2 : es.size = vs.length := by rw [← Array.length_toList]; exact pairs_len hprs
  have hh : X.A.handled = none := I.ok.hd hc
  refine DT.sortedI (es := es) (ep := ep) hh view raw (by rw [sizeLine_eq]; omega) fun h' tk as hk hlt hl hG => ?_
  have lak : as.length = kvs.length := by omega
  have nd : as.Nodup := List.Pairwise.imp (fun h => Nat.ne_of_lt h) hG.rise
  -- the pairs that were made
  have pr : ∀ (j : Nat) (b : Addr), as[j]? = some b → ∃ (n : Int) (c : Addr) (t : Tok), kvs[j]? = some (Sum.inl n, V.ref c) ∧ h'.get? b = some { cls := .type "tuple", data := .seq #[Value.int n t, Value.ref c] } := by
    intro j b hj
    obtain ⟨en, he, hg⟩ := hG.pairs j b hj
    obtain ⟨w0, hw, hkey, hval⟩ := pairs_get hprs (j := j) (e := en) (by rw [Array.getElem?_toList]; exact he)
    obtain ⟨e0, he0, r1, r2⟩ := pget kv hw
    obtain ⟨n, c, rfl⟩ := hv e0 (List.mem_of_getElem? he0)
    have r1' : w0.1 = Sum.inl n := r1.symm
    rw [r1'] at hkey
    obtain ⟨t, ht⟩ : ∃ t, en.key = Value.int n t := by
      rcases keyIs_shape hkey with ⟨i, t, e1, e2⟩ | ⟨x, t, e1, e2⟩
      · cases e1
        exact ⟨t, e2⟩
      · cases e1
    have hx : en.val = Value.ref c := by
      rw [hval]
      exact (show RelV (V.ref c) w0.2 from r2)
    refine ⟨n, c, t, he0, ?_⟩
    rw [hg, ht, hx]
  have kn : (kvs.map (·.1)).Nodup := by
    have e : kvs.map (·.1) = vs.map (·.1) := by
      have go : ∀ {l1 : List (Key × V)} {l2 : List (Key × Value)}, KV l1 l2 → l1.map (·.1) = l2.map (·.1) := by
        intro l1 l2 h
        induction h with
        | nil => rfl
        | cons f _ ih =>
          exact (congr (congrArg List.cons f.1) ih)
      exact go kv
    rw [e]
    exact hnd
  -- the heap of the sort
  have hob : (h'.push { cls := .type "list", data := .seq (as.map Value.ref).toArray }).get? h'.objs.size = some (seqObj "list" (as.map Value.ref).toArray 0) := Heap.get?_push_size _ rfl
  have kb : ∀ b o, s.heap.get? b = some o → (h'.push { cls := .type "list", data := .seq (as.map Value.ref).toArray }).get? b = some o := fun b o e => Heap.get?_push_of_some _ (hk b o e)
  have ne0 : ∀ b o, h'.get? b = some o → b ≠ h'.objs.size := fun b o e => Nat.ne_of_lt (Heap.lt_size e)
  generalize hh2 : h'.push { cls := .type "list", data := .seq (as.map Value.ref).toArray } = h2 at hob kb ⊢
  have ka : ∀ b o, h'.get? b = some o → h2.get? b = some o := fun b o e => by rw [← hh2]; exact Heap.get?_push_of_some _ e
  have pin : ∀ (j : Nat) (b : Addr), as[j]? = some b → ∃ (n : Int) (c : Addr), kvs[j]? = some (Sum.inl n, V.ref c) ∧ PairI (TS.midHeap h2 h'.objs.size (as.map Value.ref)) (.ref b) n c := by
    intro j b hj
    obtain ⟨n, c, t, he, hg⟩ := pr j b hj
    exact ⟨n, c, he, b, t, rfl, ⟨_, TS.midHeap_old (ne0 _ _ hg) (ka _ _ hg), rfl, 0, rfl⟩⟩
  have tx : ∀ (j : Nat) (b : Addr) (e : Key × V), as[j]? = some b → kvs[j]? = some e → fstI (TS.midHeap h2 h'.objs.size (as.map Value.ref)) (.ref b) = keyN e := by
    intro j b e hj he
    obtain ⟨n, c, he', hp'⟩ := pin j b hj
    have ee := Option.some.inj (he'.symm.trans he)
    rw [← ee]
    exact hp'.fst
  have at_ : ∀ v ∈ as.map Value.ref, ∃ (j : Nat) (b : Addr), v = .ref b ∧ as[j]? = some b := by
    intro v hv'
    obtain ⟨b, hb, rfl⟩ := List.mem_map.mp hv'
    obtain ⟨j, hj⟩ := List.mem_iff_getElem?.mp hb
    exact ⟨j, b, rfl, hj⟩
  refine wpAny_call_entry PyProof.Rows.slot_list_sort ⟨_, hob, rfl⟩ PyProof.Rows.entry_list_sort
    (SK.plain_sort (s := { s with heap := h2, toks := tk }) (r := fun v => fstI (TS.midHeap h2 h'.objs.size (as.map Value.ref)) v) hob (by rw [List.length_map]; omega) (fun h2' Qk hQk => ?_) fun ps out o1 o2 o3 => ⟨.none, rfl, ?_⟩) (PyProof.Rows.args_list_sort _)
  · refine kind_pi (s := { s with heap := TS.midHeap h2 h'.objs.size (as.map Value.ref), toks := tk }) h2' (fun v hv' => ?_) (fun v hv' u hu' n c d pv pu => ?_) Qk hQk
    · obtain ⟨j, b, rfl, hj⟩ := at_ v hv'
      obtain ⟨n, c, _, hp'⟩ := pin j b hj
      exact ⟨n, c, hp'⟩
    · obtain ⟨j, b, rfl, hj⟩ := at_ v hv'
      obtain ⟨i, b2, rfl, hi⟩ := at_ u hu'
      obtain ⟨n1, c1, hk1, hp1⟩ := pin j b hj
      obtain ⟨n2, c2, hk2, hp2⟩ := pin i b2 hi
      have e1 : n1 = n := hp1.fst.symm.trans pv.fst
      have e2 : n2 = n := hp2.fst.symm.trans pu.fst
      have eij : j = i := by
        have a1 : (kvs.map (·.1))[j]? = some (Sum.inl n) := by rw [List.getElem?_map, hk1, e1]; rfl
        have a2 : (kvs.map (·.1))[i]? = some (Sum.inl n) := by rw [List.getElem?_map, hk2, e2]; rfl
        exact (List.getElem?_inj (List.getElem?_eq_some_iff.mp a1).1 kn).mp (a1.trans a2.symm)
      subst eij
      have eb : b = b2 := Option.some.inj (hj.symm.trans hi)
      subst eb
      obtain ⟨a1, t1, f1, ⟨o1, g1, _, _, d1⟩⟩ := pv
      obtain ⟨a2, t2, f2, ⟨o2, g2, _, _, d2⟩⟩ := pu
      cases f1
      cases f2
      have eo := Option.some.inj (g1.symm.trans g2)
      subst eo
      rw [d1] at d2
      injection d2 with d3 _
      have d4 := congrArg Array.toList d3
      simpa using (List.cons.inj (List.cons.inj d4).2).1
  · show EP X pins σ Q (.ref h'.objs.size) { s with heap := sortedHeap h2 h'.objs.size (as.map Value.ref) out, toks := tk }
    obtain ⟨zs, pz, ez⟩ := perm_lift (fun z : Addr × (Key × V) => (Value.ref z.1, Value.ref z.1)) o2 (as.zip kvs) (zip_self Value.ref as kvs lak)
    have idx : ∀ z ∈ zs, ∃ j : Nat, as[j]? = some z.1 ∧ kvs[j]? = some z.2 := by
      intro z' hz'
      obtain ⟨j, hj⟩ := List.mem_iff_getElem?.mp (pz.mem_iff.mp hz')
      exact ⟨j, List.getElem?_zip_eq_some.mp hj⟩
    have hout : out.toList = zs.map fun z => Value.ref z.1 := by
      rw [o1, ← ez, List.map_map]
      all_goals rfl
    have hperm : (zs.map (·.2)).Perm kvs := by
      have e := pz.map (·.2)
      have m2 : (as.zip kvs).map (·.2) = kvs := List.map_snd_zip (by rw [lak]; exact Nat.le_refl _)
      rw [m2] at e
      exact e
    have hsort : (zs.map (·.2)).Pairwise (fun e f => keyN e ≤ keyN f) := by
      rw [← ez, List.pairwise_map] at o3
      rw [List.pairwise_map]
      refine List.Pairwise.imp_of_mem (fun {x y} hx hy h => ?_) o3
      obtain ⟨j, j1, j2⟩ := idx x hx
      obtain ⟨i, i1, i2⟩ := idx y hy
      have h' : fstI (TS.midHeap h2 h'.objs.size (as.map Value.ref)) (.ref x.1) ≤ fstI (TS.midHeap h2 h'.objs.size (as.map Value.ref)) (.ref y.1) := h
      rw [tx j _ _ j1 j2, tx i _ _ i1 i2] at h'
      exact h'
    -- behind the sort
    have kF : ∀ b o, b ≠ h'.objs.size → h2.get? b = some o → (sortedHeap h2 h'.objs.size (as.map Value.ref) out).get? b = some o := fun b o hb e => (PyProof.Rows.sortedHeap_old hb (Heap.lt_size e)).trans e
    have kS : ∀ b o, s.heap.get? b = some o → (sortedHeap h2 h'.objs.size (as.map Value.ref) out).get? b = some o := fun b o e => kF b o (ne0 _ _ (hk b o e)) (kb b o e)
    obtain ⟨eF, heF⟩ := PyProof.Rows.sortedHeap_at (vs := as.map Value.ref) (out := out) hob
    have I1 : L2.Inv X pins σ H { s with heap := sortedHeap h2 h'.objs.size (as.map Value.ref) out, toks := tk } := I.kept (t' := tk) kS
    have hn0 : H h'.objs.size = none := I.hok.fresh (Nat.le_of_lt hlt)
    have hlen : (zs.map fun z => V.ref z.1).length ≤ sizeLine := by
      have e := hperm.length_eq
      rw [List.length_map] at e
      rw [List.length_map, sizeLine_eq]
      omega
    have rv : Vals (zs.map fun z => V.ref z.1) out.toList := by
      rw [hout]
      exact vals_maps (fun z : Addr × (Key × V) => V.ref z.1) (fun z => Value.ref z.1) zs fun _ _ => rfl
    have I2 : L2.Inv X pins σ (upd H h'.objs.size (.lst (zs.map fun z => V.ref z.1))) { s with heap := sortedHeap h2 h'.objs.size (as.map Value.ref) out, toks := tk } :=
      I1.take (h' := sortedHeap h2 h'.objs.size (as.map Value.ref) out) (t' := tk) (fun b ob _ e => e) (I.fpOk (Nat.le_of_lt hlt) hn0) ⟨hlen, out.toList, eF, rv, heF⟩
    obtain ⟨H2, I3, g, qt⟩ := takeT (P := fun b vs => ∃ (j : Nat) (e : Key × V), as[j]? = some b ∧ kvs[j]? = some e ∧ vs = [kV e.1, e.2]) I as _ I2 nd fun b hb => by
      obtain ⟨j, hj⟩ := List.mem_iff_getElem?.mp hb
      obtain ⟨n, c, t, he, hg⟩ := pr j b hj
      have hbl : s.heap.objs.size ≤ b := Nat.le_of_lt (hG.above b hb)
      refine ⟨hbl, ?_, [.int n, .ref c], ⟨j, (Sum.inl n, V.ref c), hj, he, rfl⟩, fun H3 => ⟨(by rw [sizeLine_eq]; show 2 ≤ 16777216; omega), [Value.int n t, Value.ref c], .cons ⟨t, rfl⟩ (.cons rfl .nil), ⟨_, kF _ _ (ne0 _ _ hg) (ka _ _ hg), rfl, 0, rfl⟩⟩⟩
      rw [upd_ne (ne0 _ _ hg)]
      exact I.hok.fresh hbl
    have gr : Same H H2 := fun b o e => g b o (by rw [upd_ne (ne_of_none e hn0)]; exact e)
    have em : (zs.map fun z => V.ref z.1) = (zs.map (·.1)).map V.ref := by rw [List.map_map]; rfl
    refine ⟨.ref h'.objs.size, H2, I3, rfl, q H2 h'.objs.size (zs.map (·.1)) (zs.map (·.2)) gr hn0 hperm hsort (by rw [← em]; exact g _ _ upd_same) (paired_of zs fun z' hz' => ?_) fun t ht => ?_⟩
    · obtain ⟨i, i1, i2⟩ := idx z' hz'
      obtain ⟨vs, ⟨j, e, j1, j2, ev⟩, hH⟩ := qt z'.1 (List.mem_of_getElem? i1)
      have eij : i = j := (List.getElem?_inj (List.getElem?_eq_some_iff.mp i1).1 nd).mp (i1.trans j1.symm)
      subst eij
      have ee : e = z'.2 := Option.some.inj (j2.symm.trans i2)
      rw [ev, ee] at hH
      exact hH
    · obtain ⟨z', hz', rfl⟩ := List.mem_map.mp ht
      obtain ⟨i, i1, _⟩ := idx z' hz'
      exact I.hok.fresh (Nat.le_of_lt (hG.above _ (List.mem_of_getElem? i1)))
end Cl

namespace Cl
open PySem L2
def topS (i : Nat) : Stmt := PySem.Challenge.pw_cleanedlog_k61_checkpoints.main.body.getD i (.Pass ⟨0, 0, 0, 0⟩)
section
variable {P : Program} {w : World} {K : PySem.W.Frag} {mg : Str → Option Value} {base : Heap}
abbrev s_checkpoint : Stmt := topS 2
abbrev N_checkpoint : List Str := ["places", "next_number", "deeds", "g", "spots", "rows", "pieces", "ahead", "last", "at"]
theorem sc_checkpoint : FnScope N_checkpoint ["places", "next_number", "deeds", "g", "spots"] (defScope s_checkpoint) := ⟨rfl, rfl, rfl, by decide +kernel, rfl, by decide +kernel, by decide +kernel⟩
/-- an address's data -/
def Adr (d : PyData) : Prop := ∃ i j : Int, d = .tuple [.int i, .int j] ∧ 0 ≤ i ∧ i < 10 ^ 12 ∧ 0 ≤ j ∧ j < 10 ^ 12
def rowF (b : Int × PyData) : PyData := .tuple [.int b.1, b.2]
/-- a dict's book: its numbers with their addresses' data -/
abbrev BkR (K : PySem.W.Frag) (H : Hp) (q : Key × V) (b : Int × PyData) : Prop := q.1 = Sum.inl b.1 ∧ Dt K H q.2 b.2 ∧ Adr b.2 ∧ 0 ≤ b.1 ∧ b.1 < 10 ^ 12
abbrev Bk (K : PySem.W.Frag) (H : Hp) (kvs : List (Key × V)) (bs : List (Int × PyData)) : Prop := Paired (BkR K H) kvs bs
theorem Bk.m {K : PySem.W.Frag} {H H' : Hp} (t : TS H H') {kvs : List (Key × V)} {bs : List (Int × PyData)} (h : Bk K H kvs bs) : Bk K H' kvs bs := L2.Paired.mapP h fun _ _ ⟨a, b, c⟩ => ⟨a, b.m t, c⟩
theorem bk_of {K : PySem.W.Frag} {H : Hp} : ∀ {kvs : List (Key × V)} {ns : List Int}, kvs.map (·.1) = ns.map Sum.inl → (∀ n ∈ ns, 0 ≤ n ∧ n < 10 ^ 12) → (∀ p ∈ kvs, AddrV K H p.2) → ∃ bs, Bk K H kvs bs ∧ bs.map (·.1) = ns
  | [], [], _, _, _ => ⟨[], .nil, rfl⟩
  | [], _ :: _, h, _, _ => by cases h
  | _ :: _, [], h, _, _ => by cases h
  | q :: r, n :: ns, h, hb, hv => by
    obtain ⟨bs, a, b⟩ := bk_of (kvs := r) (List.cons.inj h).2 (fun m hm => hb m (List.mem_cons_of_mem _ hm)) fun p hp => hv p (List.mem_cons_of_mem _ hp)
    obtain ⟨i, j, hd, r1⟩ := hv q List.mem_cons_self
    exact ⟨(n, .tuple [.int i, .int j]) :: bs, .cons ⟨(List.cons.inj h).1, hd, ⟨i, j, rfl, r1⟩, hb n List.mem_cons_self⟩ a, by rw [List.map_cons, b]⟩
theorem paired_perm {α β : Type} {F : α → β → Prop} {xs xs' : List α} (p : xs'.Perm xs) : ∀ {ys : List β}, Paired F xs ys → ∃ ys', ys'.Perm ys ∧ Paired F xs' ys' := by
  induction p with
  | nil => exact fun h => ⟨_, List.Perm.refl _, h⟩
  | cons x _ ih =>
    intro ys h
    cases h with
    | cons f t =>
      obtain ⟨ys', a, b⟩ := ih t
      exact ⟨_ :: ys', a.cons _, .cons f b⟩
  | swap x y l =>
    intro ys h
    cases h with
    | cons f t => cases t with
      | cons g t => exact ⟨_ :: _ :: _, List.Perm.swap _ _ _, .cons g (.cons f t)⟩
  | trans _ _ ih1 ih2 =>
    intro ys h
    obtain ⟨y1, a, b⟩ := ih2 h
    obtain ⟨y2, c, d⟩ := ih1 b
    exact ⟨y2, c.trans a, d⟩
/-- the rows' tuples are data -/
theorem rows_data {K : PySem.W.Frag} {H : Hp} : ∀ {ts : List Addr} {rows : List (Key × V)} {zs : List (Int × PyData)}, Paired (fun (t : Addr) (q : Key × V) => H t = some (.tup [kV q.1, q.2])) ts rows → Bk K H rows zs → DtAll K H (ts.map V.ref) (zs.map rowF)
  | _, _, _, .nil, .nil => .nil
  | _, _, _, .cons e t, .cons (b := b) ⟨e1, hd, _⟩ t2 => by
    refine .cons ?_ (rows_data t t2)
    rw [e1] at e
    exact Dt.tup (SqT.of e) (.cons (.int _) (.cons hd .nil))
def pcs (rs : List PyData) : List PyData := (List.range ((rs.length + 5) / 6)).map fun i => .tuple [.str "piece", .int (i : Nat), .tuple ((rs.drop (i * 6)).take 6)]
theorem pcs_len (rs : List PyData) : (pcs rs).length = (rs.length + 5) / 6 := by unfold pcs; simp
theorem pcs_take (rs : List PyData) (i : Nat) (h : i < (rs.length + 5) / 6) : (pcs rs).take (i + 1) = (pcs rs).take i ++ [.tuple [.str "piece", .int (i : Nat), .tuple ((rs.drop (i * 6)).take 6)]] := by
  unfold pcs
  rw [← List.map_take, ← List.map_take, List.take_range, List.take_range, Nat.min_eq_left (by omega), Nat.min_eq_left (by omega), List.range_succ, List.map_append]
  rfl
def chkD (rs : List PyData) (g dd nb : Int) (as : List PyData) : List PyData := pcs rs ++ [.tuple [.str "root", .int g, .int dd, .int nb, .tuple as]]
def Srt (zs : List (Int × PyData)) : Prop := zs.Pairwise fun x y => x.1 ≤ y.1
theorem nodup_inj {α β : Type} {f : α → β} : ∀ {l : List α}, (l.map f).Nodup → ∀ {a b : α}, a ∈ l → b ∈ l → f a = f b → a = b
  | [], _, _, _, h, _, _ => nomatch h
  | x :: l, hn, a, b, ha, hb, e => by
    obtain ⟨h1, h2⟩ := List.nodup_cons.mp hn
    rcases List.mem_cons.mp ha with ea | ha'
    · rcases List.mem_cons.mp hb with eb | hb'
      · rw [ea, eb]
      · exact absurd (List.mem_map.mpr ⟨b, hb', by rw [← e, ea]⟩) h1
    · rcases List.mem_cons.mp hb with eb | hb'
      · exact absurd (List.mem_map.mpr ⟨a, ha', by rw [e, eb]⟩) h1
      · exact nodup_inj h2 ha' hb' e
theorem srt_eq {zs ys bs : List (Int × PyData)} (pz : zs.Perm bs) (py : ys.Perm bs) (hn : (bs.map (·.1)).Nodup) (hz : Srt zs) (hy : Srt ys) : zs = ys :=
  List.Perm.eq_of_pairwise (fun a b ha hb h1 h2 => nodup_inj hn (pz.mem_iff.mp ha) (py.mem_iff.mp hb) (Int.le_antisymm h1 h2)) hz hy (pz.trans py.symm)
theorem keys_of {K : PySem.W.Frag} {H : Hp} : ∀ {rows : List (Key × V)} {zs : List (Int × PyData)}, Bk K H rows zs → rows.map keyN = zs.map (·.1)
  | _, _, .nil => rfl
  | q :: _, _, .cons (b := b) ⟨e, _⟩ t => by
    rw [List.map_cons, List.map_cons, keys_of t]
    show keyN q :: _ = _
    unfold keyN
    rw [e]
theorem srt_of {K : PySem.W.Frag} {H : Hp} {rows : List (Key × V)} {zs : List (Int × PyData)} (h : Bk K H rows zs) (hs : rows.Pairwise (fun e f => keyN e ≤ keyN f)) : Srt zs := by
  have h2 : (rows.map keyN).Pairwise (· ≤ ·) := List.pairwise_map.mpr hs
  rw [keys_of h] at h2
  exact List.pairwise_map.mp h2
/-- what a checkpoint tells -/
def Told (K : PySem.W.Frag) (H : Hp) (bs : List (Int × PyData)) (nb dd g : Int) (as : List PyData) (Q : VK) : Prop :=
  ∀ (l : Addr) (xs : List V) (zs : List (Int × PyData)) (H' : Hp), Same H H' → H l = none → zs.Perm bs → Srt zs → H' l = some (.lst xs) → DtAll K H' xs (chkD (zs.map rowF) g dd nb (as.take (as.length - 1))) → Q (.ref l) H'
def sp_checkpoint (K : PySem.W.Frag) : Sp := fun vs H Q _ => ∃ (d0 s0 : Addr) (kvs : List (Key × V)) (bs : List (Int × PyData)) (nb dd g : Int) (ws : List V) (as : List PyData), vs = [.ref d0, .int nb, .int dd, .int g, .ref s0] ∧
  H d0 = some (.dK kvs) ∧ Bk K H kvs bs ∧ bs.length ≤ 24 ∧ (SqL K H s0 ws ∨ SqT K H s0 ws) ∧ DtAll K H ws as ∧ 1 ≤ ws.length ∧ ws.length ≤ 10 ∧ Told K H bs nb dd g as Q
theorem ok_checkpoint {f : Addr} {fd : FuncData} (F : Fun K "checkpoint" "checkpoint" s_checkpoint f fd) (B : Bt mg) {tk_PIECE : Tok} (g_PIECE : mg "PIECE" = some (.int 6 tk_PIECE)) : GnOk P w K mg base CX0 1 f fd ["places", "next_number", "deeds", "g", "spots"] (sp_checkpoint K) := by
  refine gn_fun F sc_checkpoint (fun vs H Q E h => ?_) (fun cdv A outer s H vs Q E hr h => ?_)
  · obtain ⟨d0, s0, kvs, bs, nb, dd, g, ws, as, rfl, _⟩ := h
    rfl
  · obtain ⟨d0, s0, kvs, bs, nb, dd, g, ws, as, rfl, hd, hB, h24, hs, ha, h1, h10, k⟩ := h
    have hl0 : kvs.length = bs.length := Paired.length hB
    refine ⟨_, (pss_cons (ps_set (i := 5) sc_checkpoint.nd rfl (Or.inr rfl) (pe_callB (cr_sortedItI rfl) (by rfl) B.sorted (by decide +kernel) (pa_cons (pe_bm0 PySem.F.plainAttrs_dict PySem.F.slot_dict_items PySem.F.type_dict_items mt_itemsK (pv 0)) pa_nil)))
    (pss_cons (ps_setLc (i := 6) (own := [("at", 9)]) (g := gName 9) (tt := tYes) (by rfl) sc_checkpoint.nd rfl rfl (sw_true rfl rfl rfl (by decide +kernel)) (pi_range3 (by rfl) B.range (pa_cons pe_int (pa_cons (pe_callB (call_lenK K) (by rfl) B.len (by decide +kernel) (pa_cons (pv 5) pa_nil)) (pa_cons (pe_glob (by rfl) g_PIECE (rel_i _ _)) pa_nil)))) (blkOk_by (N := N_checkpoint) (sc := defScope s_checkpoint) (by decide +kernel)) (fun _ _ _ _ _ => pg_name (i := 9) sc_checkpoint.nd rfl (Or.inl rfl)) (fun _ _ _ _ _ => pts_nil) (fun _ _ _ _ _ => (pe_tup (pa_cons pe_str (pa_cons (pe_op op_fdiv (pv 9) (pe_glob (by rfl) g_PIECE (rel_i _ _))) (pa_cons (pe_callTy (call_tuple_ofK K) (by rfl) B.tuple (by decide +kernel) (pa_cons (pe_slice (sl_listK K) (pv 5) (po_some (pv 9)) (po_some (pe_op op_add (pv 9) (pe_glob (by rfl) g_PIECE (rel_i _ _))))) pa_nil)) pa_nil))))))
    (pss_cons (ps_asg (pv 4) (pg_tupStar (n := 2) (i := 0) (by rfl) (pgs_star (pg_name (i := 7) sc_checkpoint.nd rfl (Or.inl rfl)) (pgs_cons (pg_name (i := 8) sc_checkpoint.nd rfl (Or.inl rfl)) pgs_nil))))
    (pss_one (ps_ret (pe_op op_cat (pv 6) (pe_lst (pa_cons (pe_tup (pa_cons pe_str (pa_cons (pv 3) (pa_cons (pv 2) (pa_cons (pv 1) (pa_cons (pe_callTy (call_tuple_ofK K) (by rfl) B.tuple (by decide +kernel) (pa_cons (pv 7) pa_nil)) pa_nil)))))) pa_nil)))))))), ?_⟩
    refine ⟨_, rfl, .inr (.inr (.inl ⟨rfl, .inl ⟨kvs, hd⟩⟩)), d0, kvs, rfl, rfl, hd, fun p hp => ?_⟩
    have e1 : Same H (upd H p (L2.DX.itemsO p d0)) := Same.new hp
    refine ⟨p, d0, kvs, rfl, upd_same, e1 _ _ hd, by omega, fun q hq => ?_, fun H1 l ts rows e2 fl hperm hsort hl hts ft => ?_⟩
    · obtain ⟨j, hj⟩ := List.mem_iff_getElem?.mp hq
      obtain ⟨b, hb, e, hdt, ⟨i1, j1, rfl', _⟩, _⟩ : ∃ b, bs[j]? = some b ∧ BkR K H q b := by
        obtain ⟨b, h1, h2⟩ := LiI.paired_get hB hj
        exact ⟨b, h1, h2⟩
      rw [rfl'] at hdt
      obtain ⟨c, _, ec, _⟩ := hdt.inv
      exact ⟨b.1, c, by rw [← e, ← ec]⟩
    have sH1 : Same H H1 := e1.trans e2
    have fl0 : H l = none := e1.free fl
    obtain ⟨zs, pz, bz⟩ := paired_perm hperm hB
    have hz : Srt zs := srt_of bz hsort
    have hlz : zs.length = bs.length := pz.length_eq
    have dts : DtAll K H1 (ts.map V.ref) (zs.map rowF) := rows_data hts (Bk.m (TS.of sH1) bz)
    have hs1 : SqL K H1 s0 ws ∨ SqT K H1 s0 ws := hs.imp (fun q => sH1.seq q) fun q => (TS.of sH1).seq q
    have ha1 := ha.m (TS.of sH1)
    have htl : (ts.map V.ref).length = bs.length := by rw [dts.length, List.length_map, hlz]
    generalize ts.map V.ref = xs at hl dts htl
    generalize hrs : zs.map rowF = rs at dts
    have hrl : rs.length = bs.length := by rw [← hrs, List.length_map, hlz]
    refine ⟨_, rfl, _, xs.length, rfl, .inl ⟨_, SqL.of hl, rfl⟩, ?_⟩
    refine ⟨0, _, 6, (xs.length + 5) / 6, rfl, rgc6 (by omega), fun D hD => lc_it (walk_rangeC (lo := 0) (c := 6) (n := (xs.length + 5) / 6)) (fun i H2 => ∃ us, H2 D = some (.lst us) ∧ DtAll K H2 us ((pcs rs).take i) ∧ Same H1 H2) ⟨[], upd_same, .nil, Same.new hD⟩ (fun _ _ _ _ => trivial) ?_ ?_⟩
    · rintro i x H0 H2 hi ⟨us, hu, hus, s2⟩ ⟨rfl, rfl⟩
      have hul : us.length = i := by rw [hus.length, List.length_take, pcs_len, hrl]; omega
      have e4 : (0 : Int) + (i : Int) * 6 = ((i * 6 : Nat) : Int) := by omega
      refine ⟨rfl, ?_⟩
      refine ⟨_, rfl, _, _, rfl, rfl, ⟨by decide, by decide⟩, _, rfl, _, rfl, _, rfl, _, rfl, _, _, rfl, rfl, _, rfl, ?_⟩
      have hl2 : H2 l = some (.lst xs) := s2 _ _ hl
      refine ⟨l, _, rfl, SqL.of hl2, fun c hc => ?_⟩
      refine ⟨c, _, rfl, .inl ⟨SqL.of upd_same, fun t ht => ?_⟩⟩
      have s3 : Same H2 (upd (upd H2 c (.lst (cutV xs (some (0 + (i : Int) * 6)) (some (0 + (i : Int) * 6 + 6))))) t (.tup (cutV xs (some (0 + (i : Int) * 6)) (some (0 + (i : Int) * 6 + 6))))) := (Same.new hc).trans (Same.new ht)
      have d3 : Dt K (upd (upd H2 c (.lst (cutV xs (some (0 + (i : Int) * 6)) (some (0 + (i : Int) * 6 + 6))))) t (.tup (cutV xs (some (0 + (i : Int) * 6)) (some (0 + (i : Int) * 6 + 6))))) (.ref t) (.tuple ((rs.drop (i * 6)).take 6)) := by
        have q := ((dts.m (TS.of s2)).m (TS.new (o := .lst (cutV xs (some (0 + (i : Int) * 6)) (some (0 + (i : Int) * 6 + 6)))) hc)).cut (some (0 + (i : Int) * 6)) (some (0 + (i : Int) * 6 + 6))
        have e1 : cutG rs (some (0 + (i : Int) * 6)) (some (0 + (i : Int) * 6 + 6)) = (rs.drop (i * 6)).take 6 := by
          rw [e4, show (((i * 6 : Nat) : Int) + 6) = ((i * 6 + 6 : Nat) : Int) by omega, cutG_nat, show i * 6 + 6 - i * 6 = 6 by omega]
        rw [e1] at q
        exact Dt.new q ht
      generalize (upd (upd H2 c (.lst (cutV xs (some (0 + (i : Int) * 6)) (some (0 + (i : Int) * 6 + 6))))) t (.tup (cutV xs (some (0 + (i : Int) * 6)) (some (0 + (i : Int) * 6 + 6))))) = H3 at s3 d3 ⊢
      refine ⟨sz_of (by simp), fun u hu2 => ?_⟩
      have e5 : (0 + (i : Int) * 6) / 6 = (i : Int) := by omega
      have d4 : Dt K (upd H3 u (.tup [.str "piece", .int ((0 + (i : Int) * 6) / 6), .ref t])) (.ref u) (.tuple [.str "piece", .int (i : Nat), .tuple ((rs.drop (i * 6)).take 6)]) := by
        rw [e5]
        exact Dt.new (.cons (.str _) (.cons (.int _) (.cons d3 .nil))) hu2
      have s4 : Same H2 (upd H3 u (.tup [.str "piece", .int ((0 + (i : Int) * 6) / 6), .ref t])) := s3.trans (Same.new hu2)
      generalize (upd H3 u (.tup [.str "piece", .int ((0 + (i : Int) * 6) / 6), .ref t])) = H4 at s4 d4 ⊢
      have hu4 := s4 _ _ hu
      refine ⟨us, hu4, sz_lt (by omega), _, upd_same, ?_, Same.newer (s2.trans s4) hD⟩
      rw [pcs_take _ _ (by rw [hrl]; omega)]
      exact ((hus.m (TS.of s4)).m (TS.lst hu4)).app (.cons (d4.m (TS.lst hu4)) .nil)
    · rintro H2 ⟨us, hu, hus, s2⟩
      rw [List.take_of_length_le (by rw [pcs_len, hrl]; omega)] at hus
      -- *ahead, last = spots
      refine ⟨_, rfl, s0, ws, rfl, hs1.imp (fun q => s2.seq q) (fun q => (TS.of s2).seq q), by omega, by omega, fun c hc => ?_⟩
      obtain ⟨ini, z, rfl⟩ : ∃ ini z, ws = ini ++ [z] := by
        rcases List.eq_nil_or_concat ws with e | ⟨ini, z, e⟩
        · rw [e] at h1
          exact absurd h1 (by decide)
        · exact ⟨ini, z, by rw [e, List.concat_eq_append]⟩
      have hil : (ini ++ [z]).length = ini.length + 1 := by simp
      have em : ((ini ++ [z]).drop 0).take ((ini ++ [z]).length + 1 - 2) = ini := by
        rw [List.drop_zero, hil, show ini.length + 1 + 1 - 2 = ini.length by omega]
        exact List.take_left
      have ed : ((ini ++ [z]).drop 0).drop ((ini ++ [z]).length + 1 - 2) = [z] := by
        rw [List.drop_zero, hil, show ini.length + 1 + 1 - 2 = ini.length by omega]
        exact List.drop_left
      rw [em, ed]
      refine ⟨_, _, rfl, _, _, rfl, rfl, ?_⟩
      have s3 : Same H2 (upd H2 c (.lst ini)) := Same.new hc
      refine ⟨_, rfl, _, rfl, _, rfl, _, rfl, _, rfl, c, _, rfl, .inl ⟨SqL.of upd_same, fun t ht => ?_⟩⟩
      have hai : DtAll K H ini (as.take (as.length - 1)) := by
        have q := ha.take ini.length
        rw [List.take_left] at q
        have e : as.length - 1 = ini.length := by
          have := ha.length
          rw [hil] at this
          omega
        rw [e]
        exact q
      have d3 : Dt K (upd (upd H2 c (.lst ini)) t (.tup ini)) (.ref t) (.tuple (as.take (as.length - 1))) := Dt.new ((hai.m (TS.of (sH1.trans s2))).m (TS.of s3)) ht
      have s4 : Same H2 (upd (upd H2 c (.lst ini)) t (.tup ini)) := s3.trans (Same.new ht)
      generalize (upd (upd H2 c (.lst ini)) t (.tup ini)) = H4 at s4 d3 ⊢
      refine ⟨sz_of (by simp), fun u hu2 => ⟨sz_of (by simp), fun v hv => ?_⟩⟩
      have s5 : Same H4 (upd H4 u (.tup [.str "root", .int g, .int dd, .int nb, .ref t])) := Same.new hu2
      have d5 : Dt K (upd H4 u (.tup [.str "root", .int g, .int dd, .int nb, .ref t])) (.ref u) (.tuple [.str "root", .int g, .int dd, .int nb, .tuple (as.take (as.length - 1))]) := Dt.new (.cons (.str _) (.cons (.int _) (.cons (.int _) (.cons (.int _) (.cons d3 .nil))))) hu2
      generalize (upd H4 u (.tup [.str "root", .int g, .int dd, .int nb, .ref t])) = H5 at s5 d5 hv ⊢
      have s6 : Same H5 (upd H5 v (.lst [.ref u])) := Same.new hv
      have s26 : Same H2 (upd H5 v (.lst [.ref u])) := (s4.trans s5).trans s6
      have hul : us.length = (bs.length + 5) / 6 := by rw [hus.length, pcs_len, hrl]
      refine ⟨D, v, us, _, rfl, rfl, s26 _ _ hu, upd_same, sz_of (by rw [hul]; simp; omega), fun y hy => ?_⟩
      have s7 : Same (upd H5 v (.lst [.ref u])) (upd (upd H5 v (.lst [.ref u])) y (.lst (us ++ [.ref u]))) := Same.new hy
      have sAll : Same H (upd (upd H5 v (.lst [.ref u])) y (.lst (us ++ [.ref u]))) := ((sH1.trans s2).trans s26).trans s7
      refine k y _ zs _ sAll (Same.free ((sH1.trans s2).trans s26) hy) pz hz upd_same ?_
      rw [hrs]
      exact (hus.m (TS.of (s26.trans s7))).app (.cons (d5.m (TS.of (s6.trans s7))) .nil)
abbrev s_l_at : Stmt := topS 4
abbrev N_l_at : List Str := ["script", "k"]
theorem sc_l_at : FnScope N_l_at ["script", "k"] (defScope s_l_at) := ⟨rfl, rfl, rfl, by decide +kernel, rfl, by decide +kernel, by decide +kernel⟩
theorem ok_l_at {f : Addr} {fd : FuncData} (F : Fun K "_law_at" "_law_at" s_l_at f fd) (B : Bt mg) : GnOk P w K mg base CX0 1 f fd ["script", "k"] (sp_l_at K) := by
  refine gn_fun F sc_l_at (fun vs H Q E h => ?_) (fun cdv A outer s H vs Q E hr h => ?_)
  · obtain ⟨a, ns, i, rfl, _⟩ := h
    rfl
  · obtain ⟨a, ns, i, rfl, hS, k⟩ := h
    refine ⟨_, (pss_cons (ps_if (pt_cmpR op_lt (pv 1) (pe_callB call_len (by rfl) B.len (by decide +kernel) (pa_cons (pv 0) pa_nil)) (nomark _))
      (pss_one (ps_ret (pe_ix ix_list (pv 0) (pv 1) (fun _ _ => rfl))))
      pss_nil)
    (pss_one (ps_ret pe_int))), ?_⟩
    refine ⟨_, rfl, _, rfl, _, ns.length, rfl, .inl ⟨_, hS, by simp⟩, _, _, rfl, rfl, _, rfl, ?_⟩
    refine ite2 (fun c => ?_) (fun c => ?_)
    · have c' : (i : Int) < ns.length := of_decide_eq_true c
      refine ⟨_, rfl, _, rfl, a, _, _, _, rfl, rfl, hS, atI_nat (v := V.int (ns[i]'(by omega))) (by simp [show i < ns.length by omega]), ?_⟩
      exact k _
    · exact k 0
abbrev s_l_pot : Stmt := topS 5
abbrev N_l_pot : List Str := ["cell"]
theorem sc_l_pot : FnScope N_l_pot ["cell"] (defScope s_l_pot) := ⟨rfl, rfl, rfl, by decide +kernel, rfl, by decide +kernel, by decide +kernel⟩
theorem ok_l_pot {f : Addr} {fd : FuncData} (F : Fun K "_law_pot" "_law_pot" s_l_pot f fd) (B : Bt mg) : GnOk P w K mg base CX0 1 f fd ["cell"] sp_l_pot := by
  refine gn_fun F sc_l_pot (fun vs H Q E h => ?_) (fun cdv A outer s H vs Q E hr h => ?_)
  · obtain ⟨c, rfl, _⟩ := h
    rfl
  · obtain ⟨c, rfl, k⟩ := h
    refine ⟨_, pss_one (ps_ret (pe_lst (pa_cons (pe_callB (call_max2 rfl) (by rfl) B.max (by decide +kernel) (pa_cons pe_int (pa_cons (pe_op op_sub (pv 0) (pe_op op_pow pe_int pe_int)) pa_nil)))
      (pa_cons (pe_op op_add (pe_op op_mod (pe_op op_pow (pe_op op_add (pe_op op_mod (pe_callB call_abs (by rfl) B.abs (by decide +kernel) (pa_cons (pv 0) pa_nil)) pe_int) pe_int) pe_int) pe_int) pe_int) pa_nil)))), ?_⟩
    refine ⟨_, rfl, _, _, rfl, rfl, ⟨by decide, by decide, by decide⟩, _, _, rfl, rfl, _, _, rfl, ?_⟩
    refine ⟨_, rfl, _, rfl, ?_⟩
    refine ⟨_, _, rfl, rfl, (by show (0:Int) < 2147483563; decide), _, _, rfl, rfl, _, _, rfl, rfl, ⟨by decide, by decide, ?_⟩, ?_⟩
    · show (((if c < 0 then -c else c) % 2147483563 + 1 : Int)).natAbs < 2 ^ 64
      omega
    refine ⟨_, _, rfl, rfl, (by show (0:Int) < 2147483549; decide), _, _, rfl, rfl, (by show 2 ≤ sizeLine; decide), fun p hp => ?_⟩
    exact k p _ (Same.new hp) hp ⟨upd_same, potB_ok c⟩
abbrev s_l_take : Stmt := topS 6
abbrev N_l_take : List Str := ["pot", "many", "digit"]
theorem sc_l_take : FnScope N_l_take ["pot", "many"] (defScope s_l_take) := ⟨rfl, rfl, rfl, by decide +kernel, rfl, by decide +kernel, by decide +kernel⟩
theorem ok_l_take0 {f : Addr} {fd : FuncData} (F : Fun K "_law_take" "_law_take" s_l_take f fd) (B : Bt mg) : GnOk P w K mg base CX0 1 f fd ["pot", "many"] sp_l_take := by
  refine gn_fun F sc_l_take (fun vs H Q E h => ?_) (fun cdv A outer s H vs Q E hr h => ?_)
  · obtain ⟨p, a, b, m, rfl, _⟩ := h
    rfl
  · obtain ⟨p, a, b, m, rfl, ⟨hp, hb⟩, hm, hm2, k⟩ := h
    refine ⟨_, pss_cons (ps_if (pt_cmpR op_gt (pe_ix ix_list (pv 0) pe_int (fun _ _ => rfl)) pe_int (nomark _))
        (pss_cons (ps_asg (pe_callB call_divmodW (by rfl) B.divmod (by decide +kernel) (pa_cons (pe_ix ix_list (pv 0) pe_int (fun _ _ => rfl)) (pa_cons (pv 1) pa_nil)))
            (pg_tup (by rfl) (pgs_cons (pg_sub (pv 0) pe_int set_list) (pgs_cons (pg_name (i := 2) sc_l_take.nd rfl (Or.inl rfl)) pgs_nil))))
          (pss_one (ps_ret (pv 2)))) pss_nil)
      (pss_cons (ps_asg (pe_op op_mod (pe_op op_add (pe_op op_mul (pe_ix ix_list (pv 0) pe_int (fun _ _ => rfl)) pe_int) pe_int) pe_int) (pg_sub (pv 0) pe_int set_list))
      (pss_one (ps_ret (pe_op op_mod (pe_op op_fdiv (pe_op op_mod (pe_op op_mul (pe_ix ix_list (pv 0) pe_int (fun _ _ => rfl)) (pe_ix ix_list (pv 0) pe_int (fun _ _ => rfl))) pe_int) pe_int) (pv 1))))), ?_⟩
    refine ⟨_, rfl, p, _, _, _, rfl, rfl, SqL.of hp, rfl, _, _, rfl, rfl, _, rfl, ?_⟩
    have hd : CDivP a m := ⟨hm, PyProof.noPylong_of_log2 hm2⟩
    refine ite2 (fun c => ?_) (fun c => ?_)
    · have c' : 0 < a := of_decide_eq_true c
      refine ⟨_, rfl, p, _, _, _, rfl, rfl, SqL.of hp, rfl, _, rfl, _, _, rfl, hd, fun t ht => ?_⟩
      have npt : p ≠ t := ne_of_none hp ht
      refine ⟨t, _, rfl, SqT.of upd_same, rfl, ?_⟩
      refine ⟨_, _, rfl, _, rfl, p, _, _, _, rfl, rfl, (by rw [upd_ne npt]; exact hp), rfl, ?_⟩
      refine ⟨_, _, rfl, rfl, _, rfl, ?_⟩
      have e1 : tkA a b m = a / m := if_pos c'
      have e2 : tkB a b m = b := if_pos c'
      have e3 : tkD a b m = a % m := if_pos c'
      have := k (upd (upd H t (.tup [.int (a / m), .int (a % m)])) p (.lst [.int (tkA a b m), .int (tkB a b m)])) (SameBut.of (Same.new ht)).upd ⟨upd_same, tkB_ok hb⟩
      rw [e1, e2, e3] at this
      exact this
    · have c' : ¬ 0 < a := fun z => c (decide_eq_true z)
      refine ⟨_, rfl, p, _, _, _, rfl, rfl, SqL.of hp, rfl, _, _, rfl, rfl, .inr (by decide), _, _, rfl, rfl, _, _, rfl, rfl, (by show (0:Int) < 2147483647; decide), ?_⟩
      refine ⟨_, rfl, p, _, _, _, rfl, rfl, hp, rfl, ?_⟩
      have e1 : tkA a b m = a := if_neg c'
      have e2 : tkB a b m = (b * 48271 + 12347) % 2147483647 := if_neg c'
      have e3 : tkD a b m = ((b * 48271 + 12347) % 2147483647) * ((b * 48271 + 12347) % 2147483647) % 2147483579 / 13 % m := if_neg c'
      refine ⟨_, rfl, p, _, _, _, rfl, rfl, SqL.of upd_same, rfl, _, rfl, p, _, _, _, rfl, rfl, SqL.of upd_same, rfl, _, _, rfl, rfl, .inr ?_, ?_⟩
      · show -(2 ^ 64) < (b * 48271 + 12347) % 2147483647 ∧ (b * 48271 + 12347) % 2147483647 < 2 ^ 64
        omega
      refine ⟨_, _, rfl, rfl, (by show (0:Int) < 2147483579; decide), _, _, rfl, rfl, ⟨by decide, by decide⟩, _, rfl, _, _, rfl, rfl, hm, ?_⟩
      have := k (upd H p (.lst [.int (tkA a b m), .int (tkB a b m)])) (SameBut.of (Same.refl H)).upd ⟨upd_same, tkB_ok hb⟩
      rw [e1, e2, e3] at this
      exact this
theorem ok_l_take {f : Addr} {fd : FuncData} (F : Fun K "_law_take" "_law_take" s_l_take f fd) (B : Bt mg) : GnOk P w K mg base CX0 1 f fd ["pot", "many"] sp_l_tk := (ok_l_take0 F B).imp take_any
abbrev s_l_number : Stmt := topS 7
abbrev N_l_number : List Str := ["pot"]
theorem sc_l_number : FnScope N_l_number ["pot"] (defScope s_l_number) := ⟨rfl, rfl, rfl, by decide +kernel, rfl, by decide +kernel, by decide +kernel⟩
def sp_l_number : Sp := fun vs H Q _ => ∃ (p : Addr) (a b : Int), vs = [.ref p] ∧ Pot H p a b ∧ ∀ (n : Int) (H' : Hp) (a' b' : Int), SameBut p H H' → Pot H' p a' b' → 0 ≤ n → n < 10 ^ 12 → Q (.int n) H'
theorem ok_l_number {f : Addr} {fd : FuncData} (F : Fun K "_law_number" "_law_number" s_l_number f fd) (B : Bt mg) (C_law_take : Cal P w K mg base CX0 "_law_take" 1 ["pot", "many"] sp_l_tk) : GnOk P w K mg base CX0 2 f fd ["pot"] sp_l_number := by
  refine gn_fun F sc_l_number (fun vs H Q E h => ?_) (fun cdv A outer s H vs Q E hr h => ?_)
  · obtain ⟨p, a, b, rfl, _⟩ := h
    rfl
  · obtain ⟨p, a, b, rfl, hp, k⟩ := h
    refine ⟨_, (pss_one (ps_ret (pe_ix (ix_listK K) (pe_lst (pa_cons (pe_cal C_law_take (hr.mono (by decide)) (by rfl) pass0 (pa_cons (pv 0) (pa_cons pe_int pa_nil))) (pa_cons (pe_cal C_law_take (hr.mono (by decide)) (by rfl) pass0 (pa_cons (pv 0) (pa_cons pe_int pa_nil))) (pa_cons (pe_cal C_law_take (hr.mono (by decide)) (by rfl) pass0 (pa_cons (pv 0) (pa_cons (pe_op op_pow pe_int pe_int) pa_nil))) pa_nil)))) (pe_cal C_law_take (hr.mono (by decide)) (by rfl) pass0 (pa_cons (pv 0) (pa_cons pe_int pa_nil))) (fun _ _ => rfl)))), ?_⟩
    refine ⟨_, rfl, p, _, _, _, rfl, hp, (by decide), (by decide), fun n1 a1 b1 H1 s1 p1 h10 h11 => ?_⟩
    refine ⟨_, rfl, p, _, _, _, rfl, p1, (by decide), (by decide), fun n2 a2 b2 H2 s2 p2 h20 h21 => ?_⟩
    refine ⟨_, rfl, _, _, rfl, rfl, ⟨by decide, by decide, by decide⟩, p, _, _, _, rfl, p2, (by decide), (by decide), fun n3 a3 b3 H3 s3 p3 h30 h31 => ?_⟩
    refine ⟨sz_of (by simp), fun l hl => ?_⟩
    have npl : l ≠ p := p3.ne hl
    refine ⟨_, rfl, p, _, _, _, rfl, p3.new hl, (by decide), (by decide), fun i a4 b4 H4 s4 p4 h40 h41 => ?_⟩
    have h32 : n3 < 10 ^ 12 := h31
    obtain ⟨v, hv, hm⟩ := atI_mem (xs := [V.int n1, V.int n2, V.int n3]) (i := i) h40 h41
    obtain ⟨n, rfl, h0, h1⟩ : ∃ n : Int, v = V.int n ∧ 0 ≤ n ∧ n < 10 ^ 12 := by
      simp only [List.mem_cons, List.not_mem_nil, or_false] at hm
      rcases hm with e | e | e <;> exact ⟨_, e, by omega, by omega⟩
    refine ⟨l, _, _, _, rfl, rfl, SqL.of (s4.at upd_same npl), hv, ?_⟩
    exact k _ H4 _ _ ((((s1.trans s2).trans s3).new hl).trans s4) p4 h0 h1
abbrev s_l_address : Stmt := topS 8
abbrev N_l_address : List Str := ["pot"]
theorem sc_l_address : FnScope N_l_address ["pot"] (defScope s_l_address) := ⟨rfl, rfl, rfl, by decide +kernel, rfl, by decide +kernel, by decide +kernel⟩
def sp_l_address (K : PySem.W.Frag) : Sp := fun vs H Q _ => ∃ (p : Addr) (a b : Int), vs = [.ref p] ∧ Pot H p a b ∧ ∀ (v : V) (H' : Hp) (a' b' : Int), SameBut p H H' → Pot H' p a' b' → AddrV K H' v → Q v H'
theorem ok_l_address {f : Addr} {fd : FuncData} (F : Fun K "_law_address" "_law_address" s_l_address f fd) (B : Bt mg) (C_law_number : Cal P w K mg base CX0 "_law_number" 2 ["pot"] sp_l_number) : GnOk P w K mg base CX0 3 f fd ["pot"] (sp_l_address K) := by
  refine gn_fun F sc_l_address (fun vs H Q E h => ?_) (fun cdv A outer s H vs Q E hr h => ?_)
  · obtain ⟨p, a, b, rfl, _⟩ := h
    rfl
  · obtain ⟨p, a, b, rfl, hp, k⟩ := h
    refine ⟨_, (pss_one (ps_ret (pe_tup (pa_cons (pe_cal C_law_number (hr.mono (by decide)) (by rfl) pass0 (pa_cons (pv 0) pa_nil)) (pa_cons (pe_cal C_law_number (hr.mono (by decide)) (by rfl) pass0 (pa_cons (pv 0) pa_nil)) pa_nil))))), ?_⟩
    refine ⟨_, rfl, p, _, _, rfl, hp, fun n1 H1 a1 b1 s1 p1 h10 h11 => ?_⟩
    refine ⟨_, rfl, p, _, _, rfl, p1, fun n2 H2 a2 b2 s2 p2 h20 h21 => ⟨sz_of (by simp), fun t ht => ?_⟩⟩
    exact k (.ref t) _ _ _ ((s1.trans s2).new ht) (p2.new ht) ⟨n1, n2, Dt.new (.cons (.int _) (.cons (.int _) .nil)) ht, h10, h11, h20, h21⟩
abbrev s_l_places : Stmt := topS 9
abbrev N_l_places : List Str := ["pot", "most", "found", "k"]
theorem sc_l_places : FnScope N_l_places ["pot", "most"] (defScope s_l_places) := ⟨rfl, rfl, rfl, by decide +kernel, rfl, by decide +kernel, by decide +kernel⟩
def sp_l_places (K : PySem.W.Frag) : Sp := fun vs H Q _ => ∃ (p : Addr) (a b m : Int), vs = [.ref p, .int m] ∧ Pot H p a b ∧ 0 < m ∧ m ≤ 24 ∧
  ∀ (d : Addr) (kvs : List (Key × V)) (H' : Hp) (a' b' : Int), SameBut p H H' → Pot H' p a' b' → H d = none → H' d = some (.dK kvs) → Pl K H' kvs → Q (.ref d) H'
/-- a dict that grows -/
structure Gr (K : PySem.W.Frag) (H : Hp) (kvs : List (Key × V)) (i : Nat) : Prop where
  ks : ∃ ns : List Int, kvs.map (·.1) = ns.map Sum.inl ∧ ∀ n ∈ ns, 0 ≤ n ∧ n < 10 ^ 12
  nd : (kvs.map (·.1)).Nodup
  l0 : 0 < i → 0 < kvs.length
  l1 : kvs.length ≤ i
  vs : ∀ p ∈ kvs, AddrV K H p.2
theorem putK_keys {kvs : List (Key × V)} {k : Key} {v : V} (h : (valV kvs k).isSome = true) : (putK kvs k v).map (·.1) = kvs.map (·.1) := by
  unfold putK
  rw [valV_any, if_pos h, List.map_map]
  refine List.map_congr_left fun p _ => ?_
  show (if p.1 = k then (p.1, v) else p).1 = p.1
  split <;> rfl
theorem mem_putK {kvs : List (Key × V)} {k : Key} {v : V} {p : Key × V} (h : p ∈ putK kvs k v) : p ∈ kvs ∨ p.2 = v := by
  unfold putK at h
  split at h
  · obtain ⟨q, hq, e⟩ := List.mem_map.mp h
    by_cases z : q.1 = k
    · rw [if_pos z] at e
      exact .inr (by rw [← e])
    · rw [if_neg z] at e
      exact .inl (e ▸ hq)
  · rcases List.mem_append.mp h with h | h
    · exact .inl h
    · rw [List.mem_singleton.mp h]
      exact .inr rfl
theorem Gr.put {K : PySem.W.Frag} {H : Hp} {kvs : List (Key × V)} {i : Nat} {n : Int} {v : V} (g : Gr K H kvs i) (hb : 0 ≤ n ∧ n < 10 ^ 12) (hv : AddrV K H v) : Gr K H (putK kvs (Sum.inl n) v) (i + 1) := by
  have hl := length_putK kvs (Sum.inl n : Key) v
  have hvs : ∀ p ∈ putK kvs (Sum.inl n) v, AddrV K H p.2 := fun p hp => (mem_putK hp).elim (g.vs p) fun e => e ▸ hv
  cases e : valV kvs (Sum.inl n : Key) with
  | some u =>
    have hs : (valV kvs (Sum.inl n : Key)).isSome = true := by rw [e]; rfl
    have hk := putK_keys (v := v) hs
    have he : (putK kvs (Sum.inl n : Key) v).length = kvs.length := by
      have := congrArg List.length hk
      simpa using this
    have h0 : 0 < kvs.length := List.length_pos_of_mem (valV_mem e)
    obtain ⟨ns, hns, hnb⟩ := g.ks
    exact ⟨⟨ns, hk.trans hns, hnb⟩, by rw [hk]; exact g.nd, fun _ => by omega, by have := g.l1; omega, hvs⟩
  | none =>
    have hn := putK_new v e
    rw [hn] at hl hvs ⊢
    obtain ⟨ns, hns, hnb⟩ := g.ks
    refine ⟨⟨ns ++ [n], by rw [List.map_append, List.map_append, hns]; rfl, fun m hm => (List.mem_append.mp hm).elim (hnb m) fun h => by rw [List.mem_singleton.mp h]; exact hb⟩, ?_, fun _ => by rw [List.length_append]; exact Nat.succ_pos _, by rw [List.length_append]; have := g.l1; exact Nat.succ_le_succ this, hvs⟩
    rw [List.map_append]
    refine List.nodup_append.mpr ⟨g.nd, by simp, fun x hx y hy q => ?_⟩
    have hy' : y = Sum.inl n := List.mem_singleton.mp hy
    obtain ⟨w, hw⟩ := valV_of_key (show (Sum.inl n : Key) ∈ kvs.map (·.1) from hy' ▸ q ▸ hx)
    rw [e] at hw
    cases hw
theorem ok_l_places {f : Addr} {fd : FuncData} (F : Fun K "_law_places" "_law_places" s_l_places f fd) (B : Bt mg) (C_law_address : Cal P w K mg base CX0 "_law_address" 3 ["pot"] (sp_l_address K)) (C_law_take : Cal P w K mg base CX0 "_law_take" 1 ["pot", "many"] sp_l_tk) (C_law_number : Cal P w K mg base CX0 "_law_number" 2 ["pot"] sp_l_number) : GnOk P w K mg base CX0 4 f fd ["pot", "most"] (sp_l_places K) := by
  refine gn_fun F sc_l_places (fun vs H Q E h => ?_) (fun cdv A outer s H vs Q E hr h => ?_)
  · obtain ⟨p, a, b, m, rfl, _⟩ := h
    rfl
  · obtain ⟨p, a, b, m, rfl, hp, hm0, hm1, k⟩ := h
    refine ⟨_, (pss_cons (ps_set (i := 2) sc_l_places.nd rfl (Or.inl rfl) pe_dnewK)
    (pss_cons (ps_for PassesOwn.never rfl (pi_range1 (by rfl) B.range (pa_cons (pe_op op_add pe_int (pe_cal C_law_take (hr.mono (by decide)) (by rfl) pass0 (pa_cons (pv 0) (pa_cons (pv 1) pa_nil)))) pa_nil)) (pg_name (i := 3) sc_l_places.nd rfl (Or.inl rfl))
      (pss_one (ps_dput hr.hu (pv 2) (pe_ix (ix_listK K) (pe_lst (pa_cons (pe_op op_add pe_int (pe_cal C_law_take (hr.mono (by decide)) (by rfl) pass0 (pa_cons (pv 0) (pa_cons pe_int pa_nil)))) (pa_cons (pe_cal C_law_number (hr.mono (by decide)) (by rfl) pass0 (pa_cons (pv 0) pa_nil)) pa_nil))) (pe_cal C_law_take (hr.mono (by decide)) (by rfl) pass0 (pa_cons (pv 0) (pa_cons pe_int pa_nil))) (fun _ _ => rfl)) (pe_cal C_law_address (hr.mono (by decide)) (by rfl) pass0 (pa_cons (pv 0) pa_nil)) rfl)))
    (pss_one (ps_ret (pv 2))))), ?_⟩
    intro d hd
    have ndp : d ≠ p := hp.ne hd
    refine ⟨_, rfl, _, rfl, p, _, _, _, rfl, hp.new hd, hm0, log2_small hm0 (by omega), fun n1 a1 b1 H1 s1 p1 h10 h11 => ?_⟩
    refine ⟨_, _, rfl, rfl, _, rfl, by omega, by omega, for_range (lo := 0) (n := (1 + n1).toNat) (fun i σ H2 => ∃ (kvs : List (Key × V)) (a' b' : Int) (v : Option V), σ = [some (.ref p), some (.int m), some (.ref d), v] ∧ H2 d = some (.dK kvs) ∧ Gr K H2 kvs i ∧ Pot H2 p a' b' ∧ SameBut p H H2)
      ⟨[], _, _, none, rfl, s1.at upd_same ndp, ⟨⟨[], rfl, fun _ h => nomatch h⟩, List.nodup_nil, (fun h => absurd h (by decide)), Nat.le_refl _, (fun _ h => nomatch h)⟩, p1, ((SameBut.refl p H).new hd).trans s1⟩ ?_ ?_⟩
    · rintro i σ H2 hi ⟨kvs, a', b', v, rfl, hkv, g, p2, s2⟩
      refine ⟨_, rfl, p, _, _, rfl, p2, fun w H3 a3 b3 s3 p3 hw => ?_⟩
      refine ⟨_, rfl, _, rfl, p, _, _, _, rfl, p3, by decide, by decide, fun n4 a4 b4 H4 s4 p4 h40 h41 => ?_⟩
      refine ⟨_, _, rfl, rfl, _, rfl, p, _, _, rfl, p4, fun n5 H5 a5 b5 s5 p5 h50 h51 => ⟨sz_of (by simp), fun l hl => ?_⟩⟩
      have npl : l ≠ p := p5.ne hl
      refine ⟨_, rfl, p, _, _, _, rfl, p5.new hl, by decide, by decide, fun n6 a6 b6 H6 s6 p6 h60 h61 => ?_⟩
      obtain ⟨u, hu, hm⟩ := atI_mem (xs := [V.int (1 + n4), V.int n5]) (i := n6) h60 h61
      obtain ⟨n, rfl, hnb⟩ : ∃ n : Int, u = V.int n ∧ 0 ≤ n ∧ n < 10 ^ 12 := by
        simp only [List.mem_cons, List.not_mem_nil, or_false] at hm
        rcases hm with e | e
        · exact ⟨_, e, by omega, by omega⟩
        · exact ⟨_, e, h50, h51⟩
      have s36 : SameBut p H3 H6 := ((s4.trans s5).new hl).trans s6
      have t26 : TS H2 H6 := (TS.pot s3 p2).trans (TS.pot s36 p3)
      have hkv6 : H6 d = some (.dK kvs) := s36.at (s3.at hkv ndp) ndp
      refine ⟨l, _, _, _, rfl, rfl, SqL.of (s6.at upd_same npl), hu, d, _, rfl, DPut.k (k := Sum.inl n) hkv6 (sz_lt (by have := g.l1; omega)), ?_⟩
      have g6 : Gr K H6 kvs i := ⟨g.ks, g.nd, g.l0, g.l1, fun q hq => (g.vs q hq).m t26⟩
      have g7 := g6.put (n := n) hnb (hw.m (TS.pot s36 p3))
      have t7 : TS H6 (upd H6 d (.dK (putK kvs (Sum.inl n) w))) := TS.dK hkv6
      refine ⟨_, _, _, _, rfl, upd_same, ⟨g7.ks, g7.nd, g7.l0, g7.l1, fun q hq => (g7.vs q hq).m t7⟩, p6.other ndp, ((s2.trans s3).trans s36).newer hd⟩
    · rintro σ H2 ⟨kvs, a', b', v, rfl, hkv, g, p2, s2⟩
      exact ⟨_, rfl, k d kvs H2 _ _ s2 p2 hd hkv ⟨g.ks, g.nd, g.l0 (by omega), by have := g.l1; omega, g.vs⟩⟩
abbrev s_l_due : Stmt := topS 10
abbrev N_l_due : List Str := ["places", "behind", "deeds", "g", "where", "numbers", "found", "at", "number"]
theorem sc_l_due : FnScope N_l_due ["places", "behind", "deeds", "g", "where"] (defScope s_l_due) := ⟨rfl, rfl, rfl, by decide +kernel, rfl, by decide +kernel, by decide +kernel⟩
/-- what stands in a book stands in the dict -/
theorem bk_val {K : PySem.W.Frag} {H : Hp} : ∀ {kvs : List (Key × V)} {bs : List (Int × PyData)}, Bk K H kvs bs → (bs.map (·.1)).Nodup → ∀ {b : Int × PyData}, b ∈ bs → ∃ v, valV kvs (Sum.inl b.1 : Key) = some v ∧ Dt K H v b.2
  | _, _, .nil, _, _, h => nomatch h
  | q :: r, _, .cons (b := c) ⟨e, hd, _⟩ t, hn, b, h => by
    obtain ⟨h1, h2⟩ := List.nodup_cons.mp hn
    rcases List.mem_cons.mp h with rfl | h
    · refine ⟨q.2, ?_, hd⟩
      unfold valV
      rw [List.find?_cons_of_pos (by simpa using e)]
      rfl
    · obtain ⟨v, hv, hd'⟩ := bk_val t h2 h
      refine ⟨v, ?_, hd'⟩
      unfold valV at hv ⊢
      rw [List.find?_cons_of_neg (by
        rw [e]
        simp only [decide_eq_true_eq, Sum.inl.injEq]
        intro z
        exact h1 (List.mem_map.mpr ⟨b, h, z.symm⟩))]
      exact hv
def sp_l_due (K : PySem.W.Frag) : Sp := fun vs H Q _ => ∃ (d0 s0 : Addr) (kvs : List (Key × V)) (bs : List (Int × PyData)) (nb dd g : Int) (ws : List V) (as : List PyData), vs = [.ref d0, .int nb, .int dd, .int g, .ref s0] ∧
  H d0 = some (.dK kvs) ∧ Bk K H kvs bs ∧ (bs.map (·.1)).Nodup ∧ bs.length ≤ 24 ∧ SqL K H s0 ws ∧ DtAll K H ws as ∧ 1 ≤ ws.length ∧ ws.length ≤ 10 ∧ Told K H bs nb dd g as Q
theorem ok_l_due {f : Addr} {fd : FuncData} (F : Fun K "_law_due" "_law_due" s_l_due f fd) (B : Bt mg) : GnOk P w K mg base CX0 1 f fd ["places", "behind", "deeds", "g", "where"] (sp_l_due K) := by
  refine gn_fun F sc_l_due (fun vs H Q E h => ?_) (fun cdv A outer s H vs Q E hr h => ?_)
  · obtain ⟨d0, s0, kvs, bs, nb, dd, g, ws, as, rfl, _⟩ := h
    rfl
  · obtain ⟨d0, s0, kvs, bs, nb, dd, g, ws, as, rfl, hd, hB, hn, h24, hs, ha, h1, h10, k⟩ := h
    have hl0 : kvs.length = bs.length := Paired.length hB
    have hks : kvs.map (·.1) = (bs.map (·.1)).map Sum.inl := by
      have go : ∀ {kvs : List (Key × V)} {bs : List (Int × PyData)}, Bk K H kvs bs → kvs.map (·.1) = (bs.map (·.1)).map Sum.inl := by
        intro kvs bs h
        induction h with
        | nil => rfl
        | cons f _ ih => exact (congr (congrArg List.cons f.1) ih)
      exact go hB
    refine ⟨_, (pss_cons (ps_set (i := 5) sc_l_due.nd rfl (Or.inl rfl) (pe_callB (call_sortedDI rfl) (by rfl) B.sorted (by decide +kernel) (pa_cons (pv 0) pa_nil)))
    (pss_cons (ps_set (i := 6) sc_l_due.nd rfl (Or.inl rfl) (pe_lst pa_nil))
    (pss_cons (ps_for PassesOwn.never rfl (pi_range3 (by rfl) B.range (pa_cons pe_int (pa_cons (pe_callB (call_lenK K) (by rfl) B.len (by decide +kernel) (pa_cons (pv 5) pa_nil)) (pa_cons pe_int pa_nil)))) (pg_name (i := 7) sc_l_due.nd rfl (Or.inl rfl))
      (pss_one (ps_expr (pe_bmK K PySem.F.plainAttrs_list PySem.F.slot_list_append PySem.F.type_list_append mt_append (pv 6) (pa_cons (pe_tup (pa_cons pe_str (pa_cons (pe_op op_fdiv (pv 7) pe_int) (pa_cons (pe_callTy (call_tuple_ofK K) (by rfl) B.tuple (by decide +kernel) (pa_cons (pe_lc (own := [("number", 8)]) (g := gName 8) (tt := tYes) (by rfl) sc_l_due.nd (pi_listK K (pe_slice (sl_listK K) (pv 5) (po_some (pv 7)) (po_some (pe_op op_add (pv 7) pe_int)))) (blkOk_by (N := N_l_due) (sc := defScope s_l_due) (by decide +kernel)) (fun _ _ _ _ _ => pg_name (i := 8) sc_l_due.nd rfl (Or.inl rfl)) (fun _ _ _ _ _ => pts_nil) (fun _ _ _ _ _ => (pe_tup (pa_cons (pv 8) (pa_cons (pe_dget hr.hu (pv 0) (pv 8) (fun _ _ => rfl)) pa_nil))))) pa_nil)) pa_nil)))) pa_nil)))))
    (pss_one (ps_ret (pe_op op_cat (pv 6) (pe_lst (pa_cons (pe_tup (pa_cons pe_str (pa_cons (pv 3) (pa_cons (pv 2) (pa_cons (pv 1) (pa_cons (pe_callTy (call_tuple_ofK K) (by rfl) B.tuple (by decide +kernel) (pa_cons (pe_slice (sl_listK K) (pv 4) po_none (po_some (pe_un un_neg pe_int))) pa_nil)) pa_nil)))))) pa_nil)))))))), ?_⟩
    refine ⟨_, rfl, d0, kvs, bs.map (·.1), rfl, .inl hd, hks, by rw [List.length_map]; omega, fun ys l hp ho hl => ?_⟩
    obtain ⟨zs, pz, ez⟩ := perm_lift (fun b : Int × PyData => b.1) hp bs rfl
    have hz : Srt zs := by
      rw [← ez] at ho
      exact List.pairwise_map.mp ho
    have hyl : ys.length = bs.length := by rw [← ez, List.length_map, pz.length_eq]
    have e1 : Same H (upd H l (.lst (ys.map V.int))) := Same.new hl
    have q1 : (upd H l (.lst (ys.map V.int))) l = some (.lst (ys.map V.int)) := upd_same
    generalize (upd H l (.lst (ys.map V.int))) = H1 at e1 q1 ⊢
    generalize hrs : zs.map rowF = rs
    have hrl : rs.length = bs.length := by rw [← hrs, List.length_map, pz.length_eq]
    have hs1 := e1.seq hs
    have ha1 := ha.m (TS.of e1)
    refine ⟨sz_of (by simp), fun D hD => ?_⟩
    have nlD : l ≠ D := ne_of_none q1 hD
    refine ⟨_, rfl, _, ys.length, rfl, .inl ⟨_, SqL.of ((Same.new hD) _ _ q1), by simp⟩, ?_⟩
    refine ⟨0, _, 6, (ys.length + 5) / 6, rfl, rgc6 (by omega), for_it (walk_rangeC (lo := 0) (c := 6) (n := (ys.length + 5) / 6)) (fun i σ H2 => ∃ us v, σ = [some (.ref d0), some (.int nb), some (.int dd), some (.int g), some (.ref s0), some (.ref l), some (.ref D), v, none] ∧ H2 D = some (.lst us) ∧ DtAll K H2 us ((pcs rs).take i) ∧ Same H1 H2) ⟨[], none, rfl, upd_same, .nil, Same.new hD⟩ (fun _ _ _ _ _ => trivial) ?_ ?_⟩
    · rintro i x σ H0 H2 hi ⟨us, v, rfl, hu, hus, s2⟩ ⟨rfl, rfl⟩
      have hul : us.length = i := by rw [hus.length, List.length_take, pcs_len, hrl]; omega
      have e4 : (0 : Int) + (i : Int) * 6 = ((i * 6 : Nat) : Int) := by omega
      have hcut : cutV (ys.map V.int) (some (0 + (i : Int) * 6)) (some (0 + (i : Int) * 6 + 6)) = ((ys.drop (i * 6)).take 6).map V.int := by
        rw [← cutG_V, e4, show (((i * 6 : Nat) : Int) + 6) = ((i * 6 + 6 : Nat) : Int) by omega, cutG_nat, show i * 6 + 6 - i * 6 = 6 by omega, List.map_take, List.map_drop]
      refine ⟨_, rfl, .inl ⟨rfl, _, SqL.of hu⟩, _, rfl, _, _, rfl, rfl, ⟨by decide, by decide⟩, _, rfl, _, rfl, _, rfl, _, rfl, _, _, rfl, rfl, _, rfl, l, _, rfl, SqL.of (s2 _ _ q1), fun c hc => ?_⟩
      rw [hcut]
      have hW : (ys.drop (i * 6)).take 6 = ((zs.drop (i * 6)).take 6).map (·.1) := by rw [← ez, List.map_take, List.map_drop]
      have hmem : ∀ b ∈ (zs.drop (i * 6)).take 6, b ∈ bs := fun b hb => pz.mem_iff.mp (List.mem_of_mem_drop (List.mem_of_mem_take hb))
      have hlW : ((zs.drop (i * 6)).take 6).length ≤ 6 := by rw [List.length_take]; omega
      have hrW : ((zs.drop (i * 6)).take 6).map rowF = (rs.drop (i * 6)).take 6 := by rw [← hrs, List.map_take, List.map_drop]
      rw [hW]
      generalize (zs.drop (i * 6)).take 6 = W at hmem hlW hrW ⊢
      have s3 : Same H2 (upd H2 c (.lst ((W.map (·.1)).map V.int))) := Same.new hc
      have hcc : (upd H2 c (.lst ((W.map (·.1)).map V.int))) c = some (.lst ((W.map (·.1)).map V.int)) := upd_same
      generalize (upd H2 c (.lst ((W.map (·.1)).map V.int))) = H3 at s3 hcc ⊢
      refine ⟨c, rfl, ⟨_, SqL.of hcc⟩, fun D2 hD2 => lc_list (K := K) (a := c) (xs := (W.map (·.1)).map V.int) (fun j H4 => ∃ uu, H4 D2 = some (.lst uu) ∧ DtAll K H4 uu ((W.take j).map rowF) ∧ Same H3 H4) ⟨[], upd_same, .nil, Same.new hD2⟩ (fun j H4 _ ⟨_, _, _, s4⟩ => SqL.of (s4 c _ hcc)) ?_ ?_⟩
      · rintro j y H4 hy ⟨uu, hu4, hus4, s4⟩
        rw [List.map_map, List.getElem?_map] at hy
        cases hb : W[j]? with
        | none => rw [hb] at hy; cases hy
        | some b =>
          rw [hb] at hy
          obtain rfl : V.int b.1 = y := by simpa using hy
          obtain ⟨w, hw, hdw⟩ := bk_val hB hn (hmem b (List.mem_of_getElem? hb))
          have sH4 : Same H H4 := ((e1.trans s2).trans s3).trans s4
          have hj : j < W.length := (List.getElem?_eq_some_iff.mp hb).1
          have huul : uu.length = j := by rw [hus4.length, List.length_map, List.length_take]; omega
          refine ⟨rfl, ?_⟩
          refine ⟨_, rfl, _, rfl, _, rfl, d0, w, rfl, by rw [← hw]; exact DGet.k (k := Sum.inl b.1) (sH4 _ _ hd), sz_of (by simp), fun t ht => ?_⟩
          have d5 : Dt K (upd H4 t (.tup [.int b.1, w])) (.ref t) (rowF b) := Dt.new (.cons (.int _) (.cons (hdw.m (TS.of sH4)) .nil)) ht
          have s5 : Same H4 (upd H4 t (.tup [.int b.1, w])) := Same.new ht
          have hu5 := s5 _ _ hu4
          refine ⟨uu, hu5, sz_lt (by omega), _, upd_same, ?_, Same.newer (s4.trans s5) hD2⟩
          rw [take_snoc hb, List.map_append]
          exact ((hus4.m (TS.of s5)).m (TS.lst hu5)).app (.cons (d5.m (TS.lst hu5)) .nil)
      · rintro H4 ⟨uu, hu4, hus4, s4⟩
        rw [List.length_map, List.length_map, List.take_length, hrW] at hus4
        refine ⟨D2, uu, rfl, .inl ⟨SqL.of hu4, fun t ht => ?_⟩⟩
        have d5 : Dt K (upd H4 t (.tup uu)) (.ref t) (.tuple ((rs.drop (i * 6)).take 6)) := Dt.new hus4 ht
        have s5 : Same H4 (upd H4 t (.tup uu)) := Same.new ht
        generalize (upd H4 t (.tup uu)) = H5 at d5 s5 ⊢
        refine ⟨sz_of (by simp), fun u hu2 => ?_⟩
        have e5 : (0 + (i : Int) * 6) / 6 = (i : Int) := by omega
        have d6 : Dt K (upd H5 u (.tup [.str "piece", .int ((0 + (i : Int) * 6) / 6), .ref t])) (.ref u) (.tuple [.str "piece", .int (i : Nat), .tuple ((rs.drop (i * 6)).take 6)]) := by
          rw [e5]
          exact Dt.new (.cons (.str _) (.cons (.int _) (.cons d5 .nil))) hu2
        have s6 : Same H2 (upd H5 u (.tup [.str "piece", .int ((0 + (i : Int) * 6) / 6), .ref t])) := ((s3.trans s4).trans s5).trans (Same.new hu2)
        generalize (upd H5 u (.tup [.str "piece", .int ((0 + (i : Int) * 6) / 6), .ref t])) = H6 at s6 d6 ⊢
        have hu6 := s6 _ _ hu
        refine ⟨D, us, _, rfl, rfl, hu6, sz_lt (by omega), ?_⟩
        refine ⟨_, _, rfl, upd_same, ?_, Same.newer (s2.trans s6) hD⟩
        rw [pcs_take _ _ (by rw [hrl]; omega)]
        exact ((hus.m (TS.of s6)).m (TS.lst hu6)).app (.cons (d6.m (TS.lst hu6)) .nil)
    · rintro σ H2 ⟨us, v, rfl, hu, hus, s2⟩
      rw [List.take_of_length_le (by rw [pcs_len, hrl]; omega)] at hus
      have ha2 := ha1.m (TS.of s2)
      refine ⟨_, rfl, _, rfl, _, rfl, _, rfl, _, rfl, _, rfl, _, rfl, ?_⟩
      have hcut : cutV ws none (some (-1)) = ws.take (ws.length - 1) := by
        unfold cutV
        show (ws.drop 0).take (HT.sIx ws.length ws.length (some (-1)) - 0) = _
        rw [List.drop_zero]
        congr 1
        show (if (-1 : Int) < 0 then ((-1 : Int) + (ws.length : Int)).toNat else min (-1 : Int).toNat ws.length) - 0 = _
        rw [if_pos (by decide)]
        omega
      refine ⟨s0, ws, rfl, s2.seq hs1, fun c hc => ?_⟩
      rw [hcut]
      have s3 : Same H2 (upd H2 c (.lst (ws.take (ws.length - 1)))) := Same.new hc
      refine ⟨c, _, rfl, .inl ⟨SqL.of upd_same, fun t ht => ?_⟩⟩
      have d3 : Dt K (upd (upd H2 c (.lst (ws.take (ws.length - 1)))) t (.tup (ws.take (ws.length - 1)))) (.ref t) (.tuple (as.take (as.length - 1))) := by
        have q := (ha2.m (TS.of s3)).take (ws.length - 1)
        have el := ha.length
        rw [show as.length - 1 = ws.length - 1 by omega]
        exact Dt.new q ht
      have s4 : Same H2 (upd (upd H2 c (.lst (ws.take (ws.length - 1)))) t (.tup (ws.take (ws.length - 1)))) := s3.trans (Same.new ht)
      generalize (upd (upd H2 c (.lst (ws.take (ws.length - 1)))) t (.tup (ws.take (ws.length - 1)))) = H4 at s4 d3 ⊢
      refine ⟨sz_of (by simp), fun u hu2 => ⟨sz_of (by simp), fun v hv => ?_⟩⟩
      have s5 : Same H4 (upd H4 u (.tup [.str "root", .int g, .int dd, .int nb, .ref t])) := Same.new hu2
      have d5 : Dt K (upd H4 u (.tup [.str "root", .int g, .int dd, .int nb, .ref t])) (.ref u) (.tuple [.str "root", .int g, .int dd, .int nb, .tuple (as.take (as.length - 1))]) := Dt.new (.cons (.str _) (.cons (.int _) (.cons (.int _) (.cons (.int _) (.cons d3 .nil))))) hu2
      generalize (upd H4 u (.tup [.str "root", .int g, .int dd, .int nb, .ref t])) = H5 at s5 d5 hv ⊢
      have s6 : Same H5 (upd H5 v (.lst [.ref u])) := Same.new hv
      have s26 : Same H2 (upd H5 v (.lst [.ref u])) := (s4.trans s5).trans s6
      have hul : us.length = (bs.length + 5) / 6 := by rw [hus.length, pcs_len, hrl]
      refine ⟨D, v, us, _, rfl, rfl, s26 _ _ hu, upd_same, sz_of (by rw [hul]; simp; omega), fun y hy => ?_⟩
      have s7 : Same (upd H5 v (.lst [.ref u])) (upd (upd H5 v (.lst [.ref u])) y (.lst (us ++ [.ref u]))) := Same.new hy
      have sAll : Same H (upd (upd H5 v (.lst [.ref u])) y (.lst (us ++ [.ref u]))) := ((e1.trans s2).trans s26).trans s7
      refine k y _ zs _ sAll (Same.free ((e1.trans s2).trans s26) hy) pz hz upd_same ?_
      rw [hrs]
      exact (hus.m (TS.of (s26.trans s7))).app (.cons (d5.m (TS.of (s6.trans s7))) .nil)
abbrev s_l_drawn : Stmt := topS 11
abbrev N_l_drawn : List Str := ["pot", "places", "where", "k"]
theorem sc_l_drawn : FnScope N_l_drawn ["pot"] (defScope s_l_drawn) := ⟨rfl, rfl, rfl, by decide +kernel, rfl, by decide +kernel, by decide +kernel⟩
/-- what is due, as a tuple with the law's own dict and list -/
structure Due (K : PySem.W.Frag) (H : Hp) (t s w : Addr) (kvs : List (Key × V)) (bs : List (Int × PyData)) (nb dd lg : Int) (ws : List V) (as : List PyData) : Prop where
  tp : H t = some (.tup [.ref s, .int nb, .int dd, .int lg, .ref w])
  dc : H s = some (.dK kvs)
  ls : H w = some (.lst ws)
  bk : Bk K H kvs bs
  nd : (bs.map (·.1)).Nodup
  b0 : 0 < bs.length
  b1 : bs.length ≤ 24
  dt : DtAll K H ws as
  ad : ∀ d ∈ as, Adr d
  w0 : 1 ≤ ws.length
  w1 : ws.length ≤ 10
  r1 : 0 ≤ nb ∧ nb < 10 ^ 12
  r2 : 0 ≤ dd ∧ dd < 10 ^ 12
  r3 : 0 ≤ lg ∧ lg < 10 ^ 12
theorem Due.mt {K : PySem.W.Frag} {H H' : Hp} {t s w : Addr} {kvs : List (Key × V)} {bs : List (Int × PyData)} {nb dd lg : Int} {ws : List V} {as : List PyData} (e : TS H H') (h : Due K H t s w kvs bs nb dd lg ws as)
    (h1 : H' t = H t) (h2 : H' s = H s) (h3 : H' w = H w) : Due K H' t s w kvs bs nb dd lg ws as :=
  ⟨h1.trans h.tp, h2.trans h.dc, h3.trans h.ls, Bk.m e h.bk, h.nd, h.b0, h.b1, h.dt.m e, h.ad, h.w0, h.w1, h.r1, h.r2, h.r3⟩
theorem Due.m {K : PySem.W.Frag} {H H' : Hp} {t s w : Addr} {kvs : List (Key × V)} {bs : List (Int × PyData)} {nb dd lg : Int} {ws : List V} {as : List PyData} (e : Same H H') (h : Due K H t s w kvs bs nb dd lg ws as) : Due K H' t s w kvs bs nb dd lg ws as :=
  h.mt (TS.of e) ((e _ _ h.tp).trans h.tp.symm) ((e _ _ h.dc).trans h.dc.symm) ((e _ _ h.ls).trans h.ls.symm)
theorem Due.mb {K : PySem.W.Frag} {H H' : Hp} {p t s w : Addr} {a b : Int} {kvs : List (Key × V)} {bs : List (Int × PyData)} {nb dd lg : Int} {ws : List V} {as : List PyData} (e : SameBut p H H') (hp : Pot H p a b) (h : Due K H t s w kvs bs nb dd lg ws as)
    (nt : t ≠ p) (ns : s ≠ p) (nw : w ≠ p) : Due K H' t s w kvs bs nb dd lg ws as :=
  h.mt (TS.pot e hp) ((e.at h.tp nt).trans h.tp.symm) ((e.at h.dc ns).trans h.dc.symm) ((e.at h.ls nw).trans h.ls.symm)
theorem addrs_data {K : PySem.W.Frag} {H : Hp} : ∀ {ws : List V}, (∀ v ∈ ws, AddrV K H v) → ∃ as, DtAll K H ws as ∧ ∀ d ∈ as, Adr d
  | [], _ => ⟨[], .nil, fun _ h => nomatch h⟩
  | v :: r, h => by
    obtain ⟨as, a, b⟩ := addrs_data (ws := r) fun x hx => h x (List.mem_cons_of_mem _ hx)
    obtain ⟨i, j, hd, q⟩ := h v List.mem_cons_self
    refine ⟨.tuple [.int i, .int j] :: as, .cons hd a, fun d hd => ?_⟩
    rcases List.mem_cons.mp hd with rfl | hd
    · exact ⟨i, j, rfl, q⟩
    · exact b d hd
def sp_l_drawn (K : PySem.W.Frag) : Sp := fun vs H Q _ => ∃ (p : Addr) (a b : Int), vs = [.ref p] ∧ Pot H p a b ∧
  ∀ (t s w : Addr) (kvs : List (Key × V)) (bs : List (Int × PyData)) (nb dd lg : Int) (ws : List V) (as : List PyData) (H' : Hp) (a' b' : Int), SameBut p H H' → Pot H' p a' b' → Due K H' t s w kvs bs nb dd lg ws as →
    t ≠ p → s ≠ p → w ≠ p → Q (.ref t) H'
theorem ok_l_drawn {f : Addr} {fd : FuncData} (F : Fun K "_law_drawn" "_law_drawn" s_l_drawn f fd) (B : Bt mg) (C_law_places : Cal P w K mg base CX0 "_law_places" 4 ["pot", "most"] (sp_l_places K)) (C_law_address : Cal P w K mg base CX0 "_law_address" 3 ["pot"] (sp_l_address K)) (C_law_number : Cal P w K mg base CX0 "_law_number" 2 ["pot"] sp_l_number) : GnOk P w K mg base CX0 5 f fd ["pot"] (sp_l_drawn K) := by
  refine gn_fun F sc_l_drawn (fun vs H Q E h => ?_) (fun cdv A outer s H vs Q E hr h => ?_)
  · obtain ⟨p, a, b, rfl, _⟩ := h
    rfl
  · obtain ⟨p, a, b, rfl, hp, k⟩ := h
    refine ⟨_, (pss_cons (ps_set (i := 1) sc_l_drawn.nd rfl (Or.inl rfl) (pe_cal C_law_places (hr.mono (by decide)) (by rfl) pass0 (pa_cons (pv 0) (pa_cons pe_int pa_nil))))
    (pss_cons (ps_setLc (i := 2) (own := [("k", 3)]) (g := gName 3) (tt := tYes) (by rfl) sc_l_drawn.nd rfl rfl (sw_true rfl rfl rfl (by decide +kernel)) (pi_range1 (by rfl) B.range (pa_cons (pe_op op_add (pe_op op_fdiv (pe_op op_add (pe_callB call_lenD (by rfl) B.len (by decide +kernel) (pa_cons (pv 1) pa_nil)) pe_int) pe_int) pe_int) pa_nil)) (blkOk_by (N := N_l_drawn) (sc := defScope s_l_drawn) (by decide +kernel)) (fun _ _ _ _ _ => pg_name (i := 3) sc_l_drawn.nd rfl (Or.inl rfl)) (fun _ _ _ _ _ => pts_nil) (fun _ _ _ _ _ => (pe_cal C_law_address (hr.mono (by decide)) (by rfl) pass0 (pa_cons (pv 0) pa_nil))))
    (pss_one (ps_ret (pe_tup (pa_cons (pv 1) (pa_cons (pe_cal C_law_number (hr.mono (by decide)) (by rfl) pass0 (pa_cons (pv 0) pa_nil)) (pa_cons (pe_cal C_law_number (hr.mono (by decide)) (by rfl) pass0 (pa_cons (pv 0) pa_nil)) (pa_cons (pe_cal C_law_number (hr.mono (by decide)) (by rfl) pass0 (pa_cons (pv 0) pa_nil)) (pa_cons (pv 2) pa_nil)))))))))), ?_⟩
    refine ⟨_, rfl, p, _, _, _, rfl, hp, by decide, by decide, fun s kvs H1 a1 b1 s1 p1 hs hd hP => ?_⟩
    have nsp : s ≠ p := hp.ne hs
    have h24 := hP.l1
    have h0 := hP.l0
    obtain ⟨ns, hns, hnb⟩ := hP.ks
    obtain ⟨bs, hB, hbn⟩ := bk_of hns hnb hP.vs
    have hbl : bs.length = kvs.length := (Paired.length hB).symm
    have hnd : (bs.map (·.1)).Nodup := by
      have q := hP.nd
      rw [hns] at q
      rw [hbn]
      exact (List.pairwise_map.mp q).imp fun h e => h (congrArg Sum.inl e)
    refine ⟨_, rfl, s, kvs, rfl, hd, ?_⟩
    refine ⟨_, _, rfl, rfl, _, _, rfl, rfl, ⟨by decide, by decide⟩, _, _, rfl, rfl, _, rfl, by omega, by omega, fun D hD => ?_⟩
    have nDp : D ≠ p := p1.ne hD
    refine lc_range (lo := 0) (n := (((kvs.length : Int) + 5) / 6 + 1).toNat) (fun i H3 => ∃ ws a' b', H3 D = some (.lst ws) ∧ ws.length = i ∧ (∀ v ∈ ws, AddrV K H3 v) ∧ Pot H3 p a' b' ∧ SameBut p H1 H3) ⟨[], _, _, upd_same, rfl, (fun _ h => nomatch h), p1.new hD, SameBut.of (Same.new hD)⟩ ?_ ?_
    · rintro i H3 hi ⟨ws, a3, b3, h3, hl3, hv3, p3, s3⟩
      refine ⟨rfl, ?_⟩
      refine ⟨_, rfl, p, _, _, rfl, p3, fun v H4 a4 b4 s4 p4 hv => ?_⟩
      have h4 := s4.at h3 nDp
      refine ⟨_, h4, sz_lt (by omega), ws ++ [v], _, _, upd_same, by rw [List.length_append, hl3]; rfl, fun x hx => ?_, p4.other nDp, (s3.trans s4).newer hD⟩
      have t4 : TS H4 (upd H4 D (.lst (ws ++ [v]))) := TS.lst h4
      rcases List.mem_append.mp hx with hx | hx
      · exact ((hv3 x hx).m (TS.pot s4 p3)).m t4
      · rw [List.mem_singleton.mp hx]
        exact hv.m t4
    · rintro H3 ⟨ws, a3, b3, h3, hl3, hv3, p3, s3⟩
      have s123 := s1.trans s3
      refine ⟨_, rfl, _, rfl, p, _, _, rfl, p3, fun n4 H4 a4 b4 s4 p4 h40 h41 => ?_⟩
      refine ⟨_, rfl, p, _, _, rfl, p4, fun n5 H5 a5 b5 s5 p5 h50 h51 => ?_⟩
      refine ⟨_, rfl, p, _, _, rfl, p5, fun n6 H6 a6 b6 s6 p6 h60 h61 => ?_⟩
      refine ⟨_, rfl, sz_of (by simp), fun t ht => ?_⟩
      have s36 := (s4.trans s5).trans s6
      have t36 : TS H3 H6 := TS.pot s36 p3
      have t7 : TS H6 (upd H6 t (.tup [.ref s, .int n4, .int n5, .int n6, .ref D])) := TS.new ht
      have hd6 : H6 s = some (.dK kvs) := (s3.trans s36).at hd nsp
      have hw6 : H6 D = some (.lst ws) := s36.at h3 nDp
      have sa : SameBut p H H6 := s123.trans s36
      obtain ⟨as, hda, haa⟩ := addrs_data (K := K) (H := upd H6 t (.tup [.ref s, .int n4, .int n5, .int n6, .ref D])) (ws := ws) fun v hv => ((hv3 v hv).m t36).m t7
      exact k t s D kvs bs n4 n5 n6 ws as _ _ _ (sa.new ht) (p6.new ht) ⟨upd_same, (Same.new ht) _ _ hd6, (Same.new ht) _ _ hw6, Bk.m (((TS.pot s3 p1).trans t36).trans t7) hB, hnd, by omega, by omega, hda, haa, by rw [hl3]; omega, by rw [hl3]; omega, ⟨h40, h41⟩, ⟨h50, h51⟩, ⟨h60, h61⟩⟩ (p6.ne ht) nsp nDp
abbrev s_l_asked : Stmt := topS 12
abbrev N_l_asked : List Str := ["pot", "one", "places", "behind", "deeds", "g", "where", "handed", "row", "stays", "told", "again"]
theorem sc_l_asked : FnScope N_l_asked ["pot", "one"] (defScope s_l_asked) := ⟨rfl, rfl, rfl, by decide +kernel, rfl, by decide +kernel, by decide +kernel⟩
def sp_l_asked (K : PySem.W.Frag) : Sp := fun vs H Q _ => ∃ (p : Addr) (a b : Int) (t s0 w0 : Addr) (kvs : List (Key × V)) (bs : List (Int × PyData)) (nb dd lg : Int) (ws : List V) (as : List PyData), vs = [.ref p, .ref t] ∧ Pot H p a b ∧ Due K H t s0 w0 kvs bs nb dd lg ws as ∧ t ≠ p ∧ s0 ≠ p ∧ w0 ≠ p ∧
  ∀ (H' : Hp) (a' b' : Int), SameBut p H H' → Pot H' p a' b' → Q (.bl true) H'
theorem adr_sz {d : PyData} (h : Adr d) : Sz 1 89 d := by
  obtain ⟨i, j, rfl, h⟩ := h
  refine (Sz.tuple (k := 0) (n := 41) (ds := [.int i, .int j]) fun d hd => ?_).mono (by decide) (by simp)
  rcases List.mem_cons.mp hd with rfl | hd
  · exact Sz.int (m := 40) (by decide) (by omega) (by decide)
  · rw [List.mem_singleton.mp hd]
    exact Sz.int (m := 40) (by decide) (by omega) (by decide)
theorem adr_shp {d : PyData} (h : Adr d) : Shp 1 d := by
  obtain ⟨i, j, rfl, h⟩ := h
  refine Shp.tuple (k := 0) fun d hd => ?_
  rcases List.mem_cons.mp hd with rfl | hd
  · exact Shp.int _
  · rw [List.mem_singleton.mp hd]
    exact Shp.int _
/-- a book's entry -/
abbrev BkE (b : Int × PyData) : Prop := Adr b.2 ∧ 0 ≤ b.1 ∧ b.1 < 10 ^ 12
theorem bk_all {K : PySem.W.Frag} {H : Hp} : ∀ {kvs : List (Key × V)} {bs : List (Int × PyData)}, Bk K H kvs bs → ∀ b ∈ bs, BkE b
  | _, _, .nil, _, h => nomatch h
  | _, _, .cons f t, b, h => by
    rcases List.mem_cons.mp h with rfl | h
    · exact ⟨f.2.2.1, f.2.2.2⟩
    · exact bk_all t b h
theorem int_sz {n : Int} (h0 : 0 ≤ n) (h1 : n < 10 ^ 12) {k : Nat} : Sz k 41 (.int n) := Sz.int (m := 40) (by decide) (by omega) (by decide)
theorem row_sz {b : Int × PyData} (h : BkE b) : Sz 2 185 (rowF b) := by
  refine (Sz.tuple (k := 1) (n := 89) (ds := [.int b.1, b.2]) fun d hd => ?_).mono (by decide) (by simp)
  rcases List.mem_cons.mp hd with rfl | hd
  · exact (int_sz h.2.1 h.2.2).mono (Nat.le_refl _) (by decide)
  · rw [List.mem_singleton.mp hd]
    exact adr_sz h.1
theorem row_shp {b : Int × PyData} (h : BkE b) : Shp 2 (rowF b) := by
  refine Shp.tuple (k := 1) fun d hd => ?_
  rcases List.mem_cons.mp hd with rfl | hd
  · exact Shp.int _
  · rw [List.mem_singleton.mp hd]
    exact adr_shp h.1
theorem chk_mem {rs : List PyData} {g dd nb : Int} {as : List PyData} {d : PyData} (h : d ∈ chkD rs g dd nb as) : (∃ i : Nat, i < (rs.length + 5) / 6 ∧ d = .tuple [.str "piece", .int i, .tuple ((rs.drop (i * 6)).take 6)]) ∨ d = .tuple [.str "root", .int g, .int dd, .int nb, .tuple as] := by
  rcases List.mem_append.mp h with h | h
  · obtain ⟨i, hi, e⟩ := List.mem_map.mp h
    exact .inl ⟨i, List.mem_range.mp hi, e.symm⟩
  · exact .inr (List.mem_singleton.mp h)
theorem chk_shp {zs : List (Int × PyData)} {g dd nb : Int} {as : List PyData} (hz : ∀ b ∈ zs, BkE b) (ha : ∀ d ∈ as, Adr d) : Shp 5 (.list (chkD (zs.map rowF) g dd nb as)) := by
  refine Shp.list (k := 4) fun d hd => ?_
  rcases chk_mem hd with ⟨i, hi, rfl⟩ | rfl
  · refine Shp.tuple (k := 3) fun d hd => ?_
    simp only [List.mem_cons, List.not_mem_nil, or_false] at hd
    rcases hd with rfl | rfl | rfl
    · exact Shp.str (by decide +kernel)
    · exact Shp.int _
    · refine Shp.tuple (k := 2) fun d hd => ?_
      obtain ⟨b, hb, rfl⟩ := List.mem_map.mp (List.mem_of_mem_drop (List.mem_of_mem_take hd))
      exact row_shp (hz b hb)
  · refine Shp.tuple (k := 3) fun d hd => ?_
    simp only [List.mem_cons, List.not_mem_nil, or_false] at hd
    rcases hd with rfl | rfl | rfl | rfl | rfl
    · exact Shp.str (by decide +kernel)
    · exact Shp.int _
    · exact Shp.int _
    · exact Shp.int _
    · refine (Shp.tuple (k := 1) fun d hd => adr_shp (ha d hd)).mono (by decide)
theorem chk_sz {zs : List (Int × PyData)} {g dd nb : Int} {as : List PyData} (hz : ∀ b ∈ zs, BkE b) (ha : ∀ d ∈ as, Adr d) (hl : zs.length ≤ 24) (hl2 : as.length ≤ 10) (r1 : 0 ≤ g ∧ g < 10 ^ 12) (r2 : 0 ≤ dd ∧ dd < 10 ^ 12) (r3 : 0 ≤ nb ∧ nb < 10 ^ 12) : Sz 60 sizeLine (.list (chkD (zs.map rowF) g dd nb as)) := by
  refine (Sz.list (k := 4) (n := 5000) (ds := chkD (zs.map rowF) g dd nb as) fun d hd => ?_).mono (by decide) ?_
  · rcases chk_mem hd with ⟨i, hi, rfl⟩ | rfl
    · rw [List.length_map] at hi
      refine (Sz.tuple (k := 3) (n := 1200) fun d hd => ?_).mono (by decide) (by simp)
      simp only [List.mem_cons, List.not_mem_nil, or_false] at hd
      rcases hd with rfl | rfl | rfl
      · exact (Sz.str (x := "piece") (by decide +kernel)).mono (Nat.le_refl _) (by decide +kernel)
      · exact (int_sz (by omega) (by omega)).mono (Nat.le_refl _) (by decide)
      · refine (Sz.tuple (k := 2) (n := 185) fun d hd => ?_).mono (by decide) ?_
        · obtain ⟨b, hb, rfl⟩ := List.mem_map.mp (List.mem_of_mem_drop (List.mem_of_mem_take hd))
          exact row_sz (hz b hb)
        · have : (((zs.map rowF).drop (i * 6)).take 6).length ≤ 6 := by
            rw [List.length_take]
            omega
          omega
    · refine (Sz.tuple (k := 3) (n := 950) fun d hd => ?_).mono (by decide) (by simp)
      simp only [List.mem_cons, List.not_mem_nil, or_false] at hd
      rcases hd with rfl | rfl | rfl | rfl | rfl
      · exact (Sz.str (x := "root") (by decide +kernel)).mono (Nat.le_refl _) (by decide +kernel)
      · exact (int_sz r1.1 r1.2).mono (Nat.le_refl _) (by decide)
      · exact (int_sz r2.1 r2.2).mono (Nat.le_refl _) (by decide)
      · exact (int_sz r3.1 r3.2).mono (Nat.le_refl _) (by decide)
      · refine (Sz.tuple (k := 1) (n := 89) fun d hd => adr_sz (ha d hd)).mono (by decide) (by omega)
  · have e : (chkD (zs.map rowF) g dd nb as).length = (zs.length + 5) / 6 + 1 := by
      unfold chkD
      rw [List.length_append, pcs_len, List.length_map]
      rfl
    rw [e]
    exact Nat.le_trans (by omega : _ ≤ 26000) (by decide)
theorem ok_l_asked {f : Addr} {fd : FuncData} (F : Fun K "_law_asked" "_law_asked" s_l_asked f fd) (B : Bt mg) (C_checkpoint : Cal P w K mg base CX0 "checkpoint" 1 ["places", "next_number", "deeds", "g", "spots"] (sp_checkpoint K)) (C_law_take : Cal P w K mg base CX0 "_law_take" 1 ["pot", "many"] sp_l_tk) (C_law_due : Cal P w K mg base CX0 "_law_due" 1 ["places", "behind", "deeds", "g", "where"] (sp_l_due K)) : GnOk P w K mg base CX0 2 f fd ["pot", "one"] (sp_l_asked K) := by
  refine gn_fun F sc_l_asked (fun vs H Q E h => ?_) (fun cdv A outer s H vs Q E hr h => ?_)
  · obtain ⟨p, a, b, t, s0, w0, kvs, bs, nb, dd, lg, ws, as, rfl, _⟩ := h
    rfl
  · obtain ⟨p, a, b, t, s0, w0, kvs, bs, nb, dd, lg, ws, as, rfl, hp, hD, ntp, nsp, nwp, k⟩ := h
    refine ⟨_, (pss_cons (ps_asg (pv 1) (pg_tup (by rfl) (pgs_cons (pg_name (i := 2) sc_l_asked.nd rfl (Or.inl rfl)) (pgs_cons (pg_name (i := 3) sc_l_asked.nd rfl (Or.inl rfl)) (pgs_cons (pg_name (i := 4) sc_l_asked.nd rfl (Or.inl rfl)) (pgs_cons (pg_name (i := 5) sc_l_asked.nd rfl (Or.inl rfl)) (pgs_cons (pg_name (i := 6) sc_l_asked.nd rfl (Or.inl rfl)) pgs_nil)))))))
    (pss_cons (ps_par (i := 7) (j := 8) (by rfl) sc_l_asked.nd rfl rfl (by decide) rfl rfl (pa_cons (pe_callTy call_dictD (by rfl) B.dict (by decide +kernel) (pa_cons (pv 2) pa_nil)) (pa_cons (pe_ix (ix_listK K) (pe_lst (pa_cons (pe_callTy (call_list_ofK K) (by rfl) B.list (by decide +kernel) (pa_cons (pv 6) pa_nil)) (pa_cons (pe_callTy (call_tuple_ofK K) (by rfl) B.tuple (by decide +kernel) (pa_cons (pv 6) pa_nil)) pa_nil))) (pe_cal C_law_take (hr.mono (by decide)) (by rfl) pass0 (pa_cons (pv 0) (pa_cons pe_int pa_nil))) (fun _ _ => rfl)) pa_nil)) (by rfl))
    (pss_cons (ps_set (i := 9) sc_l_asked.nd rfl (Or.inl rfl) (pe_callB (call_reprK K hr) (by rfl) B.repr (by decide +kernel) (pa_cons (pe_lst (pa_cons (LiI.pe_listItems rfl (pv 7) (by rfl) B.list (by decide +kernel)) (pa_cons (pv 8) pa_nil))) pa_nil)))
    (pss_cons (ps_set (i := 10) sc_l_asked.nd rfl (Or.inl rfl) (pe_cal C_checkpoint (hr.mono (by decide)) (by rfl) pass0 (pa_cons (pv 7) (pa_cons (pv 3) (pa_cons (pv 4) (pa_cons (pv 5) (pa_cons (pv 8) pa_nil)))))))
    (pss_cons (ps_if (PW.pt (pw_or (pt_not (pt_val (pe_callB (call_isiK K) (by rfl) B.isinstance (by decide +kernel) (pa_cons (pv 10) (pa_cons (pe_bltn (v := .ty "list") (by rfl) B.list (by decide +kernel) rfl) pa_nil))))) (pw_or1 (pt_cmpR op_ne (pe_callB (call_reprK K hr) (by rfl) B.repr (by decide +kernel) (pa_cons (pv 10) pa_nil)) (pe_callB (call_reprK K hr) (by rfl) B.repr (by decide +kernel) (pa_cons (pe_cal C_law_due (hr.mono (by decide)) (by rfl) pass0 (pa_cons (pv 2) (pa_cons (pv 3) (pa_cons (pv 4) (pa_cons (pv 5) (pa_cons (pv 6) pa_nil)))))) pa_nil)) (nomark _)))))
      (pss_one (ps_ret pe_bl))
      pss_nil)
    (pss_cons (ps_if (pt_cmpR op_ne (pe_callB (call_reprK K hr) (by rfl) B.repr (by decide +kernel) (pa_cons (pe_lst (pa_cons (LiI.pe_listItems rfl (pv 7) (by rfl) B.list (by decide +kernel)) (pa_cons (pv 8) pa_nil))) pa_nil)) (pv 9) (nomark _))
      (pss_one (ps_ret pe_bl))
      pss_nil)
    (pss_cons (ps_expr (pe_bm0 PySem.F.plainAttrs_dict PySem.F.slot_dict_clear PySem.F.type_dict_clear mtd_clear (pv 7)))
    (pss_cons (ps_expr (pe_bmK K PySem.F.plainAttrs_list PySem.F.slot_list_append PySem.F.type_list_append mt_append (pv 10) (pa_cons pe_non pa_nil)))
    (pss_cons (ps_set (i := 11) sc_l_asked.nd rfl (Or.inl rfl) (pe_cal C_checkpoint (hr.mono (by decide)) (by rfl) pass0 (pa_cons (pe_callTy call_dictD (by rfl) B.dict (by decide +kernel) (pa_cons (pv 2) pa_nil)) (pa_cons (pv 3) (pa_cons (pv 4) (pa_cons (pv 5) (pa_cons (pe_callTy (call_list_ofK K) (by rfl) B.list (by decide +kernel) (pa_cons (pv 6) pa_nil)) pa_nil)))))))
    (pss_cons (ps_expr (pe_bm0K K PySem.F.plainAttrs_list PySem.F.slot_list_pop PySem.F.type_list_pop mt_pop (pv 10)))
    (pss_one (ps_ret (pe_and (pe_cmpR (op_eqDK K hr.units) (pv 11) (pv 10) (nomark _)) (pe_one (pe_cmpR op_eq (pe_callB (call_reprK K hr) (by rfl) B.repr (by decide +kernel) (pa_cons (pv 11) pa_nil)) (pe_callB (call_reprK K hr) (by rfl) B.repr (by decide +kernel) (pa_cons (pv 10) pa_nil)) (nomark _)))))))))))))))), ?_⟩
    refine ⟨_, rfl, t, _, rfl, SqT.of hD.tp, rfl, _, _, rfl, _, _, rfl, _, _, rfl, _, _, rfl, _, _, rfl, rfl, ?_⟩
    refine ⟨_, rfl, s0, kvs, rfl, .inl hD.dc, fun h1 hh1 => ?_⟩
    have hf1 : Same H (upd H h1 (.dK kvs)) := Same.new hh1
    refine ⟨_, rfl, w0, ws, rfl, .inl (SqL.of (hf1 _ _ hD.ls)), fun l1 hl1 => ?_⟩
    have hf2 := hf1.trans (Same.new (o := .lst ws) hl1)
    refine ⟨_, rfl, w0, ws, rfl, .inl ⟨SqL.of (hf2 _ _ hD.ls), fun t1 ht1 => ?_⟩⟩
    refine ⟨sz_of (by simp), fun q hq => ?_⟩
    have nqp : q ≠ p := (((hp.new hh1).new hl1).new ht1).ne hq
    refine ⟨_, rfl, p, _, _, _, rfl, (((hp.new hh1).new hl1).new ht1).new hq, by decide, by decide, fun i1 a1 b1 H1 s1 p1 h10 h11 => ?_⟩
    have e0 : Same H (upd (upd (upd (upd H h1 (.dK kvs)) l1 (.lst ws)) t1 (.tup ws)) q (.lst [.ref l1, .ref t1])) := (((Same.new hh1).trans (Same.new hl1)).trans (Same.new ht1)).trans (Same.new hq)
    have fl1 : H l1 = none := hf1.free hl1
    have ft1 : H t1 = none := hf2.free ht1
    have nhp : h1 ≠ p := hp.ne hh1
    have hh : H1 h1 = some (.dK kvs) := s1.at ((((Same.new hl1).trans (Same.new ht1)).trans (Same.new hq)) _ _ upd_same) nhp
    have hs01 : SameBut p H H1 := (SameBut.of e0).trans s1
    have t01 : TS H H1 := TS.pot hs01 hp
    -- the row handed in, its data
    obtain ⟨rv, hrv, hrm⟩ := atI_mem (xs := [V.ref l1, V.ref t1]) (i := i1) h10 h11
    obtain ⟨r, rd, rfl, fr, hrq, hrd, hrz⟩ : ∃ r rd, rv = V.ref r ∧ H r = none ∧ (∀ H', Same H1 H' → SqL K H' r ws ∨ SqT K H' r ws) ∧ (∀ H', Same H1 H' → Dp K H' (.ref r) rd) ∧ Sz 3 5000 rd := by
      simp only [List.mem_cons, List.not_mem_nil, or_false] at hrm
      have hal : as.length ≤ 10 := by rw [← hD.dt.length]; exact hD.w1
      rcases hrm with e | e
      · have h : H1 l1 = some (.lst ws) := s1.at (((Same.new ht1).trans (Same.new hq)) _ _ upd_same) (hp.ne fl1)
        exact ⟨l1, .list as, e, fl1, fun H' e' => .inl (SqL.of (e' _ _ h)), fun H' e' => Dp.ofL (e' _ _ h) ((hD.dt.m t01).m (TS.of e')), (Sz.list (k := 1) (n := 89) fun d hd => adr_sz (hD.ad d hd)).mono (by decide) (by omega)⟩
      · have h : H1 t1 = some (.tup ws) := s1.at ((Same.new hq) _ _ upd_same) (hp.ne ft1)
        exact ⟨t1, .tuple as, e, ft1, fun H' e' => .inr (SqT.of (e' _ _ h)), fun H' e' => .tup (SqT.of (e' _ _ h)) ((hD.dt.m t01).m (TS.of e')).dp, (Sz.tuple (k := 1) (n := 89) fun d hd => adr_sz (hD.ad d hd)).mono (by decide) (by omega)⟩
    refine ⟨q, _, _, _, rfl, rfl, SqL.of (s1.at upd_same nqp), hrv, _, _, rfl, ?_⟩
    have D1 := hD.mb hs01 hp ntp nsp nwp
    clear hrv hrm s1
    -- stays
    have hall := bk_all D1.bk
    have hrz1 : Sz 3 5000 (.list (bs.map rowF)) := (Sz.list (k := 2) (n := 185) (ds := bs.map rowF) fun d hd => by
      obtain ⟨b, hb, rfl⟩ := List.mem_map.mp hd
      exact row_sz (hall b hb)).mono (Nat.le_refl _) (by have := hD.b1; rw [List.length_map]; omega)
    have hz0 : Sz 60 sizeLine (.list [.list (bs.map rowF), rd]) := (Sz.list (k := 3) (n := 5000) (ds := [.list (bs.map rowF), rd]) fun d hd => by
      rcases List.mem_cons.mp hd with rfl | hd
      · exact hrz1
      · rw [List.mem_singleton.mp hd]
        exact hrz).mono (by decide) (by show (5000 + 2) * 2 + 2 ≤ sizeLine; decide)
    refine ⟨_, rfl, h1, kvs, rfl, hh, fun H2 q2 ts2 e2 _ _ _ hq2 hp2 => ?_⟩
    have e2' : Same H1 H2 := e2
    refine ⟨_, rfl, sz_of (by simp), fun l2 hl2 => ?_⟩
    have e3 : Same H2 (upd H2 l2 (.lst [.ref q2, .ref r])) := Same.new hl2
    have dp1 : Dp K (upd H2 l2 (.lst [.ref q2, .ref r])) (.ref l2) (.list [.list (bs.map rowF), rd]) :=
      .lst (SqL.of upd_same) (.cons (Dp.ofL (e3 _ _ hq2) ((rows_data hp2 (Bk.m (TS.of e2') D1.bk)).m (TS.of e3))) (.cons (hrd _ (e2'.trans e3)) .nil))
    refine ⟨l2, _, rfl, dp1, hz0, ?_⟩
    have e13 := e2'.trans e3
    generalize (upd H2 l2 (.lst [.ref q2, .ref r])) = H3 at e3 dp1 e13 ⊢
    clear dp1
    -- told
    have D3 := D1.m e13
    refine ⟨_, rfl, _, rfl, _, rfl, _, rfl, _, rfl, h1, r, kvs, bs, nb, dd, lg, ws, as, rfl, e13 _ _ hh, D3.bk, D3.b1, hrq _ e13, D3.dt, D3.w0, D3.w1, fun l xs zs H4 s4 fl pz hz hl hx => ?_⟩
    have hzb : ∀ b ∈ zs, BkE b := fun b hb => hall b (pz.mem_iff.mp hb)
    have hzl : zs.length ≤ 24 := by rw [pz.length_eq]; exact hD.b1
    have hta : ∀ d ∈ as.take (as.length - 1), Adr d := fun d hd => hD.ad d (List.mem_of_mem_take hd)
    have htl : (as.take (as.length - 1)).length ≤ 10 := by
      have := hD.w1
      have := hD.dt.length
      rw [List.length_take]
      omega
    have hsz := chk_sz (g := lg) (dd := dd) (nb := nb) hzb hta hzl htl hD.r3 hD.r2 hD.r1
    have hshp := chk_shp (g := lg) (dd := dd) (nb := nb) hzb hta
    have D4 := D3.m s4
    refine ⟨_, rfl, _, _, _, _, true, rfl, .ty _, .base (.lst hl), kit_ty (by decide +kernel), true, rfl, ?_⟩
    refine iteF ?_
    refine ⟨_, rfl, l, _, rfl, Dp.ofL hl hx, hsz, _, rfl, _, rfl, _, rfl, _, rfl, _, rfl, s0, w0, kvs, bs, nb, dd, lg, ws, as, rfl, D4.dc, D4.bk, D4.nd, D4.b1, SqL.of D4.ls, D4.dt, D4.w0, D4.w1, fun l5 xs5 zs5 H5 s5 fl5 pz5 hz5 hl5 hx5 => ?_⟩
    obtain rfl : zs5 = zs := srt_eq pz5 pz hD.nd hz5 hz
    refine ⟨l5, _, rfl, Dp.ofL hl5 hx5, hsz, rfl, _, rfl, ?_⟩
    refine iteF' (by simp) ?_
    -- what's handed in stays
    have e15 := (e13.trans s4).trans s5
    refine ⟨_, rfl, h1, kvs, rfl, e15 _ _ hh, fun H6 q6 ts6 e6 _ _ _ hq6 hp6 => ?_⟩
    have e6' : Same H5 H6 := e6
    refine ⟨_, rfl, sz_of (by simp), fun l7 hl7 => ?_⟩
    have e7 : Same H6 (upd H6 l7 (.lst [.ref q6, .ref r])) := Same.new hl7
    have dp7 : Dp K (upd H6 l7 (.lst [.ref q6, .ref r])) (.ref l7) (.list [.list (bs.map rowF), rd]) :=
      .lst (SqL.of upd_same) (.cons (Dp.ofL (e7 _ _ hq6) ((rows_data hp6 (Bk.m (TS.of (e15.trans e6')) D1.bk)).m (TS.of e7))) (.cons (hrd _ ((e15.trans e6').trans e7)) .nil))
    refine ⟨l7, _, rfl, dp7, hz0, _, rfl, rfl, _, rfl, ?_⟩
    refine iteF' (by simp) ?_
    have e37 : Same H4 (upd H6 l7 (.lst [.ref q6, .ref r])) := (s5.trans e6').trans e7
    have hh7 : (upd H6 l7 (.lst [.ref q6, .ref r])) h1 = some (.dK kvs) := (e15.trans (e6'.trans e7)) _ _ hh
    have hl7' := e37 _ _ hl
    have hx7 := hx.m (TS.of e37)
    have D7 := D4.m e37
    have p7 : Pot (upd H6 l7 (.lst [.ref q6, .ref r])) p a1 b1 := ⟨(e15.trans (e6'.trans e7)) _ _ p1.1, p1.2⟩
    have sB7 : SameBut p H (upd H6 l7 (.lst [.ref q6, .ref r])) := hs01.same (e15.trans (e6'.trans e7))
    generalize (upd H6 l7 (.lst [.ref q6, .ref r])) = H7 at hh7 hl7' hx7 D7 p7 sB7 ⊢
    have nth : t ≠ h1 := ne_of_none hD.tp hh1
    have nsh : s0 ≠ h1 := ne_of_none hD.dc hh1
    have nwh : w0 ≠ h1 := ne_of_none hD.ls hh1
    have nlh : l ≠ h1 := fun e => by
      have := e13 _ _ hh
      rw [← e, fl] at this
      cases this
    have ntl : t ≠ l := ne_of_none D3.tp fl
    have nsl : s0 ≠ l := ne_of_none D3.dc fl
    have nwl : w0 ≠ l := ne_of_none D3.ls fl
    have npl : l ≠ p := fun e => by
      have := e13 _ _ p1.1
      rw [← e, fl] at this
      cases this
    have fHl : H l = none := (hs01.same e13).free fl npl
    -- handed.clear()
    refine ⟨_, rfl, .inr (.inr (.inl ⟨rfl, .inl ⟨kvs, hh7⟩⟩)), h1, kvs, rfl, rfl, hh7, ?_⟩
    have t8 : TS H7 (upd H7 h1 (.dK [])) := TS.dK hh7
    have D8 := D7.mt t8 (upd_ne nth) (upd_ne nsh) (upd_ne nwh)
    have hl8 : (upd H7 h1 (.dK [])) l = some (.lst xs) := by rw [upd_ne nlh]; exact hl7'
    have hx8 := hx7.m t8
    have p8 : Pot (upd H7 h1 (.dK [])) p a1 b1 := p7.other nhp
    have sB8 : SameBut p H (upd H7 h1 (.dK [])) := sB7.newer hh1
    generalize (upd H7 h1 (.dK [])) = H8 at D8 hl8 hx8 p8 sB8 ⊢
    -- told.append(None)
    refine ⟨_, rfl, .inl ⟨rfl, _, SqL.of hl8⟩, l, _, _, rfl, rfl, hl8, sz_lt (by
      have := hx.length
      unfold chkD at this
      rw [List.length_append, pcs_len, List.length_map] at this
      simp at this
      omega), ?_⟩
    have t9 : TS H8 (upd H8 l (.lst (xs ++ [.non]))) := TS.lst hl8
    have D9 := D8.mt t9 (upd_ne ntl) (upd_ne nsl) (upd_ne nwl)
    have hl9 : (upd H8 l (.lst (xs ++ [.non]))) l = some (.lst (xs ++ [.non])) := upd_same
    have hx9 := hx8.m t9
    have p9 : Pot (upd H8 l (.lst (xs ++ [.non]))) p a1 b1 := p8.other npl
    have sB9 : SameBut p H (upd H8 l (.lst (xs ++ [.non]))) := sB8.newer fHl
    generalize (upd H8 l (.lst (xs ++ [.non]))) = H9 at D9 hl9 hx9 p9 sB9 ⊢
    -- again
    refine ⟨_, rfl, s0, kvs, rfl, .inl D9.dc, fun c1 hc1 => ?_⟩
    have e10 : Same H9 (upd H9 c1 (.dK kvs)) := Same.new hc1
    refine ⟨_, rfl, _, rfl, _, rfl, _, rfl, w0, ws, rfl, .inl (SqL.of (e10 _ _ D9.ls)), fun c2 hc2 => ?_⟩
    have e11 : Same H9 (upd (upd H9 c1 (.dK kvs)) c2 (.lst ws)) := e10.trans (Same.new hc2)
    have n12 : c1 ≠ c2 := ne_of_none upd_same hc2
    have D11 := D9.m e11
    refine ⟨c1, c2, kvs, bs, nb, dd, lg, ws, as, rfl, by rw [upd_ne n12]; exact upd_same, D11.bk, D11.b1, .inl (SqL.of upd_same), D11.dt, D11.w0, D11.w1, fun l12 xs12 zs12 H12 s12 fl12 pz12 hz12 hl12 hx12 => ?_⟩
    obtain rfl : zs12 = zs5 := srt_eq pz12 pz hD.nd hz12 hz
    have s9 := e11.trans s12
    have hlt := s9 _ _ hl9
    have nll : l ≠ l12 := fun e => by rw [← e, e11 _ _ hl9] at fl12; cases fl12
    -- told.pop()
    refine ⟨_, rfl, .inl ⟨rfl, _, SqL.of hlt⟩, l, _, .non, rfl, rfl, hlt, by simp, ?_⟩
    rw [List.dropLast_concat]
    have t13 : TS H12 (upd H12 l (.lst xs)) := TS.lst hlt
    have hxl := (hx9.m (TS.of s9)).m t13
    have dpT : Dp K (upd H12 l (.lst xs)) (.ref l) (.list (chkD (zs12.map rowF) lg dd nb (as.take (as.length - 1)))) := Dp.ofL upd_same hxl
    have dpA : Dp K (upd H12 l (.lst xs)) (.ref l12) (.list (chkD (zs12.map rowF) lg dd nb (as.take (as.length - 1)))) := Dp.ofL (by rw [upd_ne nll.symm]; exact hl12) (hx12.m t13)
    refine ⟨_, rfl, _, rfl, eq_same (k := 5) dpA dpT hshp ?_⟩
    refine ⟨true, rfl, ?_⟩
    refine iteT ?_
    refine ⟨_, rfl, l12, _, rfl, dpA, hsz, _, rfl, l, _, rfl, dpT, hsz, rfl, ?_⟩
    rw [decide_eq_true rfl]
    exact k _ _ _ ((sB9.same s9).newer fHl) (Pot.other ⟨s9 _ _ p9.1, p9.2⟩ npl)
abbrev s_law : Stmt := topS 13
abbrev N_law : List Str := ["script", "ahead", "k", "pot", "one"]
theorem sc_law : FnScope N_law ["script"] (defScope s_law) := ⟨rfl, rfl, rfl, by decide +kernel, rfl, by decide +kernel, by decide +kernel⟩
theorem ok_law {f : Addr} {fd : FuncData} (F : Fun K "law" "law" s_law f fd) (B : Bt mg) (C_law_pot : Cal P w K mg base CX0 "_law_pot" 1 ["cell"] sp_l_pot) (C_law_drawn : Cal P w K mg base CX0 "_law_drawn" 5 ["pot"] (sp_l_drawn K)) (C_law_at : Cal P w K mg base CX0 "_law_at" 1 ["script", "k"] (sp_l_at K)) (C_law_asked : Cal P w K mg base CX0 "_law_asked" 2 ["pot", "one"] (sp_l_asked K)) : GnOk P w K mg base CX0 6 f fd ["script"] (sp_law K) := by
  refine gn_fun F sc_law (fun vs H Q E h => ?_) (fun cdv A outer s H vs Q E hr h => ?_)
  · obtain ⟨a, ns, rfl, _⟩ := h
    rfl
  · obtain ⟨a, ns, rfl, hS, hn, k⟩ := h
    refine ⟨_, (pss_cons (ps_set (i := 1) sc_law.nd rfl (Or.inl rfl) pe_non)
    (pss_cons (ps_for PassesOwn.never rfl (pi_range1 (by rfl) B.range (pa_cons (pe_callB (call_max2 rfl) (by rfl) B.max (by decide +kernel) (pa_cons pe_int (pa_cons (pe_callB (call_min2 rfl) (by rfl) B.min (by decide +kernel) (pa_cons (pe_callB (call_lenK K) (by rfl) B.len (by decide +kernel) (pa_cons (pv 0) pa_nil)) (pa_cons pe_int pa_nil))) pa_nil))) pa_nil)) (pg_name (i := 2) sc_law.nd rfl (Or.inl rfl))
      (pss_cons (ps_set (i := 3) sc_law.nd rfl (Or.inl rfl) (pe_cal C_law_pot (hr.mono (by decide)) (by rfl) pass0 (pa_cons (pe_op op_add (pe_cal C_law_at (hr.mono (by decide)) (by rfl) pass0 (pa_cons (pv 0) (pa_cons (pv 2) pa_nil))) (pe_op op_mul pe_int (pv 2))) pa_nil)))
    (pss_cons (ps_set (i := 4) sc_law.nd rfl (Or.inl rfl) (pe_cal C_law_drawn (hr.mono (by decide)) (by rfl) pass0 (pa_cons (pv 3) pa_nil)))
    (pss_cons (ps_if (PW.pt (pw_or (pt_not (pt_val (pe_cal C_law_asked (hr.mono (by decide)) (by rfl) pass0 (pa_cons (pv 3) (pa_cons (pv 4) pa_nil))))) (pw_or1 (PW.pt (pw_and (pt_cmpR op_notN (pv 1) pe_non (nomark _)) (pw_and1 (pt_not (pt_val (pe_cal C_law_asked (hr.mono (by decide)) (by rfl) pass0 (pa_cons (pv 3) (pa_cons (pv 1) pa_nil)))))))))))
      (pss_one (ps_ret pe_bl))
      pss_nil)
    (pss_one (ps_set (i := 1) sc_law.nd rfl (Or.inl rfl) (pv 4)))))))
    (pss_one (ps_ret pe_bl)))), ?_⟩
    refine ⟨_, rfl, _, ns.length, rfl, .inl ⟨_, hS, by simp⟩, _, _, rfl, _, _, rfl, ?_⟩
    generalize e : (if (if (20 : Int) < (ns.length : Int) then (20 : Int) else (ns.length : Int)) > 3 then _ else _ : Int) = n
    have hn0 : 0 ≤ n ∧ n ≤ 100 := by
      rw [← e]
      split <;> (try split) <;> omega
    clear e
    refine ⟨n, rfl, by omega, by omega, for_range (lo := 0) (n := n.toNat) (fun i σ H' => ∃ av v2 v3 v4, σ = [some (.ref a), some av, v2, v3, v4] ∧ Same H H' ∧ (av = .non ∨ ∃ t s w kvs bs nb dd lg ws as, av = .ref t ∧ Due K H' t s w kvs bs nb dd lg ws as)) ⟨.non, none, none, none, rfl, Same.refl H, .inl rfl⟩ ?_ ?_⟩
    · rintro i σ H0 hi ⟨av, v2, v3, v4, rfl, s1, hav⟩
      refine ⟨_, rfl, _, congrArg (fun v => some (some v)) (congrArg V.int (Int.zero_add _)), a, ns, i, rfl, s1.seq hS, fun c => ?_⟩
      refine ⟨_, rfl, _, _, rfl, rfl, .inl (by decide), _, _, rfl, rfl, _, rfl, fun p H2 s2 f2 p2 => ?_⟩
      refine ⟨_, rfl, p, _, _, rfl, p2, fun t u w kvs bs nb dd lg ws as H3 a3 b3 s3 p3 D3 nt nu nw => ?_⟩
      refine ⟨_, rfl, _, rfl, p, _, _, t, u, w, kvs, bs, nb, dd, lg, ws, as, rfl, p3, D3, nt, nu, nw, fun H4 a4 b4 s4 p4 => ⟨true, rfl, ?_⟩⟩
      have D4 := D3.mb s4 p3 nt nu nw
      have s04 : Same H0 H4 := Same.but s2 (s3.trans s4) f2
      rcases hav with rfl | ⟨t', u', w', kvs', bs', nb', dd', lg', ws', as', rfl, D0⟩
      · refine ⟨_, rfl, rfl, false, rfl, ?_⟩
        refine iteF ?_
        exact ⟨_, rfl, _, _, _, _, rfl, s1.trans s04, .inr ⟨t, u, w, kvs, bs, nb, dd, lg, ws, as, rfl, D4⟩⟩
      · refine ⟨_, rfl, rfl, true, rfl, ?_⟩
        have D4' := D0.m s04
        refine ⟨_, rfl, _, rfl, p, _, _, t', u', w', kvs', bs', nb', dd', lg', ws', as', rfl, p4, D4', ne_of_none D0.tp f2, ne_of_none D0.dc f2, ne_of_none D0.ls f2, fun H5 a5 b5 s5 p5 => ⟨true, rfl, ?_⟩⟩
        refine iteF ?_
        have D5 := D4.mb s5 p4 nt nu nw
        exact ⟨_, rfl, _, _, _, _, rfl, s1.trans (Same.but s2 ((s3.trans s4).trans s5) f2), .inr ⟨t, u, w, kvs, bs, nb, dd, lg, ws, as, rfl, D5⟩⟩
    · rintro σ H1 ⟨av, v2, v3, v4, rfl, s1, hav⟩
      exact k _
end
theorem all_mk {P : Program} {w : World} {K : PySem.W.Frag} {h : Heap} {mg : Str → Option Value} {fa : Addr} (X : K.In h) (G : h.Ns mainGlobals mg) (hfa : mg "law" = some (.ref fa))
    {tk_PIECE : Tok}
    {f_checkpoint : Addr} {oc_checkpoint kV_checkpoint dc_checkpoint pm_checkpoint cd_checkpoint ct_checkpoint : Value} {od_checkpoint an_checkpoint : Option Addr} {sl_checkpoint : Array (Option Value)}
    {f_l_at : Addr} {oc_l_at kV_l_at dc_l_at pm_l_at cd_l_at ct_l_at : Value} {od_l_at an_l_at : Option Addr} {sl_l_at : Array (Option Value)}
    {f_l_pot : Addr} {oc_l_pot kV_l_pot dc_l_pot pm_l_pot cd_l_pot ct_l_pot : Value} {od_l_pot an_l_pot : Option Addr} {sl_l_pot : Array (Option Value)}
    {f_l_take : Addr} {oc_l_take kV_l_take dc_l_take pm_l_take cd_l_take ct_l_take : Value} {od_l_take an_l_take : Option Addr} {sl_l_take : Array (Option Value)}
    {f_l_number : Addr} {oc_l_number kV_l_number dc_l_number pm_l_number cd_l_number ct_l_number : Value} {od_l_number an_l_number : Option Addr} {sl_l_number : Array (Option Value)}
    {f_l_address : Addr} {oc_l_address kV_l_address dc_l_address pm_l_address cd_l_address ct_l_address : Value} {od_l_address an_l_address : Option Addr} {sl_l_address : Array (Option Value)}
    {f_l_places : Addr} {oc_l_places kV_l_places dc_l_places pm_l_places cd_l_places ct_l_places : Value} {od_l_places an_l_places : Option Addr} {sl_l_places : Array (Option Value)}
    {f_l_due : Addr} {oc_l_due kV_l_due dc_l_due pm_l_due cd_l_due ct_l_due : Value} {od_l_due an_l_due : Option Addr} {sl_l_due : Array (Option Value)}
    {f_l_drawn : Addr} {oc_l_drawn kV_l_drawn dc_l_drawn pm_l_drawn cd_l_drawn ct_l_drawn : Value} {od_l_drawn an_l_drawn : Option Addr} {sl_l_drawn : Array (Option Value)}
    {f_l_asked : Addr} {oc_l_asked kV_l_asked dc_l_asked pm_l_asked cd_l_asked ct_l_asked : Value} {od_l_asked an_l_asked : Option Addr} {sl_l_asked : Array (Option Value)}
    {f_law : Addr} {oc_law kV_law dc_law pm_law cd_law ct_law : Value} {od_law an_law : Option Addr} {sl_law : Array (Option Value)}
    (z_len : PySem.W.nsIn K mainGlobals "len" = some none)
    (z_max : PySem.W.nsIn K mainGlobals "max" = some none)
    (z_min : PySem.W.nsIn K mainGlobals "min" = some none)
    (z_abs : PySem.W.nsIn K mainGlobals "abs" = some none)
    (z_divmod : PySem.W.nsIn K mainGlobals "divmod" = some none)
    (z_range : PySem.W.nsIn K mainGlobals "range" = some none)
    (z_ord : PySem.W.nsIn K mainGlobals "ord" = some none)
    (z_isinstance : PySem.W.nsIn K mainGlobals "isinstance" = some none)
    (z_int : PySem.W.nsIn K mainGlobals "int" = some none)
    (z_str : PySem.W.nsIn K mainGlobals "str" = some none)
    (z_bool : PySem.W.nsIn K mainGlobals "bool" = some none)
    (z_list : PySem.W.nsIn K mainGlobals "list" = some none)
    (z_tuple : PySem.W.nsIn K mainGlobals "tuple" = some none)
    (z_dict : PySem.W.nsIn K mainGlobals "dict" = some none)
    (z_set : PySem.W.nsIn K mainGlobals "set" = some none)
    (z_all : PySem.W.nsIn K mainGlobals "all" = some none)
    (z_any : PySem.W.nsIn K mainGlobals "any" = some none)
    (z_sorted : PySem.W.nsIn K mainGlobals "sorted" = some none)
    (z_enumerate : PySem.W.nsIn K mainGlobals "enumerate" = some none)
    (z_zip : PySem.W.nsIn K mainGlobals "zip" = some none)
    (z_repr : PySem.W.nsIn K mainGlobals "repr" = some none)
    (z_sum : PySem.W.nsIn K mainGlobals "sum" = some none)
    (a_PIECE : PySem.W.nsIn K mainGlobals "PIECE" = some (some (.int 6 tk_PIECE)))
    (a_checkpoint : PySem.W.nsIn K mainGlobals "checkpoint" = some (some (.ref f_checkpoint)))
    (l_checkpoint : K.lookup f_checkpoint = some ⟨oc_checkpoint, od_checkpoint, .func (PySem.W.fnOf "checkpoint" "checkpoint" (defArgs s_checkpoint) (defBody s_checkpoint) (defScope s_checkpoint) .none kV_checkpoint dc_checkpoint pm_checkpoint an_checkpoint cd_checkpoint ct_checkpoint), sl_checkpoint⟩)
    (c_checkpoint : PySem.W.codeIn K cd_checkpoint "checkpoint" = true)
    (k_checkpoint : PySem.W.keepIn K (.ref f_checkpoint) = true)
    (a_l_at : PySem.W.nsIn K mainGlobals "_law_at" = some (some (.ref f_l_at)))
    (l_l_at : K.lookup f_l_at = some ⟨oc_l_at, od_l_at, .func (PySem.W.fnOf "_law_at" "_law_at" (defArgs s_l_at) (defBody s_l_at) (defScope s_l_at) .none kV_l_at dc_l_at pm_l_at an_l_at cd_l_at ct_l_at), sl_l_at⟩)
    (c_l_at : PySem.W.codeIn K cd_l_at "_law_at" = true)
    (k_l_at : PySem.W.keepIn K (.ref f_l_at) = true)
    (a_l_pot : PySem.W.nsIn K mainGlobals "_law_pot" = some (some (.ref f_l_pot)))
    (l_l_pot : K.lookup f_l_pot = some ⟨oc_l_pot, od_l_pot, .func (PySem.W.fnOf "_law_pot" "_law_pot" (defArgs s_l_pot) (defBody s_l_pot) (defScope s_l_pot) .none kV_l_pot dc_l_pot pm_l_pot an_l_pot cd_l_pot ct_l_pot), sl_l_pot⟩)
    (c_l_pot : PySem.W.codeIn K cd_l_pot "_law_pot" = true)
    (k_l_pot : PySem.W.keepIn K (.ref f_l_pot) = true)
    (a_l_take : PySem.W.nsIn K mainGlobals "_law_take" = some (some (.ref f_l_take)))
    (l_l_take : K.lookup f_l_take = some ⟨oc_l_take, od_l_take, .func (PySem.W.fnOf "_law_take" "_law_take" (defArgs s_l_take) (defBody s_l_take) (defScope s_l_take) .none kV_l_take dc_l_take pm_l_take an_l_take cd_l_take ct_l_take), sl_l_take⟩)
    (c_l_take : PySem.W.codeIn K cd_l_take "_law_take" = true)
    (k_l_take : PySem.W.keepIn K (.ref f_l_take) = true)
    (a_l_number : PySem.W.nsIn K mainGlobals "_law_number" = some (some (.ref f_l_number)))
    (l_l_number : K.lookup f_l_number = some ⟨oc_l_number, od_l_number, .func (PySem.W.fnOf "_law_number" "_law_number" (defArgs s_l_number) (defBody s_l_number) (defScope s_l_number) .none kV_l_number dc_l_number pm_l_number an_l_number cd_l_number ct_l_number), sl_l_number⟩)
    (c_l_number : PySem.W.codeIn K cd_l_number "_law_number" = true)
    (k_l_number : PySem.W.keepIn K (.ref f_l_number) = true)
    (a_l_address : PySem.W.nsIn K mainGlobals "_law_address" = some (some (.ref f_l_address)))
    (l_l_address : K.lookup f_l_address = some ⟨oc_l_address, od_l_address, .func (PySem.W.fnOf "_law_address" "_law_address" (defArgs s_l_address) (defBody s_l_address) (defScope s_l_address) .none kV_l_address dc_l_address pm_l_address an_l_address cd_l_address ct_l_address), sl_l_address⟩)
    (c_l_address : PySem.W.codeIn K cd_l_address "_law_address" = true)
    (k_l_address : PySem.W.keepIn K (.ref f_l_address) = true)
    (a_l_places : PySem.W.nsIn K mainGlobals "_law_places" = some (some (.ref f_l_places)))
    (l_l_places : K.lookup f_l_places = some ⟨oc_l_places, od_l_places, .func (PySem.W.fnOf "_law_places" "_law_places" (defArgs s_l_places) (defBody s_l_places) (defScope s_l_places) .none kV_l_places dc_l_places pm_l_places an_l_places cd_l_places ct_l_places), sl_l_places⟩)
    (c_l_places : PySem.W.codeIn K cd_l_places "_law_places" = true)
    (k_l_places : PySem.W.keepIn K (.ref f_l_places) = true)
    (a_l_due : PySem.W.nsIn K mainGlobals "_law_due" = some (some (.ref f_l_due)))
    (l_l_due : K.lookup f_l_due = some ⟨oc_l_due, od_l_due, .func (PySem.W.fnOf "_law_due" "_law_due" (defArgs s_l_due) (defBody s_l_due) (defScope s_l_due) .none kV_l_due dc_l_due pm_l_due an_l_due cd_l_due ct_l_due), sl_l_due⟩)
    (c_l_due : PySem.W.codeIn K cd_l_due "_law_due" = true)
    (k_l_due : PySem.W.keepIn K (.ref f_l_due) = true)
    (a_l_drawn : PySem.W.nsIn K mainGlobals "_law_drawn" = some (some (.ref f_l_drawn)))
    (l_l_drawn : K.lookup f_l_drawn = some ⟨oc_l_drawn, od_l_drawn, .func (PySem.W.fnOf "_law_drawn" "_law_drawn" (defArgs s_l_drawn) (defBody s_l_drawn) (defScope s_l_drawn) .none kV_l_drawn dc_l_drawn pm_l_drawn an_l_drawn cd_l_drawn ct_l_drawn), sl_l_drawn⟩)
    (c_l_drawn : PySem.W.codeIn K cd_l_drawn "_law_drawn" = true)
    (k_l_drawn : PySem.W.keepIn K (.ref f_l_drawn) = true)
    (a_l_asked : PySem.W.nsIn K mainGlobals "_law_asked" = some (some (.ref f_l_asked)))
    (l_l_asked : K.lookup f_l_asked = some ⟨oc_l_asked, od_l_asked, .func (PySem.W.fnOf "_law_asked" "_law_asked" (defArgs s_l_asked) (defBody s_l_asked) (defScope s_l_asked) .none kV_l_asked dc_l_asked pm_l_asked an_l_asked cd_l_asked ct_l_asked), sl_l_asked⟩)
    (c_l_asked : PySem.W.codeIn K cd_l_asked "_law_asked" = true)
    (k_l_asked : PySem.W.keepIn K (.ref f_l_asked) = true)
    (a_law : PySem.W.nsIn K mainGlobals "law" = some (some (.ref f_law)))
    (l_law : K.lookup f_law = some ⟨oc_law, od_law, .func (PySem.W.fnOf "law" "law" (defArgs s_law) (defBody s_law) (defScope s_law) .none kV_law dc_law pm_law an_law cd_law ct_law), sl_law⟩)
    (c_law : PySem.W.codeIn K cd_law "law" = true)
    (k_law : PySem.W.keepIn K (.ref f_law) = true) :
    ∃ fd : FuncData, (∀ (s : Shared) (v : Value), BindsTo s fd ⟨[v], []⟩ [("script", v)]) ∧ ∀ base : Heap, K.In base → base.Ns mainGlobals mg → GnOk P w K mg base CX0 6 fa fd ["script"] (sp_law K) := by
  have e := hfa.symm.trans (PySem.W.mg_of X G a_law)
  cases e
  have F_law := fun_mk (st := s_law) l_law c_law k_law
  refine ⟨PySem.W.fnOf "law" "law" (defArgs s_law) (defBody s_law) (defScope s_law) .none kV_law dc_law pm_law an_law cd_law ct_law, fun s v => .of_eq rfl, fun base _ _ => ?_⟩
  have B : Bt mg := ⟨PySem.W.mg_none_of X G z_len, PySem.W.mg_none_of X G z_max, PySem.W.mg_none_of X G z_min, PySem.W.mg_none_of X G z_abs, PySem.W.mg_none_of X G z_divmod, PySem.W.mg_none_of X G z_range, PySem.W.mg_none_of X G z_ord, PySem.W.mg_none_of X G z_isinstance, PySem.W.mg_none_of X G z_int, PySem.W.mg_none_of X G z_str, PySem.W.mg_none_of X G z_bool, PySem.W.mg_none_of X G z_list, PySem.W.mg_none_of X G z_tuple, PySem.W.mg_none_of X G z_dict, PySem.W.mg_none_of X G z_set, PySem.W.mg_none_of X G z_all, PySem.W.mg_none_of X G z_any, PySem.W.mg_none_of X G z_sorted, PySem.W.mg_none_of X G z_enumerate, PySem.W.mg_none_of X G z_zip, PySem.W.mg_none_of X G z_repr, PySem.W.mg_none_of X G z_sum⟩
  have g_PIECE := PySem.W.mg_of X G a_PIECE
  have C_checkpoint : Cal P w K mg base CX0 "checkpoint" 1 ["places", "next_number", "deeds", "g", "spots"] (sp_checkpoint K) := cal_mk X G a_checkpoint l_checkpoint c_checkpoint k_checkpoint (fun _ _ _ _ _ _ us hl => match us, hl with | [_, _, _, _, _], _ => rfl) (fun F => ok_checkpoint F B g_PIECE)
  have C_law_at : Cal P w K mg base CX0 "_law_at" 1 ["script", "k"] (sp_l_at K) := cal_mk X G a_l_at l_l_at c_l_at k_l_at (fun _ _ _ _ _ _ us hl => match us, hl with | [_, _], _ => rfl) (fun F => ok_l_at F B)
  have C_law_pot : Cal P w K mg base CX0 "_law_pot" 1 ["cell"] sp_l_pot := cal_mk X G a_l_pot l_l_pot c_l_pot k_l_pot (fun _ _ _ _ _ _ us hl => match us, hl with | [_], _ => rfl) (fun F => ok_l_pot F B)
  have C_law_take : Cal P w K mg base CX0 "_law_take" 1 ["pot", "many"] sp_l_tk := cal_mk X G a_l_take l_l_take c_l_take k_l_take (fun _ _ _ _ _ _ us hl => match us, hl with | [_, _], _ => rfl) (fun F => ok_l_take F B)
  have C_law_number : Cal P w K mg base CX0 "_law_number" 2 ["pot"] sp_l_number := cal_mk X G a_l_number l_l_number c_l_number k_l_number (fun _ _ _ _ _ _ us hl => match us, hl with | [_], _ => rfl) (fun F => ok_l_number F B C_law_take)
  have C_law_address : Cal P w K mg base CX0 "_law_address" 3 ["pot"] (sp_l_address K) := cal_mk X G a_l_address l_l_address c_l_address k_l_address (fun _ _ _ _ _ _ us hl => match us, hl with | [_], _ => rfl) (fun F => ok_l_address F B C_law_number)
  have C_law_places : Cal P w K mg base CX0 "_law_places" 4 ["pot", "most"] (sp_l_places K) := cal_mk X G a_l_places l_l_places c_l_places k_l_places (fun _ _ _ _ _ _ us hl => match us, hl with | [_, _], _ => rfl) (fun F => ok_l_places F B C_law_address C_law_take C_law_number)
  have C_law_due : Cal P w K mg base CX0 "_law_due" 1 ["places", "behind", "deeds", "g", "where"] (sp_l_due K) := cal_mk X G a_l_due l_l_due c_l_due k_l_due (fun _ _ _ _ _ _ us hl => match us, hl with | [_, _, _, _, _], _ => rfl) (fun F => ok_l_due F B)
  have C_law_drawn : Cal P w K mg base CX0 "_law_drawn" 5 ["pot"] (sp_l_drawn K) := cal_mk X G a_l_drawn l_l_drawn c_l_drawn k_l_drawn (fun _ _ _ _ _ _ us hl => match us, hl with | [_], _ => rfl) (fun F => ok_l_drawn F B C_law_places C_law_address C_law_number)
  have C_law_asked : Cal P w K mg base CX0 "_law_asked" 2 ["pot", "one"] (sp_l_asked K) := cal_mk X G a_l_asked l_l_asked c_l_asked k_l_asked (fun _ _ _ _ _ _ us hl => match us, hl with | [_, _], _ => rfl) (fun F => ok_l_asked F B C_checkpoint C_law_take C_law_due)
  exact ok_law F_law B C_law_pot C_law_drawn C_law_at C_law_asked
theorem walk {l : PySem.W.OpenLaw} {q : Program} {loose : List Str} {XP : (Str → Option Value) → Heap → Prop} {YP : World → Heap → Prop} {d : DefRec} {K : Params → PySem.W.Frag} (hn : l.most = some 63) (hdf : d.params.defaults = [])
    (hY : ∀ (w : World) (h : Heap), YP w h → (K w.params).In h)
    (F : ∀ (w : World) (mg : Str → Option Value) (fa : Addr) (h : Heap), (K w.params).In h → h.Ns mainGlobals mg → mg d.name = some (.ref fa) →
      ∃ fd : FuncData, (∀ (s : Shared) (u : Value), BindsTo s fd ⟨[u], []⟩ [("script", u)]) ∧ ∀ base : Heap, (K w.params).In base → base.Ns mainGlobals mg → GnOk l.prog w (K w.params) mg base CX0 6 fa fd ["script"] (sp_law (K w.params))) :
    PySem.W.WalkO q loose XP YP l.row.toRowW d [] (fun f vs => PySem.call f vs) :=
  gn_walk (n := 63) (k := 6) (x := "script") (CX := fun _ => CX0) (sp := sp_law) hn (by decide) hdf ⟨rfl, by decide, by decide⟩ hY F (fun _ _ a ns hl hS => ⟨a, ns, rfl, hS, hl, fun _ => rfl⟩) fun _ _ _ _ _ z => z
end Cl
open PySem PySem.W PyProof.Rows
set_option maxRecDepth 100000 in
set_option maxHeartbeats 0 in
theorem PySem.Challenge.cw_cleanedlog_k61_checkpoints_holds : PySem.Challenge.rw_cleanedlog_k61_checkpoints.Holds := by
  w_on; o_law; k_head; (case hw => w_witness2)
  k_fill
  refine Cl.walk (l := PySem.Challenge.rw_cleanedlog_k61_checkpoints) rfl rfl (fun w h Y => PySem.W.kIn_of Y) ?F
  case F =>
    intro w mg fa h KX G hmg
    refine' Cl.all_mk KX G hmg ?z_len ?z_max ?z_min ?z_abs ?z_divmod ?z_range ?z_ord ?z_isinstance ?z_int ?z_str ?z_bool ?z_list ?z_tuple ?z_dict ?z_set ?z_all ?z_any ?z_sorted ?z_enumerate ?z_zip ?z_repr ?z_sum ?a_PIECE ?a_checkpoint ?l_checkpoint ?c_checkpoint ?k_checkpoint ?a_l_at ?l_l_at ?c_l_at ?k_l_at ?a_l_pot ?l_l_pot ?c_l_pot ?k_l_pot ?a_l_take ?l_l_take ?c_l_take ?k_l_take ?a_l_number ?l_l_number ?c_l_number ?k_l_number ?a_l_address ?l_l_address ?c_l_address ?k_l_address ?a_l_places ?l_l_places ?c_l_places ?k_l_places ?a_l_due ?l_l_due ?c_l_due ?k_l_due ?a_l_drawn ?l_l_drawn ?c_l_drawn ?k_l_drawn ?a_l_asked ?l_l_asked ?c_l_asked ?k_l_asked ?a_law ?l_law ?c_law ?k_law
    (case z_len => k_is); (case z_max => k_is); (case z_min => k_is); (case z_abs => k_is); (case z_divmod => k_is); (case z_range => k_is); (case z_ord => k_is); (case z_isinstance => k_is); (case z_int => k_is); (case z_str => k_is); (case z_bool => k_is); (case z_list => k_is); (case z_tuple => k_is); (case z_dict => k_is); (case z_set => k_is); (case z_all => k_is); (case z_any => k_is); (case z_sorted => k_is); (case z_enumerate => k_is); (case z_zip => k_is); (case z_repr => k_is); (case z_sum => k_is); (case a_PIECE => k_is); (case a_checkpoint => k_is); (case l_checkpoint => k_is); (case c_checkpoint => k_is); (case k_checkpoint => k_is); (case a_l_at => k_is); (case l_l_at => k_is); (case c_l_at => k_is); (case k_l_at => k_is); (case a_l_pot => k_is); (case l_l_pot => k_is); (case c_l_pot => k_is); (case k_l_pot => k_is); (case a_l_take => k_is); (case l_l_take => k_is); (case c_l_take => k_is); (case k_l_take => k_is); (case a_l_number => k_is); (case l_l_number => k_is); (case c_l_number => k_is); (case k_l_number => k_is); (case a_l_address => k_is); (case l_l_address => k_is); (case c_l_address => k_is); (case k_l_address => k_is); (case a_l_places => k_is); (case l_l_places => k_is); (case c_l_places => k_is); (case k_l_places => k_is); (case a_l_due => k_is); (case l_l_due => k_is); (case c_l_due => k_is); (case k_l_due => k_is); (case a_l_drawn => k_is); (case l_l_drawn => k_is); (case c_l_drawn => k_is); (case k_l_drawn => k_is); (case a_l_asked => k_is); (case l_l_asked => k_is); (case c_l_asked => k_is); (case k_l_asked => k_is); (case a_law => k_is); (case l_law => k_is); (case c_law => k_is); (case k_law => k_is)
